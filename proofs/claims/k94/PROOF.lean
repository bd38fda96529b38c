import PyProof.Rows.All
import Wide.All
import OpenK.AllK
import Wide.FinOn
import KE.KStateDown
import Lean
import HandS.ForMost
import HandS.WordsExc
import HandS.Exc
import HandS.Defaults
import HandS.Head0
import HandS.Head1
import HandS.Head2
import HandS.HeadEnd
import HandS.HeadHook1
import HandS.HeadHook2
import HandS.HeadNt
import HandS.Property
import HandS.ClsMeth
import HandS.IsInst
import PySem.Challenge.RW_netkeep_k94_whole_logs_run_again
import KE.Datum
import HandS.Walk
import HandS.Conv
import HandS.More
import HandS.DictComp
import HandS.DictTup
import HandS.OwnEq
import HandS.Sort
import HandS.SortOrd
import HandS.SortRule
import HandS.SortInts
import HandS.StrMore
import HandS.Wide
import HandS.WideBits
import HandS.WideMore
import HandS.Flow
import HandS.TupAny
import PyProof.Rows.SortShell
import KE.KSortTup
import KE.KOpsOwn
import KE.KDictList
import KE.KEqDict
import HandS.Star
import HandS.TupLen
import PyProof.NeKinds
import PyProof.InstNe
import KE.KDictPairs
import HandS.Keys
import KE.KDictCopyH
import HandS.Text
import HandS.Replace
import KE.GoesMore
import KE.GoesEnum
import PyProof.EnumMake
import HandS.RaiseMore
import HandS.Style
set_option Elab.async false
set_option linter.all false
set_option maxRecDepth 100000
set_option maxHeartbeats 0
namespace Net
open PySem PySem.Spec PyProof.Rows L2
abbrev R : PySem.W.OpenRow := PySem.W.OpenLaw.row PySem.Challenge.rw_netkeep_k94_whole_logs_run_again
def top (i : Nat) : Stmt := PySem.Challenge.pw_netkeep_k94_whole_logs_run_again.main.body.getD i (.Pass ⟨0, 0, 0, 0⟩)

abbrev s_is_integer : Stmt := top 15
abbrev s_is_count : Stmt := top 16
abbrev s_is_letter : Stmt := top 17
abbrev s_is_word : Stmt := top 18
abbrev s_is_list : Stmt := top 19
abbrev s_want_word : Stmt := top 20
abbrev s_is_node : Stmt := top 24
abbrev s_is_tie : Stmt := top 25
abbrev s_want_nodes : Stmt := top 26
abbrev s_want_tie : Stmt := top 27
abbrev s_want_few_ties : Stmt := top 28
abbrev s_want_ties : Stmt := top 29
abbrev s_goals_by : Stmt := top 30
abbrev s_made_store : Stmt := top 32
abbrev s_ends_by : Stmt := top 34
abbrev s_pairs_of : Stmt := top 35
abbrev s_pairs : Stmt := top 36
abbrev s_is_line : Stmt := top 51
abbrev s_is_program : Stmt := top 52
abbrev s_line_at : Stmt := top 55
abbrev s_sizes : Stmt := top 58
abbrev s_is_weaving : Stmt := top 59
abbrev s_want_weaving : Stmt := top 60
abbrev s_spots_in : Stmt := top 61
abbrev s_want_store : Stmt := top 62
abbrev s_played : Stmt := top 63
abbrev s_heard : Stmt := top 64
abbrev s_behind : Stmt := top 65
abbrev s_is_command_line : Stmt := top 74
abbrev s_check_by : Stmt := top 75
abbrev s_is_entry : Stmt := top 76
abbrev s_own_lines : Stmt := top 77
abbrev s_checked_lines : Stmt := top 78
abbrev s_unchecked : Stmt := top 79
abbrev s_how_many_told : Stmt := top 80
abbrev s_entry_at : Stmt := top 81
abbrev s_good_part : Stmt := top 82
abbrev s_law_pot : Stmt := top 85
abbrev s_law_draw : Stmt := top 86
abbrev s_law_pick : Stmt := top 87
abbrev s_law_line : Stmt := top 88
abbrev s_law_told : Stmt := top 89
abbrev s_law_done : Stmt := top 90
abbrev s_law_run : Stmt := top 91
abbrev s_law_row : Stmt := top 92
abbrev s_law_entries : Stmt := top 93
abbrev s_law_flat : Stmt := top 94
abbrev s_law_right : Stmt := top 95
abbrev s_law : Stmt := top 96
abbrev s_Store_init : Stmt := inClass (top 31) 2
abbrev s_Store_nodes : Stmt := inClass (top 31) 3
abbrev s_Store_ties : Stmt := inClass (top 31) 4
abbrev s_Store_put : Stmt := inClass (top 31) 9
abbrev s_Store_strike : Stmt := inClass (top 31) 10
abbrev s_Store_add : Stmt := inClass (top 31) 14
abbrev s_Store_sub : Stmt := inClass (top 31) 15
abbrev s_Store_eq : Stmt := inClass (top 31) 20
abbrev s_Sessions_init : Stmt := inClass (top 53) 3
abbrev s_Log_init : Stmt := inClass (top 83) 0
abbrev s_Log_read : Stmt := inClass (top 83) 1
abbrev s_Log_torn : Stmt := inClass (top 83) 2
abbrev s_Log_lines : Stmt := inClass (top 83) 4
abbrev s_Log_text : Stmt := inClass (top 83) 5
abbrev s_Log_first : Stmt := inClass (top 83) 6
abbrev s_Log_parted : Stmt := inClass (top 83) 7
abbrev s_Log_eq : Stmt := inClass (top 83) 12

abbrev ga (K : PySem.W.Frag) (x : Str) : Addr := He.ga K x
/-- the getter of a property, the def in a staticmethod's record -/
def pg (K : PySem.W.Frag) (C m : Str) : Addr := match PySem.W.recIn K (He.ma K (He.ga K C) m) "property" with
  | some (.ref f :: _) => f
  | _ => 0
def da (x qual : Str) (st : Stmt) (a : PySem.W.Frag → Addr) (dfl : List He.Dv := []) : He5.DefA := { at_ := a, name := x, qual := qual, params := defArgs st, body := defBody st, scope := defScope st, dfl := dfl }

def d_is_integer : He5.DefA := da "is_integer" "is_integer" s_is_integer (fun K => He.fAd K ("is_integer", none))
def d_is_count : He5.DefA := da "is_count" "is_count" s_is_count (fun K => He.fAd K ("is_count", none))
def d_is_letter : He5.DefA := da "is_letter" "is_letter" s_is_letter (fun K => He.fAd K ("is_letter", none))
def d_is_word : He5.DefA := da "is_word" "is_word" s_is_word (fun K => He.fAd K ("is_word", none))
def d_is_list : He5.DefA := da "is_list" "is_list" s_is_list (fun K => He.fAd K ("is_list", none))
def d_want_word : He5.DefA := da "want_word" "want_word" s_want_word (fun K => He.fAd K ("want_word", none))
def d_is_node : He5.DefA := da "is_node" "is_node" s_is_node (fun K => He.fAd K ("is_node", none))
def d_is_tie : He5.DefA := da "is_tie" "is_tie" s_is_tie (fun K => He.fAd K ("is_tie", none))
def d_want_nodes : He5.DefA := da "want_nodes" "want_nodes" s_want_nodes (fun K => He.fAd K ("want_nodes", none))
def d_want_tie : He5.DefA := da "want_tie" "want_tie" s_want_tie (fun K => He.fAd K ("want_tie", none))
def d_want_few_ties : He5.DefA := da "want_few_ties" "want_few_ties" s_want_few_ties (fun K => He.fAd K ("want_few_ties", none))
def d_want_ties : He5.DefA := da "want_ties" "want_ties" s_want_ties (fun K => He.fAd K ("want_ties", none))
def d_goals_by : He5.DefA := da "goals_by" "goals_by" s_goals_by (fun K => He.fAd K ("goals_by", none))
def d_made_store : He5.DefA := da "made_store" "made_store" s_made_store (fun K => He.fAd K ("made_store", none))
def d_ends_by : He5.DefA := da "ends_by" "ends_by" s_ends_by (fun K => He.fAd K ("ends_by", none))
def d_pairs_of : He5.DefA := da "pairs_of" "pairs_of" s_pairs_of (fun K => He.fAd K ("pairs_of", none))
def d_pairs : He5.DefA := da "pairs" "pairs" s_pairs (fun K => He.fAd K ("pairs", none))
def d_is_line : He5.DefA := da "is_line" "is_line" s_is_line (fun K => He.fAd K ("is_line", none))
def d_is_program : He5.DefA := da "is_program" "is_program" s_is_program (fun K => He.fAd K ("is_program", none))
def d_line_at : He5.DefA := da "line_at" "line_at" s_line_at (fun K => He.fAd K ("line_at", none))
def d_sizes : He5.DefA := da "sizes" "sizes" s_sizes (fun K => He.fAd K ("sizes", none))
def d_is_weaving : He5.DefA := da "is_weaving" "is_weaving" s_is_weaving (fun K => He.fAd K ("is_weaving", none))
def d_want_weaving : He5.DefA := da "want_weaving" "want_weaving" s_want_weaving (fun K => He.fAd K ("want_weaving", none))
def d_spots_in : He5.DefA := da "spots_in" "spots_in" s_spots_in (fun K => He.fAd K ("spots_in", none))
def d_want_store : He5.DefA := da "want_store" "want_store" s_want_store (fun K => He.fAd K ("want_store", none))
def d_played : He5.DefA := da "played" "played" s_played (fun K => He.fAd K ("played", none))
def d_heard : He5.DefA := da "heard" "heard" s_heard (fun K => He.fAd K ("heard", none))
def d_behind : He5.DefA := da "behind" "behind" s_behind (fun K => He.fAd K ("behind", none))
def d_is_command_line : He5.DefA := da "is_command_line" "is_command_line" s_is_command_line (fun K => He.fAd K ("is_command_line", none))
def d_check_by : He5.DefA := da "check_by" "check_by" s_check_by (fun K => He.fAd K ("check_by", none))
def d_is_entry : He5.DefA := da "is_entry" "is_entry" s_is_entry (fun K => He.fAd K ("is_entry", none))
def d_own_lines : He5.DefA := da "own_lines" "own_lines" s_own_lines (fun K => He.fAd K ("own_lines", none))
def d_checked_lines : He5.DefA := da "checked_lines" "checked_lines" s_checked_lines (fun K => He.fAd K ("checked_lines", none))
def d_unchecked : He5.DefA := da "unchecked" "unchecked" s_unchecked (fun K => He.fAd K ("unchecked", none))
def d_how_many_told : He5.DefA := da "how_many_told" "how_many_told" s_how_many_told (fun K => He.fAd K ("how_many_told", none))
def d_entry_at : He5.DefA := da "entry_at" "entry_at" s_entry_at (fun K => He.fAd K ("entry_at", none))
def d_good_part : He5.DefA := da "good_part" "good_part" s_good_part (fun K => He.fAd K ("good_part", none))
def d_law_pot : He5.DefA := da "_law_pot" "_law_pot" s_law_pot (fun K => He.fAd K ("_law_pot", none))
def d_law_draw : He5.DefA := da "_law_draw" "_law_draw" s_law_draw (fun K => He.fAd K ("_law_draw", none))
def d_law_pick : He5.DefA := da "_law_pick" "_law_pick" s_law_pick (fun K => He.fAd K ("_law_pick", none))
def d_law_line : He5.DefA := da "_law_line" "_law_line" s_law_line (fun K => He.fAd K ("_law_line", none))
def d_law_told : He5.DefA := da "_law_told" "_law_told" s_law_told (fun K => He.fAd K ("_law_told", none))
def d_law_done : He5.DefA := da "_law_done" "_law_done" s_law_done (fun K => He.fAd K ("_law_done", none))
def d_law_run : He5.DefA := da "_law_run" "_law_run" s_law_run (fun K => He.fAd K ("_law_run", none))
def d_law_row : He5.DefA := da "_law_row" "_law_row" s_law_row (fun K => He.fAd K ("_law_row", none))
def d_law_entries : He5.DefA := da "_law_entries" "_law_entries" s_law_entries (fun K => He.fAd K ("_law_entries", none))
def d_law_flat : He5.DefA := da "_law_flat" "_law_flat" s_law_flat (fun K => He.fAd K ("_law_flat", none))
def d_law_right : He5.DefA := da "_law_right" "_law_right" s_law_right (fun K => He.fAd K ("_law_right", none))
def d_law : He5.DefA := da "law" "law" s_law (fun K => He.fAd K ("law", none))
def d_Store_init : He5.DefA := da "__init__" "Store.__init__" s_Store_init (fun K => He.fAd K ("Store", some "__init__")) [.adr (He.dflAt ("Store", some "__init__") 0)]
def d_Store_nodes : He5.DefA := da "nodes" "Store.nodes" s_Store_nodes (fun K => pg K "Store" "nodes")
def d_Store_ties : He5.DefA := da "ties" "Store.ties" s_Store_ties (fun K => He.fAd K ("Store", some "ties"))
def d_Store_put : He5.DefA := da "put" "Store.put" s_Store_put (fun K => He.fAd K ("Store", some "put"))
def d_Store_strike : He5.DefA := da "strike" "Store.strike" s_Store_strike (fun K => He.fAd K ("Store", some "strike"))
def d_Store_add : He5.DefA := da "__add__" "Store.__add__" s_Store_add (fun K => He.fAd K ("Store", some "__add__"))
def d_Store_sub : He5.DefA := da "__sub__" "Store.__sub__" s_Store_sub (fun K => He.fAd K ("Store", some "__sub__"))
def d_Store_eq : He5.DefA := da "__eq__" "Store.__eq__" s_Store_eq (fun K => He.fAd K ("Store", some "__eq__"))
def d_Sessions_init : He5.DefA := da "__init__" "Sessions.__init__" s_Sessions_init (fun K => He.fAd K ("Sessions", some "__init__"))
def d_Log_init : He5.DefA := da "__init__" "Log.__init__" s_Log_init (fun K => He.fAd K ("Log", some "__init__")) [.adr (He.dflAt ("Log", some "__init__") 0)]
def d_Log_read : He5.DefA := da "read" "Log.read" s_Log_read (fun K => He5.wf K (He.ga K "Log") "staticmethod" "read")
def d_Log_torn : He5.DefA := da "torn" "Log.torn" s_Log_torn (fun K => He5.wf K (He.ga K "Log") "staticmethod" "torn")
def d_Log_lines : He5.DefA := da "lines" "Log.lines" s_Log_lines (fun K => He.fAd K ("Log", some "lines"))
def d_Log_text : He5.DefA := da "text" "Log.text" s_Log_text (fun K => He.fAd K ("Log", some "text"))
def d_Log_first : He5.DefA := da "first" "Log.first" s_Log_first (fun K => He.fAd K ("Log", some "first"))
def d_Log_parted : He5.DefA := da "parted" "Log.parted" s_Log_parted (fun K => He.fAd K ("Log", some "parted"))
def d_Log_eq : He5.DefA := da "__eq__" "Log.__eq__" s_Log_eq (fun K => He.fAd K ("Log", some "__eq__"))
def fnames0 : List Str := ["is_integer", "is_count", "is_letter", "is_word", "is_list", "want_word", "is_node", "is_tie", "want_nodes", "want_tie", "want_few_ties", "want_ties", "goals_by", "made_store", "ends_by", "pairs_of", "pairs", "is_line", "is_program", "line_at"]
def fnames1 : List Str := ["sizes", "is_weaving", "want_weaving", "spots_in", "want_store", "played", "heard", "behind", "is_command_line", "check_by", "is_entry", "own_lines", "checked_lines", "unchecked", "how_many_told", "entry_at", "good_part", "_law_pot", "_law_draw", "_law_pick"]
def fnames2 : List Str := ["_law_line", "_law_told", "_law_done", "_law_run", "_law_row", "_law_entries", "_law_flat", "_law_right", "law", "Store", "Sessions", "Log"]
def fnames : List Str := fnames0 ++ fnames1 ++ fnames2
def mnames : List Str := ["__add__", "__eq__", "__init__", "__sub__", "first", "lines", "nodes", "parted", "put", "read", "strike", "text", "ties", "torn"]
def fn : List He5.DefA := [d_is_integer, d_is_count, d_is_letter, d_is_word, d_is_list, d_want_word, d_is_node, d_is_tie, d_want_nodes, d_want_tie, d_want_few_ties, d_want_ties, d_goals_by, d_made_store, d_ends_by, d_pairs_of, d_pairs, d_is_line, d_is_program, d_line_at, d_sizes, d_is_weaving, d_want_weaving, d_spots_in, d_want_store, d_played, d_heard, d_behind, d_is_command_line, d_check_by, d_is_entry, d_own_lines, d_checked_lines, d_unchecked, d_how_many_told, d_entry_at, d_good_part, d_law_pot, d_law_draw, d_law_pick, d_law_line, d_law_told, d_law_done, d_law_run, d_law_row, d_law_entries, d_law_flat, d_law_right, d_law, d_Store_init, d_Store_nodes, d_Store_ties, d_Store_put, d_Store_strike, d_Store_add, d_Store_sub, d_Store_eq, d_Sessions_init, d_Log_init, d_Log_read, d_Log_torn, d_Log_lines, d_Log_text, d_Log_first, d_Log_parted, d_Log_eq]
def fa : List He.Fa := [.glo "is_integer",
  .glo "is_count",
  .glo "is_letter",
  .glo "is_word",
  .glo "is_list",
  .glo "want_word",
  .glo "is_node",
  .glo "is_tie",
  .glo "want_nodes",
  .glo "want_tie",
  .glo "want_few_ties",
  .glo "want_ties",
  .glo "goals_by",
  .glo "made_store",
  .glo "ends_by",
  .glo "pairs_of",
  .glo "pairs",
  .glo "is_line",
  .glo "is_program",
  .glo "line_at",
  .glo "sizes",
  .glo "is_weaving",
  .glo "want_weaving",
  .glo "spots_in",
  .glo "want_store",
  .glo "played",
  .glo "heard",
  .glo "behind",
  .glo "is_command_line",
  .glo "check_by",
  .glo "is_entry",
  .glo "own_lines",
  .glo "checked_lines",
  .glo "unchecked",
  .glo "how_many_told",
  .glo "entry_at",
  .glo "good_part",
  .glo "_law_pot",
  .glo "_law_draw",
  .glo "_law_pick",
  .glo "_law_line",
  .glo "_law_told",
  .glo "_law_done",
  .glo "_law_run",
  .glo "_law_row",
  .glo "_law_entries",
  .glo "_law_flat",
  .glo "_law_right",
  .glo "law",
  .glo "Store",
  .glo "Sessions",
  .glo "Log",
  .free "isinstance",
  .free "len",
  .free "all",
  .free "any",
  .free "sum",
  .free "sorted",
  .free "dict",
  .free "list",
  .free "tuple",
  .free "enumerate",
  .free "range",
  .free "str",
  .free "int",
  .free "bool",
  .free "max",
  .free "min",
  .free "abs",
  .free "divmod",
  .int "LONGEST_words" 12,
  .int "MOST_NODES" 40,
  .int "MOST_TIES" 400,
  .int "MOST_SIGNS" 6,
  .int "PRIME" 997,
  .int "LONGEST_log" 200,
  .int "MOST_ENTRIES" 300,
  .str "LETTERS" "abcdef",
  .str "ASK" "ask",
  .str "PUT" "put",
  .str "STRIKE" "strike",
  .str "ROW" " !\"#$&'()*+,-./0123456789:;<=>?@ABCDEFGHIJKLMNOPQRSTUVWXYZ[\\]^_`abcdefghijklmnopqrstuvwxyz{|}~",
  .str "BLANK" " ",
  .str "ALL" "all",
  .str "DIGITS" "0123456789",
  .cls "Store",
  .mkr "Store",
  .noat "Store" "own_nodes",
  .noat "Store" "own_ties",
  .noat "Store" "own_goals",
  .cls "Sessions",
  .mkr "Sessions",
  .noat "Sessions" "own_nodes",
  .noat "Sessions" "own_programs",
  .cls "Log",
  .mkr "Log",
  .noat "Log" "own_entries",
  .meth "Store" "ties",
  .meth "Store" "put",
  .meth "Store" "strike",
  .meth "Store" "__add__",
  .meth "Store" "__sub__",
  .meth "Store" "__eq__",
  .meth "Log" "lines",
  .meth "Log" "text",
  .meth "Log" "first",
  .meth "Log" "parted",
  .meth "Log" "__eq__"]

open He in
/-- a property: its record, its getter -/
def propB (K : PySem.W.Frag) (C m : Str) : Bool := eqO (PySem.W.findIn K (.ref (ga K C)) m) (some (some (.ref (ma K (ga K C) m)))) && (eqO (PySem.W.specialIn K (.ref (ma K (ga K C) m)) "__get__") (some (some (.builtin "property.__get__"))) &&
  (decide (PySem.W.takesIn K (.ref (ma K (ga K C) m)) = some true) && (match PySem.W.recIn K (ma K (ga K C) m) "property" with
    | some (.ref _ :: _) => true
    | _ => false)))
open He in
theorem propB_ok {K : PySem.W.Frag} {C m : Str} (h : propB K C m = true) : PropOf K (ga K C) m (ma K (ga K C) m) (pg K C m) := by
  obtain ⟨h1, h⟩ := ba h
  obtain ⟨h2, h⟩ := ba h
  obtain ⟨h3, h4⟩ := ba h
  refine ⟨eqO_ok h1, eqO_ok h2, of_decide_eq_true h3, ?_⟩
  unfold pg
  split at h4
  · rename_i f r e
    exact ⟨r, by rw [e]⟩
  · cases h4
open He in
def readB (K : PySem.W.Frag) (C : Str) : Bool := PySem.W.readsIn K (ga K C) (.type "type") && eqO (PySem.W.specialIn K (.ref (ga K C)) "__getattribute__") (some (some (.builtin "type.__getattribute__")))
open He in
theorem readB_ok {K : PySem.W.Frag} {C : Str} (h : readB K C = true) : ClX.CRead K (ga K C) (.type "type") := by
  obtain ⟨h1, h2⟩ := ba h
  exact ⟨h1, eqO_ok h2⟩
open He in
def cvalB (K : PySem.W.Frag) (C f : Str) (i : Int) : Bool := match PySem.W.findCls K (.ref (ga K C)) (.type "type") f with
  | some (.val (.int j _)) => decide (j = i)
  | _ => false
theorem cvalB_ok {K : PySem.W.Frag} {C f : Str} {i : Int} (h : cvalB K C f i = true) : ∃ u, ClX.CVal K (ga K C) (.type "type") f (.int i) u := by
  unfold cvalB at h
  split at h
  · rename_i j t e
    have ej : j = i := of_decide_eq_true h
    subst ej
    exact ⟨_, e, t, rfl⟩
  · cases h
open He in
def instB (K : PySem.W.Frag) (C : Str) : Bool := eqO (PySem.W.findIn K (.ref (ga K C)) "__class__") (some (some (.builtin "object.__class__"))) && (eqO (PySem.W.specialIn K (.builtin "object.__class__") "__get__") (some (some (.builtin "getset_descriptor.__get__"))) &&
  (decide (PySem.W.takesIn K (.builtin "object.__class__") = some true) && decide (PySem.W.mroIn K (ga K C) (.type "object") = some true)))
open He in
theorem instB_ok {K : PySem.W.Frag} {C : Str} (h : instB K C = true) : PySem.W.findIn K (.ref (ga K C)) "__class__" = some (some (.builtin "object.__class__")) ∧ PySem.W.specialIn K (.builtin "object.__class__") "__get__" = some (some (.builtin "getset_descriptor.__get__")) ∧
    PySem.W.takesIn K (.builtin "object.__class__") = some true ∧ PySem.W.mroIn K (ga K C) (.type "object") = some true := by
  obtain ⟨h1, h⟩ := ba h
  obtain ⟨h2, h⟩ := ba h
  obtain ⟨h3, h4⟩ := ba h
  exact ⟨eqO_ok h1, eqO_ok h2, of_decide_eq_true h3, of_decide_eq_true h4⟩
open He in
/-- == and != of its instances: object's own != , nothing but itself and object above -/
def neB (K : PySem.W.Frag) (C : Str) : Bool := eqO (PySem.W.findIn K (.ref (ga K C)) "__ne__") (some (some (.builtin "object.__ne__")))
open He in
/-- + and - of an instance and a tuple -/
def binB (K : PySem.W.Frag) (C : Str) : Bool := PySem.W.selfFirst K (ga K C) && (eqO (PySem.W.findIn K (.ref (ga K C)) "__radd__") (some none) && (eqO (PySem.W.findIn K (.ref (ga K C)) "__rsub__") (some none) && decide (PySem.W.subIn K (.type "tuple") (.ref (ga K C)) = some false)))
def ex (K : PySem.W.Frag) : Bool := propB K "Store" "nodes" && (He5.wrapB K (ga K "Log") "staticmethod" "staticmethod.__get__" "read" && (He5.wrapB K (ga K "Log") "staticmethod" "staticmethod.__get__" "torn" &&
  (readB K "Log" && (readB K "Sessions" && (cvalB K "Sessions" "MOST_NODES" 8 && (cvalB K "Sessions" "MOST_SESSIONS" 3 && (cvalB K "Sessions" "MOST_LINES" 3 && (instB K "Store" && (instB K "Log" && (neB K "Store" && (neB K "Log" && binB K "Store")))))))))))
/-! ### the Hook -/
def obsN (K : PySem.W.Frag) : He.AlD := ((fa.all fun f => f.ok K) && ((fn.all fun d => d.ok K) && ex K), fn.map fun d => He5.fnA K (d.at_ K))
def valN : He.AlD := (true, fn.map He5.DefA.val)
def SaysN (K : PySem.W.Frag) : Prop := obsN K = valN
/-- the objects that names of the namespace at d stand for -/
def valsAt (g : Addr → Option Obj) (d : Addr) (xs : List Str) : List Addr := xs.flatMap fun x => match PySem.W.nsIn (He.frG g [d]) d x with
  | some (some (.ref a)) => [a]
  | _ => []
/-- what a def, a class, a tuple, a property's or a staticmethod's record names -/
def outs (g : Addr → Option Obj) (as : List Addr) : List Addr := as.flatMap fun a => match g a with
  | some ⟨.type n, _, .fields vs, _⟩ => if n == "property" || n == "staticmethod" then vs.toList.flatMap He.refV else []
  | some ⟨_, _, .func fd, _⟩ => He.refV fd.code ++ He.refV fd.defaults
  | some ⟨_, _, .cls cd, _⟩ => cd.ns :: cd.mro.flatMap He.refV
  | some ⟨_, _, .seq its _, _⟩ => its.toList.flatMap He.refV
  | _ => []
def nss (g : Addr → Option Obj) (as : List Addr) : List Addr := as.flatMap fun a => match g a with
  | some ⟨_, _, .cls cd, _⟩ => [cd.ns]
  | _ => []
def forceL {α : Type} : List Addr → (List Addr → α) → α
  | [], k => k []
  | a :: r, k => HandSHeadRun.frNat a fun a => forceL r fun r => k (a :: r)
theorem forceL_eq {α : Type} : ∀ (l : List Addr) (k : List Addr → α), forceL l k = k l
  | [], k => rfl
  | a :: r, k => by
    unfold forceL
    rw [HandSHeadRun.frNat_eq, forceL_eq r]
def mkK {α : Type} (g : Addr → Option Obj) : List Addr → (PySem.W.Frag → α) → α
  | [], k => k []
  | a :: r, k => match g a with
    | some o => mkK g r fun K => k ((a, o) :: K)
    | none => mkK g r k
theorem mkK_eq {α : Type} (g : Addr → Option Obj) : ∀ (l : List Addr) (k : PySem.W.Frag → α), mkK g l k = k (He.frG g l)
  | [], k => rfl
  | a :: r, k => by
    have e : He.frG g (a :: r) = match g a with
        | some o => (a, o) :: He.frG g r
        | none => He.frG g r := by
      unfold He.frG
      rw [List.filterMap_cons]
      cases g a <;> rfl
    rw [e]
    unfold mkK
    cases h : g a with
    | none => exact mkK_eq g r k
    | some o => exact mkK_eq g r fun K => k ((a, o) :: K)
/-- the addresses that are looked at -/
def asN (g : Addr → Option Obj) : List Addr :=
  forceL (valsAt g mainGlobals fnames) fun fs => forceL (nss g fs) fun ns => forceL (ns.flatMap fun d => valsAt g d mnames) fun ms => forceL (outs g fs) fun o1 => forceL (outs g ms) fun o2 => forceL (outs g (o1 ++ o2)) fun o3 => forceL (outs g o3) fun o4 =>
    [mainGlobals, cStatics] ++ fs ++ ms ++ o1 ++ o2 ++ o3 ++ o4
def obsNG (g : Addr → Option Obj) : He.AlD := forceL (asN g) fun as => mkK g as fun K => obsN K
theorem obsNG_eq (g : Addr → Option Obj) : obsNG g = obsN (He.frG g (asN g)) := by
  unfold obsNG
  rw [forceL_eq, mkK_eq]
def hk : PySem.W.Hook where
  α := He.AlD
  obs := fun s => obsNG s.heap.get?
  val := fun _ => valN
  says := fun _ h => ∃ K : PySem.W.Frag, K.In h ∧ SaysN K
  of := fun _ s e => ⟨_, He.frG_in, (obsNG_eq _).symm.trans e⟩
  keeps := fun _ _ _ ⟨K, hK, c⟩ k => ⟨K, PySem.W.Frag.In.keeps hK k, c⟩
def ob (s : PySem.W.SharedT) : He.AlD := obsNG (HandSHeadRun.getT s)
theorem ob_eq (s : PySem.W.SharedT) : ob s = hk.obs s.abs := by
  have e : HandSHeadRun.getT s = s.abs.heap.get? := funext (HandSHeadRun.getT_eq s)
  show obsNG _ = obsNG _
  rw [e]
theorem SaysN.fact {K : PySem.W.Frag} (c : SaysN K) (i : Nat) {f : He.Fa} (h : fa[i]? = some f := by rfl) : f.ok K = true := by
  have c1 := (He.ba (show ((fa.all fun f => f.ok K) && ((fn.all fun d => d.ok K) && ex K)) = true from congrArg (fun z : He.AlD => z.1) c)).1
  exact List.all_eq_true.mp c1 f (List.mem_of_getElem? h)
theorem SaysN.ex {K : PySem.W.Frag} (c : SaysN K) : ex K = true :=
  (He.ba (He.ba (show ((fa.all fun f => f.ok K) && ((fn.all fun d => d.ok K) && Net.ex K)) = true from congrArg (fun z : He.AlD => z.1) c)).2).2
theorem SaysN.def_ {K : PySem.W.Frag} (c : SaysN K) (i : Nat) {d : He5.DefA} (h : fn[i]? = some d := by rfl) : ∃ fd, FunD K d.name d.qual d.params d.body d.scope (d.dvs K) (d.kws K) (d.at_ K) fd := by
  have c2 := (He.ba (He.ba (show ((fa.all fun f => f.ok K) && ((fn.all fun d => d.ok K) && Net.ex K)) = true from congrArg (fun z : He.AlD => z.1) c)).2).1
  have e : fn.map (fun d => He5.fnA K (d.at_ K)) = fn.map He5.DefA.val := congrArg (fun z : He.AlD => z.2) c
  have e2 : (fn.map fun d => He5.fnA K (d.at_ K))[i]? = (fn.map He5.DefA.val)[i]? := by rw [e]
  rw [List.getElem?_map, List.getElem?_map, h] at e2
  exact He5.DefA.funD (Option.some.inj e2) (List.all_eq_true.mp c2 d (List.mem_of_getElem? h))
/-- all that the defs' proofs lean on -/
structure NT (K : PySem.W.Frag) (mg : Str → Option Value) : Prop where
  says : SaysN K
  at_ : ∃ h : Heap, K.In h ∧ h.Ns mainGlobals mg
section
variable {K : PySem.W.Frag} {mg : Str → Option Value}
theorem NT.glo (T : NT K mg) (i : Nat) {x : Str} (h : fa[i]? = some (.glo x) := by rfl) : mg x = some (.ref (ga K x)) := let ⟨_, X, G⟩ := T.at_; He.glo_ok X G (T.says.fact i h)
theorem NT.free (T : NT K mg) (i : Nat) {x : Str} (h : fa[i]? = some (.free x) := by rfl) : mg x = none := let ⟨_, X, G⟩ := T.at_; He.free_ok X G (T.says.fact i h)
theorem NT.int (T : NT K mg) (i : Nat) {x : Str} {v : Int} (h : fa[i]? = some (.int x v) := by rfl) : ∃ t, mg x = some (.int v t) := let ⟨_, X, G⟩ := T.at_; He.int_ok X G (T.says.fact i h)
theorem NT.str (T : NT K mg) (i : Nat) {x v : Str} (h : fa[i]? = some (.str x v) := by rfl) : ∃ t, mg x = some (.str v t) := let ⟨_, X, G⟩ := T.at_; He.str_ok X G (T.says.fact i h)
theorem NT.cls (T : NT K mg) (i : Nat) {x : Str} (h : fa[i]? = some (.cls x) := by rfl) : Cls K (ga K x) := He.cls_ok (T.says.fact i h)
theorem NT.mkr (T : NT K mg) (i : Nat) {x : Str} (h : fa[i]? = some (.mkr x) := by rfl) : Mk K (ga K x) (He.ma K (ga K x) "__init__") := He.mkr_ok (T.says.fact i h)
theorem NT.noat (T : NT K mg) (i : Nat) {x f : Str} (h : fa[i]? = some (.noat x f) := by rfl) : NoAttr K (ga K x) f := He.noat_ok (T.says.fact i h)
theorem NT.meth (T : NT K mg) (i : Nat) {x m : Str} (h : fa[i]? = some (.meth x m) := by rfl) : Meth K (ga K x) m (He.ma K (ga K x) m) := He.meth_ok (T.says.fact i h)
theorem NT.g_is_integer (T : NT K mg) : mg "is_integer" = some (.ref (ga K "is_integer")) := T.glo 0
theorem NT.g_is_count (T : NT K mg) : mg "is_count" = some (.ref (ga K "is_count")) := T.glo 1
theorem NT.g_is_letter (T : NT K mg) : mg "is_letter" = some (.ref (ga K "is_letter")) := T.glo 2
theorem NT.g_is_word (T : NT K mg) : mg "is_word" = some (.ref (ga K "is_word")) := T.glo 3
theorem NT.g_is_list (T : NT K mg) : mg "is_list" = some (.ref (ga K "is_list")) := T.glo 4
theorem NT.g_want_word (T : NT K mg) : mg "want_word" = some (.ref (ga K "want_word")) := T.glo 5
theorem NT.g_is_node (T : NT K mg) : mg "is_node" = some (.ref (ga K "is_node")) := T.glo 6
theorem NT.g_is_tie (T : NT K mg) : mg "is_tie" = some (.ref (ga K "is_tie")) := T.glo 7
theorem NT.g_want_nodes (T : NT K mg) : mg "want_nodes" = some (.ref (ga K "want_nodes")) := T.glo 8
theorem NT.g_want_tie (T : NT K mg) : mg "want_tie" = some (.ref (ga K "want_tie")) := T.glo 9
theorem NT.g_want_few_ties (T : NT K mg) : mg "want_few_ties" = some (.ref (ga K "want_few_ties")) := T.glo 10
theorem NT.g_want_ties (T : NT K mg) : mg "want_ties" = some (.ref (ga K "want_ties")) := T.glo 11
theorem NT.g_goals_by (T : NT K mg) : mg "goals_by" = some (.ref (ga K "goals_by")) := T.glo 12
theorem NT.g_made_store (T : NT K mg) : mg "made_store" = some (.ref (ga K "made_store")) := T.glo 13
theorem NT.g_ends_by (T : NT K mg) : mg "ends_by" = some (.ref (ga K "ends_by")) := T.glo 14
theorem NT.g_pairs_of (T : NT K mg) : mg "pairs_of" = some (.ref (ga K "pairs_of")) := T.glo 15
theorem NT.g_pairs (T : NT K mg) : mg "pairs" = some (.ref (ga K "pairs")) := T.glo 16
theorem NT.g_is_line (T : NT K mg) : mg "is_line" = some (.ref (ga K "is_line")) := T.glo 17
theorem NT.g_is_program (T : NT K mg) : mg "is_program" = some (.ref (ga K "is_program")) := T.glo 18
theorem NT.g_line_at (T : NT K mg) : mg "line_at" = some (.ref (ga K "line_at")) := T.glo 19
theorem NT.g_sizes (T : NT K mg) : mg "sizes" = some (.ref (ga K "sizes")) := T.glo 20
theorem NT.g_is_weaving (T : NT K mg) : mg "is_weaving" = some (.ref (ga K "is_weaving")) := T.glo 21
theorem NT.g_want_weaving (T : NT K mg) : mg "want_weaving" = some (.ref (ga K "want_weaving")) := T.glo 22
theorem NT.g_spots_in (T : NT K mg) : mg "spots_in" = some (.ref (ga K "spots_in")) := T.glo 23
theorem NT.g_want_store (T : NT K mg) : mg "want_store" = some (.ref (ga K "want_store")) := T.glo 24
theorem NT.g_played (T : NT K mg) : mg "played" = some (.ref (ga K "played")) := T.glo 25
theorem NT.g_heard (T : NT K mg) : mg "heard" = some (.ref (ga K "heard")) := T.glo 26
theorem NT.g_behind (T : NT K mg) : mg "behind" = some (.ref (ga K "behind")) := T.glo 27
theorem NT.g_is_command_line (T : NT K mg) : mg "is_command_line" = some (.ref (ga K "is_command_line")) := T.glo 28
theorem NT.g_check_by (T : NT K mg) : mg "check_by" = some (.ref (ga K "check_by")) := T.glo 29
theorem NT.g_is_entry (T : NT K mg) : mg "is_entry" = some (.ref (ga K "is_entry")) := T.glo 30
theorem NT.g_own_lines (T : NT K mg) : mg "own_lines" = some (.ref (ga K "own_lines")) := T.glo 31
theorem NT.g_checked_lines (T : NT K mg) : mg "checked_lines" = some (.ref (ga K "checked_lines")) := T.glo 32
theorem NT.g_unchecked (T : NT K mg) : mg "unchecked" = some (.ref (ga K "unchecked")) := T.glo 33
theorem NT.g_how_many_told (T : NT K mg) : mg "how_many_told" = some (.ref (ga K "how_many_told")) := T.glo 34
theorem NT.g_entry_at (T : NT K mg) : mg "entry_at" = some (.ref (ga K "entry_at")) := T.glo 35
theorem NT.g_good_part (T : NT K mg) : mg "good_part" = some (.ref (ga K "good_part")) := T.glo 36
theorem NT.g_law_pot (T : NT K mg) : mg "_law_pot" = some (.ref (ga K "_law_pot")) := T.glo 37
theorem NT.g_law_draw (T : NT K mg) : mg "_law_draw" = some (.ref (ga K "_law_draw")) := T.glo 38
theorem NT.g_law_pick (T : NT K mg) : mg "_law_pick" = some (.ref (ga K "_law_pick")) := T.glo 39
theorem NT.g_law_line (T : NT K mg) : mg "_law_line" = some (.ref (ga K "_law_line")) := T.glo 40
theorem NT.g_law_told (T : NT K mg) : mg "_law_told" = some (.ref (ga K "_law_told")) := T.glo 41
theorem NT.g_law_done (T : NT K mg) : mg "_law_done" = some (.ref (ga K "_law_done")) := T.glo 42
theorem NT.g_law_run (T : NT K mg) : mg "_law_run" = some (.ref (ga K "_law_run")) := T.glo 43
theorem NT.g_law_row (T : NT K mg) : mg "_law_row" = some (.ref (ga K "_law_row")) := T.glo 44
theorem NT.g_law_entries (T : NT K mg) : mg "_law_entries" = some (.ref (ga K "_law_entries")) := T.glo 45
theorem NT.g_law_flat (T : NT K mg) : mg "_law_flat" = some (.ref (ga K "_law_flat")) := T.glo 46
theorem NT.g_law_right (T : NT K mg) : mg "_law_right" = some (.ref (ga K "_law_right")) := T.glo 47
theorem NT.g_law (T : NT K mg) : mg "law" = some (.ref (ga K "law")) := T.glo 48
theorem NT.g_Store (T : NT K mg) : mg "Store" = some (.ref (ga K "Store")) := T.glo 49
theorem NT.g_Sessions (T : NT K mg) : mg "Sessions" = some (.ref (ga K "Sessions")) := T.glo 50
theorem NT.g_Log (T : NT K mg) : mg "Log" = some (.ref (ga K "Log")) := T.glo 51
theorem NT.b_isinstance (T : NT K mg) : mg "isinstance" = none := T.free 52
theorem NT.b_len (T : NT K mg) : mg "len" = none := T.free 53
theorem NT.b_all (T : NT K mg) : mg "all" = none := T.free 54
theorem NT.b_any (T : NT K mg) : mg "any" = none := T.free 55
theorem NT.b_sum (T : NT K mg) : mg "sum" = none := T.free 56
theorem NT.b_sorted (T : NT K mg) : mg "sorted" = none := T.free 57
theorem NT.b_dict (T : NT K mg) : mg "dict" = none := T.free 58
theorem NT.b_list (T : NT K mg) : mg "list" = none := T.free 59
theorem NT.b_tuple (T : NT K mg) : mg "tuple" = none := T.free 60
theorem NT.b_enumerate (T : NT K mg) : mg "enumerate" = none := T.free 61
theorem NT.b_range (T : NT K mg) : mg "range" = none := T.free 62
theorem NT.b_str (T : NT K mg) : mg "str" = none := T.free 63
theorem NT.b_int (T : NT K mg) : mg "int" = none := T.free 64
theorem NT.b_bool (T : NT K mg) : mg "bool" = none := T.free 65
theorem NT.b_max (T : NT K mg) : mg "max" = none := T.free 66
theorem NT.b_min (T : NT K mg) : mg "min" = none := T.free 67
theorem NT.b_abs (T : NT K mg) : mg "abs" = none := T.free 68
theorem NT.b_divmod (T : NT K mg) : mg "divmod" = none := T.free 69
theorem NT.i_LONGEST_words (T : NT K mg) : ∃ t, mg "LONGEST_words" = some (.int 12 t) := T.int 70
theorem NT.i_MOST_NODES (T : NT K mg) : ∃ t, mg "MOST_NODES" = some (.int 40 t) := T.int 71
theorem NT.i_MOST_TIES (T : NT K mg) : ∃ t, mg "MOST_TIES" = some (.int 400 t) := T.int 72
theorem NT.i_MOST_SIGNS (T : NT K mg) : ∃ t, mg "MOST_SIGNS" = some (.int 6 t) := T.int 73
theorem NT.i_PRIME (T : NT K mg) : ∃ t, mg "PRIME" = some (.int 997 t) := T.int 74
theorem NT.i_LONGEST_log (T : NT K mg) : ∃ t, mg "LONGEST_log" = some (.int 200 t) := T.int 75
theorem NT.i_MOST_ENTRIES (T : NT K mg) : ∃ t, mg "MOST_ENTRIES" = some (.int 300 t) := T.int 76
theorem NT.x_LETTERS (T : NT K mg) : ∃ t, mg "LETTERS" = some (.str "abcdef" t) := T.str 77
theorem NT.x_ASK (T : NT K mg) : ∃ t, mg "ASK" = some (.str "ask" t) := T.str 78
theorem NT.x_PUT (T : NT K mg) : ∃ t, mg "PUT" = some (.str "put" t) := T.str 79
theorem NT.x_STRIKE (T : NT K mg) : ∃ t, mg "STRIKE" = some (.str "strike" t) := T.str 80
theorem NT.x_ROW (T : NT K mg) : ∃ t, mg "ROW" = some (.str " !\"#$&'()*+,-./0123456789:;<=>?@ABCDEFGHIJKLMNOPQRSTUVWXYZ[\\]^_`abcdefghijklmnopqrstuvwxyz{|}~" t) := T.str 81
theorem NT.x_BLANK (T : NT K mg) : ∃ t, mg "BLANK" = some (.str " " t) := T.str 82
theorem NT.x_ALL (T : NT K mg) : ∃ t, mg "ALL" = some (.str "all" t) := T.str 83
theorem NT.x_DIGITS (T : NT K mg) : ∃ t, mg "DIGITS" = some (.str "0123456789" t) := T.str 84
theorem NT.c_Store (T : NT K mg) : Cls K (ga K "Store") := T.cls 85
theorem NT.k_Store (T : NT K mg) : Mk K (ga K "Store") (He.ma K (ga K "Store") "__init__") := T.mkr 86
theorem NT.n_Store_own_nodes (T : NT K mg) : NoAttr K (ga K "Store") "own_nodes" := T.noat 87
theorem NT.n_Store_own_ties (T : NT K mg) : NoAttr K (ga K "Store") "own_ties" := T.noat 88
theorem NT.n_Store_own_goals (T : NT K mg) : NoAttr K (ga K "Store") "own_goals" := T.noat 89
theorem NT.c_Sessions (T : NT K mg) : Cls K (ga K "Sessions") := T.cls 90
theorem NT.k_Sessions (T : NT K mg) : Mk K (ga K "Sessions") (He.ma K (ga K "Sessions") "__init__") := T.mkr 91
theorem NT.n_Sessions_own_nodes (T : NT K mg) : NoAttr K (ga K "Sessions") "own_nodes" := T.noat 92
theorem NT.n_Sessions_own_programs (T : NT K mg) : NoAttr K (ga K "Sessions") "own_programs" := T.noat 93
theorem NT.c_Log (T : NT K mg) : Cls K (ga K "Log") := T.cls 94
theorem NT.k_Log (T : NT K mg) : Mk K (ga K "Log") (He.ma K (ga K "Log") "__init__") := T.mkr 95
theorem NT.n_Log_own_entries (T : NT K mg) : NoAttr K (ga K "Log") "own_entries" := T.noat 96
theorem NT.m_Store_ties (T : NT K mg) : Meth K (ga K "Store") "ties" (He.ma K (ga K "Store") "ties") := T.meth 97
theorem NT.m_Store_put (T : NT K mg) : Meth K (ga K "Store") "put" (He.ma K (ga K "Store") "put") := T.meth 98
theorem NT.m_Store_strike (T : NT K mg) : Meth K (ga K "Store") "strike" (He.ma K (ga K "Store") "strike") := T.meth 99
theorem NT.m_Store_add (T : NT K mg) : Meth K (ga K "Store") "__add__" (He.ma K (ga K "Store") "__add__") := T.meth 100
theorem NT.m_Store_sub (T : NT K mg) : Meth K (ga K "Store") "__sub__" (He.ma K (ga K "Store") "__sub__") := T.meth 101
theorem NT.m_Store_eq (T : NT K mg) : Meth K (ga K "Store") "__eq__" (He.ma K (ga K "Store") "__eq__") := T.meth 102
theorem NT.m_Log_lines (T : NT K mg) : Meth K (ga K "Log") "lines" (He.ma K (ga K "Log") "lines") := T.meth 103
theorem NT.m_Log_text (T : NT K mg) : Meth K (ga K "Log") "text" (He.ma K (ga K "Log") "text") := T.meth 104
theorem NT.m_Log_first (T : NT K mg) : Meth K (ga K "Log") "first" (He.ma K (ga K "Log") "first") := T.meth 105
theorem NT.m_Log_parted (T : NT K mg) : Meth K (ga K "Log") "parted" (He.ma K (ga K "Log") "parted") := T.meth 106
theorem NT.m_Log_eq (T : NT K mg) : Meth K (ga K "Log") "__eq__" (He.ma K (ga K "Log") "__eq__") := T.meth 107
theorem NT.D_is_integer (T : NT K mg) : ∃ fd, FunD K d_is_integer.name d_is_integer.qual d_is_integer.params d_is_integer.body d_is_integer.scope (d_is_integer.dvs K) (d_is_integer.kws K) (d_is_integer.at_ K) fd := T.says.def_ 0
theorem NT.D_is_count (T : NT K mg) : ∃ fd, FunD K d_is_count.name d_is_count.qual d_is_count.params d_is_count.body d_is_count.scope (d_is_count.dvs K) (d_is_count.kws K) (d_is_count.at_ K) fd := T.says.def_ 1
theorem NT.D_is_letter (T : NT K mg) : ∃ fd, FunD K d_is_letter.name d_is_letter.qual d_is_letter.params d_is_letter.body d_is_letter.scope (d_is_letter.dvs K) (d_is_letter.kws K) (d_is_letter.at_ K) fd := T.says.def_ 2
theorem NT.D_is_word (T : NT K mg) : ∃ fd, FunD K d_is_word.name d_is_word.qual d_is_word.params d_is_word.body d_is_word.scope (d_is_word.dvs K) (d_is_word.kws K) (d_is_word.at_ K) fd := T.says.def_ 3
theorem NT.D_is_list (T : NT K mg) : ∃ fd, FunD K d_is_list.name d_is_list.qual d_is_list.params d_is_list.body d_is_list.scope (d_is_list.dvs K) (d_is_list.kws K) (d_is_list.at_ K) fd := T.says.def_ 4
theorem NT.D_want_word (T : NT K mg) : ∃ fd, FunD K d_want_word.name d_want_word.qual d_want_word.params d_want_word.body d_want_word.scope (d_want_word.dvs K) (d_want_word.kws K) (d_want_word.at_ K) fd := T.says.def_ 5
theorem NT.D_is_node (T : NT K mg) : ∃ fd, FunD K d_is_node.name d_is_node.qual d_is_node.params d_is_node.body d_is_node.scope (d_is_node.dvs K) (d_is_node.kws K) (d_is_node.at_ K) fd := T.says.def_ 6
theorem NT.D_is_tie (T : NT K mg) : ∃ fd, FunD K d_is_tie.name d_is_tie.qual d_is_tie.params d_is_tie.body d_is_tie.scope (d_is_tie.dvs K) (d_is_tie.kws K) (d_is_tie.at_ K) fd := T.says.def_ 7
theorem NT.D_want_nodes (T : NT K mg) : ∃ fd, FunD K d_want_nodes.name d_want_nodes.qual d_want_nodes.params d_want_nodes.body d_want_nodes.scope (d_want_nodes.dvs K) (d_want_nodes.kws K) (d_want_nodes.at_ K) fd := T.says.def_ 8
theorem NT.D_want_tie (T : NT K mg) : ∃ fd, FunD K d_want_tie.name d_want_tie.qual d_want_tie.params d_want_tie.body d_want_tie.scope (d_want_tie.dvs K) (d_want_tie.kws K) (d_want_tie.at_ K) fd := T.says.def_ 9
theorem NT.D_want_few_ties (T : NT K mg) : ∃ fd, FunD K d_want_few_ties.name d_want_few_ties.qual d_want_few_ties.params d_want_few_ties.body d_want_few_ties.scope (d_want_few_ties.dvs K) (d_want_few_ties.kws K) (d_want_few_ties.at_ K) fd := T.says.def_ 10
theorem NT.D_want_ties (T : NT K mg) : ∃ fd, FunD K d_want_ties.name d_want_ties.qual d_want_ties.params d_want_ties.body d_want_ties.scope (d_want_ties.dvs K) (d_want_ties.kws K) (d_want_ties.at_ K) fd := T.says.def_ 11
theorem NT.D_goals_by (T : NT K mg) : ∃ fd, FunD K d_goals_by.name d_goals_by.qual d_goals_by.params d_goals_by.body d_goals_by.scope (d_goals_by.dvs K) (d_goals_by.kws K) (d_goals_by.at_ K) fd := T.says.def_ 12
theorem NT.D_made_store (T : NT K mg) : ∃ fd, FunD K d_made_store.name d_made_store.qual d_made_store.params d_made_store.body d_made_store.scope (d_made_store.dvs K) (d_made_store.kws K) (d_made_store.at_ K) fd := T.says.def_ 13
theorem NT.D_ends_by (T : NT K mg) : ∃ fd, FunD K d_ends_by.name d_ends_by.qual d_ends_by.params d_ends_by.body d_ends_by.scope (d_ends_by.dvs K) (d_ends_by.kws K) (d_ends_by.at_ K) fd := T.says.def_ 14
theorem NT.D_pairs_of (T : NT K mg) : ∃ fd, FunD K d_pairs_of.name d_pairs_of.qual d_pairs_of.params d_pairs_of.body d_pairs_of.scope (d_pairs_of.dvs K) (d_pairs_of.kws K) (d_pairs_of.at_ K) fd := T.says.def_ 15
theorem NT.D_pairs (T : NT K mg) : ∃ fd, FunD K d_pairs.name d_pairs.qual d_pairs.params d_pairs.body d_pairs.scope (d_pairs.dvs K) (d_pairs.kws K) (d_pairs.at_ K) fd := T.says.def_ 16
theorem NT.D_is_line (T : NT K mg) : ∃ fd, FunD K d_is_line.name d_is_line.qual d_is_line.params d_is_line.body d_is_line.scope (d_is_line.dvs K) (d_is_line.kws K) (d_is_line.at_ K) fd := T.says.def_ 17
theorem NT.D_is_program (T : NT K mg) : ∃ fd, FunD K d_is_program.name d_is_program.qual d_is_program.params d_is_program.body d_is_program.scope (d_is_program.dvs K) (d_is_program.kws K) (d_is_program.at_ K) fd := T.says.def_ 18
theorem NT.D_line_at (T : NT K mg) : ∃ fd, FunD K d_line_at.name d_line_at.qual d_line_at.params d_line_at.body d_line_at.scope (d_line_at.dvs K) (d_line_at.kws K) (d_line_at.at_ K) fd := T.says.def_ 19
theorem NT.D_sizes (T : NT K mg) : ∃ fd, FunD K d_sizes.name d_sizes.qual d_sizes.params d_sizes.body d_sizes.scope (d_sizes.dvs K) (d_sizes.kws K) (d_sizes.at_ K) fd := T.says.def_ 20
theorem NT.D_is_weaving (T : NT K mg) : ∃ fd, FunD K d_is_weaving.name d_is_weaving.qual d_is_weaving.params d_is_weaving.body d_is_weaving.scope (d_is_weaving.dvs K) (d_is_weaving.kws K) (d_is_weaving.at_ K) fd := T.says.def_ 21
theorem NT.D_want_weaving (T : NT K mg) : ∃ fd, FunD K d_want_weaving.name d_want_weaving.qual d_want_weaving.params d_want_weaving.body d_want_weaving.scope (d_want_weaving.dvs K) (d_want_weaving.kws K) (d_want_weaving.at_ K) fd := T.says.def_ 22
theorem NT.D_spots_in (T : NT K mg) : ∃ fd, FunD K d_spots_in.name d_spots_in.qual d_spots_in.params d_spots_in.body d_spots_in.scope (d_spots_in.dvs K) (d_spots_in.kws K) (d_spots_in.at_ K) fd := T.says.def_ 23
theorem NT.D_want_store (T : NT K mg) : ∃ fd, FunD K d_want_store.name d_want_store.qual d_want_store.params d_want_store.body d_want_store.scope (d_want_store.dvs K) (d_want_store.kws K) (d_want_store.at_ K) fd := T.says.def_ 24
theorem NT.D_played (T : NT K mg) : ∃ fd, FunD K d_played.name d_played.qual d_played.params d_played.body d_played.scope (d_played.dvs K) (d_played.kws K) (d_played.at_ K) fd := T.says.def_ 25
theorem NT.D_heard (T : NT K mg) : ∃ fd, FunD K d_heard.name d_heard.qual d_heard.params d_heard.body d_heard.scope (d_heard.dvs K) (d_heard.kws K) (d_heard.at_ K) fd := T.says.def_ 26
theorem NT.D_behind (T : NT K mg) : ∃ fd, FunD K d_behind.name d_behind.qual d_behind.params d_behind.body d_behind.scope (d_behind.dvs K) (d_behind.kws K) (d_behind.at_ K) fd := T.says.def_ 27
theorem NT.D_is_command_line (T : NT K mg) : ∃ fd, FunD K d_is_command_line.name d_is_command_line.qual d_is_command_line.params d_is_command_line.body d_is_command_line.scope (d_is_command_line.dvs K) (d_is_command_line.kws K) (d_is_command_line.at_ K) fd := T.says.def_ 28
theorem NT.D_check_by (T : NT K mg) : ∃ fd, FunD K d_check_by.name d_check_by.qual d_check_by.params d_check_by.body d_check_by.scope (d_check_by.dvs K) (d_check_by.kws K) (d_check_by.at_ K) fd := T.says.def_ 29
theorem NT.D_is_entry (T : NT K mg) : ∃ fd, FunD K d_is_entry.name d_is_entry.qual d_is_entry.params d_is_entry.body d_is_entry.scope (d_is_entry.dvs K) (d_is_entry.kws K) (d_is_entry.at_ K) fd := T.says.def_ 30
theorem NT.D_own_lines (T : NT K mg) : ∃ fd, FunD K d_own_lines.name d_own_lines.qual d_own_lines.params d_own_lines.body d_own_lines.scope (d_own_lines.dvs K) (d_own_lines.kws K) (d_own_lines.at_ K) fd := T.says.def_ 31
theorem NT.D_checked_lines (T : NT K mg) : ∃ fd, FunD K d_checked_lines.name d_checked_lines.qual d_checked_lines.params d_checked_lines.body d_checked_lines.scope (d_checked_lines.dvs K) (d_checked_lines.kws K) (d_checked_lines.at_ K) fd := T.says.def_ 32
theorem NT.D_unchecked (T : NT K mg) : ∃ fd, FunD K d_unchecked.name d_unchecked.qual d_unchecked.params d_unchecked.body d_unchecked.scope (d_unchecked.dvs K) (d_unchecked.kws K) (d_unchecked.at_ K) fd := T.says.def_ 33
theorem NT.D_how_many_told (T : NT K mg) : ∃ fd, FunD K d_how_many_told.name d_how_many_told.qual d_how_many_told.params d_how_many_told.body d_how_many_told.scope (d_how_many_told.dvs K) (d_how_many_told.kws K) (d_how_many_told.at_ K) fd := T.says.def_ 34
theorem NT.D_entry_at (T : NT K mg) : ∃ fd, FunD K d_entry_at.name d_entry_at.qual d_entry_at.params d_entry_at.body d_entry_at.scope (d_entry_at.dvs K) (d_entry_at.kws K) (d_entry_at.at_ K) fd := T.says.def_ 35
theorem NT.D_good_part (T : NT K mg) : ∃ fd, FunD K d_good_part.name d_good_part.qual d_good_part.params d_good_part.body d_good_part.scope (d_good_part.dvs K) (d_good_part.kws K) (d_good_part.at_ K) fd := T.says.def_ 36
theorem NT.D_law_pot (T : NT K mg) : ∃ fd, FunD K d_law_pot.name d_law_pot.qual d_law_pot.params d_law_pot.body d_law_pot.scope (d_law_pot.dvs K) (d_law_pot.kws K) (d_law_pot.at_ K) fd := T.says.def_ 37
theorem NT.D_law_draw (T : NT K mg) : ∃ fd, FunD K d_law_draw.name d_law_draw.qual d_law_draw.params d_law_draw.body d_law_draw.scope (d_law_draw.dvs K) (d_law_draw.kws K) (d_law_draw.at_ K) fd := T.says.def_ 38
theorem NT.D_law_pick (T : NT K mg) : ∃ fd, FunD K d_law_pick.name d_law_pick.qual d_law_pick.params d_law_pick.body d_law_pick.scope (d_law_pick.dvs K) (d_law_pick.kws K) (d_law_pick.at_ K) fd := T.says.def_ 39
theorem NT.D_law_line (T : NT K mg) : ∃ fd, FunD K d_law_line.name d_law_line.qual d_law_line.params d_law_line.body d_law_line.scope (d_law_line.dvs K) (d_law_line.kws K) (d_law_line.at_ K) fd := T.says.def_ 40
theorem NT.D_law_told (T : NT K mg) : ∃ fd, FunD K d_law_told.name d_law_told.qual d_law_told.params d_law_told.body d_law_told.scope (d_law_told.dvs K) (d_law_told.kws K) (d_law_told.at_ K) fd := T.says.def_ 41
theorem NT.D_law_done (T : NT K mg) : ∃ fd, FunD K d_law_done.name d_law_done.qual d_law_done.params d_law_done.body d_law_done.scope (d_law_done.dvs K) (d_law_done.kws K) (d_law_done.at_ K) fd := T.says.def_ 42
theorem NT.D_law_run (T : NT K mg) : ∃ fd, FunD K d_law_run.name d_law_run.qual d_law_run.params d_law_run.body d_law_run.scope (d_law_run.dvs K) (d_law_run.kws K) (d_law_run.at_ K) fd := T.says.def_ 43
theorem NT.D_law_row (T : NT K mg) : ∃ fd, FunD K d_law_row.name d_law_row.qual d_law_row.params d_law_row.body d_law_row.scope (d_law_row.dvs K) (d_law_row.kws K) (d_law_row.at_ K) fd := T.says.def_ 44
theorem NT.D_law_entries (T : NT K mg) : ∃ fd, FunD K d_law_entries.name d_law_entries.qual d_law_entries.params d_law_entries.body d_law_entries.scope (d_law_entries.dvs K) (d_law_entries.kws K) (d_law_entries.at_ K) fd := T.says.def_ 45
theorem NT.D_law_flat (T : NT K mg) : ∃ fd, FunD K d_law_flat.name d_law_flat.qual d_law_flat.params d_law_flat.body d_law_flat.scope (d_law_flat.dvs K) (d_law_flat.kws K) (d_law_flat.at_ K) fd := T.says.def_ 46
theorem NT.D_law_right (T : NT K mg) : ∃ fd, FunD K d_law_right.name d_law_right.qual d_law_right.params d_law_right.body d_law_right.scope (d_law_right.dvs K) (d_law_right.kws K) (d_law_right.at_ K) fd := T.says.def_ 47
theorem NT.D_law (T : NT K mg) : ∃ fd, FunD K d_law.name d_law.qual d_law.params d_law.body d_law.scope (d_law.dvs K) (d_law.kws K) (d_law.at_ K) fd := T.says.def_ 48
theorem NT.D_Store_init (T : NT K mg) : ∃ fd, FunD K d_Store_init.name d_Store_init.qual d_Store_init.params d_Store_init.body d_Store_init.scope (d_Store_init.dvs K) (d_Store_init.kws K) (d_Store_init.at_ K) fd := T.says.def_ 49
theorem NT.D_Store_nodes (T : NT K mg) : ∃ fd, FunD K d_Store_nodes.name d_Store_nodes.qual d_Store_nodes.params d_Store_nodes.body d_Store_nodes.scope (d_Store_nodes.dvs K) (d_Store_nodes.kws K) (d_Store_nodes.at_ K) fd := T.says.def_ 50
theorem NT.D_Store_ties (T : NT K mg) : ∃ fd, FunD K d_Store_ties.name d_Store_ties.qual d_Store_ties.params d_Store_ties.body d_Store_ties.scope (d_Store_ties.dvs K) (d_Store_ties.kws K) (d_Store_ties.at_ K) fd := T.says.def_ 51
theorem NT.D_Store_put (T : NT K mg) : ∃ fd, FunD K d_Store_put.name d_Store_put.qual d_Store_put.params d_Store_put.body d_Store_put.scope (d_Store_put.dvs K) (d_Store_put.kws K) (d_Store_put.at_ K) fd := T.says.def_ 52
theorem NT.D_Store_strike (T : NT K mg) : ∃ fd, FunD K d_Store_strike.name d_Store_strike.qual d_Store_strike.params d_Store_strike.body d_Store_strike.scope (d_Store_strike.dvs K) (d_Store_strike.kws K) (d_Store_strike.at_ K) fd := T.says.def_ 53
theorem NT.D_Store_add (T : NT K mg) : ∃ fd, FunD K d_Store_add.name d_Store_add.qual d_Store_add.params d_Store_add.body d_Store_add.scope (d_Store_add.dvs K) (d_Store_add.kws K) (d_Store_add.at_ K) fd := T.says.def_ 54
theorem NT.D_Store_sub (T : NT K mg) : ∃ fd, FunD K d_Store_sub.name d_Store_sub.qual d_Store_sub.params d_Store_sub.body d_Store_sub.scope (d_Store_sub.dvs K) (d_Store_sub.kws K) (d_Store_sub.at_ K) fd := T.says.def_ 55
theorem NT.D_Store_eq (T : NT K mg) : ∃ fd, FunD K d_Store_eq.name d_Store_eq.qual d_Store_eq.params d_Store_eq.body d_Store_eq.scope (d_Store_eq.dvs K) (d_Store_eq.kws K) (d_Store_eq.at_ K) fd := T.says.def_ 56
theorem NT.D_Sessions_init (T : NT K mg) : ∃ fd, FunD K d_Sessions_init.name d_Sessions_init.qual d_Sessions_init.params d_Sessions_init.body d_Sessions_init.scope (d_Sessions_init.dvs K) (d_Sessions_init.kws K) (d_Sessions_init.at_ K) fd := T.says.def_ 57
theorem NT.D_Log_init (T : NT K mg) : ∃ fd, FunD K d_Log_init.name d_Log_init.qual d_Log_init.params d_Log_init.body d_Log_init.scope (d_Log_init.dvs K) (d_Log_init.kws K) (d_Log_init.at_ K) fd := T.says.def_ 58
theorem NT.D_Log_read (T : NT K mg) : ∃ fd, FunD K d_Log_read.name d_Log_read.qual d_Log_read.params d_Log_read.body d_Log_read.scope (d_Log_read.dvs K) (d_Log_read.kws K) (d_Log_read.at_ K) fd := T.says.def_ 59
theorem NT.D_Log_torn (T : NT K mg) : ∃ fd, FunD K d_Log_torn.name d_Log_torn.qual d_Log_torn.params d_Log_torn.body d_Log_torn.scope (d_Log_torn.dvs K) (d_Log_torn.kws K) (d_Log_torn.at_ K) fd := T.says.def_ 60
theorem NT.D_Log_lines (T : NT K mg) : ∃ fd, FunD K d_Log_lines.name d_Log_lines.qual d_Log_lines.params d_Log_lines.body d_Log_lines.scope (d_Log_lines.dvs K) (d_Log_lines.kws K) (d_Log_lines.at_ K) fd := T.says.def_ 61
theorem NT.D_Log_text (T : NT K mg) : ∃ fd, FunD K d_Log_text.name d_Log_text.qual d_Log_text.params d_Log_text.body d_Log_text.scope (d_Log_text.dvs K) (d_Log_text.kws K) (d_Log_text.at_ K) fd := T.says.def_ 62
theorem NT.D_Log_first (T : NT K mg) : ∃ fd, FunD K d_Log_first.name d_Log_first.qual d_Log_first.params d_Log_first.body d_Log_first.scope (d_Log_first.dvs K) (d_Log_first.kws K) (d_Log_first.at_ K) fd := T.says.def_ 63
theorem NT.D_Log_parted (T : NT K mg) : ∃ fd, FunD K d_Log_parted.name d_Log_parted.qual d_Log_parted.params d_Log_parted.body d_Log_parted.scope (d_Log_parted.dvs K) (d_Log_parted.kws K) (d_Log_parted.at_ K) fd := T.says.def_ 64
theorem NT.D_Log_eq (T : NT K mg) : ∃ fd, FunD K d_Log_eq.name d_Log_eq.qual d_Log_eq.params d_Log_eq.body d_Log_eq.scope (d_Log_eq.dvs K) (d_Log_eq.kws K) (d_Log_eq.at_ K) fd := T.says.def_ 65
theorem NT.e_nodes (T : NT K mg) : PropOf K (ga K "Store") "nodes" (He.ma K (ga K "Store") "nodes") (pg K "Store" "nodes") := propB_ok ((He.ba T.says.ex).1)
theorem NT.e_read (T : NT K mg) : PySem.W.findCls K (.ref (ga K "Log")) (.type "type") "read" = some (.get (.builtin "staticmethod.__get__") (.ref (He.ma K (ga K "Log") "read")) .none (.ref (ga K "Log"))) ∧ ∃ rest, PySem.W.recIn K (He.ma K (ga K "Log") "read") "staticmethod" = some (.ref (He5.wf K (ga K "Log") "staticmethod" "read") :: rest) := He5.wrapB_ok ((He.ba (He.ba T.says.ex).2).1)
theorem NT.e_torn (T : NT K mg) : PySem.W.findCls K (.ref (ga K "Log")) (.type "type") "torn" = some (.get (.builtin "staticmethod.__get__") (.ref (He.ma K (ga K "Log") "torn")) .none (.ref (ga K "Log"))) ∧ ∃ rest, PySem.W.recIn K (He.ma K (ga K "Log") "torn") "staticmethod" = some (.ref (He5.wf K (ga K "Log") "staticmethod" "torn") :: rest) := He5.wrapB_ok ((He.ba (He.ba (He.ba T.says.ex).2).2).1)
theorem NT.e_rLog (T : NT K mg) : ClX.CRead K (ga K "Log") (.type "type") := readB_ok ((He.ba (He.ba (He.ba (He.ba T.says.ex).2).2).2).1)
theorem NT.e_rSessions (T : NT K mg) : ClX.CRead K (ga K "Sessions") (.type "type") := readB_ok ((He.ba (He.ba (He.ba (He.ba (He.ba T.says.ex).2).2).2).2).1)
theorem NT.e_mNodes (T : NT K mg) : ∃ u, ClX.CVal K (ga K "Sessions") (.type "type") "MOST_NODES" (.int 8) u := cvalB_ok ((He.ba (He.ba (He.ba (He.ba (He.ba (He.ba T.says.ex).2).2).2).2).2).1)
theorem NT.e_mSessions (T : NT K mg) : ∃ u, ClX.CVal K (ga K "Sessions") (.type "type") "MOST_SESSIONS" (.int 3) u := cvalB_ok ((He.ba (He.ba (He.ba (He.ba (He.ba (He.ba (He.ba T.says.ex).2).2).2).2).2).2).1)
theorem NT.e_mLines (T : NT K mg) : ∃ u, ClX.CVal K (ga K "Sessions") (.type "type") "MOST_LINES" (.int 3) u := cvalB_ok ((He.ba (He.ba (He.ba (He.ba (He.ba (He.ba (He.ba (He.ba T.says.ex).2).2).2).2).2).2).2).1)
theorem NT.e_iStore (T : NT K mg) : PySem.W.findIn K (.ref (ga K "Store")) "__class__" = some (some (.builtin "object.__class__")) ∧ PySem.W.specialIn K (.builtin "object.__class__") "__get__" = some (some (.builtin "getset_descriptor.__get__")) ∧ PySem.W.takesIn K (.builtin "object.__class__") = some true ∧ PySem.W.mroIn K (ga K "Store") (.type "object") = some true := instB_ok ((He.ba (He.ba (He.ba (He.ba (He.ba (He.ba (He.ba (He.ba (He.ba T.says.ex).2).2).2).2).2).2).2).2).1)
theorem NT.e_iLog (T : NT K mg) : PySem.W.findIn K (.ref (ga K "Log")) "__class__" = some (some (.builtin "object.__class__")) ∧ PySem.W.specialIn K (.builtin "object.__class__") "__get__" = some (some (.builtin "getset_descriptor.__get__")) ∧ PySem.W.takesIn K (.builtin "object.__class__") = some true ∧ PySem.W.mroIn K (ga K "Log") (.type "object") = some true := instB_ok ((He.ba (He.ba (He.ba (He.ba (He.ba (He.ba (He.ba (He.ba (He.ba (He.ba T.says.ex).2).2).2).2).2).2).2).2).2).1)
theorem NT.e_nStore (T : NT K mg) : PySem.W.findIn K (.ref (ga K "Store")) "__ne__" = some (some (.builtin "object.__ne__")) := He.eqO_ok ((He.ba (He.ba (He.ba (He.ba (He.ba (He.ba (He.ba (He.ba (He.ba (He.ba (He.ba T.says.ex).2).2).2).2).2).2).2).2).2).2).1)
theorem NT.e_nLog (T : NT K mg) : PySem.W.findIn K (.ref (ga K "Log")) "__ne__" = some (some (.builtin "object.__ne__")) := He.eqO_ok ((He.ba (He.ba (He.ba (He.ba (He.ba (He.ba (He.ba (He.ba (He.ba (He.ba (He.ba (He.ba T.says.ex).2).2).2).2).2).2).2).2).2).2).2).1)
theorem NT.e_bin (T : NT K mg) : binB K "Store" = true := (He.ba (He.ba (He.ba (He.ba (He.ba (He.ba (He.ba (He.ba (He.ba (He.ba (He.ba (He.ba T.says.ex).2).2).2).2).2).2).2).2).2).2).2).2
end
def names0 : List Str := ["_wall", "NetError", "InvalidNodes", "InvalidTies", "InvalidTie", "InvalidWord", "InvalidNumber", "MissingError", "StateError", "LimitError", "TooMany", "LETTERS", "LONGEST_words", "is_integer", "is_count", "is_letter", "is_word", "is_list", "want_word", "MOST_NODES"]
def names1 : List Str := ["MOST_TIES", "is_node", "is_tie", "want_nodes", "want_tie", "want_few_ties", "want_ties", "goals_by", "Store", "made_store", "ends_by", "pairs_of", "pairs", "InvalidPrograms", "InvalidWeaving", "InvalidText", "InvalidCommand", "InvalidEntries", "InvalidEntry", "UnknownSpot"]
def names2 : List Str := ["TooFewNodes", "ASK", "PUT", "STRIKE", "MOST_SIGNS", "is_line", "is_program", "Sessions", "key_of", "line_at", "is_spot", "want_spot", "sizes", "is_weaving", "want_weaving", "spots_in", "want_store", "played", "heard", "behind"]
def names3 : List Str := ["ROW", "BLANK", "ALL", "PRIME", "LONGEST_log", "MOST_ENTRIES", "DIGITS", "is_command_line", "check_by", "is_entry", "own_lines", "checked_lines", "unchecked", "how_many_told", "entry_at", "good_part", "Log", "_law_pot", "_law_draw", "_law_pick"]
def names4 : List Str := ["_law_line", "_law_told", "_law_done", "_law_run", "_law_row", "_law_entries", "_law_flat", "_law_right"]
def names : List Str := names0 ++ names1 ++ names2 ++ names3 ++ names4
end Net
namespace Net
open PySem PySem.Spec PyProof.Rows L2
theorem run (w : World) : HandSHeadRun.RunEq R (PySem.W.view R.prog [96]) hk ob 15000 names w := by
  intro os
  kernel_rfl
end Net
namespace Net
open PySem PySem.Spec PyProof.Rows L2
theorem big : 100000 < sizeLine := by decide
/-! ### lists side by side -/
def All2 {α β : Type} (R : α → β → Prop) : List α → List β → Prop
  | [], [] => True
  | a :: as, b :: bs => R a b ∧ All2 R as bs
  | _, _ => False
namespace All2
variable {α β γ : Type} {R : α → β → Prop}
theorem length : ∀ {as : List α} {bs : List β}, All2 R as bs → as.length = bs.length
  | [], [], _ => rfl
  | _ :: as, _ :: bs, h => congrArg Nat.succ (length h.2)
theorem get : ∀ {as : List α} {bs : List β} {i : Nat} {b : β}, All2 R as bs → bs[i]? = some b → ∃ a, as[i]? = some a ∧ R a b
  | [], [], i, b, _, h => by simp at h
  | a :: as, b' :: bs, 0, b, h, e => by
    simp at e
    subst e
    exact ⟨a, rfl, h.1⟩
  | a :: as, b' :: bs, i + 1, b, h, e => by
    obtain ⟨x, h1, h2⟩ := get (i := i) (b := b) h.2 (by simpa using e)
    exact ⟨x, by simpa using h1, h2⟩
theorem get' : ∀ {as : List α} {bs : List β} {i : Nat} {a : α}, All2 R as bs → as[i]? = some a → ∃ b, bs[i]? = some b ∧ R a b
  | [], [], i, b, _, h => by simp at h
  | a' :: as, b' :: bs, 0, a, h, e => by
    simp at e
    subst e
    exact ⟨b', rfl, h.1⟩
  | a' :: as, b' :: bs, i + 1, a, h, e => by
    obtain ⟨x, h1, h2⟩ := get' (i := i) (a := a) h.2 (by simpa using e)
    exact ⟨x, by simpa using h1, h2⟩
theorem imp {S : α → β → Prop} (k : ∀ a b, R a b → S a b) : ∀ {as : List α} {bs : List β}, All2 R as bs → All2 S as bs
  | [], [], _ => trivial
  | _ :: as, _ :: bs, h => ⟨k _ _ h.1, imp k h.2⟩
theorem append : ∀ {as as' : List α} {bs bs' : List β}, All2 R as bs → All2 R as' bs' → All2 R (as ++ as') (bs ++ bs')
  | [], _, [], _, _, h => h
  | _ :: as, _, _ :: bs, _, h, h' => ⟨h.1, append h.2 h'⟩
theorem one {a : α} {b : β} (h : R a b) : All2 R [a] [b] := ⟨h, trivial⟩
theorem take : ∀ {as : List α} {bs : List β} (n : Nat), All2 R as bs → All2 R (as.take n) (bs.take n)
  | [], [], 0, _ => trivial
  | [], [], _ + 1, _ => trivial
  | _ :: _, _ :: _, 0, _ => trivial
  | _ :: as, _ :: bs, n + 1, h => ⟨h.1, take n h.2⟩
theorem drop : ∀ {as : List α} {bs : List β} (n : Nat), All2 R as bs → All2 R (as.drop n) (bs.drop n)
  | [], [], 0, _ => trivial
  | [], [], _ + 1, _ => trivial
  | _ :: _, _ :: _, 0, h => h
  | _ :: as, _ :: bs, n + 1, h => drop n h.2
theorem set : ∀ {as : List α} {bs : List β} (n : Nat) {a : α} {b : β}, All2 R as bs → R a b → All2 R (as.set n a) (bs.set n b)
  | [], [], _, _, _, _, _ => trivial
  | _ :: _, _ :: _, 0, _, _, h, r => ⟨r, h.2⟩
  | _ :: as, _ :: bs, n + 1, _, _, h, r => ⟨h.1, set n h.2 r⟩
theorem eraseIdx : ∀ {as : List α} {bs : List β} (n : Nat), All2 R as bs → All2 R (as.eraseIdx n) (bs.eraseIdx n)
  | [], [], _, _ => trivial
  | _ :: _, _ :: _, 0, h => h.2
  | _ :: as, _ :: bs, n + 1, h => ⟨h.1, eraseIdx n h.2⟩
theorem mapL {f : γ → α} : ∀ {cs : List γ} {bs : List β}, All2 (fun c b => R (f c) b) cs bs → All2 R (cs.map f) bs
  | [], [], _ => trivial
  | _ :: _, _ :: _, h => ⟨h.1, mapL h.2⟩
theorem of_map {f : β → α} (h : ∀ b, R (f b) b) : ∀ (bs : List β), All2 R (bs.map f) bs
  | [] => trivial
  | b :: bs => ⟨h b, of_map h bs⟩
theorem eq_map {f : β → α} (h : ∀ a b, R a b → a = f b) : ∀ {as : List α} {bs : List β}, All2 R as bs → as = bs.map f
  | [], [], _ => rfl
  | a :: as, b :: bs, r => by
    rw [h a b r.1, eq_map h r.2]
    rfl
theorem of_get : ∀ {as : List α} {bs : List β}, as.length = bs.length → (∀ (i : Nat) (a : α) (b : β), as[i]? = some a → bs[i]? = some b → R a b) → All2 R as bs
  | [], [], _, _ => trivial
  | [], _ :: _, h, _ => by simp at h
  | _ :: _, [], h, _ => by simp at h
  | a :: as, b :: bs, h, k => ⟨k 0 a b rfl rfl, of_get (by simpa using h) fun i x y h1 h2 => k (i + 1) x y (by simpa using h1) (by simpa using h2)⟩
end All2
/-! ### what stands but where N says -/
abbrev Ad := Addr → Prop
def SameN (N : Ad) (H H' : Hp) : Prop := ∀ b o, ¬ N b → H b = some o → H' b = some o
theorem SameN.refl (N : Ad) (H : Hp) : SameN N H H := fun _ _ _ h => h
theorem SameN.trans {N : Ad} {H H1 H2 : Hp} (a : SameN N H H1) (b : SameN N H1 H2) : SameN N H H2 := fun c o n h => b c o n (a c o n h)
theorem SameN.of {N : Ad} {H H' : Hp} (h : Same H H') : SameN N H H' := fun b o _ e => h b o e
theorem SameN.weak {N M : Ad} {H H' : Hp} (h : SameN N H H') (k : ∀ b, N b → M b) : SameN M H H' := fun b o n e => h b o (fun z => n (k b z)) e
theorem _root_.L2.Same.new {H : Hp} {p : Addr} {o : HO} (h : H p = none) : Same H (upd H p o) := fun b u e => by rw [upd_ne (ne_of_none e h)]; exact e
theorem _root_.L2.Same.lay {H H1 : Hp} {p : Addr} {o : HO} (x : Same H H1) (h : H1 p = none) : Same H (L2.upd H1 p o) := x.trans (Same.new h)
theorem SameN.upd {N : Ad} {H : Hp} {p : Addr} {o : HO} (h : N p) : SameN N H (L2.upd H p o) := fun b u n e => by
  rw [upd_ne (fun z => n (by rw [z]; exact h))]
  exact e
theorem SameN.upd' {N : Ad} {H H1 : Hp} {p : Addr} {o : HO} (x : SameN N H H1) (h : N p) : SameN N H (L2.upd H1 p o) := x.trans (SameN.upd h)
/-- no address that N tells is free -/
def Dom (N : Ad) (H : Hp) : Prop := ∀ b, N b → ∃ o, H b = some o
theorem Dom.not {N : Ad} {H : Hp} {p : Addr} (d : Dom N H) (h : H p = none) : ¬ N p := fun n => by
  obtain ⟨o, e⟩ := d p n
  rw [e] at h
  cases h
theorem Dom.same {N : Ad} {H H' : Hp} (d : Dom N H) (s : Same H H') : Dom N H' := fun b n => let ⟨o, e⟩ := d b n; ⟨o, s b o e⟩
theorem Dom.none {H : Hp} : Dom (fun _ => False) H := fun _ n => n.elim
/-- what stands in H -/
abbrev In (H : Hp) : Ad := fun b => ∃ o, H b = some o
theorem In.not {H : Hp} {p : Addr} (h : H p = none) : ¬ In H p := fun ⟨o, e⟩ => by
  rw [e] at h
  cases h
theorem In.not' {H H1 : Hp} {p : Addr} (s : Same H H1) (h : H1 p = none) : ¬ In H p := In.not (s.free h)
/-- p besides -/
abbrev And1 (N : Ad) (p : Addr) : Ad := fun b => N b ∨ b = p
theorem Dom.and1 {N : Ad} {H : Hp} {p : Addr} {o : HO} (d : Dom N H) (h : H p = some o) : Dom (And1 N p) H := fun b n => n.elim (d b) fun e => ⟨o, by rw [e]; exact h⟩
/-! ### data -/
class Rp (α : Type) where
  rp : Ad → Hp → V → α → Prop
  mono : ∀ {N : Ad} {H H' : Hp} {v : V} {a : α}, SameN N H H' → rp N H v a → rp N H' v a
  weak : ∀ {N N' : Ad} {H : Hp} {v : V} {a : α}, (∀ b, N' b → N b) → rp N H v a → rp N' H v a
  fr : ∀ {N N' : Ad} {H : Hp} {v : V} {a : α}, (∀ b, N' b → N b ∨ H b = none) → rp N H v a → rp N' H v a
/-- what stands is not among the new -/
theorem fr_not {N N' : Ad} {H : Hp} {a : Addr} {o : HO} (k : ∀ b, N' b → N b ∨ H b = none) (n : ¬ N a) (h : H a = some o) : ¬ N' a := fun z => (k a z).elim n fun e => by
  rw [h] at e
  cases e
abbrev rp {α : Type} [Rp α] : Ad → Hp → V → α → Prop := Rp.rp
instance : Rp Int where
  rp _ _ v i := v = .int i
  mono _ h := h
  weak _ h := h
  fr _ h := h
instance : Rp Str where
  rp _ _ v x := v = .str x
  mono _ h := h
  weak _ h := h
  fr _ h := h
instance : Rp Bool where
  rp _ _ v b := v = .bl b
  mono _ h := h
  weak _ h := h
  fr _ h := h
/-- a list -/
def LsAt {α : Type} [Rp α] (N : Ad) (H : Hp) (v : V) (l : List α) : Prop := ∃ a xs, v = .ref a ∧ ¬ N a ∧ H a = some (.lst xs) ∧ All2 (rp N H) xs l
instance {α : Type} [Rp α] : Rp (List α) where
  rp := LsAt
  mono s h := let ⟨a, xs, e, n, ha, r⟩ := h; ⟨a, xs, e, n, s _ _ n ha, r.imp fun _ _ q => Rp.mono s q⟩
  weak k h := let ⟨a, xs, e, n, ha, r⟩ := h; ⟨a, xs, e, fun z => n (k _ z), ha, r.imp fun _ _ q => Rp.weak k q⟩
  fr k h := let ⟨a, xs, e, n, ha, r⟩ := h; ⟨a, xs, e, fr_not k n ha, ha, r.imp fun _ _ q => Rp.fr k q⟩
/-- a tuple of any length -/
abbrev Tp := PySem.W.Tup
def TpAt {α : Type} [Rp α] (N : Ad) (H : Hp) (v : V) (l : Tp α) : Prop := ∃ a xs, v = .ref a ∧ ¬ N a ∧ H a = some (.tup xs) ∧ All2 (rp N H) xs l.items
instance {α : Type} [Rp α] : Rp (Tp α) where
  rp := TpAt
  mono s h := let ⟨a, xs, e, n, ha, r⟩ := h; ⟨a, xs, e, n, s _ _ n ha, r.imp fun _ _ q => Rp.mono s q⟩
  weak k h := let ⟨a, xs, e, n, ha, r⟩ := h; ⟨a, xs, e, fun z => n (k _ z), ha, r.imp fun _ _ q => Rp.weak k q⟩
  fr k h := let ⟨a, xs, e, n, ha, r⟩ := h; ⟨a, xs, e, fr_not k n ha, ha, r.imp fun _ _ q => Rp.fr k q⟩
/-- a pair -/
def PrAt {α β : Type} [Rp α] [Rp β] (N : Ad) (H : Hp) (v : V) (l : α × β) : Prop := ∃ a x y, v = .ref a ∧ ¬ N a ∧ H a = some (.tup [x, y]) ∧ rp N H x l.1 ∧ rp N H y l.2
instance {α β : Type} [Rp α] [Rp β] : Rp (α × β) where
  rp := PrAt
  mono s h := let ⟨a, x, y, e, n, ha, r, q⟩ := h; ⟨a, x, y, e, n, s _ _ n ha, Rp.mono s r, Rp.mono s q⟩
  weak k h := let ⟨a, x, y, e, n, ha, r, q⟩ := h; ⟨a, x, y, e, fun z => n (k _ z), ha, Rp.weak k r, Rp.weak k q⟩
  fr k h := let ⟨a, x, y, e, n, ha, r, q⟩ := h; ⟨a, x, y, e, fr_not k n ha, ha, Rp.fr k r, Rp.fr k q⟩
/-- the one or the other -/
instance {α β : Type} [Rp α] [Rp β] : Rp (α ⊕ β) where
  rp N H v s := match s with
    | .inl a => rp N H v a
    | .inr b => rp N H v b
  mono {N H H' v a} s h := by
    cases a with
    | inl a => exact Rp.mono (α := α) s h
    | inr b => exact Rp.mono (α := β) s h
  weak {N N' H v a} k h := by
    cases a with
    | inl a => exact Rp.weak (α := α) k h
    | inr b => exact Rp.weak (α := β) k h
  fr {N N' H v a} k h := by
    cases a with
    | inl a => exact Rp.fr (α := α) k h
    | inr b => exact Rp.fr (α := β) k h
/-- a tie: its letter by its code -/
structure Tie where
  x : Int
  c : Nat
  y : Int
  deriving DecidableEq
abbrev sg (c : Nat) : Str := ⟨#[c]⟩
def Tie.vs (t : Tie) : List V := [.int t.x, .str (sg t.c), .int t.y]
instance : Rp Tie where
  rp N H v t := ∃ a, v = .ref a ∧ ¬ N a ∧ H a = some (.tup t.vs)
  mono s h := let ⟨a, e, n, ha⟩ := h; ⟨a, e, n, s _ _ n ha⟩
  weak k h := let ⟨a, e, n, ha⟩ := h; ⟨a, e, fun z => n (k _ z), ha⟩
  fr k h := let ⟨a, e, n, ha⟩ := h; ⟨a, e, fr_not k n ha, ha⟩
theorem All2.monoR {α : Type} [Rp α] {N : Ad} {H H' : Hp} {xs : List V} {l : List α} (s : SameN N H H') (h : All2 (rp N H) xs l) : All2 (rp N H') xs l := h.imp fun _ _ q => Rp.mono s q
theorem All2.weakR {α : Type} [Rp α] {N N' : Ad} {H : Hp} {xs : List V} {l : List α} (k : ∀ b, N' b → N b) (h : All2 (rp N H) xs l) : All2 (rp N' H) xs l := h.imp fun _ _ q => Rp.weak k q
theorem All2.frR {α : Type} [Rp α] {N N' : Ad} {H : Hp} {xs : List V} {l : List α} (k : ∀ b, N' b → N b ∨ H b = none) (h : All2 (rp N H) xs l) : All2 (rp N' H) xs l := h.imp fun _ _ q => Rp.fr k q
theorem ints_rp {N : Ad} {H : Hp} (l : List Int) : All2 (rp N H) (l.map V.int) l := All2.of_map (f := V.int) (fun _ => rfl) l
theorem strs_rp {N : Ad} {H : Hp} (l : List Str) : All2 (rp N H) (l.map V.str) l := All2.of_map (f := V.str) (fun _ => rfl) l
theorem ints_of {N : Ad} {H : Hp} {xs : List V} {l : List Int} (h : All2 (rp N H) xs l) : xs = l.map V.int := h.eq_map fun _ _ q => q
theorem strs_of {N : Ad} {H : Hp} {xs : List V} {l : List Str} (h : All2 (rp N H) xs l) : xs = l.map V.str := h.eq_map fun _ _ q => q
theorem bls_of {N : Ad} {H : Hp} {xs : List V} {l : List Bool} (h : All2 (rp N H) xs l) : xs = l.map V.bl := h.eq_map fun _ _ q => q
/-! ### data that can be compared -/
class Cm (α : Type) [Rp α] [DecidableEq α] where
  toD : α → PyData
  dp : ∀ {K : PySem.W.Frag} {N : Ad} {H : Hp} {v : V} {a : α}, rp N H v a → Dp K H v (toD a)
  eqv : ∀ a b, PyData.eqv (toD a) (toD b) = decide (a = b)
  plain : ∀ a, (toD a).plain = true
  depth : Nat
  low : ∀ a, (toD a).depth ≤ depth
instance : Cm Int where
  toD := .int
  dp h := by
    cases h
    exact .int _
  eqv a b := by simp only [PyData.eqv]; exact PySem.W.beq_decide a b
  plain _ := rfl
  depth := 0
  low _ := Nat.le_refl _
instance : Cm Str where
  toD := .str
  dp h := by
    cases h
    exact .str _
  eqv a b := by simp only [PyData.eqv]; exact PySem.W.beq_decide a b
  plain _ := rfl
  depth := 0
  low _ := Nat.le_refl _
section
variable {α β : Type} [Rp α] [DecidableEq α] [Cm α] [Rp β] [DecidableEq β] [Cm β]
theorem cm_all {K : PySem.W.Frag} {N : Ad} {H : Hp} : ∀ {xs : List V} {l : List α}, All2 (rp N H) xs l → DpAll K H xs (l.map Cm.toD)
  | [], [], _ => .nil
  | _ :: _, _ :: _, h => .cons (Cm.dp h.1) (cm_all h.2)
theorem cm_eqv : ∀ xs ys : List α, PyData.eqvAll (xs.map Cm.toD) (ys.map Cm.toD) = decide (xs = ys)
  | [], [] => by simp [PyData.eqvAll]
  | [], _ :: _ => by simp [PyData.eqvAll]
  | _ :: _, [] => by simp [PyData.eqvAll]
  | x :: xs, y :: ys => by
    simp only [List.map_cons, PyData.eqvAll]
    rw [Cm.eqv, cm_eqv xs ys, ← Bool.decide_and]
    exact decide_eq_decide.mpr ⟨fun e => by rw [e.1, e.2], fun e => by cases e; exact ⟨rfl, rfl⟩⟩
theorem cm_plain : ∀ xs : List α, PyData.plainAll (xs.map Cm.toD) = true
  | [] => rfl
  | x :: xs => by
    simp only [List.map_cons, PyData.plainAll]
    rw [Cm.plain, cm_plain xs] <;> rfl
theorem cm_low : ∀ xs : List α, PyData.depthAll (xs.map Cm.toD) ≤ Cm.depth α
  | [] => Nat.zero_le _
  | x :: xs => by
    simp only [List.map_cons, PyData.depthAll]
    exact Nat.max_le.mpr ⟨Cm.low x, cm_low xs⟩
instance : Cm (List α) where
  toD l := .list (l.map Cm.toD)
  dp h := by
    obtain ⟨a, xs, rfl, n, ha, r⟩ := h
    exact .lst (.of ha) (cm_all r)
  eqv a b := by simp only [PyData.eqv]; exact cm_eqv a b
  plain a := by simp only [PyData.plain]; exact cm_plain a
  depth := Cm.depth α + 1
  low a := by simp only [PyData.depth]; exact Nat.succ_le_succ (cm_low a)
instance : Cm (Tp α) where
  toD l := .tuple (l.items.map Cm.toD)
  dp h := by
    obtain ⟨a, xs, rfl, n, ha, r⟩ := h
    exact .tup (.of ha) (cm_all r)
  eqv a b := by
    simp only [PyData.eqv]
    rw [cm_eqv]
    exact decide_eq_decide.mpr ⟨fun e => by cases a; cases b; exact congrArg PySem.W.Tup.mk e, fun e => by rw [e]⟩
  plain a := by simp only [PyData.plain]; exact cm_plain a.items
  depth := Cm.depth α + 1
  low a := by simp only [PyData.depth]; exact Nat.succ_le_succ (cm_low a.items)
instance : Cm (α × β) where
  toD p := .tuple [Cm.toD p.1, Cm.toD p.2]
  dp h := by
    obtain ⟨a, x, y, rfl, n, ha, r, q⟩ := h
    exact .tup (.of ha) (.cons (Cm.dp r) (.cons (Cm.dp q) .nil))
  eqv p q := by
    simp only [PyData.eqv, PyData.eqvAll]
    rw [Cm.eqv, Cm.eqv, Bool.and_true, ← Bool.decide_and]
    exact decide_eq_decide.mpr ⟨fun e => Prod.ext e.1 e.2, fun e => by rw [e]; exact ⟨rfl, rfl⟩⟩
  plain p := by simp only [PyData.plain, PyData.plainAll, Cm.plain, Bool.and_self]
  depth := max (Cm.depth α) (Cm.depth β) + 1
  low p := by
    simp only [PyData.depth, PyData.depthAll]
    exact Nat.succ_le_succ (Nat.max_le.mpr ⟨Nat.le_trans (Cm.low p.1) (Nat.le_max_left _ _), Nat.max_le.mpr ⟨Nat.le_trans (Cm.low p.2) (Nat.le_max_right _ _), Nat.zero_le _⟩⟩)
end
/-- an entry of a log: a line, or a tuple of lines -/
abbrev En := Str ⊕ Tp Str
instance : Cm En where
  toD e := match e with
    | .inl x => Cm.toD x
    | .inr t => Cm.toD t
  dp {K N H v a} h := by
    cases a with
    | inl a => exact Cm.dp (α := Str) (N := N) h
    | inr b => exact Cm.dp (α := Tp Str) (N := N) h
  eqv a b := by
    cases a with
    | inl a => cases b with
      | inl b =>
        refine (Cm.eqv a b).trans (decide_eq_decide.mpr ⟨fun e => by rw [e], fun e => Sum.inl.inj e⟩)
      | inr b => exact Eq.symm (decide_eq_false (fun e => nomatch e))
    | inr a => cases b with
      | inl b => exact Eq.symm (decide_eq_false (fun e => nomatch e))
      | inr b =>
        refine (Cm.eqv a b).trans (decide_eq_decide.mpr ⟨fun e => by rw [e], fun e => Sum.inr.inj e⟩)
  plain a := by
    cases a with
    | inl a => exact Cm.plain a
    | inr a => exact Cm.plain a
  depth := 1
  low a := by
    cases a with
    | inl a => exact Nat.zero_le _
    | inr a => exact Cm.low a
theorem sg_inj {a b : Nat} (h : sg a = sg b) : a = b := by
  have e := congrArg (fun z : Str => z.cps.toList) h
  simpa using e
instance : Cm Tie where
  toD t := .tuple [.int t.x, .str (sg t.c), .int t.y]
  dp h := by
    obtain ⟨a, rfl, n, ha⟩ := h
    exact .tup (.of ha) (.cons (.int _) (.cons (.str _) (.cons (.int _) .nil)))
  eqv a b := by
    simp only [PyData.eqv, PyData.eqvAll]
    rw [PySem.W.beq_decide, PySem.W.beq_decide, PySem.W.beq_decide, Bool.and_true, ← Bool.decide_and, ← Bool.decide_and]
    exact decide_eq_decide.mpr ⟨fun e => by
      obtain ⟨x, c, y⟩ := a
      obtain ⟨x', c', y'⟩ := b
      obtain ⟨e1, e2, e3⟩ := e
      have e4 := sg_inj e2
      subst e1
      subst e3
      subst e4
      rfl, fun e => by rw [e]; exact ⟨rfl, rfl, rfl⟩⟩
  plain _ := rfl
  depth := 1
  low _ := by simp only [PyData.depth, PyData.depthAll]; decide
/-- == and != of data -/
def rEqC (α : Type) [Rp α] [DecidableEq α] : R2 := fun x y H Q => ∃ (N M : Ad) (a b : α), rp N H x a ∧ rp M H y b ∧ Q (.bl (decide (a = b))) H
def rNeC (α : Type) [Rp α] [DecidableEq α] : R2 := fun x y H Q => ∃ (N M : Ad) (a b : α), rp N H x a ∧ rp M H y b ∧ Q (.bl (!decide (a = b))) H
section
variable {X : Cx} {α : Type} [Rp α] [DecidableEq α] [Cm α]
theorem cm_room {d e : PyData} {A : Around} (h : d.depth ≤ Cm.depth α) (hd : Cm.depth α ≤ 60) (hu : A.units + 64 < cLine) : A.units + min d.depth e.depth < cLine := by
  have : min d.depth e.depth ≤ d.depth := Nat.min_le_left _ _
  omega
theorem op_eqC (hu : X.A.units + 64 < cLine) (hd : Cm.depth α ≤ 60 := by decide) : OpR X (compareOp .Eq) (rEqC α) := by
  intro pins s σ H x y v u Q I rx ry h
  obtain ⟨N, M, a, b, ha, hb, q⟩ := h
  obtain ⟨as, r1⟩ := Dp.reads I _ x v (Cm.dp ha) rx
  obtain ⟨bs, r2⟩ := Dp.reads I _ y u (Cm.dp hb) ry
  exact SeqAt.eq_plain r1 r2 (Cm.plain a) (Cm.plain b) (cm_room (α := α) (Cm.low a) hd hu) ⟨.bl _, H, I, rfl, by rw [Cm.eqv]; exact q⟩
theorem op_neC (hu : X.A.units + 64 < cLine) (hd : Cm.depth α ≤ 60 := by decide) : OpR X (compareOp .NotEq) (rNeC α) := by
  intro pins s σ H x y v u Q I rx ry h
  obtain ⟨N, M, a, b, ha, hb, q⟩ := h
  obtain ⟨as, r1⟩ := Dp.reads I _ x v (Cm.dp ha) rx
  obtain ⟨bs, r2⟩ := Dp.reads I _ y u (Cm.dp hb) ry
  exact SeqAt.ne_plain r1 r2 (Cm.plain a) (Cm.plain b) (cm_room (α := α) (Cm.low a) hd hu) ⟨.bl _, H, I, rfl, by rw [Cm.eqv]; exact q⟩
end
end Net
namespace Net
open PySem PySem.Spec PyProof.Rows L2
/-! ### a def that keeps its promise, ready to be called -/
structure Cal (P : Program) (w : World) (K : PySem.W.Frag) (mg : Str → Option Value) (base : Heap) (f : Addr) (k : Nat) (ps : List Str) (sp : Sp) : Prop where
  ex : ∃ fd, FnOk P w K mg base CX0 k f fd ps sp ∧ Binds K fd ps []
  kp : PySem.W.keepIn K (.ref f) = true
section
variable {P : Program} {w : World} {K : PySem.W.Frag} {mg : Str → Option Value} {base : Heap} {x qual : Str} {st : Stmt} {dvs : List V} {f : Addr} {fd : FuncData} {N ps : List Str} {k j : Nat} {sp : Sp}
theorem Cal.mono (F : Cal P w K mg base f j ps sp) (h : j ≤ k) : Cal P w K mg base f k ps sp := let ⟨fd, F1, b⟩ := F.ex; ⟨⟨fd, F1.mono h, b⟩, F.kp⟩
/-- a def of the text, by its body -/
theorem Cal.of (F : FunD K x qual (defArgs st) (defBody st) (defScope st) dvs [] f fd) (hb : Binds K fd ps []) (S : FnScope N ps (defScope st)) (len : ∀ vs H Q E, sp vs H Q E → vs.length = ps.length)
    (hbody : ∀ (cdv : Value) (A : Around) (outer : List Env) (s : Shared) (H : Hp) (vs : List V) (Q : VK) (E : XK), Room k (A.deeper (envOfC qual (defScope st) s.heap.objs.size f cdv)) → sp vs H Q E →
      ∃ t, PSs (cxOf CX0 P w K mg base N qual (defScope st) f cdv A outer s H E).nox (defBody st) t ∧ t { nx := fun _ H' => Q .non H', rt := Q } (start N vs) H) : Cal P w K mg base f (k + 1) ps sp := by
  refine ⟨⟨fd, F.ok S len fun cdv A outer s H vs Q E hr h => ?_, hb⟩, F.kp⟩
  obtain ⟨t, h1, h2⟩ := hbody cdv A outer s H vs Q E hr h
  exact ⟨t, h1.nox, h2⟩
end
section
variable {X : Cx} {k : Nat} {f C : Addr} {ps : List Str} {sp : Sp} {x m : Str} {p pos apos : Pos} {e o : Expr} {es : List Expr} {ta : TE} {t : TA}
/-- f(e, ..) -/
theorem pe_f (F : Cal X.prog X.w X.K X.mg X.base f k ps sp) (hm : X.mg x = some (.ref f)) (hr : Room k X.A) (ha : PA X (e :: es) t) (hg : Gl X x := by rfl) (hdb : (x == ("__debug__" : Str)) = false := by decide)
    (he : starEach (e :: es) X.env = (false, eval e X.env) :: starEach es X.env := by rfl) (hpl : (backTo pos (starEach es X.env)).any (·.1) = false := by rfl) : PE X (.Call (.Name x p) (e :: es) [] pos) (tCall sp [] E0 t) := by
  obtain ⟨fd, F1, b⟩ := F.ex
  exact pe_call F1 hr hg hm F.kp b .nil pass0 ha hdb he hpl
/-- o.m(e, ..) -/
theorem pe_mt {pl : Sem Bool} (F : Cal X.prog X.w X.K X.mg X.base f k ps sp) (c : Cls X.K C) (hm : Meth X.K C m f) (hr : Room k X.A) (ho : PE X o ta) (ha : PA X (e :: es) t)
    (hst : starEach (e :: es) X.env = (false, eval e X.env) :: starEach es X.env := by rfl) (hpl : (backTo pos (starEach es X.env)).any (·.1) = false := by rfl)
    (ht : eval (.Call (.Attribute o m apos) (e :: es) [] pos) X.env = (do
      let ov ← eval o X.env
      standAt apos.atName
      let (f, first) ← holding [ov] (getMethod ov m pl)
      callWith pos f first (backTo pos (starEach (e :: es) X.env)) (backToKw pos (keywordEach [] X.env))) := by rfl) : PE X (.Call (.Attribute o m apos) (e :: es) [] pos) (tMeth C m sp [] E0 ta t) := by
  obtain ⟨fd, F1, b⟩ := F.ex
  exact pe_meth ho c hm F1 hr b .nil pass0 ha hst hpl ht
/-- o.m() -/
theorem pe_mt0 {pl : Sem Bool} (F : Cal X.prog X.w X.K X.mg X.base f k ps sp) (c : Cls X.K C) (hm : Meth X.K C m f) (hr : Room k X.A) (ho : PE X o ta)
    (ht : eval (.Call (.Attribute o m apos) [] [] pos) X.env = (do
      let ov ← eval o X.env
      standAt apos.atName
      let (f, first) ← holding [ov] (getMethod ov m pl)
      callWith pos f first (backTo pos (starEach [] X.env)) (backToKw pos (keywordEach [] X.env))) := by rfl) : PE X (.Call (.Attribute o m apos) [] [] pos) (tMeth C m sp [] E0 ta tNil) := by
  obtain ⟨fd, F1, b⟩ := F.ex
  exact pe_meth0 ho c hm F1 hr b .nil pass0 ht
/-- C(e, ..) -/
theorem pe_mk (M : Mk X.K C f) (F : Cal X.prog X.w X.K X.mg X.base f k ps sp) (hm : X.mg x = some (.ref C)) (hr : Room (k + 1) X.A) (ha : PA X (e :: es) t) (hg : Gl X x := by rfl) (hdb : (x == ("__debug__" : Str)) = false := by decide)
    (he : starEach (e :: es) X.env = (false, eval e X.env) :: starEach es X.env := by rfl) (hpl : (backTo pos (starEach es X.env)).any (·.1) = false := by rfl) : PE X (.Call (.Name x p) (e :: es) [] pos) (tMake C sp [] E0 t) := by
  obtain ⟨fd, F1, b⟩ := F.ex
  exact pe_make M F1 hr hg hm b .nil pass0 ha hdb he hpl
/-- e.f, a property -/
theorem pe_pr {q : Addr} (F : Cal X.prog X.w X.K X.mg X.base f k ps sp) (c : Cls X.K C) (hp : PropOf X.K C m q f) (hr : Room (k + 1) X.A) (he : PE X e ta)
    (hab : attributeBase e m X.env (eval e X.env) = eval e X.env := by rfl) : PE X (.Attribute e m pos) (tProp C sp [] E0 ta) := by
  obtain ⟨fd, F1, b⟩ := F.ex
  exact pe_prop he c hp F1 hr b .nil pass0 hab
end
/-! ### what is built in, by its name -/
section
variable {X : Cx} {x : Str} {p pos : Pos} {e : Expr} {es : List Expr} {t : TA} {id Ty : String} {r : List V → Hp → VK → Prop}
theorem pe_b (hc : CallR X (.builtin id) r) (hm : X.mg x = none) (ha : PA X (e :: es) t) (hv : bootBuiltins x = some (.builtin id) := by decide +kernel) (hg : Gl X x := by rfl) (hn : x ≠ "__name__" := by decide) (hdb : (x == ("__debug__" : Str)) = false := by decide)
    (he : starEach (e :: es) X.env = (false, eval e X.env) :: starEach es X.env := by rfl) (hpl : (backTo pos (starEach es X.env)).any (·.1) = false := by rfl) : PE X (.Call (.Name x p) (e :: es) [] pos) (tCB r t) := pe_callB hc hg hm hv ha hn hdb he hpl
theorem pe_t (hc : CallR X (.type Ty) r) (hm : X.mg x = none) (ha : PA X (e :: es) t) (hv : bootBuiltins x = some (.type Ty) := by decide +kernel) (hg : Gl X x := by rfl) (hn : x ≠ "__name__" := by decide) (hdb : (x == ("__debug__" : Str)) = false := by decide)
    (he : starEach (e :: es) X.env = (false, eval e X.env) :: starEach es X.env := by rfl) (hpl : (backTo pos (starEach es X.env)).any (·.1) = false := by rfl) : PE X (.Call (.Name x p) (e :: es) [] pos) (tCB r t) := pe_callTy hc hg hm hv ha hn hdb he hpl
/-- a built-in class as a value -/
theorem pe_ty (Ty : String) (hm : X.mg x = none) (hv : bootBuiltins x = some (.type Ty) := by decide +kernel) (hg : Gl X x := by rfl) (hn : x ≠ "__name__" := by decide) (hd : (x == ("__debug__" : Str)) = false := by decide) : PE X (.Name x pos) (tC (.ty Ty)) := pe_bltn hg hm hv rfl hn hd
/-- a constant of the module: a number, a text, a class -/
theorem pe_ci {i : Int} (hm : ∃ t, X.mg x = some (.int i t)) (hg : Gl X x := by rfl) (hd : (x == ("__debug__" : Str)) = false := by decide) : PE X (.Name x pos) (tC (.int i)) := let ⟨t, h⟩ := hm; pe_glob hg h ⟨t, rfl⟩ hd
theorem pe_cs {i : Str} (hm : ∃ t, X.mg x = some (.str i t)) (hg : Gl X x := by rfl) (hd : (x == ("__debug__" : Str)) = false := by decide) : PE X (.Name x pos) (tC (.str i)) := let ⟨t, h⟩ := hm; pe_glob hg h ⟨t, rfl⟩ hd
theorem pe_cc {C : Addr} (hm : X.mg x = some (.ref C)) (hg : Gl X x := by rfl) (hd : (x == ("__debug__" : Str)) = false := by decide) : PE X (.Name x pos) (tC (.ref C)) := pe_glob hg hm rfl hd
end
/-! ### isinstance -/
theorem callR_imp {X : Cx} {f : Value} {r r' : List V → Hp → VK → Prop} (h : CallR X f r) (k : ∀ xs H Q, r' xs H Q → r xs H Q) : CallR X f r' := fun pins s σ H xs us Q I v q => h pins s σ H xs us Q I v (k xs H Q q)
theorem opR_imp {X : Cx} {f : Value → Value → Sem Value} {r r' : R2} (h : OpR X f r) (k : ∀ x y H Q, r' x y H Q → r x y H Q) : OpR X f r' := fun pins s σ H x y v u Q I rx ry q => h pins s σ H x y v u Q I rx ry (k x y H Q q)
/-- isinstance(x, T): b is the answer for x's type t -/
def rIs (K : PySem.W.Frag) (T : String) : List V → Hp → VK → Prop := fun xs H Q => ∃ (x : V) (t : String) (b : Bool), xs = [x, .ty T] ∧ TyX K H x (.type t) ∧ kitB t T = some b ∧ Q (.bl b) H
theorem cr_is {X : Cx} (T : String) : CallR X (.builtin "isinstance") (rIs X.K T) := callR_imp call_isi fun xs H Q ⟨x, t, b, e, h1, h2, h3⟩ => ⟨x, .ty T, _, _, b, e, .ty T, h1, kit_ty h2, h3⟩
/-- isinstance(x, (T, U)) -/
def rIs2 (K : PySem.W.Frag) (T U : String) : List V → Hp → VK → Prop := fun xs H Q => ∃ (x : V) (tp : Addr) (t : String) (b c : Bool), xs = [x, .ref tp] ∧ H tp = some (.tup [.ty T, .ty U]) ∧ TyX K H x (.type t) ∧ kitB t T = some b ∧ kitB t U = some c ∧ Q (.bl (b || c)) H
theorem cr_is2 {X : Cx} (T U : String) : CallR X (.builtin "isinstance") (rIs2 X.K T U) := callR_imp call_isiT fun xs H Q ⟨x, tp, t, b, c, e, h0, h1, h2, h3, h4⟩ => by
  refine ⟨x, tp, [.ty T, .ty U], _, [.type T, .type U], (b || c), e, h0, .cons (.ty T) (.cons (.ty U) .nil), h1, ?_, h4⟩
  refine kitAny_cons (kit_ty h2) (fun hb => ?_) fun hb => by rw [hb]; rfl
  subst hb
  refine kitAny_cons (kit_ty h3) (fun hc => ?_) fun hc => by rw [hc]; rfl
  subst hc
  exact kitAny_nil
theorem tyX_lst {K : PySem.W.Frag} {H : Hp} {a : Addr} {xs : List V} (h : H a = some (.lst xs)) : TyX K H (.ref a) (.type "list") := .base (.lst h)
theorem tyX_tup {K : PySem.W.Frag} {H : Hp} {a : Addr} {xs : List V} (h : H a = some (.tup xs)) : TyX K H (.ref a) (.type "tuple") := .base (.tup h)
/-! ### comprehensions whose turns only make objects -/
theorem take_succ' {α : Type} {l : List α} {i : Nat} {x : α} (h : l[i]? = some x) : l.take (i + 1) = l.take i ++ [x] := by
  rw [List.take_add_one, h]
  rfl
theorem wipe1 (σ : L2.St) (i : Nat) (v : Option V) : wipe ((wipe σ [i]).set i v) [i] = wipe σ [i] := by
  show (((σ.set i none).set i v).set i none) = σ.set i none
  rw [List.set_set, List.set_set]
section
variable {β : Type} [Rp β] {J : It} {n : Nat} {G : Hp → Prop} {Y : Nat → Hp → V → Hp → Prop} {g : TG} {tt : TT} {te : TE} {vs : List Nat} {σ : L2.St} {H1 : Hp} {D : Addr} {Qd : Hp → Prop}
/-- with tests: l tells at each turn what is kept -/
theorem lc_rpF (w : Walk J n G Y) (l : List (Option β)) (hn : l.length = n) (hz : n ≤ sizeLine) (N : Ad) (hD : H1 D = none) (hG : ∀ H, Same H1 H → G H) (hY : ∀ i H x H', Y i H x H' → Same H H')
    (step : ∀ (j : Nat) (o : Option β) (x : V) (H H' : Hp) (K1 : V → Hp → Prop) (K2 : Hp → Prop), l[j]? = some o → Same H1 H → (∃ acc, H D = some (.lst acc)) → Y j H x H' → (∀ b, o = some b → ∀ y H4, Same H' H4 → rp (And1 N D) H4 y b → K1 y H4) → (o = none → ∀ H4, Same H' H4 → K2 H4) →
      g x (wipe σ vs) H' fun σ2 H2 => wipe σ2 vs = wipe σ vs ∧ tt σ2 H2 fun c H3 => if c = true then te σ2 H3 K1 else K2 H3)
    (hd : ∀ H acc, Same H1 H → H D = some (.lst acc) → All2 (rp (And1 N D) H) acc (l.filterMap id) → Qd H) :
    ∃ W : Nat → Nat → Hp → Prop, (∃ m, W 0 m (upd H1 D (.lst []))) ∧ ∀ i m H, W i m H →
      (J.stop i H ∧ Qd H) ∨ (J.go i H ∧ ∃ Nx : Hp → Prop, (∀ H', Nx H' → ∃ m', m' < m ∧ W (i + 1) m' H') ∧ ∀ x H', J.yld i H x H' → g x (wipe σ vs) H' fun σ2 H2 => wipe σ2 vs = wipe σ vs ∧ tt σ2 H2 fun b H3 =>
        if b = true then te σ2 H3 fun y H4 => ∃ acc, H4 D = some (.lst acc) ∧ acc.length < sizeLine ∧ Nx (upd H4 D (.lst (acc ++ [y]))) else Nx H3) := by
  have up : ∀ {H : Hp} {o : HO}, Same H1 H → Same H1 (upd H D o) := fun s b u e => by
    rw [upd_ne (ne_of_none e hD)]
    exact s b u e
  refine lc_it w (fun j H => Same H1 H ∧ ∃ acc, H D = some (.lst acc) ∧ acc.length ≤ j ∧ All2 (rp (And1 N D) H) acc ((l.take j).filterMap id)) ⟨up (Same.refl _), [], upd_same, Nat.zero_le _, trivial⟩ (fun j H _ p => hG H p.1) (fun j x H H' hj p y => ?_) fun H p => ?_
  · obtain ⟨s1, acc, ha, hlen, r⟩ := p
    obtain ⟨o, ho⟩ : ∃ o, l[j]? = some o := ⟨l[j]'(by omega), List.getElem?_eq_getElem _⟩
    have sy := hY j H x H' y
    refine step j o x H H' (fun y H4 => ∃ acc, H4 D = some (.lst acc) ∧ acc.length < sizeLine ∧ Same H1 (upd H4 D (.lst (acc ++ [y]))) ∧ ∃ acc', (upd H4 D (.lst (acc ++ [y]))) D = some (.lst acc') ∧ acc'.length ≤ j + 1 ∧ All2 (rp (And1 N D) (upd H4 D (.lst (acc ++ [y])))) acc' ((l.take (j + 1)).filterMap id)) _ ho s1 ⟨_, ha⟩ y (fun b e z H4 s4 rz => ?_) (fun e H4 s4 => ?_)
    · subst e
      have s5 : SameN (And1 N D) H (upd H4 D (.lst (acc ++ [z]))) := (SameN.of (sy.trans s4)).upd' (Or.inr rfl)
      refine ⟨acc, s4 _ _ (sy _ _ ha), by omega, up (s1.trans (sy.trans s4)), acc ++ [z], upd_same, by simp; omega, ?_⟩
      rw [take_succ' ho, List.filterMap_append]
      exact (r.monoR s5).append (.one (Rp.mono (SameN.upd (Or.inr rfl)) rz))
    · subst e
      refine ⟨s1.trans (sy.trans s4), acc, s4 _ _ (sy _ _ ha), by omega, ?_⟩
      rw [take_succ' ho, List.filterMap_append]
      simp only [List.filterMap_cons, List.filterMap_nil, id_eq, List.append_nil]
      exact r.monoR (SameN.of (sy.trans s4))
  · obtain ⟨s1, acc, ha, hlen, r⟩ := p
    rw [← hn, List.take_length] at r
    exact hd H acc s1 ha r
/-- without -/
theorem lc_rp (w : Walk J n G Y) (l : List β) (hn : l.length = n) (hz : n ≤ sizeLine) (N : Ad) (hD : H1 D = none) (hG : ∀ H, Same H1 H → G H) (hY : ∀ i H x H', Y i H x H' → Same H H')
    (step : ∀ (j : Nat) (b : β) (x : V) (H H' : Hp) (K1 : V → Hp → Prop), l[j]? = some b → Same H1 H → (∃ acc, H D = some (.lst acc)) → Y j H x H' → (∀ y H4, Same H' H4 → rp (And1 N D) H4 y b → K1 y H4) →
      g x (wipe σ vs) H' fun σ2 H2 => wipe σ2 vs = wipe σ vs ∧ te σ2 H2 K1)
    (hd : ∀ H acc, Same H1 H → H D = some (.lst acc) → All2 (rp (And1 N D) H) acc l → Qd H) :
    ∃ W : Nat → Nat → Hp → Prop, (∃ m, W 0 m (upd H1 D (.lst []))) ∧ ∀ i m H, W i m H →
      (J.stop i H ∧ Qd H) ∨ (J.go i H ∧ ∃ Nx : Hp → Prop, (∀ H', Nx H' → ∃ m', m' < m ∧ W (i + 1) m' H') ∧ ∀ x H', J.yld i H x H' → g x (wipe σ vs) H' fun σ2 H2 => wipe σ2 vs = wipe σ vs ∧ tYes σ2 H2 fun b H3 =>
        if b = true then te σ2 H3 fun y H4 => ∃ acc, H4 D = some (.lst acc) ∧ acc.length < sizeLine ∧ Nx (upd H4 D (.lst (acc ++ [y]))) else Nx H3) := by
  have up : ∀ {H : Hp} {o : HO}, Same H1 H → Same H1 (upd H D o) := fun s b u e => by
    rw [upd_ne (ne_of_none e hD)]
    exact s b u e
  refine lc_it w (fun j H => Same H1 H ∧ ∃ acc, H D = some (.lst acc) ∧ acc.length = j ∧ All2 (rp (And1 N D) H) acc (l.take j)) ⟨up (Same.refl _), [], upd_same, rfl, trivial⟩ (fun j H _ p => hG H p.1) (fun j x H H' hj p y => ?_) fun H p => ?_
  · obtain ⟨s1, acc, ha, hlen, r⟩ := p
    obtain ⟨o, ho⟩ : ∃ o, l[j]? = some o := ⟨l[j]'(by omega), List.getElem?_eq_getElem _⟩
    have sy := hY j H x H' y
    refine step j o x H H' _ ho s1 ⟨_, ha⟩ y fun z H4 s4 rz => ?_
    have s5 : SameN (And1 N D) H (upd H4 D (.lst (acc ++ [z]))) := (SameN.of (sy.trans s4)).upd' (Or.inr rfl)
    refine ⟨acc, s4 _ _ (sy _ _ ha), by omega, up (s1.trans (sy.trans s4)), acc ++ [z], upd_same, by simp; omega, ?_⟩
    rw [take_succ' ho]
    exact (r.monoR s5).append (.one (Rp.mono (SameN.upd (Or.inr rfl)) rz))
  · obtain ⟨s1, acc, ha, hlen, r⟩ := p
    rw [← hn, List.take_length] at r
    exact hd H acc s1 ha r
end
/-- a dict comprehension over what is walked: Pv by the turn and the heap (the new dict at D within) -/
theorem dc_it {J : It} {n : Nat} {G : Hp → Prop} {Y : Nat → Hp → V → Hp → Prop} {g : TG} {tt : TT} {tk tv : TE} {vs : List Nat} {σ : L2.St} {H1 : Hp} {D : Addr} {Qd : Hp → Prop} (w : Walk J n G Y) (Pv : Nat → Hp → Prop) (h0 : Pv 0 (upd H1 D (.dK []))) (hG : ∀ i H, i ≤ n → Pv i H → G H)
    (hs : ∀ i x H H', i < n → Pv i H → Y i H x H' → g x (wipe σ vs) H' fun σ2 H2 => wipe σ2 vs = wipe σ vs ∧ tt σ2 H2 fun b H3 =>
      if b = true then tk σ2 H3 fun y H4 => tv σ2 H4 fun z H5 => ∃ kvs k, y = kV k ∧ H5 D = some (.dK kvs) ∧ kvs.length < sizeLine ∧ Pv (i + 1) (upd H5 D (.dK (putK kvs k z))) else Pv (i + 1) H3) (hd : ∀ H, Pv n H → Qd H) :
    ∃ W : Nat → Nat → Hp → Prop, (∃ m, W 0 m (upd H1 D (.dK []))) ∧ ∀ i m H, W i m H →
      (J.stop i H ∧ Qd H) ∨ (J.go i H ∧ ∃ Nx : Hp → Prop, (∀ H', Nx H' → ∃ m', m' < m ∧ W (i + 1) m' H') ∧ ∀ x H', J.yld i H x H' → g x (wipe σ vs) H' fun σ2 H2 => wipe σ2 vs = wipe σ vs ∧ tt σ2 H2 fun b H3 =>
        if b = true then tk σ2 H3 fun y H4 => tv σ2 H4 fun z H5 => ∃ kvs k, y = kV k ∧ H5 D = some (.dK kvs) ∧ kvs.length < sizeLine ∧ Nx (upd H5 D (.dK (putK kvs k z))) else Nx H3) := by
  refine ⟨fun i m H => m = n - i ∧ i ≤ n ∧ Pv i H, ⟨n, (Nat.sub_zero n).symm, Nat.zero_le n, h0⟩, ?_⟩
  rintro i m H ⟨rfl, hi, p⟩
  have q := hG i H hi p
  rcases Nat.lt_or_ge i n with hlt | hge
  · refine .inr ⟨w.goes i H hlt q, Pv (i + 1), fun H' p' => ⟨n - (i + 1), by omega, rfl, hlt, p'⟩, fun x H' y => hs i x H H' hlt p (w.yields i H x H' hlt q y)⟩
  · obtain rfl : i = n := Nat.le_antisymm hi hge
    exact .inl ⟨w.stops H q, hd H p⟩
/-- a thing is locked for good: it is never written again -/
theorem pss_freeze {X : Cx} {sts : List Stmt} {t : TS} (h : PSs X sts t) : PSs X sts (fun D σ H => ∃ a u, H a = some u ∧ Mut (some u) ∧ ∀ od, t D σ (upd H a (.frz od u))) := ⟨fun pins s σ H D I q => by
  obtain ⟨a, u, ha, mu, q⟩ := q
  obtain ⟨od, I1⟩ := I.lock ha mu
  exact h.run pins s σ _ D I1 (q od)⟩
theorem pe_freeze {X : Cx} {e : Expr} {t : TE} (h : PE X e t) : PE X e (fun σ H Q => ∃ a u, H a = some u ∧ Mut (some u) ∧ ∀ od, t σ (upd H a (.frz od u)) Q) := ⟨fun pins s σ H Q I q => by
  obtain ⟨a, u, ha, mu, q⟩ := q
  obtain ⟨od, I1⟩ := I.lock ha mu
  exact h.run pins s σ _ Q I1 (q od)⟩
theorem ps_freeze {X : Cx} {st : Stmt} {t : TS} (h : PS X st t) : PS X st (fun D σ H => ∃ a u, H a = some u ∧ Mut (some u) ∧ ∀ od, t D σ (upd H a (.frz od u))) := ⟨fun pins s σ H D I q => by
  obtain ⟨a, u, ha, mu, q⟩ := q
  obtain ⟨od, I1⟩ := I.lock ha mu
  exact h.run pins s σ _ D I1 (q od)⟩
theorem yAt_same {xs : List V} : ∀ i H x H', YAt xs i H x H' → Same H H' := fun _ _ _ _ y => by rw [y.1]; exact Same.refl _
theorem yFn_same {f : Nat → V} : ∀ i H x H', YFn f i H x H' → Same H H' := fun _ _ _ _ y => by rw [y.1]; exact Same.refl _
theorem yStr_same {z : Str} : ∀ (i : Nat) (H : Hp) (v : V) (H' : Hp), (H' = H ∧ ∃ c, z.cps[i]? = some c ∧ v = .str ⟨#[c]⟩) → Same H H' := fun _ _ _ _ y => by rw [y.1]; exact Same.refl _
theorem yPair_same {f g : Nat → Option V} : ∀ i H x H', YPair f g i H x H' → Same H H' := fun _ _ _ _ ⟨T, _, _, _, hn, e, _⟩ => by rw [e]; exact Same.new hn
end Net
namespace Net
open PySem PySem.Spec PyProof.Rows L2
/-! ### numbers, letters, words -/
def spInt : Sp := fun vs H Q _ => ∃ i : Int, vs = [.int i] ∧ Q (.bl true) H
def spCount : Sp := fun vs H Q _ => ∃ i : Int, vs = [.int i] ∧ 0 ≤ i ∧ Q (.bl true) H
def spLetter : Sp := fun vs H Q _ => ∃ c : Nat, vs = [.str (sg c)] ∧ 97 ≤ c ∧ c ≤ 102 ∧ Q (.bl true) H
/-- all signs from a to f -/
def Wd (x : Str) : Prop := ∀ c ∈ x.cps.toList, 97 ≤ c ∧ c ≤ 102
def spWord : Sp := fun vs H Q _ => ∃ x : Str, vs = [.str x] ∧ 1 ≤ x.length ∧ x.length ≤ 12 ∧ Wd x ∧ ∀ H', Same H H' → Q (.bl true) H'
def spList (K : PySem.W.Frag) : Sp := fun vs H Q _ => ∃ (a : Addr) (xs : List V), vs = [.ref a] ∧ (H a = some (.lst xs) ∨ H a = some (.tup xs)) ∧ ∀ H', Same H H' → Q (.bl true) H'
def spWant : Sp := fun vs H Q _ => ∃ x : Str, vs = [.str x] ∧ 1 ≤ x.length ∧ x.length ≤ 12 ∧ Wd x ∧ ∀ H', Same H H' → Q .non H'
def spNode : Sp := fun vs H Q _ => ∃ n i : Int, vs = [.int n, .int i] ∧ 0 ≤ i ∧ i < n ∧ Q (.bl true) H
section
variable {P : Program} {w : World} {K : PySem.W.Frag} {mg : Str → Option Value} {base : Heap}
theorem sc_is_integer : FnScope ["value"] ["value"] (defScope s_is_integer) := ⟨rfl, rfl, rfl, by decide +kernel, rfl, by decide +kernel, by decide +kernel⟩
theorem ok_is_integer (T : NT K mg) : Cal P w K mg base (ga K "is_integer") 1 ["value"] spInt := by
  obtain ⟨fd, F⟩ := T.D_is_integer
  refine Cal.of F (F.bindsN fun _ _ _ _ _ _ us hl => match us, hl with | [_], _ => rfl) sc_is_integer (fun vs H Q E h => ?_) (fun cdv A outer s H vs Q E hr h => ?_)
  · obtain ⟨i, rfl, _⟩ := h
    rfl
  · obtain ⟨i, rfl, k⟩ := h
    refine ⟨_, pss_one (ps_ret (pe_and (pe_b (cr_is "int") T.b_isinstance (pa_cons (pv 0) (pa_cons (pe_ty "int" T.b_int) pa_nil)))
      (pe_one (pe_not (pe_b (cr_is "bool") T.b_isinstance (pa_cons (pv 0) (pa_cons (pe_ty "bool" T.b_bool) pa_nil))))))), ?_⟩
    refine ⟨_, rfl, _, "int", true, rfl, .base (.int _), by decide +kernel, true, rfl, iteT ?_⟩
    exact ⟨_, rfl, _, "int", false, rfl, .base (.int _), by decide +kernel, false, rfl, k⟩
theorem sc_is_count : FnScope ["value"] ["value"] (defScope s_is_count) := ⟨rfl, rfl, rfl, by decide +kernel, rfl, by decide +kernel, by decide +kernel⟩
theorem ok_is_count (T : NT K mg) : Cal P w K mg base (ga K "is_count") 2 ["value"] spCount := by
  obtain ⟨fd, F⟩ := T.D_is_count
  refine Cal.of F (F.bindsN fun _ _ _ _ _ _ us hl => match us, hl with | [_], _ => rfl) sc_is_count (fun vs H Q E h => ?_) (fun cdv A outer s H vs Q E hr h => ?_)
  · obtain ⟨i, rfl, _⟩ := h
    rfl
  · obtain ⟨i, rfl, h0, k⟩ := h
    refine ⟨_, pss_one (ps_ret (pe_and (pe_f (ok_is_integer T) T.g_is_integer hr (pa_cons (pv 0) pa_nil)) (pe_one (pe_cmpR op_ge (pv 0) pe_int (nomark _))))), ?_⟩
    refine ⟨_, rfl, _, rfl, true, rfl, iteT ?_⟩
    refine ⟨_, rfl, _, _, rfl, rfl, ?_⟩
    show Q (V.bl (decide (0 ≤ i))) H
    rw [decide_eq_true h0]
    exact k
theorem sc_is_letter : FnScope ["value"] ["value"] (defScope s_is_letter) := ⟨rfl, rfl, rfl, by decide +kernel, rfl, by decide +kernel, by decide +kernel⟩
theorem sg_len (c : Nat) : (sg c).length = 1 := rfl
theorem letters_mem {c : Nat} (h : 97 ≤ c) (h2 : c ≤ 102) : c ∈ (Str.ofString "abcdef").cps.toList := by
  have e : (Str.ofString "abcdef").cps.toList = [97, 98, 99, 100, 101, 102] := by decide +kernel
  rw [e]
  have : c = 97 ∨ c = 98 ∨ c = 99 ∨ c = 100 ∨ c = 101 ∨ c = 102 := by omega
  simpa using this
theorem ok_is_letter (T : NT K mg) : Cal P w K mg base (ga K "is_letter") 1 ["value"] spLetter := by
  obtain ⟨fd, F⟩ := T.D_is_letter
  refine Cal.of F (F.bindsN fun _ _ _ _ _ _ us hl => match us, hl with | [_], _ => rfl) sc_is_letter (fun vs H Q E h => ?_) (fun cdv A outer s H vs Q E hr h => ?_)
  · obtain ⟨i, rfl, _⟩ := h
    rfl
  · obtain ⟨c, rfl, h0, h1, k⟩ := h
    refine ⟨_, pss_one (ps_ret (pe_and (pe_b (cr_is "str") T.b_isinstance (pa_cons (pv 0) (pa_cons (pe_ty "str" T.b_str) pa_nil)))
      (pe_and (pe_cmpR op_eq (pe_b call_len_str T.b_len (pa_cons (pv 0) pa_nil)) pe_int (nomark _)) (pe_one (pe_cmpR op_in_sign (pv 0) (pe_cs T.x_LETTERS) rfl))))), ?_⟩
    refine ⟨_, rfl, _, "str", true, rfl, .base (.str _), by decide +kernel, true, rfl, iteT ?_⟩
    refine ⟨_, rfl, _, rfl, (by rw [sg_len]; decide), rfl, true, rfl, iteT ?_⟩
    refine ⟨_, rfl, c, _, rfl, rfl, ?_⟩
    rw [decide_eq_true (letters_mem h0 h1)]
    exact k
theorem sc_is_word : FnScope ["value", "sign"] ["value"] (defScope s_is_word) := ⟨rfl, rfl, rfl, by decide +kernel, rfl, by decide +kernel, by decide +kernel⟩
theorem ok_is_word (T : NT K mg) : Cal P w K mg base (ga K "is_word") 1 ["value"] spWord := by
  obtain ⟨fd, F⟩ := T.D_is_word
  refine Cal.of F (F.bindsN fun _ _ _ _ _ _ us hl => match us, hl with | [_], _ => rfl) sc_is_word (fun vs H Q E h => ?_) (fun cdv A outer s H vs Q E hr h => ?_)
  · obtain ⟨i, rfl, _⟩ := h
    rfl
  · obtain ⟨x, rfl, h1, h2, hw, k⟩ := h
    have hz : x.length ≤ sizeLine := Nat.le_trans h2 (by decide)
    refine ⟨_, pss_cons (ps_if (PW.pt (pw_or (pt_not (pt_val (pe_b (cr_is "str") T.b_isinstance (pa_cons (pv 0) (pa_cons (pe_ty "str" T.b_str) pa_nil)))))
        (pw_or1 (pt_not (pt_chain op_le op_le pe_int (pe_b call_len_str T.b_len (pa_cons (pv 0) pa_nil)) (pe_ci T.i_LONGEST_words)))))) (pss_one (ps_ret pe_bl)) pss_nil)
      (pss_one (ps_ret (pe_b (cr_all rfl) T.b_all (pa_cons (pe_lc (own := [("sign", 1)]) (g := gName 1) (tt := tYes) rfl sc_is_word.nd (pi_str (pv 0)) (blkOk_by (N := ["value", "sign"]) (sc := defScope s_is_word) (by decide +kernel))
        (fun _ _ _ _ _ => pg_name (i := 1) sc_is_word.nd rfl (Or.inl rfl)) (fun _ _ _ _ _ => pts_nil) (fun _ _ _ _ _ => pe_cmpR op_in_sign (pv 1) (pe_cs T.x_LETTERS) rfl)) pa_nil)))), ?_⟩
    refine ⟨_, rfl, _, "str", true, rfl, .base (.str _), by decide +kernel, true, rfl, iteF ?_⟩
    refine ⟨_, rfl, _, rfl, hz, _, _, rfl, rfl, true, congrArg V.bl (decide_eq_true (show (1 : Int) ≤ (x.length : Int) by omega)), iteT ⟨_, _, rfl, rfl, true, congrArg V.bl (decide_eq_true (show (x.length : Int) ≤ 12 by omega)), iteF ?_⟩⟩
    refine ⟨_, rfl, _, rfl, fun D hD => ?_⟩
    have hl : x.length = x.cps.toList.length := by simp [Str.length]
    refine lc_rp (β := Bool) walk_str (List.replicate x.length true) (by simp [Str.length]) (by simpa [Str.length] using hz) (fun _ => False) hD (fun _ _ => trivial) yStr_same (fun j b y H2 H3 K1 hb s1 _ hy k1 => ?_) (fun H2 acc s1 ha r => ?_)
    · obtain ⟨rfl, c, hc, rfl⟩ := hy
      refine ⟨wipe1 _ _ _, _, rfl, c, _, rfl, rfl, ?_⟩
      have e1 : b = true := List.eq_of_mem_replicate (List.mem_of_getElem? hb)
      have e2 := hw c (List.mem_of_getElem? (by rw [Array.getElem?_toList]; exact hc))
      exact k1 _ _ (Same.refl _) (congrArg V.bl (by rw [decide_eq_true (letters_mem e2.1 e2.2), e1]))
    · refine ⟨D, _, rfl, .of (by rw [← bls_of r]; exact ha), ?_⟩
      rw [show (List.replicate x.length true).all id = true by simp]
      exact k _ s1
theorem sc_is_list : FnScope ["value"] ["value"] (defScope s_is_list) := ⟨rfl, rfl, rfl, by decide +kernel, rfl, by decide +kernel, by decide +kernel⟩
theorem ok_is_list (T : NT K mg) : Cal P w K mg base (ga K "is_list") 1 ["value"] (spList K) := by
  obtain ⟨fd, F⟩ := T.D_is_list
  refine Cal.of F (F.bindsN fun _ _ _ _ _ _ us hl => match us, hl with | [_], _ => rfl) sc_is_list (fun vs H Q E h => ?_) (fun cdv A outer s H vs Q E hr h => ?_)
  · obtain ⟨a, xs, rfl, _⟩ := h
    rfl
  · obtain ⟨a, xs, rfl, ha, k⟩ := h
    refine ⟨_, pss_one (ps_ret (pe_b (cr_is2 "list" "tuple") T.b_isinstance (pa_cons (pv 0) (pa_cons (pe_tup (pa_cons (pe_ty "list" T.b_list) (pa_cons (pe_ty "tuple" T.b_tuple) pa_nil))) pa_nil)))), ?_⟩
    refine ⟨_, rfl, (by show 2 ≤ sizeLine; decide), fun p hp => ?_⟩
    have s1 : Same H (upd H p (.tup [.ty "list", .ty "tuple"])) := Same.new hp
    rcases ha with ha | ha
    · exact ⟨_, p, "list", true, false, rfl, upd_same, tyX_lst (s1 _ _ ha), by decide +kernel, by decide +kernel, k _ s1⟩
    · exact ⟨_, p, "tuple", false, true, rfl, upd_same, tyX_tup (s1 _ _ ha), by decide +kernel, by decide +kernel, k _ s1⟩
theorem sc_want_word : FnScope ["value"] ["value"] (defScope s_want_word) := ⟨rfl, rfl, rfl, by decide +kernel, rfl, by decide +kernel, by decide +kernel⟩
theorem ok_want_word (T : NT K mg) : Cal P w K mg base (ga K "want_word") 2 ["value"] spWant := by
  obtain ⟨fd, F⟩ := T.D_want_word
  refine Cal.of F (F.bindsN fun _ _ _ _ _ _ us hl => match us, hl with | [_], _ => rfl) sc_want_word (fun vs H Q E h => ?_) (fun cdv A outer s H vs Q E hr h => ?_)
  · obtain ⟨a, rfl, _⟩ := h
    rfl
  · obtain ⟨x, rfl, h1, h2, hw, k⟩ := h
    refine ⟨_, pss_one (ps_if (pt_not (pt_val (pe_f (ok_is_word T) T.g_is_word hr (pa_cons (pv 0) pa_nil)))) (pss_one ps_never) pss_nil), ?_⟩
    exact ⟨_, rfl, x, rfl, h1, h2, hw, fun H' s1 => ⟨true, rfl, iteF (k H' s1)⟩⟩
theorem sc_is_node : FnScope ["nodes", "value"] ["nodes", "value"] (defScope s_is_node) := ⟨rfl, rfl, rfl, by decide +kernel, rfl, by decide +kernel, by decide +kernel⟩
theorem ok_is_node (T : NT K mg) : Cal P w K mg base (ga K "is_node") 2 ["nodes", "value"] spNode := by
  obtain ⟨fd, F⟩ := T.D_is_node
  refine Cal.of F (F.bindsN fun _ _ _ _ _ _ us hl => match us, hl with | [_, _], _ => rfl) sc_is_node (fun vs H Q E h => ?_) (fun cdv A outer s H vs Q E hr h => ?_)
  · obtain ⟨n, i, rfl, _⟩ := h
    rfl
  · obtain ⟨n, i, rfl, h0, h1, k⟩ := h
    refine ⟨_, pss_one (ps_ret (pe_and (pe_f (ok_is_integer T) T.g_is_integer hr (pa_cons (pv 1) pa_nil)) (pe_one (pe_chain op_le op_lt pe_int (pv 1) (pv 0))))), ?_⟩
    refine ⟨_, rfl, i, rfl, true, rfl, iteT ⟨_, rfl, _, _, rfl, rfl, true, congrArg V.bl (decide_eq_true h0), iteT ⟨_, rfl, _, _, rfl, rfl, ?_⟩⟩⟩
    show Q (V.bl (decide (i < n))) H
    rw [decide_eq_true h1]
    exact k
/-- a tie between two of n nodes -/
structure TieOk (n : Int) (t : Tie) : Prop where
  x0 : 0 ≤ t.x
  x1 : t.x < n
  c0 : 97 ≤ t.c
  c1 : t.c ≤ 102
  y0 : 0 ≤ t.y
  y1 : t.y < n
def spTie : Sp := fun vs H Q _ => ∃ (n : Int) (a : Addr) (t : Tie), vs = [.int n, .ref a] ∧ H a = some (.tup t.vs) ∧ TieOk n t ∧ Q (.bl true) H
theorem sc_is_tie : FnScope ["nodes", "value"] ["nodes", "value"] (defScope s_is_tie) := ⟨rfl, rfl, rfl, by decide +kernel, rfl, by decide +kernel, by decide +kernel⟩
theorem ok_is_tie (T : NT K mg) : Cal P w K mg base (ga K "is_tie") 3 ["nodes", "value"] spTie := by
  obtain ⟨fd, F⟩ := T.D_is_tie
  refine Cal.of F (F.bindsN fun _ _ _ _ _ _ us hl => match us, hl with | [_, _], _ => rfl) sc_is_tie (fun vs H Q E h => ?_) (fun cdv A outer s H vs Q E hr h => ?_)
  · obtain ⟨n, a, t, rfl, _⟩ := h
    rfl
  · obtain ⟨n, a, t, rfl, ha, ht, k⟩ := h
    have hr1 : Room 1 _ := hr.mono (by decide)
    refine ⟨_, pss_cons (ps_if (PW.pt (pw_or (pt_not (pt_val (pe_b (cr_is "tuple") T.b_isinstance (pa_cons (pv 1) (pa_cons (pe_ty "tuple" T.b_tuple) pa_nil)))))
        (pw_or1 (pt_cmpR op_ne (pe_b call_len_seq T.b_len (pa_cons (pv 1) pa_nil)) pe_int (nomark _))))) (pss_one (ps_ret pe_bl)) pss_nil)
      (pss_one (ps_ret (pe_and (pe_f (ok_is_node T) T.g_is_node hr (pa_cons (pv 0) (pa_cons (pe_ix ix_tup (pv 1) pe_int (fun _ _ => rfl)) pa_nil)))
        (pe_and (pe_f (ok_is_letter T) T.g_is_letter hr1 (pa_cons (pe_ix ix_tup (pv 1) pe_int (fun _ _ => rfl)) pa_nil))
          (pe_one (pe_f (ok_is_node T) T.g_is_node hr (pa_cons (pv 0) (pa_cons (pe_ix ix_tup (pv 1) pe_int (fun _ _ => rfl)) pa_nil)))))))), ?_⟩
    refine ⟨_, rfl, _, "tuple", true, rfl, tyX_tup ha, by decide +kernel, true, rfl, iteF ?_⟩
    refine ⟨_, rfl, a, _, rfl, .inr (SqT.of ha), rfl, false, rfl, iteF ?_⟩
    refine ⟨_, rfl, _, rfl, a, _, _, _, rfl, rfl, SqT.of ha, atI_nat (j := 0) rfl, n, _, rfl, ht.x0, ht.x1, true, rfl, iteT ?_⟩
    refine ⟨_, rfl, a, _, _, _, rfl, rfl, SqT.of ha, atI_nat (j := 1) rfl, t.c, rfl, ht.c0, ht.c1, true, rfl, iteT ?_⟩
    exact ⟨_, rfl, _, rfl, a, _, _, _, rfl, rfl, SqT.of ha, atI_nat (j := 2) rfl, n, _, rfl, ht.y0, ht.y1, k⟩
def spNodes : Sp := fun vs H Q _ => ∃ n : Int, vs = [.int n] ∧ 1 ≤ n ∧ n ≤ 40 ∧ Q .non H
theorem sc_want_nodes : FnScope ["value"] ["value"] (defScope s_want_nodes) := ⟨rfl, rfl, rfl, by decide +kernel, rfl, by decide +kernel, by decide +kernel⟩
theorem ok_want_nodes (T : NT K mg) : Cal P w K mg base (ga K "want_nodes") 2 ["value"] spNodes := by
  obtain ⟨fd, F⟩ := T.D_want_nodes
  refine Cal.of F (F.bindsN fun _ _ _ _ _ _ us hl => match us, hl with | [_], _ => rfl) sc_want_nodes (fun vs H Q E h => ?_) (fun cdv A outer s H vs Q E hr h => ?_)
  · obtain ⟨n, rfl, _⟩ := h
    rfl
  · obtain ⟨n, rfl, h0, h1, k⟩ := h
    refine ⟨_, pss_one (ps_if (PW.pt (pw_or (pt_not (pt_val (pe_f (ok_is_integer T) T.g_is_integer hr (pa_cons (pv 0) pa_nil)))) (pw_or1 (pt_not (pt_chain op_le op_le pe_int (pv 0) (pe_ci T.i_MOST_NODES)))))) (pss_one ps_never) pss_nil), ?_⟩
    exact ⟨_, rfl, n, rfl, true, rfl, iteF ⟨_, rfl, _, _, rfl, rfl, true, congrArg V.bl (decide_eq_true h0), iteT ⟨_, _, rfl, rfl, true, congrArg V.bl (decide_eq_true h1), iteF k⟩⟩⟩
def spWantTie : Sp := fun vs H Q _ => ∃ (n : Int) (a : Addr) (t : Tie), vs = [.int n, .ref a] ∧ H a = some (.tup t.vs) ∧ TieOk n t ∧ Q .non H
theorem sc_want_tie : FnScope ["nodes", "value"] ["nodes", "value"] (defScope s_want_tie) := ⟨rfl, rfl, rfl, by decide +kernel, rfl, by decide +kernel, by decide +kernel⟩
theorem ok_want_tie (T : NT K mg) : Cal P w K mg base (ga K "want_tie") 4 ["nodes", "value"] spWantTie := by
  obtain ⟨fd, F⟩ := T.D_want_tie
  refine Cal.of F (F.bindsN fun _ _ _ _ _ _ us hl => match us, hl with | [_, _], _ => rfl) sc_want_tie (fun vs H Q E h => ?_) (fun cdv A outer s H vs Q E hr h => ?_)
  · obtain ⟨n, a, t, rfl, _⟩ := h
    rfl
  · obtain ⟨n, a, t, rfl, ha, ht, k⟩ := h
    refine ⟨_, pss_one (ps_if (pt_not (pt_val (pe_f (ok_is_tie T) T.g_is_tie hr (pa_cons (pv 0) (pa_cons (pv 1) pa_nil))))) (pss_one ps_never) pss_nil), ?_⟩
    exact ⟨_, rfl, _, rfl, n, a, t, rfl, ha, ht, true, rfl, iteF k⟩
def spFew : Sp := fun vs H Q _ => ∃ n : Int, vs = [.int n] ∧ n ≤ 400 ∧ Q .non H
theorem sc_want_few_ties : FnScope ["many"] ["many"] (defScope s_want_few_ties) := ⟨rfl, rfl, rfl, by decide +kernel, rfl, by decide +kernel, by decide +kernel⟩
theorem ok_want_few_ties (T : NT K mg) : Cal P w K mg base (ga K "want_few_ties") 1 ["many"] spFew := by
  obtain ⟨fd, F⟩ := T.D_want_few_ties
  refine Cal.of F (F.bindsN fun _ _ _ _ _ _ us hl => match us, hl with | [_], _ => rfl) sc_want_few_ties (fun vs H Q E h => ?_) (fun cdv A outer s H vs Q E hr h => ?_)
  · obtain ⟨n, rfl, _⟩ := h
    rfl
  · obtain ⟨n, rfl, h0, k⟩ := h
    refine ⟨_, pss_one (ps_if (pt_cmpR op_gt (pv 0) (pe_ci T.i_MOST_TIES) (nomark _)) (pss_one ps_never) pss_nil), ?_⟩
    exact ⟨_, rfl, _, _, rfl, rfl, false, congrArg V.bl (decide_eq_false (by omega)), iteF k⟩
end
end Net
namespace Net
open PySem PySem.Spec PyProof.Rows L2
/-! ### ties as keys -/
def tkey (t : Tie) : List Key := [.inl t.x, .inr (sg t.c), .inl t.y]
theorem tkey_vs (t : Tie) : (tkey t).map kV = t.vs := rfl
theorem tkey_inj {t u : Tie} (h : tkey t = tkey u) : t = u := by
  obtain ⟨x, c, y⟩ := t
  obtain ⟨x', c', y'⟩ := u
  simp only [tkey, List.cons.injEq, Sum.inl.injEq, Sum.inr.injEq, and_true] at h
  obtain ⟨h1, h2, h3⟩ := h
  have h4 := sg_inj h2
  subst h1
  subst h3
  subst h4
  rfl
/-- the dict of these ties -/
def kvT (ts : List Tie) : List (List Key × V) := ts.map fun t => (tkey t, V.bl true)
theorem kvT_no {ts : List Tie} {t : Tie} (h : ¬ t ∈ ts) : valV (kvT ts) (tkey t) = none := by
  induction ts with
  | nil => rfl
  | cons u r ih =>
    have h1 : ¬ u = t := fun e => h (by rw [e]; exact List.mem_cons_self)
    show valV ((tkey u, V.bl true) :: kvT r) (tkey t) = none
    rw [valV_neg (fun e => h1 (tkey_inj e))]
    exact ih fun m => h (List.mem_cons_of_mem _ m)
theorem kvT_yes {ts : List Tie} {t : Tie} (h : t ∈ ts) : valV (kvT ts) (tkey t) = some (.bl true) := by
  induction ts with
  | nil => cases h
  | cons u r ih =>
    show valV ((tkey u, V.bl true) :: kvT r) (tkey t) = _
    by_cases h1 : u = t
    · rw [h1, valV_pos rfl]
    · rw [valV_neg (fun e => h1 (tkey_inj e))]
      rcases List.mem_cons.mp h with e | e
      · exact absurd e.symm h1
      · exact ih e
theorem kvT_some (ts : List Tie) (t : Tie) : (valV (kvT ts) (tkey t)).isSome = decide (t ∈ ts) := by
  by_cases h : t ∈ ts
  · rw [kvT_yes h, decide_eq_true h]
    rfl
  · rw [kvT_no h, decide_eq_false h]
    rfl
theorem kvT_put {ts : List Tie} {t : Tie} (h : ¬ t ∈ ts) : putK (kvT ts) (tkey t) (.bl true) = kvT (ts ++ [t]) := by
  rw [putK_new _ (kvT_no h)]
  unfold kvT
  rw [List.map_append]
  rfl
theorem kvT_small {ts : List Tie} (h : ts.length ≤ 400) (i : Nat) : (kvT (ts.take i)).length < sizeLine := by
  have h1 : (ts.take i).length ≤ ts.length := by rw [List.length_take]; exact Nat.min_le_right _ _
  have h2 : (400 : Nat) < sizeLine := by decide
  unfold kvT
  rw [List.length_map]
  omega
theorem nodup_take_not {α : Type} {l : List α} {i : Nat} {x : α} (h : l.Nodup) (e : l[i]? = some x) : ¬ x ∈ l.take i := fun m => by
  obtain ⟨j, hj, e2⟩ := List.mem_iff_getElem.mp m
  have hj2 : j < l.length := by simp at hj; omega
  have hji : j < i := by simp at hj; omega
  obtain ⟨hi, e3⟩ := List.getElem?_eq_some_iff.mp e
  have : l[j] = l[i] := by
    rw [e3, ← e2]
    simp
  have := (List.getElem_inj h).mp this
  omega
def spWantTies : Sp := fun vs H Q _ => ∃ (n : Int) (a : Addr) (xs : List V) (ts : List Tie), vs = [.int n, .ref a] ∧ H a = some (.lst xs) ∧ All2 (rp (fun _ => False) H) xs ts ∧ (∀ t ∈ ts, TieOk n t) ∧ ts.Nodup ∧ ts.length ≤ 400 ∧ ∀ H', Same H H' → Q .non H'
section
variable {P : Program} {w : World} {K : PySem.W.Frag} {mg : Str → Option Value} {base : Heap}
theorem sc_want_ties : FnScope ["nodes", "ties", "known", "position", "tie"] ["nodes", "ties"] (defScope s_want_ties) := ⟨rfl, rfl, rfl, by decide +kernel, rfl, by decide +kernel, by decide +kernel⟩
theorem ok_want_ties (T : NT K mg) : Cal P w K mg base (ga K "want_ties") 5 ["nodes", "ties"] spWantTies := by
  obtain ⟨fd, F⟩ := T.D_want_ties
  refine Cal.of F (F.bindsN fun _ _ _ _ _ _ us hl => match us, hl with | [_, _], _ => rfl) sc_want_ties (fun vs H Q E h => ?_) (fun cdv A outer s H vs Q E hr h => ?_)
  · obtain ⟨n, a, xs, ts, rfl, _⟩ := h
    rfl
  · obtain ⟨n, a, xs, ts, rfl, ha, rts, hok, hnd, hlen, k⟩ := h
    have hu := hu_of hr
    refine ⟨_, pss_cons (ps_if (pt_not (pt_val (pe_f (ok_is_list T) T.g_is_list (hr.mono (by decide)) (pa_cons (pv 1) pa_nil)))) (pss_one ps_never) pss_nil)
      (pss_cons (ps_set (i := 2) sc_want_ties.nd rfl (Or.inl rfl) pe_dnewT)
      (pss_cons (ps_for PassesOwn.never rfl (pi_enum (by rfl) T.b_enumerate (pa_cons (pv 1) pa_nil)) (pg_tup rfl (pgs_cons (pg_name (i := 3) sc_want_ties.nd rfl (Or.inl rfl)) (pgs_cons (pg_name (i := 4) sc_want_ties.nd rfl (Or.inl rfl)) pgs_nil)))
        (pss_cons (ps_if (PW.pt (pw_or (pt_not (pt_val (pe_f (ok_is_tie T) T.g_is_tie (hr.mono (by decide)) (pa_cons (pv 0) (pa_cons (pv 4) pa_nil))))) (pw_or1 (pt_cmp (pc_din hu (pv 4) (pv 2)))))) (pss_one ps_never) pss_nil)
        (pss_one (ps_dput hu (pv 2) (pv 4) pe_bl rfl))))
      (pss_one (ps_expr (pe_f (ok_want_few_ties T) T.g_want_few_ties (hr.mono (by decide)) (pa_cons (pe_b call_len_seq T.b_len (pa_cons (pv 1) pa_nil)) pa_nil)))))), ?_⟩
    refine ⟨_, rfl, a, xs, rfl, .inl ha, fun H1 s1 => ⟨true, rfl, iteF ?_⟩⟩
    intro d hd
    have s2 : Same H (upd H1 d (.dT [])) := s1.lay hd
    have hd0 : H d = none := s1.free hd
    have hlen2 : xs.length = ts.length := rts.length
    refine ⟨_, rfl, a, xs, rfl, SqL.of (s2 _ _ ha), for_it walk_enum (fun i σ H' => ∃ v3 v4 : Option V, σ = [some (.int n), some (.ref a), some (.ref d), v3, v4] ∧ Same H H' ∧ H' d = some (.dT (kvT (ts.take i))))
      ⟨none, none, rfl, s2, upd_same⟩ (fun i σ H' _ ⟨_, _, _, s3, _⟩ => SqL.of (s3 _ _ ha)) ?_ ?_⟩
    · rintro i x σ H2 H3 hi ⟨v3, v4, rfl, s3, hd3⟩ ⟨p, y, z, rfl, hp, rfl, e1, e2⟩
      obtain ⟨t, ht, b, rfl, _, hb⟩ := rts.get' e2
      have hbt := List.mem_of_getElem? ht
      have s4 : Same H (upd H2 p (.tup [y, .ref b])) := s3.lay hp
      have hdp : d ≠ p := ne_of_none hd3 hp
      refine ⟨p, _, rfl, SqT.of upd_same, rfl, y, _, rfl, _, _, rfl, rfl, ?_⟩
      refine ⟨_, rfl, _, rfl, n, b, t, rfl, s4 _ _ hb, hok t hbt, true, rfl, iteF ?_⟩
      have hnt := nodup_take_not hnd ht
      refine ⟨_, rfl, _, rfl, d, _, rfl, DGet.t (k := tkey t) (by rw [upd_ne hdp]; exact hd3) (s4 _ _ hb), false, congrArg V.bl (by rw [kvT_no hnt]; rfl), iteF ?_⟩
      refine ⟨_, rfl, _, rfl, d, _, rfl, DPut.t (k := tkey t) (by rw [upd_ne hdp]; exact hd3) (s4 _ _ hb) (kvT_small hlen i), ?_⟩
      refine ⟨_, _, rfl, fun c o e => ?_, ?_⟩
      · rw [upd_ne (ne_of_none e hd0)]
        exact s4 c o e
      · rw [upd_same, kvT_put hnt, take_succ' ht]
    · rintro σ H2 ⟨v3, v4, rfl, s3, hd3⟩
      exact ⟨_, rfl, a, xs, rfl, .inl (SqL.of (s3 _ _ ha)), _, rfl, by rw [hlen2]; omega, k _ s3⟩
end
end Net
namespace Net
open PySem PySem.Spec PyProof.Rows L2
/-! ### where ties lead -/
def goals (ts : List Tie) (c : Nat) (x : Int) : List Int := (ts.filter fun t => decide (t.c = c ∧ t.x = x)).map (·.y)
def gkey (c : Nat) (x : Int) : List Key := [.inr (sg c), .inl x]
theorem gkey_inj {c d : Nat} {x y : Int} (h : gkey c x = gkey d y) : c = d ∧ x = y := by
  simp only [gkey, List.cons.injEq, Sum.inl.injEq, Sum.inr.injEq, and_true] at h
  exact ⟨sg_inj h.1, h.2⟩
theorem goals_snoc (ts : List Tie) (t : Tie) (c : Nat) (x : Int) : goals (ts ++ [t]) c x = if t.c = c ∧ t.x = x then goals ts c x ++ [t.y] else goals ts c x := by
  unfold goals
  rw [List.filter_append, List.map_append]
  by_cases h : t.c = c ∧ t.x = x
  · rw [if_pos h]
    simp [h]
  · rw [if_neg h]
    simp [h]
/-- the dict of the lists that were made so far -/
def FoundOk (H : Hp) (kvs : List (List Key × V)) (ts : List Tie) (M : Ad) : Prop :=
  ∀ c x, (goals ts c x = [] ∧ valV kvs (gkey c x) = none) ∨ ∃ a, valV kvs (gkey c x) = some (.ref a) ∧ ¬ M a ∧ H a = some (.lst ((goals ts c x).map V.int))
/-- the dict of all letters -/
def GoalsAt (N : Ad) (H : Hp) (gd : Addr) (n : Int) (ts : List Tie) : Prop :=
  ¬ N gd ∧ ∃ kg, H gd = some (.dK kg) ∧ ∀ c, 97 ≤ c → c ≤ 102 → ∃ v, valV kg (.inr (sg c)) = some v ∧ rp N H v ((List.range n.toNat).map fun (x : Nat) => goals ts c (x : Int))
theorem GoalsAt.mono {N : Ad} {H H' : Hp} {gd : Addr} {n : Int} {ts : List Tie} (s : SameN N H H') (h : GoalsAt N H gd n ts) : GoalsAt N H' gd n ts := by
  obtain ⟨h1, kg, h2, h3⟩ := h
  exact ⟨h1, kg, s _ _ h1 h2, fun c a b => let ⟨v, e, r⟩ := h3 c a b; ⟨v, e, Rp.mono s r⟩⟩
theorem GoalsAt.weak {N N' : Ad} {H : Hp} {gd : Addr} {n : Int} {ts : List Tie} (k : ∀ b, N' b → N b) (h : GoalsAt N H gd n ts) : GoalsAt N' H gd n ts := by
  obtain ⟨h1, kg, h2, h3⟩ := h
  exact ⟨fun z => h1 (k _ z), kg, h2, fun c a b => let ⟨v, e, r⟩ := h3 c a b; ⟨v, e, Rp.weak k r⟩⟩
def spGoals : Sp := fun vs H Q _ => ∃ (n : Int) (td : Addr) (od : Obj) (ts : List Tie), vs = [.int n, .ref td] ∧ H td = some (.frz od (.dT (kvT ts))) ∧ 0 ≤ n ∧ n ≤ 40 ∧ ts.length ≤ 400 ∧
  ∀ gd H', Same H H' → GoalsAt (In H) H' gd n ts → Q (.ref gd) H'
def retE (st : Stmt) (i : Nat) : Expr := match (defBody st)[i]? with
  | some (.Return (some e) _) => e
  | _ => .Constant .none 0 ⟨0, 0, 0, 0⟩
def compS : Expr → Scope
  | .ListComp _ _ sc _ => sc
  | .DictComp _ _ _ sc _ => sc
  | _ => { kind := .function, names := [], isGenerator := false, isCoroutine := false }
theorem letters_cps : (Str.ofString "abcdef").cps = #[97, 98, 99, 100, 101, 102] := by decide +kernel
theorem letter_at {i c : Nat} (h : (Str.ofString "abcdef").cps[i]? = some c) : c = 97 + i ∧ i < 6 := by
  rw [letters_cps] at h
  match i, h with
  | 0, h => simp at h; omega
  | 1, h => simp at h; omega
  | 2, h => simp at h; omega
  | 3, h => simp at h; omega
  | 4, h => simp at h; omega
  | 5, h => simp at h; omega
  | n + 6, h => simp at h
section
variable {P : Program} {w : World} {K : PySem.W.Frag} {mg : Str → Option Value} {base : Heap}
theorem sc_goals_by : FnScope ["nodes", "ties", "found", "near", "letter", "far", "node"] ["nodes", "ties"] (defScope s_goals_by) := ⟨rfl, rfl, rfl, by decide +kernel, rfl, by decide +kernel, by decide +kernel⟩
theorem ok_goals_by (T : NT K mg) : Cal P w K mg base (ga K "goals_by") 1 ["nodes", "ties"] spGoals := by
  obtain ⟨fd, F⟩ := T.D_goals_by
  refine Cal.of F (F.bindsN fun _ _ _ _ _ _ us hl => match us, hl with | [_, _], _ => rfl) sc_goals_by (fun vs H Q E h => ?_) (fun cdv A outer s H vs Q E hr h => ?_)
  · obtain ⟨n, td, od, ts, rfl, _⟩ := h
    rfl
  · obtain ⟨n, td, od, ts, rfl, htd, hn0, hn1, hlen, k⟩ := h
    have hu := hu_of hr
    have nd := sc_goals_by.nd
    refine ⟨_, pss_cons (ps_set (i := 2) nd rfl (Or.inr rfl) pe_dnewT)
      (pss_cons (ps_for PassesOwn.never rfl (pi_keys (pv 1)) (pg_tup rfl (pgs_cons (pg_name (i := 3) nd rfl (Or.inl rfl)) (pgs_cons (pg_name (i := 4) nd rfl (Or.inl rfl)) (pgs_cons (pg_name (i := 5) nd rfl (Or.inl rfl)) pgs_nil))))
        (pss_one (ps_dput hu (pv 2) (pe_tup (pa_cons (pv 4) (pa_cons (pv 3) pa_nil))) (pe_op op_cat (pe_dget2 hu (pv 2) (pe_tup (pa_cons (pv 4) (pa_cons (pv 3) pa_nil))) (pe_lst pa_nil) ⟨rfl, rfl, rfl, rfl⟩) (pe_lst (pa_cons (pv 5) pa_nil))) rfl)))
      (pss_one (ps_ret (pe_dc (own := [("letter", 4)]) (g := gName 4) (tt := tYes) rfl nd (pi_str (pe_cs T.x_LETTERS)) (blkOk_by (N := ["nodes", "ties", "found", "near", "letter", "far", "node"]) (sc := defScope s_goals_by) (by decide +kernel))
        (fun _ _ _ _ _ => pg_name (i := 4) nd rfl (Or.inr rfl)) (fun _ _ _ _ _ => pts_nil) (fun _ _ _ _ _ => pv 4)
        (fun _ _ _ _ _ => pe_lc (own := [("node", 6)]) (g := gName 6) (tt := tYes) rfl nd (pi_range1 (by rfl) T.b_range (pa_cons (pv 0) pa_nil)) (blkOk_by (N := ["nodes", "ties", "found", "near", "letter", "far", "node"]) (sc := relS (compS (retE s_goals_by 2)) (defScope s_goals_by)) (by decide +kernel))
          (fun _ _ _ _ _ => pg_name (i := 6) nd rfl (Or.inl rfl)) (fun _ _ _ _ _ => pts_nil) (fun _ _ _ _ _ => pe_dget2 hu (pv 2) (pe_tup (pa_cons (pv 4) (pa_cons (pv 6) pa_nil))) (pe_lst pa_nil) ⟨rfl, rfl, rfl, rfl⟩)))))), ?_⟩
    intro d hd
    have hdt : td ≠ d := ne_of_none htd hd
    have s0 : Same H (upd H d (.dT [])) := Same.new hd
    have fr : ∀ {H1 : Hp} {a : Addr} {o : HO}, Same H H1 → Same H (upd H1 d o) := fun s c u e => by
      rw [upd_ne (ne_of_none e hd)]
      exact s c u e
    refine ⟨_, rfl, td, od, rfl, .inr ⟨kvT ts, s0 _ _ htd, for_it walk_keysT (fun i σ H' => ∃ v3 v4 v5 : Option V, σ = [some (.int n), some (.ref td), some (.ref d), v3, v4, v5, none] ∧ Same H H' ∧ ∃ kvs, H' d = some (.dT kvs) ∧ kvs.length ≤ i ∧ FoundOk H' kvs (ts.take i) (And1 (In H) d))
      ⟨none, none, none, rfl, s0, [], upd_same, Nat.le_refl _, fun c x => .inl ⟨rfl, rfl⟩⟩ (fun i σ H' _ ⟨_, _, _, _, s3, _⟩ => s3 _ _ htd) ?_ ?_⟩⟩
    · rintro i x σ H3 H2 hi ⟨v3, v4, v5, rfl, s2, kvs, hkv, hkl, hfo⟩ ⟨rfl, ky, v, q, e1, rfl, hq⟩
      obtain ⟨t, ht, rfl⟩ : ∃ t, ts[i]? = some t ∧ ky = tkey t := by
        unfold kvT at e1
        rw [List.getElem?_map] at e1
        cases e : ts[i]? with
        | none =>
          rw [e] at e1
          cases e1
        | some t =>
          rw [e] at e1
          cases e1
          exact ⟨t, rfl, rfl⟩
      rw [tkey_vs] at hq
      have hil : i < ts.length := (List.getElem?_eq_some_iff.mp ht).1
      have hbig := big
      refine ⟨q, _, rfl, SqT.of hq, rfl, _, _, rfl, _, _, rfl, _, _, rfl, rfl, ?_⟩
      refine ⟨_, rfl, d, rfl, .inr ⟨kvs, .inl hkv⟩, _, rfl, _, rfl, (by show 2 ≤ sizeLine; decide), fun p hp => ⟨(by show 0 ≤ sizeLine; decide), fun l hl => ?_⟩⟩
      have s3 : Same H2 (upd (upd H2 p (.tup [.str (sg t.c), .int t.x])) l (.lst [])) := (Same.new hp).lay hl
      have hpl : p ≠ l := ne_of_none upd_same hl
      have hp3 : upd (upd H2 p (.tup [.str (sg t.c), .int t.x])) l (.lst []) p = some (.tup ((gkey t.c t.x).map kV)) := by rw [upd_ne hpl, upd_same]; rfl
      -- the list that is made, wherever the old one stands
      have tail : ∀ (a : Addr) (H4 : Hp), Same H2 H4 → H4 a = some (.lst ((goals (ts.take i) t.c t.x).map V.int)) → H4 d = some (.dT kvs) →
          tLst (tCons (tVar 5) tNil) [some (.int n), some (.ref td), some (.ref d), some (.int t.x), some (.str (sg t.c)), some (.int t.y), none] H4 fun y H5 => rCat (.ref a) y H5 fun z H6 =>
            (tVar 2) [some (.int n), some (.ref td), some (.ref d), some (.int t.x), some (.str (sg t.c)), some (.int t.y), none] H6 fun x H7 => tTup (tCons (tVar 4) (tCons (tVar 3) tNil)) [some (.int n), some (.ref td), some (.ref d), some (.int t.x), some (.str (sg t.c)), some (.int t.y), none] H7 fun y H8 =>
              ∃ b H9, x = .ref b ∧ DPut H8 b y z H9 ∧ ∃ v3 v4 v5 : Option V, [some (V.int n), some (.ref td), some (.ref d), some (.int t.x), some (.str (sg t.c)), some (.int t.y), none] = [some (.int n), some (.ref td), some (.ref d), v3, v4, v5, none] ∧ Same H H9 ∧ ∃ kvs, H9 d = some (.dT kvs) ∧ kvs.length ≤ i + 1 ∧ FoundOk H9 kvs (ts.take (i + 1)) (And1 (In H) d) := by
        intro a H4 s4 ha hd4
        refine ⟨_, rfl, (by show 1 ≤ sizeLine; decide), fun l2 hl2 => ?_⟩
        have hal2 : a ≠ l2 := ne_of_none ha hl2
        refine ⟨a, l2, _, _, rfl, rfl, (by rw [upd_ne hal2]; exact ha), upd_same, ?_, fun m hm => ?_⟩
        · have : (goals (ts.take i) t.c t.x).length ≤ 400 := by
            unfold goals
            rw [List.length_map]
            have h1 := List.length_filter_le (fun u : Tie => decide (u.c = t.c ∧ u.x = t.x)) (ts.take i)
            have h2 : (ts.take i).length ≤ ts.length := by rw [List.length_take]; exact Nat.min_le_right _ _
            omega
          rw [List.length_map]
          show (goals (ts.take i) t.c t.x).length + 1 ≤ sizeLine
          omega
        have s5 : Same H2 (upd (upd H4 l2 (.lst [V.int t.y])) m (.lst ((goals (ts.take i) t.c t.x).map V.int ++ [V.int t.y]))) := (s4.lay hl2).lay hm
        refine ⟨_, rfl, _, rfl, _, rfl, (by show 2 ≤ sizeLine; decide), fun p2 hp2 => ?_⟩
        have s6 := s5.lay (o := .tup [.str (sg t.c), .int t.x]) hp2
        have hm6 : upd (upd (upd H4 l2 (.lst [V.int t.y])) m (.lst ((goals (ts.take i) t.c t.x).map V.int ++ [V.int t.y]))) p2 (.tup [.str (sg t.c), .int t.x]) m = some (.lst ((goals (ts.take i) t.c t.x).map V.int ++ [V.int t.y])) := by
          rw [upd_ne (ne_of_none upd_same hp2), upd_same]
        refine ⟨d, _, rfl, DPut.t (k := gkey t.c t.x) (s6 _ _ hkv) upd_same (by omega), _, _, _, rfl, fr (a := d) (s2.trans s6), _, upd_same, Nat.le_trans (length_putK _ _ _) (by omega), fun c x => ?_⟩
        have hmd : m ≠ d := fun e => by
          rw [e] at hm
          have := s4.lay (o := .lst [V.int t.y]) hl2 _ _ hkv
          rw [hm] at this
          cases this
        have s7 : SameN (fun b => b = d) H2 (upd (upd (upd (upd H4 l2 (.lst [V.int t.y])) m (.lst ((goals (ts.take i) t.c t.x).map V.int ++ [V.int t.y]))) p2 (.tup [.str (sg t.c), .int t.x])) d (.dT (putK kvs (gkey t.c t.x) (.ref m)))) := (SameN.of s6).upd' rfl
        rw [take_succ' ht, goals_snoc, valV_put]
        by_cases hc : t.c = c ∧ t.x = x
        · obtain ⟨rfl, rfl⟩ := hc
          rw [if_pos ⟨rfl, rfl⟩, if_pos rfl]
          refine .inr ⟨m, rfl, fun z => ?_, ?_⟩
          · rcases z with z | z
            · exact In.not' (s2.trans (s4.lay hl2)) hm z
            · exact hmd z
          · rw [upd_ne hmd, hm6, List.map_append]
            rfl
        · rw [if_neg hc, if_neg (fun e => hc (by have := gkey_inj e; exact ⟨this.1.symm, this.2.symm⟩))]
          rcases hfo c x with h | ⟨b, h1, h2, h3⟩
          · exact .inl h
          · exact .inr ⟨b, h1, h2, s7 b _ (fun e => h2 (.inr e)) h3⟩
      rcases hfo t.c t.x with ⟨g0, g1⟩ | ⟨a, g1, g2, g3⟩
      · refine ⟨none, by rw [← g1]; exact DGet.t (s3 _ _ hkv) hp3, tail l _ s3 ?_ (s3 _ _ hkv)⟩
        rw [g0]
        exact upd_same
      · exact ⟨some (.ref a), by rw [← g1]; exact DGet.t (s3 _ _ hkv) hp3, tail a _ s3 (s3 _ _ g3) (s3 _ _ hkv)⟩
    · rintro σ H2 ⟨v3, v4, v5, rfl, s2, kvs, hkv, hkl, hfo⟩
      have elen : (kvT ts).length = ts.length := by unfold kvT; rw [List.length_map]
      rw [elen, List.take_length] at hfo
      refine ⟨_, rfl, fun D hD => dc_it walk_str (fun i H' => Same H2 H' ∧ ∃ kg, H' D = some (.dK kg) ∧ kg.length ≤ i ∧ ∀ c, 97 ≤ c → c < 97 + i → ∃ v, valV kg (.inr (sg c)) = some v ∧ rp (And1 (In H) D) H' v ((List.range n.toNat).map fun (x : Nat) => goals ts c (x : Int)))
        ⟨Same.new hD, [], upd_same, Nat.le_refl _, fun c h1 h2 => by omega⟩ (fun _ _ _ _ => trivial) ?_ ?_⟩
      · rintro i x H4 H3 hi ⟨s3, kg, hkg, hkgl, hg⟩ ⟨rfl, c, hc, rfl⟩
        obtain ⟨rfl, hi6⟩ := letter_at hc
        refine ⟨wipe1 _ _ _, _, rfl, _, rfl, n, rfl, by omega, by omega, fun D2 hD2 => ?_⟩
        have hDD : D ≠ D2 := ne_of_none hkg hD2
        refine lc_rp (β := List Int) walk_range ((List.range n.toNat).map fun (x : Nat) => goals ts (97 + i) (x : Int)) (by simp) (by have := big; omega) (And1 (In H) D) hD2 (fun _ _ => trivial) yFn_same (fun j b x H6 H5 K1 hb s5 hex hy k1 => ?_) (fun H5 acc s5 ha r => ?_)
        · obtain ⟨rfl, rfl⟩ := hy
          obtain ⟨u, hu5⟩ := hex
          have hb2 : b = goals ts (97 + i) (j : Int) := by
            rw [List.getElem?_map] at hb
            cases e : (List.range n.toNat)[j]? with
            | none =>
              rw [e] at hb
              cases hb
            | some z =>
              rw [e] at hb
              have : z = j := by
                obtain ⟨h1, h2⟩ := List.getElem?_eq_some_iff.mp e
                rw [← h2, List.getElem_range]
              subst this
              exact (Option.some.inj hb).symm
          have s35 := s3.trans s5
          refine ⟨wipe1 _ _ _, _, rfl, d, rfl, .inr ⟨kvs, .inl (s35 _ _ hkv)⟩, _, rfl, _, rfl, (by show 2 ≤ sizeLine; decide), fun p hp => ⟨(by show 0 ≤ sizeLine; decide), fun l hl => ?_⟩⟩
          have s6 : Same H5 (upd (upd H5 p (.tup [.str (sg (97 + i)), .int (0 + (j : Int))])) l (.lst [])) := (Same.new hp).lay hl
          have hp6 : upd (upd H5 p (.tup [.str (sg (97 + i)), .int (0 + (j : Int))])) l (.lst []) p = some (.tup ((gkey (97 + i) (0 + (j : Int))).map kV)) := by
            rw [upd_ne (ne_of_none upd_same hl), upd_same]
            rfl
          rw [← Int.zero_add (j : Int)] at hb2
          have nD : ∀ {a : Addr} {o : HO}, H2 a = some o → a ≠ D ∧ a ≠ D2 := fun e => ⟨ne_of_none e hD, ne_of_none (s3 _ _ e) hD2⟩
          rcases hfo (97 + i) (0 + (j : Int)) with ⟨g0, g1⟩ | ⟨a, g1, g2, g3⟩
          · refine ⟨none, by rw [← g1]; exact DGet.t (s6 _ _ (s35 _ _ hkv)) hp6, k1 _ _ s6 ⟨l, [], rfl, ?_, upd_same, ?_⟩⟩
            · have hl5 : H5 l = none := (Same.new hp).free hl
              rintro ((z | z) | z)
              · exact In.not' (s2.trans s35) hl5 z
              · rw [z, s5 _ _ hkg] at hl5
                cases hl5
              · rw [z, hu5] at hl5
                cases hl5
            · rw [hb2, g0]
              trivial
          · refine ⟨some (.ref a), by rw [← g1]; exact DGet.t (s6 _ _ (s35 _ _ hkv)) hp6, k1 _ _ s6 ⟨a, _, rfl, ?_, s6 _ _ (s35 _ _ g3), ?_⟩⟩
            · rintro ((z | z) | z)
              · exact g2 (.inl z)
              · exact (nD g3).1 z
              · exact (nD g3).2 z
            · rw [hb2]
              exact ints_rp _
        · have s35 := s3.trans s5
          refine ⟨kg, .inr (sg (97 + i)), rfl, s5 _ _ hkg, (by have := big; omega), fun a o e => ?_, _, upd_same, Nat.le_trans (length_putK _ _ _) (by omega), fun c h1 h2 => ?_⟩
          · rw [upd_ne (ne_of_none e hD)]
            exact s35 a o e
          · have hD2D : D2 ≠ D := fun e => hDD e.symm
            rw [valV_put]
            by_cases hcc : c = 97 + i
            · subst hcc
              rw [if_pos rfl]
              refine ⟨_, rfl, D2, acc, rfl, ?_, by rw [upd_ne hD2D]; exact ha, ?_⟩
              · rintro (z | z)
                · exact In.not' (s2.trans s3) hD2 z
                · exact hD2D z
              · exact (r.monoR (SameN.upd (Or.inl (Or.inr rfl)))).weakR fun b z => .inl z
            · rw [if_neg (fun e => hcc (sg_inj (Sum.inr.inj e)))]
              obtain ⟨v, e1, e2⟩ := hg c h1 (by omega)
              exact ⟨v, e1, Rp.mono (SameN.upd (Or.inr rfl)) (Rp.mono (SameN.of s5) e2)⟩
      · rintro H3 ⟨s3, kg, hkg, hkgl, hg⟩
        refine k D H3 (s2.trans s3) ⟨In.not' s2 hD, kg, hkg, fun c h1 h2 => ?_⟩
        obtain ⟨v, e1, e2⟩ := hg c h1 (by rw [letters_cps]; show c < 97 + 6; omega)
        exact ⟨v, e1, Rp.weak (fun b z => .inl z) e2⟩
end
end Net
/-! A dict comprehension whose keys are tuples (the layer has the one with keys ints and texts). -/
namespace Net
open PySem PySem.Spec PyProof.Rows L2
/-- the store of a comprehension, a tuple as the key -/
theorem dsetT {X : Cx} {pins : List (Addr × Obj)} {σ : L2.St} {H : Hp} {s : Shared} {E : Value → Shared → Prop} {D b : Addr} {kvs : List (List Key × V)} {k : List Key} {v : V} {r : Value} {Q : Unit → Shared → Prop} (hu : X.A.units < cLine) (I : Inv X pins σ H s)
    (hD : H D = some (.dT kvs)) (hb : H b = some (.tup (k.map kV))) (hl : kvs.length < sizeLine) (rv : RelV v r) (h : ∀ s', Inv X pins σ (upd H D (.dT (putK kvs k v))) s' → Q () s') : wpAny (model X.prog X.w) X.A (dictSet D (.ref b) r) Q E s := by
  obtain ⟨z, hd, xs, rel, dd⟩ := dt_of I.hok hD
  have hsz : xs.length ≤ sizeLine := Nat.le_trans (Nat.le_of_eq (Paired.length rel).symm) z
  refine wpAny_dictSet_heap (hsz := hsz) hu (key_of I.hok hb) dd fun h' dd' same => h _ ?_
  obtain ⟨o, es, ep, ho, rest⟩ := dd'
  refine d_write I (by rw [hD]; trivial) same ⟨o, ho⟩ ⟨Nat.le_trans (length_putK kvs k v) hl, hd, _, (rel.put k hb rv).keeps fun c ys ec => ?_, o, es, ep, ho, rest.1, rest.2.1, rest.2.2.1, rest.2.2.2.2⟩
  rw [upd_ne (ne_of ec hD (fun q => nomatch q))]
  exact ec
/-- its reading: D the new dict -/
def tDcT (wi : TI) (g : TG) (tt : TT) (tk tv : TE) (vs : List Nat) : TE := fun σ H Q => wi σ H fun J H1 => ∀ D, H1 D = none → ∃ W : Nat → Nat → Hp → Prop, (∃ m, W 0 m (upd H1 D (.dT []))) ∧ ∀ i m H, W i m H →
  (J.stop i H ∧ Q (.ref D) H) ∨ (J.go i H ∧ ∃ Nx : Hp → Prop, (∀ H', Nx H' → ∃ m', m' < m ∧ W (i + 1) m' H') ∧ ∀ x H', J.yld i H x H' → g x (wipe σ vs) H' fun σ2 H2 => wipe σ2 vs = wipe σ vs ∧ tt σ2 H2 fun b H3 =>
    if b = true then tk σ2 H3 fun y H4 => tv σ2 H4 fun z H5 => ∃ kvs k q, y = .ref q ∧ H5 q = some (.tup (k.map kV)) ∧ H5 D = some (.dT kvs) ∧ kvs.length < sizeLine ∧ Nx (upd H5 D (.dT (putK kvs k z))) else Nx H3)
section
variable {X : Cx}
/-- what the block's loop keeps between its turns -/
def DcI (X B : Cx) (σ : L2.St) (vs : List Nat) (tn : Nat → Heap → Prop) (fp : List Addr) (W : Nat → Nat → Hp → Prop) (n : Nat) (s : Shared) : Prop :=
  ∃ i H, Inv B [] (wipe σ vs) H s ∧ tn i s.heap ∧ (∀ b ∈ fp, H b = none) ∧ W i n H
theorem pe_dcT {kx vx tg iter : Expr} {ifs : List Expr} {scope : Scope} {own : List (Str × Nat)} {pos : Pos} {wi : TI} {g : TG} {tt : TT} {tk tv : TE} (hu : X.A.units < cLine) (hc : X.calm = true) (hN : X.N.Nodup) (hi : PI X tg iter wi) (ok : BlkOk X.N X.env.scope scope own)
    (hg : ∀ (s : Shared) (H : Hp) (C : Addr) (cl : List (Str × Addr)) (fp : List Addr), PG (X.blk s H scope (compEnvC scope cl C X.env) fp) tg g) (ht : ∀ (s : Shared) (H : Hp) (C : Addr) (cl : List (Str × Addr)) (fp : List Addr), PTs (X.blk s H scope (compEnvC scope cl C X.env) fp) ifs tt)
    (hk : ∀ (s : Shared) (H : Hp) (C : Addr) (cl : List (Str × Addr)) (fp : List Addr), PE (X.blk s H scope (compEnvC scope cl C X.env) fp) kx tk)
    (he : ∀ (s : Shared) (H : Hp) (C : Addr) (cl : List (Str × Addr)) (fp : List Addr), PE (X.blk s H scope (compEnvC scope cl C X.env) fp) vx tv) (hs : ∀ x, foldedSetIterable iter X.env x = pure x := by intro _; rfl) :
    PE X (.DictComp kx vx [⟨tg, iter, ifs, 0⟩] scope pos) (tDcT wi g tt tk tv (own.map (·.2))) := by
  refine ⟨fun pins s σ H Q I h => ?_⟩
  rw [arm_eval_DictComp]
  have free : ∀ y ∈ scope.names, y.2 = .free → ∃ c, X.env.cells.lookup y.1 = some c := fun y m e => (ok.free y m e).elim (fun z => I.ok.has _ (.inl z)) fun z => I.ok.has _ (.inr z)
  refine wpAny_comprehension_free (use := none) rfl hs (closure_ok free) ok.kind (fun y m e => (ok.uniq y m).trans (by rw [e])) (thn (hi.run pins s σ H _ I h) fun xv s1 hx => thn hx fun itv s2 h2 => ?_)
  obtain ⟨it, fp, tn, J, H2, rfl, I2, T, st2, f2, q⟩ := h2
  refine wpAny_newObj_type (newEnv_comp ?_)
  obtain ⟨D, hD⟩ : ∃ D, D = s2.heap.objs.size := ⟨_, rfl⟩
  rw [← hD]
  have free2 : H2 D = none := I2.hok.fresh (Nat.le_of_eq hD.symm)
  obtain ⟨W, ⟨m0, w0⟩, turn⟩ := q D free2
  -- the new dict is laid
  have keep2 : ∀ b o, s2.heap.get? b = some o → (s2.heap.push { cls := .type "dict", data := .dict #[] }).get? b = some o := fun b o e => Heap.get?_push_of_some _ e
  have I3 : Inv X pins σ (upd H2 D (.dT [])) { s2 with heap := s2.heap.push { cls := .type "dict", data := .dict #[] } } :=
    I2.laid (t' := s2.toks) keep2 (Nat.le_of_eq hD.symm) (by rw [hD]; exact dt_empty s2.heap I2.big)
  obtain ⟨s3, hs3⟩ : ∃ s3 : Shared, s3 = { s2 with heap := s2.heap.push { cls := .type "dict", data := .dict #[] } } := ⟨_, rfl⟩
  obtain ⟨H3, hH3⟩ : ∃ H3, H3 = upd H2 D (.dT []) := ⟨_, rfl⟩
  rw [← hs3, ← hH3] at I3
  have old : ∀ b ∈ fp, b < s2.heap.objs.size := fun b m => let ⟨_, e, _⟩ := T.obj _ _ st2 b m; Heap.lt_size e
  have f3 : ∀ b ∈ fp, FpOk X pins H3 b ∧ b < s3.heap.objs.size := fun b m => by
    refine ⟨⟨?_, (f2 b m).2⟩, by rw [hs3]; exact Nat.lt_of_lt_of_eq (Nat.lt_succ_of_lt (old b m)) (Heap.size_push _ _).symm⟩
    rw [hH3, upd_ne (fun e => absurd (old b m) (by rw [e, hD]; exact Nat.lt_irrefl _))]
    exact (f2 b m).1
  have st3 : tn 0 s3.heap := T.keep _ _ _ st2 fun b _ o e => by rw [hs3]; exact keep2 b o e
  have I4 := block_start I3 ok hN f3
  obtain ⟨cells, hcl⟩ : ∃ cl, cl = cellsFrom (s3.heap.objs.size + 1) scope.names (cloFrom X.env.cells scope.names []) := ⟨_, rfl⟩
  have pg := hg s3 H3 s3.heap.objs.size cells fp
  have pt := ht s3 H3 s3.heap.objs.size cells fp
  have pk := hk s3 H3 s3.heap.objs.size cells fp
  have pe := he s3 H3 s3.heap.objs.size cells fp
  rw [← hcl] at I4
  obtain ⟨ce, hce⟩ : ∃ ce, ce = compEnvC scope cells s3.heap.objs.size X.env := ⟨_, rfl⟩
  rw [← hce] at I4 pg pt pk pe
  have cL : ce.locals = s3.heap.objs.size := by rw [hce]; rfl
  have stat : ∀ {σ' : L2.St} {H' : Hp} {s' : Shared}, Inv (X.blk s3 H3 scope ce fp) [] σ' H' s' → (∀ b ∈ fp, H' b = none) → ∀ b ∈ fp, FpOk (X.blk s3 H3 scope ce fp) [] H' b := fun {_ _ _} J' no b m =>
    ⟨no b m, (J'.ok.exf b m).1, J'.ok.exfs b m, .inl m, (J'.ok.exf b m).2, fun p hp => absurd (show p ∈ ([] : List (Addr × Obj)) from hp) (fun z => nomatch z)⟩
  obtain ⟨s4, hs4⟩ : ∃ s4 : Shared, s4 = { s3 with heap := pushCells (s3.heap.push { cls := .type "dict", data := .dict #[] }) scope.names } := ⟨_, rfl⟩
  rw [← hs4] at I4
  have st4 : tn 0 s4.heap := T.keep _ _ _ st3 fun b _ o e => by rw [hs4]; exact pushCells_keeps _ _ _ _ (Heap.get?_push_of_some _ e)
  show codeAny _ _ (.compStart (.DictComp kx vx [⟨tg, iter, ifs, 0⟩] scope pos) 0 (.ref it) (.ref D) _) (compPost (model X.prog X.w) X.A X.xe none (EP X pins σ Q) (.ref D) _) _
  have loop : codeAny (model X.prog X.w) X.A (.compLoop (.DictComp kx vx [⟨tg, iter, ifs, 0⟩] scope pos) 0 (.ref it) (.ref D) ce) (compPost (model X.prog X.w) X.A X.xe none (EP X pins σ Q) (.ref D) s3.heap.objs.size) s4 := by
    refine compLoop_anyD (DcI X (X.blk s3 H3 scope ce fp) σ (own.map (·.2)) tn fp W) ?_ m0 ⟨0, H3, I4, st4, fun b m => (f3 b m).1.1, by rw [hH3]; exact w0⟩
    rintro n s5 ⟨i, H5, I5, st5, n5, w5⟩
    rcases turn i n H5 w5 with ⟨stop, qq⟩ | ⟨go, Nx, hNx, step⟩
    · -- the end: back in the def
      refine thnF (T.done (X.blk s3 H3 scope ce fp) rfl rfl rfl hc i [] s5 _ H5 (fun _ _ => False) I5 (stat I5 n5) st5 stop) fun r s6 ⟨hr, I6⟩ => ?_
      subst hr
      have I7 : Inv X pins σ H5 s6 := I3.call' (ch := fp) I6.os I6.base I6.hok I6.bare fun b m => by
        obtain ⟨_, a1, _, a3, a4, a5⟩ := (f3 b m).1
        exact ⟨a3, a1, a4, a5⟩
      have nC : H5 s3.heap.objs.size = none := by
        rw [← cL]
        exact I6.free
      obtain ⟨m, hn, _⟩ := I6.loc
      have hn2 : s6.heap.Ns s3.heap.objs.size m := by
        rw [← cL]
        exact hn
      refine ⟨m, hn2, fun h'' sb => ?_⟩
      obtain ⟨f0, f1, f2', f4, f5, f6⟩ := I3.fpOk (Nat.le_refl _) nC
      exact ⟨.ref D, H5, I7.turned (t' := s6.toks) (fun b o hb e => (sb.2 b hb).trans e) f0 f1 f4 f5 f6, rfl, qq⟩
    · refine thnF (T.item (X.blk s3 H3 scope ce fp) rfl rfl rfl hc i [] s5 _ H5 (fun _ _ => False) I5 (stat I5 n5) st5 go) fun r s6 ⟨u, hr, h6⟩ => ?_
      subst hr
      refine thnF h6 fun _ s7 ⟨x, H7, I7, r7, y7, st7, n7⟩ => ?_
      -- the iterator's records are pinned while the turn runs
      refine thnF (pg.run _ s7 _ H7 x u _ (I7.pinned (stat I7 n7) (T.obj _ _ st7)) r7 (step x H7 y7)) fun _ s8 ⟨σ8, H8, I8, hw, q8⟩ => ?_
      refine thnF (pt.run _ s8 σ8 H8 _ I8 q8) fun b s9 ⟨H9, I9, q9⟩ => ?_
      have fin : ∀ {s' : Shared} {H' : Hp}, Inv (X.blk s3 H3 scope ce fp) ([] ++ pinsAt fp s7.heap) σ8 H' s' → Nx H' → ∃ m, m < n ∧ DcI X (X.blk s3 H3 scope ce fp) σ (own.map (·.2)) tn fp W m s' := fun {s' H'} J' nx => by
        obtain ⟨m', lt, w'⟩ := hNx H' nx
        have pin : ∀ b ∈ fp, ∀ o, s7.heap.get? b = some o → s'.heap.get? b = some o ∧ H' b = none := fun b m o e =>
          have z := J'.pin (b, o) (List.mem_append_right _ (List.mem_append_right _ (mem_pinsAt m e)))
          ⟨z.1, z.2.1⟩
        refine ⟨m', lt, i + 1, H', (J'.unpinned (pins := [])).weak (by rw [← hw, wipe_length]) (fun j v e => ?_), T.keep _ _ _ st7 fun b m o e => (pin b m o e).1, fun b m => ?_, w'⟩
        · exact (wipe_some (vs := own.map (·.2)) (by rw [hw]; exact e)).1
        · obtain ⟨o, e, _⟩ := T.obj _ _ st7 b m
          exact (pin b m o e).2
      cases b with
      | false =>
        rw [if_neg Bool.false_ne_true] at q9
        rw [if_neg Bool.false_ne_true]
        exact fin I9 q9
      | true =>
        rw [if_pos rfl] at q9
        rw [if_pos rfl]
        refine thnF (pk.run _ s9 σ8 H9 _ I9 q9) fun z s10 ⟨yk, H10, I10, r10, q10⟩ => ?_
        refine thnF (pe.run _ s10 σ8 H10 _ I10 q10) fun z2 s11 ⟨yv, H11, I11, r11, kvs, k, kq, ek, hkq, hD11, lt, nx⟩ => ?_
        subst ek
        cases (show z = Value.ref kq from r10)
        exact dsetT (X := X.blk s3 H3 scope ce fp) hu I11 hD11 hkq lt r11 fun s12 I12 => fin I12 nx
  have fin2 := codeAny_compStart_dict loop (T.self X.A 0 _ _ _ st4 loop)
  rw [hs4, hce, hcl, hs3] at fin2
  exact fin2
end
/-- over what is walked: Pv by the turn and the heap (the new dict at D within) -/
theorem dcT_it {J : It} {n : Nat} {G : Hp → Prop} {Y : Nat → Hp → V → Hp → Prop} {g : TG} {tt : TT} {tk tv : TE} {vs : List Nat} {σ : L2.St} {H1 : Hp} {D : Addr} {Qd : Hp → Prop} (w : Walk J n G Y) (Pv : Nat → Hp → Prop) (h0 : Pv 0 (upd H1 D (.dT []))) (hG : ∀ i H, i ≤ n → Pv i H → G H)
    (hs : ∀ i x H H', i < n → Pv i H → Y i H x H' → g x (wipe σ vs) H' fun σ2 H2 => wipe σ2 vs = wipe σ vs ∧ tt σ2 H2 fun b H3 =>
      if b = true then tk σ2 H3 fun y H4 => tv σ2 H4 fun z H5 => ∃ kvs k q, y = .ref q ∧ H5 q = some (.tup (k.map kV)) ∧ H5 D = some (.dT kvs) ∧ kvs.length < sizeLine ∧ Pv (i + 1) (upd H5 D (.dT (putK kvs k z))) else Pv (i + 1) H3) (hd : ∀ H, Pv n H → Qd H) :
    ∃ W : Nat → Nat → Hp → Prop, (∃ m, W 0 m (upd H1 D (.dT []))) ∧ ∀ i m H, W i m H →
      (J.stop i H ∧ Qd H) ∨ (J.go i H ∧ ∃ Nx : Hp → Prop, (∀ H', Nx H' → ∃ m', m' < m ∧ W (i + 1) m' H') ∧ ∀ x H', J.yld i H x H' → g x (wipe σ vs) H' fun σ2 H2 => wipe σ2 vs = wipe σ vs ∧ tt σ2 H2 fun b H3 =>
        if b = true then tk σ2 H3 fun y H4 => tv σ2 H4 fun z H5 => ∃ kvs k q, y = .ref q ∧ H5 q = some (.tup (k.map kV)) ∧ H5 D = some (.dT kvs) ∧ kvs.length < sizeLine ∧ Nx (upd H5 D (.dT (putK kvs k z))) else Nx H3) := by
  refine ⟨fun i m H => m = n - i ∧ i ≤ n ∧ Pv i H, ⟨n, (Nat.sub_zero n).symm, Nat.zero_le n, h0⟩, ?_⟩
  rintro i m H ⟨rfl, hi, p⟩
  have q := hG i H hi p
  rcases Nat.lt_or_ge i n with hlt | hge
  · refine .inr ⟨w.goes i H hlt q, Pv (i + 1), fun H' p' => ⟨n - (i + 1), by omega, rfl, hlt, p'⟩, fun x H' y => hs i x H H' hlt p (w.yields i H x H' hlt q y)⟩
  · obtain rfl : i = n := Nat.le_antisymm hi hge
    exact .inl ⟨w.stops H q, hd H p⟩
end Net
/-! sorted of ties. -/
/-! ### the order -/
namespace Net
def tieLt (t u : Tie) : Bool := if t.x = u.x then (if t.c = u.c then decide (t.y < u.y) else decide (t.c < u.c)) else decide (t.x < u.x)
theorem tieLt_iff {t u : Tie} : tieLt t u = true ↔ t.x < u.x ∨ (t.x = u.x ∧ (t.c < u.c ∨ (t.c = u.c ∧ t.y < u.y))) := by
  unfold tieLt
  by_cases h : t.x = u.x
  · rw [if_pos h]
    by_cases h2 : t.c = u.c
    · rw [if_pos h2, decide_eq_true_eq]
      omega
    · rw [if_neg h2, decide_eq_true_eq]
      omega
  · rw [if_neg h, decide_eq_true_eq]
    omega
theorem tieLt_no {t u : Tie} : tieLt t u = false ↔ ¬ (t.x < u.x ∨ (t.x = u.x ∧ (t.c < u.c ∨ (t.c = u.c ∧ t.y < u.y)))) := by
  rw [← tieLt_iff]
  cases tieLt t u <;> simp
theorem tie_ext {t u : Tie} (h1 : t.x = u.x) (h2 : t.c = u.c) (h3 : t.y = u.y) : t = u := by
  obtain ⟨x, c, y⟩ := t
  obtain ⟨x', c', y'⟩ := u
  cases h1
  cases h2
  cases h3
  rfl
theorem tieLt_tot {t u : Tie} (h : tieLt t u = false) (h2 : tieLt u t = false) : t = u := by
  have a := tieLt_no.mp h
  have b := tieLt_no.mp h2
  exact tie_ext (by omega) (by omega) (by omega)
theorem tieLt_swo {α : Type} (k : α → Tie) : SrtO.Swo fun v u => tieLt (k v) (k u) := by
  refine ⟨fun x y h => ?_, fun x y z h1 h2 => ?_⟩
  · have a := tieLt_iff.mp h
    refine tieLt_no.mpr ?_
    omega
  · have a := tieLt_no.mp h1
    have b := tieLt_no.mp h2
    refine tieLt_no.mpr ?_
    omega
/-- strictly rising -/
abbrev Rise (ts : List Tie) : Prop := ts.Pairwise fun t u => tieLt t u = true
theorem rise_of {ts : List Tie} (h : ts.Pairwise fun t u => tieLt u t = false) (nd : ts.Nodup) : Rise ts := by
  have h2 : ts.Pairwise fun t u => tieLt u t = false ∧ t ≠ u := List.Pairwise.and h nd
  refine h2.imp fun {t u} z => ?_
  cases q : tieLt t u with
  | true => rfl
  | false => exact absurd (tieLt_tot q z.1) z.2
theorem rise_uniq : ∀ {l m : List Tie}, Rise l → Rise m → l.Perm m → l = m
  | [], m, _, _, p => (p.symm.eq_nil).symm
  | x :: l, [], _, _, p => absurd p.length_eq (by simp)
  | x :: l, y :: m, hl, hm, p => by
    have e : x = y := by
      rcases List.mem_cons.mp (p.mem_iff.mp List.mem_cons_self) with e | hx
      · exact e
      rcases List.mem_cons.mp (p.mem_iff.mpr List.mem_cons_self) with e | hy
      · exact e.symm
      have a := tieLt_iff.mp ((List.pairwise_cons.mp hm).1 x hx)
      have b := tieLt_iff.mp ((List.pairwise_cons.mp hl).1 y hy)
      omega
    subst e
    rw [rise_uniq (List.pairwise_cons.mp hl).2 (List.pairwise_cons.mp hm).2 p.cons_inv]
end Net
namespace SrtO
open PySem PyProof.Rows Srt
section
variable {prog : Program} {w : World} {A : Around} {E : Value → Shared → Prop} {s : Shared}
/-- sorted of tuples: their kind is found, any two of them compare as ltv says, where all tuples stand -/
theorem sorted_tupsO {l : Addr} {vs : List Value} {ltv : Value → Value → Bool} {b : Bool} {Q : Value → Shared → Prop} (O : Swo ltv) (hl : s.heap.IsList l vs.toArray) (hz : vs.length ≤ sizeLine)
    (ask : 2 ≤ vs.length → ∀ h' : Heap, (∀ c o, s.heap.get? c = some o → o.cls = .type "tuple" → h'.get? c = some o) →
      (∀ (Q : SortKind → Shared → Prop) (E : Value → Shared → Prop), Q (tuples' b) { s with heap := h' } → wpAny (model prog w) A.in1.in1 (keyKind' vs.toArray) Q E { s with heap := h' }) ∧
      Cmp prog w A.in1.in1 { s with heap := h' } (tuples' b) (fun p => p.1 ∈ vs) (lt2 ltv))
    (h : ∀ (h' : Heap) (d : Addr) (out : List Value), Srtd ltv out → Stb ltv out vs → (∀ b o, s.heap.get? b = some o → h'.get? b = some o) → s.heap.objs.size ≤ d → (∃ n, h'.get? d = some (seqObj "list" out.toArray n)) → Q (.ref d) { s with heap := h' }) :
    wpAny (model prog w) A (call (.builtin "sorted") [.ref l]) Q E s := by
  refine sorted_ord O hl hz (fun h2 h₁ a ha kk h' keep => ⟨tuples' b, ?_⟩) fun out hs hb => h _ _ out hs hb (fun b o e => sortedAll_old e) (Nat.le_succ _) (sortedAll_at s.heap vs out.toArray)
  refine ask h2 h' fun c o e ct => keep c o (fun z => ?_) (kk c o e).2
  subst z
  exact (kk c o e).1 rfl
/-- a tuple (number, sign, number) -/
def IsTie (h : Heap) (v : Value) (t : Net.Tie) : Prop := ∃ a o t1 t2 t3 n, v = .ref a ∧ h.get? a = some o ∧ o.cls = .type "tuple" ∧ o.data = .seq #[.int t.x t1, .str (Net.sg t.c) t2, .int t.y t3] n
theorem IsTie.keeps {h h' : Heap} {v : Value} {t : Net.Tie} (p : IsTie h v t) (k : ∀ b o, h.get? b = some o → o.cls = .type "tuple" → h'.get? b = some o) : IsTie h' v t :=
  let ⟨a, o, t1, t2, t3, n, e, ho, hc, hd⟩ := p
  ⟨a, o, t1, t2, t3, n, e, k _ _ ho hc, hc, hd⟩
theorem sg_beq (c d : Nat) : (Net.sg c == Net.sg d) = decide (c = d) := by
  rw [PySem.W.beq_decide]
  exact decide_eq_decide.mpr ⟨Net.sg_inj, fun e => by rw [e]⟩
theorem sg_lt (c d : Nat) : decide ((Net.sg c).cps.toList < (Net.sg d).cps.toList) = decide (c < d) := by
  refine decide_eq_decide.mpr ?_
  show [c] < [d] ↔ c < d
  rw [List.cons_lt_cons_iff]
  simp
theorem tie_cmp {vs : List Value} {k : Value → Net.Tie} (hp : ∀ v ∈ vs, IsTie s.heap v (k v)) : Cmp prog w A s (tuples' true) (fun p => p.1 ∈ vs) (lt2 fun v u => Net.tieLt (k v) (k u)) := by
  intro p q hm hm'
  obtain ⟨a, o, t1, t2, t3, n, e, ho, hc, hd⟩ := hp _ hm
  obtain ⟨a', o', u1, u2, u3, n', e', ho', hc', hd'⟩ := hp _ hm'
  show wpAny (model prog w) A (keyLt' (tuples' true) p.1 q.1) (fun r s' => s' = s ∧ r = Net.tieLt (k p.1) (k q.1)) (fun _ _ => False) s
  unfold Net.tieLt
  generalize k p.1 = t at hd ⊢
  generalize k q.1 = u at hd' ⊢
  rw [e, e']
  refine PySem.W.kat_lt ho hd ho' hd' (PySem.W.kat_cons (SeqAt.EqAt.int_int _ _ _ _ prog w _ _ (PySem.W.kat_go (fun e1 => ?_) fun e1 => ?_)))
  · have ex : t.x = u.x := by simpa using e1
    rw [if_pos ex]
    refine PySem.W.kat_yes (PySem.W.kat_cons (SeqAt.EqAt.str_str _ _ _ _ prog w _ _ ?_))
    rw [sg_beq]
    refine PySem.W.kat_go (fun e2 => ?_) fun e2 => ?_
    · have ec : t.c = u.c := of_decide_eq_true e2
      rw [if_pos ec]
      refine PySem.W.kat_yes (PySem.W.kat_cons (SeqAt.EqAt.int_int _ _ _ _ prog w _ _ (PySem.W.kat_go (fun e3 => ?_) fun e3 => ?_)))
      · have ey : t.y = u.y := by simpa using e3
        exact PySem.W.kat_yes (PySem.W.kat_nil ⟨rfl, (decide_eq_false (by omega)).symm⟩)
      · exact PySem.W.kat_no (PySem.W.kat_one _ _ (PyProof.Rows.lt_int (show s = s ∧ decide (t.y < u.y) = decide (t.y < u.y) from ⟨rfl, rfl⟩)))
    · have ec : ¬ t.c = u.c := of_decide_eq_false e2
      rw [if_neg ec]
      refine PySem.W.kat_no (PySem.W.kat_one _ _ (PyProof.Rows.lt_str ?_))
      exact (show s = s ∧ decide ((Net.sg t.c).cps.toList < (Net.sg u.c).cps.toList) = decide (t.c < u.c) from ⟨rfl, sg_lt _ _⟩)
  · have ex : ¬ t.x = u.x := by simpa using e1
    rw [if_neg ex]
    exact PySem.W.kat_no (oneLt_int ⟨rfl, rfl⟩)
theorem tie_firsts {h : Heap} {k : Value → Net.Tie} : ∀ {vs : List Value}, (∀ v ∈ vs, IsTie h v (k v)) → ∃ fs : List Value, PySem.W.KatTups h vs fs ∧ fs.length = vs.length ∧ ∀ f ∈ fs, ∃ x t, f = Value.int x t
  | [], _ => ⟨[], PySem.W.KatTups.nil, rfl, fun _ hm => by simp at hm⟩
  | v :: vs, hp => by
    obtain ⟨fs, h1, h2, h3⟩ := tie_firsts (vs := vs) fun u hu => hp u (List.mem_cons_of_mem _ hu)
    obtain ⟨a, o, t1, t2, t3, n, e, ho, hc, hd⟩ := hp v List.mem_cons_self
    rw [e]
    refine ⟨.int (k v).x t1 :: fs, PySem.W.KatTups.cons ho hc hd rfl h1, congrArg Nat.succ h2, fun f hm => ?_⟩
    rcases List.mem_cons.mp hm with rfl | hm
    · exact ⟨_, _, rfl⟩
    · exact h3 f hm
theorem sorted_ties {l : Addr} {vs : List Value} {k : Value → Net.Tie} {Q : Value → Shared → Prop} (hl : s.heap.IsList l vs.toArray) (hz : vs.length ≤ sizeLine) (hp : ∀ v ∈ vs, IsTie s.heap v (k v))
    (h : ∀ (h' : Heap) (d : Addr) (out : List Value), Srtd (fun v u => Net.tieLt (k v) (k u)) out → Stb (fun v u => Net.tieLt (k v) (k u)) out vs → (∀ b o, s.heap.get? b = some o → h'.get? b = some o) → s.heap.objs.size ≤ d → (∃ n, h'.get? d = some (seqObj "list" out.toArray n)) → Q (.ref d) { s with heap := h' }) :
    wpAny (model prog w) A (call (.builtin "sorted") [.ref l]) Q E s := by
  refine sorted_tupsO (b := true) (Net.tieLt_swo k) hl hz (fun h2 h' keep => ?_) h
  have hp' : ∀ v ∈ vs, IsTie h' v (k v) := fun v hm => (hp v hm).keeps keep
  obtain ⟨fs, h1, hlen, h3⟩ := tie_firsts hp'
  refine ⟨fun Q E hq => ?_, tie_cmp (s := { s with heap := h' }) hp'⟩
  refine PySem.W.kat_kind (T := .type "int") h1 (by omega) (fun f hm => ?_) rfl ?_
  · obtain ⟨x, t, rfl⟩ := h3 f hm
    exact PySem.W.Looks.now
  · have e : (Value.type "int" != Value.type "tuple") = true := by first | decide +kernel | rfl | decide
    rw [e]
    exact hq
end
end SrtO
namespace Net
open PySem PySem.Spec PyProof.Rows L2
/-- the tie that stands at a value -/
def tieOf (H : Hp) : V → Tie
  | .ref a => match H a with
    | some (.tup [.int x, .str z, .int y]) => ⟨x, z.cps.getD 0 0, y⟩
    | _ => ⟨0, 0, 0⟩
  | _ => ⟨0, 0, 0⟩
theorem tieOf_at {H : Hp} {a : Addr} {t : Tie} (h : H a = some (.tup t.vs)) : tieOf H (.ref a) = t := by
  show (match H a with
    | some (.tup [.int x, .str z, .int y]) => (⟨x, z.cps.getD 0 0, y⟩ : Tie)
    | _ => ⟨0, 0, 0⟩) = t
  rw [h]
  rfl
/-- sorted(xs), xs a list of unlike ties: a new list -/
def rSortTie : List V → Hp → VK → Prop := fun vs H Q => ∃ (N : Ad) (a : Addr) (xs : List V) (ts : List Tie), vs = [V.ref a] ∧ H a = some (.lst xs) ∧ All2 (rp N H) xs ts ∧ ts.Nodup ∧
  ∀ (ys : List V) (us : List Tie) (p : Addr), All2 (rp N H) ys us → us.Perm ts → Rise us → H p = none → Q (.ref p) (upd H p (.lst ys))
theorem cr_sortTie {X : Cx} : CallR X (.builtin "sorted") rSortTie := by
  intro pins s σ H vs us Q I r h
  obtain ⟨N, a, xs, ts, rfl, ha, hx, hnd, q⟩ := h
  obtain ⟨its, rv, hl, hz⟩ := I.list (SqL.of ha)
  obtain ⟨u, rfl, ru⟩ := vals1 r
  cases (show u = Value.ref a from ru)
  have href : ∀ x ∈ xs, ∃ t, ∃ b, x = V.ref b ∧ ¬ N b ∧ H b = some (.tup (Tie.vs t)) ∧ tieOf H x = t := fun x m => by
    obtain ⟨i, hi, e⟩ := List.mem_iff_getElem.mp m
    obtain ⟨t, _, b, e1, e2, e3⟩ := hx.get' (List.getElem?_eq_some_iff.mpr ⟨hi, e⟩)
    exact ⟨t, b, e1, e2, e3, by rw [e1]; exact tieOf_at e3⟩
  obtain ⟨e1, e2⟩ := refs_back rv fun x m => let ⟨_, b, e, _⟩ := href x m; ⟨b, e⟩
  have ets : ∀ {ys : List V} {vs : List Tie}, All2 (rp N H) ys vs → ys.map (tieOf H) = vs := fun {ys vs} h => by
    induction ys generalizing vs with
    | nil =>
      cases vs with
      | nil => rfl
      | cons _ _ => exact h.elim
    | cons y ys ih =>
      cases vs with
      | nil => exact h.elim
      | cons v vs =>
        obtain ⟨⟨b, e3, _, e4⟩, h2⟩ := h
        rw [List.map_cons, ih h2, e3, tieOf_at e4]
  refine SrtO.sorted_ties (k := fun u => tieOf H (backV u)) hl.isList (by rw [← rv.length]; exact hz) (fun v hv => ?_) fun h' d out h1 h2 kp hd hn => ?_
  · obtain ⟨b, rfl⟩ := e2 v hv
    obtain ⟨t, b', e3, _, hb, et⟩ := href (.ref b) (by rw [e1]; exact List.mem_map.mpr ⟨_, hv, rfl⟩)
    cases e3
    obtain ⟨_, its2, r2, o, ho, hc, n, hd⟩ := I.hok _ _ hb
    show SrtO.IsTie s.heap (.ref b) (tieOf H (.ref b))
    rw [et]
    cases r2 with
    | cons ra r3 =>
      cases r3 with
      | cons rb r4 =>
        cases r4 with
        | cons rc r5 =>
          cases r5
          obtain ⟨t1, rfl⟩ := ra
          obtain ⟨t2, rfl⟩ := rb
          obtain ⟨t3, rfl⟩ := rc
          exact ⟨b, o, t1, t2, t3, n, rfl, ho, hc, hd⟩
  · have h3 : ∀ u ∈ out, ∃ a, u = Value.ref a := fun u hu => e2 u (h2.perm.mem_iff.mp hu)
    obtain ⟨n, hn⟩ := hn
    have hperm : (out.map backV).Perm xs := by
      rw [e1]
      exact h2.perm.map _
    refine ⟨.ref d, upd H d (.lst (out.map backV)), I.laid (t' := s.toks) kp hd ⟨?_, out, n, vals_back h3, hn⟩, rfl, q _ ((out.map backV).map (tieOf H)) d (All2.of_get (by rw [List.length_map (f := tieOf H)]) fun i x t g1 g2 => ?_) ?_ ?_ (I.hok.fresh hd)⟩
    · rw [hperm.length_eq]
      exact hz
    · rw [List.getElem?_map, g1] at g2
      have et := Option.some.inj g2
      obtain ⟨t', b, e3, e4, e5, e6⟩ := href x (hperm.mem_iff.mp (List.mem_of_getElem? g1))
      rw [← et, e6]
      exact ⟨b, e3, e4, e5⟩
    · rw [← ets hx]
      exact hperm.map _
    · refine rise_of ?_ ?_
      · rw [List.map_map]
        exact List.pairwise_map.mpr h1
      · have : ((out.map backV).map (tieOf H)).Perm ts := by
          rw [← ets hx]
          exact hperm.map _
        exact this.nodup_iff.mpr hnd
end Net
namespace Net
open PySem PySem.Spec PyProof.Rows L2
/-! ### stores -/
structure St0 where
  n : Int
  ts : List Tie
  deriving DecidableEq
structure St0.Ok (S : St0) : Prop where
  n1 : 1 ≤ S.n
  n2 : S.n ≤ 40
  rise : Rise S.ts
  ok : ∀ t ∈ S.ts, TieOk S.n t
  few : S.ts.length ≤ 400
theorem tieLt_irr (t : Tie) : tieLt t t = false := tieLt_no.mpr (by omega)
theorem Rise.nodup {ts : List Tie} (h : Rise ts) : ts.Nodup := h.imp fun {a b} z e => by
  rw [e, tieLt_irr] at z
  cases z
def stF (n : Int) (td gd : Addr) : List (Str × V) := putF "own_goals" (.ref gd) (putF "own_ties" (.ref td) (putF "own_nodes" (.int n) []))
theorem nm1 : ¬ (("own_nodes" : Str) = "own_goals") := by decide +kernel
theorem nm2 : ¬ (("own_nodes" : Str) = "own_ties") := by decide +kernel
theorem nm3 : ¬ (("own_ties" : Str) = "own_goals") := by decide +kernel
theorem stF_nodes (n : Int) (td gd : Addr) : (stF n td gd).lookup ("own_nodes" : Str) = some (.int n) := by
  unfold stF
  rw [lookup_putF, if_neg nm1, lookup_putF, if_neg nm2, lookup_putF, if_pos rfl]
theorem stF_ties (n : Int) (td gd : Addr) : (stF n td gd).lookup ("own_ties" : Str) = some (.ref td) := by
  unfold stF
  rw [lookup_putF, if_neg nm3, lookup_putF, if_pos rfl]
theorem stF_goals (n : Int) (td gd : Addr) : (stF n td gd).lookup ("own_goals" : Str) = some (.ref gd) := by
  unfold stF
  rw [lookup_putF, if_pos rfl]
theorem stF_no (n : Int) (td gd : Addr) {m : Str} (h1 : ¬ m = "own_goals") (h2 : ¬ m = "own_ties") (h3 : ¬ m = "own_nodes") : (stF n td gd).lookup m = none := by
  unfold stF
  rw [lookup_putF, if_neg h1, lookup_putF, if_neg h2, lookup_putF, if_neg h3]
  rfl
/-- a store -/
def StAt (K : PySem.W.Frag) (N : Ad) (H : Hp) (v : V) (S : St0) : Prop := ∃ a dx td gd od, v = .ref a ∧ ¬ N a ∧ ¬ N td ∧ H a = some (.ins (ga K "Store") dx (stF S.n td gd)) ∧ H td = some (.frz od (.dT (kvT S.ts))) ∧ GoalsAt N H gd S.n S.ts
theorem StAt.mono {K : PySem.W.Frag} {N : Ad} {H H' : Hp} {v : V} {S : St0} (s : SameN N H H') (h : StAt K N H v S) : StAt K N H' v S :=
  let ⟨a, dx, td, gd, od, e, n1, n2, h1, h2, h3⟩ := h
  ⟨a, dx, td, gd, od, e, n1, n2, s _ _ n1 h1, s _ _ n2 h2, h3.mono s⟩
theorem StAt.weak {K : PySem.W.Frag} {N N' : Ad} {H : Hp} {v : V} {S : St0} (k : ∀ b, N' b → N b) (h : StAt K N H v S) : StAt K N' H v S :=
  let ⟨a, dx, td, gd, od, e, n1, n2, h1, h2, h3⟩ := h
  ⟨a, dx, td, gd, od, e, fun z => n1 (k _ z), fun z => n2 (k _ z), h1, h2, h3.weak k⟩
theorem StAt.fr {K : PySem.W.Frag} {N N' : Ad} {H : Hp} {v : V} {S : St0} (k : ∀ b, N' b → N b ∨ H b = none) (h : StAt K N H v S) : StAt K N' H v S :=
  let ⟨a, dx, td, gd, od, e, n1, n2, h1, h2, h3, kg, h4, h5⟩ := h
  ⟨a, dx, td, gd, od, e, fr_not k n1 h1, fr_not k n2 h2, h1, h2, fr_not k h3 h4, kg, h4, fun c a b => let ⟨v, e, r⟩ := h5 c a b; ⟨v, e, Rp.fr k r⟩⟩
/-- what is asked of ties to be put into a store -/
structure TiesOk (n : Int) (ts : List Tie) : Prop where
  n1 : 1 ≤ n
  n2 : n ≤ 40
  nd : ts.Nodup
  ok : ∀ t ∈ ts, TieOk n t
  few : ts.length ≤ 400
theorem TiesOk.st {n : Int} {ts us : List Tie} (h : TiesOk n ts) (p : us.Perm ts) (r : Rise us) : St0.Ok ⟨n, us⟩ :=
  ⟨h.n1, h.n2, r, fun t m => h.ok t (p.mem_iff.mp m), by show us.length ≤ 400; rw [p.length_eq]; exact h.few⟩
/-- what stands in H, but p -/
abbrev InBut (H : Hp) (p : Addr) : Ad := fun b => (∃ o, H b = some o) ∧ b ≠ p
def spStore (K : PySem.W.Frag) : Sp := fun vs H Q _ => ∃ (p dx a : Addr) (n : Int) (xs : List V) (ts : List Tie), vs = [.ref p, .int n, .ref a] ∧ H p = some (.ins (ga K "Store") dx []) ∧ H a = some (.lst xs) ∧ All2 (rp (fun _ => False) H) xs ts ∧ TiesOk n ts ∧
  ∀ H' us, us.Perm ts → Rise us → SameN (fun b => b = p) H H' → StAt K (InBut H p) H' (.ref p) ⟨n, us⟩ → Q .non H'
section
variable {P : Program} {w : World} {K : PySem.W.Frag} {mg : Str → Option Value} {base : Heap}
theorem sc_Store_init : FnScope ["self", "nodes", "ties", "tie"] ["self", "nodes", "ties"] (defScope s_Store_init) := ⟨rfl, rfl, rfl, by decide +kernel, rfl, by decide +kernel, by decide +kernel⟩
theorem ok_Store_init (T : NT K mg) : Cal P w K mg base (He.ma K (ga K "Store") "__init__") 6 ["self", "nodes", "ties"] (spStore K) := by
  obtain ⟨fd, F⟩ := T.D_Store_init
  obtain ⟨ds, hds, hb⟩ := F.binds1 (ps := ["self", "nodes", "ties"]) 3 1 (by intro z; cases z) rfl (fun Tt kV doc pm an cdv ct us its hl hi => match us, its, hl, hi with
    | [_, _, _], [_], _, _ => ⟨_, rfl, rfl⟩)
  cases hds
  refine Cal.of F hb sc_Store_init (fun vs H Q E h => ?_) (fun cdv A outer s H vs Q E hr h => ?_)
  · obtain ⟨p, dx, a, n, xs, ts, rfl, _⟩ := h
    rfl
  · obtain ⟨p, dx, a, n, xs, ts, rfl, hp, ha, hx, ok, k⟩ := h
    have hu := hr.units0
    have nd := sc_Store_init.nd
    refine ⟨_, pss_cons (ps_expr (pe_f (ok_want_nodes T) T.g_want_nodes (hr.mono (by decide)) (pa_cons (pv 1) pa_nil)))
      (pss_cons (ps_expr (pe_f (ok_want_ties T) T.g_want_ties (hr.mono (by decide)) (pa_cons (pv 1) (pa_cons (pv 2) pa_nil))))
      (pss_cons (ps_fld (pv 0) (pv 1) rfl)
      (pss_cons (ps_fld (pv 0) (pe_dcT (own := [("tie", 3)]) (g := gName 3) (tt := tYes) hu rfl nd (pi_list (pe_b cr_sortTie T.b_sorted (pa_cons (pv 2) pa_nil))) (blkOk_by (N := ["self", "nodes", "ties", "tie"]) (sc := defScope s_Store_init) (by decide +kernel))
        (fun _ _ _ _ _ => pg_name (i := 3) nd rfl (Or.inl rfl)) (fun _ _ _ _ _ => pts_nil) (fun _ _ _ _ _ => pv 3) (fun _ _ _ _ _ => pe_bl)) rfl)
      (pss_freeze (pss_one (ps_fld (pv 0) (pe_f (ok_goals_by T) T.g_goals_by (hr.mono (by decide)) (pa_cons (pv 1) (pa_cons (pe_fld (pv 0) rfl) pa_nil))) rfl)))))), ?_⟩
    refine ⟨_, rfl, n, rfl, ok.n1, ok.n2, _, rfl, _, rfl, n, a, xs, ts, rfl, ha, hx, ok.ok, ok.nd, ok.few, fun H1 s1 => ?_⟩
    refine ⟨_, rfl, _, rfl, p, _, dx, [], rfl, s1 _ _ hp, T.c_Store, T.n_Store_own_nodes, (by show 0 < 1000; decide), ?_⟩
    have hap : a ≠ p := ne_of ha hp (fun z => nomatch z)
    have s2 : SameN (fun b => b = p) H (upd H1 p (.ins (ga K "Store") dx (putF "own_nodes" (.int n) []))) := (SameN.of s1).upd' rfl
    have xat : ∀ x ∈ xs, ∀ t : Tie, rp (fun _ => False) H x t → rp (fun b => b = p) (upd H1 p (.ins (ga K "Store") dx (putF "own_nodes" (.int n) []))) x t := fun x _ t ⟨b, e, _, hb⟩ => by
      have hbp : b ≠ p := ne_of hb hp (fun z => nomatch z)
      exact ⟨b, e, hbp, s2 _ _ hbp hb⟩
    have hx2 : All2 (rp (fun b => b = p) (upd H1 p (.ins (ga K "Store") dx (putF "own_nodes" (.int n) [])))) xs ts := All2.of_get hx.length fun i x t e1 e2 => by
      obtain ⟨t', e3, r⟩ := hx.get' e1
      cases Option.some.inj (e3.symm.trans e2)
      exact xat x (List.mem_of_getElem? e1) t r
    refine ⟨_, rfl, _, a, xs, ts, rfl, s2 _ _ hap ha, hx2, ok.nd, fun ys us q ry hperm hrise hq => ⟨q, rfl, ⟨_, SqL.of upd_same⟩, fun D hD => ?_⟩⟩
    have hqD : q ≠ D := ne_of_none upd_same hD
    have hlen : us.length ≤ 400 := by rw [hperm.length_eq]; exact ok.few
    have s3 : Same (upd H1 p (.ins (ga K "Store") dx (putF "own_nodes" (.int n) []))) (upd (upd H1 p (.ins (ga K "Store") dx (putF "own_nodes" (.int n) []))) q (.lst ys)) := Same.new hq
    refine dcT_it (walk_list (xs := ys)) (fun i H' => Same (upd (upd H1 p (.ins (ga K "Store") dx (putF "own_nodes" (.int n) []))) q (.lst ys)) H' ∧ H' D = some (.dT (kvT (us.take i)))) ⟨Same.new hD, upd_same⟩ (fun i H' _ z => SqL.of (z.1 _ _ upd_same)) ?_ ?_
    · rintro i x H3 H2 hi ⟨s4, hD2⟩ ⟨rfl, e1⟩
      obtain ⟨t, e2, b, rfl, nb, hbt⟩ := ry.get' e1
      have hb2 : H2 b = some (.tup t.vs) := s4 _ _ (s3 _ _ hbt)
      have hnt := nodup_take_not hrise.nodup e2
      refine ⟨wipe1 _ _ _, _, rfl, kvT (us.take i), tkey t, b, rfl, hb2, hD2, kvT_small hlen i, fun c o e => ?_, ?_⟩
      · rw [upd_ne (ne_of_none e hD)]
        exact s4 c o e
      · rw [upd_same, kvT_put hnt, take_succ' e2]
    · rintro H2 ⟨s4, hD2⟩
      have elen : ys.length = us.length := ry.length
      rw [elen, List.take_length] at hD2
      have hDp : D ≠ p := fun z => by
        rw [z] at hD
        rw [s3 _ _ upd_same] at hD
        cases hD
      have hp2 : H2 p = some (.ins (ga K "Store") dx (putF "own_nodes" (.int n) [])) := s4 _ _ (s3 _ _ upd_same)
      refine ⟨_, rfl, p, _, dx, _, rfl, hp2, T.c_Store, T.n_Store_own_ties, (by show 1 < 1000; decide), D, .dT (kvT us), (by rw [upd_ne hDp]; exact hD2), trivial, fun od => ?_⟩
      have s5 : SameN (fun b => b = p) H (upd H2 p (.ins (ga K "Store") dx (putF "own_ties" (.ref D) (putF "own_nodes" (.int n) [])))) := (s2.trans (SameN.of (s3.trans s4))).upd' rfl
      have hD0 : H D = none := by
        cases e : H D with
        | none => rfl
        | some o =>
          have := s3 _ _ (s2 _ _ hDp e)
          rw [hD] at this
          cases this
      have s6 : SameN (fun b => b = p) H (upd (upd H2 p (.ins (ga K "Store") dx (putF "own_ties" (.ref D) (putF "own_nodes" (.int n) [])))) D (.frz od (.dT (kvT us)))) := fun b o nb e => by
        rw [upd_ne (ne_of_none e hD0)]
        exact s5 b o nb e
      have hp6 : upd (upd H2 p (.ins (ga K "Store") dx (putF "own_ties" (.ref D) (putF "own_nodes" (.int n) [])))) D (.frz od (.dT (kvT us))) p = some (.ins (ga K "Store") dx (putF "own_ties" (.ref D) (putF "own_nodes" (.int n) []))) := by rw [upd_ne (Ne.symm hDp), upd_same]
      refine ⟨_, rfl, _, rfl, p, _, dx, _, _, rfl, hp6, T.c_Store, T.n_Store_own_ties, (by rw [lookup_putF, if_pos rfl]), n, D, od, us, rfl, upd_same, (by have := ok.n1; omega), ok.n2, hlen, fun gd H7 s7 hg => ?_⟩
      have hp7 := s7 _ _ hp6
      have hgp : gd ≠ p := fun z => hg.1 (by rw [z]; exact ⟨_, hp6⟩)
      refine ⟨_, rfl, p, _, dx, _, rfl, hp7, T.c_Store, T.n_Store_own_goals, (by
        have h1 := length_putF "own_ties" (.ref D) (putF "own_nodes" (.int n) [])
        have h2 := length_putF "own_nodes" (.int n) []
        show _ < 1000
        simp only [List.length_nil] at h2
        omega), k _ us hperm hrise ((s6.trans (SameN.of s7)).upd' rfl) ⟨p, dx, D, gd, od, rfl, fun z => z.2 rfl, fun z => ?_, upd_same, (by rw [upd_ne hDp]; exact s7 _ _ upd_same), ?_⟩⟩
      · obtain ⟨o, e⟩ := z.1
        rw [hD0] at e
        cases e
      · refine (hg.weak (N' := And1 (InBut H p) p) fun b z => ?_).mono (SameN.upd (Or.inr rfl)) |>.weak fun b z => .inl z
        rcases z with z | z
        · obtain ⟨⟨o, e⟩, ne⟩ := z
          exact ⟨o, s6 b o ne e⟩
        · rw [z]
          exact ⟨_, hp6⟩
end
end Net
/-! Rules that the layer has not: a starred dict with tuple keys, != by an own ==, != of tuples, == of dicts with tuple keys, an own + and - with a tuple at the right, len of a locked dict with tuple keys. -/
namespace KdX
open PySem PyProof.Rows PySem.W PySem.Calls
section
variable {prog : Program} {w : World} {A : Around} {E : Value → Shared → Prop} {s : Shared} {T : String} {r d : Addr} {n : Nat} {P : Nat → Value → Prop} {OK : Heap → Prop}
theorem collect_kdl {Q : List Value → Shared → Prop} (K : KdlSrc prog w T r d n P OK) (hh : A.handled = none) (hok : OK s.heap) (hn : n ≤ sizeLine)
    (hQ : ∀ h' tk acc', (∀ b o, s.heap.get? b = some o → h'.get? b = some o) → ItemsOf P acc' n → Q acc'.toList { s with heap := h', toks := tk }) : wpAny (model prog w) A (collect (.ref r)) Q E s := by
  unfold collect
  refine wpAny_bind (wpAny_runValue (codeAny_builtin PySem.F.entry_proto_collect ?_))
  rw [Around.under_plainId PySem.F.plain_proto_collect _]
  show wpAny _ A.in1 (newList [] >>= fun l => again (.builtin "list.__iadd__" ⟨[l, .ref r], []⟩)) _ _ s
  refine wpAny_bind (wpAny_newObj_type ?_)
  refine wpAny_pure ⟨plainId_quiet PySem.F.plain_list_iadd _, codeAny_builtin PySem.F.entry_list_iadd ?_⟩
  rw [Around.under_plainId PySem.F.plain_list_iadd _]
  show wpAny _ A.in1 (Builtin.List.listExtendWith (.ref s.heap.objs.size) (.ref r) (.ref s.heap.objs.size)) _ _ _
  have hlt := K.there _ hok
  have fin' : ∀ (h' : Heap) (tk : Nat) (acc' : Array Value) (c' : Nat), (∀ b o, b ≠ s.heap.objs.size → (s.heap.push { cls := .type "list", data := .seq ([] : List Value).toArray }).get? b = some o → h'.get? b = some o) →
      h'.get? s.heap.objs.size = some { cls := .type "list", dict := none, data := .seq acc' c', slots := #[] } → ItemsOf P acc' n → wpAny (model prog w) A (match Value.ref s.heap.objs.size with
      | Value.ref a => do
        match (← load a).data with
          | Data.seq xs _ => pure xs.toList
          | _ => unsupported "internal:collect"
      | _ => unsupported "internal:collect") Q E { s with heap := h', toks := tk } := fun h' tk acc' c' hk hS' hacc => by
    show wpAny _ A (load s.heap.objs.size >>= _) _ _ _
    refine wpAny_bind (wpAny_load hS' ?_)
    exact wpAny_pure (hQ _ _ _ (fun b o e => hk b o (Nat.ne_of_lt (Heap.lt_size e)) (Heap.get?_push_of_some _ e)) hacc)
  refine wpAny_mono (kdl_extend (A := A) (R := fun r s' => r = .ok (.ret (.ref s.heap.objs.size)) ∧ ∃ (h' : Heap) (tk : Nat) (acc' : Array Value) (c' : Nat), s' = { s with heap := h', toks := tk } ∧ (∀ b o, b ≠ s.heap.objs.size → (s.heap.push { cls := .type "list", data := .seq ([] : List Value).toArray }).get? b = some o → h'.get? b = some o) ∧
      h'.get? s.heap.objs.size = some { cls := .type "list", dict := none, data := .seq acc' c', slots := #[] } ∧ ItemsOf P acc' n)
    (s := { s with heap := s.heap.push { cls := .type "list", data := .seq ([] : List Value).toArray } }) K hh (K.keep _ _ hok fun b _ o e => Heap.get?_push_of_some _ e) s.heap.objs.size (Nat.ne_of_gt hlt.1) (Nat.ne_of_gt hlt.2) (.ref s.heap.objs.size) 0
    (show (s.heap.push { cls := .type "list", data := .seq #[] }).get? s.heap.objs.size = _ from Heap.get?_push_size _ rfl) (fun h' tk acc' c' hk hS' hacc => ⟨rfl, h', tk, acc', c', rfl, hk, hS', hacc⟩) hn) (fun fin s' h => ?_) (fun e s' h => ?_)
  · cases fin with
    | done f =>
      obtain ⟨e, h', tk, acc', c', rfl, hk, hS', hacc⟩ := h
      cases e
      exact fin' h' tk acc' c' hk hS' hacc
    | again c' => exact ⟨h.1, codeAny_mono h.2 fun r s'' hr => by obtain ⟨rfl, h', tk, acc', c', rfl, hk, hS', hacc⟩ := hr; exact fin' h' tk acc' c' hk hS' hacc⟩
  · exact absurd h.1 (by simp)
end
end KdX
namespace Net
open PySem PySem.Spec PyProof.Rows L2
section
variable {X : Cx} {pins : List (Addr × Obj)} {σ : L2.St} {H : Hp} {s : Shared}
theorem star_dT {d : Addr} {kvs : List (List Key × V)} {E : Value → Shared → Prop} {Q : List Value → Shared → Prop} (hc : X.calm = true) (I : Inv X pins σ H s) (h : Rd H d (.dT kvs)) (hQ : ∀ bs us s', Inv X pins σ H s' → IsKeys H kvs bs → Vals (bs.map V.ref) us → Q us s') : PySem.W.StarOf (model X.prog X.w) X.A E (.ref d) Q s := by
  obtain ⟨z, hs, ks, pr, o, es, ep, ho, hx, hdt, he, hn⟩ := (show ObjOk X.prog X.w H s.heap d (.dT kvs) from h.ok I.hok)
  have l1 : es.size = ks.length := size_of_entries he
  have l2 : kvs.length = ks.length := Paired.length pr
  have hT : s.TypeIs (.ref d) "dict" := ⟨o, ho, hx.1⟩
  have zz : wpAny (model X.prog X.w) X.A (collect (.ref d)) Q E s := by
    refine KdX.collect_kdl (kdl_raw hs hx hdt) (I.ok.hd hc) ho (by omega) fun h' tk acc' kp it => ?_
    have ea : acc'.toList = ks.map fun x => Value.ref x.2.1 := by
      have hl : acc'.toList.length = ks.length := by rw [Array.length_toList, it.1]; exact l1
      apply List.ext_getElem?
      intro j
      rw [List.getElem?_map]
      cases hj : acc'.toList[j]? with
      | none =>
        have h1 := List.getElem?_eq_none_iff.mp hj
        rw [List.getElem?_eq_none (by omega)]
        all_goals rfl
      | some v =>
        obtain ⟨en, hen, hv⟩ := it.2 j v (by rw [← Array.getElem?_toList]; exact hj)
        have qe := entry_at he j
        rw [hen] at qe
        cases hb : ks[j]? with
        | none =>
          rw [hb] at qe
          exact nomatch (show some en = none from qe)
        | some b =>
          rw [hb] at qe
          have e2 : en = entryOfKey (tupleKind (mixKind X.prog X.w)) b := Option.some.inj qe
          rw [hv, e2]
          all_goals rfl
    have eb : acc'.toList = (ks.map fun x => x.2.1).map Value.ref := by rw [ea, List.map_map]; all_goals rfl
    refine hQ _ _ _ (I.kept (t' := tk) kp) (isKeys_of pr) ?_
    rw [eb]
    exact vals_refs _
  unfold PySem.W.StarOf notIterableAtAll
  exact wpAny_bind (wpAny_specialOf hT PySem.F.slot_dict_iter.lookup (wpAny_pure ⟨rfl, zz⟩))
end
/-- *d in a display, d a dict with tuple keys: the key tuples -/
def tStarD (te : TE) (t : TA) : TA := fun σ H Q => te σ H fun x H1 => ∃ p kvs, x = V.ref p ∧ Rd H1 p (.dT kvs) ∧ ∀ bs, IsKeys H1 kvs bs → t σ H1 fun ys H2 => Q (bs.map V.ref ++ ys) H2
section
variable {X : Cx} {e : Expr} {es : List Expr} {te : TE} {t : TA} {p : Pos}
theorem pa_starD (hc : X.calm = true) (he : PE X e te) (hr : PA X es t) (hs : starEach (.Starred e p :: es) X.env = (true, eval e X.env) :: starEach es X.env := by rfl) : PA X (.Starred e p :: es) (tStarD te t) := by
  refine ⟨fun pos pins s σ H Q I h => ?_⟩
  refine PySem.W.items_star (thn (he.run pins s σ H _ I h) fun v s1 ⟨y, H1, I1, ry, a, xs, ey, hx, q⟩ => ?_) hs
  subst ey
  obtain rfl : v = Value.ref a := ry
  refine star_dT hc I1 hx fun bs us s2 I2 hk rv => ?_
  exact thn (hr.run pos pins s2 σ H1 _ I2 (q bs hk)) fun ws s3 ⟨vs, H3, I3, r3, q3⟩ => ⟨bs.map V.ref ++ vs, H3, I3, rv.append r3, q3⟩
end
/-! ### len of a dict with tuple keys, locked or not -/
def rLenD : List V → Hp → VK → Prop := fun xs H Q => ∃ (p : Addr) (kvs : List (List Key × V)), xs = [.ref p] ∧ Rd H p (.dT kvs) ∧ Q (.int ((kvs.length : Nat) : Int)) H
theorem call_lenD {X : Cx} : CallR X (.builtin "len") rLenD := by
  intro pins s σ H xs us Q I r h
  obtain ⟨p, kvs, rfl, hp, q⟩ := h
  obtain ⟨u, rfl, rx⟩ := vals1 r
  obtain rfl : u = .ref p := rx
  obtain ⟨z, hd, ys, rel, dd⟩ := dt_rd I.hok hp
  have hl : kvs.length = ys.length := Paired.length rel
  refine call_len_dictH hd dd (by rw [← hl]; rw [sizeLine_eq] at z; omega) ?_
  rw [← hl]
  exact ⟨.int ((kvs.length : Nat) : Int), H, I.tok _, ⟨_, rfl⟩, q⟩
end Net
namespace NeX
open PySem PyProof.Rows PySem.W PySem.Calls
section
variable {prog : Program} {w : World} {A : Around} {E : Value → Shared → Prop} {s : Shared} {K : Frag} {x y C L f : Addr} {h₀ : Heap} {m : Str → Option Value} {ox oy : Obj} {od od' : Option Obj}
theorem ne_bind (self : Value) : bindSpecial (.builtin "object.__ne__") self = pure (.builtin "object.__ne__", [self]) := PySem.F.cmp_object.ne.bind self
theorem ifBound_ne {M : Model} {args : List Value} {Q : Option Value → Shared → Prop} (X : K.In s.heap) (I : InstAt s.heap x ox C od) (hs : findIn K (.ref C) "__ne__" = some (some (.builtin "object.__ne__")))
    (h : wpAny M A (call (.builtin "object.__ne__") (.ref x :: args)) (fun v => Q (some v)) E s) : wpAny M A (callSpecialIfBound? (.ref x) "__ne__" args) Q E s := by
  simp only [callSpecialIfBound?, bindSpecialIfBound?]
  refine wpAny_holding (wpAny_bind (wpAny_bind (wpAny_bind (I.type.here ((looks_findIn X hs).here ?_)))))
  refine wpAny_bind (wpAny_askSetting (wpAny_ite ?_))
  have fin : wpAny M A (call (.builtin "object.__ne__") ([.ref x] ++ args) >>= fun v => pure (some v)) Q E s := wpAny_bind (wpAny_mono h (fun v s' h' => wpAny_pure h') fun _ _ h' => h')
  have L := Looks.of_pure (M := M) (h := s.heap) (ne_bind (.ref x))
  split
  · exact wpAny_bind (L.here (wpAny_pure (by exact fin)))
  · exact wpAny_tryCatch (wpAny_bind (L.here (wpAny_pure (by exact fin))))
theorem objNe {R : Fin → Shared → Prop} (X : K.In s.heap) (I : InstAt s.heap x ox C od) (hs : findIn K (.ref C) "__eq__" = some (some (.ref f))) (hf : isFn K (.ref f) = true) (hu : A.units < cLine)
    (h : wpAny (model prog w) A (call (.ref f) [.ref x, .ref y]) (fun v s' => ∃ b, v = .bool b ∧ R (.done (.ret (.bool (!b)))) s') E s) : wpAny (model prog w) A (Builtin.«object.__ne__» ⟨[.ref x, .ref y], []⟩) R E s := by
  unfold Builtin.«object.__ne__»
  have call1 : ∀ {Q : Option Value → Shared → Prop}, (∀ (b : Bool) s', R (.done (.ret (.bool (!b)))) s' → Q (some (.bool b)) s') → wpAny (model prog w) A (callSpecialIfBound? (.ref x) (Str.ofString "__eq__") [.ref y]) Q E s := fun hQ =>
    ifBound_K X I hs hf (wpAny_mono h (fun v s' ⟨b, e, q⟩ => by subst e; exact hQ b s' q) fun _ _ z => z)
  refine wpAny_bind (wpAny_pure ?_)
  dsimp only
  refine wpAny_bind (wpAny_cRoomFor hu ?_)
  refine wpAny_bind (call1 fun b s' q => ?_)
  refine wpAny_bind (wpAny_truthy_bool ?_)
  exact wpAny_pure q
theorem ne_K {Q : Value → Shared → Prop} (hu : A.units + 1 < cLine) (F : Fr h₀ L s.heap m) (X₀ : K.In h₀) (I : InstAt s.heap x ox C od) (I' : InstAt s.heap y oy C od') (hn : findIn K (.ref C) "__ne__" = some (some (.builtin "object.__ne__"))) (hm : mroIn K C (.type "object") = some true)
    (hs : findIn K (.ref C) "__eq__" = some (some (.ref f))) (hf : isFn K (.ref f) = true)
    (h : wpAny (model prog w) A.in1 (call (.ref f) [.ref x, .ref y]) (fun v s' => ∃ b, v = .bool b ∧ Q (.bool (!b)) s') E s) : wpAny (model prog w) A (richCompare .NotEq (.ref x) (.ref y)) Q E s := by
  have X := X₀.keeps F.keep
  have one : wpAny (model prog w) A (tryCompare (.ref x) (Str.ofString "__ne__") (.ref y)) (fun r s' => ∃ v, r = some v ∧ Q v s') E s := by
    unfold tryCompare
    refine wpAny_bind (ifBound_ne X I hn (wpAny_call (codeAny_call_builtin PySem.F.cmp_object.ne.plain PySem.F.cmpEntry_ne
      (check_slot PySem.F.cmpKind_ne PySem.F.cmpSplit_ne (I.type.andThen (looks_mroIn X hm)) (PySem.F.cmpArgs_ne _ _) (objNe (A := A.in1) X I hs hf hu (wpAny_mono h (fun v s' ⟨b, e, q⟩ => ?_) fun _ _ z => z))))))
    exact ⟨b, e, wpAny_pure ⟨_, rfl, q⟩⟩
  unfold richCompare
  simp only [oneThing_ref]
  refine wpAny_holding (wpAny_bind (wpAny_cRoomFor (Nat.lt_of_succ_lt hu) ?_))
  refine wpAny_bind (I.type.here (wpAny_bind (I'.type.here ?_)))
  rw [show (Value.ref C != Value.ref C) = false from by simp]
  simp only [Bool.false_eq_true, if_false]
  refine wpAny_bind (wpAny_pure ?_)
  simp only [Bool.false_eq_true, if_false]
  refine wpAny_bind (wpAny_mono one (fun r s' z => ?_) fun _ _ e => e)
  obtain ⟨v, rfl, hq⟩ := z
  exact wpAny_pure hq
end
section
variable {prog : Program} {w : World} {A : Around} {E : Value → Shared → Prop} {s : Shared} {R : Result → Shared → Prop}
theorem tuple_neG (l b : Addr) (items items2 : Array Value) (n n2 : Nat) (dd dd2 : Option Addr) (sl sl2 : Array (Option Value)) (hsz : items.size = items2.size) (I : Nat → Shared → Prop)
    (turn : ∀ i (h1 : i < items.size) (h2 : i < items2.size) s, I i s → wpAny (model prog w) A.in1 (eqBool items[i] items2[i]) (fun r s' => r = true ∧ I (i + 1) s') (fun e s' => R (.error e) s') s)
    (fin : ∀ s, I items.size s → R (.ok (.ret (.bool false))) s) {s : Shared} (hl1 : s.heap.get? l = some { cls := .type "tuple", dict := dd, data := .seq items n, slots := sl }) (hb1 : s.heap.get? b = some { cls := .type "tuple", dict := dd2, data := .seq items2 n2, slots := sl2 }) (h : I 0 s) :
    wpAny (model prog w) A.in1 (Builtin.«tuple.__ne__» ⟨[.ref l, .ref b], []⟩) (GQ.FinOf prog w A R) (fun e s' => R (.error e) s') s := by
  have f2 := AutoSeq1.sub_tuple_tuple
  have hZ : (items.toList.zip items2.toList).length = items.size := by simp [hsz]
  have h0 := h
  obtain ⟨hp, g, d, tk, os⟩ := s
  wp_walk using AutoSeq1.wpAny_loadPart' hl1, AutoSeq1.wpAny_loadPart' hb1, wpAny_forIn_list _ (fun rest b s' => b.1 = none ∧ ∃ i, rest = (items.toList.zip items2.toList).drop i ∧ i ≤ items.size ∧ I i s') _
  case turn =>
    rintro ⟨y, x⟩ rest b s' ⟨hb', i, hz, hi, hI⟩
    have hlt : i < (items.toList.zip items2.toList).length := by
      rcases Nat.lt_or_ge i (items.toList.zip items2.toList).length with h' | h'
      · exact h'
      · rw [List.drop_of_length_le h'] at hz; cases hz
    have h1 : i < items.size := hZ ▸ hlt
    have h2 : i < items2.size := hsz ▸ h1
    rw [List.drop_eq_getElem_cons hlt] at hz
    injection hz with hyx hrest
    have hy : y = items[i] := by have := congrArg Prod.fst hyx; simpa using this
    have hx : x = items2[i] := by have := congrArg Prod.snd hyx; simpa using this
    subst hy hx
    refine wpAny_bind (wpAny_mono (turn i h1 h2 s' hI) (fun r s2 q2 => ?_) fun _ _ x => x)
    obtain ⟨hr, q2⟩ := q2
    subst hr
    wp_walk
    exact ⟨rfl, i + 1, hrest, h1, q2⟩
  case fin =>
    rintro ⟨b1, b2⟩ s' ⟨hb', i, hz, hi, hI⟩
    simp only at hb'
    subst hb'
    have hge : items.size ≤ i := by
      rcases Nat.lt_or_ge i (items.toList.zip items2.toList).length with h' | h'
      · rw [List.drop_eq_getElem_cons h'] at hz; cases hz
      · exact hZ ▸ h'
    have hi' : i = items.size := by omega
    have hR : R (.ok (.ret (.bool false))) s' := fin s' (hi' ▸ hI)
    wp_walk
    simpa [Builtin.Tuple.tupleCompareSizes, hsz] using hR
  case h =>
    exact ⟨rfl, 0, rfl, Nat.zero_le _, h0⟩
theorem rn_tupG {l b : Addr} {items items2 : Array Value} {Q : Value → Shared → Prop} (hsz : items.size = items2.size) (hu : A.units < cLine) (I : Nat → Shared → Prop)
    (hl : s.heap.IsTuple l items) (hb : s.heap.IsTuple b items2)
    (turn : ∀ i (h1 : i < items.size) (h2 : i < items2.size) s, I i s → wpAny (model prog w) A.in1 (eqBool items[i] items2[i]) (fun r s' => r = true ∧ I (i + 1) s') E s)
    (fin : ∀ s, I items.size s → Q (.bool false) s) (h : I 0 s) : wpAny (model prog w) A (richCompare .NotEq (.ref l) (.ref b)) Q E s := by
  obtain ⟨⟨cls, dd, data, sl⟩, ho, hc, n, hd⟩ := id hl
  obtain ⟨⟨cls2, dd2, data2, sl2⟩, ho2, hc2, n2, hd2⟩ := id hb
  simp only at hc hd hc2 hd2
  subst hc hd hc2 hd2
  refine wpAny_richCompare_same_room (op := .NotEq) ⟨_, ho, rfl⟩ ⟨_, ho2, rfl⟩ PySem.F.slot_tuple_ne (GQ.call_here PySem.F.slot_tuple_ne ⟨_, ho, rfl⟩ PySem.F.entry_tuple_ne (PySem.F.args_tuple_ne_2 _ _) ?_) hu
  exact tuple_neG (R := wants (fun v s' => v ≠ .notImplemented ∧ Q v s') E) l b items items2 n n2 dd dd2 sl sl2 hsz I turn (fun s' q => ⟨(fun x => nomatch x), fin s' q⟩) ho ho2 h
end
end NeX
namespace Net
open PySem PySem.Spec PyProof.Rows L2
section
variable {X : Cx} {n : Nat} {D : Eqv}
/-- x != y of tuples that are equal -/
def rNeG (D : Eqv) : R2 := fun x y H Q => D x y H ∧ ∀ H', Ext H H' → Q (.bl false) H'
theorem op_neTupG (hD : Mon D) (h : EqG X n D) (hr : Room (n + 1) X.A) : OpR X (compareOp .NotEq) (rNeG (DTup X.K D)) := by
  intro pins s σ H x y u v Q I rx ry hq
  obtain ⟨⟨a, b, xs, ys, rfl, rfl, ha, hb, p⟩, q⟩ := hq
  cases rx
  cases ry
  obtain ⟨its, r, e, z⟩ := I.tuple ha
  obtain ⟨its2, r2, e2, z2⟩ := I.tuple hb
  have hsz : its.toArray.size = its2.toArray.size := by rw [List.size_toArray, List.size_toArray, ← r.length, ← r2.length]; exact p.1
  show wpAny (model X.prog X.w) X.A (richCompare .NotEq _ _) (EP X pins σ Q) X.xe s
  refine NeX.rn_tupG hsz hr.units0 (fun _ s' => LoopI X pins σ H s') e e2 (fun i h1 h2 s' q => turnG hD h ⟨hr, rfl⟩ p r r2 i h1 h2 s' q) (fun s' ⟨H', I', e⟩ => ⟨.bl false, H', I', rfl, q H' e⟩) ⟨H, I, Ext.rfl'⟩
/-- x != y of instances of one class with an own == and object's != -/
theorem op_neInsG {CX : CXT} {C f : Addr} {fd : FuncData} {ps : List Str} {R : Addr → Addr → Hp → Prop} {E : XK} (F : FnOk X.prog X.w X.K X.mg X.base CX n f fd ps (spEq R))
    (hs : PySem.W.findIn X.K (.ref C) "__eq__" = some (some (.ref f))) (hf : PySem.W.isFn X.K (.ref f) = true) (hb : Binds X.K fd ps []) (hx : Passes CX X E)
    (hn : PySem.W.findIn X.K (.ref C) "__ne__" = some (some (.builtin "object.__ne__"))) (hm : PySem.W.mroIn X.K C (.type "object") = some true) (hr : Room (n + 1) X.A) : OpR X (compareOp .NotEq) (rNeG (DIns C R)) := by
  intro pins s σ H x y u v Q I rx ry hq
  obtain ⟨⟨a, b, dx, dy, fs, gs, rfl, rfl, ha, hb', hrr⟩, q⟩ := hq
  cases rx
  cases ry
  obtain ⟨mA, J, _⟩ := ins_get I.hok ha
  obtain ⟨mB, J', _⟩ := ins_get I.hok hb'
  obtain ⟨od, J, _⟩ := J.look
  obtain ⟨od', J', _⟩ := J'.look
  obtain ⟨m, hF⟩ := I.fr
  show wpAny (model X.prog X.w) X.A (richCompare .NotEq _ _) (EP X pins σ Q) X.xe s
  refine NeX.ne_K hr.in1.units0 hF I.ok.mod.kin J J' hn hm hs hf ?_
  have hsp : spEq R [.ref a, .ref b] H (fun v H' => v = .bl true ∧ Ext H H') E := ⟨a, b, rfl, hrr, fun H' e => ⟨rfl, e⟩⟩
  have e0 : Env0 X.prog X.w X.K X.mg X.base X.A.in1 X.stack s H := by
    have e := I.env0
    exact ⟨e.frames, e.mod, e.bs, e.bsz, e.funs, e.frf, e.hok, e.bare⟩
  have hl := F.len _ _ _ _ hsp
  have r2 : Vals [V.ref a, V.ref b] [Value.ref a, Value.ref b] := .cons rfl (.cons rfl .nil)
  refine wpAny_call (codeAny_mono (F.run X.A.in1 X.stack s H ⟨[.ref a, .ref b], []⟩ [.ref a, .ref b] [.ref a, .ref b] _ E hr.in1 e0 (by
    have := hb s [.ref a, .ref b] I.kIn (by simpa using hl)
    simpa using this) r2 hsp) fun r s' hq => ?_)
  cases r with
  | error e => exact hx pins σ H s e s' I hq
  | ok fl =>
    cases fl with
    | ret w =>
      obtain ⟨z, H', I', rz, ez, ex⟩ := I.after hq
      subst ez
      cases rz
      exact ⟨true, rfl, .bl false, H', I', rfl, q H' ex⟩
    | next => exact False.elim hq
    | brk => exact False.elim hq
    | cont => exact False.elim hq
end
end Net
namespace BnX
open PySem PyProof.Rows PySem.W PySem.Calls
section
variable {prog : Program} {w : World} {A : Around} {E : Value → Shared → Prop} {s : Shared} {K : Frag} {x C L f : Addr} {h₀ : Heap} {m : Str → Option Value} {ox : Obj} {od : Option Obj} {T : String}
theorem bin_own {op : Operator} {b : Value} {fo ro rc : Option Value} {Q : Value → Shared → Prop} (F : Fr h₀ L s.heap m) (X₀ : K.In h₀) (I : InstAt s.heap x ox C od) (hb : Looks (model prog w) s.heap (typeOf b) (.type T)) (hc : selfFirst K C = true)
    (hs : findIn K (.ref C) (PySem.dunder op.info.2) = some (some (.ref f))) (hf : isFn K (.ref f) = true) (hr : findIn K (.ref C) (dunderR op.info.2) = some rc) (hp : rc = none ∨ ∃ g : Addr, rc = some (.ref g))
    (h1 : findIn K (.type T) (PySem.dunder op.info.2) = some fo) (h2 : findIn K (.type T) (dunderR op.info.2) = some ro) (hsub : subIn K (.type T) (.ref C) = some false)
    (h : wpAny (model prog w) A (call (.ref f) [.ref x, b]) (PySem.W.CmpBack Q) E s) : wpAny (model prog w) A (binaryOp op (.ref x) b) Q E s := by
  have X := X₀.keeps F.keep
  obtain ⟨cd, rest, hcd, hm⟩ := ksp_first hc
  rcases hi : op.info with ⟨sym, nm'⟩
  rw [hi] at hs hr h1 h2
  dsimp only at hs hr h1 h2
  have one := ksp_try X I hs hf h
  obtain ⟨hh, g, d, tt, os⟩ := s
  have L1 : Looks (model prog w) hh (typeOf (.ref x)) (.ref C) := I.type
  have L2 : Looks (model prog w) hh (typeOf b) (.type T) := hb
  have L3 : Looks (model prog w) hh (fillsNumberSlot (.ref C) nm') true := fills_K X hcd hm hs
  have L4 : Looks (model prog w) hh (fillsNumberSlot (.type T) nm') ((fo.isSome && !isSeqSlot fo) || (ro.isSome && !isSeqSlot ro)) := ksp_fillsT X h1 h2
  have L5 : Looks (model prog w) hh (isSubtype (.type T) (.ref C)) false := looks_subIn X hsub
  have L6 : Looks (model prog w) hh (numberSlotInPython (.ref C) nm') true := ksp_inPy X hs hr hp
  have L7 : Looks (model prog w) hh (numberSlotInPython (.type T) nm') false := Looks.of_pure rfl
  have L8 : Looks (model prog w) hh (typeLookup (.type T) (dunderR nm')) ro := looks_findIn X h2
  generalize ((fo.isSome && !isSeqSlot fo) || (ro.isSome && !isSeqSlot ro)) = right at L4
  have hne : (Value.ref C == Value.type T) = false := Bool.eq_false_iff.mpr fun q => by cases beq_iff_eq.mp q
  simp only [binaryOp, hi]
  refine wpAny_holding (wpAny_bind ?_)
  unfold binaryOp1
  refine wpAny_bind (L1.at (wpAny_bind (L2.at (wpAny_bind (L3.at ?_)))))
  simp only [hne, Bool.false_eq_true, if_false]
  cases right with
  | false =>
    ksp_lk
    refine wpAny_mono one (fun r s' hr' => ?_) fun _ _ e => e
    obtain ⟨v, rfl, hq⟩ := hr'
    ksp_lk
    exact hq
  | true =>
    ksp_lk
    refine wpAny_mono one (fun r s' hr' => ?_) fun _ _ e => e
    obtain ⟨v, rfl, hq⟩ := hr'
    ksp_lk
    exact hq
end
section
variable {prog : Program} {w : World} {κ : Type} [DecidableEq κ] {knd : HeapKind prog w κ} {A : Around} {E : Value → Shared → Prop} {s : Shared}
theorem samePairsH {nm : String} {a b : Addr} {xs ys : List (κ × Addr × Value)} {Q : Bool → Shared → Prop} (hu : knd.room A) (ha : (a == sysModules) = false) (hb : (b == sysModules) = false)
    (da : s.heap.DictOfH knd a xs) (db : s.heap.DictOfH knd b ys) (hlen : xs.length = ys.length) (hits : ∀ x ∈ xs, ∃ p, (x.1, p) ∈ ys) (vals : ∀ x ∈ xs, ∀ y ∈ ys, SeqAt.EqAt A s x.2.2 y.2.2 true) (h : Q true s) :
    wpAny (model prog w) A (Builtin.Dict.samePairs nm a b) Q E s := by
  obtain ⟨oa, es, ep, hoa, _, hda, hea, hka, hna⟩ := da
  obtain ⟨ob, es', ep', hob, _, hdb, heb, hkb, hnb⟩ := db
  have hla : es.size = xs.length := size_of_entries hea
  have hlb : es'.size = ys.length := size_of_entries heb
  unfold Builtin.Dict.samePairs Builtin.Dict.showsAll
  rw [if_neg (show ¬ (a == sysModules) = true by rw [ha]; exact Bool.false_ne_true), if_neg (show ¬ (b == sysModules) = true by rw [hb]; exact Bool.false_ne_true)]
  refine wpAny_bind (wpAny_pure (wpAny_bind (wpAny_pure ?_)))
  refine wpAny_bind (wpAny_dictEntries hoa hda ?_)
  dsimp only
  refine wpAny_bind (wpAny_dictEntries hob hdb ?_)
  rw [if_neg (by rw [hla, hlb, hlen]; simp)]
  refine wpAny_bind (wpAny_dictEpoch hoa hda ?_)
  refine wpAny_bind ?_
  rw [Std.Legacy.Range.forIn_eq_forIn_range']
  simp only [Std.Legacy.Range.size, Nat.sub_zero, Nat.add_sub_cancel, Nat.div_one]
  refine wpAny_forIn_list _
    (fun rest q s' => s' = s ∧ q = (none, ()) ∧ ∃ i, rest = List.range' i (es.size - i) ∧ i ≤ es.size)
    _ ?_ ?_ _ _ ⟨rfl, rfl, 0, by simp, Nat.zero_le _⟩
  · rintro x rest q s' ⟨rfl, rfl, i, hr, hi⟩
    have hlt : i < es.size := by
      rcases Nat.lt_or_ge i es.size with h | h
      · exact h
      · rw [Nat.sub_eq_zero_of_le h] at hr; simp at hr
    obtain ⟨rfl, hrest⟩ : x = i ∧ rest = List.range' (i + 1) (es.size - (i + 1)) := by
      have e : es.size - i = (es.size - (i + 1)) + 1 := by omega
      rw [e, List.range'_succ] at hr
      injection hr with h1 h2
      exact ⟨h1, h2⟩
    refine wpAny_bind (wpAny_dictEntries hoa hda ?_)
    have hlt' : x < xs.length := by rw [← hla]; exact hlt
    have hxe := entry_at hea x
    rw [List.getElem?_eq_getElem hlt'] at hxe
    obtain ⟨⟨k, ka, kv⟩, hkv⟩ : ∃ t, xs[x] = t := ⟨_, rfl⟩
    rw [hkv] at hxe
    have hmx : (k, ka, kv) ∈ xs := by rw [← hkv]; exact List.getElem_mem hlt'
    rw [hxe]
    dsimp only [Option.map_some]
    obtain ⟨p, hp⟩ := hits _ hmx
    show wpAny _ _ (holding [Value.ref ka, kv] _ >>= _) _ _ _
    refine wpAny_bind (wpAny_holding (wpAny_bind (wpAny_dictFind_heap hu (hka _ hmx) hob hdb heb hkb hnb (fun no => ?_) fun j p hj => ?_)))
    · obtain ⟨j, hj, e⟩ := List.mem_iff_getElem.mp hp
      exact absurd (List.getElem?_eq_some_iff.mpr ⟨hj, e⟩) (no j p)
    · have hje := entry_at heb j
      rw [hj] at hje
      refine wpAny_bind (wpAny_dictEntries hob hdb ?_)
      rw [hje]
      dsimp only [Option.map_some]
      refine wpAny_holding (vals _ hmx (k, p) (List.mem_of_getElem? hj) prog w _ _ ?_)
      show wpAny _ _ (if (!true) = true then _ else _) _ _ _
      rw [if_neg (by decide)]
      refine wpAny_bind (wpAny_dictEpoch hoa hda ?_)
      rw [if_neg (by simp)]
      exact wpAny_pure ⟨rfl, rfl, x + 1, hrest, hlt⟩
  · rintro q s' ⟨rfl, rfl, i, hr, hi⟩
    exact wpAny_pure h
theorem eqH {a b : Addr} {xs ys : List (κ × Addr × Value)} {Q : Value → Shared → Prop} (hu : A.units < cLine) (hu1 : knd.room A.in1) (ha : (a == sysModules) = false) (hb : (b == sysModules) = false)
    (da : s.heap.DictOfH knd a xs) (db : s.heap.DictOfH knd b ys) (hlen : xs.length = ys.length) (hits : ∀ x ∈ xs, ∃ p, (x.1, p) ∈ ys) (vals : ∀ x ∈ xs, ∀ y ∈ ys, SeqAt.EqAt A.in1 s x.2.2 y.2.2 true) (h : Q (.bool true) s) :
    wpAny (model prog w) A (compareOp .Eq (.ref a) (.ref b)) Q E s := by
  refine wpAny_richCompare_same_room (op := .Eq) da.typeIs db.typeIs PySem.F.slot_dict_eq (wpAny_call_entry PySem.F.slot_dict_eq da.typeIs PySem.F.entry_dict_eq ?_ (PySem.F.args_dict_eq_2 _ _)) hu
  show wpAny _ _ (Builtin.Dict.dictSlotArgs "__eq__" ⟨[.ref a, .ref b], []⟩ >>= _) _ _ s
  refine wpAny_bind ?_
  unfold Builtin.Dict.dictSlotArgs
  refine wpAny_bind (wpAny_notOrdered_dict da.typeIs ?_)
  show wpAny _ _ (pure (Value.ref a, Value.ref b)) _ _ s
  refine wpAny_pure ?_
  refine wpAny_bind (wpAny_isInstance (T := "dict") db.typeIs PySem.F.sub_dict_dict ?_)
  simp only [Bool.not_true, Bool.false_eq_true, if_false]
  refine wpAny_bind (wpAny_pure (wpAny_bind (wpAny_pure ?_)))
  refine wpAny_bind (samePairsH hu1 ha hb da db hlen hits vals ?_)
  exact wpAny_pure ⟨_, rfl, (fun x => nomatch x), h⟩
end
end BnX
namespace Net
open PySem PySem.Spec PyProof.Rows L2
section
variable {X : Cx} {k : Nat} {C f : Addr} {sp : Sp}
/-- x op t, x an instance of the class at C with a method for it, t a tuple -/
def rBin (C : Addr) (sp : Sp) : R2 := fun x y H Q => ∃ a dx fs b ys, x = .ref a ∧ H a = some (.ins C dx fs) ∧ y = .ref b ∧ H b = some (.tup ys) ∧ sp [x, y] H Q E0
theorem op_bin {op : Operator} {ps : List Str} {fo ro : Option Value} (F : Cal X.prog X.w X.K X.mg X.base f k ps sp) (hr : Room k X.A) (hc : PySem.W.selfFirst X.K C = true)
    (hs : PySem.W.findIn X.K (.ref C) (PySem.dunder op.info.2) = some (some (.ref f))) (hf : PySem.W.isFn X.K (.ref f) = true) (hro : PySem.W.findIn X.K (.ref C) (dunderR op.info.2) = some none)
    (h1 : PySem.W.findIn X.K (.type "tuple") (PySem.dunder op.info.2) = some fo) (h2 : PySem.W.findIn X.K (.type "tuple") (dunderR op.info.2) = some ro) (hsub : PySem.W.subIn X.K (.type "tuple") (.ref C) = some false) : OpR X (binaryOp op) (rBin C sp) := by
  intro pins s σ H x y u v Q I rx ry hq
  obtain ⟨a, dx, fs, b, ys, rfl, ha, rfl, hb, q⟩ := hq
  cases rx
  cases ry
  obtain ⟨fd, F1, bd⟩ := F.ex
  obtain ⟨mA, J, _⟩ := ins_get I.hok ha
  obtain ⟨od, J, _⟩ := J.look
  obtain ⟨m, hF⟩ := I.fr
  obtain ⟨_, its, _, o, ho, hcl, _⟩ := (show ObjOk X.prog X.w H s.heap b (.tup ys) from I.hok b _ hb)
  refine BnX.bin_own hF I.ok.mod.kin J (T := "tuple") (fun A' Q' E' s' k' q' => wpAny_typeOf_ref (k' _ _ ho) (by rw [hcl]; exact q')) hc hs hf hro (Or.inl rfl) h1 h2 hsub ?_
  have r2 : Vals [V.ref a, V.ref b] [Value.ref a, Value.ref b] := .cons rfl (.cons rfl .nil)
  refine wpAny_mono (run_fn F1 hr bd .nil pass0 I r2 q) (fun v s' hv => ?_) fun _ _ z => z
  obtain ⟨z, H', I', rz, hz⟩ := hv
  have e : EP X pins σ Q v s' := ⟨z, H', I', rz, hz⟩
  have ne : v ≠ Value.notImplemented := fun e => by
    subst e
    cases z <;> first | exact nomatch rz | (obtain ⟨_, e⟩ := rz; exact nomatch e)
  show PySem.W.CmpBack (EP X pins σ Q) v s'
  unfold PySem.W.CmpBack
  split
  · exact absurd rfl ne
  · exact e
/-- == of two dicts with the same tuple keys, all values True -/
def rEqT : R2 := fun x y H Q => ∃ a b kvs, x = .ref a ∧ y = .ref b ∧ Rd H a (.dT kvs) ∧ Rd H b (.dT kvs) ∧ (∀ p ∈ kvs, p.2 = .bl true) ∧ Q (.bl true) H
theorem op_eqT (hu : X.A.in1.units < cLine) : OpR X (compareOp .Eq) rEqT := by
  intro pins s σ H x y u v Q I rx ry hq
  obtain ⟨a, b, kvs, rfl, rfl, ha, hb, hv, q⟩ := hq
  cases rx
  cases ry
  obtain ⟨_, ea, xs, ra, da⟩ := dt_rd I.hok ha
  obtain ⟨_, eb, ys, rb, db⟩ := dt_rd I.hok hb
  have vt : ∀ {xs : List (List Key × Addr × Value)}, KT H kvs xs → ∀ x ∈ xs, x.2.2 = Value.bool true := fun {xs} r x hx => by
    obtain ⟨i, hi, e⟩ := List.mem_iff_getElem.mp hx
    have hi2 : i < kvs.length := by rw [Paired.length r]; exact hi
    obtain ⟨c, e2, r1, r2, r3⟩ := paired_get r (List.getElem?_eq_getElem hi2)
    have e3 : c = x := Option.some.inj (e2.symm.trans (List.getElem?_eq_some_iff.mpr ⟨hi, e⟩))
    subst e3
    rw [hv _ (List.getElem_mem hi2)] at r3
    exact r3
  refine BnX.eqH (knd := tupleKind (mixKind X.prog X.w)) (Nat.lt_of_le_of_lt (Nat.le_succ _) hu) hu ea eb da db ((Paired.length ra).symm.trans (Paired.length rb)) (fun x hx => ?_) (fun x hx y hy => ?_) ⟨.bl true, H, I, rfl, q⟩
  · obtain ⟨i, hi, e⟩ := List.mem_iff_getElem.mp hx
    have hi2 : i < kvs.length := by rw [Paired.length ra]; exact hi
    obtain ⟨c, e2, r1, _⟩ := paired_get ra (List.getElem?_eq_getElem hi2)
    have e3 : c = x := Option.some.inj (e2.symm.trans (List.getElem?_eq_some_iff.mpr ⟨hi, e⟩))
    subst e3
    obtain ⟨c', e4, r4, _⟩ := paired_get rb (List.getElem?_eq_getElem hi2)
    refine ⟨c'.2, ?_⟩
    rw [← r1, r4]
    exact List.mem_of_getElem? e4
  · rw [vt ra x hx, vt rb y hy]
    exact eqAt_V (y := .bl true) (x := .bl true) rfl rfl rfl rfl
/-- C.m(e, ..), m a static method -/
def tStat (C : Addr) (sp : Sp) (ta : TE) (t : TA) : TE := fun σ H Q => ta σ H fun x H1 => x = .ref C ∧ t σ H1 fun vs H2 => sp (vs ++ []) H2 Q E0
theorem pe_stat {pl : Sem Bool} {p : Addr} {mc : Value} {m : Str} {ps : List Str} {o e : Expr} {es : List Expr} {ta : TE} {t : TA} {apos pos : Pos} (F : Cal X.prog X.w X.K X.mg X.base f k ps sp) (r : ClX.CRead X.K C mc)
    (hm : PySem.W.findCls X.K (.ref C) mc m = some (.get (.builtin "staticmethod.__get__") (.ref p) .none (.ref C)) ∧ ∃ rest, PySem.W.recIn X.K p "staticmethod" = some (.ref f :: rest)) (hr : Room k X.A) (ho : PE X o ta) (ha : PA X (e :: es) t)
    (hst : starEach (e :: es) X.env = (false, eval e X.env) :: starEach es X.env := by rfl) (hpl : (backTo pos (starEach es X.env)).any (·.1) = false := by rfl)
    (ht : eval (.Call (.Attribute o m apos) (e :: es) [] pos) X.env = (do
      let ov ← eval o X.env
      standAt apos.atName
      let (f, first) ← holding [ov] (getMethod ov m pl)
      callWith pos f first (backTo pos (starEach (e :: es) X.env)) (backToKw pos (keywordEach [] X.env))) := by rfl) : PE X (.Call (.Attribute o m apos) (e :: es) [] pos) (tStat C sp ta t) := by
  obtain ⟨fd, F1, b⟩ := F.ex
  obtain ⟨hm, rest, hp⟩ := hm
  refine ⟨fun pins s σ H Q I h => ?_⟩
  refine PySem.W.methodCall_KW (pl := pl) (thn (ho.run pins s σ H _ I h) fun u s1 ⟨x, H1, I1, rx, ex, q⟩ => ?_) ht
  subst ex
  obtain rfl : u = Value.ref C := rx
  refine PySem.W.method_cls I1.kIn r.ga (PySem.W.cls_bind I1.kIn r.rd hm (wpAny_call (PySem.W.sm_get (s := { s1 with toks := s1.toks + 1 }) I1.kIn hp (PySem.W.handed_on rfl ?_))))
  have I2 := I1.tok (s1.toks + 1)
  refine PySem.W.callWith_K (h₀ := X.base) I2.ok.mod.kin F.kp (thn (ha.run pos pins _ σ H1 _ I2 q) fun us s3 ⟨vs, H2, I3, rv, q2⟩ => ⟨I3.kIn, ?_⟩) hst hpl
  exact run_fn F1 hr b .nil pass0 I3 rv q2
/-- isinstance(x, C), x an instance of C -/
def rIsOwn (C : Addr) : List V → Hp → VK → Prop := fun xs H Q => ∃ a dx fs, xs = [.ref a, .ref C] ∧ H a = some (.ins C dx fs) ∧ Q (.bl true) H
theorem cr_isOwn (cl : Cls X.K C) (hi : PySem.W.findIn X.K (.ref C) "__class__" = some (some (.builtin "object.__class__")) ∧ PySem.W.specialIn X.K (.builtin "object.__class__") "__get__" = some (some (.builtin "getset_descriptor.__get__")) ∧ PySem.W.takesIn X.K (.builtin "object.__class__") = some true ∧ PySem.W.mroIn X.K C (.type "object") = some true)
    (hk : PySem.W.kitOne X.K (.ref C) (.ref C) = some true) : CallR X (.builtin "isinstance") (rIsOwn C) := by
  intro pins s σ H xs us Q I r h
  obtain ⟨a, dx, fs, rfl, ha, q⟩ := h
  obtain ⟨u1, u2, rfl, r1, r2⟩ := vals2 r
  cases (show u1 = Value.ref a from r1)
  cases (show u2 = Value.ref C from r2)
  exact isinst_ok I (x := .ref a) rfl (.ins ha cl hi.1 hi.2.1 hi.2.2.1 hi.2.2.2) hk fun tk => ⟨.bl true, H, I.tok tk, rfl, q⟩
end
end Net
namespace Net
open PySem PySem.Spec PyProof.Rows L2
/-! ### ties put in and struck out -/
def insT (t : Tie) : List Tie → List Tie
  | [] => [t]
  | u :: us => if tieLt t u = true then t :: u :: us else u :: insT t us
theorem insT_perm (t : Tie) : ∀ us : List Tie, (insT t us).Perm (t :: us)
  | [] => List.Perm.refl _
  | u :: us => by
    unfold insT
    by_cases h : tieLt t u = true
    · rw [if_pos h]
    · rw [if_neg h]
      exact (List.Perm.cons u (insT_perm t us)).trans (List.Perm.swap t u us)
theorem insT_rise {t : Tie} : ∀ {us : List Tie}, Rise us → ¬ t ∈ us → Rise (insT t us)
  | [], _, _ => List.pairwise_singleton _ _
  | u :: us, h, hn => by
    obtain ⟨h1, h2⟩ := List.pairwise_cons.mp h
    unfold insT
    by_cases q : tieLt t u = true
    · rw [if_pos q]
      refine List.pairwise_cons.mpr ⟨fun v m => ?_, h⟩
      rcases List.mem_cons.mp m with e | m
      · rw [e]
        exact q
      · have a := tieLt_iff.mp q
        have b := tieLt_iff.mp (h1 v m)
        refine tieLt_iff.mpr ?_
        omega
    · rw [if_neg q]
      refine List.pairwise_cons.mpr ⟨fun v m => ?_, insT_rise h2 fun m => hn (List.mem_cons_of_mem _ m)⟩
      rcases List.mem_cons.mp ((insT_perm t us).mem_iff.mp m) with e | m
      · rw [e]
        cases z : tieLt u t with
        | true => rfl
        | false => exact absurd (tieLt_tot (Bool.eq_false_iff.mpr q) z) (fun e => hn (by rw [e]; exact List.mem_cons_self))
      · exact h1 v m
def St0.put (S : St0) (t : Tie) : St0 := if t ∈ S.ts then S else ⟨S.n, insT t S.ts⟩
def St0.strike (S : St0) (t : Tie) : St0 := ⟨S.n, S.ts.filter fun u => decide (¬ u = t)⟩
theorem St0.put_n (S : St0) (t : Tie) : (S.put t).n = S.n := by
  unfold St0.put
  split <;> rfl
theorem St0.put_len (S : St0) (t : Tie) : (S.put t).ts.length ≤ S.ts.length + 1 := by
  unfold St0.put
  split
  · omega
  · rw [(insT_perm t S.ts).length_eq]
    exact Nat.le_refl _
theorem St0.strike_len (S : St0) (t : Tie) : (S.strike t).ts.length ≤ S.ts.length := List.length_filter_le _ _
theorem St0.put_ok {S : St0} {t : Tie} (h : S.Ok) (ht : TieOk S.n t) (hl : S.ts.length < 400) : (S.put t).Ok := by
  unfold St0.put
  split
  · exact h
  · rename_i m
    refine ⟨h.n1, h.n2, insT_rise h.rise m, fun u hu => ?_, ?_⟩
    · rcases List.mem_cons.mp ((insT_perm t S.ts).mem_iff.mp hu) with e | q
      · rw [e]
        exact ht
      · exact h.ok u q
    · show (insT t S.ts).length ≤ 400
      rw [(insT_perm t S.ts).length_eq]
      exact hl
theorem St0.strike_ok {S : St0} {t : Tie} (h : S.Ok) : (S.strike t).Ok :=
  ⟨h.n1, h.n2, List.Pairwise.filter _ h.rise, fun u hu => h.ok u (List.mem_filter.mp hu).1, Nat.le_trans (St0.strike_len S t) h.few⟩
theorem St0.strike_no {S : St0} {t : Tie} (h : ¬ t ∈ S.ts) : S.strike t = S := by
  obtain ⟨n, ts⟩ := S
  unfold St0.strike
  congr 1
  refine List.filter_eq_self.mpr fun u hu => ?_
  exact decide_eq_true fun e => h (by rw [← e]; exact hu)
theorem keys_rp {H : Hp} : ∀ {ts : List Tie} {bs : List Addr}, IsKeys H (kvT ts) bs → All2 (rp (fun _ => False) H) (bs.map V.ref) ts
  | [], [], _ => trivial
  | t :: ts, b :: bs, h => by
    cases h with
    | cons h1 h2 => exact ⟨⟨b, rfl, fun z => z, h1⟩, keys_rp (ts := ts) h2⟩
  | [], _ :: _, h => by cases h
  | _ :: _, [], h => by cases h
/-! ### a store made -/
def spMade (K : PySem.W.Frag) : Sp := fun vs H Q _ => ∃ (a : Addr) (n : Int) (xs : List V) (ts : List Tie), vs = [.int n, .ref a] ∧ H a = some (.lst xs) ∧ All2 (rp (fun _ => False) H) xs ts ∧ TiesOk n ts ∧
  ∀ v H' us, us.Perm ts → Rise us → Same H H' → StAt K (In H) H' v ⟨n, us⟩ → Q v H'
theorem make_store {K : PySem.W.Frag} {H : Hp} {a : Addr} {n : Int} {xs : List V} {ts : List Tie} {Q : VK} {E : XK} (ha : H a = some (.lst xs)) (hx : All2 (rp (fun _ => False) H) xs ts) (ok : TiesOk n ts)
    (k : ∀ v H' us, us.Perm ts → Rise us → Same H H' → StAt K (In H) H' v ⟨n, us⟩ → Q v H') (x dx : Addr) (hx1 : H x = none) (hdx : H dx = none) (hne : dx ≠ x) :
    spStore K (.ref x :: ([.int n, .ref a] ++ [])) (upd (upd H dx (.own x)) x (.ins (ga K "Store") dx [])) (fun v H2 => v = .non ∧ Q (.ref x) H2) E := by
  have s1 : Same H (upd (upd H dx (.own x)) x (.ins (ga K "Store") dx [])) := (Same.new hdx).lay (by rw [upd_ne (Ne.symm hne)]; exact hx1)
  refine ⟨x, dx, a, n, xs, ts, rfl, upd_same, s1 _ _ ha, hx.monoR (SameN.of s1), ok, fun H' us hp hr s2 st => ⟨rfl, k _ _ us hp hr (fun b o e => s2 b o (ne_of_none e hx1) (s1 b o e)) (st.weak fun b ⟨o, e⟩ => ⟨⟨o, s1 b o e⟩, ne_of_none e hx1⟩)⟩⟩
section
variable {P : Program} {w : World} {K : PySem.W.Frag} {mg : Str → Option Value} {base : Heap}
theorem sc_made_store : FnScope ["nodes", "ties"] ["nodes", "ties"] (defScope s_made_store) := ⟨rfl, rfl, rfl, by decide +kernel, rfl, by decide +kernel, by decide +kernel⟩
theorem ok_made_store (T : NT K mg) : Cal P w K mg base (ga K "made_store") 8 ["nodes", "ties"] (spMade K) := by
  obtain ⟨fd, F⟩ := T.D_made_store
  refine Cal.of F (F.bindsN fun _ _ _ _ _ _ us hl => match us, hl with | [_, _], _ => rfl) sc_made_store (fun vs H Q E h => ?_) (fun cdv A outer s H vs Q E hr h => ?_)
  · obtain ⟨a, n, xs, ts, rfl, _⟩ := h
    rfl
  · obtain ⟨a, n, xs, ts, rfl, ha, hx, ok, k⟩ := h
    refine ⟨_, pss_one (ps_ret (pe_mk T.k_Store (ok_Store_init T) T.g_Store (hr.mono (by decide)) (pa_cons (pv 0) (pa_cons (pv 1) pa_nil)))), ?_⟩
    exact ⟨_, rfl, _, rfl, make_store ha hx ok k⟩
/-! ### what is asked of a store -/
def spStNodes (K : PySem.W.Frag) : Sp := fun vs H Q _ => ∃ (N : Ad) (v : V) (S : St0), vs = [v] ∧ StAt K N H v S ∧ Q (.int S.n) H
theorem sc_Store_nodes : FnScope ["self"] ["self"] (defScope s_Store_nodes) := ⟨rfl, rfl, rfl, by decide +kernel, rfl, by decide +kernel, by decide +kernel⟩
theorem ok_Store_nodes (T : NT K mg) : Cal P w K mg base (pg K "Store" "nodes") 1 ["self"] (spStNodes K) := by
  obtain ⟨fd, F⟩ := T.D_Store_nodes
  refine Cal.of F (F.bindsN fun _ _ _ _ _ _ us hl => match us, hl with | [_], _ => rfl) sc_Store_nodes (fun vs H Q E h => ?_) (fun cdv A outer s H vs Q E hr h => ?_)
  · obtain ⟨N, v, S, rfl, _⟩ := h
    rfl
  · obtain ⟨N, v, S, rfl, ⟨a, dx, td, gd, od, rfl, na, nt, ha, ht, hg⟩, k⟩ := h
    refine ⟨_, pss_one (ps_ret (pe_fld (pv 0) rfl)), ?_⟩
    exact ⟨_, rfl, a, _, dx, _, _, rfl, ha, T.c_Store, T.n_Store_own_nodes, stF_nodes _ _ _, k⟩
def spTies (K : PySem.W.Frag) : Sp := fun vs H Q _ => ∃ (N : Ad) (v : V) (S : St0), vs = [v] ∧ StAt K N H v S ∧ ∀ p xs H', H p = none → H' = upd H p (.lst xs) → All2 (rp (fun _ => False) H) xs S.ts → Q (.ref p) H'
theorem sc_Store_ties : FnScope ["self"] ["self"] (defScope s_Store_ties) := ⟨rfl, rfl, rfl, by decide +kernel, rfl, by decide +kernel, by decide +kernel⟩
theorem ok_Store_ties (T : NT K mg) : Cal P w K mg base (He.ma K (ga K "Store") "ties") 1 ["self"] (spTies K) := by
  obtain ⟨fd, F⟩ := T.D_Store_ties
  refine Cal.of F (F.bindsN fun _ _ _ _ _ _ us hl => match us, hl with | [_], _ => rfl) sc_Store_ties (fun vs H Q E h => ?_) (fun cdv A outer s H vs Q E hr h => ?_)
  · obtain ⟨N, v, S, rfl, _⟩ := h
    rfl
  · obtain ⟨N, v, S, rfl, ⟨a, dx, td, gd, od, rfl, na, nt, ha, ht, hg⟩, k⟩ := h
    refine ⟨_, pss_one (ps_ret (pe_t (call_list_dT rfl) T.b_list (pa_cons (pe_fld (pv 0) rfl) pa_nil))), ?_⟩
    exact ⟨_, rfl, a, _, dx, _, _, rfl, ha, T.c_Store, T.n_Store_own_ties, stF_ties _ _ _, td, _, rfl, .inr ⟨od, ht⟩, fun p bs hp hk => k p _ _ hp rfl (keys_rp hk)⟩
end
end Net
namespace Net
open PySem PySem.Spec PyProof.Rows L2
theorem All2.filt {α β : Type} {R : α → β → Prop} (f : α → Option α) {p : β → Bool} : ∀ {as : List α} {bs : List β}, All2 R as bs → (∀ a b, R a b → p b = true → f a = some a) → (∀ a b, R a b → p b = false → f a = none) → All2 R (as.filterMap f) (bs.filter p)
  | [], [], _, _, _ => trivial
  | a :: as, b :: bs, h, k1, k2 => by
    cases e : p b with
    | true =>
      rw [List.filterMap_cons, k1 a b h.1 e, List.filter_cons, if_pos e]
      exact ⟨h.1, filt f h.2 k1 k2⟩
    | false =>
      rw [List.filterMap_cons, k2 a b h.1 e, List.filter_cons, if_neg (by rw [e]; exact Bool.false_ne_true)]
      exact filt f h.2 k1 k2
theorem filt_len {α : Type} (p : α → Bool) : ∀ l : List α, (l.map fun t => if p t = true then some t else none).filterMap id = l.filter p
  | [] => rfl
  | t :: l => by
    rw [List.map_cons, List.filterMap_cons, List.filter_cons]
    cases e : p t <;> simp [filt_len p l]
/-- a store with a tie put in or struck out, and whether it was -/
def spPut (K : PySem.W.Frag) (f : St0 → Tie → St0) : Sp := fun vs H Q _ => ∃ (N : Ad) (v : V) (b : Addr) (S : St0) (t : Tie), vs = [v, .ref b] ∧ StAt K N H v S ∧ Dom N H ∧ S.Ok ∧ S.ts.length < 400 ∧ H b = some (.tup t.vs) ∧ TieOk S.n t ∧
  ∀ p v' fl H', Same H H' → H' p = some (.tup [v', .bl fl]) → StAt K N H' v' (f S t) → Q (.ref p) H'
/-- .. by an operator: a new store -/
def spOpr (K : PySem.W.Frag) (f : St0 → Tie → St0) : Sp := fun vs H Q _ => ∃ (N : Ad) (v : V) (b : Addr) (S : St0) (t : Tie), vs = [v, .ref b] ∧ StAt K N H v S ∧ S.Ok ∧ S.ts.length < 400 ∧ H b = some (.tup t.vs) ∧ TieOk S.n t ∧
  ∀ v' H', Same H H' → StAt K (In H) H' v' (f S t) → Q v' H'
theorem put_perm {S : St0} {t : Tie} {us : List Tie} (h : S.Ok) (p : us.Perm (S.ts ++ (if t ∈ S.ts then [] else [t]))) (r : Rise us) : (⟨S.n, us⟩ : St0) = S.put t := by
  obtain ⟨n, ts⟩ := S
  unfold St0.put
  by_cases m : t ∈ ts
  · simp only [if_pos m, List.append_nil] at p ⊢
    rw [rise_uniq r h.rise p]
  · simp only [if_neg m] at p ⊢
    have q : us.Perm (insT t ts) := p.trans ((List.perm_append_comm (l₁ := ts) (l₂ := [t])).trans (insT_perm t ts).symm)
    rw [rise_uniq r (insT_rise h.rise m) q]
theorem strike_perm {S : St0} {t : Tie} {us : List Tie} (h : S.Ok) (p : us.Perm (S.strike t).ts) (r : Rise us) : (⟨S.n, us⟩ : St0) = S.strike t := by
  rw [rise_uniq r (St0.strike_ok h).rise p]
  rfl
/-- [near for near in ties if near != tie] -/
theorem near_it {K : PySem.W.Frag} {H : Hp} {a b td gd dx : Addr} {od : Obj} {S : St0} {t : Tie} {Q : VK} (ha : H a = some (.ins (ga K "Store") dx (stF S.n td gd))) (ht : H td = some (.frz od (.dT (kvT S.ts)))) (hb : H b = some (.tup t.vs)) (few : S.ts.length < 400) (c : Cls K (ga K "Store")) (n : NoAttr K (ga K "Store") "own_ties")
    (k : ∀ D xs H', Same H H' → H' D = some (.lst xs) → All2 (rp (fun _ => False) H') xs (S.strike t).ts → Q (.ref D) H') :
    tLc (iKeys (tFld K (tVar 0) "own_ties")) (gName 2) (tTest (tOp (rNeC Tie) (tVar 2) (tVar 1))) (tVar 2) [2] [some (.ref a), some (.ref b), none] H Q := by
  refine ⟨_, rfl, a, _, dx, _, _, rfl, ha, c, n, stF_ties _ _ _, td, od, rfl, .inr ⟨_, ht, fun D hD => ?_⟩⟩
  have el : (kvT S.ts).length = S.ts.length := by unfold kvT; rw [List.length_map]
  refine lc_rpF (β := Tie) walk_keysT (S.ts.map fun u => if decide (¬ u = t) = true then some u else none) (by rw [el]; simp) (by rw [el]; have := big; omega) (fun _ => False) hD (fun H1 s1 => s1 _ _ ht) (fun i H1 x H2 y => by rw [y.1]; exact Same.refl _) (fun j o x H3 H2 K1 K2 ho s1 hex hy k1 k2 => ?_) (fun H1 acc s1 hD1 r => ?_)
  · obtain ⟨rfl, ky, v, q, e1, rfl, hq⟩ := hy
    unfold kvT at e1
    rw [List.getElem?_map] at e1 ho
    cases e : S.ts[j]? with
    | none =>
      rw [e] at e1
      cases e1
    | some u =>
      rw [e] at e1 ho
      cases e1
      have ho2 : o = if decide (¬ u = t) = true then some u else none := (Option.some.inj ho).symm
      refine ⟨wipe1 _ _ _, _, rfl, _, rfl, fun _ => False, fun _ => False, u, t, ⟨q, rfl, fun z => z, hq⟩, ⟨b, rfl, fun z => z, s1 _ _ hb⟩, !decide (u = t), rfl, ?_⟩
      by_cases hut : u = t
      · rw [decide_eq_true hut]
        refine k2 ?_ _ (Same.refl _)
        rw [ho2, if_neg (by simp [hut])]
      · rw [decide_eq_false hut]
        refine ⟨_, rfl, k1 u ?_ _ _ (Same.refl _) ⟨q, rfl, fun z => ?_, hq⟩⟩
        · rw [ho2, if_pos (by simp [hut])]
        · rcases z with z | z
          · exact z
          · obtain ⟨acc, hacc⟩ := hex
            exact ne_of hq hacc (fun z => nomatch z) z
  · refine k D acc H1 s1 hD1 ?_
    rw [filt_len] at r
    exact r.weakR fun b z => .inl z
section
variable {P : Program} {w : World} {K : PySem.W.Frag} {mg : Str → Option Value} {base : Heap}
theorem sc_Store_put : FnScope ["self", "tie"] ["self", "tie"] (defScope s_Store_put) := ⟨rfl, rfl, rfl, by decide +kernel, rfl, by decide +kernel, by decide +kernel⟩
theorem ok_Store_put (T : NT K mg) : Cal P w K mg base (He.ma K (ga K "Store") "put") 9 ["self", "tie"] (spPut K St0.put) := by
  obtain ⟨fd, F⟩ := T.D_Store_put
  refine Cal.of F (F.bindsN fun _ _ _ _ _ _ us hl => match us, hl with | [_, _], _ => rfl) sc_Store_put (fun vs H Q E h => ?_) (fun cdv A outer s H vs Q E hr h => ?_)
  · obtain ⟨N, v, b, S, t, rfl, _⟩ := h
    rfl
  · obtain ⟨N, v, b, S, t, rfl, st, dom, ok, few, hb, tok, k⟩ := h
    have hu := hu_of hr
    obtain ⟨a, dx, td, gd, od, rfl, na, nt, ha, ht, hg⟩ := id st
    refine ⟨_, pss_cons (ps_expr (pe_f (ok_want_tie T) T.g_want_tie (hr.mono (by decide)) (pa_cons (pe_fld (pv 0) rfl) (pa_cons (pv 1) pa_nil))))
      (pss_cons (ps_if (pt_cmp (pc_din hu (pv 1) (pe_fld (pv 0) rfl))) (pss_one (ps_ret (pe_tup (pa_cons (pv 0) (pa_cons pe_bl pa_nil))))) pss_nil)
      (pss_cons (ps_expr (pe_f (ok_want_few_ties T) T.g_want_few_ties (hr.mono (by decide)) (pa_cons (pe_op op_add (pe_b call_lenD T.b_len (pa_cons (pe_fld (pv 0) rfl) pa_nil)) pe_int) pa_nil)))
      (pss_one (ps_ret (pe_tup (pa_cons (pe_f (ok_made_store T) T.g_made_store (hr.mono (by decide)) (pa_cons (pe_fld (pv 0) rfl) (pa_cons (pe_lst (pa_starD rfl (pe_fld (pv 0) rfl) (pa_cons (pv 1) pa_nil))) pa_nil))) (pa_cons pe_bl pa_nil))))))), ?_⟩
    refine ⟨_, rfl, a, _, dx, _, _, rfl, ha, T.c_Store, T.n_Store_own_nodes, stF_nodes _ _ _, _, rfl, S.n, b, t, rfl, hb, tok, ?_⟩
    refine ⟨_, rfl, _, rfl, a, _, dx, _, _, rfl, ha, T.c_Store, T.n_Store_own_ties, stF_ties _ _ _, td, _, rfl, .inr ⟨kvT S.ts, tkey t, b, .inr ⟨od, ht⟩, rfl, hb, rfl⟩, _, rfl, ?_⟩
    rw [kvT_some]
    by_cases m : t ∈ S.ts
    · rw [decide_eq_true m]
      refine iteT ⟨_, rfl, (by show 2 ≤ sizeLine; decide), fun p hp => ?_⟩
      have e : S.put t = S := if_pos m
      refine k p (.ref a) _ _ (Same.new hp) upd_same ?_
      rw [e]
      exact st.mono (SameN.of (Same.new hp))
    · rw [decide_eq_false m]
      have el : (kvT S.ts).length = S.ts.length := by unfold kvT; rw [List.length_map]
      refine iteF ⟨_, rfl, a, _, dx, _, _, rfl, ha, T.c_Store, T.n_Store_own_ties, stF_ties _ _ _, td, _, rfl, .inr ⟨od, ht⟩, _, _, rfl, rfl, _, rfl, by rw [el]; omega, ?_⟩
      refine ⟨_, rfl, a, _, dx, _, _, rfl, ha, T.c_Store, T.n_Store_own_nodes, stF_nodes _ _ _, _, rfl, a, _, dx, _, _, rfl, ha, T.c_Store, T.n_Store_own_ties, stF_ties _ _ _, td, _, rfl, .inr ⟨od, ht⟩, fun bs hbs => ⟨_, rfl, ?_, fun p hp => ?_⟩⟩
      · have e1 := (keys_rp hbs).length
        have := big
        simp only [List.length_append, e1, List.length_singleton]
        omega
      · have s1 : Same H (upd H p (.lst (bs.map V.ref ++ [.ref b]))) := Same.new hp
        have hx : All2 (rp (fun _ => False) (upd H p (.lst (bs.map V.ref ++ [.ref b])))) (bs.map V.ref ++ [.ref b]) (S.ts ++ [t]) := ((keys_rp hbs).append (.one ⟨b, rfl, fun z => z, hb⟩)).monoR (SameN.of s1)
        refine ⟨p, S.n, _, S.ts ++ [t], rfl, upd_same, hx, ⟨ok.n1, ok.n2, ?_, ?_, ?_⟩, fun v' H' us hp hr s2 st' => ⟨(by show 2 ≤ sizeLine; decide), fun q hq => ?_⟩⟩
        · refine List.nodup_append.mpr ⟨ok.rise.nodup, (by simp), fun x hx y hy e => ?_⟩
          rw [List.mem_singleton.mp hy] at e
          exact m (by rw [← e]; exact hx)
        · intro u hu
          rcases List.mem_append.mp hu with z | z
          · exact ok.ok u z
          · rw [List.mem_singleton.mp z]
            exact tok
        · simp only [List.length_append, List.length_singleton]
          omega
        · have e : (⟨S.n, us⟩ : St0) = S.put t := put_perm ok (by rw [if_neg m]; exact hp) hr
          rw [e] at st'
          have s12 : Same H H' := s1.trans s2
          refine k q v' _ _ (s12.lay hq) upd_same (StAt.mono (SameN.of (Same.new hq)) (st'.weak fun c z => ?_))
          obtain ⟨o, e⟩ := dom c z
          exact ⟨o, s1 c o e⟩
theorem sc_Store_strike : FnScope ["self", "tie", "near"] ["self", "tie"] (defScope s_Store_strike) := ⟨rfl, rfl, rfl, by decide +kernel, rfl, by decide +kernel, by decide +kernel⟩
theorem ok_Store_strike (T : NT K mg) : Cal P w K mg base (He.ma K (ga K "Store") "strike") 9 ["self", "tie"] (spPut K St0.strike) := by
  obtain ⟨fd, F⟩ := T.D_Store_strike
  refine Cal.of F (F.bindsN fun _ _ _ _ _ _ us hl => match us, hl with | [_, _], _ => rfl) sc_Store_strike (fun vs H Q E h => ?_) (fun cdv A outer s H vs Q E hr h => ?_)
  · obtain ⟨N, v, b, S, t, rfl, _⟩ := h
    rfl
  · obtain ⟨N, v, b, S, t, rfl, st, dom, ok, few, hb, tok, k⟩ := h
    have hu := hu_of hr
    obtain ⟨a, dx, td, gd, od, rfl, na, nt, ha, ht, hg⟩ := id st
    refine ⟨_, pss_cons (ps_expr (pe_f (ok_want_tie T) T.g_want_tie (hr.mono (by decide)) (pa_cons (pe_fld (pv 0) rfl) (pa_cons (pv 1) pa_nil))))
      (pss_cons (ps_if (pt_cmp (pc_dnotin hu (pv 1) (pe_fld (pv 0) rfl))) (pss_one (ps_ret (pe_tup (pa_cons (pv 0) (pa_cons pe_bl pa_nil))))) pss_nil)
      (pss_one (ps_ret (pe_tup (pa_cons (pe_f (ok_made_store T) T.g_made_store (hr.mono (by decide)) (pa_cons (pe_fld (pv 0) rfl) (pa_cons
        (pe_lc (own := [("near", 2)]) (g := gName 2) rfl sc_Store_strike.nd (pi_keys (pe_fld (pv 0) rfl)) (blkOk_by (N := ["self", "tie", "near"]) (sc := defScope s_Store_strike) (by decide +kernel))
          (fun _ _ _ _ _ => pg_name (i := 2) sc_Store_strike.nd rfl (Or.inl rfl)) (fun _ _ _ _ _ => pts_one (pt_cmpR (op_neC (α := Tie) hr.units) (pv 2) (pv 1) (nomark _))) (fun _ _ _ _ _ => pv 2)) pa_nil))) (pa_cons pe_bl pa_nil)))))), ?_⟩
    refine ⟨_, rfl, a, _, dx, _, _, rfl, ha, T.c_Store, T.n_Store_own_nodes, stF_nodes _ _ _, _, rfl, S.n, b, t, rfl, hb, tok, ?_⟩
    refine ⟨_, rfl, _, rfl, a, _, dx, _, _, rfl, ha, T.c_Store, T.n_Store_own_ties, stF_ties _ _ _, td, _, rfl, .inr ⟨kvT S.ts, tkey t, b, .inr ⟨od, ht⟩, rfl, hb, rfl⟩, _, rfl, ?_⟩
    rw [kvT_some]
    by_cases m : t ∈ S.ts
    · rw [decide_eq_true m]
      refine iteF ⟨_, rfl, a, _, dx, _, _, rfl, ha, T.c_Store, T.n_Store_own_nodes, stF_nodes _ _ _, near_it ha ht hb few T.c_Store T.n_Store_own_ties fun D xs H1 s1 hD hx => ?_⟩
      refine ⟨D, S.n, xs, (S.strike t).ts, rfl, hD, hx, ⟨ok.n1, ok.n2, (St0.strike_ok ok).rise.nodup, (St0.strike_ok ok).ok, (St0.strike_ok ok).few⟩, fun v' H' us hp hr s2 st' => ⟨(by show 2 ≤ sizeLine; decide), fun q hq => ?_⟩⟩
      have e : (⟨S.n, us⟩ : St0) = S.strike t := strike_perm ok hp hr
      rw [e] at st'
      refine k q v' _ _ ((s1.trans s2).lay hq) upd_same (StAt.mono (SameN.of (Same.new hq)) (st'.weak fun c z => ?_))
      obtain ⟨o, e⟩ := dom c z
      exact ⟨o, s1 c o e⟩
    · rw [decide_eq_false m]
      refine iteT ⟨_, rfl, (by show 2 ≤ sizeLine; decide), fun p hp => ?_⟩
      refine k p (.ref a) _ _ (Same.new hp) upd_same ?_
      rw [St0.strike_no m]
      exact st.mono (SameN.of (Same.new hp))
end
end Net
namespace Net
open PySem PySem.Spec PyProof.Rows L2
theorem no_ties (n : Int) (td gd : Addr) : (stF n td gd).lookup ("ties" : Str) = none := stF_no _ _ _ (by decide +kernel) (by decide +kernel) (by decide +kernel)
/-- what the own == of stores tells of the two -/
def StEq (K : PySem.W.Frag) (a b : Addr) (H : Hp) : Prop := ∃ (N M : Ad) (S : St0), StAt K N H (.ref a) S ∧ StAt K M H (.ref b) S
theorem StEq.ext {K : PySem.W.Frag} (a b : Addr) (H H' : Hp) (e : Ext H H') (h : StEq K a b H) : StEq K a b H' :=
  let ⟨N, M, S, h1, h2⟩ := h
  ⟨N, M, S, h1.mono (SameN.of e), h2.mono (SameN.of e)⟩
section
variable {P : Program} {w : World} {K : PySem.W.Frag} {mg : Str → Option Value} {base : Heap}
theorem sc_Store_add : FnScope ["self", "tie", "more"] ["self", "tie"] (defScope s_Store_add) := ⟨rfl, rfl, rfl, by decide +kernel, rfl, by decide +kernel, by decide +kernel⟩
theorem ok_Store_add (T : NT K mg) : Cal P w K mg base (He.ma K (ga K "Store") "__add__") 8 ["self", "tie"] (spOpr K St0.put) := by
  obtain ⟨fd, F⟩ := T.D_Store_add
  refine Cal.of F (F.bindsN fun _ _ _ _ _ _ us hl => match us, hl with | [_, _], _ => rfl) sc_Store_add (fun vs H Q E h => ?_) (fun cdv A outer s H vs Q E hr h => ?_)
  · obtain ⟨N, v, b, S, t, rfl, _⟩ := h
    rfl
  · obtain ⟨N, v, b, S, t, rfl, st, ok, few, hb, tok, k⟩ := h
    have hu := hu_of hr
    have nd := sc_Store_add.nd
    obtain ⟨a, dx, td, gd, od, rfl, na, nt, ha, ht, hg⟩ := id st
    refine ⟨_, pss_cons (ps_expr (pe_f (ok_want_tie T) T.g_want_tie (hr.mono (by decide)) (pa_cons (pe_fld (pv 0) rfl) (pa_cons (pv 1) pa_nil))))
      (pss_cons (ps_set (i := 2) nd rfl (Or.inl rfl) (pe_ifExp (pt_cmp (pc_din hu (pv 1) (pe_fld (pv 0) rfl))) (pe_lst pa_nil) (pe_lst (pa_cons (pv 1) pa_nil))))
      (pss_one (ps_ret (pe_mk T.k_Store (ok_Store_init T) T.g_Store (hr.mono (by decide)) (pa_cons (pe_fld (pv 0) rfl) (pa_cons (pe_op op_cat (pe_mt0 (ok_Store_ties T) T.c_Store T.m_Store_ties (hr.mono (by decide)) (pv 0)) (pv 2)) pa_nil)))))), ?_⟩
    refine ⟨_, rfl, a, _, dx, _, _, rfl, ha, T.c_Store, T.n_Store_own_nodes, stF_nodes _ _ _, _, rfl, S.n, b, t, rfl, hb, tok, ?_⟩
    refine ⟨_, rfl, _, rfl, a, _, dx, _, _, rfl, ha, T.c_Store, T.n_Store_own_ties, stF_ties _ _ _, td, _, rfl, .inr ⟨kvT S.ts, tkey t, b, .inr ⟨od, ht⟩, rfl, hb, rfl⟩, _, rfl, ?_⟩
    rw [kvT_some]
    -- behind the list of what is put in besides
    have tail : ∀ (l : Addr) (zs : List V) (us0 : List Tie) (H1 : Hp), Same H H1 → H1 l = some (.lst zs) → All2 (rp (fun _ => False) H1) zs us0 → us0 = (if t ∈ S.ts then [] else [t]) →
        tRet (tMake (ga K "Store") (spStore K) [] E0 (tCons (tFld K (tVar 0) "own_nodes") (tCons (tOp rCat (tMeth (ga K "Store") "ties" (spTies K) [] E0 (tVar 0) tNil) (tVar 2)) tNil))) { nx := fun _ H' => Q .non H', rt := Q } [some (.ref a), some (.ref b), some (.ref l)] H1 := by
      intro l zs us0 H1 s1 hl hz hus
      have ha1 := s1 _ _ ha
      have st1 : StAt K N H1 (.ref a) S := st.mono (SameN.of s1)
      refine ⟨_, rfl, a, _, dx, _, _, rfl, ha1, T.c_Store, T.n_Store_own_nodes, stF_nodes _ _ _, _, rfl, a, dx, _, rfl, ha1, no_ties _ _ _, N, _, S, rfl, st1, fun p xs H2 hp e2 hx => ?_⟩
      subst e2
      have hpl : l ≠ p := ne_of_none hl hp
      have s2 : Same H1 (upd H1 p (.lst xs)) := Same.new hp
      have lx := hx.length
      have lz := hz.length
      have lz2 : us0.length ≤ 1 := by
        rw [hus]
        split <;> simp
      refine ⟨_, rfl, p, l, xs, zs, rfl, rfl, upd_same, s2 _ _ hl, by have := big; omega, fun q hq => ?_⟩
      have s3 : Same H1 (upd (upd H1 p (.lst xs)) q (.lst (xs ++ zs))) := s2.lay hq
      refine make_store (ts := S.ts ++ us0) upd_same (((hx.monoR (SameN.of s3)).append (hz.monoR (SameN.of s3)))) ⟨ok.n1, ok.n2, ?_, ?_, ?_⟩ fun v' H' us hp hr s4 st' => ?_
      · rw [hus]
        by_cases m : t ∈ S.ts
        · rw [if_pos m, List.append_nil]
          exact ok.rise.nodup
        · rw [if_neg m]
          refine List.nodup_append.mpr ⟨ok.rise.nodup, (by simp), fun x hx y hy e => ?_⟩
          rw [List.mem_singleton.mp hy] at e
          exact m (by rw [← e]; exact hx)
      · intro u hu
        rw [hus] at hu
        rcases List.mem_append.mp hu with z | z
        · exact ok.ok u z
        · by_cases m : t ∈ S.ts
          · rw [if_pos m] at z
            cases z
          · rw [if_neg m] at z
            rw [List.mem_singleton.mp z]
            exact tok
      · rw [List.length_append]
        omega
      · rw [hus] at hp
        rw [put_perm ok hp hr] at st'
        exact k v' H' (s1.trans (s3.trans s4)) (st'.weak fun c ⟨o, e⟩ => ⟨o, s3 c o (s1 c o e)⟩)
    by_cases m : t ∈ S.ts
    · rw [decide_eq_true m]
      exact iteT ⟨Nat.zero_le _, fun l hl => tail l [] [] _ (Same.new hl) upd_same trivial (by rw [if_pos m])⟩
    · rw [decide_eq_false m]
      exact iteF ⟨_, rfl, (by show 1 ≤ sizeLine; decide), fun l hl => tail l _ [t] _ (Same.new hl) upd_same (.one ⟨b, rfl, fun z => z, Same.new hl _ _ hb⟩) (by rw [if_neg m])⟩
theorem sc_Store_sub : FnScope ["self", "tie", "near"] ["self", "tie"] (defScope s_Store_sub) := ⟨rfl, rfl, rfl, by decide +kernel, rfl, by decide +kernel, by decide +kernel⟩
theorem ok_Store_sub (T : NT K mg) : Cal P w K mg base (He.ma K (ga K "Store") "__sub__") 8 ["self", "tie"] (spOpr K St0.strike) := by
  obtain ⟨fd, F⟩ := T.D_Store_sub
  refine Cal.of F (F.bindsN fun _ _ _ _ _ _ us hl => match us, hl with | [_, _], _ => rfl) sc_Store_sub (fun vs H Q E h => ?_) (fun cdv A outer s H vs Q E hr h => ?_)
  · obtain ⟨N, v, b, S, t, rfl, _⟩ := h
    rfl
  · obtain ⟨N, v, b, S, t, rfl, st, ok, few, hb, tok, k⟩ := h
    have nd := sc_Store_sub.nd
    obtain ⟨a, dx, td, gd, od, rfl, na, nt, ha, ht, hg⟩ := id st
    refine ⟨_, pss_cons (ps_expr (pe_f (ok_want_tie T) T.g_want_tie (hr.mono (by decide)) (pa_cons (pe_fld (pv 0) rfl) (pa_cons (pv 1) pa_nil))))
      (pss_one (ps_ret (pe_mk T.k_Store (ok_Store_init T) T.g_Store (hr.mono (by decide)) (pa_cons (pe_fld (pv 0) rfl) (pa_cons
        (pe_lc (own := [("near", 2)]) (g := gName 2) rfl nd (pi_keys (pe_fld (pv 0) rfl)) (blkOk_by (N := ["self", "tie", "near"]) (sc := defScope s_Store_sub) (by decide +kernel))
          (fun _ _ _ _ _ => pg_name (i := 2) nd rfl (Or.inl rfl)) (fun _ _ _ _ _ => pts_one (pt_cmpR (op_neC (α := Tie) hr.units) (pv 2) (pv 1) (nomark _))) (fun _ _ _ _ _ => pv 2)) pa_nil))))), ?_⟩
    refine ⟨_, rfl, a, _, dx, _, _, rfl, ha, T.c_Store, T.n_Store_own_nodes, stF_nodes _ _ _, _, rfl, S.n, b, t, rfl, hb, tok, ?_⟩
    refine ⟨_, rfl, a, _, dx, _, _, rfl, ha, T.c_Store, T.n_Store_own_nodes, stF_nodes _ _ _, near_it ha ht hb few T.c_Store T.n_Store_own_ties fun D xs H1 s1 hD hx => ?_⟩
    refine make_store hD hx ⟨ok.n1, ok.n2, (St0.strike_ok ok).rise.nodup, (St0.strike_ok ok).ok, (St0.strike_ok ok).few⟩ fun v' H' us hp hr s2 st' => ?_
    have e : (⟨S.n, us⟩ : St0) = S.strike t := strike_perm ok hp hr
    rw [e] at st'
    exact k v' H' (s1.trans s2) (st'.weak fun c ⟨o, e⟩ => ⟨o, s1 c o e⟩)
theorem sc_Store_eq : FnScope ["self", "other"] ["self", "other"] (defScope s_Store_eq) := ⟨rfl, rfl, rfl, by decide +kernel, rfl, by decide +kernel, by decide +kernel⟩
theorem kit_own (K : PySem.W.Frag) (C : Addr) : PySem.W.kitOne K (.ref C) (.ref C) = some true := if_pos (beq_self_eq_true _)
theorem ok_Store_eq (T : NT K mg) : Cal P w K mg base (He.ma K (ga K "Store") "__eq__") 2 ["self", "other"] (spEq (StEq K)) := by
  obtain ⟨fd, F⟩ := T.D_Store_eq
  refine Cal.of F (F.bindsN fun _ _ _ _ _ _ us hl => match us, hl with | [_, _], _ => rfl) sc_Store_eq (fun vs H Q E h => ?_) (fun cdv A outer s H vs Q E hr h => ?_)
  · obtain ⟨a, b, rfl, _⟩ := h
    rfl
  · obtain ⟨a, b, rfl, ⟨N, M, S, st1, st2⟩, k⟩ := h
    obtain ⟨_, dx, td, gd, od, e1, na, nt, ha, ht, hg⟩ := id st1
    cases e1
    obtain ⟨_, dx', td', gd', od', e2, na', nt', hb, ht', hg'⟩ := id st2
    cases e2
    refine ⟨_, pss_one (ps_ret (pe_and (pe_b (cr_isOwn T.c_Store T.e_iStore (kit_own _ _)) T.b_isinstance (pa_cons (pv 1) (pa_cons (pe_cc T.g_Store) pa_nil)))
      (pe_and (pe_cmpR op_eq (pe_fld (pv 0) rfl) (pe_fld (pv 1) rfl) (nomark _)) (pe_one (pe_cmpR (op_eqT hr.in1.units0) (pe_fld (pv 0) rfl) (pe_fld (pv 1) rfl) (nomark _)))))), ?_⟩
    refine ⟨_, rfl, b, dx', _, rfl, hb, true, rfl, iteT ?_⟩
    refine ⟨_, rfl, a, _, dx, _, _, rfl, ha, T.c_Store, T.n_Store_own_nodes, stF_nodes _ _ _, _, rfl, b, _, dx', _, _, rfl, hb, T.c_Store, T.n_Store_own_nodes, stF_nodes _ _ _, ?_⟩
    refine ⟨rfl, true, congrArg V.bl (decide_eq_true rfl), iteT ?_⟩
    refine ⟨_, rfl, a, _, dx, _, _, rfl, ha, T.c_Store, T.n_Store_own_ties, stF_ties _ _ _, _, rfl, b, _, dx', _, _, rfl, hb, T.c_Store, T.n_Store_own_ties, stF_ties _ _ _, td, td', kvT S.ts, rfl, rfl, .inr ⟨od, ht⟩, .inr ⟨od', ht'⟩, fun p hp => ?_, k H Ext.rfl'⟩
    unfold kvT at hp
    obtain ⟨u, _, rfl⟩ := List.mem_map.mp hp
    rfl
end
end Net
/-! What a word tells of a store: plain. -/
namespace Net
open PySem PySem.Spec PyProof.Rows L2
theorem nodup_le : ∀ (n : Nat) (l : List Nat), l.Nodup → (∀ x ∈ l, x < n) → l.length ≤ n
  | 0, [], _, _ => Nat.le_refl _
  | 0, x :: _, _, h => absurd (h x List.mem_cons_self) (Nat.not_lt_zero _)
  | n + 1, l, hn, h => by
    by_cases m : n ∈ l
    · have := nodup_le n (l.erase n) (hn.erase n) fun x hx => by
        have := (hn.mem_erase_iff).mp hx
        have := h x this.2
        omega
      rw [List.length_erase_of_mem m] at this
      omega
    · have := nodup_le n l hn fun x hx => by
        have h1 := h x hx
        have h2 : x ≠ n := fun e => m (by rw [← e]; exact hx)
        omega
      omega
abbrev KvI := List (Key × V)
/-- a dict from numbers below n to numbers -/
structure IntD (n : Int) (l : KvI) : Prop where
  all : ∀ p ∈ l, ∃ i j : Int, p = (.inl i, .int j) ∧ 0 ≤ i ∧ i < n
  nd : (l.map (·.1)).Nodup
theorem putK_keys {l : KvI} {k : Key} {v : V} : (putK l k v).map (·.1) = if (l.any fun kv => decide (kv.1 = k)) = true then l.map (·.1) else l.map (·.1) ++ [k] := by
  unfold putK
  split
  · rw [List.map_map]
    refine List.map_congr_left fun p hp => ?_
    show (if p.1 = k then (p.1, v) else p).1 = p.1
    split <;> rfl
  · rw [List.map_append]
    rfl
theorem IntD.put {n : Int} {l : KvI} (h : IntD n l) {i : Int} (j : Int) (h0 : 0 ≤ i) (h1 : i < n) : IntD n (putK l (.inl i) (.int j)) := by
  refine ⟨fun p hp => ?_, ?_⟩
  · unfold putK at hp
    split at hp
    · obtain ⟨q, hq, e⟩ := List.mem_map.mp hp
      obtain ⟨i', j', e2, e3, e4⟩ := h.all q hq
      subst e2
      by_cases c : (Sum.inl i' : Key) = Sum.inl i
      · rw [if_pos c] at e
        exact ⟨i', j, e.symm, e3, e4⟩
      · rw [if_neg c] at e
        exact ⟨i', j', e.symm, e3, e4⟩
    · rcases List.mem_append.mp hp with m | m
      · exact h.all p m
      · exact ⟨i, j, List.mem_singleton.mp m, h0, h1⟩
  · rw [putK_keys]
    split
    · exact h.nd
    · rename_i c
      refine List.nodup_append.mpr ⟨h.nd, by simp, fun a ha b hb e => ?_⟩
      rw [List.mem_singleton.mp hb] at e
      obtain ⟨p, hp, e2⟩ := List.mem_map.mp ha
      exact c (List.any_eq_true.mpr ⟨p, hp, decide_eq_true (e2.trans e)⟩)
theorem IntD.nil (n : Int) : IntD n [] := ⟨fun _ h => (nomatch h), List.nodup_nil⟩
/-- its keys -/
def keysI (l : KvI) : List Int := l.map fun p => match p.1 with
  | .inl i => i
  | .inr _ => 0
theorem IntD.keys {n : Int} {l : KvI} (h : IntD n l) : l.map (·.1) = (keysI l).map Sum.inl := by
  unfold keysI
  rw [List.map_map]
  refine List.map_congr_left fun p hp => ?_
  obtain ⟨i, j, e, _⟩ := h.all p hp
  subst e
  rfl
theorem IntD.keysOk {n : Int} {l : KvI} (h : IntD n l) : ∀ i ∈ keysI l, 0 ≤ i ∧ i < n := fun i hi => by
  unfold keysI at hi
  obtain ⟨p, hp, e⟩ := List.mem_map.mp hi
  obtain ⟨i', j, e2, h1, h2⟩ := h.all p hp
  subst e2
  subst e
  exact ⟨h1, h2⟩
theorem IntD.few {n : Int} {l : KvI} (h : IntD n l) : l.length ≤ n.toNat := by
  have e : (keysI l).Nodup := by
    have h1 := h.nd
    rw [h.keys] at h1
    exact List.Pairwise.of_map Sum.inl (fun a b q e => q (by rw [e])) h1
  have h2 := nodup_le n.toNat ((keysI l).map Int.toNat) ?_ fun x hx => ?_
  · simpa [keysI] using h2
  · refine List.pairwise_map.mpr (e.imp_of_mem fun {a b} ha hb q z => q ?_)
    have := h.keysOk a ha
    have := h.keysOk b hb
    omega
  · obtain ⟨i, hi, e⟩ := List.mem_map.mp hx
    have := h.keysOk i hi
    omega
theorem IntD.val {n : Int} {l : KvI} (h : IntD n l) (i : Int) : ∃ j : Int, (valV l (.inl i)).getD (.int 0) = .int j := by
  unfold valV
  cases e : l.find? fun kv => decide (kv.1 = Sum.inl i) with
  | none => exact ⟨0, rfl⟩
  | some p =>
    obtain ⟨_, j, e2, _⟩ := h.all p (List.mem_of_find?_eq_some e)
    subst e2
    exact ⟨j, rfl⟩
/-- the number at a value -/
def asI : V → Int
  | .int j => j
  | _ => 0
def bump (l : KvI) (g m : Int) : KvI := putK l (.inl g) (.int (asI ((valV l (.inl g)).getD (.int 0)) + m))
def spread (gs : List Int) (m : Int) (l : KvI) : KvI := gs.foldl (fun k g => bump k g m) l
def stepE (S : St0) (c : Nat) (here later : KvI) : KvI := here.foldl (fun l p => match p with
  | (.inl x, .int m) => spread (goals S.ts c x) m l
  | _ => l) later
def ends (S : St0) (cs : List Nat) (x : Int) : KvI := cs.foldl (fun h c => stepE S c h []) [(.inl x, .int 1)]
theorem goals_ok {S : St0} (h : S.Ok) {c : Nat} {x g : Int} (m : g ∈ goals S.ts c x) : 0 ≤ g ∧ g < S.n := by
  unfold goals at m
  obtain ⟨t, ht, e⟩ := List.mem_map.mp m
  have := h.ok t (List.mem_filter.mp ht).1
  subst e
  exact ⟨this.y0, this.y1⟩
theorem goals_few {S : St0} (h : S.Ok) (c : Nat) (x : Int) : (goals S.ts c x).length ≤ 400 := by
  unfold goals
  rw [List.length_map]
  exact Nat.le_trans (List.length_filter_le _ _) h.few
theorem IntD.bump {n : Int} {l : KvI} (h : IntD n l) {g : Int} (m : Int) (h0 : 0 ≤ g) (h1 : g < n) : IntD n (bump l g m) := h.put _ h0 h1
theorem IntD.spread {n : Int} (m : Int) : ∀ {gs : List Int} {l : KvI}, IntD n l → (∀ g ∈ gs, 0 ≤ g ∧ g < n) → IntD n (spread gs m l)
  | [], _, h, _ => h
  | g :: gs, l, h, k => IntD.spread m (gs := gs) (h.bump m (k g List.mem_cons_self).1 (k g List.mem_cons_self).2) fun x hx => k x (List.mem_cons_of_mem _ hx)
theorem IntD.stepE {S : St0} (ok : S.Ok) (c : Nat) : ∀ {here later : KvI}, IntD S.n later → IntD S.n (stepE S c here later)
  | [], _, h => h
  | p :: here, later, h => by
    refine IntD.stepE ok c (here := here) ?_
    show IntD S.n (match p with
      | (.inl x, .int m) => Net.spread (goals S.ts c x) m later
      | _ => later)
    split
    · exact h.spread _ fun g hg => goals_ok ok hg
    · exact h
theorem IntD.ends {S : St0} (ok : S.Ok) {x : Int} (h0 : 0 ≤ x) (h1 : x < S.n) (cs : List Nat) : IntD S.n (ends S cs x) := by
  have gen : ∀ (cs : List Nat) (h : KvI), IntD S.n h → IntD S.n (cs.foldl (fun h c => Net.stepE S c h []) h) := fun cs => by
    induction cs with
    | nil => exact fun h z => z
    | cons c cs ih => exact fun h z => ih _ (IntD.stepE ok c (IntD.nil _))
  exact gen cs _ ⟨fun p hp => ⟨x, 1, List.mem_singleton.mp hp, h0, h1⟩, by simp⟩
/-- numbers in order -/
def srt (l : List Int) : List Int := l.mergeSort fun a b => decide (a ≤ b)
theorem srt_uniq {l ys : List Int} (p : ys.Perm l) (s : ys.Pairwise (· ≤ ·)) : ys = srt l := by
  have h1 : (srt l).Pairwise (· ≤ ·) := (List.pairwise_mergeSort (le := fun a b : Int => decide (a ≤ b)) (fun a b c h1 h2 => by simp at h1 h2 ⊢; omega) (fun a b => by simp; omega) l).imp fun {a b} z => by simpa using z
  exact List.Perm.eq_of_pairwise (fun a b _ _ h1 h2 => Int.le_antisymm h1 h2) s h1 (p.trans (List.mergeSort_perm l _).symm)
theorem srt_len (l : List Int) : (srt l).length = l.length := (List.mergeSort_perm l _).length_eq
theorem srt_mem {l : List Int} {x : Int} : x ∈ srt l ↔ x ∈ l := (List.mergeSort_perm l _).mem_iff
/-- the pairs that a word joins -/
def pairsAt (S : St0) (cs : List Nat) (x : Int) : List (Int × Int) := (srt (keysI (ends S cs x))).map fun y => (x, y)
def pairsOf (S : St0) (cs : List Nat) : List (Int × Int) := (List.range S.n.toNat).flatMap fun (x : Nat) => pairsAt S cs (x : Int)
theorem pairsAt_len {S : St0} (ok : S.Ok) {x : Int} (h0 : 0 ≤ x) (h1 : x < S.n) (cs : List Nat) : (pairsAt S cs x).length ≤ 40 := by
  unfold pairsAt
  rw [List.length_map, srt_len]
  have := (IntD.ends ok h0 h1 cs).few
  have e : (keysI (ends S cs x)).length = (ends S cs x).length := by unfold keysI; rw [List.length_map]
  have := ok.n2
  omega
end Net
namespace Net
open PySem PySem.Spec PyProof.Rows L2
def spEnds (K : PySem.W.Frag) : Sp := fun vs H Q _ => ∃ (N : Ad) (v : V) (S : St0) (x : Str) (b : Int), vs = [v, .str x, .int b] ∧ StAt K N H v S ∧ S.Ok ∧ Wd x ∧ 0 ≤ b ∧ b < S.n ∧
  ∀ d H', Same H H' → H' d = some (.dK (ends S x.cps.toList b)) → Q (.ref d) H'
def spPairs (K : PySem.W.Frag) : Sp := fun vs H Q _ => ∃ (N : Ad) (v : V) (S : St0) (x : Str), vs = [v, .str x] ∧ StAt K N H v S ∧ S.Ok ∧ 1 ≤ x.length ∧ x.length ≤ 12 ∧ Wd x ∧
  ∀ u H', Same H H' → rp (In H) H' u (pairsOf S x.cps.toList) → Q u H'
section
variable {P : Program} {w : World} {K : PySem.W.Frag} {mg : Str → Option Value} {base : Heap}
abbrev nEnds : List Str := ["store", "word", "begin", "here", "letter", "later", "node", "many", "goal"]
theorem sc_ends_by : FnScope nEnds ["store", "word", "begin"] (defScope s_ends_by) := ⟨rfl, rfl, rfl, by decide +kernel, rfl, by decide +kernel, by decide +kernel⟩
theorem ok_ends_by (T : NT K mg) : Cal P w K mg base (ga K "ends_by") 1 ["store", "word", "begin"] (spEnds K) := by
  obtain ⟨fd, F⟩ := T.D_ends_by
  refine Cal.of F (F.bindsN fun _ _ _ _ _ _ us hl => match us, hl with | [_, _, _], _ => rfl) sc_ends_by (fun vs H Q E h => ?_) (fun cdv A outer s H vs Q E hr h => ?_)
  · obtain ⟨N, v, S, x, b, rfl, _⟩ := h
    rfl
  · obtain ⟨N, v, S, x, b, rfl, st, ok, hw, hb0, hb1, k⟩ := h
    have hu := hu_of hr
    have nd := sc_ends_by.nd
    obtain ⟨a, dx, td, gd, od, rfl, na, nt, ha, ht, ng, kg, hkg, hg⟩ := id st
    refine ⟨_, pss_cons (ps_set (i := 3) nd rfl (Or.inl rfl) (pe_disp (pps_cons (pv 2) pe_int pps_nil) rfl rfl (fun z => nomatch z) (by decide)))
      (pss_cons (ps_for PassesOwn.never rfl (pi_str (pv 1)) (pg_name (i := 4) nd rfl (Or.inl rfl))
        (pss_cons (ps_set (i := 5) nd rfl (Or.inl rfl) pe_dnewK)
        (pss_cons (ps_freeze (ps_for PassesOwn.never rfl (pi_items (pv 3)) (pg_tup rfl (pgs_cons (pg_name (i := 6) nd rfl (Or.inl rfl)) (pgs_cons (pg_name (i := 7) nd rfl (Or.inl rfl)) pgs_nil)))
          (pss_one (ps_for PassesOwn.never rfl (pi_list (pe_ix ix_list (pe_dget hu (pe_fld (pv 0) rfl) (pv 4) (fun _ _ => rfl)) (pv 6) (fun _ _ => rfl))) (pg_name (i := 8) nd rfl (Or.inl rfl))
            (pss_one (ps_dput hu (pv 5) (pv 8) (pe_op op_add (pe_dget2 hu (pv 5) (pv 8) pe_int ⟨rfl, rfl, rfl, rfl⟩) (pv 7)) rfl))))))
        (pss_one (ps_set (i := 3) nd rfl (Or.inl rfl) (pv 5))))))
      (pss_one (ps_ret (pv 3)))), ?_⟩
    have cs0 : ∀ c ∈ x.cps.toList, 97 ≤ c ∧ c ≤ 102 := hw
    have hn40 := ok.n2
    have dk : ∀ l, IntD S.n (ends S l b) := fun l => IntD.ends ok hb0 hb1 l
    have small : ∀ {l : KvI}, IntD S.n l → l.length < sizeLine := fun {l} h => by
      have h1 := h.few
      have h2 := big
      omega
    intro d0 hd0
    refine ⟨_, rfl, upd_same, [(.inl b, .int 1)], rfl, Nat.le_of_ble_eq_true rfl, ?_⟩
    have s0 : Same H (upd (upd H d0 (.dK [])) d0 (.dK (mergeK [] [(.inl b, .int 1)]))) := fun c o e => by
      rw [upd_ne (ne_of_none e hd0), upd_ne (ne_of_none e hd0)]
      exact e
    refine ⟨_, rfl, _, rfl, for_it walk_str (fun i σ H' => ∃ (d : Addr) (o4 o5 o6 o7 o8 : Option V), σ = [some (.ref a), some (.str x), some (.int b), some (.ref d), o4, o5, o6, o7, o8] ∧ Same H H' ∧ H d = none ∧ H' d = some (.dK (ends S (x.cps.toList.take i) b)))
      ⟨d0, none, none, none, none, none, rfl, s0, hd0, upd_same⟩ (fun _ _ _ _ _ => trivial) ?_ ?_⟩
    · rintro i y σ H3 H2 hi ⟨d, o4, o5, o6, o7, o8, rfl, s2, hdn, hd⟩ ⟨rfl, c, hc, rfl⟩
      have hc' : x.cps.toList[i]? = some c := by rw [Array.getElem?_toList]; exact hc
      obtain ⟨c1, c2⟩ := cs0 c (List.mem_of_getElem? hc')
      intro e he
      have hde : d ≠ e := ne_of_none hd he
      have hen : H e = none := s2.free he
      refine ⟨d, .dK (ends S (x.cps.toList.take i) b), (by rw [upd_ne hde]; exact hd), trivial, fun od2 => ?_⟩
      have s4 : Same H (upd (upd H2 e (.dK [])) d (.frz od2 (.dK (ends S (x.cps.toList.take i) b)))) := fun p o q => by
        rw [upd_ne (ne_of_none q hdn), upd_ne (ne_of_none q hen)]
        exact s2 p o q
      refine ⟨_, rfl, d, od2, _, rfl, upd_same, for_it walk_items (fun j σ H' => ∃ (o6 o7 o8 : Option V), σ = [some (.ref a), some (.str x), some (.int b), some (.ref d), some (.str (sg c)), some (.ref e), o6, o7, o8] ∧ Same H H' ∧ H' d = some (.frz od2 (.dK (ends S (x.cps.toList.take i) b))) ∧ H' e = some (.dK (stepE S c ((ends S (x.cps.toList.take i) b).take j) [])))
        ⟨o6, o7, o8, rfl, s4, upd_same, by rw [upd_ne (Ne.symm hde)]; exact upd_same⟩ (fun j σ H' _ ⟨_, _, _, _, _, q, _⟩ => q) ?_ ?_⟩
      · rintro j y σ H5 H6 hj ⟨o6, o7, o8, rfl, s5, hd5, he5⟩ ⟨T0, y1, z1, rfl, hT, rfl, e1, e2⟩
        replace e1 : ((ends S (x.cps.toList.take i) b)[j]?).map (fun kv => kV kv.1) = some y1 := e1
        replace e2 : ((ends S (x.cps.toList.take i) b)[j]?).map Prod.snd = some z1 := e2
        obtain ⟨p, hp⟩ : ∃ p, (ends S (x.cps.toList.take i) b)[j]? = some p := by
          cases q : (ends S (x.cps.toList.take i) b)[j]? with
          | none =>
            rw [q] at e1
            cases e1
          | some p => exact ⟨p, rfl⟩
        obtain ⟨n0, m0, rfl, hn0, hn1⟩ := (dk _).all p (List.mem_of_getElem? hp)
        rw [hp] at e1 e2
        cases e1
        cases e2
        refine ⟨T0, _, rfl, SqT.of upd_same, rfl, _, _, rfl, _, _, rfl, rfl, ?_⟩
        have s6 : Same H (upd H5 T0 (.tup [V.int n0, .int m0])) := s5.lay hT
        obtain ⟨v1, hv1, al, xs, rfl, nal, hal, hxs⟩ := hg c c1 c2
        have hti : (((n0.toNat : Nat) : Int)) = n0 := Int.toNat_of_nonneg hn0
        obtain ⟨_, hy2, l, ys, rfl, nl, hl, hys⟩ := hxs.get (i := n0.toNat) (b := goals S.ts c n0) (by
          rw [List.getElem?_map, List.getElem?_range (by omega)]
          show some (goals S.ts c ((n0.toNat : Nat) : Int)) = _
          rw [hti])
        have e3 := ints_of hys
        subst e3
        refine ⟨_, rfl, a, _, dx, _, _, rfl, s6 _ _ ha, T.c_Store, T.n_Store_own_goals, stF_goals _ _ _, _, rfl, gd, _, rfl, (by rw [← hv1]; exact DGet.k (k := .inr (sg c)) (s6 _ _ hkg)), _, rfl, al, xs, n0, _, rfl, rfl, .of (s6 _ _ hal), (by rw [← hti]; exact atI_nat hy2), ?_⟩
        have dl : ∀ q, IntD S.n (spread ((goals S.ts c n0).take q) m0 (stepE S c ((ends S (x.cps.toList.take i) b).take j) [])) := fun q =>
          (IntD.stepE ok c (IntD.nil _)).spread _ fun g hg => goals_ok ok (List.mem_of_mem_take hg)
        refine ⟨l, rfl, ⟨_, .of (s6 _ _ hl)⟩, for_it (walk_list (xs := (goals S.ts c n0).map V.int)) (fun q σ H' => ∃ (o8 : Option V), σ = [some (.ref a), some (.str x), some (.int b), some (.ref d), some (.str (sg c)), some (.ref e), some (.int n0), some (.int m0), o8] ∧ Same H H' ∧ H' d = some (.frz od2 (.dK (ends S (x.cps.toList.take i) b))) ∧ H' e = some (.dK (spread ((goals S.ts c n0).take q) m0 (stepE S c ((ends S (x.cps.toList.take i) b).take j) []))))
          ⟨o8, rfl, s6, by rw [upd_ne (ne_of_none hd5 hT)]; exact hd5, by rw [upd_ne (ne_of_none he5 hT)]; exact he5⟩ (fun q σ H' _ ⟨_, _, s7, _⟩ => .of (s7 _ _ hl)) ?_ ?_⟩
        · rintro q y σ H7 H8 hq ⟨o8, rfl, s7, hd7, he7⟩ ⟨rfl, hy⟩
          rw [List.getElem?_map] at hy
          obtain ⟨g, hg, rfl⟩ : ∃ g, (goals S.ts c n0)[q]? = some g ∧ y = .int g := by
            cases z : (goals S.ts c n0)[q]? with
            | none =>
              rw [z] at hy
              cases hy
            | some g =>
              rw [z] at hy
              cases hy
              exact ⟨g, rfl, rfl⟩
          obtain ⟨jj, hjj⟩ := (dl q).val g
          refine ⟨_, rfl, e, rfl, .inl ⟨_, .inl he7⟩, _, rfl, _, DGet.k (k := .inl g) he7, _, rfl, jj, m0, hjj, rfl, _, rfl, _, rfl, e, _, rfl, DPut.k (k := .inl g) he7 (small (dl q)), ?_⟩
          refine ⟨_, rfl, fun p o z => ?_, ?_, ?_⟩
          · rw [upd_ne (ne_of_none z hen)]
            exact s7 p o z
          · rw [upd_ne hde]
            exact hd7
          · rw [upd_same, take_succ' hg]
            unfold spread
            rw [List.foldl_append]
            show some (HO.dK (putK (spread ((goals S.ts c n0).take q) m0 _) _ _)) = some (HO.dK (bump (spread ((goals S.ts c n0).take q) m0 _) g m0))
            unfold bump
            rw [hjj]
            rfl
        · rintro σ H7 ⟨o8, rfl, s7, hd7, he7⟩
          refine ⟨_, _, _, rfl, s7, hd7, ?_⟩
          rw [he7, List.length_map, List.take_length, take_succ' hp]
          unfold stepE
          rw [List.foldl_append]
          rfl
      · rintro σ H5 ⟨o6, o7, o8, rfl, s5, hd5, he5⟩
        refine ⟨_, rfl, e, some (.str (sg c)), some (.ref e), o6, o7, o8, rfl, s5, hen, ?_⟩
        rw [he5, List.take_length, take_succ' hc']
        show _ = some (HO.dK (ends S (x.cps.toList.take i ++ [c]) b))
        unfold ends
        rw [List.foldl_append]
        rfl
    · rintro σ H2 ⟨d, o4, o5, o6, o7, o8, rfl, s2, hdn, hd⟩
      refine ⟨_, rfl, k d H2 s2 ?_⟩
      rw [hd]
      have : x.cps.toList.take x.cps.size = x.cps.toList := by rw [← Array.length_toList, List.take_length]
      rw [this]
end
end Net
namespace Net
open PySem PySem.Spec PyProof.Rows L2
theorem take_range_succ {α : Type} {n i : Nat} (h : i < n) (f : Nat → List α) : ((List.range n).take (i + 1)).flatMap f = ((List.range n).take i).flatMap f ++ f i := by
  rw [take_succ' (List.getElem?_range h), List.flatMap_append]
  simp
theorem flat_len {α : Type} (f : Nat → List α) (m : Nat) : ∀ l : List Nat, (∀ x ∈ l, (f x).length ≤ m) → (l.flatMap f).length ≤ m * l.length
  | [], _ => Nat.zero_le _
  | x :: l, h => by
    rw [List.flatMap_cons, List.length_append, List.length_cons, Nat.mul_succ]
    have h1 := h x List.mem_cons_self
    have h2 := flat_len f m l fun y hy => h y (List.mem_cons_of_mem _ hy)
    omega
section
variable {P : Program} {w : World} {K : PySem.W.Frag} {mg : Str → Option Value} {base : Heap}
abbrev nPairs : List Str := ["store", "word", "found", "begin", "end"]
theorem sc_pairs_of : FnScope nPairs ["store", "word"] (defScope s_pairs_of) := ⟨rfl, rfl, rfl, by decide +kernel, rfl, by decide +kernel, by decide +kernel⟩
theorem ok_pairs_of (T : NT K mg) : Cal P w K mg base (ga K "pairs_of") 2 ["store", "word"] (spPairs K) := by
  obtain ⟨fd, F⟩ := T.D_pairs_of
  refine Cal.of F (F.bindsN fun _ _ _ _ _ _ us hl => match us, hl with | [_, _], _ => rfl) sc_pairs_of (fun vs H Q E h => ?_) (fun cdv A outer s H vs Q E hr h => ?_)
  · obtain ⟨N, v, S, x, rfl, _⟩ := h
    rfl
  · obtain ⟨N, v, S, x, rfl, st, ok, _, _, hw, k⟩ := h
    have nd := sc_pairs_of.nd
    obtain ⟨a, dx, td, gd, od, rfl, na, nt, ha, ht, hg⟩ := id st
    refine ⟨_, pss_cons (ps_set (i := 2) nd rfl (Or.inl rfl) (pe_lst pa_nil))
      (pss_cons (ps_for PassesOwn.never rfl (pi_range1 (by rfl) T.b_range (pa_cons (pe_fld (pv 0) rfl) pa_nil)) (pg_name (i := 3) nd rfl (Or.inr rfl))
        (pss_one (ps_expr (pe_bm PySem.F.plainAttrs_list PySem.F.slot_list_extend PySem.F.type_list_extend mt_extend (pv 2) (pa_cons (pe_lc (own := [("end", 4)]) (g := gName 4) (tt := tYes) rfl nd
            (pi_list (pe_b (call_sortedDI rfl) T.b_sorted (pa_cons (pe_f (ok_ends_by T) T.g_ends_by (hr.mono (by decide)) (pa_cons (pv 0) (pa_cons (pv 1) (pa_cons (pv 3) pa_nil)))) pa_nil))) (blkOk_by (N := nPairs) (sc := defScope s_pairs_of) (by decide +kernel))
            (fun _ _ _ _ _ => pg_name (i := 4) nd rfl (Or.inl rfl)) (fun _ _ _ _ _ => pts_nil) (fun _ _ _ _ _ => pe_tup (pa_cons (pv 3) (pa_cons (pv 4) pa_nil)))) pa_nil)))))
      (pss_one (ps_ret (pv 2)))), ?_⟩
    have hn40 := ok.n2
    have hn1 := ok.n1
    have hbig := big
    refine ⟨Nat.zero_le _, fun f hf => ?_⟩
    refine ⟨_, rfl, a, _, dx, _, _, rfl, Same.new hf _ _ ha, T.c_Store, T.n_Store_own_nodes, stF_nodes _ _ _, S.n, rfl, by omega, by omega, for_it walk_range (fun i σ H' => ∃ (o3 : Option V) (xs : List V), σ = [some (.ref a), some (.str x), some (.ref f), o3, none] ∧ Same H H' ∧ H' f = some (.lst xs) ∧ All2 (rp (And1 (In H) f) H') xs (((List.range S.n.toNat).take i).flatMap fun (x1 : Nat) => pairsAt S x.cps.toList (x1 : Int)))
      ⟨none, [], rfl, Same.new hf, upd_same, trivial⟩ (fun _ _ _ _ _ => trivial) ?_ ?_⟩
    · rintro i y σ H3 H2 hi ⟨o3, xs, rfl, s2, hfx, rx⟩ ⟨rfl, rfl⟩
      refine (show gName 3 (V.int (0 + (i : Int))) _ _ _ from ?_)
      rw [Int.zero_add]
      have hi0 : (0 : Int) ≤ (i : Int) := Int.natCast_nonneg i
      have hi1 : (i : Int) < S.n := by omega
      refine ⟨_, rfl, .inl ⟨rfl, _, SqL.of hfx⟩, _, rfl, _, rfl, _, rfl, N, _, S, x, i, rfl, st.mono (SameN.of s2), ok, hw, hi0, hi1, fun d H3 s3 hd => ?_⟩
      have hd' := IntD.ends ok hi0 hi1 x.cps.toList
      refine ⟨d, _, keysI (ends S x.cps.toList (i : Int)), rfl, .inl hd, hd'.keys, ?_, fun ys p hp hle hpn => ⟨p, rfl, ⟨_, SqL.of upd_same⟩, fun D hD => ?_⟩⟩
      · have := hd'.few
        have : (keysI (ends S x.cps.toList (i : Int))).length = (ends S x.cps.toList (i : Int)).length := by unfold keysI; rw [List.length_map]
        omega
      have eys := srt_uniq hp hle
      have ylen : ys.length ≤ 40 := by
        have := pairsAt_len ok hi0 hi1 x.cps.toList
        unfold pairsAt at this
        rw [List.length_map, ← eys] at this
        exact this
      have s4 : Same H2 (upd H3 p (.lst (ys.map V.int))) := s3.lay hpn
      refine lc_rp (β := Int × Int) (walk_list (xs := ys.map V.int)) (pairsAt S x.cps.toList (i : Int)) (by unfold pairsAt; rw [← eys, List.length_map, List.length_map]) (by rw [List.length_map]; omega) (And1 (In H) f) hD (fun H1 s1 => SqL.of (s1 _ _ upd_same)) yAt_same (fun j b y H5 H6 K1 hb s5 hex hy k1 => ?_) (fun H5 acc s5 hacc r => ?_)
      · obtain ⟨rfl, hy⟩ := hy
        obtain ⟨acc0, hacc0⟩ := hex
        unfold pairsAt at hb
        rw [← eys, List.getElem?_map] at hb
        rw [List.getElem?_map] at hy
        cases z : ys[j]? with
        | none =>
          rw [z] at hb
          cases hb
        | some e =>
          rw [z] at hb hy
          cases hb
          cases hy
          refine ⟨wipe1 _ _ _, _, rfl, _, rfl, (by show 2 ≤ sizeLine; decide), fun q hq => k1 _ _ (Same.new hq) ⟨q, _, _, rfl, ?_, upd_same, rfl, rfl⟩⟩
          rintro ((z | z) | z)
          · exact In.not' (s2.trans (s4.trans s5)) hq z
          · rw [z, s5 _ _ (s4 _ _ hfx)] at hq
            cases hq
          · rw [z, hacc0] at hq
            cases hq
      · have s6 : Same H2 H5 := s4.trans s5
        have l1 := rx.length
        have l2 := r.length
        have l3 := pairsAt_len ok hi0 hi1 x.cps.toList
        have l4 := flat_len (fun (x1 : Nat) => pairsAt S x.cps.toList (x1 : Int)) 40 ((List.range S.n.toNat).take i) fun y hy => by
          have := List.mem_range.mp (List.mem_of_mem_take hy)
          exact pairsAt_len ok (Int.natCast_nonneg y) (by omega) x.cps.toList
        have l5 : ((List.range S.n.toNat).take i).length ≤ 40 := by
          rw [List.length_take, List.length_range]
          omega
        refine ⟨f, D, xs, acc, rfl, rfl, s6 _ _ hfx, hacc, by omega, ?_⟩
        refine ⟨_, _, rfl, fun c o e => ?_, upd_same, ?_⟩
        · rw [upd_ne (ne_of_none e hf)]
          exact s6 c o (s2 c o e)
        · rw [take_range_succ (by omega)]
          exact ((rx.monoR (SameN.of s6)).append (r.weakR fun c z => .inl z)).monoR (SameN.upd (Or.inr rfl))
    · rintro σ H2 ⟨o3, xs, rfl, s2, hfx, rx⟩
      refine ⟨_, rfl, k _ H2 s2 ⟨f, xs, rfl, In.not hf, hfx, ?_⟩⟩
      have e : (List.range S.n.toNat).take S.n.toNat = List.range S.n.toNat := by
        rw [List.take_of_length_le]
        rw [List.length_range]
        exact Nat.le_refl _
      rw [e] at rx
      exact rx.weakR fun c z => .inl z
theorem sc_pairs : FnScope ["store", "word"] ["store", "word"] (defScope s_pairs) := ⟨rfl, rfl, rfl, by decide +kernel, rfl, by decide +kernel, by decide +kernel⟩
theorem ok_pairs (T : NT K mg) : Cal P w K mg base (ga K "pairs") 3 ["store", "word"] (spPairs K) := by
  obtain ⟨fd, F⟩ := T.D_pairs
  refine Cal.of F (F.bindsN fun _ _ _ _ _ _ us hl => match us, hl with | [_, _], _ => rfl) sc_pairs (fun vs H Q E h => ?_) (fun cdv A outer s H vs Q E hr h => ?_)
  · obtain ⟨N, v, S, x, rfl, _⟩ := h
    rfl
  · obtain ⟨N, v, S, x, rfl, st, ok, h1, h2, hw, k⟩ := h
    refine ⟨_, pss_cons (ps_expr (pe_f (ok_want_word T) T.g_want_word (hr.mono (by decide)) (pa_cons (pv 1) pa_nil)))
      (pss_one (ps_ret (pe_f (ok_pairs_of T) T.g_pairs_of (hr.mono (by decide)) (pa_cons (pv 0) (pa_cons (pv 1) pa_nil))))), ?_⟩
    refine ⟨_, rfl, x, rfl, h1, h2, hw, fun H1 s1 => ?_⟩
    refine ⟨_, rfl, _, rfl, N, v, S, x, rfl, st.mono (SameN.of s1), ok, h1, h2, hw, fun u H' s2 r => k u H' (s1.trans s2) (Rp.weak (fun c ⟨o, e⟩ => ⟨o, s1 c o e⟩) r)⟩
end
end Net
/-! sorted(d.items()) where d's keys are pairs of numbers, and dict() of such a list. -/
namespace SrtO
open PySem PyProof.Rows Srt
section
variable {prog : Program} {w : World} {A : Around} {E : Value → Shared → Prop} {s : Shared}
/-- a tuple (a tuple of two numbers, c) -/
def IsSpot (h : Heap) (v : Value) (e : (Int × Int) × Addr) : Prop := ∃ (a q : Addr) (t u : Tok), v = .ref a ∧ IsTup h a #[.ref q, .ref e.2] ∧ IsTup h q #[.int e.1.1 t, .int e.1.2 u]
theorem IsSpot.keeps {h h' : Heap} {v : Value} {e : (Int × Int) × Addr} (p : IsSpot h v e) (k : ∀ b o, h.get? b = some o → o.cls = .type "tuple" → h'.get? b = some o) : IsSpot h' v e :=
  let ⟨a, q, t, u, ev, ⟨o, ho, hc, r⟩, ⟨o2, ho2, hc2, r2⟩⟩ := p
  ⟨a, q, t, u, ev, ⟨o, k _ _ ho hc, hc, r⟩, ⟨o2, k _ _ ho2 hc2, hc2, r2⟩⟩
theorem spot_firsts {h : Heap} {k : Value → (Int × Int) × Addr} : ∀ {vs : List Value}, (∀ v ∈ vs, IsSpot h v (k v)) → ∃ fs : List Value, PySem.W.KatTups h vs fs ∧ fs.length = vs.length ∧ ∀ f ∈ fs, ∃ (q : Addr) (o : Obj), f = Value.ref q ∧ h.get? q = some o ∧ o.cls = .type "tuple"
  | [], _ => ⟨[], PySem.W.KatTups.nil, rfl, fun _ hm => by simp at hm⟩
  | v :: vs, hp => by
    obtain ⟨fs, h1, h2, h3⟩ := spot_firsts (vs := vs) fun u hu => hp u (List.mem_cons_of_mem _ hu)
    obtain ⟨a, q, t, u, e, ⟨o, ho, hc, n, hd⟩, ⟨o2, ho2, hc2, _⟩⟩ := hp v List.mem_cons_self
    rw [e]
    refine ⟨.ref q :: fs, PySem.W.KatTups.cons ho hc hd rfl h1, congrArg Nat.succ h2, fun f hm => ?_⟩
    rcases List.mem_cons.mp hm with rfl | hm
    · exact ⟨_, _, rfl, ho2, hc2⟩
    · exact h3 f hm
theorem spot_key {h : Heap} {q : Addr} {i j : Int} {t u : Tok} (x : IsTup h q #[.int i t, .int j u]) : IsTupleKey (L2.mixKind prog w) h [Sum.inl i, Sum.inl j] q := by
  obtain ⟨o, ho, hc, n, hd⟩ := x
  exact ⟨o, _, n, ho, hc, hd, .cons (L2.mixKind_int prog w i t) (.cons (L2.mixKind_int prog w j u) .nil)⟩
theorem spot_lex {p q : Int × Int} : HT.lexLt [p.1, p.2] [q.1, q.2] = lexB p q := by
  unfold lexB HT.lexLt
  by_cases h : p.1 = q.1
  · rw [if_pos h, if_pos h]
    unfold HT.lexLt
    by_cases h2 : p.2 = q.2
    · rw [if_pos h2]
      unfold HT.lexLt
      exact (decide_eq_false (by omega)).symm
    · rw [if_neg h2]
  · rw [if_neg h, if_neg h]
theorem spot_cmp {vs : List Value} {k : Value → (Int × Int) × Addr} (hu : A.units < cLine) (hp : ∀ v ∈ vs, IsSpot s.heap v (k v)) (hk : ∀ v ∈ vs, ∀ u ∈ vs, (k v).1 = (k u).1 → (k v).2 = (k u).2) :
    Cmp prog w A s (tuples' false) (fun p => p.1 ∈ vs) (lt2 fun v u => lexB (k v).1 (k u).1) := by
  intro p q hm hm'
  obtain ⟨a, c, t, u, e, ⟨o, ho, hc, n, hd⟩, t2⟩ := hp _ hm
  obtain ⟨a', c', t', u', e', ⟨o', ho', hc', n', hd'⟩, t2'⟩ := hp _ hm'
  have inj := hk _ hm _ hm'
  show wpAny (model prog w) A (keyLt' (tuples' false) p.1 q.1) (fun r s' => s' = s ∧ r = lexB (k p.1).1 (k q.1).1) (fun _ _ => False) s
  generalize k p.1 = x at hd t2 inj ⊢
  generalize k q.1 = y at hd' t2' inj ⊢
  rw [e, e']
  refine PySem.W.kat_lt ho hd ho' hd' ?_
  have k1 := spot_key (prog := prog) (w := w) t2
  have k2 := spot_key (prog := prog) (w := w) t2'
  by_cases exy : x.1 = y.1
  · have e2 := inj exy
    refine PySem.W.kat_cons (wpAny_eqBool_tuple hu k1 k2 ?_)
    refine PySem.W.kat_go (fun _ => ?_) (fun e0 => absurd (by rw [exy]) (of_decide_eq_false e0))
    refine PySem.W.kat_yes (PySem.W.kat_cons ?_)
    rw [e2]
    refine SeqAt.EqAt.same (.ref y.2) _ _ _ _ (PySem.W.kat_yes (PySem.W.kat_nil ⟨rfl, ?_⟩))
    rw [exy]
    unfold lexB
    rw [if_pos rfl]
    exact (decide_eq_false (by simp)).trans (decide_eq_false (by omega)).symm
  · refine PySem.W.kat_cons (wpAny_eqBool_tuple hu k1 k2 ?_)
    refine PySem.W.kat_go (fun e0 => ?_) (fun _ => PySem.W.kat_no ?_)
    · exfalso
      have z0 := of_decide_eq_true e0
      simp only [List.cons.injEq, Sum.inl.injEq, and_true] at z0
      exact exy (Prod.ext z0.1 z0.2)
    · refine PySem.W.kat_one _ _ (HT.lt_tupInts (ns := [x.1.1, x.1.2]) (ms := [y.1.1, y.1.2]) t2 t2' (.cons _ _ (.cons _ _ .nil)) (.cons _ _ (.cons _ _ .nil)) hu ?_)
      exact (show s = s ∧ HT.lexLt [x.1.1, x.1.2] [y.1.1, y.1.2] = lexB x.1 y.1 from ⟨rfl, spot_lex⟩)
theorem spot_swo (k : Value → (Int × Int) × Addr) : Swo fun v u => lexB (k v).1 (k u).1 := swo_lex fun v => (k v).1
theorem spots_sortable {a : Addr} {vs : List Value} {k : Value → (Int × Int) × Addr} (hu : A.units < cLine) (h0 : 2 ≤ vs.length) (hp : ∀ v ∈ vs, IsSpot s.heap v (k v)) (hk : ∀ v ∈ vs, ∀ u ∈ vs, (k v).1 = (k u).1 → (k v).2 = (k u).2) (ha : ∀ o, s.heap.get? a = some o → o.cls ≠ .type "tuple") :
    SortableO prog w A s a vs fun v u => lexB (k v).1 (k u).1 := by
  intro h' keep
  have hp' : ∀ v ∈ vs, IsSpot h' v (k v) := fun v hm => (hp v hm).keeps fun b o e c => keep b o (fun z => by subst z; exact ha o e c) e
  obtain ⟨fs, h1, h2, h3⟩ := spot_firsts hp'
  refine ⟨tuples' false, fun Q E hq => ?_, spot_cmp (s := { s with heap := h' }) hu hp' hk⟩
  refine PySem.W.kat_kind (T := .type "tuple") h1 (by omega) (fun f hm => ?_) rfl ?_
  · obtain ⟨q, o, rfl, ho, hc⟩ := h3 f hm
    have z : PySem.W.Looks (model prog w) h' (typeOf (.ref q)) o.cls := (PySem.W.Looks.ld ho).andThen .now
    rw [hc] at z
    exact z
  · have e : (Value.type "tuple" != Value.type "tuple") = false := by first | rfl | decide | simp
    rw [e]
    exact hq
end
end SrtO
namespace Net
open PySem PySem.Spec PyProof.Rows L2 L2.DX
abbrev Sp2 := (Int × Int) × Addr
abbrev entS (e : Sp2) : List Key × V := ([.inl e.1.1, .inl e.1.2], .ref e.2)
theorem zip_lookup {α β : Type} [DecidableEq α] : ∀ {as : List α} {ks : List β} {j : Nat} {b : α} {e : β}, as.Nodup → as[j]? = some b → ks[j]? = some e → (as.zip ks).lookup b = some e
  | [], _, _, _, _, _, h, _ => by simp at h
  | _ :: _, [], _, _, _, _, _, h => by simp at h
  | a :: as, k :: ks, 0, b, e, _, h1, h2 => by
    simp at h1 h2
    subst h1
    subst h2
    simp
  | a :: as, k :: ks, j + 1, b, e, hn, h1, h2 => by
    have hn2 := List.nodup_cons.mp hn
    simp only [List.getElem?_cons_succ] at h1 h2
    have hne : (b == a) = false := by
      rw [beq_eq_false_iff_ne]
      intro z
      exact hn2.1 (by rw [← z]; exact List.mem_of_getElem? h1)
    rw [List.zip_cons_cons, List.lookup_cons, hne]
    exact zip_lookup hn2.2 h1 h2
def rSortSp : List V → Hp → VK → Prop := fun vs H Q => ∃ (p a : Addr) (ks : List Sp2), vs = [.ref p] ∧ H p = some (itemsO p a) ∧ H a = some (.dT (ks.map entS)) ∧ (ks.map (·.1)).Nodup ∧ ks.length ≤ 1000 ∧
  ∀ (H' : Hp) (l : Addr) (ps : List (Addr × Sp2)), Same H H' → (ps.map (·.2)).Perm ks → H' l = some (.lst (ps.map fun z => V.ref z.1)) →
    (∀ z ∈ ps, ∃ q, H' z.1 = some (.tup [.ref q, .ref z.2.2]) ∧ H' q = some (.tup [.int z.2.1.1, .int z.2.1.2])) → Q (.ref l) H'
section
variable {X : Cx}
theorem cr_sortSp (hc : X.calm = true) (hu : X.A.units + 64 < cLine) : CallR X (.builtin "sorted") rSortSp := by
  intro pins s σ H xs us Q I r h
  obtain ⟨p, a, ks, rfl, hp, ha, hnd, hlen, q⟩ := h
  obtain rfl := Vals.ref1 r
  have view : s.heap.IsItemsView p a := (show ObjOk X.prog X.w H s.heap p (itemsO p a) from I.hok p _ hp).1
  obtain ⟨z, hd, xs', rel, o, es, ep, ho, hx, hdat, hes, his, hn⟩ := dt_of I.hok ha
  have l1 : (ks.map entS).length = xs'.length := Paired.length rel
  rw [List.length_map] at l1
  have l2 : es.size = xs'.length := size_of_entries hes
  have hh : X.A.handled = none := I.ok.hd hc
  refine DT.sortedI (es := es) (ep := ep) hh view ⟨o, ho, hx, hdat⟩ (by rw [sizeLine_eq]; omega) fun h' tk as hk hlt hl hG => ?_
  have lak : as.length = ks.length := by omega
  have nd : as.Nodup := List.Pairwise.imp (fun h => Nat.ne_of_lt h) hG.rise
  have pr : ∀ (j : Nat) (b : Addr), as[j]? = some b → ∃ (e : Sp2) (kq : Addr), ks[j]? = some e ∧ H kq = some (.tup [.int e.1.1, .int e.1.2]) ∧ h'.get? b = some { cls := .type "tuple", data := .seq #[Value.ref kq, Value.ref e.2] } := by
    intro j b hj
    obtain ⟨en, he, hg⟩ := hG.pairs j b hj
    rw [entry_at hes j] at he
    cases hxj : xs'[j]? with
    | none =>
      rw [hxj] at he
      exact nomatch (show (none : Option DictEntry) = some en from he)
    | some x =>
      rw [hxj] at he
      have een : entryOfKey (tupleKind (mixKind X.prog X.w)) x = en := Option.some.inj he
      obtain ⟨e0, he0, r1, r2, r3⟩ := pget rel hxj
      rw [List.getElem?_map] at he0
      cases hkj : ks[j]? with
      | none =>
        rw [hkj] at he0
        exact nomatch (show (none : Option (List L2.Key × V)) = some e0 from he0)
      | some e =>
        rw [hkj] at he0
        have ee : entS e = e0 := Option.some.inj he0
        rw [← ee] at r2 r3
        have r3' : x.2.2 = Value.ref e.2 := r3
        refine ⟨e, x.2.1, rfl, r2, ?_⟩
        rw [hg, ← een, ← r3']
        all_goals rfl
  have hob : (h'.push { cls := .type "list", data := .seq (as.map Value.ref).toArray }).get? h'.objs.size = some (seqObj "list" (as.map Value.ref).toArray 0) := Heap.get?_push_size _ rfl
  have kb : ∀ b o, s.heap.get? b = some o → (h'.push { cls := .type "list", data := .seq (as.map Value.ref).toArray }).get? b = some o := fun b o e => Heap.get?_push_of_some _ (hk b o e)
  have ne0 : ∀ b o, h'.get? b = some o → b ≠ h'.objs.size := fun b o e => Nat.ne_of_lt (Heap.lt_size e)
  generalize hh2 : h'.push { cls := .type "list", data := .seq (as.map Value.ref).toArray } = h2 at hob kb ⊢
  have ka : ∀ b o, h'.get? b = some o → h2.get? b = some o := fun b o e => by rw [← hh2]; exact Heap.get?_push_of_some _ e
  -- the key of a pair
  obtain ⟨κ, hκ⟩ : ∃ κ : Value → Sp2, ∀ (j : Nat) (b : Addr) (e : Sp2), as[j]? = some b → ks[j]? = some e → κ (.ref b) = e :=
    ⟨fun v => match v with
      | .ref b => ((as.zip ks).lookup b).getD ((0, 0), 0)
      | _ => ((0, 0), 0), fun j b e h1 h2 => by
        show ((as.zip ks).lookup b).getD ((0, 0), 0) = e
        rw [zip_lookup nd h1 h2]
        rfl⟩
  have at_ : ∀ v ∈ as.map Value.ref, ∃ (j : Nat) (b : Addr) (e : Sp2), v = .ref b ∧ as[j]? = some b ∧ ks[j]? = some e := by
    intro v hv'
    obtain ⟨b, hb, rfl⟩ := List.mem_map.mp hv'
    obtain ⟨j, hj⟩ := List.mem_iff_getElem?.mp hb
    obtain ⟨e, _, he, _⟩ := pr j b hj
    exact ⟨j, b, e, rfl, hj, he⟩
  have pin : ∀ v ∈ as.map Value.ref, SrtO.IsSpot h2 v (κ v) := by
    intro v hv
    obtain ⟨j, b, e, rfl, hj, he⟩ := at_ v hv
    obtain ⟨e', kq, he', hkq, hg⟩ := pr j b hj
    have ee : e' = e := Option.some.inj (he'.symm.trans he)
    subst ee
    rw [hκ j b e' hj he]
    obtain ⟨_, its, rv, ot, hot, hct, nt, hdt⟩ := (show ObjOk X.prog X.w H s.heap kq (.tup [.int e'.1.1, .int e'.1.2]) from I.hok kq _ hkq)
    cases rv with
    | cons r1 r2 =>
      cases r2 with
      | cons r3 r4 =>
        cases r4
        obtain ⟨t, rfl⟩ := r1
        obtain ⟨u, rfl⟩ := r3
        exact ⟨b, kq, t, u, rfl, ⟨_, ka _ _ hg, rfl, 0, rfl⟩, ⟨ot, kb _ _ hot, hct, nt, hdt⟩⟩
  have hinj : ∀ v ∈ as.map Value.ref, ∀ u ∈ as.map Value.ref, (κ v).1 = (κ u).1 → (κ v).2 = (κ u).2 := by
    intro v hv u hu
    obtain ⟨j, b, e, rfl, hj, he⟩ := at_ v hv
    obtain ⟨j2, b2, e2, rfl, hj2, he2⟩ := at_ u hu
    rw [hκ j b e hj he, hκ j2 b2 e2 hj2 he2]
    intro ee
    have f1 : (ks.map (·.1))[j]? = some e.1 := by rw [List.getElem?_map, he]; rfl
    have f2 : (ks.map (·.1))[j2]? = some e.1 := by rw [List.getElem?_map, he2, ee]; rfl
    have ej : j = j2 := (List.getElem?_inj (List.getElem?_eq_some_iff.mp f1).1 hnd).mp (f1.trans f2.symm)
    subst ej
    rw [Option.some.inj (he.symm.trans he2)]
  refine wpAny_call_entry PyProof.Rows.slot_list_sort ⟨_, hob, rfl⟩ PyProof.Rows.entry_list_sort
    (SrtO.list_sort_ord (s := { s with heap := h2, toks := tk }) (SrtO.spot_swo κ) hob (by rw [List.length_map, lak, sizeLine_eq]; omega) (fun hge => SrtO.spots_sortable (s := { s with heap := h2, toks := tk }) (by show X.A.units + 1 + 1 < cLine; omega) hge pin hinj fun o e => ?_) fun out hs hb => ⟨.none, rfl, ?_⟩) (PyProof.Rows.args_list_sort _)
  · cases (hob.symm.trans e)
    intro c
    exact absurd (Value.type.inj c) (by decide)
  · show EP X pins σ Q (.ref h'.objs.size) { s with heap := sortedHeap h2 h'.objs.size (as.map Value.ref) out.toArray, toks := tk }
    obtain ⟨zs, pz, ez⟩ := perm_lift (fun z : Addr × Sp2 => Value.ref z.1) hb.perm (as.zip ks) (by
      have : (as.zip ks).map (fun z => Value.ref z.1) = ((as.zip ks).map (·.1)).map Value.ref := by rw [List.map_map]; rfl
      rw [this, List.map_fst_zip (by rw [lak]; exact Nat.le_refl _)])
    have idx : ∀ z ∈ zs, ∃ j : Nat, as[j]? = some z.1 ∧ ks[j]? = some z.2 := by
      intro z' hz'
      obtain ⟨j, hj⟩ := List.mem_iff_getElem?.mp (pz.mem_iff.mp hz')
      exact ⟨j, List.getElem?_zip_eq_some.mp hj⟩
    have hperm : (zs.map (·.2)).Perm ks := by
      have e := pz.map (·.2)
      have m2 : (as.zip ks).map (·.2) = ks := List.map_snd_zip (by rw [lak]; exact Nat.le_refl _)
      rw [m2] at e
      exact e
    have kF : ∀ b o, b ≠ h'.objs.size → h2.get? b = some o → (sortedHeap h2 h'.objs.size (as.map Value.ref) out.toArray).get? b = some o := fun b o hb e => (PyProof.Rows.sortedHeap_old hb (Heap.lt_size e)).trans e
    have kS : ∀ b o, s.heap.get? b = some o → (sortedHeap h2 h'.objs.size (as.map Value.ref) out.toArray).get? b = some o := fun b o e => kF b o (ne0 _ _ (hk b o e)) (kb b o e)
    obtain ⟨eF, heF⟩ := PyProof.Rows.sortedHeap_at (vs := as.map Value.ref) (out := out.toArray) hob
    have I1 : Inv X pins σ H { s with heap := sortedHeap h2 h'.objs.size (as.map Value.ref) out.toArray, toks := tk } := I.kept (t' := tk) kS
    have hn0 : H h'.objs.size = none := I.hok.fresh (Nat.le_of_lt hlt)
    have hlen' : (zs.map fun z => V.ref z.1).length ≤ sizeLine := by
      have e := hperm.length_eq
      rw [List.length_map] at e
      rw [List.length_map, sizeLine_eq]
      omega
    have rv : Vals (zs.map fun z => V.ref z.1) out.toArray.toList := by
      show Vals _ out
      rw [← ez]
      exact vals_maps (fun z : Addr × Sp2 => V.ref z.1) (fun z => Value.ref z.1) zs fun _ _ => rfl
    have I2 : Inv X pins σ (upd H h'.objs.size (.lst (zs.map fun z => V.ref z.1))) { s with heap := sortedHeap h2 h'.objs.size (as.map Value.ref) out.toArray, toks := tk } :=
      I1.take (h' := sortedHeap h2 h'.objs.size (as.map Value.ref) out.toArray) (t' := tk) (fun b ob _ e => e) (I.fpOk (Nat.le_of_lt hlt) hn0) ⟨hlen', out.toArray.toList, eF, rv, heF⟩
    obtain ⟨H2, I3, g, qt⟩ := takeT (P := fun b vs => ∃ (j : Nat) (e : Sp2) (kq : Addr), as[j]? = some b ∧ ks[j]? = some e ∧ vs = [.ref kq, .ref e.2] ∧ H kq = some (.tup [.int e.1.1, .int e.1.2])) I as _ I2 nd fun b hb => by
      obtain ⟨j, hj⟩ := List.mem_iff_getElem?.mp hb
      obtain ⟨e, kq, he, hkq, hg⟩ := pr j b hj
      have hbl : s.heap.objs.size ≤ b := Nat.le_of_lt (hG.above b hb)
      refine ⟨hbl, ?_, [.ref kq, .ref e.2], ⟨j, e, kq, hj, he, rfl, hkq⟩, fun H3 => ⟨(by rw [sizeLine_eq]; show 2 ≤ 16777216; omega), [Value.ref kq, Value.ref e.2], .cons rfl (.cons rfl .nil), ⟨_, kF _ _ (ne0 _ _ hg) (ka _ _ hg), rfl, 0, rfl⟩⟩⟩
      rw [upd_ne (ne0 _ _ hg)]
      exact I.hok.fresh hbl
    have gr : ∀ b o, H b = some o → H2 b = some o := fun b o e => g b o (by rw [upd_ne (ne_of_none e hn0)]; exact e)
    refine ⟨.ref h'.objs.size, H2, I3, rfl, q H2 h'.objs.size zs gr hperm (g _ _ upd_same) fun z' hz' => ?_⟩
    obtain ⟨i, i1, i2⟩ := idx z' hz'
    obtain ⟨vs, ⟨j, e, kq, j1, j2, ev, hkq⟩, hH⟩ := qt z'.1 (List.mem_of_getElem? i1)
    have eij : i = j := (List.getElem?_inj (List.getElem?_eq_some_iff.mp i1).1 nd).mp (i1.trans j1.symm)
    subst eij
    have ee : e = z'.2 := Option.some.inj (j2.symm.trans i2)
    rw [ev, ee] at hH
    rw [ee] at hkq
    exact ⟨kq, hH, gr _ _ hkq⟩
end
end Net
namespace Net
open PySem PySem.Spec PyProof.Rows L2 L2.DX
theorem pick_all {α : Type} {P : α → Addr → Prop} : ∀ {ps : List α}, (∀ z ∈ ps, ∃ q, P z q) → ∃ qs : List (α × Addr), qs.map (·.1) = ps ∧ ∀ t ∈ qs, P t.1 t.2
  | [], _ => ⟨[], rfl, fun _ h => nomatch h⟩
  | z :: ps, h => by
    obtain ⟨q, hq⟩ := h z List.mem_cons_self
    obtain ⟨qs, e, k⟩ := pick_all (ps := ps) fun y hy => h y (List.mem_cons_of_mem _ hy)
    refine ⟨(z, q) :: qs, by rw [List.map_cons, e], fun t ht => ?_⟩
    rcases List.mem_cons.mp ht with e2 | m
    · subst e2
      exact hq
    · exact k t m
/-- dict(xs), xs a list of pairs (spot, c), no spot twice -/
def rDictSp (K : PySem.W.Frag) : List V → Hp → VK → Prop := fun vs H Q => ∃ (a : Addr) (ps : List (Addr × Sp2)), vs = [.ref a] ∧ H a = some (.lst (ps.map fun z => V.ref z.1)) ∧ (∀ z ∈ ps, ∃ q, H z.1 = some (.tup [.ref q, .ref z.2.2]) ∧ H q = some (.tup [.int z.2.1.1, .int z.2.1.2])) ∧
  ((ps.map (·.2)).map (·.1)).Nodup ∧ ∀ p, H p = none → Q (.ref p) (upd H p (.dT ((ps.map (·.2)).map entS)))
section
variable {X : Cx}
theorem cr_dictSp (hc : X.calm = true) (hu : X.A.units + 64 < cLine) : CallR X (.type "dict") (rDictSp X.K) := by
  intro pins s σ H xs us Q I r h
  obtain ⟨a, ps, rfl, ha, hps, hnd, q⟩ := h
  obtain rfl := Vals.ref1 r
  obtain ⟨qs, eqs, hq⟩ := pick_all hps
  have lq : qs.length = ps.length := by rw [← eqs, List.length_map]
  obtain ⟨hz, its, n, rv, hl⟩ := (show ObjOk X.prog X.w H s.heap a (.lst (ps.map fun z => V.ref z.1)) from I.hok a _ ha)
  rw [List.length_map] at hz
  have ei : its = (ps.map fun z => Value.ref z.1) := by
    have h1 : its.map (fun u => u) = its := List.map_id' its
    have := refs_at (ps := ps.map (·.1)) (us := its) (by rw [List.map_map]; exact rv)
    rw [this, List.map_map]
    rfl
  subst ei
  -- what is put in
  have ekeys : ∀ l : List ((Addr × Sp2) × Addr), (l.map fun t => (([Sum.inl t.1.2.1.1, Sum.inl t.1.2.1.2] : List Key), t.2, Value.ref t.1.2.2)).map (·.1) = (l.map fun t => ([Sum.inl t.1.2.1.1, Sum.inl t.1.2.1.2] : List Key)) := fun l => by rw [List.map_map]; rfl
  obtain ⟨prs, hprs⟩ : ∃ prs, prs = qs.map fun t => (([Sum.inl t.1.2.1.1, Sum.inl t.1.2.1.2] : List Key), t.2, Value.ref t.1.2.2) := ⟨_, rfl⟩
  obtain ⟨vps, hvps⟩ : ∃ vps, vps = qs.map fun t => (Value.ref t.2, Value.ref t.1.2.2) := ⟨_, rfl⟩
  have lv : vps.length = ps.length := by rw [hvps, List.length_map, lq]
  have getq : ∀ (j : Nat) (t : (Addr × Sp2) × Addr), qs[j]? = some t → ps[j]? = some t.1 ∧ t ∈ qs := fun j t e => ⟨by rw [← eqs, List.getElem?_map, e]; rfl, List.mem_of_getElem? e⟩
  have tupAt : ∀ {b : Addr} {x y : V}, H b = some (.tup [x, y]) → ∃ u v, RelV x u ∧ RelV y v ∧ s.heap.IsTuple b #[u, v] := fun {b x y} e => by
    obtain ⟨_, its, r, o, ho, hc, n, hd⟩ := (show ObjOk X.prog X.w H s.heap b (.tup [x, y]) from I.hok b _ e)
    cases r with
    | cons r1 r2 =>
      cases r2 with
      | cons r3 r4 =>
        cases r4
        exact ⟨_, _, r1, r3, o, ho, hc, n, hd⟩
  have items : PySem.PairItems s.heap (ps.map fun z => Value.ref z.1).toArray (fun j => ((ps[j]?).map (·.1)).getD 0) vps := by
    refine ⟨by rw [List.size_toArray, List.length_map, lv], fun j k v e => ?_⟩
    rw [hvps, List.getElem?_map] at e
    cases z : qs[j]? with
    | none =>
      rw [z] at e
      cases e
    | some t =>
      rw [z] at e
      cases e
      obtain ⟨e1, m⟩ := getq j t z
      obtain ⟨h1, h2⟩ := hq t m
      have ef : ((ps[j]?).map (·.1)).getD 0 = t.1.1 := by rw [e1]; rfl
      refine ⟨?_, ?_⟩
      · show _ = some (Value.ref (((ps[j]?).map (·.1)).getD 0))
        rw [List.getElem?_toArray, List.getElem?_map, ef, e1]
        rfl
      · show PySem.PairAt s.heap (((ps[j]?).map (·.1)).getD 0) _ _
        rw [ef]
        obtain ⟨u, v, r1, r2, T⟩ := tupAt h1
        cases (show u = Value.ref t.2 from r1)
        cases (show v = Value.ref t.1.2.2 from r2)
        exact .inl T
  have room : X.A.in1.in1.units < cLine := by
    show X.A.units + 1 + 1 < cLine
    omega
  have keyOk : ∀ x ∈ prs, (tupleKind (mixKind X.prog X.w)).is s.heap x.1 x.2.1 := fun x hx => by
    rw [hprs] at hx
    obtain ⟨t, ht, rfl⟩ := List.mem_map.mp hx
    exact key_of (ks := [.inl t.1.2.1.1, .inl t.1.2.1.2]) I.hok (hq t ht).2
  have ndk : (prs.map (·.1)).Nodup := by
    rw [hprs, ekeys]
    have h1 : ((qs.map (·.1)).map (·.2)).map (·.1) = qs.map fun t => t.1.2.1 := by rw [List.map_map, List.map_map]; rfl
    rw [← eqs, h1] at hnd
    refine List.pairwise_map.mpr ((List.pairwise_map.mp hnd).imp fun {a b} ne e => ne ?_)
    simp only [List.cons.injEq, Sum.inl.injEq, and_true] at e
    exact Prod.ext e.1 e.2
  refine PySem.call_dict_pairsH (knd := tupleKind (mixKind X.prog X.w)) (ps := prs) (PySem.PairArg.list a _ _ vps) (I.ok.hd hc) room ⟨⟨_, n, hl, rfl, rfl, rfl⟩, items⟩ ⟨by rw [hprs, List.length_map, lq, lv], fun i key v e => ?_⟩ (fun h' hk x hx => ?_) (by rw [lv]; exact hz) fun h' tk hd' k => ?_
  · rw [show PySem.PairRel vps i key v = (vps[i]? = some (key, v)) from rfl, hvps, List.getElem?_map] at e
    cases z : qs[i]? with
    | none =>
      rw [z] at e
      cases e
    | some t =>
      rw [z] at e
      cases e
      refine ⟨[Sum.inl t.1.2.1.1, Sum.inl t.1.2.1.2], t.2, ?_, rfl⟩
      rw [hprs, List.getElem?_map, z]
      rfl
  · obtain ⟨o, its, n, ho, hc, hd, hi⟩ := (show IsTupleKey _ _ _ _ from keyOk x hx)
    exact ⟨o, its, n, hk _ _ (Nat.ne_of_lt (Heap.lt_size ho)) (fun m => nomatch m) ho, hc, hd, hi⟩
  · rw [PySem.storedAllH_nil_of_nodup _ ndk] at hd'
    have hm : (s.heap.objs.size == sysModules) = false := beq_eq_false_iff_ne.mpr (Nat.ne_of_gt I.big)
    obtain ⟨o, es, ep, ho, hcl, hdat, hes, his, hn⟩ := hd'
    have e2 : (ps.map (·.2)).map entS = qs.map fun t => entS t.1.2 := by rw [← eqs, List.map_map, List.map_map]; rfl
    refine ⟨.ref s.heap.objs.size, upd H s.heap.objs.size (.dT ((ps.map (·.2)).map entS)), I.laid (t' := tk) (fun b o e => k b o (fun m => nomatch m) e) (Nat.le_refl _) ⟨?_, hm, prs, ?_, o, es, ep, ho, hcl, hdat, hes, hn⟩, rfl, q _ (I.hok.fresh (Nat.le_refl _))⟩
    · rw [List.length_map, List.length_map]
      exact hz
    · rw [e2, hprs]
      have gen : ∀ l : List ((Addr × Sp2) × Addr), (∀ t ∈ l, t ∈ qs) → Paired (fun (p : List Key × V) (q : List Key × Addr × Value) => p.1 = q.1 ∧ upd H s.heap.objs.size (.dT (qs.map fun t => entS t.1.2)) q.2.1 = some (.tup (p.1.map kV)) ∧ RelV p.2 q.2.2) (l.map fun t => entS t.1.2) (l.map fun t => (([Sum.inl t.1.2.1.1, Sum.inl t.1.2.1.2] : List Key), t.2, Value.ref t.1.2.2)) := fun l => by
        induction l with
        | nil => exact fun _ => .nil
        | cons t l ih =>
          intro hl
          refine .cons ⟨rfl, ?_, rfl⟩ (ih fun y hy => hl y (List.mem_cons_of_mem _ hy))
          have h2 := (hq t (hl t List.mem_cons_self)).2
          show upd H s.heap.objs.size _ t.2 = _
          rw [upd_ne (ne_of_none h2 (I.hok.fresh (Nat.le_refl _)))]
          exact h2
      exact gen qs fun t m => m
end
end Net
namespace Net
open PySem PySem.Spec PyProof.Rows L2
/-! ### lines of sessions -/
inductive Ln where
  | ask (x : Str)
  | put (t : Tie)
  | strike (t : Tie)
  deriving DecidableEq
def Ln.word : Ln → Str
  | .ask _ => "ask"
  | .put _ => "put"
  | .strike _ => "strike"
def Ln.arg (N : Ad) (H : Hp) (y : V) : Ln → Prop
  | .ask x => y = .str x
  | .put t => rp N H y t
  | .strike t => rp N H y t
instance : Rp Ln where
  rp N H v l := ∃ a y, v = .ref a ∧ ¬ N a ∧ H a = some (.tup [.str l.word, y]) ∧ l.arg N H y
  mono {N H H' v l} s h := by
    obtain ⟨a, y, e, n, ha, q⟩ := h
    refine ⟨a, y, e, n, s _ _ n ha, ?_⟩
    cases l with
    | ask x => exact q
    | put t => exact Rp.mono (α := Tie) s q
    | strike t => exact Rp.mono (α := Tie) s q
  weak {N N' H v l} k h := by
    obtain ⟨a, y, e, n, ha, q⟩ := h
    refine ⟨a, y, e, fun z => n (k _ z), ha, ?_⟩
    cases l with
    | ask x => exact q
    | put t => exact Rp.weak (α := Tie) k q
    | strike t => exact Rp.weak (α := Tie) k q
  fr {N N' H v l} k h := by
    obtain ⟨a, y, e, n, ha, q⟩ := h
    refine ⟨a, y, e, fr_not k n ha, ha, ?_⟩
    cases l with
    | ask x => exact q
    | put t => exact Rp.fr (α := Tie) k q
    | strike t => exact Rp.fr (α := Tie) k q
/-- a line over n nodes -/
def LnOk (n : Int) : Ln → Prop
  | .ask x => 1 ≤ x.length ∧ x.length ≤ 6 ∧ Wd x
  | .put t => TieOk n t
  | .strike t => TieOk n t
theorem ask_put : ¬ (("put" : Str) = "ask") := by decide +kernel
theorem ask_strike : ¬ (("strike" : Str) = "ask") := by decide +kernel
theorem put_strike : ¬ (("strike" : Str) = "put") := by decide +kernel
def spLine : Sp := fun vs H Q _ => ∃ (N : Ad) (n : Int) (v : V) (l : Ln), vs = [.int n, v] ∧ rp N H v l ∧ LnOk n l ∧ ∀ H', Same H H' → Q (.bl true) H'
def spProgram : Sp := fun vs H Q _ => ∃ (N : Ad) (n : Int) (v : V) (p : List Ln), vs = [.int n, v] ∧ rp N H v p ∧ 1 ≤ p.length ∧ p.length ≤ 100 ∧ (∀ l ∈ p, LnOk n l) ∧ ∀ H', Same H H' → Q (.bl true) H'
section
variable {P : Program} {w : World} {K : PySem.W.Frag} {mg : Str → Option Value} {base : Heap}
theorem sc_is_line : FnScope ["nodes", "value"] ["nodes", "value"] (defScope s_is_line) := ⟨rfl, rfl, rfl, by decide +kernel, rfl, by decide +kernel, by decide +kernel⟩
theorem ok_is_line (T : NT K mg) : Cal P w K mg base (ga K "is_line") 4 ["nodes", "value"] spLine := by
  obtain ⟨fd, F⟩ := T.D_is_line
  refine Cal.of F (F.bindsN fun _ _ _ _ _ _ us hl => match us, hl with | [_, _], _ => rfl) sc_is_line (fun vs H Q E h => ?_) (fun cdv A outer s H vs Q E hr h => ?_)
  · obtain ⟨N, n, v, l, rfl, _⟩ := h
    rfl
  · obtain ⟨N, n, v, l, rfl, ⟨a, y, rfl, na, ha, q⟩, ok, k⟩ := h
    refine ⟨_, pss_cons (ps_if (PW.pt (pw_or (pt_not (pt_val (pe_b (cr_is "tuple") T.b_isinstance (pa_cons (pv 1) (pa_cons (pe_ty "tuple" T.b_tuple) pa_nil)))))
        (pw_or (pt_cmpR op_ne (pe_b call_len_seq T.b_len (pa_cons (pv 1) pa_nil)) pe_int (nomark _))
          (pw_or1 (pt_not (pt_val (pe_b (cr_is "str") T.b_isinstance (pa_cons (pe_ix ix_tup (pv 1) pe_int (fun _ _ => rfl)) (pa_cons (pe_ty "str" T.b_str) pa_nil))))))))) (pss_one (ps_ret pe_bl)) pss_nil)
      (pss_cons (ps_if (pt_cmpR op_eq (pe_ix ix_tup (pv 1) pe_int (fun _ _ => rfl)) (pe_cs T.x_ASK) (nomark _))
        (pss_one (ps_ret (pe_and (pe_f (ok_is_word T) T.g_is_word (hr.mono (by decide)) (pa_cons (pe_ix ix_tup (pv 1) pe_int (fun _ _ => rfl)) pa_nil))
          (pe_one (pe_cmpR op_le (pe_b call_len_str T.b_len (pa_cons (pe_ix ix_tup (pv 1) pe_int (fun _ _ => rfl)) pa_nil)) (pe_ci T.i_MOST_SIGNS) (nomark _)))))) pss_nil)
      (pss_one (ps_ret (pe_and (pe_cmpR op_in_seq (pe_ix ix_tup (pv 1) pe_int (fun _ _ => rfl)) (pe_tup (pa_cons (pe_cs T.x_PUT) (pa_cons (pe_cs T.x_STRIKE) pa_nil))) rfl)
        (pe_one (pe_f (ok_is_tie T) T.g_is_tie (hr.mono (by decide)) (pa_cons (pv 0) (pa_cons (pe_ix ix_tup (pv 1) pe_int (fun _ _ => rfl)) pa_nil)))))))), ?_⟩
    refine ⟨_, rfl, _, "tuple", true, rfl, tyX_tup ha, by decide +kernel, true, rfl, iteF ?_⟩
    refine ⟨_, rfl, a, _, rfl, .inr (SqT.of ha), rfl, false, rfl, iteF ?_⟩
    refine ⟨_, rfl, a, _, _, _, rfl, rfl, SqT.of ha, atI_nat (j := 0) rfl, _, "str", true, rfl, .base (.str _), by decide +kernel, true, rfl, iteF ?_⟩
    -- put, strike
    have tail : ∀ (t : Tie), rp N H y t → TieOk n t → (l.word = "put" ∨ l.word = "strike") →
        tRet (tAndV (tOp (rIn K false) (tOp (rIxT K) (tVar 1) (tC (.int 0))) (tTup (tCons (tC (.str "put")) (tCons (tC (.str "strike")) tNil)))) (tCall spTie [] E0 (tCons (tVar 0) (tCons (tOp (rIxT K) (tVar 1) (tC (.int 1))) tNil)))) { nx := fun _ H' => Q .non H', rt := Q } [some (.int n), some (.ref a)] H := by
      intro t rt tok hw
      obtain ⟨b, rfl, nb, hb⟩ := rt
      refine ⟨_, rfl, a, _, _, _, rfl, rfl, SqT.of ha, atI_nat (j := 0) rfl, (by show 2 ≤ sizeLine; decide), fun p hp => ⟨p, _, rfl, .inr (SqT.of upd_same), rfl, rfl, true, ?_, iteT ?_⟩⟩
      · rcases hw with e | e
        · rw [e]
          decide +kernel
        · rw [e]
          decide +kernel
      · have s1 : Same H (upd H p (.tup [V.str "put", .str "strike"])) := Same.new hp
        exact ⟨_, rfl, _, rfl, a, _, _, _, rfl, rfl, SqT.of (s1 _ _ ha), atI_nat (j := 1) rfl, n, b, t, rfl, s1 _ _ hb, tok, k _ s1⟩
    cases l with
    | ask x =>
      obtain ⟨o1, o2, o3⟩ := ok
      cases q
      refine ⟨_, rfl, a, _, _, _, rfl, rfl, SqT.of ha, atI_nat (j := 0) rfl, rfl, true, congrArg V.bl (decide_eq_true rfl), iteT ?_⟩
      refine ⟨_, rfl, a, _, _, _, rfl, rfl, SqT.of ha, atI_nat (j := 1) rfl, x, rfl, o1, by omega, o3, fun H1 s1 => ⟨true, rfl, iteT ?_⟩⟩
      refine ⟨_, rfl, a, _, _, _, rfl, rfl, SqT.of (s1 _ _ ha), atI_nat (j := 1) rfl, x, rfl, (by have := big; omega), _, _, rfl, rfl, ?_⟩
      show Q (V.bl (decide ((x.length : Int) ≤ 6))) H1
      rw [decide_eq_true (by omega)]
      exact k H1 s1
    | put t =>
      refine ⟨_, rfl, a, _, _, _, rfl, rfl, SqT.of ha, atI_nat (j := 0) rfl, rfl, false, congrArg V.bl (decide_eq_false fun z => ask_put (V.str.inj z)), iteF ?_⟩
      exact tail t q ok (.inl rfl)
    | strike t =>
      refine ⟨_, rfl, a, _, _, _, rfl, rfl, SqT.of ha, atI_nat (j := 0) rfl, rfl, false, congrArg V.bl (decide_eq_false fun z => ask_strike (V.str.inj z)), iteF ?_⟩
      exact tail t q ok (.inr rfl)
theorem sc_is_program : FnScope ["nodes", "value", "line"] ["nodes", "value"] (defScope s_is_program) := ⟨rfl, rfl, rfl, by decide +kernel, rfl, by decide +kernel, by decide +kernel⟩
theorem ok_is_program (T : NT K mg) : Cal P w K mg base (ga K "is_program") 5 ["nodes", "value"] spProgram := by
  obtain ⟨fd, F⟩ := T.D_is_program
  refine Cal.of F (F.bindsN fun _ _ _ _ _ _ us hl => match us, hl with | [_, _], _ => rfl) sc_is_program (fun vs H Q E h => ?_) (fun cdv A outer s H vs Q E hr h => ?_)
  · obtain ⟨N, n, v, l, rfl, _⟩ := h
    rfl
  · obtain ⟨N, n, v, p, rfl, ⟨a, xs, rfl, na, ha, hx⟩, p1, p2, ok, k⟩ := h
    have nd := sc_is_program.nd
    have hl := hx.length
    refine ⟨_, pss_one (ps_ret (pe_and (pe_f (ok_is_list T) T.g_is_list (hr.mono (by decide)) (pa_cons (pv 1) pa_nil))
      (pe_and (pe_cmpR op_gt (pe_b call_len_seq T.b_len (pa_cons (pv 1) pa_nil)) pe_int (nomark _))
        (pe_one (pe_b (cr_all rfl) T.b_all (pa_cons (pe_lc (own := [("line", 2)]) (g := gName 2) (tt := tYes) rfl nd (pi_list (pv 1)) (blkOk_by (N := ["nodes", "value", "line"]) (sc := defScope s_is_program) (by decide +kernel))
          (fun _ _ _ _ _ => pg_name (i := 2) nd rfl (Or.inl rfl)) (fun _ _ _ _ _ => pts_nil) (fun _ _ _ _ _ => pe_f (ok_is_line T) T.g_is_line (hr.mono (by decide)) (pa_cons (pv 0) (pa_cons (pv 2) pa_nil)))) pa_nil)))))), ?_⟩
    refine ⟨_, rfl, a, xs, rfl, .inl ha, fun H1 s1 => ⟨true, rfl, iteT ?_⟩⟩
    refine ⟨_, rfl, a, xs, rfl, .inl (SqL.of (s1 _ _ ha)), _, _, rfl, rfl, true, congrArg V.bl (decide_eq_true (by omega)), iteT ?_⟩
    refine ⟨_, rfl, a, rfl, ⟨xs, SqL.of (s1 _ _ ha)⟩, fun D hD => ?_⟩
    refine lc_rp (β := Bool) (walk_list (xs := xs)) (List.replicate xs.length true) (by simp) (by have := big; omega) (fun _ => False) hD (fun H2 s2 => SqL.of (s2 _ _ (s1 _ _ ha))) yAt_same (fun j b y H3 H2 K1 hb s2 _ hy k1 => ?_) (fun H2 acc s2 hacc r => ?_)
    · obtain ⟨rfl, hy⟩ := hy
      obtain ⟨l, hl1, hl2⟩ := hx.get' hy
      have eb : b = true := List.eq_of_mem_replicate (List.mem_of_getElem? hb)
      subst eb
      have s12 := s1.trans s2
      refine ⟨wipe1 _ _ _, _, rfl, _, rfl, N, n, y, l, rfl, Rp.mono (SameN.of s12) hl2, ok l (List.mem_of_getElem? hl1), fun H' s3 => k1 _ _ s3 rfl⟩
    · refine ⟨D, _, rfl, .of (by rw [← bls_of r]; exact hacc), ?_⟩
      rw [show (List.replicate xs.length true).all id = true by simp]
      exact k _ (s1.trans s2)
end
end Net
namespace Net
open PySem PySem.Spec PyProof.Rows L2
/-- len of a list or a tuple -/
def rLenQ (K : PySem.W.Frag) : List V → Hp → VK → Prop := fun xs H Q => ∃ p ys, xs = [.ref p] ∧ (SqL K H p ys ∨ SqT K H p ys) ∧ Q (.int ys.length) H
/-! ### sessions -/
def seF (n : Int) (q : Addr) : List (Str × V) := putF "own_programs" (.ref q) (putF "own_nodes" (.int n) [])
theorem nm4 : ¬ (("own_nodes" : Str) = "own_programs") := by decide +kernel
theorem seF_nodes (n : Int) (q : Addr) : (seF n q).lookup ("own_nodes" : Str) = some (.int n) := by
  unfold seF
  rw [lookup_putF, if_neg nm4, lookup_putF, if_pos rfl]
theorem seF_programs (n : Int) (q : Addr) : (seF n q).lookup ("own_programs" : Str) = some (.ref q) := by
  unfold seF
  rw [lookup_putF, if_pos rfl]
def SeAt (K : PySem.W.Frag) (N : Ad) (H : Hp) (v : V) (n : Int) (ps : List (List Ln)) : Prop := ∃ a dx q, v = .ref a ∧ ¬ N a ∧ H a = some (.ins (ga K "Sessions") dx (seF n q)) ∧ rp N H (.ref q) (⟨ps.map PySem.W.Tup.mk⟩ : Tp (Tp Ln))
theorem SeAt.mono {K : PySem.W.Frag} {N : Ad} {H H' : Hp} {v : V} {n : Int} {ps : List (List Ln)} (s : SameN N H H') (h : SeAt K N H v n ps) : SeAt K N H' v n ps :=
  let ⟨a, dx, q, e, na, ha, hq⟩ := h
  ⟨a, dx, q, e, na, s _ _ na ha, Rp.mono s hq⟩
/-- programs over n nodes -/
structure PsOk (n : Int) (ps : List (List Ln)) : Prop where
  n1 : 1 ≤ n
  n8 : n ≤ 8
  p1 : 1 ≤ ps.length
  p3 : ps.length ≤ 3
  each : ∀ p ∈ ps, 1 ≤ p.length ∧ p.length ≤ 3 ∧ ∀ l ∈ p, LnOk n l
def spSess (K : PySem.W.Frag) : Sp := fun vs H Q _ => ∃ (N : Ad) (p dx : Addr) (n : Int) (v : V) (ps : List (List Ln)), vs = [.ref p, .int n, v] ∧ H p = some (.ins (ga K "Sessions") dx []) ∧ rp (And1 N p) H v ps ∧ PsOk n ps ∧ Dom N H ∧ ¬ N p ∧
  ∀ H', SameN (fun b => b = p) H H' → SeAt K N H' (.ref p) n ps → Q .non H'
section
variable {P : Program} {w : World} {K : PySem.W.Frag} {mg : Str → Option Value} {base : Heap}
abbrev nSess : List Str := ["self", "nodes", "programs", "position", "program"]
theorem sc_Sessions_init : FnScope nSess ["self", "nodes", "programs"] (defScope s_Sessions_init) := ⟨rfl, rfl, rfl, by decide +kernel, rfl, by decide +kernel, by decide +kernel⟩
theorem ok_Sessions_init (T : NT K mg) : Cal P w K mg base (He.ma K (ga K "Sessions") "__init__") 6 ["self", "nodes", "programs"] (spSess K) := by
  obtain ⟨fd, F⟩ := T.D_Sessions_init
  refine Cal.of F (F.bindsN fun _ _ _ _ _ _ us hl => match us, hl with | [_, _, _], _ => rfl) sc_Sessions_init (fun vs H Q E h => ?_) (fun cdv A outer s H vs Q E hr h => ?_)
  · obtain ⟨N, p, dx, n, v, ps, rfl, _⟩ := h
    rfl
  · obtain ⟨N, p, dx, n, v, ps, rfl, hp, ⟨a, xs, rfl, na, ha, hx⟩, ok, dom, np, k⟩ := h
    have nd := sc_Sessions_init.nd
    have hl := hx.length
    obtain ⟨u1, c1⟩ := T.e_mNodes
    obtain ⟨u2, c2⟩ := T.e_mSessions
    obtain ⟨u3, c3⟩ := T.e_mLines
    have hbig := big
    have hp1 := ok.p1
    have hp3 := ok.p3
    refine ⟨_, pss_cons (ps_expr (pe_f (ok_want_nodes T) T.g_want_nodes (hr.mono (by decide)) (pa_cons (pv 1) pa_nil)))
      (pss_cons (ps_if (PW.pt (pw_or (pt_not (pt_val (pe_f (ok_is_list T) T.g_is_list (hr.mono (by decide)) (pa_cons (pv 2) pa_nil)))) (pw_or1 (pt_cmpR op_eq (pe_b call_len_seq T.b_len (pa_cons (pv 2) pa_nil)) pe_int (nomark _))))) (pss_one ps_never) pss_nil)
      (pss_cons (ps_for PassesOwn.never rfl (pi_enum (by rfl) T.b_enumerate (pa_cons (pv 2) pa_nil)) (pg_tup rfl (pgs_cons (pg_name (i := 3) nd rfl (Or.inl rfl)) (pgs_cons (pg_name (i := 4) nd rfl (Or.inl rfl)) pgs_nil)))
        (pss_one (ps_if (pt_not (pt_val (pe_f (ok_is_program T) T.g_is_program (hr.mono (by decide)) (pa_cons (pv 1) (pa_cons (pv 4) pa_nil))))) (pss_one ps_never) pss_nil)))
      (pss_cons (ps_if (pt_cmpR op_gt (pv 1) (ClX.pe_cval (pe_cc T.g_Sessions)) (nomark _)) (pss_one ps_never) pss_nil)
      (pss_cons (ps_if (pt_cmpR op_gt (pe_b call_len_seq T.b_len (pa_cons (pv 2) pa_nil)) (ClX.pe_cval (pe_cc T.g_Sessions)) (nomark _)) (pss_one ps_never) pss_nil)
      (pss_cons (ps_if (pt_val (pe_b (cr_any rfl) T.b_any (pa_cons (pe_lc (own := [("program", 4)]) (g := gName 4) (tt := tYes) (te := tOp (rI0 fun i j => .bl (decide (j < i))) (tCB (rLenQ K) (tCons (tVar 4) tNil)) (ClX.tCVal K (tC (.ref (ga K "Sessions"))) "MOST_LINES")) rfl nd (pi_list (pv 2)) (blkOk_by (N := nSess) (sc := defScope s_Sessions_init) (by decide +kernel))
          (fun _ _ _ _ _ => pg_name (i := 4) nd rfl (Or.inl rfl)) (fun _ _ _ _ _ => pts_nil) (fun _ _ _ _ _ => pe_cmpR op_gt (pe_b call_len_seq T.b_len (pa_cons (pv 4) pa_nil)) (ClX.pe_cval (pe_cc T.g_Sessions)) (nomark _))) pa_nil))) (pss_one ps_never) pss_nil)
      (pss_cons (ps_fld (pv 0) (pv 1) rfl)
      (pss_one (ps_fld (pv 0) (pe_tupleOf (by rfl) T.b_tuple (pe_lc (own := [("program", 4)]) (g := gName 4) (tt := tYes) (te := tThen (tVar 4) (kTup K)) rfl nd (pi_list (pv 2)) (blkOk_by (N := nSess) (sc := defScope s_Sessions_init) (by decide +kernel))
          (fun _ _ _ _ _ => pg_name (i := 4) nd rfl (Or.inl rfl)) (fun _ _ _ _ _ => pts_nil) (fun _ _ _ _ _ => pe_tupleOf (by rfl) T.b_tuple (pv 4)))) rfl)))))))), ?_⟩
    refine ⟨_, rfl, n, rfl, ok.n1, by have := ok.n8; omega, _, rfl, a, xs, rfl, .inl ha, fun H1 s1 => ⟨true, rfl, iteF ?_⟩⟩
    have ha1 := s1 _ _ ha
    refine ⟨_, rfl, a, xs, rfl, .inl (SqL.of ha1), rfl, false, congrArg V.bl (decide_eq_false fun z => by have := V.int.inj z; omega), iteF ?_⟩
    refine ⟨_, rfl, a, xs, rfl, SqL.of ha1, for_it walk_enum (fun i σ H' => ∃ v3 v4 : Option V, σ = [some (.ref p), some (.int n), some (.ref a), v3, v4] ∧ Same H H')
      ⟨none, none, rfl, s1⟩ (fun i σ H' _ ⟨_, _, _, s3⟩ => SqL.of (s3 _ _ ha)) ?_ ?_⟩
    · rintro i x σ H2 H3 hi ⟨v3, v4, rfl, s3⟩ ⟨q, y, z, rfl, hq, rfl, e1, e2⟩
      obtain ⟨l, hl1, hl2⟩ := hx.get' e2
      have s4 : Same H (upd H2 q (.tup [y, z])) := s3.lay hq
      refine ⟨q, _, rfl, SqT.of upd_same, rfl, y, _, rfl, _, _, rfl, rfl, ?_⟩
      obtain ⟨o1, o2, o3⟩ := ok.each l (List.mem_of_getElem? hl1)
      exact ⟨_, rfl, _, rfl, And1 N p, n, z, l, rfl, Rp.mono (SameN.of s4) hl2, o1, by omega, o3, fun H' s5 => ⟨true, rfl, iteF ⟨_, _, rfl, s4.trans s5⟩⟩⟩
    · rintro σ H2 ⟨v3, v4, rfl, s2⟩
      refine ⟨_, rfl, _, _, _, _, rfl, T.e_rSessions, c1, n, 8, rfl, rfl, false, congrArg V.bl (decide_eq_false (by have := ok.n8; omega)), iteF ?_⟩
      refine ⟨_, rfl, a, xs, rfl, .inl (SqL.of (s2 _ _ ha)), _, _, _, _, rfl, T.e_rSessions, c2, _, 3, rfl, rfl, false, congrArg V.bl (decide_eq_false (by omega)), iteF ?_⟩
      refine ⟨_, rfl, a, rfl, ⟨xs, SqL.of (s2 _ _ ha)⟩, fun D hD => ?_⟩
      refine lc_rp (β := Bool) (walk_list (xs := xs)) (List.replicate xs.length false) (by simp) (by omega) (fun _ => False) hD (fun H2 s3 => SqL.of (s3 _ _ (s2 _ _ ha))) yAt_same (fun j b y H3 H4 K1 hb s3 _ hy k1 => ?_) (fun H3 acc s3 hacc r => ?_)
      · obtain ⟨rfl, hy⟩ := hy
        obtain ⟨l, hl1, b0, ys, rfl, nb, hb0, hys⟩ := hx.get' hy
        have eb : b = false := List.eq_of_mem_replicate (List.mem_of_getElem? hb)
        subst eb
        have s23 := s2.trans s3
        obtain ⟨o1, o2, o3⟩ := ok.each l (List.mem_of_getElem? hl1)
        have hyl := hys.length
        refine ⟨wipe1 _ _ _, _, rfl, b0, ys, rfl, .inl (SqL.of (s23 _ _ hb0)), _, _, _, _, rfl, T.e_rSessions, c3, _, 3, rfl, rfl, k1 _ _ (Same.refl _) ?_⟩
        exact congrArg V.bl (decide_eq_false (by omega))
      · refine ⟨D, _, rfl, .of (by rw [← bls_of r]; exact hacc), ?_⟩
        rw [show (List.replicate xs.length false).any id = false by simp]
        refine ⟨false, rfl, iteF ?_⟩
        have s23 := s2.trans s3
        refine ⟨_, rfl, _, rfl, p, _, dx, [], rfl, s23 _ _ hp, T.c_Sessions, T.n_Sessions_own_nodes, (by show 0 < 1000; decide), ?_⟩
        have hap : a ≠ p := ne_of ha hp (fun z => nomatch z)
        have s4 : SameN (fun b => b = p) H (upd H3 p (.ins (ga K "Sessions") dx (putF "own_nodes" (.int n) []))) := (SameN.of s23).upd' rfl
        have s4' : SameN (And1 N p) H (upd H3 p (.ins (ga K "Sessions") dx (putF "own_nodes" (.int n) []))) := s4.weak fun b z => .inr z
        have hx4 := hx.monoR s4'
        have ha4 := s4 _ _ hap ha
        have hp4 : upd H3 p (.ins (ga K "Sessions") dx (putF "own_nodes" (.int n) [])) p = some (.ins (ga K "Sessions") dx (putF "own_nodes" (.int n) [])) := upd_same
        generalize upd H3 p (.ins (ga K "Sessions") dx (putF "own_nodes" (.int n) [])) = H4 at s4 s4' hx4 ha4 hp4 ⊢
        refine ⟨_, rfl, a, rfl, ⟨xs, SqL.of ha4⟩, fun D2 hD2 => ?_⟩
        have new : ∀ {H5 : Hp} {c : Addr}, Same H4 H5 → H5 c = none → ¬ And1 N p c := fun {H5 c} s5 hc z => by
          have h4 : H4 c = none := s5.free hc
          rcases z with z | z
          · obtain ⟨o, e⟩ := dom c z
            rw [s4 c o (fun e2 => np (by rw [← e2]; exact z)) e] at h4
            cases h4
          · rw [z, hp4] at h4
            cases h4
        refine lc_rp (β := Tp Ln) (walk_list (xs := xs)) (ps.map PySem.W.Tup.mk) (by rw [List.length_map]; exact hl.symm) (by omega) (And1 N p) hD2 (fun H2 s3 => SqL.of (s3 _ _ ha4)) yAt_same (fun j b y H6 H5 K1 hb s5 hex hy k1 => ?_) (fun H5 acc s5 hacc r => ?_)
        · obtain ⟨rfl, hy⟩ := hy
          obtain ⟨l, hl1, b0, ys, rfl, nb, hb0, hys⟩ := hx4.get' hy
          rw [List.getElem?_map, hl1] at hb
          cases hb
          refine ⟨wipe1 _ _ _, _, rfl, .inl ⟨b0, ys, rfl, SqL.of (s5 _ _ hb0), fun q hq => k1 _ _ (Same.new hq) ⟨q, ys, rfl, ?_, upd_same, ?_⟩⟩⟩
          · rintro (z | z)
            · exact new s5 hq z
            · obtain ⟨acc0, h0⟩ := hex
              rw [z, h0] at hq
              cases hq
          · refine (hys.frR (N' := And1 (And1 N p) D2) fun c z => ?_).monoR (SameN.of (s5.trans (Same.new hq)))
            rcases z with z | z
            · exact .inl z
            · exact .inr (by rw [z]; exact hD2)
        · refine .inl ⟨D2, acc, rfl, SqL.of hacc, fun q hq => ?_⟩
          have hp5 := s5 _ _ hp4
          have hqp : q ≠ p := fun z => by
            rw [z, hp5] at hq
            cases hq
          refine ⟨_, rfl, p, _, dx, _, rfl, (by rw [upd_ne (Ne.symm hqp)]; exact hp5), T.c_Sessions, T.n_Sessions_own_programs, (by
            have h2 := length_putF "own_nodes" (.int n) []
            show _ < 1000
            simp only [List.length_nil] at h2
            omega), k _ ((s4.trans (SameN.of (s5.trans (Same.new hq)))).upd' rfl) ⟨p, dx, q, rfl, np, upd_same, q, acc, rfl, fun z => new s5 hq (.inl z), (by rw [upd_ne hqp]; exact upd_same), ?_⟩⟩
          exact ((r.monoR (SameN.of (Same.new hq))).weakR (N' := And1 N p) fun b z => .inl z).monoR (SameN.upd (Or.inr rfl)) |>.weakR fun b z => .inl z
end
end Net
/-! Weavings: plain. -/
namespace Net
open PySem PySem.Spec PyProof.Rows L2
abbrev Answer := List (Int × Int)
/-- how often r stands in l -/
def cnt (r : Int) (l : List Int) : Int := ((l.filter fun x => decide (x = r)).length : Int)
theorem cnt_nil (r : Int) : cnt r [] = 0 := rfl
theorem cnt_snoc (r x : Int) (l : List Int) : cnt r (l ++ [x]) = if x = r then cnt r l + 1 else cnt r l := by
  unfold cnt
  rw [List.filter_append]
  by_cases h : x = r
  · rw [if_pos h]
    simp [h]
  · rw [if_neg h]
    simp [h]
theorem cnt_nonneg (r : Int) (l : List Int) : 0 ≤ cnt r l := Int.natCast_nonneg _
theorem cnt_cons (r x : Int) (l : List Int) : cnt r (x :: l) = if x = r then cnt r l + 1 else cnt r l := by
  unfold cnt
  rw [List.filter_cons]
  by_cases h : x = r
  · rw [if_pos h]
    simp [h]
  · rw [if_neg h]
    simp [h]
theorem cnt_append (r : Int) (l m : List Int) : cnt r (l ++ m) = cnt r l + cnt r m := by
  unfold cnt
  rw [List.filter_append, List.length_append, Int.natCast_add]
theorem cnt_perm {r : Int} {l m : List Int} (h : l.Perm m) : cnt r l = cnt r m := by
  unfold cnt
  rw [(h.filter _).length_eq]
theorem cnt_rep (r x : Int) (k : Nat) : cnt r (List.replicate k x) = if x = r then (k : Int) else 0 := by
  unfold cnt
  by_cases h : x = r
  · rw [if_pos h]
    simp [h]
  · rw [if_neg h]
    simp [h]
/-- 0, 0, 1, .. : each session's number as often as it has lines -/
def numb : Nat → List (List Ln) → List Int
  | _, [] => []
  | k, p :: ps => List.replicate p.length (k : Int) ++ numb (k + 1) ps
theorem numb_snoc : ∀ (k : Nat) (ps : List (List Ln)) (p : List Ln), numb k (ps ++ [p]) = numb k ps ++ List.replicate p.length ((k + ps.length : Nat) : Int)
  | k, [], p => by simp [numb]
  | k, q :: ps, p => by
    rw [List.cons_append]
    unfold numb
    rw [numb_snoc (k + 1) ps p, List.append_assoc, List.length_cons]
    rw [show k + 1 + ps.length = k + (ps.length + 1) from by omega]
theorem numb_mem : ∀ {k : Nat} {ps : List (List Ln)} {x : Int}, x ∈ numb k ps → (k : Int) ≤ x ∧ x < ((k + ps.length : Nat) : Int)
  | k, [], x, h => by cases h
  | k, p :: ps, x, h => by
    unfold numb at h
    rcases List.mem_append.mp h with m | m
    · have := List.eq_of_mem_replicate m
      simp only [List.length_cons]
      omega
    · have := numb_mem m
      simp only [List.length_cons]
      omega
theorem numb_sorted : ∀ (k : Nat) (ps : List (List Ln)), (numb k ps).Pairwise (· ≤ ·)
  | _, [] => List.Pairwise.nil
  | k, p :: ps => by
    unfold numb
    refine List.pairwise_append.mpr ⟨List.pairwise_replicate.mpr (.inr (Int.le_refl _)), numb_sorted (k + 1) ps, fun a ha b hb => ?_⟩
    have := List.eq_of_mem_replicate ha
    have := numb_mem hb
    omega
theorem numb_cnt : ∀ (k : Nat) (ps : List (List Ln)) (i : Nat), cnt ((k + i : Nat) : Int) (numb k ps) = (((ps[i]?).map List.length).getD 0 : Nat)
  | k, [], i => by simp [numb, cnt]
  | k, p :: ps, 0 => by
    unfold numb
    rw [cnt_append, cnt_rep, if_pos (by simp)]
    have : cnt ((k + 0 : Nat) : Int) (numb (k + 1) ps) = 0 := by
      unfold cnt
      rw [List.filter_eq_nil_iff.mpr]
      · rfl
      · intro x hx
        have := numb_mem hx
        simp
        omega
    rw [this]
    simp
  | k, p :: ps, i + 1 => by
    unfold numb
    rw [cnt_append, cnt_rep, if_neg (by omega), Int.zero_add, show k + (i + 1) = (k + 1) + i from by omega, numb_cnt (k + 1) ps i]
    simp
theorem numb_len : ∀ (k : Nat) (ps : List (List Ln)), (numb k ps).length = (ps.map List.length).sum
  | _, [] => rfl
  | k, p :: ps => by
    unfold numb
    rw [List.length_append, List.length_replicate, numb_len (k + 1) ps]
    rfl
/-- a row is a weaving of the programs -/
def Weave (ps : List (List Ln)) (row : List Int) : Prop := row.Perm (numb 0 ps)
/-! ### spots -/
def spotsFrom (pre : List Int) : List Int → List (Int × Int)
  | [] => []
  | r :: l => (r, cnt r pre) :: spotsFrom (pre ++ [r]) l
theorem spotsFrom_snoc : ∀ (pre l : List Int) (r : Int), spotsFrom pre (l ++ [r]) = spotsFrom pre l ++ [(r, cnt r (pre ++ l))]
  | pre, [], r => by simp [spotsFrom]
  | pre, x :: l, r => by
    rw [List.cons_append]
    unfold spotsFrom
    rw [spotsFrom_snoc (pre ++ [x]) l r]
    simp
def spotsIn (row : List Int) : List (Int × Int) := spotsFrom [] row
theorem spotsIn_snoc (l : List Int) (r : Int) : spotsIn (l ++ [r]) = spotsIn l ++ [(r, cnt r l)] := by
  unfold spotsIn
  rw [spotsFrom_snoc]
  rfl
theorem spotsFrom_len : ∀ (pre l : List Int), (spotsFrom pre l).length = l.length
  | _, [] => rfl
  | pre, x :: l => congrArg Nat.succ (spotsFrom_len (pre ++ [x]) l)
theorem spotsIn_len (l : List Int) : (spotsIn l).length = l.length := spotsFrom_len [] l
theorem spotsIn_get {row : List Int} {i : Nat} {r : Int} (h : row[i]? = some r) : (spotsIn row)[i]? = some (r, cnt r (row.take i)) := by
  have hi := (List.getElem?_eq_some_iff.mp h).1
  have e : row = row.take i ++ [r] ++ row.drop (i + 1) := by
    have e1 : row.drop i = r :: row.drop (i + 1) := by
      rw [List.drop_eq_getElem_cons hi]
      rw [(List.getElem?_eq_some_iff.mp h).2]
    rw [List.append_assoc]
    show row = row.take i ++ (r :: row.drop (i + 1))
    rw [← e1, List.take_append_drop]
  have gen : ∀ (m : List Int), spotsIn (row.take i ++ [r] ++ m) = spotsIn (row.take i ++ [r]) ++ spotsFrom (row.take i ++ [r]) m := by
    intro m
    have app : ∀ (pre l m : List Int), spotsFrom pre (l ++ m) = spotsFrom pre l ++ spotsFrom (pre ++ l) m := fun pre l m => by
      induction l generalizing pre with
      | nil => simp [spotsFrom]
      | cons x l ih =>
        show (x, cnt x pre) :: spotsFrom (pre ++ [x]) (l ++ m) = (x, cnt x pre) :: (spotsFrom (pre ++ [x]) l ++ spotsFrom (pre ++ x :: l) m)
        rw [ih, List.append_assoc]
        rfl
    exact app [] _ m
  have len : (spotsIn (row.take i)).length = i := by
    rw [spotsIn_len, List.length_take]
    omega
  conv => lhs; rw [e]
  rw [gen, spotsIn_snoc, List.append_assoc, List.getElem?_append_right (by omega), len, Nat.sub_self]
  rfl
/-- no spot twice -/
theorem spotsIn_nodup (row : List Int) : (spotsIn row).Nodup := by
  have main : ∀ (i j : Nat), i < j → (hj : j < row.length) → (spotsIn row)[i]? = (spotsIn row)[j]? → False := fun i j hij hj e => by
    have hi : i < row.length := by omega
    rw [spotsIn_get (List.getElem?_eq_getElem hi), spotsIn_get (List.getElem?_eq_getElem hj)] at e
    have e1 := Prod.mk.inj (Option.some.inj e)
    have e2 : row[i] = row[j] := e1.1
    have e3 := e1.2
    rw [e2] at e3
    have e4 : row.take j = row.take i ++ [row[i]] ++ (row.take j).drop (i + 1) := by
      have e5 : (row.take j).take (i + 1) = row.take i ++ [row[i]] := by
        rw [List.take_take, Nat.min_eq_left (by omega)]
        exact take_succ' (List.getElem?_eq_getElem hi)
      rw [← e5, List.take_append_drop]
    rw [e4, cnt_append, cnt_snoc, if_pos e2] at e3
    have := cnt_nonneg row[j] ((row.take j).drop (i + 1))
    omega
  refine List.pairwise_iff_getElem.mpr fun i j hi hj hij e => main i j hij (by rw [spotsIn_len] at hj; exact hj) ?_
  rw [List.getElem?_eq_getElem hi, List.getElem?_eq_getElem hj]
  exact congrArg some e
/-- the line at a spot -/
def lineAt (ps : List (List Ln)) (sp : Int × Int) : Option Ln := (ps[sp.1.toNat]?).bind fun p => p[sp.2.toNat]?
/-- every spot of a weaving has its line -/
theorem weave_line {ps : List (List Ln)} {row : List Int} (h : Weave ps row) {i : Nat} {r : Int} (e : row[i]? = some r) : 0 ≤ r ∧ r < (ps.length : Int) ∧ ∃ p l, ps[r.toNat]? = some p ∧ p[(cnt r (row.take i)).toNat]? = some l ∧ lineAt ps (r, cnt r (row.take i)) = some l := by
  have m := numb_mem (h.mem_iff.mp (List.mem_of_getElem? e))
  have h0 : (0 : Int) ≤ r := by
    have := m.1
    simpa using this
  have h1 : r < (ps.length : Int) := by
    have := m.2
    simpa using this
  have hr : ((r.toNat : Nat) : Int) = r := Int.toNat_of_nonneg h0
  have hlt : r.toNat < ps.length := by omega
  have c1 := numb_cnt 0 ps r.toNat
  rw [Nat.zero_add, hr, ← cnt_perm (r := r) h, List.getElem?_eq_getElem hlt] at c1
  have c2 : cnt r row = (ps[r.toNat].length : Int) := c1
  have c3 : cnt r (row.take i) < cnt r row := by
    have e2 : row = row.take i ++ [r] ++ row.drop (i + 1) := by
      have e1 : row.drop i = r :: row.drop (i + 1) := by
        rw [List.drop_eq_getElem_cons (List.getElem?_eq_some_iff.mp e).1]
        rw [(List.getElem?_eq_some_iff.mp e).2]
      rw [List.append_assoc]
      show row = row.take i ++ (r :: row.drop (i + 1))
      rw [← e1, List.take_append_drop]
    conv => rhs; rw [e2]
    rw [cnt_append, cnt_snoc, if_pos rfl]
    have := cnt_nonneg r (row.drop (i + 1))
    omega
  have c4 := cnt_nonneg r (row.take i)
  have hlt2 : (cnt r (row.take i)).toNat < ps[r.toNat].length := by omega
  refine ⟨h0, h1, ps[r.toNat], ps[r.toNat][(cnt r (row.take i)).toNat], List.getElem?_eq_getElem hlt, List.getElem?_eq_getElem hlt2, ?_⟩
  unfold lineAt
  rw [List.getElem?_eq_getElem hlt]
  exact List.getElem?_eq_getElem hlt2
/-! ### running lines -/
def stepL (S : St0) : Ln → St0
  | .ask _ => S
  | .put t => S.put t
  | .strike t => S.strike t
def ansL (S : St0) : Ln → Option Answer
  | .ask x => some (pairsOf S x.cps.toList)
  | _ => none
def runS (S : St0) (ls : List Ln) : St0 := ls.foldl stepL S
def runA (S : St0) : List Ln → List Answer
  | [] => []
  | l :: ls => (ansL S l).toList ++ runA (stepL S l) ls
theorem runS_snoc (S : St0) (ls : List Ln) (l : Ln) : runS S (ls ++ [l]) = stepL (runS S ls) l := by
  unfold runS
  rw [List.foldl_append]
  rfl
theorem runS_append (S : St0) (ls ms : List Ln) : runS S (ls ++ ms) = runS (runS S ls) ms := by
  unfold runS
  rw [List.foldl_append]
theorem runA_append : ∀ (S : St0) (ls ms : List Ln), runA S (ls ++ ms) = runA S ls ++ runA (runS S ls) ms
  | S, [], ms => rfl
  | S, l :: ls, ms => by
    show (ansL S l).toList ++ runA (stepL S l) (ls ++ ms) = ((ansL S l).toList ++ runA (stepL S l) ls) ++ runA (runS (stepL S l) ls) ms
    rw [runA_append (stepL S l) ls ms, List.append_assoc]
theorem runA_snoc (S : St0) (ls : List Ln) (l : Ln) : runA S (ls ++ [l]) = runA S ls ++ (ansL (runS S ls) l).toList := by
  rw [runA_append]
  simp [runA]
/-- what is told, by the spots -/
def toldL (S : St0) : List ((Int × Int) × Ln) → List ((Int × Int) × Answer)
  | [] => []
  | (sp, l) :: r => ((ansL S l).toList.map fun a => (sp, a)) ++ toldL (stepL S l) r
theorem toldL_snoc : ∀ (S : St0) (xs : List ((Int × Int) × Ln)) (sp : Int × Int) (l : Ln), toldL S (xs ++ [(sp, l)]) = toldL S xs ++ ((ansL (runS S (xs.map (·.2))) l).toList.map fun a => (sp, a))
  | S, [], sp, l => by simp [toldL, runS]
  | S, (s1, l1) :: xs, sp, l => by
    show ((ansL S l1).toList.map fun a => (s1, a)) ++ toldL (stepL S l1) (xs ++ [(sp, l)]) = (((ansL S l1).toList.map fun a => (s1, a)) ++ toldL (stepL S l1) xs) ++ ((ansL (runS (stepL S l1) (xs.map (·.2))) l).toList.map fun a => (sp, a))
    rw [toldL_snoc (stepL S l1) xs sp l, List.append_assoc]
theorem toldL_answers : ∀ (S : St0) (xs : List ((Int × Int) × Ln)), (toldL S xs).map (·.2) = runA S (xs.map (·.2))
  | S, [] => rfl
  | S, (s1, l1) :: xs => by
    show (((ansL S l1).toList.map fun a => (s1, a)) ++ toldL (stepL S l1) xs).map (·.2) = (ansL S l1).toList ++ runA (stepL S l1) (xs.map (·.2))
    rw [List.map_append, toldL_answers (stepL S l1) xs, List.map_map]
    congr 1
    exact List.map_id' _
theorem toldL_keys : ∀ (S : St0) (xs : List ((Int × Int) × Ln)), ((toldL S xs).map (·.1)).Sublist (xs.map (·.1))
  | S, [] => List.Sublist.refl _
  | S, (s1, l1) :: xs => by
    unfold toldL
    rw [List.map_append, List.map_cons, List.map_map]
    cases l1 with
    | ask x => exact (toldL_keys _ xs).cons_cons s1
    | put t => exact (toldL_keys _ xs).cons s1
    | strike t => exact (toldL_keys _ xs).cons s1
theorem toldL_len : ∀ (S : St0) (xs : List ((Int × Int) × Ln)), (toldL S xs).length ≤ xs.length := fun S xs => by
  have := (toldL_keys S xs).length_le
  simpa using this
theorem stepL_len (S : St0) (l : Ln) : (stepL S l).ts.length ≤ S.ts.length + 1 := by
  cases l with
  | ask x => exact Nat.le_succ _
  | put t => exact St0.put_len S t
  | strike t => exact Nat.le_trans (St0.strike_len S t) (Nat.le_succ _)
theorem runS_len (S : St0) : ∀ ls : List Ln, (runS S ls).ts.length ≤ S.ts.length + ls.length := by
  intro ls
  induction ls generalizing S with
  | nil => exact Nat.le_refl _
  | cons l ls ih =>
    have h1 := ih (stepL S l)
    have h2 := stepL_len S l
    show (runS (stepL S l) ls).ts.length ≤ _
    rw [List.length_cons]
    omega
theorem stepL_n (S : St0) (l : Ln) : (stepL S l).n = S.n := by
  cases l with
  | ask x => rfl
  | put t => exact St0.put_n S t
  | strike t => rfl
theorem runS_n (S : St0) : ∀ ls : List Ln, (runS S ls).n = S.n := by
  intro ls
  induction ls generalizing S with
  | nil => rfl
  | cons l ls ih => exact (ih (stepL S l)).trans (stepL_n S l)
theorem TieOk.up {n m : Int} {t : Tie} (h : TieOk n t) (k : n ≤ m) : TieOk m t := ⟨h.x0, by have := h.x1; omega, h.c0, h.c1, h.y0, by have := h.y1; omega⟩
theorem stepL_ok {S : St0} {n : Int} {l : Ln} (ok : S.Ok) (h : LnOk n l) (hn : n ≤ S.n) (few : S.ts.length < 400) : (stepL S l).Ok := by
  cases l with
  | ask x => exact ok
  | put t => exact St0.put_ok ok (TieOk.up h hn) few
  | strike t => exact St0.strike_ok ok
theorem runS_ok {n : Int} : ∀ {ls : List Ln} {S : St0}, S.Ok → (∀ l ∈ ls, LnOk n l) → n ≤ S.n → S.ts.length + ls.length ≤ 400 → (runS S ls).Ok
  | [], _, ok, _, _, _ => ok
  | l :: ls, S, ok, h, hn, few => by
    rw [List.length_cons] at few
    refine runS_ok (ls := ls) (S := stepL S l) (stepL_ok ok (h l List.mem_cons_self) hn (by omega)) (fun m hm => h m (List.mem_cons_of_mem _ hm)) (by rw [stepL_n]; exact hn) ?_
    have := stepL_len S l
    omega
end Net
namespace Net
open PySem PySem.Spec PyProof.Rows L2
def spLineAt (K : PySem.W.Frag) : Sp := fun vs H Q _ => ∃ (N : Ad) (v : V) (b : Addr) (n : Int) (ps : List (List Ln)) (i j : Int) (l : Ln), vs = [v, .ref b] ∧ SeAt K N H v n ps ∧ H b = some (.tup [.int i, .int j]) ∧ 0 ≤ i ∧ 0 ≤ j ∧ lineAt ps (i, j) = some l ∧ ∀ y, rp N H y l → Q y H
def spSizes (K : PySem.W.Frag) : Sp := fun vs H Q _ => ∃ (N : Ad) (v : V) (n : Int) (ps : List (List Ln)), vs = [v] ∧ SeAt K N H v n ps ∧ ps.length ≤ 3 ∧ ∀ D H', H D = none → Same H H' → H' D = some (.lst (ps.map fun p => V.int (p.length : Int))) → Q (.ref D) H'
def spWeaving (K : PySem.W.Frag) (u : V) : Sp := fun vs H Q _ => ∃ (N : Ad) (v : V) (n : Int) (ps : List (List Ln)) (b : Addr) (row : List Int), vs = [v, .ref b] ∧ SeAt K N H v n ps ∧ PsOk n ps ∧ H b = some (.lst (row.map V.int)) ∧ Weave ps row ∧ ∀ H', Same H H' → Q u H'
def spSpots : Sp := fun vs H Q _ => ∃ (b : Addr) (row : List Int), vs = [.ref b] ∧ H b = some (.lst (row.map V.int)) ∧ row.length ≤ 100 ∧ ∀ u H', Same H H' → rp (In H) H' u (spotsIn row) → Q u H'
def spWantStore (K : PySem.W.Frag) : Sp := fun vs H Q _ => ∃ (N M : Ad) (v u : V) (n : Int) (ps : List (List Ln)) (S : St0), vs = [v, u] ∧ SeAt K N H v n ps ∧ StAt K M H u S ∧ n ≤ S.n ∧ Q .non H
theorem PsOk.len {n : Int} {ps : List (List Ln)} (h : PsOk n ps) : (numb 0 ps).length ≤ 9 := by
  rw [numb_len]
  have gen : ∀ qs : List (List Ln), (∀ p ∈ qs, p.length ≤ 3) → (qs.map List.length).sum ≤ 3 * qs.length := fun qs => by
    induction qs with
    | nil => exact fun _ => Nat.le_refl _
    | cons q qs ih =>
      intro hq
      have h1 := hq q List.mem_cons_self
      have h2 := ih fun p hp => hq p (List.mem_cons_of_mem _ hp)
      rw [List.map_cons, List.sum_cons, List.length_cons]
      omega
  have h1 := gen ps fun p hp => (h.each p hp).2.1
  have h2 := h.p3
  omega
/-- the dict of the counts -/
def doneD (row : List Int) : KvI := row.foldl (fun l r => bump l r 1) []
theorem doneD_snoc (l : List Int) (r : Int) : doneD (l ++ [r]) = bump (doneD l) r 1 := by
  unfold doneD
  rw [List.foldl_append]
  rfl
theorem snocInd {α : Type} {P : List α → Prop} (h0 : P []) (hs : ∀ l x, P l → P (l ++ [x])) : ∀ l, P l := fun l => by
  have : P l.reverse.reverse := by
    generalize l.reverse = m
    induction m with
    | nil => exact h0
    | cons x m ih =>
      rw [List.reverse_cons]
      exact hs _ _ ih
  rwa [List.reverse_reverse] at this
theorem doneD_val (l : List Int) : ∀ r, (valV (doneD l) (.inl r)).getD (.int 0) = .int (cnt r l) := by
  refine snocInd (P := fun l => ∀ r, (valV (doneD l) (.inl r)).getD (.int 0) = .int (cnt r l)) (fun r => rfl) (fun l x ih r => ?_) l
  rw [doneD_snoc]
  unfold bump
  rw [valV_put, cnt_snoc, ih x]
  by_cases h : (Sum.inl r : Key) = Sum.inl x
  · have e : r = x := Sum.inl.inj h
    rw [if_pos h, if_pos e.symm, e]
    rfl
  · rw [if_neg h, if_neg (fun e => h (by rw [e]))]
    exact ih r
theorem doneD_len (l : List Int) : (doneD l).length ≤ l.length := by
  refine snocInd (P := fun l => (doneD l).length ≤ l.length) (Nat.le_refl _) (fun l x ih => ?_) l
  rw [doneD_snoc]
  have := length_putK (doneD l) (.inl x) (.int (asI ((valV (doneD l) (.inl x)).getD (.int 0)) + 1))
  rw [List.length_append]
  unfold bump
  simp only [List.length_singleton]
  omega
section
variable {P : Program} {w : World} {K : PySem.W.Frag} {mg : Str → Option Value} {base : Heap}
theorem sc_line_at : FnScope ["sessions", "spot"] ["sessions", "spot"] (defScope s_line_at) := ⟨rfl, rfl, rfl, by decide +kernel, rfl, by decide +kernel, by decide +kernel⟩
theorem ok_line_at (T : NT K mg) : Cal P w K mg base (ga K "line_at") 1 ["sessions", "spot"] (spLineAt K) := by
  obtain ⟨fd, F⟩ := T.D_line_at
  refine Cal.of F (F.bindsN fun _ _ _ _ _ _ us hl => match us, hl with | [_, _], _ => rfl) sc_line_at (fun vs H Q E h => ?_) (fun cdv A outer s H vs Q E hr h => ?_)
  · obtain ⟨N, v, b, n, ps, i, j, l, rfl, _⟩ := h
    rfl
  · obtain ⟨N, v, b, n, ps, i, j, l, rfl, ⟨a, dx, q, rfl, na, ha, q', xs, e, nq, hq, hx⟩, hb, hi, hj, hl, k⟩ := h
    cases e
    obtain ⟨p, hp, hpl⟩ := Option.bind_eq_some_iff.mp hl
    obtain ⟨_, hx1, q1, ys, rfl, nq1, hq1, hy⟩ := hx.get (i := i.toNat) (b := ⟨p⟩) (by
      show (ps.map PySem.W.Tup.mk)[i.toNat]? = _
      rw [List.getElem?_map, hp]
      rfl)
    obtain ⟨y, hy1, ry⟩ := hy.get (i := j.toNat) (b := l) hpl
    have ei : ((i.toNat : Nat) : Int) = i := Int.toNat_of_nonneg hi
    have ej : ((j.toNat : Nat) : Int) = j := Int.toNat_of_nonneg hj
    refine ⟨_, pss_one (ps_ret (pe_ix ix_tup (pe_ix ix_tup (pe_fld (pv 0) rfl) (pe_ix ix_tup (pv 1) pe_int (fun _ _ => rfl)) (fun _ _ => rfl)) (pe_ix ix_tup (pv 1) pe_int (fun _ _ => rfl)) (fun _ _ => rfl))), ?_⟩
    refine ⟨_, rfl, a, _, dx, _, _, rfl, ha, T.c_Sessions, T.n_Sessions_own_programs, seF_programs _ _, _, rfl, b, _, 0, _, rfl, rfl, SqT.of hb, atI_nat (j := 0) rfl, q, xs, i, _, rfl, rfl, SqT.of hq, (by rw [← ei]; exact atI_nat hx1), ?_⟩
    exact ⟨_, rfl, b, _, 1, _, rfl, rfl, SqT.of hb, atI_nat (j := 1) rfl, q1, ys, j, y, rfl, rfl, SqT.of hq1, (by rw [← ej]; exact atI_nat hy1), k y ry⟩
theorem sc_sizes : FnScope ["sessions", "program"] ["sessions"] (defScope s_sizes) := ⟨rfl, rfl, rfl, by decide +kernel, rfl, by decide +kernel, by decide +kernel⟩
theorem ok_sizes (T : NT K mg) : Cal P w K mg base (ga K "sizes") 1 ["sessions"] (spSizes K) := by
  obtain ⟨fd, F⟩ := T.D_sizes
  refine Cal.of F (F.bindsN fun _ _ _ _ _ _ us hl => match us, hl with | [_], _ => rfl) sc_sizes (fun vs H Q E h => ?_) (fun cdv A outer s H vs Q E hr h => ?_)
  · obtain ⟨N, v, n, ps, rfl, _⟩ := h
    rfl
  · obtain ⟨N, v, n, ps, rfl, ⟨a, dx, q, rfl, na, ha, q', xs, e, nq, hq, hx⟩, h3, k⟩ := h
    cases e
    have nd := sc_sizes.nd
    have hl : xs.length = ps.length := by rw [hx.length, List.length_map]
    refine ⟨_, pss_one (ps_ret (pe_lc (own := [("program", 1)]) (g := gName 1) (tt := tYes) (te := tCB (rLenQ K) (tCons (tVar 1) tNil)) rfl nd (pi_tup (pe_fld (pv 0) rfl)) (blkOk_by (N := ["sessions", "program"]) (sc := defScope s_sizes) (by decide +kernel))
      (fun _ _ _ _ _ => pg_name (i := 1) nd rfl (Or.inl rfl)) (fun _ _ _ _ _ => pts_nil) (fun _ _ _ _ _ => pe_b call_len_seq T.b_len (pa_cons (pv 1) pa_nil)))), ?_⟩
    refine ⟨_, rfl, a, _, dx, _, _, rfl, ha, T.c_Sessions, T.n_Sessions_own_programs, seF_programs _ _, q, rfl, ⟨xs, SqT.of hq⟩, fun D hD => ?_⟩
    refine lc_rp (β := Int) (walk_tup (xs := xs)) (ps.map fun p => (p.length : Int)) (by rw [List.length_map]; exact hl.symm) (by have := big; omega) (fun _ => False) hD (fun H2 s2 => SqT.of (s2 _ _ hq)) yAt_same (fun j b y H3 H2 K1 hb s2 _ hy k1 => ?_) (fun H2 acc s2 hacc r => ?_)
    · obtain ⟨rfl, hy⟩ := hy
      obtain ⟨t, ht, b0, ys, rfl, nb, hb0, hys⟩ := hx.get' hy
      rw [List.getElem?_map] at ht hb
      cases z : ps[j]? with
      | none =>
        rw [z] at hb
        cases hb
      | some p =>
        rw [z] at hb ht
        cases hb
        cases ht
        refine ⟨wipe1 _ _ _, _, rfl, b0, ys, rfl, .inr (SqT.of (s2 _ _ hb0)), k1 _ _ (Same.refl _) ?_⟩
        exact congrArg (fun z : Nat => V.int (z : Int)) hys.length
    · refine k D H2 hD s2 ?_
      rw [hacc, ints_of r, List.map_map]
      rfl
theorem sc_is_weaving : FnScope ["sessions", "value", "numbers", "number", "many"] ["sessions", "value"] (defScope s_is_weaving) := ⟨rfl, rfl, rfl, by decide +kernel, rfl, by decide +kernel, by decide +kernel⟩
theorem ok_is_weaving (T : NT K mg) : Cal P w K mg base (ga K "is_weaving") 2 ["sessions", "value"] (spWeaving K (.bl true)) := by
  obtain ⟨fd, F⟩ := T.D_is_weaving
  refine Cal.of F (F.bindsN fun _ _ _ _ _ _ us hl => match us, hl with | [_, _], _ => rfl) sc_is_weaving (fun vs H Q E h => ?_) (fun cdv A outer s H vs Q E hr h => ?_)
  · obtain ⟨N, v, n, ps, b, row, rfl, _⟩ := h
    rfl
  · obtain ⟨N, v, n, ps, b, row, rfl, st, ok, hb, we, k⟩ := h
    have nd := sc_is_weaving.nd
    have hbig := big
    have lrow : row.length ≤ 9 := by rw [we.length_eq]; exact ok.len
    have hp3 := ok.p3
    refine ⟨_, pss_cons (ps_if (PW.pt (pw_or (pt_not (pt_val (pe_f (ok_is_list T) T.g_is_list (hr.mono (by decide)) (pa_cons (pv 1) pa_nil))))
        (pw_or1 (pt_not (pt_val (pe_b (cr_all rfl) T.b_all (pa_cons (pe_lc (own := [("number", 3)]) (g := gName 3) (tt := tYes) rfl nd (pi_list (pv 1)) (blkOk_by (N := ["sessions", "value", "numbers", "number", "many"]) (sc := defScope s_is_weaving) (by decide +kernel))
          (fun _ _ _ _ _ => pg_name (i := 3) nd rfl (Or.inl rfl)) (fun _ _ _ _ _ => pts_nil) (fun _ _ _ _ _ => pe_f (ok_is_integer T) T.g_is_integer (hr.mono (by decide)) (pa_cons (pv 3) pa_nil))) pa_nil))))))) (pss_one (ps_ret pe_bl)) pss_nil)
      (pss_cons (ps_set (i := 2) nd rfl (Or.inl rfl) (pe_lst pa_nil))
      (pss_cons (ps_for PassesOwn.never rfl (pi_enum (by rfl) T.b_enumerate (pa_cons (pe_f (ok_sizes T) T.g_sizes (hr.mono (by decide)) (pa_cons (pv 0) pa_nil)) pa_nil)) (pg_tup rfl (pgs_cons (pg_name (i := 3) nd rfl (Or.inl rfl)) (pgs_cons (pg_name (i := 4) nd rfl (Or.inl rfl)) pgs_nil)))
        (pss_one (ps_expr (pe_bm PySem.F.plainAttrs_list PySem.F.slot_list_extend PySem.F.type_list_extend mt_extend (pv 2) (pa_cons (pe_op op_rep (pe_lst (pa_cons (pv 3) pa_nil)) (pv 4)) pa_nil)))))
      (pss_one (ps_ret (pe_cmpR (op_eqC (α := List Int) hr.units) (pe_b cr_sortedI T.b_sorted (pa_cons (pv 1) pa_nil)) (pv 2) (nomark _)))))), ?_⟩
    refine ⟨_, rfl, b, _, rfl, .inl hb, fun H1 s1 => ⟨true, rfl, iteF ?_⟩⟩
    refine ⟨_, rfl, b, rfl, ⟨_, SqL.of (s1 _ _ hb)⟩, fun D hD => ?_⟩
    refine lc_rp (β := Bool) (walk_list (xs := row.map V.int)) (List.replicate row.length true) (by simp) (by rw [List.length_map]; omega) (fun _ => False) hD (fun H2 s3 => SqL.of (s3 _ _ (s1 _ _ hb))) yAt_same (fun j c y H3 H4 K1 hb2 s3 _ hy k1 => ?_) (fun H3 acc s3 hacc r => ?_)
    · obtain ⟨rfl, hy⟩ := hy
      rw [List.getElem?_map] at hy
      cases z : row[j]? with
      | none =>
        rw [z] at hy
        cases hy
      | some i =>
        rw [z] at hy
        cases hy
        refine ⟨wipe1 _ _ _, _, rfl, i, rfl, k1 _ _ (Same.refl _) ?_⟩
        rw [List.eq_of_mem_replicate (List.mem_of_getElem? hb2)]
        rfl
    · refine ⟨D, _, rfl, .of (by rw [← bls_of r]; exact hacc), ?_⟩
      rw [show (List.replicate row.length true).all id = true by simp]
      refine ⟨true, rfl, iteF ?_⟩
      have s13 := s1.trans s3
      refine ⟨Nat.zero_le _, fun f hf => ?_⟩
      have s4 : Same H (upd H3 f (.lst [])) := s13.lay hf
      have hf0 : H f = none := s13.free hf
      refine ⟨_, rfl, N, v, n, ps, rfl, st.mono (SameN.of s4), hp3, fun g H5 hg0 s5 hg => ?_⟩
      have hgf : g ≠ f := fun z => by
        rw [z, upd_same] at hg0
        cases hg0
      refine ⟨g, _, rfl, SqL.of hg, for_it walk_enum (fun i σ H' => ∃ v3 v4 : Option V, σ = [some v, some (.ref b), some (.ref f), v3, v4] ∧ Same H H' ∧ H' g = some (.lst (ps.map fun p => V.int (p.length : Int))) ∧ H' f = some (.lst ((numb 0 (ps.take i)).map V.int)))
        ⟨none, none, rfl, s4.trans s5, hg, s5 _ _ upd_same⟩ (fun i σ H' _ ⟨_, _, _, _, q, _⟩ => SqL.of q) ?_ ?_⟩
      · rintro i x σ H6 H7 hi ⟨v3, v4, rfl, s6, hg6, hf6⟩ ⟨p, y, z, rfl, hp, rfl, e1, e2⟩
        replace e2 : (ps.map fun p => V.int (p.length : Int))[i]? = some z := e2
        rw [List.getElem?_map] at e2
        obtain ⟨pr, hpr, rfl⟩ : ∃ pr, ps[i]? = some pr ∧ z = .int (pr.length : Int) := by
          cases q : ps[i]? with
          | none =>
            rw [q] at e2
            cases e2
          | some pr =>
            rw [q] at e2
            cases e2
            exact ⟨pr, rfl, rfl⟩
        cases (show some (V.int ((i : Nat) : Int)) = some y from e1)
        have o2 := (ok.each pr (List.mem_of_getElem? hpr)).2.1
        have hgp : g ≠ p := ne_of_none hg6 hp
        have hfp : f ≠ p := ne_of_none hf6 hp
        refine ⟨p, _, rfl, SqT.of upd_same, rfl, _, _, rfl, _, _, rfl, rfl, ?_⟩
        have hf7 : upd H6 p (.tup [V.int ((i : Nat) : Int), .int (pr.length : Int)]) f = some (.lst ((numb 0 (ps.take i)).map V.int)) := by rw [upd_ne hfp]; exact hf6
        refine ⟨_, rfl, .inl ⟨rfl, _, SqL.of hf7⟩, _, rfl, (by show 1 ≤ sizeLine; decide), fun l hl => ⟨_, rfl, l, _, _, rfl, rfl, upd_same, by omega, by omega, (by simp; omega), fun l2 hl2 => ?_⟩⟩
        have hfl : f ≠ l := ne_of_none hf7 hl
        have hf8 : upd (upd H6 p (.tup [V.int ((i : Nat) : Int), .int (pr.length : Int)])) l (.lst [V.int ((i : Nat) : Int)]) f = some (.lst ((numb 0 (ps.take i)).map V.int)) := by rw [upd_ne hfl]; exact hf7
        have hfl2 : f ≠ l2 := ne_of_none hf8 hl2
        have e9 : (List.replicate ((pr.length : Int)).toNat [V.int ((i : Nat) : Int)]).flatten = (List.replicate pr.length ((i : Nat) : Int)).map V.int := by
          rw [Int.toNat_natCast]
          induction pr.length with
          | zero => rfl
          | succ m ih =>
            rw [List.replicate_succ, List.flatten_cons, ih, List.replicate_succ]
            rfl
        refine ⟨f, l2, _, _, rfl, rfl, (by rw [upd_ne hfl2]; exact hf8), upd_same, ?_, ?_⟩
        · have h1 := PsOk.len (n := n) (ps := ps) ok
          have h2 : (numb 0 (ps.take i)).length ≤ 9 := by
            rw [numb_len] at h1 ⊢
            rw [List.map_take]
            have : ((ps.map List.length).take i).sum ≤ (ps.map List.length).sum := by
              conv => rhs; rw [← List.take_append_drop i (ps.map List.length), List.sum_append]
              exact Nat.le_add_right _ _
            omega
          rw [e9, List.length_map, List.length_map, List.length_replicate]
          omega
        · refine ⟨_, _, rfl, fun c o e => ?_, ?_, ?_⟩
          · rw [upd_ne (ne_of_none e hf0)]
            exact (((s6.lay hp).lay hl).lay hl2) c o e
          · rw [upd_ne hgf, upd_ne (ne_of_none (by rw [upd_ne (ne_of_none (by rw [upd_ne hgp]; exact hg6) hl), upd_ne hgp]; exact hg6) hl2), upd_ne (ne_of_none (by rw [upd_ne hgp]; exact hg6) hl), upd_ne hgp]
            exact hg6
          · rw [upd_same, take_succ' hpr, numb_snoc, List.map_append, e9, List.length_take]
            rw [show 0 + min i ps.length = i from by
              have := (List.getElem?_eq_some_iff.mp hpr).1
              omega]
      · rintro σ H6 ⟨v3, v4, rfl, s6, hg6, hf6⟩
        rw [List.length_map, List.take_length] at hf6
        refine ⟨_, rfl, b, row, rfl, SqL.of (s6 _ _ hb), fun ns' p hp hle hpn => ?_⟩
        have e : ns' = numb 0 ps := List.Perm.eq_of_pairwise (fun a b _ _ h1 h2 => Int.le_antisymm h1 h2) hle (numb_sorted 0 ps) (hp.trans we)
        refine ⟨_, rfl, fun _ => False, fun _ => False, ns', numb 0 ps, ⟨p, _, rfl, fun z => z, upd_same, ints_rp _⟩, ⟨f, _, rfl, fun z => z, (by rw [upd_ne (ne_of_none hf6 hpn)]; exact hf6), ints_rp _⟩, ?_⟩
        rw [decide_eq_true e]
        exact k _ (s6.lay hpn)
end
end Net
namespace Net
open PySem PySem.Spec PyProof.Rows L2
theorem dun_add : PySem.dunder (Operator.Add.info.2) = ("__add__" : Str) := by decide +kernel
theorem dun_sub : PySem.dunder (Operator.Sub.info.2) = ("__sub__" : Str) := by decide +kernel
theorem dun_radd : PySem.dunderR (Operator.Add.info.2) = ("__radd__" : Str) := by decide +kernel
theorem dun_rsub : PySem.dunderR (Operator.Sub.info.2) = ("__rsub__" : Str) := by decide +kernel
theorem tup_add : (fastLookup "tuple" (PySem.dunder Operator.Add.info.2)).isSome = true := by decide +kernel
theorem tup_radd : (fastLookup "tuple" (PySem.dunderR Operator.Add.info.2)).isSome = true := by decide +kernel
theorem tup_sub : (fastLookup "tuple" (PySem.dunder Operator.Sub.info.2)).isSome = true := by decide +kernel
theorem tup_rsub : (fastLookup "tuple" (PySem.dunderR Operator.Sub.info.2)).isSome = true := by decide +kernel
theorem bin_parts {K : PySem.W.Frag} (h : binB K "Store" = true) : PySem.W.selfFirst K (ga K "Store") = true ∧ PySem.W.findIn K (.ref (ga K "Store")) "__radd__" = some none ∧ PySem.W.findIn K (.ref (ga K "Store")) "__rsub__" = some none ∧ PySem.W.subIn K (.type "tuple") (.ref (ga K "Store")) = some false := by
  obtain ⟨h1, h⟩ := He.ba h
  obtain ⟨h2, h⟩ := He.ba h
  obtain ⟨h3, h4⟩ := He.ba h
  exact ⟨h1, He.eqO_ok h2, He.eqO_ok h3, of_decide_eq_true h4⟩
section
variable {X : Cx}
theorem op_addSt (T : NT X.K X.mg) (hr : Room 8 X.A) : OpR X (binaryOp .Add) (rBin (ga X.K "Store") (spOpr X.K St0.put)) := by
  obtain ⟨h1, h2, h3, h4⟩ := bin_parts T.e_bin
  obtain ⟨fo, e1⟩ := Option.isSome_iff_exists.mp tup_add
  obtain ⟨ro, e2⟩ := Option.isSome_iff_exists.mp tup_radd
  exact op_bin (op := .Add) (ok_Store_add T) hr h1 (by rw [dun_add]; exact T.m_Store_add.at_) T.m_Store_add.fn (by rw [dun_radd]; exact h2) e1 e2 h4
theorem op_subSt (T : NT X.K X.mg) (hr : Room 8 X.A) : OpR X (binaryOp .Sub) (rBin (ga X.K "Store") (spOpr X.K St0.strike)) := by
  obtain ⟨h1, h2, h3, h4⟩ := bin_parts T.e_bin
  obtain ⟨fo, e1⟩ := Option.isSome_iff_exists.mp tup_sub
  obtain ⟨ro, e2⟩ := Option.isSome_iff_exists.mp tup_rsub
  exact op_bin (op := .Sub) (ok_Store_sub T) hr h1 (by rw [dun_sub]; exact T.m_Store_sub.at_) T.m_Store_sub.fn (by rw [dun_rsub]; exact h3) e1 e2 h4
end
section
variable {P : Program} {w : World} {K : PySem.W.Frag} {mg : Str → Option Value} {base : Heap}
theorem sc_want_weaving : FnScope ["sessions", "weaving"] ["sessions", "weaving"] (defScope s_want_weaving) := ⟨rfl, rfl, rfl, by decide +kernel, rfl, by decide +kernel, by decide +kernel⟩
theorem ok_want_weaving (T : NT K mg) : Cal P w K mg base (ga K "want_weaving") 3 ["sessions", "weaving"] (spWeaving K .non) := by
  obtain ⟨fd, F⟩ := T.D_want_weaving
  refine Cal.of F (F.bindsN fun _ _ _ _ _ _ us hl => match us, hl with | [_, _], _ => rfl) sc_want_weaving (fun vs H Q E h => ?_) (fun cdv A outer s H vs Q E hr h => ?_)
  · obtain ⟨N, v, n, ps, b, row, rfl, _⟩ := h
    rfl
  · obtain ⟨N, v, n, ps, b, row, rfl, st, ok, hb, we, k⟩ := h
    refine ⟨_, pss_one (ps_if (pt_not (pt_val (pe_f (ok_is_weaving T) T.g_is_weaving hr (pa_cons (pv 0) (pa_cons (pv 1) pa_nil))))) (pss_one ps_never) pss_nil), ?_⟩
    exact ⟨_, rfl, _, rfl, N, v, n, ps, b, row, rfl, st, ok, hb, we, fun H' s1 => ⟨true, rfl, iteF (k H' s1)⟩⟩
theorem sc_want_store : FnScope ["sessions", "store"] ["sessions", "store"] (defScope s_want_store) := ⟨rfl, rfl, rfl, by decide +kernel, rfl, by decide +kernel, by decide +kernel⟩
theorem ok_want_store (T : NT K mg) : Cal P w K mg base (ga K "want_store") 3 ["sessions", "store"] (spWantStore K) := by
  obtain ⟨fd, F⟩ := T.D_want_store
  refine Cal.of F (F.bindsN fun _ _ _ _ _ _ us hl => match us, hl with | [_, _], _ => rfl) sc_want_store (fun vs H Q E h => ?_) (fun cdv A outer s H vs Q E hr h => ?_)
  · obtain ⟨N, M, v, u, n, ps, S, rfl, _⟩ := h
    rfl
  · obtain ⟨N, M, v, u, n, ps, S, rfl, ⟨a, dx, q, rfl, na, ha, hq⟩, st, hn, k⟩ := h
    obtain ⟨a2, dx2, td, gd, od, rfl, na2, nt, ha2, ht, hg⟩ := id st
    refine ⟨_, pss_one (ps_if (pt_cmpR op_lt (pe_pr (ok_Store_nodes T) T.c_Store T.e_nodes (hr.mono (by decide)) (pv 1)) (pe_fld (pv 0) rfl) (nomark _)) (pss_one ps_never) pss_nil), ?_⟩
    refine ⟨_, rfl, a2, dx2, _, rfl, ha2, M, _, S, rfl, st, _, rfl, a, _, dx, _, _, rfl, ha, T.c_Sessions, T.n_Sessions_own_nodes, seF_nodes _ _, _, _, rfl, rfl, false, congrArg V.bl (decide_eq_false (by omega)), iteF k⟩
theorem sc_spots_in : FnScope ["weaving", "done", "found", "number"] ["weaving"] (defScope s_spots_in) := ⟨rfl, rfl, rfl, by decide +kernel, rfl, by decide +kernel, by decide +kernel⟩
theorem ok_spots_in (T : NT K mg) : Cal P w K mg base (ga K "spots_in") 1 ["weaving"] spSpots := by
  obtain ⟨fd, F⟩ := T.D_spots_in
  refine Cal.of F (F.bindsN fun _ _ _ _ _ _ us hl => match us, hl with | [_], _ => rfl) sc_spots_in (fun vs H Q E h => ?_) (fun cdv A outer s H vs Q E hr h => ?_)
  · obtain ⟨b, row, rfl, _⟩ := h
    rfl
  · obtain ⟨b, row, rfl, hb, hlen, k⟩ := h
    have hu := hu_of hr
    have nd := sc_spots_in.nd
    have hbig := big
    refine ⟨_, pss_cons (ps_par (i := 1) (j := 2) rfl nd rfl rfl (by decide) rfl rfl (pa_cons pe_dnewK (pa_cons (pe_lst pa_nil) pa_nil)) rfl)
      (pss_cons (ps_for PassesOwn.never rfl (pi_list (pv 0)) (pg_name (i := 3) nd rfl (Or.inl rfl))
        (pss_cons (ps_expr (pe_bm PySem.F.plainAttrs_list PySem.F.slot_list_append PySem.F.type_list_append mt_append (pv 2) (pa_cons (pe_tup (pa_cons (pv 3) (pa_cons (pe_dget2 hu (pv 1) (pv 3) pe_int ⟨rfl, rfl, rfl, rfl⟩) pa_nil))) pa_nil)))
        (pss_one (ps_dput hu (pv 1) (pv 3) (pe_op op_add (pe_dget2 hu (pv 1) (pv 3) pe_int ⟨rfl, rfl, rfl, rfl⟩) pe_int) rfl))))
      (pss_one (ps_ret (pv 2)))), ?_⟩
    intro d hd
    refine ⟨Nat.zero_le _, fun f hf => ⟨_, _, rfl, ?_⟩⟩
    have hd0 : H d = none := hd
    have hf0 : H f = none := (Same.new hd).free hf
    have hdf : d ≠ f := ne_of_none upd_same hf
    have s0 : Same H (upd (upd H d (.dK [])) f (.lst [])) := (Same.new hd).lay hf
    refine ⟨_, rfl, b, rfl, ⟨_, SqL.of (s0 _ _ hb)⟩, for_it (walk_list (xs := row.map V.int)) (fun i σ H' => ∃ (o3 : Option V) (xs : List V), σ = [some (.ref b), some (.ref d), some (.ref f), o3] ∧ Same H H' ∧ H' d = some (.dK (doneD (row.take i))) ∧ H' f = some (.lst xs) ∧ All2 (rp (And1 (And1 (In H) f) d) H') xs (spotsIn (row.take i)))
      ⟨none, [], rfl, s0, by rw [upd_ne hdf]; exact upd_same, upd_same, trivial⟩ (fun i σ H' _ ⟨_, _, _, s2, _⟩ => SqL.of (s2 _ _ hb)) ?_ ?_⟩
    · rintro i y σ H3 H2 hi ⟨o3, xs, rfl, s2, hd2, hf2, rx⟩ ⟨rfl, hy⟩
      rw [List.getElem?_map] at hy
      obtain ⟨r, hr1, rfl⟩ : ∃ r, row[i]? = some r ∧ y = .int r := by
        cases z : row[i]? with
        | none =>
          rw [z] at hy
          cases hy
        | some r =>
          rw [z] at hy
          cases hy
          exact ⟨r, rfl, rfl⟩
      have hv := doneD_val (row.take i) r
      refine ⟨_, rfl, .inl ⟨rfl, _, SqL.of hf2⟩, _, rfl, _, rfl, d, rfl, .inl ⟨_, .inl hd2⟩, _, rfl, _, DGet.k (k := .inl r) hd2, (by show 2 ≤ sizeLine; decide), fun q hq => ?_⟩
      rw [hv]
      have hfq : f ≠ q := ne_of_none hf2 hq
      have hdq : d ≠ q := ne_of_none hd2 hq
      have lx := rx.length
      rw [spotsIn_len, List.length_take] at lx
      refine ⟨f, xs, _, rfl, rfl, (by rw [upd_ne hfq]; exact hf2), by omega, ?_⟩
      have hd3 : upd (upd H2 q (.tup [V.int r, .int (cnt r (row.take i))])) f (.lst (xs ++ [.ref q])) d = some (.dK (doneD (row.take i))) := by
        rw [upd_ne hdf, upd_ne hdq]
        exact hd2
      have s3 : Same H2 (upd H2 q (.tup [V.int r, .int (cnt r (row.take i))])) := Same.new hq
      refine ⟨_, rfl, d, rfl, .inl ⟨_, .inl hd3⟩, _, rfl, _, DGet.k (k := .inl r) hd3, cnt r (row.take i), 1, hv, rfl, _, rfl, _, rfl, d, _, rfl, DPut.k (k := .inl r) hd3 (by
        have := doneD_len (row.take i)
        rw [List.length_take] at this
        omega), ?_⟩
      refine ⟨_, xs ++ [.ref q], rfl, fun c o e => ?_, ?_, (by rw [upd_ne (Ne.symm hdf)]; exact upd_same), ?_⟩
      · rw [upd_ne (ne_of_none e hd0), upd_ne (ne_of_none e hf0)]
        exact s3 c o (s2 c o e)
      · rw [upd_same, take_succ' hr1, doneD_snoc]
        unfold bump
        rw [hv]
        rfl
      · rw [take_succ' hr1, spotsIn_snoc]
        have rx3 := rx.monoR (SameN.of s3)
        have new : rp (And1 (And1 (In H) f) d) (upd H2 q (.tup [V.int r, .int (cnt r (row.take i))])) (.ref q) (r, cnt r (row.take i)) := by
          refine ⟨q, _, _, rfl, ?_, upd_same, rfl, rfl⟩
          rintro ((z | z) | z)
          · exact In.not' s2 hq z
          · exact hfq z.symm
          · exact hdq z.symm
        exact ((rx3.append (.one new)).monoR (SameN.upd (Or.inl (Or.inr rfl)))).monoR (SameN.upd (Or.inr rfl))
    · rintro σ H2 ⟨o3, xs, rfl, s2, hd2, hf2, rx⟩
      rw [List.length_map, List.take_length] at rx
      exact ⟨_, rfl, k _ H2 s2 ⟨f, xs, rfl, In.not hf0, hf2, rx.weakR fun c z => .inl (.inl z)⟩⟩
end
end Net
namespace Net
open PySem PySem.Spec PyProof.Rows L2 L2.DX
/-- the lines of a weaving, in its order -/
def linesIn (ps : List (List Ln)) (row : List Int) : List Ln := (spotsIn row).map fun sp => (lineAt ps sp).getD (.ask Str.empty)
theorem linesIn_len (ps : List (List Ln)) (row : List Int) : (linesIn ps row).length = row.length := by
  unfold linesIn
  rw [List.length_map, spotsIn_len]
theorem linesIn_get {ps : List (List Ln)} {row : List Int} {i : Nat} {r : Int} {l : Ln} (e : row[i]? = some r) (h : lineAt ps (r, cnt r (row.take i)) = some l) : (linesIn ps row)[i]? = some l := by
  unfold linesIn
  rw [List.getElem?_map, spotsIn_get e]
  show some ((lineAt ps (r, cnt r (row.take i))).getD _) = _
  rw [h]
  rfl
/-- the spots and their lines -/
def zl (ps : List (List Ln)) (row : List Int) : List ((Int × Int) × Ln) := (spotsIn row).map fun sp => (sp, (lineAt ps sp).getD (.ask Str.empty))
theorem zl_lines (ps : List (List Ln)) (row : List Int) : (zl ps row).map (·.2) = linesIn ps row := by
  unfold zl linesIn
  rw [List.map_map]
  rfl
theorem zl_spots (ps : List (List Ln)) (row : List Int) : (zl ps row).map (·.1) = spotsIn row := by
  unfold zl
  rw [List.map_map]
  exact List.map_id' _
theorem zl_len (ps : List (List Ln)) (row : List Int) : (zl ps row).length = row.length := by
  unfold zl
  rw [List.length_map, spotsIn_len]
theorem linesIn_ok {n : Int} {ps : List (List Ln)} {row : List Int} (ok : PsOk n ps) (we : Weave ps row) : ∀ l ∈ linesIn ps row, LnOk n l := fun l hl => by
  obtain ⟨i, hi, e⟩ := List.mem_iff_getElem.mp hl
  rw [linesIn_len] at hi
  obtain ⟨h0, h1, p, l', hp, hl', hla⟩ := weave_line we (List.getElem?_eq_getElem hi)
  have e2 := linesIn_get (List.getElem?_eq_getElem hi) hla
  have e3 : l' = l := Option.some.inj (e2.symm.trans (List.getElem?_eq_some_iff.mpr ⟨by rw [linesIn_len]; exact hi, e⟩))
  subst e3
  exact (ok.each p (List.mem_of_getElem? hp)).2.2 l' (List.mem_of_getElem? hl')
/-- the answers that were told, each a list -/
def TolAt (N : Ad) (H : Hp) (ks : List Sp2) (ts : List ((Int × Int) × Answer)) : Prop := All2 (fun (e : Sp2) (t : (Int × Int) × Answer) => e.1 = t.1 ∧ rp N H (.ref e.2) t.2) ks ts
theorem TolAt.mono {N : Ad} {H H' : Hp} {ks : List Sp2} {ts : List ((Int × Int) × Answer)} (s : SameN N H H') (h : TolAt N H ks ts) : TolAt N H' ks ts := h.imp fun _ _ q => ⟨q.1, Rp.mono s q.2⟩
theorem TolAt.weak {N N' : Ad} {H : Hp} {ks : List Sp2} {ts : List ((Int × Int) × Answer)} (k : ∀ b, N' b → N b) (h : TolAt N H ks ts) : TolAt N' H ks ts := h.imp fun _ _ q => ⟨q.1, Rp.weak k q.2⟩
theorem TolAt.keys {N : Ad} {H : Hp} : ∀ {ks : List Sp2} {ts : List ((Int × Int) × Answer)}, TolAt N H ks ts → ks.map (·.1) = ts.map (·.1)
  | [], [], _ => rfl
  | e :: ks, t :: ts, h => by rw [List.map_cons, List.map_cons, h.1.1, TolAt.keys h.2]
theorem entS_inj {a b : Int × Int} (h : ([Sum.inl a.1, Sum.inl a.2] : List Key) = [.inl b.1, .inl b.2]) : a = b := by
  simp only [List.cons.injEq, Sum.inl.injEq, and_true] at h
  exact Prod.ext h.1 h.2
theorem entS_none {sp : Int × Int} : ∀ {ks : List Sp2}, ¬ sp ∈ ks.map (·.1) → valV (ks.map entS) [.inl sp.1, .inl sp.2] = none
  | [], _ => rfl
  | e :: ks, h => by
    rw [List.map_cons, valV_neg]
    · exact entS_none fun m => h (List.mem_cons_of_mem _ m)
    · intro z
      exact h (by rw [← entS_inj z]; exact List.mem_cons_self)
theorem entS_some {sp : Int × Int} {c : Addr} : ∀ {ks : List Sp2}, (ks.map (·.1)).Nodup → (sp, c) ∈ ks → valV (ks.map entS) [.inl sp.1, .inl sp.2] = some (.ref c)
  | [], _, h => by cases h
  | e :: ks, hn, h => by
    rw [List.map_cons]
    rcases List.mem_cons.mp h with m | m
    · subst m
      rw [valV_pos rfl]
    · rw [valV_neg]
      · exact entS_some (List.nodup_cons.mp hn).2 m
      · intro z
        have e1 : e.1 = sp := entS_inj z
        exact (List.nodup_cons.mp hn).1 (List.mem_map.mpr ⟨(sp, c), m, e1.symm⟩)
def spPlayed (K : PySem.W.Frag) : Sp := fun vs H Q _ => ∃ (N M : Ad) (v u : V) (n : Int) (ps : List (List Ln)) (b : Addr) (row : List Int) (S : St0), vs = [v, u, .ref b] ∧ SeAt K N H v n ps ∧ PsOk n ps ∧ StAt K M H u S ∧ Dom M H ∧ S.Ok ∧ n ≤ S.n ∧ S.ts.length ≤ 100 ∧ H b = some (.lst (row.map V.int)) ∧ Weave ps row ∧
  ∀ p d v' ks H', Same H H' → H' p = some (.tup [.ref d, v']) → H' d = some (.dT (ks.map entS)) → TolAt (In H) H' ks (toldL S (zl ps row)) → StAt K M H' v' (runS S (linesIn ps row)) → Q (.ref p) H'
section
variable {P : Program} {w : World} {K : PySem.W.Frag} {mg : Str → Option Value} {base : Heap}
abbrev nPlayed : List Str := ["sessions", "store", "weaving", "told", "here", "spot", "word", "thing"]
theorem sc_played : FnScope nPlayed ["sessions", "store", "weaving"] (defScope s_played) := ⟨rfl, rfl, rfl, by decide +kernel, rfl, by decide +kernel, by decide +kernel⟩
theorem ok_played (T : NT K mg) : Cal P w K mg base (ga K "played") 9 ["sessions", "store", "weaving"] (spPlayed K) := by
  obtain ⟨fd, F⟩ := T.D_played
  refine Cal.of F (F.bindsN fun _ _ _ _ _ _ us hl => match us, hl with | [_, _, _], _ => rfl) sc_played (fun vs H Q E h => ?_) (fun cdv A outer s H vs Q E hr h => ?_)
  · obtain ⟨N, M, v, u, n, ps, b, row, S, rfl, _⟩ := h
    rfl
  · obtain ⟨N, M, v, u, n, ps, b, row, S, rfl, se, ok, st, dom, sok, hn, few, hb, we, k⟩ := h
    have hu := hu_of hr
    have nd := sc_played.nd
    have hbig := big
    have lrow : row.length ≤ 9 := by rw [we.length_eq]; exact ok.len
    have lok := linesIn_ok ok we
    refine ⟨_, pss_cons (ps_par (i := 3) (j := 4) rfl nd rfl rfl (by decide) rfl rfl (pa_cons pe_dnewT (pa_cons (pv 1) pa_nil)) rfl)
      (pss_cons (ps_for PassesOwn.never rfl (pi_list (pe_f (ok_spots_in T) T.g_spots_in (hr.mono (by decide)) (pa_cons (pv 2) pa_nil))) (pg_name (i := 5) nd rfl (Or.inl rfl))
        (pss_cons (ps_asg (pe_f (ok_line_at T) T.g_line_at (hr.mono (by decide)) (pa_cons (pv 0) (pa_cons (pv 5) pa_nil))) (pg_tup rfl (pgs_cons (pg_name (i := 6) nd rfl (Or.inl rfl)) (pgs_cons (pg_name (i := 7) nd rfl (Or.inl rfl)) pgs_nil))))
        (pss_one (ps_if (pt_cmpR op_eq (pv 6) (pe_cs T.x_ASK) (nomark _))
          (pss_one (ps_dput hu (pv 3) (pv 5) (pe_f (ok_pairs_of T) T.g_pairs_of (hr.mono (by decide)) (pa_cons (pv 4) (pa_cons (pv 7) pa_nil))) rfl))
          (pss_one (ps_set (i := 4) nd rfl (Or.inl rfl) (pe_ifExp (pt_cmpR op_eq (pv 6) (pe_cs T.x_PUT) (nomark _)) (pe_op (op_addSt T (hr.mono (by decide))) (pv 4) (pv 7)) (pe_op (op_subSt T (hr.mono (by decide))) (pv 4) (pv 7)))))))))
      (pss_one (ps_ret (pe_tup (pa_cons (pv 3) (pa_cons (pv 4) pa_nil)))))), ?_⟩
    intro d hd
    refine ⟨_, rfl, _, _, rfl, ?_⟩
    have s0 : Same H (upd H d (.dT [])) := Same.new hd
    refine ⟨_, rfl, b, row, rfl, s0 _ _ hb, by omega, fun g H1 s1 hg => ?_⟩
    obtain ⟨ga, xs, rfl, nga, hga, hxs⟩ := hg
    have s01 := s0.trans s1
    have hd1 : H1 d = some (.dT []) := s1 _ _ upd_same
    have lxs : xs.length = row.length := by rw [hxs.length, spotsIn_len]
    refine ⟨ga, rfl, ⟨_, SqL.of hga⟩, for_it (walk_list (xs := xs)) (fun i σ H' => ∃ (vh : V) (o5 o6 o7 : Option V) (ks : List Sp2), σ = [some v, some u, some (.ref b), some (.ref d), some vh, o5, o6, o7] ∧ SameN (fun c => c = d) H1 H' ∧ H' d = some (.dT (ks.map entS)) ∧ TolAt (And1 (In H) d) H' ks (toldL S ((zl ps row).take i)) ∧ StAt K (And1 M d) H' vh (runS S ((linesIn ps row).take i)))
      ⟨u, none, none, none, [], rfl, SameN.refl _ _, hd1, trivial, ?_⟩ (fun i σ H' _ ⟨_, _, _, _, _, _, s2, hd2, _⟩ => SqL.of (s2 _ _ (fun z => by rw [z, hd1] at hga; cases hga) hga)) ?_ ?_⟩
    · exact StAt.mono (SameN.of s1) ((st.fr (N' := And1 M d) fun c z => z.elim .inl fun e => .inr (by rw [e]; exact hd)).mono (SameN.of s0))
    · rintro i y σ H3 H2 hi ⟨vh, o5, o6, o7, ks, rfl, s2, hd2, tol, sth⟩ ⟨rfl, hy⟩
      obtain ⟨sp, hsp, a0, y1, y2, rfl, na0, ha0, r1, r2⟩ := hxs.get' hy
      cases r1
      cases r2
      have hir : i < row.length := by omega
      have eri := List.getElem?_eq_getElem hir
      obtain ⟨h0, h1, p, l, hp, hl, hla⟩ := weave_line we eri
      have esp : sp = (row[i], cnt row[i] (row.take i)) := Option.some.inj (hsp.symm.trans (spotsIn_get eri))
      have hl1 := linesIn_get eri hla
      have hzl : (zl ps row)[i]? = some (sp, l) := by
        unfold zl
        rw [List.getElem?_map, hsp]
        show some (sp, (lineAt ps sp).getD _) = _
        rw [esp, hla]
        rfl
      have hz2 : ((zl ps row).take i).map (·.2) = (linesIn ps row).take i := by rw [List.map_take, zl_lines]
      have had : ∀ {c : Addr} {o : HO}, H1 c = some o → (∀ kvs, o ≠ .dT kvs) → c ≠ d := fun {c o} e h z => by
        rw [z, hd1] at e
        exact h _ (Option.some.inj e).symm
      have ha2 : H2 a0 = some (.tup [.int sp.1, .int sp.2]) := s2 _ _ (had ha0 fun _ z => nomatch z) ha0
      have dIn : ∀ c o, H c = some o → c ≠ d := fun c o e z => by
        rw [z, hd] at e
        cases e
      have old : ∀ c o, H c = some o → H2 c = some o := fun c o e => s2 c o (dIn c o e) (s01 c o e)
      have se2 : SeAt K N H2 v n ps := se.mono (SameN.of old)
      refine ⟨_, rfl, _, rfl, N, v, a0, n, ps, sp.1, sp.2, l, rfl, se2, ha2, by rw [esp]; exact h0, by rw [esp]; exact cnt_nonneg _ _, by rw [esp]; exact hla, fun yl ryl => ?_⟩
      obtain ⟨la, y3, rfl, nla, hla2, harg⟩ := ryl
      refine ⟨la, _, rfl, SqT.of hla2, rfl, _, _, rfl, _, _, rfl, rfl, ?_⟩
      have hS := runS_ok (S := S) (ls := (linesIn ps row).take i) sok (fun m hm => lok m (List.mem_of_mem_take hm)) hn (by rw [List.length_take]; omega)
      have hSn := runS_n S ((linesIn ps row).take i)
      have hSl := runS_len S ((linesIn ps row).take i)
      rw [List.length_take] at hSl
      have lnok := lok l (List.mem_of_getElem? hl1)
      have keep : ∀ {H' : Hp}, Same H2 H' → SameN (fun c => c = d) H1 H' := fun s => s2.trans (SameN.of s)
      cases l with
      | ask x =>
        obtain ⟨x1, x2, x3⟩ := lnok
        cases harg
        refine ⟨_, rfl, rfl, true, congrArg V.bl (decide_eq_true rfl), iteT ?_⟩
        refine ⟨_, rfl, _, rfl, And1 M d, vh, _, x, rfl, sth, hS, x1, by omega, x3, fun c H4 s4 rc => ?_⟩
        have hnot : ¬ sp ∈ ks.map (·.1) := by
          rw [tol.keys]
          intro m
          have m2 := (toldL_keys S ((zl ps row).take i)).subset m
          rw [List.map_take, zl_spots] at m2
          exact nodup_take_not (spotsIn_nodup row) hsp m2
        have hk1 : (ks.map entS).length < sizeLine := by
          have e1 := tol.length
          have e2 := toldL_len S ((zl ps row).take i)
          rw [List.length_take, zl_len] at e2
          rw [List.length_map]
          omega
        obtain ⟨cl, xs2, rfl, ncl, hcl, hxs2⟩ := rc
        refine ⟨_, rfl, _, rfl, d, _, rfl, DPut.t (k := [.inl sp.1, .inl sp.2]) (s4 _ _ hd2) (s4 _ _ ha2) hk1, ?_⟩
        refine ⟨vh, _, _, _, ks ++ [(sp, cl)], rfl, (keep s4).upd' rfl, ?_, ?_, ?_⟩
        · rw [upd_same, putK_new _ (entS_none hnot), List.map_append]
          rfl
        · rw [take_succ' hzl, toldL_snoc, hz2]
          refine TolAt.mono (SameN.upd (Or.inr rfl)) ((tol.mono (SameN.of s4)).append (.one ⟨rfl, ?_⟩))
          refine Rp.weak (N := In H2) (fun c z => ?_) (show rp (In H2) H4 (.ref cl) (pairsOf (runS S ((linesIn ps row).take i)) x.cps.toList) from ⟨cl, xs2, rfl, ncl, hcl, hxs2⟩)
          rcases z with z | z
          · obtain ⟨o, e⟩ := z
            exact ⟨o, old c o e⟩
          · rw [z]
            exact ⟨_, hd2⟩
        · rw [take_succ' hl1, runS_snoc]
          exact StAt.mono (SameN.upd (Or.inr rfl)) (sth.mono (SameN.of s4))
      | put t =>
        have rt : rp N H2 y3 t := harg
        obtain ⟨tb, rfl, ntb, htb⟩ := rt
        obtain ⟨ax, dxx, td, gd, od, rfl, _, _, hax, _⟩ := id sth
        refine ⟨_, rfl, rfl, false, congrArg V.bl (decide_eq_false fun z => ask_put (V.str.inj z)), iteF ?_⟩
        refine ⟨_, rfl, rfl, true, congrArg V.bl (decide_eq_true rfl), iteT ?_⟩
        refine ⟨_, rfl, _, rfl, ax, dxx, _, tb, _, rfl, hax, rfl, htb, And1 M d, _, tb, _, t, rfl, sth, hS, by omega, htb, TieOk.up lnok (by rw [hSn]; exact hn), fun v' H4 s4 st4 => ?_⟩
        refine ⟨v', _, _, _, ks, rfl, keep s4, s4 _ _ hd2, ?_, ?_⟩
        · rw [take_succ' hzl, toldL_snoc, hz2]
          simp only [ansL, Option.toList_none, List.map_nil, List.append_nil]
          exact tol.mono (SameN.of s4)
        · rw [take_succ' hl1, runS_snoc]
          refine st4.weak fun c z => ?_
          rcases z with z | z
          · obtain ⟨o, e⟩ := dom c z
            exact ⟨o, old c o e⟩
          · rw [z]
            exact ⟨_, hd2⟩
      | strike t =>
        have rt : rp N H2 y3 t := harg
        obtain ⟨tb, rfl, ntb, htb⟩ := rt
        obtain ⟨ax, dxx, td, gd, od, rfl, _, _, hax, _⟩ := id sth
        refine ⟨_, rfl, rfl, false, congrArg V.bl (decide_eq_false fun z => ask_strike (V.str.inj z)), iteF ?_⟩
        refine ⟨_, rfl, rfl, false, congrArg V.bl (decide_eq_false fun z => put_strike (V.str.inj z)), iteF ?_⟩
        refine ⟨_, rfl, _, rfl, ax, dxx, _, tb, _, rfl, hax, rfl, htb, And1 M d, _, tb, _, t, rfl, sth, hS, by omega, htb, TieOk.up lnok (by rw [hSn]; exact hn), fun v' H4 s4 st4 => ?_⟩
        refine ⟨v', _, _, _, ks, rfl, keep s4, s4 _ _ hd2, ?_, ?_⟩
        · rw [take_succ' hzl, toldL_snoc, hz2]
          simp only [ansL, Option.toList_none, List.map_nil, List.append_nil]
          exact tol.mono (SameN.of s4)
        · rw [take_succ' hl1, runS_snoc]
          refine st4.weak fun c z => ?_
          rcases z with z | z
          · obtain ⟨o, e⟩ := dom c z
            exact ⟨o, old c o e⟩
          · rw [z]
            exact ⟨_, hd2⟩
    · rintro σ H2 ⟨vh, o5, o6, o7, ks, rfl, s2, hd2, tol, sth⟩
      have e1 : (zl ps row).take xs.length = zl ps row := by rw [lxs, ← zl_len ps row, List.take_length]
      have e2 : (linesIn ps row).take xs.length = linesIn ps row := by rw [lxs, ← linesIn_len ps row, List.take_length]
      rw [e1] at tol
      rw [e2] at sth
      refine ⟨_, rfl, _, rfl, (by show 2 ≤ sizeLine; decide), fun p hp => ?_⟩
      have hdp : d ≠ p := ne_of_none hd2 hp
      have s3 : Same H2 (upd H2 p (.tup [.ref d, vh])) := Same.new hp
      refine k p d vh ks _ (fun c o e => ?_) upd_same (s3 _ _ hd2) ((tol.mono (SameN.of s3)).weak fun c z => .inl z) ((sth.mono (SameN.of s3)).weak fun c z => .inl z)
      have hcd : c ≠ d := fun z => by
        rw [z, hd] at e
        cases e
      exact s3 c o (s2 c o hcd (s01 c o e))
/-- what is heard: the answers by their spots, in some order -/
def spHeard (K : PySem.W.Frag) : Sp := fun vs H Q _ => ∃ (N M : Ad) (v u : V) (n : Int) (ps : List (List Ln)) (b : Addr) (row : List Int) (S : St0), vs = [v, u, .ref b] ∧ SeAt K N H v n ps ∧ PsOk n ps ∧ StAt K M H u S ∧ Dom M H ∧ S.Ok ∧ n ≤ S.n ∧ S.ts.length ≤ 100 ∧ H b = some (.lst (row.map V.int)) ∧ Weave ps row ∧
  ∀ (d : Addr) (ks ks' : List Sp2) (H' : Hp), Same H H' → H' d = some (.dT (ks'.map entS)) → ks'.Perm ks → TolAt (In H) H' ks (toldL S (zl ps row)) → Q (.ref d) H'
def spBehind (K : PySem.W.Frag) : Sp := fun vs H Q _ => ∃ (N M : Ad) (v u : V) (n : Int) (ps : List (List Ln)) (b : Addr) (row : List Int) (S : St0), vs = [v, u, .ref b] ∧ SeAt K N H v n ps ∧ PsOk n ps ∧ StAt K M H u S ∧ Dom M H ∧ S.Ok ∧ n ≤ S.n ∧ S.ts.length ≤ 100 ∧ H b = some (.lst (row.map V.int)) ∧ Weave ps row ∧
  ∀ v' H', Same H H' → StAt K M H' v' (runS S (linesIn ps row)) → Q v' H'
theorem sc_behind : FnScope ["sessions", "store", "weaving"] ["sessions", "store", "weaving"] (defScope s_behind) := ⟨rfl, rfl, rfl, by decide +kernel, rfl, by decide +kernel, by decide +kernel⟩
theorem ok_behind (T : NT K mg) : Cal P w K mg base (ga K "behind") 10 ["sessions", "store", "weaving"] (spBehind K) := by
  obtain ⟨fd, F⟩ := T.D_behind
  refine Cal.of F (F.bindsN fun _ _ _ _ _ _ us hl => match us, hl with | [_, _, _], _ => rfl) sc_behind (fun vs H Q E h => ?_) (fun cdv A outer s H vs Q E hr h => ?_)
  · obtain ⟨N, M, v, u, n, ps, b, row, S, rfl, _⟩ := h
    rfl
  · obtain ⟨N, M, v, u, n, ps, b, row, S, rfl, se, ok, st, dom, sok, hn, few, hb, we, k⟩ := h
    refine ⟨_, pss_cons (ps_expr (pe_f (ok_want_weaving T) T.g_want_weaving (hr.mono (by decide)) (pa_cons (pv 0) (pa_cons (pv 2) pa_nil))))
      (pss_cons (ps_expr (pe_f (ok_want_store T) T.g_want_store (hr.mono (by decide)) (pa_cons (pv 0) (pa_cons (pv 1) pa_nil))))
      (pss_one (ps_ret (pe_ix ix_tup (pe_f (ok_played T) T.g_played (hr.mono (by decide)) (pa_cons (pv 0) (pa_cons (pv 1) (pa_cons (pv 2) pa_nil)))) pe_int (fun _ _ => rfl))))), ?_⟩
    refine ⟨_, rfl, _, rfl, N, v, n, ps, b, row, rfl, se, ok, hb, we, fun H1 s1 => ?_⟩
    have se1 := se.mono (SameN.of s1)
    have st1 := st.mono (SameN.of s1)
    refine ⟨_, rfl, _, rfl, N, M, v, u, n, ps, S, rfl, se1, st1, hn, ?_⟩
    refine ⟨_, rfl, _, rfl, _, rfl, N, M, v, u, n, ps, b, row, S, rfl, se1, ok, st1, dom.same s1, sok, hn, few, s1 _ _ hb, we, fun p d v' ks H' s2 hp hd tol st2 => ?_⟩
    exact ⟨p, _, 1, _, rfl, rfl, SqT.of hp, atI_nat (j := 1) rfl, k v' H' (s1.trans s2) st2⟩
theorem sc_heard : FnScope ["sessions", "store", "weaving"] ["sessions", "store", "weaving"] (defScope s_heard) := ⟨rfl, rfl, rfl, by decide +kernel, rfl, by decide +kernel, by decide +kernel⟩
theorem ok_heard (T : NT K mg) : Cal P w K mg base (ga K "heard") 10 ["sessions", "store", "weaving"] (spHeard K) := by
  obtain ⟨fd, F⟩ := T.D_heard
  refine Cal.of F (F.bindsN fun _ _ _ _ _ _ us hl => match us, hl with | [_, _, _], _ => rfl) sc_heard (fun vs H Q E h => ?_) (fun cdv A outer s H vs Q E hr h => ?_)
  · obtain ⟨N, M, v, u, n, ps, b, row, S, rfl, _⟩ := h
    rfl
  · obtain ⟨N, M, v, u, n, ps, b, row, S, rfl, se, ok, st, dom, sok, hn, few, hb, we, k⟩ := h
    refine ⟨_, pss_cons (ps_expr (pe_f (ok_want_weaving T) T.g_want_weaving (hr.mono (by decide)) (pa_cons (pv 0) (pa_cons (pv 2) pa_nil))))
      (pss_cons (ps_expr (pe_f (ok_want_store T) T.g_want_store (hr.mono (by decide)) (pa_cons (pv 0) (pa_cons (pv 1) pa_nil))))
      (pss_one (ps_ret (pe_t (cr_dictSp rfl hr.units) T.b_dict (pa_cons (pe_b (cr_sortSp rfl hr.units) T.b_sorted (pa_cons (pe_bm0 PySem.F.plainAttrs_dict PySem.F.slot_dict_items PySem.F.type_dict_items mt_itemsT
        (pe_ix ix_tup (pe_f (ok_played T) T.g_played (hr.mono (by decide)) (pa_cons (pv 0) (pa_cons (pv 1) (pa_cons (pv 2) pa_nil)))) pe_int (fun _ _ => rfl))) pa_nil)) pa_nil))))), ?_⟩
    refine ⟨_, rfl, _, rfl, N, v, n, ps, b, row, rfl, se, ok, hb, we, fun H1 s1 => ?_⟩
    have se1 := se.mono (SameN.of s1)
    have st1 := st.mono (SameN.of s1)
    have lrow : row.length ≤ 9 := by rw [we.length_eq]; exact ok.len
    refine ⟨_, rfl, _, rfl, N, M, v, u, n, ps, S, rfl, se1, st1, hn, ?_⟩
    refine ⟨_, rfl, _, rfl, _, rfl, N, M, v, u, n, ps, b, row, S, rfl, se1, ok, st1, dom.same s1, sok, hn, few, s1 _ _ hb, we, fun p d v' ks H' s2 hp hd tol st2 => ?_⟩
    refine ⟨p, _, 0, _, rfl, rfl, SqT.of hp, atI_nat (j := 0) rfl, .inr (.inr (.inl ⟨rfl, .inr ⟨_, hd⟩⟩)), d, _, rfl, rfl, hd, fun it hit => ?_⟩
    have hdi : d ≠ it := ne_of_none hd hit
    have hnd : (ks.map (·.1)).Nodup := by
      rw [tol.keys]
      refine (toldL_keys S (zl ps row)).nodup ?_
      rw [zl_spots]
      exact spotsIn_nodup row
    have hlen : ks.length ≤ 1000 := by
      have e1 := tol.length
      have e2 := toldL_len S (zl ps row)
      rw [zl_len] at e2
      omega
    refine ⟨it, d, ks, rfl, upd_same, (by rw [upd_ne hdi]; exact hd), hnd, hlen, fun H4 l zs s4 hperm hl hz => ?_⟩
    refine ⟨l, zs, rfl, hl, hz, (hperm.map _).nodup_iff.mpr hnd, fun q hq => ?_⟩
    have s5 : Same H' (upd H4 q (.dT ((zs.map (·.2)).map entS))) := ((Same.new hit).trans s4).lay hq
    refine k q ks (zs.map (·.2)) _ (s1.trans (s2.trans s5)) upd_same hperm ((tol.mono (SameN.of s5)).weak fun c ⟨o, e⟩ => ⟨o, s1 c o e⟩)
end
end Net
/-! Lines and their texts: plain. -/
namespace Net
open PySem PySem.Spec PyProof.Rows L2
abbrev tl (x : Str) : List Nat := x.cps.toList
theorem len_tl (x : Str) : x.length = (tl x).length := by simp [Str.length]
theorem ext_tl {x y : Str} (h : tl x = tl y) : x = y := TL.ext_tl h
theorem tl_append (x y : Str) : tl (x ++ y) = tl x ++ tl y := TL.tl_append x y
abbrev rowS : Str := " !\"#$&'()*+,-./0123456789:;<=>?@ABCDEFGHIJKLMNOPQRSTUVWXYZ[\\]^_`abcdefghijklmnopqrstuvwxyz{|}~"
/-- what may stand in a line -/
def rowC : List Nat := tl rowS
def rowN : List Nat := [32, 33, 34, 35, 36, 38, 39, 40, 41, 42, 43, 44, 45, 46, 47, 48, 49, 50, 51, 52, 53, 54, 55, 56, 57, 58, 59, 60, 61, 62, 63, 64, 65, 66, 67, 68, 69, 70, 71, 72, 73, 74, 75, 76, 77, 78, 79, 80, 81, 82, 83, 84, 85, 86, 87, 88, 89, 90, 91, 92, 93, 94, 95, 96, 97, 98, 99, 100, 101, 102, 103, 104, 105, 106, 107, 108, 109, 110, 111, 112, 113, 114, 115, 116, 117, 118, 119, 120, 121, 122, 123, 124, 125, 126]
theorem rowC_eq : rowC = rowN := by decide +kernel
theorem rowC_mem {c : Nat} (h : 32 ≤ c) (h2 : c ≤ 126) (h3 : c ≠ 37) : c ∈ rowC := by
  have all : ∀ c : Fin 127, 32 ≤ c.val → c.val ≠ 37 → c.val ∈ rowN := by decide +kernel
  rw [rowC_eq]
  exact all ⟨c, by omega⟩ h h3
theorem rowC_low {c : Nat} (h : c ∈ rowC) : 32 ≤ c := by
  have all : ∀ c ∈ rowN, 32 ≤ c := by decide +kernel
  rw [rowC_eq] at h
  exact all c h
/-- a sign's place in the row -/
def idxOf (c : Nat) : Nat := (Builtin.Str.occurrences rowS ⟨#[c]⟩ 0 rowS.length 1).headD 0
theorem idxOf_at {c : Nat} (h : c ∈ rowC) : ∃ rest, Builtin.Str.occurrences rowS ⟨#[c]⟩ 0 rowS.length 1 = idxOf c :: rest := by
  have h1 := StrLaws.found_one rowS c
  rw [decide_eq_true (show c ∈ rowS.cps.toList from h)] at h1
  unfold idxOf
  cases e : Builtin.Str.occurrences rowS ⟨#[c]⟩ 0 rowS.length 1 with
  | nil =>
    rw [e] at h1
    cases h1
  | cons i rest => exact ⟨rest, rfl⟩
def total (x : Str) : Int := ((List.range x.length).map fun (i : Nat) => ((i : Int) + 1) * ((idxOf (((tl x)[i]?).getD 0) : Int) + 1)).sum
/-- the three digits behind a line -/
def chk (x : Str) : Str := cutS (Str.ofString (toString (1000 + total x % 997))) (some 1) none
theorem cut_from1 {z : Str} (h : 1 ≤ z.length) : tl (cutS z (some 1) none) = (tl z).drop 1 := by
  show ((z.cps.toList.drop (HT.sIx z.length 0 (some 1))).take (HT.sIx z.length z.length none - HT.sIx z.length 0 (some 1))) = _
  rw [HT.sIx_none, show (some (1 : Int)) = some ((1 : Nat) : Int) from rfl, HT.sIx_nat, Nat.min_eq_left h]
  have : (z.cps.toList.drop 1).length = z.length - 1 := by rw [List.length_drop, len_tl]
  rw [← this, List.take_length]
theorem num4 {m : Nat} (h1 : 1000 ≤ m) (h2 : m < 10000) : TL.numL m = [48 + m / 1000, 48 + m / 100 % 10, 48 + m / 10 % 10, 48 + m % 10] := by
  rw [TL.numL_step (by omega), TL.numL_step (by omega), TL.numL_step (by omega), TL.numL_lt (by omega)]
  simp only [List.cons_append, List.nil_append, List.append_assoc, List.cons.injEq, and_true]
  omega
theorem chk_tl (x : Str) : ∃ a b c, tl (chk x) = [48 + a, 48 + b, 48 + c] ∧ a < 10 ∧ b < 10 ∧ c < 10 := by
  have h0 : 0 ≤ total x % 997 := Int.emod_nonneg _ (by decide)
  have h1 : total x % 997 < 997 := Int.emod_lt_of_pos _ (by decide)
  obtain ⟨m, hm⟩ : ∃ m : Nat, (m : Int) = 1000 + total x % 997 := ⟨(1000 + total x % 997).toNat, Int.toNat_of_nonneg (by omega)⟩
  have e1 : tl (Str.ofString (toString (1000 + total x % 997))) = TL.numL m := by
    rw [← hm]
    exact TL.tl_num m
  have e2 := num4 (m := m) (by omega) (by omega)
  refine ⟨m / 100 % 10, m / 10 % 10, m % 10, ?_, by omega, by omega, by omega⟩
  unfold chk
  rw [cut_from1 (by rw [len_tl, e1, e2]; exact Nat.le_of_ble_eq_true rfl), e1, e2]
  rfl
theorem chk_len (x : Str) : (tl (chk x)).length = 3 := by
  obtain ⟨a, b, c, e, _⟩ := chk_tl x
  rw [e]
  rfl
theorem chk_dig (x : Str) : ∀ c ∈ tl (chk x), 48 ≤ c ∧ c ≤ 57 := by
  obtain ⟨a, b, c, e, h1, h2, h3⟩ := chk_tl x
  rw [e]
  intro d hd
  simp at hd
  omega
/-! ### rows -/
abbrev blank : Str := " "
abbrev allS : Str := "all"
abbrev nl : Str := "\n"
theorem tl_blank : tl blank = [32] := by decide +kernel
theorem tl_nl : tl nl = [10] := by decide +kernel
theorem tl_all : tl allS = [97, 108, 108] := by decide +kernel
def bodyT (x : Str) : Str := (x ++ blank) ++ chk x
def rowT (x : Str) : Str := bodyT x ++ nl
theorem tl_body (x : Str) : tl (bodyT x) = tl x ++ 32 :: tl (chk x) := by
  unfold bodyT
  rw [tl_append, tl_append, tl_blank, List.append_assoc]
  rfl
theorem tl_rowT (x : Str) : tl (rowT x) = tl (bodyT x) ++ [10] := by
  unfold rowT
  rw [tl_append, tl_nl]
theorem body_len (x : Str) : (bodyT x).length = x.length + 4 := by
  rw [len_tl, tl_body, List.length_append, List.length_cons, chk_len, len_tl]
theorem cut_front (x : Str) : cutS (bodyT x) none (some (-4)) = x := by
  refine ext_tl ?_
  show (((bodyT x).cps.toList.drop (HT.sIx (bodyT x).length 0 none)).take (HT.sIx (bodyT x).length (bodyT x).length (some (-4)) - HT.sIx (bodyT x).length 0 none)) = _
  have e : HT.sIx (bodyT x).length (bodyT x).length (some (-4)) = x.length := by
    unfold HT.sIx
    rw [body_len]
    simp
    omega
  rw [HT.sIx_none, e, List.drop_zero, Nat.sub_zero]
  show (tl (bodyT x)).take x.length = tl x
  rw [tl_body, len_tl, List.take_left]
theorem cut_back (x : Str) : cutS (bodyT x) (some (-4)) none = blank ++ chk x := by
  refine ext_tl ?_
  show (((bodyT x).cps.toList.drop (HT.sIx (bodyT x).length 0 (some (-4)))).take (HT.sIx (bodyT x).length (bodyT x).length none - HT.sIx (bodyT x).length 0 (some (-4)))) = _
  have e : HT.sIx (bodyT x).length 0 (some (-4)) = x.length := by
    unfold HT.sIx
    rw [body_len]
    simp
    omega
  rw [HT.sIx_none, e]
  have e2 : (bodyT x).cps.toList.drop x.length = 32 :: tl (chk x) := by
    show (tl (bodyT x)).drop x.length = _
    rw [tl_body, len_tl, List.drop_left]
  rw [e2, body_len, Nat.add_sub_cancel_left, tl_append, tl_blank]
  refine List.take_of_length_le ?_
  rw [List.length_cons, chk_len]
  exact Nat.le_refl _
/-- a line of the log -/
structure CL (x : Str) : Prop where
  l1 : 1 ≤ x.length
  l2 : x.length ≤ 200
  row : ∀ c ∈ tl x, c ∈ rowC
  fst : ∀ c, (tl x)[0]? = some c → c ≠ 32
  lst : ∀ c, (tl x)[x.length - 1]? = some c → c ≠ 32
  word : ∃ y r, Txt.split x blank = y :: r ∧ y ≠ allS
/-! ### the head of an entry of more lines -/
def headL (k : Nat) : Str := (allS ++ blank) ++ Str.ofString (toString ((k : Nat) : Int))
def numS (k : Nat) : Str := Str.ofString (toString ((k : Nat) : Int))
theorem tl_numS {k : Nat} (h : k < 10) : tl (numS k) = [48 + k] := (TL.tl_num k).trans (TL.numL_lt h)
theorem tl_head {k : Nat} (h : k < 10) : tl (headL k) = [97, 108, 108, 32, 48 + k] := by
  unfold headL
  rw [tl_append, tl_append, tl_all, tl_blank]
  show _ ++ tl (numS k) = _
  rw [tl_numS h]
  rfl
theorem split_head {k : Nat} (h : k < 10) : Txt.split (headL k) blank = [allS, numS k] := by
  have e : headL k = Txt.join blank [allS, numS k] := by
    rw [TL.join_eq]
    refine ext_tl ?_
    rw [tl_head h]
    show _ = TL.tl _
    rw [TL.tl_join]
    show _ = tl allS ++ (tl blank ++ tl (numS k))
    rw [tl_all, tl_blank, tl_numS h]
    rfl
  rw [e]
  refine TL.split_join (s := 32) (S := []) tl_blank (by decide +kernel) (by simp) fun p hp => ?_
  rcases List.mem_cons.mp hp with e1 | hp
  · rw [e1]
    show 32 ∉ tl allS
    rw [tl_all]
    decide
  · rw [List.mem_singleton.mp hp]
    show 32 ∉ tl (numS k)
    rw [tl_numS h]
    simp
    omega
end Net
namespace Net
open PySem PySem.Spec PyProof.Rows L2
/-- what is_command_line answers -/
structure Cmd (x : Str) (b : Bool) : Prop where
  l1 : 1 ≤ x.length
  l2 : x.length ≤ 200
  row : ∀ c ∈ tl x, c ∈ rowC
  fst : ∃ c, (tl x)[0]? = some c ∧ c ≠ 32
  lst : ∃ c, (tl x)[x.length - 1]? = some c ∧ c ≠ 32
  word : ∃ y r, Txt.split x blank = y :: r ∧ b = !decide (y = allS)
theorem CL.cmd {x : Str} (h : CL x) : Cmd x true := by
  have l := h.l1
  have e : x.length = (tl x).length := len_tl x
  obtain ⟨y, r, h1, h2⟩ := h.word
  refine ⟨h.l1, h.l2, h.row, ⟨_, List.getElem?_eq_getElem (by omega), h.fst _ (List.getElem?_eq_getElem (by omega))⟩, ⟨_, List.getElem?_eq_getElem (by omega), h.lst _ (List.getElem?_eq_getElem (by omega))⟩, y, r, h1, ?_⟩
  rw [decide_eq_false h2]
  rfl
theorem head_cmd {k : Nat} (h : k < 10) : Cmd (headL k) false := by
  have e : (headL k).length = 5 := by rw [len_tl, tl_head h]; rfl
  refine ⟨by omega, by omega, ?_, ⟨97, by rw [tl_head h]; rfl, by decide⟩, ⟨48 + k, by rw [tl_head h, e]; rfl, by omega⟩, allS, _, split_head h, ?_⟩
  · intro c hc
    rw [tl_head h] at hc
    simp only [List.mem_cons, List.not_mem_nil, or_false] at hc
    exact rowC_mem (by omega) (by omega) (by omega)
  · rw [decide_eq_true rfl]
    rfl
def spCmd : Sp := fun vs H Q _ => ∃ (x : Str) (b : Bool), vs = [.str x] ∧ Cmd x b ∧ ∀ H', Same H H' → Q (.bl b) H'
def spCheck : Sp := fun vs H Q _ => ∃ (x : Str), vs = [.str x] ∧ x.length ≤ 200 ∧ (∀ c ∈ tl x, c ∈ rowC) ∧ ∀ H', Same H H' → Q (.str (chk x)) H'
/-- chr -/
theorem str_ne {a b : Str} : (!decide (V.str a = V.str b)) = !decide (a = b) := by
  by_cases h : a = b
  · rw [h]
    simp
  · rw [decide_eq_false h, decide_eq_false fun e => h (V.str.inj e)]
theorem one_ne {c d : Nat} (h : c ≠ d) : (!decide (V.str (sg c) = V.str (sg d))) = true := by
  rw [str_ne, decide_eq_false fun e => h (sg_inj e)]
  rfl
theorem blank_sg : blank = sg 32 := ext_tl (by rw [tl_blank])
section
variable {P : Program} {w : World} {K : PySem.W.Frag} {mg : Str → Option Value} {base : Heap}
theorem sc_is_command_line : FnScope ["value", "sign"] ["value"] (defScope s_is_command_line) := ⟨rfl, rfl, rfl, by decide +kernel, rfl, by decide +kernel, by decide +kernel⟩
theorem ok_is_command_line (T : NT K mg) : Cal P w K mg base (ga K "is_command_line") 1 ["value"] spCmd := by
  obtain ⟨fd, F⟩ := T.D_is_command_line
  refine Cal.of F (F.bindsN fun _ _ _ _ _ _ us hl => match us, hl with | [_], _ => rfl) sc_is_command_line (fun vs H Q E h => ?_) (fun cdv A outer s H vs Q E hr h => ?_)
  · obtain ⟨x, b, rfl, _⟩ := h
    rfl
  · obtain ⟨x, b, rfl, c, k⟩ := h
    have hbig := big
    have hz : x.length ≤ sizeLine := by have := c.l2; omega
    have nd := sc_is_command_line.nd
    obtain ⟨c0, hc0, hc0'⟩ := c.fst
    obtain ⟨c1, hc1, hc1'⟩ := c.lst
    obtain ⟨y, r, hy, hb⟩ := c.word
    have l1 := c.l1
    have l2 := c.l2
    refine ⟨_, pss_cons (ps_if (PW.pt (pw_or (pt_not (pt_val (pe_b (cr_is "str") T.b_isinstance (pa_cons (pv 0) (pa_cons (pe_ty "str" T.b_str) pa_nil)))))
        (pw_or1 (pt_not (pt_chain op_le op_le pe_int (pe_b call_len_str T.b_len (pa_cons (pv 0) pa_nil)) (pe_ci T.i_LONGEST_log)))))) (pss_one (ps_ret pe_bl)) pss_nil)
      (pss_cons (ps_if (pt_not (pt_val (pe_b (cr_all rfl) T.b_all (pa_cons (pe_lc (own := [("sign", 1)]) (g := gName 1) (tt := tYes) rfl nd (pi_str (pv 0)) (blkOk_by (N := ["value", "sign"]) (sc := defScope s_is_command_line) (by decide +kernel))
        (fun _ _ _ _ _ => pg_name (i := 1) nd rfl (Or.inl rfl)) (fun _ _ _ _ _ => pts_nil) (fun _ _ _ _ _ => pe_cmpR op_in_sign (pv 1) (pe_cs T.x_ROW) rfl)) pa_nil)))) (pss_one (ps_ret pe_bl)) pss_nil)
      (pss_one (ps_ret (pe_and (pe_cmpR op_ne (pe_ix ix_str (pv 0) pe_int (fun _ _ => rfl)) (pe_cs T.x_BLANK) (nomark _))
        (pe_and (pe_cmpR op_ne (pe_ix ix_str (pv 0) (pe_un un_neg pe_int) (fun _ _ => rfl)) (pe_cs T.x_BLANK) (nomark _))
          (pe_one (pe_cmpR op_ne (pe_ix ix_list (pe_split (pv 0) (pe_cs T.x_BLANK)) pe_int (fun _ _ => rfl)) (pe_cs T.x_ALL) (nomark _)))))))), ?_⟩
    refine ⟨_, rfl, _, "str", true, rfl, .base (.str _), by decide +kernel, true, rfl, iteF ?_⟩
    refine ⟨_, rfl, _, rfl, hz, _, _, rfl, rfl, true, congrArg V.bl (decide_eq_true (show (1 : Int) ≤ (x.length : Int) by omega)), iteT ⟨_, _, rfl, rfl, true, congrArg V.bl (decide_eq_true (show (x.length : Int) ≤ 200 by omega)), iteF ?_⟩⟩
    refine ⟨_, rfl, _, rfl, fun D hD => ?_⟩
    refine lc_rp (β := Bool) walk_str (List.replicate x.length true) (by simp [Str.length]) (by simpa [Str.length] using hz) (fun _ => False) hD (fun _ _ => trivial) yStr_same (fun j b' y' H2 H3 K1 hb' s1 _ hy' k1 => ?_) (fun H2 acc s1 ha r' => ?_)
    · obtain ⟨rfl, c', hc', rfl⟩ := hy'
      have hm : c' ∈ tl x := List.mem_of_getElem? (by rw [Array.getElem?_toList]; exact hc')
      refine ⟨wipe1 _ _ _, _, rfl, c', _, rfl, rfl, ?_⟩
      have e1 : b' = true := List.eq_of_mem_replicate (List.mem_of_getElem? hb')
      exact k1 _ _ (Same.refl _) (congrArg V.bl (show decide (c' ∈ tl rowS) = b' from by rw [decide_eq_true (show c' ∈ tl rowS from c.row c' hm), e1]))
    · refine ⟨D, _, rfl, .of (by rw [← bls_of r']; exact ha), ?_⟩
      rw [show (List.replicate x.length true).all id = true by simp]
      refine ⟨true, rfl, iteF ?_⟩
      refine ⟨_, rfl, x, 0, c0, rfl, rfl, hz, atI_nat (j := 0) hc0, rfl, true, congrArg V.bl (by
        show (!decide (V.str (sg c0) = V.str blank)) = true
        rw [blank_sg]
        exact one_ne hc0'), iteT ?_⟩
      refine ⟨_, rfl, 1, rfl, x, -1, c1, rfl, rfl, hz, ?_, rfl, true, congrArg V.bl (by
        show (!decide (V.str (sg c1) = V.str blank)) = true
        rw [blank_sg]
        exact one_ne hc1'), iteT ?_⟩
      · unfold atI ixN
        rw [if_neg (by decide), if_pos (by rw [← len_tl]; omega)]
        show x.cps.toList[(-1 + ((tl x).length : Int)).toNat]? = some c1
        rw [← len_tl, show (-1 + (x.length : Int)).toNat = x.length - 1 from by omega]
        exact hc1
      · refine ⟨_, rfl, ⟨_, rfl⟩, x, blank, rfl, rfl, rfl, by omega, fun p hp => ?_⟩
        refine ⟨p, _, 0, _, rfl, rfl, SqL.of upd_same, atI_nat (j := 0) (by rw [hy]; rfl), rfl, ?_⟩
        show Q (V.bl (!decide (V.str y = V.str allS))) _
        rw [str_ne, ← hb]
        exact k _ (s1.lay hp)
theorem sc_check_by : FnScope ["line", "total", "at", "sign"] ["line"] (defScope s_check_by) := ⟨rfl, rfl, rfl, by decide +kernel, rfl, by decide +kernel, by decide +kernel⟩
end
end Net
/-! enumerate of a tuple, of a text. -/
namespace EnX
open PySem PyProof.Rows PySem.Calls
open AutoSeq1 (wpAny_loadPart')
theorem meets_newT (l : Addr) (items : Array Value) (n : Nat) (dct : Option Addr) (sl : Array (Option Value)) :
    Meets (Builtin.«enumerate.__new__» ⟨[.type "enumerate", .ref l], []⟩) (fun _ R s => s.heap.get? l = some { cls := .type "tuple", dict := dct, data := .seq items n, slots := sl } ∧
      R (.ok (.ret (.ref (s.heap.push { cls := .type "tuple_iterator", data := .fields #[.ref l, .int 0 0] }).objs.size)))
        { s with heap := (s.heap.push { cls := .type "tuple_iterator", data := .fields #[.ref l, .int 0 0] }).push { cls := .type "enumerate", data := .fields #[.none, .bool false, .ref s.heap.objs.size, rawInt 0, .none, .none] } }) :=
  .of_wp fun prog w A R s h => by
    obtain ⟨hp, g, d, tk, os⟩ := s; obtain ⟨hl, h⟩ := h
    have hsub := sub_enumerate
    have hL : Heap.IsTuple (Shared.heap ⟨hp, g, d, tk, os⟩) l items := ⟨_, hl, rfl, n, rfl⟩
    wp_walk using wpAny_loadPart' hl
    refine wpAny_stack_any fun st => wpAny_pure ?_
    split
    · rename_i c _ _ _ _ _
      cases (c == Value.type "enumerate")
      · wp_walk using wpAny_loadPart' hl, wpAny_pyIter_tuple hL
        exact ⟨_, rfl, h⟩
      · wp_walk using wpAny_loadPart' hl, wpAny_pyIter_tuple hL
        exact ⟨_, rfl, h⟩
    · wp_walk using wpAny_loadPart' hl, wpAny_pyIter_tuple hL
      exact ⟨_, rfl, h⟩
section
variable {prog : Program} {w : World} {A : Around} {E : Value → Shared → Prop} {s : Shared}
theorem call_enumT {l : Addr} {items : Array Value} {Q : Value → Shared → Prop} (hL : s.heap.IsTuple l items)
    (h : ∀ h', IsEnum h' (s.heap.objs.size + 1) s.heap.objs.size 0 .none → h'.IsTupleIter s.heap.objs.size l 0 → h'.objs.size = s.heap.objs.size + 2 →
      (∀ b o, s.heap.get? b = some o → h'.get? b = some o) → Q (.ref (s.heap.objs.size + 1)) { s with heap := h' }) :
    wpAny (model prog w) A (call (.type "enumerate") [.ref l]) Q E s := by
  obtain ⟨⟨c, dct, dt, sl⟩, hl, hc, n, hd⟩ := hL
  replace hc : c = .type "tuple" := hc
  replace hd : dt = .seq items n := hd
  subst hc hd
  refine callType_new F.called_enumerate (by decide) (F.typeCall_enumerate_1 _) (F.newCall_enumerate_1 _) (fun obj => F.args_object_init_2 obj _) F.entry_enumerate_new
    (meets_newT l items n dct sl) ⟨hl, ?_⟩
  have hz : (s.heap.push { cls := .type "tuple_iterator", data := .fields #[.ref l, .int 0 0] }).objs.size = s.heap.objs.size + 1 := Heap.size_push ..
  show _ ∧ _
  rw [hz]
  have he : IsEnum ((s.heap.push { cls := .type "tuple_iterator", data := .fields #[.ref l, .int 0 0] }).push
      { cls := .type "enumerate", data := .fields #[.none, .bool false, .ref s.heap.objs.size, rawInt 0, .none, .none] }) (s.heap.objs.size + 1) s.heap.objs.size 0 .none := by
    have := Heap.get?_push_size (s.heap.push { cls := .type "tuple_iterator", data := .fields #[.ref l, .int 0 0] })
      (o := { cls := .type "enumerate", data := .fields #[.none, .bool false, .ref s.heap.objs.size, rawInt 0, .none, .none] }) rfl
    rw [hz] at this; exact this
  refine ⟨⟨_, he, rfl⟩, h _ he ⟨_, Heap.get?_push_of_some _ (Heap.get?_push_size _ rfl), rfl, rfl⟩ (by rw [Heap.size_push, hz]) fun b o x => Heap.get?_push_of_some _ (Heap.get?_push_of_some _ x)⟩
end
end EnX
namespace Net
open PySem PySem.Spec PyProof.Rows L2
/-- the tuple at a, each item in a new pair with its place -/
def Itet (K : PySem.W.Frag) (a : Addr) : It :=
  ⟨fun i H => ∃ (xs : List V) (x : V), SqT K H a xs ∧ xs[i]? = some x, fun i H v H' => ∃ T x, v = .ref T ∧ H T = none ∧ H' = upd H T (.tup [.int (i : Nat), x]) ∧ ∀ xs, SqT K H a xs → xs[i]? = some x, fun i H => ∃ xs : List V, SqT K H a xs ∧ xs.length = i⟩
/-- the signs of z -/
def Ites (z : Str) : It :=
  ⟨fun i _ => i < z.cps.size, fun i H v H' => ∃ T c, v = .ref T ∧ H T = none ∧ H' = upd H T (.tup [.int (i : Nat), .str ⟨#[c]⟩]) ∧ z.cps[i]? = some c, fun i _ => z.cps.size = i⟩
theorem turn_enumT {P : Program} {w : World} {K : PySem.W.Frag} {elts : List Expr} {kk : Nat} {tpos : Pos} (a e it : Addr) :
    Turn P w K (.Tuple elts kk tpos) (Itet K a) [e, it] e (fun i h => (∃ old, IsEnum h e it ((i : Nat) : Int) old) ∧ h.IsTupleIter it a i ∧ e ≠ it) where
  mem := by simp
  obj := fun i h st b hb => by
    obtain ⟨⟨old, he⟩, ⟨o, ho, hc, hd⟩, _⟩ := st
    have e' : b = e ∨ b = it := by simpa using hb
    rcases e' with z | z
    · rw [z]; exact ⟨_, he, fun v q => nomatch q⟩
    · rw [z]; exact ⟨o, ho, fun v q => by rw [hd] at q; cases q⟩
  keep := fun i h h' st k => let ⟨⟨old, he⟩, hi, hne⟩ := st; ⟨⟨old, k e (by simp) _ he⟩, hi.at fun o q => k it (by simp) o q, hne⟩
  item := by
    intro X hP hw hK hc i pins s σ H E I hf st hg
    subst hP hw hK
    obtain ⟨⟨old, he⟩, hit, hne⟩ := st
    obtain ⟨xs, x, hq, hx⟩ := hg
    obtain ⟨its, rv, p, hz⟩ := I.tuple hq
    obtain ⟨u, hu, ru⟩ := rv.get hx
    have hel : e < s.heap.objs.size := Heap.lt_size he
    have hil : it < s.heap.objs.size := by obtain ⟨_, q, _⟩ := hit; exact Heap.lt_size q
    have hai : a ≠ it := fun z => by
      obtain ⟨o1, q1, c1, _⟩ := hit
      obtain ⟨o2, q2, c2, _⟩ := (show s.heap.IsTuple a its.toArray from p)
      rw [z, q1] at q2
      cases q2
      rw [c1] at c2
      exact absurd (Value.type.inj c2) (by decide)
    have hae : e ≠ a := fun z => by
      obtain ⟨o2, q2, c2, _⟩ := (show s.heap.IsTuple a its.toArray from p)
      rw [← z, he] at q2
      cases q2
      exact absurd (Value.type.inj c2) (by decide)
    have hu2 : its.toArray[i]? = some u := by simpa using hu
    have hlt : i < its.toArray.size := (Array.getElem?_eq_some_iff.mp hu2).1
    refine wpAny_pyNext_enum_itemD (Draws.tuple (A := X.A.in1) (I.ok.hd hc) it a hai its.toArray) he ⟨hit, p⟩ hlt hne (by simp [hne, hae]) fun x' h' tk hP ho hst' hT hsz hk => ?_
    cases (hP.symm.trans hu2)
    refine ⟨_, rfl, wpAny_letOwnedTupleGo_enum (s := { s with heap := h', toks := tk + 1 }) ho fun h'' he' sb => ?_⟩
    have hT2 : h''.get? s.heap.objs.size = some { cls := .type "tuple", data := .seq #[.int i tk, u] } := (sb.2 _ (Nat.ne_of_gt hel)).trans hT
    have new : ObjOk X.prog X.w (upd H s.heap.objs.size (.tup [.int (i : Nat), x])) h'' s.heap.objs.size (.tup [.int (i : Nat), x]) :=
      ⟨by show 2 ≤ sizeLine; decide, [.int i tk, u], .cons ⟨_, rfl⟩ (.cons ru .nil), ⟨_, hT2, rfl, _, rfl⟩⟩
    have I1 : Inv X pins σ (upd H s.heap.objs.size (.tup [.int (i : Nat), x])) { s with heap := h'', toks := tk + 1 } :=
      I.turnedNew (ch := [e, it]) (fun b ob hb q => (sb.2 b (fun z => hb (by simp [z]))).trans (hk b ob (fun z => hb (by simp [z])) (fun z => hb (by simp [z])) q)) hf (Nat.le_refl _) new
    refine ⟨.ref s.heap.objs.size, _, I1, rfl, ⟨_, x, rfl, I.hok.fresh (Nat.le_refl _), rfl, fun ys hy => by rw [I.tuple_inj hy hq]; exact hx⟩, ⟨⟨u, ?_⟩, hst'.1.at fun o q => (sb.2 it (Ne.symm hne)).trans q, hne⟩, fun b hb => ?_⟩
    · have e1 : ((i + 1 : Nat) : Int) = (i : Int) + 1 := by omega
      rw [e1]; exact he'
    · have hb' : b < s.heap.objs.size := by
        have e' : b = e ∨ b = it := by simpa using hb
        rcases e' with z | z
        · rw [z]; exact hel
        · rw [z]; exact hil
      rw [upd_ne (Nat.ne_of_lt hb')]
      exact (hf b hb).1
  done := by
    intro X hP hw hK hc i pins s σ H E I hf st hg
    subst hP hw hK
    obtain ⟨⟨old, he⟩, hit, hne⟩ := st
    obtain ⟨xs, hq, hx⟩ := hg
    obtain ⟨its, rv, p, hz⟩ := I.tuple hq
    obtain ⟨f0, f1, f2, f3, f4, f5⟩ := hf it (by simp)
    have hl := rv.length
    have hai : a ≠ it := fun z => by
      obtain ⟨o1, q1, c1, _⟩ := hit
      obtain ⟨o2, q2, c2, _⟩ := (show s.heap.IsTuple a its.toArray from p)
      rw [z, q1] at q2
      cases q2
      rw [c1] at c2
      exact absurd (Value.type.inj c2) (by decide)
    have hii : i = its.toArray.size := by
      rw [List.size_toArray]
      omega
    rw [hii] at hit he
    exact wpAny_pyNext_enum_endD (Draws.tuple (A := X.A.in1) (I.ok.hd hc) it a hai its.toArray) he ⟨hit, p⟩ fun h' eb => ⟨rfl, I.turned (t' := s.toks) (fun b o hb q => eb b o hb q) f0 f1 f3 f4 f5⟩
  self := fun A i s Q E st h => let ⟨⟨_, he⟩, _⟩ := st; wpAny_pyIter_enum he h
theorem turn_enumS {P : Program} {w : World} {K : PySem.W.Frag} {elts : List Expr} {kk : Nat} {tpos : Pos} (z : Str) (t : Tok) (e it : Addr) :
    Turn P w K (.Tuple elts kk tpos) (Ites z) [e, it] e (fun i h => (∃ old, IsEnum h e it ((i : Nat) : Int) old) ∧ h.IsStrIter it (strIterType z) z t i ∧ e ≠ it) where
  mem := by simp
  obj := fun i h st b hb => by
    obtain ⟨⟨old, he⟩, ⟨o, ho, hc, hd⟩, _⟩ := st
    have e' : b = e ∨ b = it := by simpa using hb
    rcases e' with z | z
    · rw [z]; exact ⟨_, he, fun v q => nomatch q⟩
    · rw [z]; exact ⟨o, ho, fun v q => by rw [hd] at q; cases q⟩
  keep := fun i h h' st k => let ⟨⟨old, he⟩, ⟨o, ho, r⟩, hne⟩ := st; ⟨⟨old, k e (by simp) _ he⟩, ⟨o, k it (by simp) o ho, r⟩, hne⟩
  item := by
    intro X hP hw hK hc i pins s σ H E I hf st hg
    subst hP hw hK
    obtain ⟨⟨old, he⟩, hit, hne⟩ := st
    have hel : e < s.heap.objs.size := Heap.lt_size he
    have hil : it < s.heap.objs.size := by obtain ⟨_, q, _⟩ := hit; exact Heap.lt_size q
    refine wpAny_pyNext_enum_itemD (Draws.text (A := X.A.in1) (I.ok.hd hc) it z t) he hit hg hne (by simp [hne]) fun x' h' tk hP ho hst' hT hsz hk => ?_
    obtain ⟨c, u, hc1, rfl⟩ := hP
    refine ⟨_, rfl, wpAny_letOwnedTupleGo_enum (s := { s with heap := h', toks := tk + 1 }) ho fun h'' he' sb => ?_⟩
    have hT2 : h''.get? s.heap.objs.size = some { cls := .type "tuple", data := .seq #[.int i tk, .str ⟨#[c]⟩ u] } := (sb.2 _ (Nat.ne_of_gt hel)).trans hT
    have new : ObjOk X.prog X.w (upd H s.heap.objs.size (.tup [.int (i : Nat), .str ⟨#[c]⟩])) h'' s.heap.objs.size (.tup [.int (i : Nat), .str ⟨#[c]⟩]) :=
      ⟨by show 2 ≤ sizeLine; decide, [.int i tk, .str ⟨#[c]⟩ u], .cons ⟨_, rfl⟩ (.cons ⟨_, rfl⟩ .nil), ⟨_, hT2, rfl, _, rfl⟩⟩
    have I1 : Inv X pins σ (upd H s.heap.objs.size (.tup [.int (i : Nat), .str ⟨#[c]⟩])) { s with heap := h'', toks := tk + 1 } :=
      I.turnedNew (ch := [e, it]) (fun b ob hb q => (sb.2 b (fun z => hb (by simp [z]))).trans (hk b ob (fun z => hb (by simp [z])) (fun z => hb (by simp [z])) q)) hf (Nat.le_refl _) new
    obtain ⟨o5, q5, r5⟩ := hst'
    refine ⟨.ref s.heap.objs.size, _, I1, rfl, ⟨_, c, rfl, I.hok.fresh (Nat.le_refl _), rfl, hc1⟩, ⟨⟨.str ⟨#[c]⟩ u, ?_⟩, ⟨o5, (sb.2 it (Ne.symm hne)).trans q5, r5⟩, hne⟩, fun b hb => ?_⟩
    · have e1 : ((i + 1 : Nat) : Int) = (i : Int) + 1 := by omega
      rw [e1]; exact he'
    · have hb' : b < s.heap.objs.size := by
        have e' : b = e ∨ b = it := by simpa using hb
        rcases e' with z | z
        · rw [z]; exact hel
        · rw [z]; exact hil
      rw [upd_ne (Nat.ne_of_lt hb')]
      exact (hf b hb).1
  done := by
    intro X hP hw hK hc i pins s σ H E I hf st hg
    subst hP hw hK
    obtain ⟨⟨old, he⟩, hit, hne⟩ := st
    obtain ⟨f0, f1, f2, f3, f4, f5⟩ := hf it (by simp)
    rw [← show z.cps.size = i from hg] at hit he
    exact wpAny_pyNext_enum_endD (Draws.text (A := X.A.in1) (I.ok.hd hc) it z t) he hit fun h' eb => ⟨rfl, I.turned (t' := s.toks) (fun b o hb q => eb b o hb q) f0 f1 f3 f4 f5⟩
  self := fun A i s Q E st h => let ⟨⟨_, he⟩, _⟩ := st; wpAny_pyIter_enum he h
def iEnumT (K : PySem.W.Frag) (ta : TA) : TI := fun σ H R => ta σ H fun vs H1 => ∃ a xs, vs = [.ref a] ∧ SqT K H1 a xs ∧ R (Itet K a) H1
def iEnumS (ta : TA) : TI := fun σ H R => ta σ H fun vs H1 => ∃ z, vs = [.str z] ∧ R (Ites z) H1
section
variable {X : Cx} {e : Expr} {ta : TA} {p pos tpos : Pos} {elts : List Expr} {kk : Nat}
theorem pi_enumT (hg : Gl X "enumerate") (hm : X.mg "enumerate" = none) (ha : PA X [e] ta) (hs : starEach [e] X.env = [(false, eval e X.env)] := by rfl) :
    PI X (.Tuple elts kk tpos) (.Call (.Name "enumerate" p) [e] [] pos) (iEnumT X.K ta) := by
  refine ⟨fun pins s σ H R I h => ?_⟩
  refine Call_ (ld_blt I hg hm boot_enumerate (PyProof.Rows.callWith_type1 (thn (ha.run pos pins s σ H _ I h) fun us s1 ⟨vs, H1, I1, r1, q1⟩ => ?_) hs rfl))
  obtain ⟨a, xs, ex, hq, q⟩ := q1
  subst ex
  cases r1 with
  | cons r rr =>
    cases rr
    cases r
    obtain ⟨its, rv, p', hz⟩ := I1.tuple hq
    refine EnX.call_enumT (show s1.heap.IsTuple a its.toArray from p') fun h' he hit hsz hk => wpAny_pyIter_enum he ?_
    have I2 : Inv X pins σ H1 { s1 with heap := h' } := I1.kept (t' := s1.toks) hk
    refine ⟨s1.heap.objs.size + 1, [s1.heap.objs.size + 1, s1.heap.objs.size], _, _, H1, rfl, I2, turn_enumT a (s1.heap.objs.size + 1) s1.heap.objs.size, ⟨⟨.none, he⟩, hit, Nat.succ_ne_self _⟩, fun b hb => ?_, q⟩
    have e' : b = s1.heap.objs.size + 1 ∨ b = s1.heap.objs.size := by simpa using hb
    have hle : s1.heap.objs.size ≤ b := by
      rcases e' with z | z
      · rw [z]; exact Nat.le_add_right _ _
      · rw [z]; exact Nat.le_refl _
    exact I1.fpOk hle (I1.hok.fresh hle)
theorem pi_enumS (hg : Gl X "enumerate") (hm : X.mg "enumerate" = none) (ha : PA X [e] ta) (hs : starEach [e] X.env = [(false, eval e X.env)] := by rfl) :
    PI X (.Tuple elts kk tpos) (.Call (.Name "enumerate" p) [e] [] pos) (iEnumS ta) := by
  refine ⟨fun pins s σ H R I h => ?_⟩
  refine Call_ (ld_blt I hg hm boot_enumerate (PyProof.Rows.callWith_type1 (thn (ha.run pos pins s σ H _ I h) fun us s1 ⟨vs, H1, I1, r1, q1⟩ => ?_) hs rfl))
  obtain ⟨z, ex, q⟩ := q1
  subst ex
  cases r1 with
  | cons r rr =>
    cases rr
    obtain ⟨t, rfl⟩ := r
    refine call_enumerate_str fun h' he hit hsz hk => wpAny_pyIter_enum he ?_
    have I2 : Inv X pins σ H1 { s1 with heap := h' } := I1.kept (t' := s1.toks) hk
    refine ⟨s1.heap.objs.size + 1, [s1.heap.objs.size + 1, s1.heap.objs.size], _, _, H1, rfl, I2, turn_enumS z t (s1.heap.objs.size + 1) s1.heap.objs.size, ⟨⟨.none, he⟩, hit, Nat.succ_ne_self _⟩, fun b hb => ?_, q⟩
    have e' : b = s1.heap.objs.size + 1 ∨ b = s1.heap.objs.size := by simpa using hb
    have hle : s1.heap.objs.size ≤ b := by
      rcases e' with z | z
      · rw [z]; exact Nat.le_add_right _ _
      · rw [z]; exact Nat.le_refl _
    exact I1.fpOk hle (I1.hok.fresh hle)
end
theorem walk_enumT {K : PySem.W.Frag} {a : Addr} {xs : List V} : Walk (Itet K a) xs.length (fun H => SqT K H a xs) (YPair (fun i => some (.int (i : Nat))) (fun i => xs[i]?)) := by
  refine ⟨fun i _ hi q => ⟨xs, xs[i], q, by simp [hi]⟩, fun _ q => ⟨xs, q, rfl⟩, fun i H v H' _ q y => ?_⟩
  obtain ⟨T, x, h1, h2, h3, h4⟩ := y
  exact ⟨T, .int (i : Nat), x, h1, h2, h3, rfl, h4 xs q⟩
theorem walk_enumS {z : Str} : Walk (Ites z) z.cps.size (fun _ => True) (YPair (fun i => some (.int (i : Nat))) (fun i => (z.cps[i]?).map fun c => .str ⟨#[c]⟩)) := by
  refine ⟨fun i _ hi _ => hi, fun _ _ => rfl, fun i H v H' _ q y => ?_⟩
  obtain ⟨T, c, h1, h2, h3, h4⟩ := y
  exact ⟨T, .int (i : Nat), .str ⟨#[c]⟩, h1, h2, h3, rfl, (show (z.cps[i]?).map (fun c => V.str ⟨#[c]⟩) = some (.str ⟨#[c]⟩) by rw [h4]; rfl)⟩
end Net
namespace Net
open PySem PySem.Spec PyProof.Rows L2
/-! ### entries -/
def EnOk : En → Prop
  | .inl x => CL x
  | .inr t => 1 ≤ t.items.length ∧ t.items.length ≤ 9 ∧ ∀ x ∈ t.items, CL x
def linesE : En → List Str
  | .inl x => [x]
  | .inr t => t.items
def checkedE : En → List Str
  | .inl x => [x]
  | .inr t => headL t.items.length :: t.items
/-- what may stand ahead of its digits -/
structure LR (x : Str) : Prop where
  l1 : 1 ≤ x.length
  l2 : x.length ≤ 200
  row : ∀ c ∈ tl x, c ∈ rowC
theorem Cmd.lr {x : Str} {b : Bool} (h : Cmd x b) : LR x := ⟨h.l1, h.l2, h.row⟩
theorem CL.lr {x : Str} (h : CL x) : LR x := ⟨h.l1, h.l2, h.row⟩
theorem checked_lr {e : En} (h : EnOk e) : ∀ x ∈ checkedE e, LR x := fun x hx => by
  cases e with
  | inl y =>
    rw [List.mem_singleton.mp hx]
    exact CL.lr h
  | inr t =>
    rcases List.mem_cons.mp hx with e | m
    · rw [e]
      exact (head_cmd (by have := h.2.1; omega)).lr
    · exact (h.2.2 x m).lr
def spIsEntry : Sp := fun vs H Q _ => ∃ (N : Ad) (v : V) (e : En), vs = [v] ∧ rp N H v e ∧ EnOk e ∧ ∀ H', Same H H' → Q (.bl true) H'
/-- a new list of an entry's lines -/
def spLinesOf (f : En → List Str) : Sp := fun vs H Q _ => ∃ (N : Ad) (v : V) (e : En), vs = [v] ∧ rp N H v e ∧ EnOk e ∧ ∀ D H', H D = none → Same H H' → H' D = some (.lst ((f e).map V.str)) → Q (.ref D) H'
def spUnchecked : Sp := fun vs H Q _ => ∃ x : Str, vs = [.str (bodyT x)] ∧ LR x ∧ ∀ H', Same H H' → Q (.str x) H'
def spHowMany : Sp := fun vs H Q _ => ∃ k : Nat, vs = [.str (headL k)] ∧ 1 ≤ k ∧ k ≤ 9 ∧ ∀ H', Same H H' → Q (.int (k : Int)) H'
theorem log_small {i : Int} (h0 : 0 ≤ i) (h1 : i < 100000) : i.natAbs.log2 < 1920 := by
  have h2 : i.natAbs < 100000 := by omega
  by_cases h3 : i.natAbs = 0
  · rw [h3]
    decide
  · have h4 : i.natAbs.log2 < 17 := (Nat.log2_lt h3).mpr (by omega)
    omega
section
variable {P : Program} {w : World} {K : PySem.W.Frag} {mg : Str → Option Value} {base : Heap}
theorem ok_check_by (T : NT K mg) : Cal P w K mg base (ga K "check_by") 1 ["line"] spCheck := by
  obtain ⟨fd, F⟩ := T.D_check_by
  refine Cal.of F (F.bindsN fun _ _ _ _ _ _ us hl => match us, hl with | [_], _ => rfl) sc_check_by (fun vs H Q E h => ?_) (fun cdv A outer s H vs Q E hr h => ?_)
  · obtain ⟨x, rfl, _⟩ := h
    rfl
  · obtain ⟨x, rfl, l2, row, k⟩ := h
    have nd := sc_check_by.nd
    have hbig := big
    refine ⟨_, pss_cons (ps_set (i := 1) nd rfl (Or.inl rfl) (pe_b (cr_sum rfl) T.b_sum (pa_cons (pe_lc (own := [("at", 2), ("sign", 3)]) (g := gTup K 2 (gCons (gName 2) (gCons (gName 3) gNil))) (tt := tYes)
        (te := tOp (rI CMul fun i j => .int (i * j)) (tOp (rI0 fun i j => .int (i + j)) (tVar 2) (tC (.int 1))) (tOp (rI0 fun i j => .int (i + j)) (tM1 (fun x xs H Q => ∃ a b i rest, x = .str a ∧ xs = [.str b] ∧ Builtin.Str.occurrences a b 0 a.length 1 = i :: rest ∧ Q (.int (i : Nat)) H) (tC (.str rowS)) (tVar 3)) (tC (.int 1)))) rfl nd (pi_enumS (by rfl) T.b_enumerate (pa_cons (pv 0) pa_nil))
        (blkOk_by (N := ["line", "total", "at", "sign"]) (sc := defScope s_check_by) (by decide +kernel))
        (fun _ _ _ _ _ => pg_tup rfl (pgs_cons (pg_name (i := 2) nd rfl (Or.inl rfl)) (pgs_cons (pg_name (i := 3) nd rfl (Or.inl rfl)) pgs_nil))) (fun _ _ _ _ _ => pts_nil)
        (fun _ _ _ _ _ => pe_op op_mul (pe_op op_add (pv 2) pe_int) (pe_op op_add (pe_m1 PySem.F.slot_str_index PySem.F.type_str_index mt_sindex (pe_cs T.x_ROW) (pv 3)) pe_int))) pa_nil)))
      (pss_one (ps_ret (pe_slice sl_str (pe_t call_str_int T.b_str (pa_cons (pe_op op_add pe_int (pe_op op_mod (pe_t call_int1 T.b_int (pa_cons (pv 1) pa_nil)) (pe_ci T.i_PRIME))) pa_nil)) (po_some pe_int) po_none))), ?_⟩
    refine ⟨_, rfl, x, rfl, fun D hD => ?_⟩
    have hl : x.length = x.cps.size := rfl
    refine lc_rp (β := Int) walk_enumS ((List.range x.length).map fun (i : Nat) => ((i : Int) + 1) * ((idxOf (((tl x)[i]?).getD 0) : Int) + 1)) (by rw [List.length_map, List.length_range]; exact hl) (by omega) (fun _ => False) hD (fun _ _ => trivial) yPair_same (fun j b y H3 H4 K1 hb s1 _ hy k1 => ?_) (fun H2 acc s1 hacc r => ?_)
    · obtain ⟨p, y1, y2, rfl, hp, rfl, e1, e2⟩ := hy
      replace e2 : (x.cps[j]?).map (fun c => V.str ⟨#[c]⟩) = some y2 := e2
      cases (show some (V.int ((j : Nat) : Int)) = some y1 from e1)
      cases hc : x.cps[j]? with
      | none =>
        rw [hc] at e2
        cases e2
      | some c =>
        rw [hc] at e2
        cases e2
        have hc2 : (tl x)[j]? = some c := by rw [Array.getElem?_toList]; exact hc
        have hjl : j < x.length := by rw [len_tl]; exact (List.getElem?_eq_some_iff.mp hc2).1
        rw [List.getElem?_map, List.getElem?_range hjl] at hb
        have hb2 : b = ((j : Int) + 1) * ((idxOf c : Int) + 1) := by
          have := Option.some.inj hb
          rw [← this]
          show ((j : Int) + 1) * ((idxOf (((tl x)[j]?).getD 0) : Int) + 1) = _
          rw [hc2]
          rfl
        obtain ⟨rest, hidx⟩ := idxOf_at (row c (List.mem_of_getElem? hc2))
        refine ⟨p, _, rfl, SqT.of upd_same, rfl, _, _, rfl, _, _, rfl, rfl, rfl, ?_⟩
        refine ⟨_, rfl, (j : Int), 1, rfl, rfl, ⟨_, rfl⟩, _, rfl, rowS, sg c, idxOf c, rest, rfl, rfl, hidx, (idxOf c : Int), 1, rfl, rfl, _, _, rfl, rfl, .inl ⟨by omega, by omega⟩, k1 _ _ (Same.refl _) ?_⟩
        rw [hb2]
        rfl
    · refine ⟨D, _, rfl, .of (by rw [← ints_of r]; exact hacc), ?_⟩
      have h0 : 0 ≤ total x % 997 := Int.emod_nonneg _ (by decide)
      have h1 : total x % 997 < 997 := Int.emod_lt_of_pos _ (by decide)
      refine ⟨_, rfl, .inl ⟨total x, rfl, total x, 997, rfl, rfl, (by show (0 : Int) < 997; decide), 1000, _, rfl, rfl, _, rfl, log_small (by omega) (by omega), _, rfl, _, rfl, ?_, k _ s1⟩⟩
      obtain ⟨m, hm⟩ : ∃ m : Nat, (m : Int) = 1000 + total x % 997 := ⟨(1000 + total x % 997).toNat, Int.toNat_of_nonneg (by omega)⟩
      rw [len_tl, ← hm, show tl (Str.ofString (toString ((m : Nat) : Int))) = TL.numL m from TL.tl_num m, num4 (by omega) (by omega)]
      show 4 ≤ sizeLine
      decide
theorem sc_is_entry : FnScope ["value", "line"] ["value"] (defScope s_is_entry) := ⟨rfl, rfl, rfl, by decide +kernel, rfl, by decide +kernel, by decide +kernel⟩
theorem ok_is_entry (T : NT K mg) : Cal P w K mg base (ga K "is_entry") 2 ["value"] spIsEntry := by
  obtain ⟨fd, F⟩ := T.D_is_entry
  refine Cal.of F (F.bindsN fun _ _ _ _ _ _ us hl => match us, hl with | [_], _ => rfl) sc_is_entry (fun vs H Q E h => ?_) (fun cdv A outer s H vs Q E hr h => ?_)
  · obtain ⟨N, v, e, rfl, _⟩ := h
    rfl
  · obtain ⟨N, v, e, rfl, re, ok, k⟩ := h
    have nd := sc_is_entry.nd
    refine ⟨_, pss_cons (ps_if (pt_val (pe_b (cr_is "tuple") T.b_isinstance (pa_cons (pv 0) (pa_cons (pe_ty "tuple" T.b_tuple) pa_nil))))
        (pss_one (ps_ret (pe_and (pe_cmpR op_gt (pe_b call_len_seq T.b_len (pa_cons (pv 0) pa_nil)) pe_int (nomark _)) (pe_one (pe_b (cr_all rfl) T.b_all (pa_cons (pe_lc (own := [("line", 1)]) (g := gName 1) (tt := tYes) rfl nd (pi_tup (pv 0)) (blkOk_by (N := ["value", "line"]) (sc := defScope s_is_entry) (by decide +kernel))
          (fun _ _ _ _ _ => pg_name (i := 1) nd rfl (Or.inl rfl)) (fun _ _ _ _ _ => pts_nil) (fun _ _ _ _ _ => pe_f (ok_is_command_line T) T.g_is_command_line (hr.mono (by decide)) (pa_cons (pv 1) pa_nil))) pa_nil)))))) pss_nil)
      (pss_one (ps_ret (pe_f (ok_is_command_line T) T.g_is_command_line (hr.mono (by decide)) (pa_cons (pv 0) pa_nil)))), ?_⟩
    cases e with
    | inl x =>
      cases (show v = V.str x from re)
      refine ⟨_, rfl, _, "str", false, rfl, .base (.str _), by decide +kernel, false, rfl, iteF ?_⟩
      exact ⟨_, rfl, x, true, rfl, CL.cmd ok, fun H' s1 => k H' s1⟩
    | inr t =>
      obtain ⟨a, xs, rfl, na, ha, hx⟩ := (show rp N H v t from re)
      have ex := strs_of hx
      subst ex
      refine ⟨_, rfl, _, "tuple", true, rfl, tyX_tup ha, by decide +kernel, true, rfl, iteT ?_⟩
      refine ⟨_, rfl, a, _, rfl, .inr (SqT.of ha), _, _, rfl, rfl, true, congrArg V.bl (decide_eq_true (by rw [List.length_map]; have := ok.1; omega)), iteT ?_⟩
      refine ⟨_, rfl, a, rfl, ⟨_, SqT.of ha⟩, fun D hD => ?_⟩
      refine lc_rp (β := Bool) (walk_tup (xs := t.items.map V.str)) (List.replicate t.items.length true) (by simp) (by rw [List.length_map]; have := ok.2.1; have := big; omega) (fun _ => False) hD (fun H2 s2 => SqT.of (s2 _ _ ha)) yAt_same (fun j b y H3 H2 K1 hb s2 _ hy k1 => ?_) (fun H2 acc s2 hacc r => ?_)
      · obtain ⟨rfl, hy⟩ := hy
        rw [List.getElem?_map] at hy
        cases z : t.items[j]? with
        | none =>
          rw [z] at hy
          cases hy
        | some x =>
          rw [z] at hy
          cases hy
          have eb : b = true := List.eq_of_mem_replicate (List.mem_of_getElem? hb)
          subst eb
          exact ⟨wipe1 _ _ _, _, rfl, x, true, rfl, (ok.2.2 x (List.mem_of_getElem? z)).cmd, fun H' s3 => k1 _ _ s3 rfl⟩
      · refine ⟨D, _, rfl, .of (by rw [← bls_of r]; exact hacc), ?_⟩
        rw [show (List.replicate t.items.length true).all id = true by simp]
        exact k _ s2
theorem sc_own_lines : FnScope ["entry"] ["entry"] (defScope s_own_lines) := ⟨rfl, rfl, rfl, by decide +kernel, rfl, by decide +kernel, by decide +kernel⟩
theorem ok_own_lines (T : NT K mg) : Cal P w K mg base (ga K "own_lines") 1 ["entry"] (spLinesOf linesE) := by
  obtain ⟨fd, F⟩ := T.D_own_lines
  refine Cal.of F (F.bindsN fun _ _ _ _ _ _ us hl => match us, hl with | [_], _ => rfl) sc_own_lines (fun vs H Q E h => ?_) (fun cdv A outer s H vs Q E hr h => ?_)
  · obtain ⟨N, v, e, rfl, _⟩ := h
    rfl
  · obtain ⟨N, v, e, rfl, re, ok, k⟩ := h
    refine ⟨_, pss_one (ps_ret (pe_ifExp (pt_val (pe_b (cr_is "tuple") T.b_isinstance (pa_cons (pv 0) (pa_cons (pe_ty "tuple" T.b_tuple) pa_nil)))) (pe_t call_list_of T.b_list (pa_cons (pv 0) pa_nil)) (pe_lst (pa_cons (pv 0) pa_nil)))), ?_⟩
    cases e with
    | inl x =>
      cases (show v = V.str x from re)
      refine ⟨_, rfl, _, "str", false, rfl, .base (.str _), by decide +kernel, false, rfl, iteF ?_⟩
      exact ⟨_, rfl, (by show 1 ≤ sizeLine; decide), fun D hD => k D _ hD (Same.new hD) upd_same⟩
    | inr t =>
      obtain ⟨a, xs, rfl, na, ha, hx⟩ := (show rp N H v t from re)
      have ex := strs_of hx
      subst ex
      refine ⟨_, rfl, _, "tuple", true, rfl, tyX_tup ha, by decide +kernel, true, rfl, iteT ?_⟩
      exact ⟨_, rfl, a, _, rfl, .inr (SqT.of ha), fun D hD => k D _ hD (Same.new hD) upd_same⟩
theorem sc_checked_lines : FnScope ["entry"] ["entry"] (defScope s_checked_lines) := ⟨rfl, rfl, rfl, by decide +kernel, rfl, by decide +kernel, by decide +kernel⟩
theorem all_blank_len : allS.length + blank.length ≤ sizeLine := by decide +kernel
theorem head_room {k : Nat} (h : k < 10) : (allS ++ blank).length + (numS k).length ≤ sizeLine := by
  rw [len_tl, len_tl, tl_append, tl_all, tl_blank, tl_numS h]
  show 5 ≤ sizeLine
  decide
theorem ok_checked_lines (T : NT K mg) : Cal P w K mg base (ga K "checked_lines") 1 ["entry"] (spLinesOf checkedE) := by
  obtain ⟨fd, F⟩ := T.D_checked_lines
  refine Cal.of F (F.bindsN fun _ _ _ _ _ _ us hl => match us, hl with | [_], _ => rfl) sc_checked_lines (fun vs H Q E h => ?_) (fun cdv A outer s H vs Q E hr h => ?_)
  · obtain ⟨N, v, e, rfl, _⟩ := h
    rfl
  · obtain ⟨N, v, e, rfl, re, ok, k⟩ := h
    refine ⟨_, pss_one (ps_ret (pe_ifExp (pt_val (pe_b (cr_is "tuple") T.b_isinstance (pa_cons (pv 0) (pa_cons (pe_ty "tuple" T.b_tuple) pa_nil))))
      (pe_lst (pa_cons (pe_op op_add_str (pe_op op_add_str (pe_cs T.x_ALL) (pe_cs T.x_BLANK)) (pe_t call_str_int T.b_str (pa_cons (pe_b call_len_seq T.b_len (pa_cons (pv 0) pa_nil)) pa_nil))) (StX.pa_star (pv 0) pa_nil))) (pe_lst (pa_cons (pv 0) pa_nil)))), ?_⟩
    cases e with
    | inl x =>
      cases (show v = V.str x from re)
      refine ⟨_, rfl, _, "str", false, rfl, .base (.str _), by decide +kernel, false, rfl, iteF ?_⟩
      exact ⟨_, rfl, (by show 1 ≤ sizeLine; decide), fun D hD => k D _ hD (Same.new hD) upd_same⟩
    | inr t =>
      obtain ⟨a, xs, rfl, na, ha, hx⟩ := (show rp N H v t from re)
      have ex := strs_of hx
      subst ex
      obtain ⟨o1, o2, o3⟩ := ok
      refine ⟨_, rfl, _, "tuple", true, rfl, tyX_tup ha, by decide +kernel, true, rfl, iteT ?_⟩
      refine ⟨allS, blank, rfl, rfl, all_blank_len, _, rfl, a, _, rfl, .inr (SqT.of ha), _, rfl, ?_, _, _, rfl, rfl, ?_, _, rfl, a, _, rfl, .inl (SqT.of ha), ?_, fun D hD => ?_⟩
      · rw [List.length_map]
        exact log_small (by omega) (by omega)
      · rw [List.length_map]
        exact head_room (by omega)
      · simp only [List.append_nil, List.length_cons, List.length_map]
        have := big
        omega
      · refine k D _ hD (Same.new hD) ?_
        rw [upd_same, List.append_nil, List.length_map]
        rfl
theorem sc_unchecked : FnScope ["row", "line", "rest", "sign"] ["row"] (defScope s_unchecked) := ⟨rfl, rfl, rfl, by decide +kernel, rfl, by decide +kernel, by decide +kernel⟩
theorem ok_unchecked (T : NT K mg) : Cal P w K mg base (ga K "unchecked") 2 ["row"] spUnchecked := by
  obtain ⟨fd, F⟩ := T.D_unchecked
  refine Cal.of F (F.bindsN fun _ _ _ _ _ _ us hl => match us, hl with | [_], _ => rfl) sc_unchecked (fun vs H Q E h => ?_) (fun cdv A outer s H vs Q E hr h => ?_)
  · obtain ⟨x, rfl, _⟩ := h
    rfl
  · obtain ⟨x, rfl, lr, k⟩ := h
    have nd := sc_unchecked.nd
    have hbig := big
    have l1 := lr.l1
    have l2 := lr.l2
    have hz : (bodyT x).length ≤ sizeLine := by rw [body_len]; omega
    refine ⟨_, pss_cons (ps_par (i := 1) (j := 2) rfl nd rfl rfl (by decide) rfl rfl (pa_cons (pe_slice sl_str (pv 0) po_none (po_some (pe_un un_neg pe_int))) (pa_cons (pe_slice sl_str (pv 0) (po_some (pe_un un_neg pe_int)) po_none) pa_nil)) rfl)
      (pss_cons (ps_if (PW.pt (pw_or (pt_cmpR op_eq (pv 1) pe_str (nomark _)) (pw_or (pt_not (pt_val (pe_b (cr_all rfl) T.b_all (pa_cons (pe_lc (own := [("sign", 3)]) (g := gName 3) (tt := tYes) rfl nd (pi_str (pv 1)) (blkOk_by (N := ["row", "line", "rest", "sign"]) (sc := defScope s_unchecked) (by decide +kernel))
          (fun _ _ _ _ _ => pg_name (i := 3) nd rfl (Or.inl rfl)) (fun _ _ _ _ _ => pts_nil) (fun _ _ _ _ _ => pe_cmpR op_in_sign (pv 3) (pe_cs T.x_ROW) rfl)) pa_nil))))
          (pw_or1 (pt_cmpR op_ne (pv 2) (pe_op op_add_str (pe_cs T.x_BLANK) (pe_f (ok_check_by T) T.g_check_by (hr.mono (by decide)) (pa_cons (pv 1) pa_nil))) (nomark _)))))) (pss_one (ps_ret pe_non)) pss_nil)
      (pss_one (ps_ret (pv 1)))), ?_⟩
    refine ⟨_, rfl, 4, rfl, _, rfl, _, rfl, hz, _, rfl, 4, rfl, _, rfl, _, rfl, hz, _, _, rfl, ?_⟩
    rw [show (-4 : Int) = -4 from rfl, cut_front, cut_back]
    refine ⟨_, rfl, rfl, false, congrArg V.bl (decide_eq_false fun z => ?_), iteF ?_⟩
    · have e1 := V.str.inj z
      have e2 := congrArg Str.length e1
      rw [show Str.length (Str.ofString "") = 0 from by decide +kernel] at e2
      omega
    refine ⟨_, rfl, _, rfl, fun D hD => ?_⟩
    refine lc_rp (β := Bool) walk_str (List.replicate x.length true) (by simp [Str.length]) (by show x.cps.size ≤ _; have : x.length = x.cps.size := rfl; omega) (fun _ => False) hD (fun _ _ => trivial) yStr_same (fun j b' y' H2 H3 K1 hb' s1 _ hy' k1 => ?_) (fun H2 acc s1 ha r' => ?_)
    · obtain ⟨rfl, c', hc', rfl⟩ := hy'
      have hm : c' ∈ tl x := List.mem_of_getElem? (by rw [Array.getElem?_toList]; exact hc')
      refine ⟨wipe1 _ _ _, _, rfl, c', _, rfl, rfl, ?_⟩
      have e1 : b' = true := List.eq_of_mem_replicate (List.mem_of_getElem? hb')
      exact k1 _ _ (Same.refl _) (congrArg V.bl (show decide (c' ∈ tl rowS) = b' from by rw [decide_eq_true (show c' ∈ tl rowS from lr.row c' hm), e1]))
    · refine ⟨D, _, rfl, .of (by rw [← bls_of r']; exact ha), ?_⟩
      rw [show (List.replicate x.length true).all id = true by simp]
      refine ⟨true, rfl, iteF ?_⟩
      refine ⟨_, rfl, _, rfl, x, rfl, l2, lr.row, fun H3 s3 => ⟨blank, chk x, rfl, rfl, ?_, rfl, false, ?_, iteF ⟨_, rfl, k _ (s1.trans s3)⟩⟩⟩
      · rw [len_tl, len_tl, tl_blank, chk_len]
        show 4 ≤ sizeLine
        decide
      · refine congrArg V.bl ?_
        show (!decide (V.str (blank ++ chk x) = V.str (blank ++ chk x))) = false
        rw [decide_eq_true rfl]
        rfl
theorem sc_how_many_told : FnScope ["line", "words", "sign"] ["line"] (defScope s_how_many_told) := ⟨rfl, rfl, rfl, by decide +kernel, rfl, by decide +kernel, by decide +kernel⟩
theorem zero_sg : (Str.ofString "0") = sg 48 := ext_tl (by decide +kernel)
theorem digits_mem {c : Nat} (h : 48 ≤ c) (h2 : c ≤ 57) : c ∈ tl (Str.ofString "0123456789") := by
  have all : ∀ c : Fin 58, 48 ≤ c.val → c.val ∈ tl (Str.ofString "0123456789") := by decide +kernel
  exact all ⟨c, by omega⟩ h
theorem ok_how_many_told (T : NT K mg) : Cal P w K mg base (ga K "how_many_told") 1 ["line"] spHowMany := by
  obtain ⟨fd, F⟩ := T.D_how_many_told
  refine Cal.of F (F.bindsN fun _ _ _ _ _ _ us hl => match us, hl with | [_], _ => rfl) sc_how_many_told (fun vs H Q E h => ?_) (fun cdv A outer s H vs Q E hr h => ?_)
  · obtain ⟨x, rfl, _⟩ := h
    rfl
  · obtain ⟨n, rfl, n1, n9, k⟩ := h
    have nd := sc_how_many_told.nd
    have hbig := big
    have hn : n < 10 := by omega
    have hl5 : (headL n).length = 5 := by rw [len_tl, tl_head hn]; rfl
    have hnum : (numS n).length = 1 := by rw [len_tl, tl_numS hn]; rfl
    have hcps : (numS n).cps.toList = [48 + n] := tl_numS hn
    refine ⟨_, pss_cons (ps_set (i := 1) nd rfl (Or.inl rfl) (pe_split (pv 0) (pe_cs T.x_BLANK)))
      (pss_cons (ps_if (PW.pt (pw_or (pt_cmpR op_ne (pe_b call_len_seq T.b_len (pa_cons (pv 1) pa_nil)) pe_int (nomark _)) (pw_or (pt_cmpR op_ne (pe_ix ix_list (pv 1) pe_int (fun _ _ => rfl)) (pe_cs T.x_ALL) (nomark _))
          (pw_or1 (pt_not (pt_chain op_le op_le pe_int (pe_b call_len_str T.b_len (pa_cons (pe_ix ix_list (pv 1) pe_int (fun _ _ => rfl)) pa_nil)) pe_int)))))) (pss_one (ps_ret pe_non)) pss_nil)
      (pss_cons (ps_if (PW.pt (pw_or (pt_not (pt_val (pe_b (cr_all rfl) T.b_all (pa_cons (pe_lc (own := [("sign", 2)]) (g := gName 2) (tt := tYes) rfl nd (pi_str (pe_ix ix_list (pv 1) pe_int (fun _ _ => rfl))) (blkOk_by (N := ["line", "words", "sign"]) (sc := defScope s_how_many_told) (by decide +kernel))
          (fun _ _ _ _ _ => pg_name (i := 2) nd rfl (Or.inl rfl)) (fun _ _ _ _ _ => pts_nil) (fun _ _ _ _ _ => pe_cmpR op_in_sign (pv 2) (pe_cs T.x_DIGITS) rfl)) pa_nil))))
          (pw_or1 (pt_cmpR op_eq (pe_ix ix_str (pe_ix ix_list (pv 1) pe_int (fun _ _ => rfl)) pe_int (fun _ _ => rfl)) pe_str (nomark _))))) (pss_one (ps_ret pe_non)) pss_nil)
      (pss_one (ps_ret (pe_t call_int_str T.b_int (pa_cons (pe_ix ix_list (pv 1) pe_int (fun _ _ => rfl)) pa_nil)))))), ?_⟩
    refine ⟨_, rfl, ⟨_, rfl⟩, headL n, blank, rfl, rfl, rfl, by omega, fun p hp => ?_⟩
    have hp1 : upd H p (.lst ((Txt.split (headL n) blank).map V.str)) p = some (.lst [.str allS, .str (numS n)]) := by rw [upd_same, split_head hn]; rfl
    have s1 : Same H (upd H p (.lst ((Txt.split (headL n) blank).map V.str))) := Same.new hp
    generalize upd H p (.lst ((Txt.split (headL n) blank).map V.str)) = H1 at hp1 s1 ⊢
    refine ⟨_, rfl, p, _, rfl, .inl (SqL.of hp1), rfl, false, rfl, iteF ?_⟩
    refine ⟨_, rfl, p, _, 0, _, rfl, rfl, SqL.of hp1, atI_nat (j := 0) rfl, rfl, false, ?_, iteF ?_⟩
    · refine congrArg V.bl ?_
      show (!decide (V.str allS = V.str allS)) = false
      rw [decide_eq_true rfl]
      rfl
    refine ⟨_, rfl, p, _, 1, _, rfl, rfl, SqL.of hp1, atI_nat (j := 1) rfl, numS n, rfl, by omega, _, _, rfl, rfl, true, congrArg V.bl (decide_eq_true (by rw [hnum]; decide)), iteT ⟨_, _, rfl, rfl, true, congrArg V.bl (decide_eq_true (by rw [hnum]; decide)), iteF ?_⟩⟩
    refine ⟨_, rfl, p, _, 1, _, rfl, rfl, SqL.of hp1, atI_nat (j := 1) rfl, numS n, rfl, fun D hD => ?_⟩
    have hsz : (numS n).cps.size = 1 := hnum
    refine lc_rp (β := Bool) walk_str [true] (by rw [hsz]; rfl) (by rw [hsz]; decide) (fun _ => False) hD (fun _ _ => trivial) yStr_same (fun j b' y' H2 H3 K1 hb' s2 _ hy' k1 => ?_) (fun H2 acc s2 ha r' => ?_)
    · obtain ⟨rfl, c', hc', rfl⟩ := hy'
      have hm : c' ∈ (numS n).cps.toList := List.mem_of_getElem? (by rw [Array.getElem?_toList]; exact hc')
      rw [hcps] at hm
      have ec : c' = 48 + n := List.mem_singleton.mp hm
      refine ⟨wipe1 _ _ _, _, rfl, c', _, rfl, rfl, ?_⟩
      have e1 : b' = true := List.mem_singleton.mp (List.mem_of_getElem? hb')
      exact k1 _ _ (Same.refl _) (congrArg V.bl (show decide (c' ∈ tl (Str.ofString "0123456789")) = b' from by rw [decide_eq_true (digits_mem (by omega) (by omega)), e1]))
    · refine ⟨D, _, rfl, .of (by rw [← bls_of r']; exact ha), true, rfl, iteF ?_⟩
      have hp2 := s2 _ _ hp1
      refine ⟨_, rfl, p, _, 1, _, rfl, rfl, SqL.of hp2, atI_nat (j := 1) rfl, numS n, 0, 48 + n, rfl, rfl, by omega, atI_nat (j := 0) (by rw [hcps]; rfl), rfl, false, ?_, iteF ?_⟩
      · refine congrArg V.bl (decide_eq_false fun z => ?_)
        have e1 := V.str.inj z
        rw [zero_sg] at e1
        have := sg_inj e1
        omega
      · refine ⟨_, rfl, p, _, 1, _, rfl, rfl, SqL.of hp2, atI_nat (j := 1) rfl, numS n, _, rfl, TL.int_num (by rw [TL.numL_lt hn]; exact Nat.le_of_ble_eq_true rfl), by omega, k _ (s1.trans s2)⟩
end
end Net
namespace Net
open PySem PySem.Spec PyProof.Rows L2
theorem cut_nat {α : List V} {a b : Nat} (h : a ≤ b) : cutV α (some (a : Int)) (some (b : Int)) = (α.drop a).take (b - a) := by
  unfold cutV
  rw [HT.sIx_nat, HT.sIx_nat]
  by_cases h1 : a ≤ α.length
  · rw [Nat.min_eq_left h1]
    by_cases h2 : b ≤ α.length
    · rw [Nat.min_eq_left h2]
    · rw [Nat.min_eq_right (by omega), List.take_of_length_le (by rw [List.length_drop]; omega), List.take_of_length_le (by rw [List.length_drop]; omega)]
  · have e1 : min a α.length = α.length := by omega
    have e2 : min b α.length = α.length := by omega
    rw [e1, e2, List.drop_of_length_le (Nat.le_refl _), List.drop_of_length_le (by omega : α.length ≤ a)]
    simp
/-- all lines of entries, the heads among them -/
def rowsOf (es : List En) : List Str := es.flatMap checkedE
/-- how many of them the first g entries have -/
def Rn (es : List En) (g : Nat) : Nat := (rowsOf (es.take g)).length
theorem rowsOf_snoc (es : List En) (e : En) : rowsOf (es ++ [e]) = rowsOf es ++ checkedE e := by
  unfold rowsOf
  rw [List.flatMap_append]
  simp
theorem Rn_succ {es : List En} {g : Nat} {e : En} (h : es[g]? = some e) : Rn es (g + 1) = Rn es g + (checkedE e).length := by
  unfold Rn
  rw [take_succ' h, rowsOf_snoc, List.length_append]
theorem checked_pos {e : En} : 1 ≤ (checkedE e).length := by
  cases e with
  | inl x => exact Nat.le_refl _
  | inr t => exact Nat.succ_le_succ (Nat.zero_le _)
theorem Rn_mono (es : List En) : ∀ {i j : Nat}, i ≤ j → Rn es i ≤ Rn es j := fun {i j} h => by
  unfold Rn rowsOf
  have e : es.take j = es.take i ++ (es.take j).drop i := by
    have : (es.take j).take i = es.take i := by rw [List.take_take, Nat.min_eq_left h]
    conv => lhs; rw [← List.take_append_drop i (es.take j), this]
  rw [e, List.flatMap_append, List.length_append]
  exact Nat.le_add_right _ _
theorem Rn_all (es : List En) : Rn es es.length = (rowsOf es).length := by
  unfold Rn
  rw [List.take_length]
/-- what stands behind the first g entries' lines -/
theorem rows_drop {es : List En} {g : Nat} {e : En} (h : es[g]? = some e) : (rowsOf es).drop (Rn es g) = checkedE e ++ rowsOf (es.drop (g + 1)) := by
  have hg := (List.getElem?_eq_some_iff.mp h).1
  have e1 : es = es.take g ++ e :: es.drop (g + 1) := by
    have : es.drop g = e :: es.drop (g + 1) := by
      rw [List.drop_eq_getElem_cons hg, (List.getElem?_eq_some_iff.mp h).2]
    rw [← this, List.take_append_drop]
  have e2 : rowsOf es = rowsOf (es.take g) ++ (checkedE e ++ rowsOf (es.drop (g + 1))) := by
    conv => lhs; rw [e1]
    unfold rowsOf
    rw [List.flatMap_append, List.flatMap_cons]
  rw [e2]
  exact List.drop_left
def spEntryAt : Sp := fun vs H Q _ => ∃ (a : Addr) (n : Nat) (xs : List Str) (e : En), vs = [.ref a, .int (n : Int)] ∧ H a = some (.lst (xs.map V.str)) ∧ xs.length ≤ 1000 ∧ EnOk e ∧
  ((∃ more, xs.drop n = checkedE e ++ more ∧ ∀ v H', Same H H' → rp (In H) H' v e → Q v H') ∨ (∃ t r, e = .inr t ∧ 1 ≤ r ∧ r ≤ t.items.length ∧ xs.drop n = (checkedE e).take r ∧ ∀ H', Same H H' → Q .non H'))
def spGood : Sp := fun vs H Q _ => ∃ (z : Str) (es : List En) (m : Nat) (part : Str), vs = [.str z] ∧ z.length ≤ 50000 ∧ Txt.split z nl = ((rowsOf es).take m).map bodyT ++ [part] ∧ (∀ e ∈ es, EnOk e) ∧ es.length ≤ 100 ∧ (rowsOf es).length ≤ 1000 ∧ m ≤ (rowsOf es).length ∧
  ∀ (p f : Addr) (g : Nat) (H' : Hp), Same H H' → H' p = some (.tup [.ref f, .int ((Rn es g : Nat) : Int)]) → rp (In H) H' (.ref f) (es.take g) → g ≤ es.length → Rn es g ≤ m → (∀ j, g < j → j ≤ es.length → m < Rn es j) → Q (.ref p) H'
theorem drop_get {α : Type} {l : List α} {n : Nat} {x : α} {r : List α} (h : l.drop n = x :: r) : l[n]? = some x ∧ l.drop (n + 1) = r := by
  have e1 : (l.drop n)[0]? = some x := by rw [h]; rfl
  rw [List.getElem?_drop, Nat.add_zero] at e1
  refine ⟨e1, ?_⟩
  rw [← List.drop_drop, h]
  rfl
section
variable {P : Program} {w : World} {K : PySem.W.Frag} {mg : Str → Option Value} {base : Heap}
abbrev nEntryAt : List Str := ["lines", "at", "line", "many", "some", "one"]
theorem sc_entry_at : FnScope nEntryAt ["lines", "at"] (defScope s_entry_at) := ⟨rfl, rfl, rfl, by decide +kernel, rfl, by decide +kernel, by decide +kernel⟩
theorem ok_entry_at (T : NT K mg) : Cal P w K mg base (ga K "entry_at") 2 ["lines", "at"] spEntryAt := by
  obtain ⟨fd, F⟩ := T.D_entry_at
  refine Cal.of F (F.bindsN fun _ _ _ _ _ _ us hl => match us, hl with | [_, _], _ => rfl) sc_entry_at (fun vs H Q E h => ?_) (fun cdv A outer s H vs Q E hr h => ?_)
  · obtain ⟨a, n, xs, e, rfl, _⟩ := h
    rfl
  · obtain ⟨a, n, xs, e, rfl, ha, hxl, ok, k⟩ := h
    have nd := sc_entry_at.nd
    have hbig := big
    refine ⟨_, pss_cons (ps_set (i := 2) nd rfl (Or.inl rfl) (pe_ix ix_list (pv 0) (pv 1) (fun _ _ => rfl)))
      (pss_cons (ps_if (PW.pt (pw_or (pt_cmpR op_isN (pv 2) pe_non (nomark _)) (pw_or1 (pt_val (pe_f (ok_is_command_line T) T.g_is_command_line (hr.mono (by decide)) (pa_cons (pv 2) pa_nil)))))) (pss_one (ps_ret (pv 2))) pss_nil)
      (pss_cons (ps_set (i := 3) nd rfl (Or.inl rfl) (pe_f (ok_how_many_told T) T.g_how_many_told (hr.mono (by decide)) (pa_cons (pv 2) pa_nil)))
      (pss_cons (ps_if (pt_cmpR op_isN (pv 3) pe_non (nomark _)) (pss_one (ps_ret pe_non)) pss_nil)
      (pss_cons (ps_set (i := 4) nd rfl (Or.inl rfl) (pe_slice sl_list (pv 0) (po_some (pe_op op_add (pv 1) pe_int)) (po_some (pe_op op_add (pe_op op_add (pv 1) pe_int) (pv 3)))))
      (pss_cons (ps_if (PW.pt (pw_or (pt_cmpR op_lt (pe_b call_len_seq T.b_len (pa_cons (pv 4) pa_nil)) (pv 3) (nomark _)) (pw_or1 (pt_not (pt_val (pe_b (cr_all rfl) T.b_all (pa_cons (pe_lc (own := [("one", 5)]) (g := gName 5) (tt := tYes) rfl nd (pi_list (pv 4)) (blkOk_by (N := nEntryAt) (sc := defScope s_entry_at) (by decide +kernel))
          (fun _ _ _ _ _ => pg_name (i := 5) nd rfl (Or.inl rfl)) (fun _ _ _ _ _ => pts_nil) (fun _ _ _ _ _ => pe_and (pe_cmpR op_notN (pv 5) pe_non (nomark _)) (pe_one (pe_f (ok_is_command_line T) T.g_is_command_line (hr.mono (by decide)) (pa_cons (pv 5) pa_nil))))) pa_nil))))))) (pss_one (ps_ret pe_non)) pss_nil)
      (pss_one (ps_ret (pe_tupleOf (by rfl) T.b_tuple (pv 4))))))))), ?_⟩
    cases e with
    | inl x =>
      rcases k with ⟨more, hd, k⟩ | ⟨t, r, e, _⟩
      · obtain ⟨h1, _⟩ := drop_get (show xs.drop n = x :: more from hd)
        refine ⟨_, rfl, _, rfl, a, _, (n : Int), _, rfl, rfl, SqL.of ha, atI_nat (v := V.str x) (by rw [List.getElem?_map, h1]; rfl), ?_⟩
        refine ⟨_, rfl, rfl, false, rfl, iteF ?_⟩
        exact ⟨_, rfl, x, true, rfl, CL.cmd ok, fun H1 s1 => ⟨true, rfl, iteT ⟨_, rfl, k _ H1 s1 rfl⟩⟩⟩
      · cases e
    | inr t =>
      obtain ⟨o1, o2, o3⟩ := ok
      obtain ⟨rest, hdr⟩ : ∃ rest, xs.drop n = headL t.items.length :: rest := by
        rcases k with ⟨more, hd, _⟩ | ⟨t', r, e, r1, r2, hd, _⟩
        · exact ⟨_, hd⟩
        · cases e
          obtain ⟨r', rfl⟩ : ∃ r', r = r' + 1 := ⟨r - 1, by omega⟩
          exact ⟨_, hd⟩
      obtain ⟨h1, h2⟩ := drop_get hdr
      have hk : t.items.length < 10 := by omega
      refine ⟨_, rfl, _, rfl, a, _, (n : Int), _, rfl, rfl, SqL.of ha, atI_nat (v := V.str (headL t.items.length)) (by rw [List.getElem?_map, h1]; rfl), ?_⟩
      refine ⟨_, rfl, rfl, false, rfl, iteF ?_⟩
      refine ⟨_, rfl, _, false, rfl, head_cmd hk, fun H1 s1 => ⟨false, rfl, iteF ?_⟩⟩
      refine ⟨_, rfl, t.items.length, rfl, o1, o2, fun H2 s2 => ?_⟩
      have s12 := s1.trans s2
      refine ⟨_, rfl, rfl, false, rfl, iteF ?_⟩
      refine ⟨_, rfl, _, rfl, (n : Int), 1, rfl, rfl, _, rfl, _, rfl, (n : Int), 1, rfl, rfl, _, rfl, _, _, rfl, rfl, _, rfl, a, _, rfl, SqL.of (s12 _ _ ha), fun p hp => ?_⟩
      have e1 : cutV (xs.map V.str) (some ((n : Int) + 1)) (some ((n : Int) + 1 + (t.items.length : Int))) = (rest.take t.items.length).map V.str := by
        have z := cut_nat (α := xs.map V.str) (a := n + 1) (b := n + 1 + t.items.length) (by omega)
        rw [show (((n + 1 : Nat) : Int)) = (n : Int) + 1 from by omega, show (((n + 1 + t.items.length : Nat) : Int)) = (n : Int) + 1 + (t.items.length : Int) from by omega, Nat.add_sub_cancel_left, ← List.map_drop, h2, ← List.map_take] at z
        exact z
      rw [e1]
      have s3 : Same H (upd H2 p (.lst ((rest.take t.items.length).map V.str))) := s12.lay hp
      have hp3 : upd H2 p (.lst ((rest.take t.items.length).map V.str)) p = some (.lst ((rest.take t.items.length).map V.str)) := upd_same
      have hp0 : H p = none := s12.free hp
      generalize upd H2 p (.lst ((rest.take t.items.length).map V.str)) = H3 at s3 hp3 ⊢
      rcases k with ⟨more, hd, k⟩ | ⟨t', r, e, r1, r2, hd, k⟩
      · have er : rest = t.items ++ more := by
          have := hdr.symm.trans hd
          exact (List.cons.inj this).2
        rw [er, List.take_left] at hp3
        refine ⟨_, rfl, p, _, rfl, .inl (SqL.of hp3), _, rfl, _, _, rfl, rfl, false, congrArg V.bl (decide_eq_false (by rw [List.length_map]; omega)), iteF ?_⟩
        refine ⟨_, rfl, p, rfl, ⟨_, SqL.of hp3⟩, fun D hD => ?_⟩
        refine lc_rp (β := Bool) (walk_list (xs := t.items.map V.str)) (List.replicate t.items.length true) (by simp) (by rw [List.length_map]; omega) (fun _ => False) hD (fun H2 s2 => SqL.of (s2 _ _ hp3)) yAt_same (fun j b y H5 H4 K1 hb s4 _ hy k1 => ?_) (fun H4 acc s4 hacc r => ?_)
        · obtain ⟨rfl, hy⟩ := hy
          rw [List.getElem?_map] at hy
          cases z : t.items[j]? with
          | none =>
            rw [z] at hy
            cases hy
          | some x =>
            rw [z] at hy
            cases hy
            have eb : b = true := List.eq_of_mem_replicate (List.mem_of_getElem? hb)
            subst eb
            exact ⟨wipe1 _ _ _, _, rfl, rfl, true, rfl, iteT ⟨_, rfl, x, true, rfl, (o3 x (List.mem_of_getElem? z)).cmd, fun H' s5 => k1 _ _ s5 rfl⟩⟩
        · refine ⟨D, _, rfl, .of (by rw [← bls_of r]; exact hacc), ?_⟩
          rw [show (List.replicate t.items.length true).all id = true by simp]
          refine ⟨true, rfl, iteF ⟨_, rfl, .inl ⟨p, _, rfl, SqL.of (s4 _ _ hp3), fun q hq => ?_⟩⟩⟩
          have s5 : Same H (upd H4 q (.tup (t.items.map V.str))) := (s3.trans s4).lay hq
          exact k _ _ s5 ⟨q, _, rfl, In.not' (s3.trans s4) hq, upd_same, strs_rp _⟩
      · cases e
        have er : (rest.take t.items.length).length < t.items.length := by
          obtain ⟨r', rfl⟩ : ∃ r', r = r' + 1 := ⟨r - 1, by omega⟩
          have e3 : rest = t.items.take r' := by
            have := hdr.symm.trans hd
            exact (List.cons.inj this).2
          rw [e3, List.length_take, List.length_take]
          omega
        refine ⟨_, rfl, p, _, rfl, .inl (SqL.of hp3), _, rfl, _, _, rfl, rfl, true, congrArg V.bl (decide_eq_true (by rw [List.length_map]; omega)), iteT (k H3 s3)⟩
end
end Net
namespace Net
open PySem PySem.Spec PyProof.Rows L2
theorem rows_lr {es : List En} (h : ∀ e ∈ es, EnOk e) : ∀ x ∈ rowsOf es, LR x := fun x hx => by
  obtain ⟨e, he, hx⟩ := List.mem_flatMap.mp hx
  exact checked_lr (h e he) x hx
theorem Rn_le (es : List En) (g : Nat) : Rn es g ≤ (rowsOf es).length := by
  rw [← Rn_all]
  by_cases h : g ≤ es.length
  · exact Rn_mono es h
  · unfold Rn
    rw [List.take_of_length_le (by omega), List.take_length]
    exact Nat.le_refl _
theorem en_not_none {N : Ad} {H : Hp} {v : V} {e : En} (h : rp N H v e) : v ≠ .non := by
  cases e with
  | inl x =>
    cases (show v = V.str x from h)
    exact fun z => nomatch z
  | inr t =>
    obtain ⟨a, xs, rfl, _⟩ := (show rp N H v t from h)
    exact fun z => nomatch z
theorem cut_last {α : List V} {x : V} : cutV (α ++ [x]) none (some (-1)) = α := by
  unfold cutV
  have e : HT.sIx (α ++ [x]).length (α ++ [x]).length (some (-1)) = α.length := by
    unfold HT.sIx
    rw [List.length_append]
    simp
    omega
  rw [HT.sIx_none, e, List.drop_zero, Nat.sub_zero, List.take_left]
section
variable {P : Program} {w : World} {K : PySem.W.Frag} {mg : Str → Option Value} {base : Heap}
abbrev nGood : List Str := ["text", "lines", "row", "found", "at", "entry"]
theorem sc_good_part : FnScope nGood ["text"] (defScope s_good_part) := ⟨rfl, rfl, rfl, by decide +kernel, rfl, by decide +kernel, by decide +kernel⟩
theorem ok_good_part (T : NT K mg) : Cal P w K mg base (ga K "good_part") 3 ["text"] spGood := by
  obtain ⟨fd, F⟩ := T.D_good_part
  refine Cal.of F (F.bindsN fun _ _ _ _ _ _ us hl => match us, hl with | [_], _ => rfl) sc_good_part (fun vs H Q E h => ?_) (fun cdv A outer s H vs Q E hr h => ?_)
  · obtain ⟨z, es, m, part, rfl, _⟩ := h
    rfl
  · obtain ⟨z, es, m, part, rfl, hz, hsp, ok, hes, hrl, hm, k⟩ := h
    have nd := sc_good_part.nd
    have hbig := big
    refine ⟨_, pss_cons (ps_setLc (i := 1) (own := [("row", 2)]) (g := gName 2) (tt := tYes) rfl nd rfl rfl (sw_true rfl rfl rfl rfl) (pi_list (pe_slice sl_list (pe_split (pv 0) pe_str) po_none (po_some (pe_un un_neg pe_int)))) (blkOk_by (N := nGood) (sc := defScope s_good_part) (by decide +kernel))
        (fun _ _ _ _ _ => pg_name (i := 2) nd rfl (Or.inl rfl)) (fun _ _ _ _ _ => pts_nil) (fun _ _ _ _ _ => pe_f (ok_unchecked T) T.g_unchecked (hr.mono (by decide)) (pa_cons (pv 2) pa_nil)))
      (pss_cons (ps_par (i := 3) (j := 4) rfl nd rfl rfl (by decide) rfl rfl (pa_cons (pe_lst pa_nil) (pa_cons pe_int pa_nil)) rfl)
      (pss_cons (ps_while PassesOwn.never (PW.pt (pw_and (pt_cmpR op_lt (pv 4) (pe_b call_len_seq T.b_len (pa_cons (pv 1) pa_nil)) (nomark _)) (pw_and1 (pt_cmpR op_lt (pe_b call_len_seq T.b_len (pa_cons (pv 3) pa_nil)) (pe_ci T.i_MOST_ENTRIES) (nomark _)))))
        (pss_cons (ps_set (i := 5) nd rfl (Or.inl rfl) (pe_f (ok_entry_at T) T.g_entry_at (hr.mono (by decide)) (pa_cons (pv 1) (pa_cons (pv 4) pa_nil))))
        (pss_cons (ps_if (pt_cmpR op_isN (pv 5) pe_non (nomark _)) (pss_one (ps_ret (pe_tup (pa_cons (pv 3) (pa_cons (pv 4) pa_nil))))) pss_nil)
        (pss_cons (ps_expr (pe_bm PySem.F.plainAttrs_list PySem.F.slot_list_append PySem.F.type_list_append mt_append (pv 3) (pa_cons (pv 5) pa_nil)))
        (pss_one (ps_set (i := 4) nd rfl (Or.inl rfl) (pe_op op_add (pv 4) (pe_b call_len_seq T.b_len (pa_cons (pe_f (ok_checked_lines T) T.g_checked_lines (hr.mono (by decide)) (pa_cons (pv 5) pa_nil)) pa_nil)))))))))
      (pss_one (ps_ret (pe_tup (pa_cons (pv 3) (pa_cons (pv 4) pa_nil))))))), ?_⟩
    refine ⟨_, rfl, ⟨_, rfl⟩, z, nl, rfl, rfl, rfl, by omega, fun p hp => ⟨1, rfl, _, rfl, p, _, rfl, SqL.of upd_same, fun q hq => ?_⟩⟩
    have s2 : Same H (upd (upd H p (.lst ((Txt.split z nl).map V.str))) q (.lst (cutV ((Txt.split z nl).map V.str) none (some (-1))))) := (Same.new hp).lay hq
    have hq2 : upd (upd H p (.lst ((Txt.split z nl).map V.str))) q (.lst (cutV ((Txt.split z nl).map V.str) none (some (-1)))) q = some (.lst ((((rowsOf es).take m).map bodyT).map V.str)) := by
      rw [upd_same, hsp, List.map_append]
      exact congrArg (fun l => some (HO.lst l)) cut_last
    generalize upd (upd H p (.lst ((Txt.split z nl).map V.str))) q (.lst (cutV ((Txt.split z nl).map V.str) none (some (-1)))) = H2 at s2 hq2 ⊢
    have lm : ((rowsOf es).take m).length = m := by rw [List.length_take]; omega
    refine ⟨q, rfl, ⟨_, SqL.of hq2⟩, fun D hD => ?_⟩
    refine lc_rp (β := Str) (walk_list (xs := (((rowsOf es).take m).map bodyT).map V.str)) ((rowsOf es).take m) (by rw [List.length_map, List.length_map]) (by rw [List.length_map, List.length_map, lm]; omega) (fun _ => False) hD (fun H3 s3 => SqL.of (s3 _ _ hq2)) yAt_same (fun j b y H4 H3 K1 hb s3 _ hy k1 => ?_) (fun H3 acc s3 hacc r => ?_)
    · obtain ⟨rfl, hy⟩ := hy
      rw [List.getElem?_map, List.getElem?_map, hb] at hy
      cases hy
      exact ⟨wipe1 _ _ _, _, rfl, b, rfl, rows_lr ok b (List.mem_of_mem_take (List.mem_of_getElem? hb)), fun H' s4 => k1 _ _ s4 rfl⟩
    · have eacc := strs_of r
      subst eacc
      have s13 : Same H H3 := s2.trans s3
      refine ⟨Nat.zero_le _, fun f hf => ⟨_, _, rfl, ?_⟩⟩
      have hf0 : H f = none := s13.free hf
      have hDf : D ≠ f := ne_of_none hacc hf
      have hD0 : H D = none := s2.free hD
      refine ⟨fun μ σ H' => ∃ (g : Nat) (xs : List V) (o2 o5 : Option V), σ = [some (.str z), some (.ref D), o2, some (.ref f), some (.int ((Rn es g : Nat) : Int)), o5] ∧ μ = es.length - g ∧ g ≤ es.length ∧ Rn es g ≤ m ∧ Same H H' ∧ H' D = some (.lst (((rowsOf es).take m).map V.str)) ∧ H' f = some (.lst xs) ∧ All2 (rp (And1 (In H) f) H') xs (es.take g),
        ⟨es.length - 0, 0, [], _, none, rfl, rfl, Nat.zero_le _, Nat.zero_le _, s13.lay hf, by rw [upd_ne hDf]; exact hacc, upd_same, trivial⟩, ?_⟩
      rintro μ σ H4 ⟨g, xs, o2, o5, rfl, rfl, hg, hR, s4, hD4, hf4, rx⟩
      have lx := rx.length
      rw [List.length_take, Nat.min_eq_left hg] at lx
      -- the end, wherever it comes
      have fin : ∀ (σ' : L2.St) (H5 : Hp), σ'[3]? = some (some (.ref f)) → σ'[4]? = some (some (.int ((Rn es g : Nat) : Int))) → Same H4 H5 → (∀ j, g < j → j ≤ es.length → m < Rn es j) → tTup (tCons (tVar 3) (tCons (tVar 4) tNil)) σ' H5 Q := fun σ' H5 e3 e4 s5 hj => by
        refine ⟨_, e3, _, e4, (by show 2 ≤ sizeLine; decide), fun p hp => ?_⟩
        have s6 : Same H4 (upd H5 p (.tup [.ref f, .int ((Rn es g : Nat) : Int)])) := s5.lay hp
        exact k p f g _ (s4.trans s6) upd_same ⟨f, xs, rfl, In.not hf0, s6 _ _ hf4, (rx.monoR (SameN.of s6)).weakR fun c z => .inl z⟩ hg hR hj
      refine ⟨_, rfl, _, rfl, D, _, rfl, .inl (SqL.of hD4), _, _, rfl, rfl, decide (Rn es g < m), ?_, ?_⟩
      · rw [List.length_map, lm]
        exact congrArg V.bl (decide_eq_decide.mpr (by omega))
      by_cases hlt : Rn es g < m
      · rw [decide_eq_true hlt]
        refine iteT ⟨_, rfl, f, _, rfl, .inl (SqL.of hf4), _, _, rfl, rfl, true, congrArg V.bl (decide_eq_true (by omega)), iteT ?_⟩
        have hgl : g < es.length := by
          rcases Nat.lt_or_ge g es.length with h | h
          · exact h
          · have : g = es.length := by omega
            rw [this, Rn_all] at hlt
            omega
        have heg := List.getElem?_eq_getElem hgl
        obtain ⟨e, he⟩ : ∃ e, es[g] = e := ⟨_, rfl⟩
        rw [he] at heg
        have eok := ok e (List.mem_of_getElem? heg)
        have hdrop : ((rowsOf es).take m).drop (Rn es g) = (checkedE e ++ rowsOf (es.drop (g + 1))).take (m - Rn es g) := by
          rw [List.drop_take, rows_drop heg]
        refine ⟨fun σ' H' => ∃ (g' : Nat) (xs : List V) (o2 o5 : Option V), σ' = [some (.str z), some (.ref D), o2, some (.ref f), some (.int ((Rn es g' : Nat) : Int)), o5] ∧ g < g' ∧ g' ≤ es.length ∧ Rn es g' ≤ m ∧ Same H H' ∧ H' D = some (.lst (((rowsOf es).take m).map V.str)) ∧ H' f = some (.lst xs) ∧ All2 (rp (And1 (In H) f) H') xs (es.take g'),
          fun σ' H' ⟨g', xs', a2, a5, e1, e2, e3, e4, e5, e6, e7, e8⟩ => ⟨es.length - g', by omega, g', xs', a2, a5, e1, rfl, e3, e4, e5, e6, e7, e8⟩, ?_⟩
        refine ⟨_, rfl, _, rfl, D, Rn es g, (rowsOf es).take m, e, rfl, hD4, by rw [lm]; omega, eok, ?_⟩
        by_cases hfull : Rn es g + (checkedE e).length ≤ m
        · refine .inl ⟨(rowsOf (es.drop (g + 1))).take (m - Rn es g - (checkedE e).length), ?_, fun v H5 s5 rv => ?_⟩
          · rw [hdrop, List.take_append, List.take_of_length_le (by omega)]
          · have hf5 := s5 _ _ hf4
            refine ⟨_, rfl, rfl, false, congrArg V.bl (decide_eq_false (en_not_none rv)), iteF ?_⟩
            refine ⟨_, rfl, .inl ⟨rfl, _, SqL.of hf5⟩, _, rfl, f, xs, v, rfl, rfl, hf5, by omega, ?_⟩
            have rv2 : rp (And1 (In H) f) (upd H5 f (.lst (xs ++ [v]))) v e := by
              refine Rp.mono (SameN.upd (Or.inr rfl)) (Rp.weak (fun c z => ?_) rv)
              rcases z with z | z
              · obtain ⟨o, q⟩ := z
                exact ⟨o, s4 c o q⟩
              · rw [z]
                exact ⟨_, hf4⟩
            have rx2 : All2 (rp (And1 (In H) f) (upd H5 f (.lst (xs ++ [v])))) (xs ++ [v]) (es.take (g + 1)) := by
              rw [take_succ' heg]
              exact ((rx.monoR (SameN.of s5)).monoR (SameN.upd (Or.inr rfl))).append (.one rv2)
            have s6 : Same H (upd H5 f (.lst (xs ++ [v]))) := fun c o q => by
              rw [upd_ne (ne_of_none q hf0)]
              exact s5 c o (s4 c o q)
            have hD6 : upd H5 f (.lst (xs ++ [v])) D = some (.lst (((rowsOf es).take m).map V.str)) := by
              rw [upd_ne hDf]
              exact s5 _ _ hD4
            have hf6 : upd H5 f (.lst (xs ++ [v])) f = some (.lst (xs ++ [v])) := upd_same
            generalize upd H5 f (.lst (xs ++ [v])) = H6 at rv2 rx2 s6 hD6 hf6 ⊢
            refine ⟨_, rfl, _, rfl, And1 (In H) f, v, e, rfl, rv2, eok, fun D2 H7 hD2 s7 h7 => ?_⟩
            refine ⟨D2, _, rfl, .inl (SqL.of h7), _, _, rfl, rfl, ?_⟩
            refine ⟨g + 1, xs ++ [v], o2, some v, ?_, Nat.lt_succ_self _, hgl, by rw [Rn_succ heg]; exact hfull, s6.trans s7, s7 _ _ hD6, s7 _ _ hf6, rx2.monoR (SameN.of s7)⟩
            rw [Rn_succ heg, List.length_map]
            rfl
        · have hinr : ∃ t, e = .inr t := by
            cases e with
            | inl x =>
              exfalso
              have : (checkedE (.inl x)).length = 1 := rfl
              omega
            | inr t => exact ⟨t, rfl⟩
          obtain ⟨t, rfl⟩ := hinr
          have lc : (checkedE (.inr t)).length = t.items.length + 1 := rfl
          refine .inr ⟨t, m - Rn es g, rfl, by omega, by omega, ?_, fun H5 s5 => ?_⟩
          · rw [hdrop, List.take_append_of_le_length (by omega)]
          · refine ⟨_, rfl, rfl, true, rfl, iteT ?_⟩
            refine fin _ H5 rfl rfl s5 fun j hj1 hj2 => ?_
            have h1 := Rn_mono es (i := g + 1) (j := j) hj1
            rw [Rn_succ heg] at h1
            omega
      · rw [decide_eq_false hlt]
        refine iteF (fin _ H4 rfl rfl (Same.refl _) fun j hj1 hj2 => ?_)
        have hgl : g < es.length := by omega
        have h1 := Rn_mono es (i := g + 1) (j := j) hj1
        rw [Rn_succ (List.getElem?_eq_getElem hgl)] at h1
        have := checked_pos (e := es[g])
        omega
end
end Net
namespace Net
open PySem PySem.Spec PyProof.Rows L2
/-! ### logs -/
def loF (q : Addr) : List (Str × V) := putF "own_entries" (.ref q) []
theorem loF_entries (q : Addr) : (loF q).lookup ("own_entries" : Str) = some (.ref q) := by
  unfold loF
  rw [lookup_putF, if_pos rfl]
theorem loF_no (q : Addr) {m : Str} (h : ¬ m = "own_entries") : (loF q).lookup m = none := by
  unfold loF
  rw [lookup_putF, if_neg h]
  rfl
def LoAt (K : PySem.W.Frag) (N : Ad) (H : Hp) (v : V) (es : List En) : Prop := ∃ a dx q, v = .ref a ∧ ¬ N a ∧ H a = some (.ins (ga K "Log") dx (loF q)) ∧ rp N H (.ref q) (⟨es⟩ : Tp En)
theorem LoAt.mono {K : PySem.W.Frag} {N : Ad} {H H' : Hp} {v : V} {es : List En} (s : SameN N H H') (h : LoAt K N H v es) : LoAt K N H' v es :=
  let ⟨a, dx, q, e, na, ha, hq⟩ := h
  ⟨a, dx, q, e, na, s _ _ na ha, Rp.mono s hq⟩
theorem LoAt.weak {K : PySem.W.Frag} {N N' : Ad} {H : Hp} {v : V} {es : List En} (k : ∀ b, N' b → N b) (h : LoAt K N H v es) : LoAt K N' H v es :=
  let ⟨a, dx, q, e, na, ha, hq⟩ := h
  ⟨a, dx, q, e, fun z => na (k _ z), ha, Rp.weak k hq⟩
/-- entries that a log is made of -/
structure EsOk (es : List En) : Prop where
  ok : ∀ e ∈ es, EnOk e
  few : es.length ≤ 100
  rows : (rowsOf es).length ≤ 200
theorem lines_le : ∀ es : List En, (es.flatMap linesE).length ≤ (rowsOf es).length
  | [] => Nat.le_refl _
  | e :: es => by
    have h := lines_le es
    have h1 : (linesE e).length ≤ (checkedE e).length := by
      cases e with
      | inl x => exact Nat.le_refl _
      | inr t => exact Nat.le_succ _
    unfold rowsOf at h ⊢
    rw [List.flatMap_cons, List.flatMap_cons, List.length_append, List.length_append]
    omega
theorem EsOk.take {es : List En} (h : EsOk es) (g : Nat) : EsOk (es.take g) :=
  ⟨fun e m => h.ok e (List.mem_of_mem_take m), by rw [List.length_take]; have := h.few; omega, Nat.le_trans (Rn_le es g) h.rows⟩
theorem EsOk.drop {es : List En} (h : EsOk es) (g : Nat) : EsOk (es.drop g) := by
  refine ⟨fun e m => h.ok e (List.mem_of_mem_drop m), by rw [List.length_drop]; have := h.few; omega, ?_⟩
  have e : (rowsOf es).length = (rowsOf (es.take g)).length + (rowsOf (es.drop g)).length := by
    unfold rowsOf
    rw [← List.length_append, ← List.flatMap_append, List.take_append_drop]
  have := h.rows
  omega
/-- [line for entry in entries for line in f(entry)] -/
theorem lc2_lines {K : PySem.W.Frag} {N : Ad} {H : Hp} {q : Addr} {xs : List V} {es : List En} {f : En → List Str} {σ : L2.St} {ie il : Nat} {Q : VK} (hq : H q = some (.tup xs)) (hx : All2 (rp N H) xs es) (ok : ∀ e ∈ es, EnOk e) (few : (es.flatMap f).length ≤ 1000)
    (w1 : ∀ v, wipe ((wipe σ [ie, il]).set ie (some v)) [ie, il] = wipe σ [ie, il]) (w2 : ∀ v, ((wipe σ [ie, il]).set ie (some v))[ie]? = some (some v)) (w3 : ∀ (σ2 : L2.St) v, wipe ((wipe σ2 [il]).set il (some v)) [il] = wipe σ2 [il]) (w4 : ∀ v u, ((wipe ((wipe σ [ie, il]).set ie (some v)) [il]).set il (some u))[il]? = some (some u))
    (k : ∀ D H', H D = none → Same H H' → H' D = some (.lst ((es.flatMap f).map V.str)) → Q (.ref D) H') : ∀ D, H D = none → ∃ W : Nat → Nat → Hp → Prop, (∃ m, W 0 m (upd H D (.lst []))) ∧ ∀ i m H, W i m H →
  ((Itt K q).stop i H ∧ Q (.ref D) H) ∨ ((Itt K q).go i H ∧ ∃ Nx : Hp → Prop, (∀ H', Nx H' → ∃ m', m' < m ∧ W (i + 1) m' H') ∧ ∀ x H', (Itt K q).yld i H x H' → gName ie x (wipe σ [ie, il]) H' fun σ2 H2 => wipe σ2 [ie, il] = wipe σ [ie, il] ∧ tYes σ2 H2 fun b H3 =>
    if b = true then iList K (tCall (spLinesOf f) [] E0 (tCons (tVar ie) tNil)) σ2 H3 fun J1 H4 => ∃ W1 : Nat → Nat → Hp → Prop, (∃ m, W1 0 m H4) ∧ ∀ j k H, W1 j k H →
      (J1.stop j H ∧ Nx H) ∨ (J1.go j H ∧ ∃ Nx1 : Hp → Prop, (∀ H', Nx1 H' → ∃ k', k' < k ∧ W1 (j + 1) k' H') ∧ ∀ x H', J1.yld j H x H' → gName il x (wipe σ2 [il]) H' fun σ3 H5 => wipe σ3 [il] = wipe σ2 [il] ∧ tYes σ3 H5 fun b H6 =>
        if b = true then tVar il σ3 H6 fun y H7 => ∃ acc, H7 D = some (.lst acc) ∧ acc.length < sizeLine ∧ Nx1 (upd H7 D (.lst (acc ++ [y]))) else Nx1 H6)
    else Nx H3) := by
  intro D hD
  have hl := hx.length
  have hbig := big
  refine ⟨fun i m H' => m = xs.length - i ∧ i ≤ xs.length ∧ Same H H' ∧ H' D = some (.lst (((es.take i).flatMap f).map V.str)), ⟨_, rfl, Nat.zero_le _, Same.new hD, upd_same⟩, ?_⟩
  rintro i m H1 ⟨rfl, hi, s1, hD1⟩
  rcases Nat.lt_or_ge i xs.length with hlt | hge
  · refine .inr ⟨walk_tup.goes i H1 hlt (SqT.of (s1 _ _ hq)), fun H' => Same H H' ∧ H' D = some (.lst (((es.take (i + 1)).flatMap f).map V.str)), fun H' ⟨a, b⟩ => ⟨_, by omega, rfl, hlt, a, b⟩, fun x H2 y => ?_⟩
    obtain ⟨rfl, hy⟩ := walk_tup.yields i H1 x H2 hlt (SqT.of (s1 _ _ hq)) y
    obtain ⟨e, he, re⟩ := hx.get' hy
    have eok := ok e (List.mem_of_getElem? he)
    refine ⟨w1 x, ?_⟩
    dsimp only [tYes]
    rw [if_pos rfl]
    refine ⟨x, w2 x, N, x, e, rfl, Rp.mono (SameN.of s1) re, eok, fun D2 H3 hD2 s3 h3 => ?_⟩
    have s13 := s1.trans s3
    have hDD : D ≠ D2 := ne_of_none hD1 hD2
    have tk : (es.take (i + 1)).flatMap f = (es.take i).flatMap f ++ f e := by
      rw [take_succ' he, List.flatMap_append]
      simp
    have lt : ((es.take i).flatMap f).length + (f e).length ≤ 1000 := by
      have e1 : es.flatMap f = (es.take (i + 1)).flatMap f ++ (es.drop (i + 1)).flatMap f := by rw [← List.flatMap_append, List.take_append_drop]
      rw [e1, tk, List.length_append, List.length_append] at few
      omega
    refine ⟨D2, rfl, ⟨_, SqL.of h3⟩, fun j k' H' => k' = (f e).length - j ∧ j ≤ (f e).length ∧ Same H H' ∧ H' D2 = some (.lst ((f e).map V.str)) ∧ H' D = some (.lst (((es.take i).flatMap f ++ (f e).take j).map V.str)), ⟨_, rfl, Nat.zero_le _, s13, h3, ?_⟩, ?_⟩
    · rw [s3 _ _ hD1, List.take_zero, List.append_nil]
    · rintro j k' H4 ⟨rfl, hj, s4, h4, hD4⟩
      have lmap : ((f e).map V.str).length = (f e).length := List.length_map _
      rcases Nat.lt_or_ge j (f e).length with jlt | jge
      · refine .inr ⟨walk_list.goes j H4 (by rw [lmap]; exact jlt) (SqL.of h4), fun H' => Same H H' ∧ H' D2 = some (.lst ((f e).map V.str)) ∧ H' D = some (.lst (((es.take i).flatMap f ++ (f e).take (j + 1)).map V.str)), fun H' ⟨a, b, c⟩ => ⟨_, by omega, rfl, jlt, a, b, c⟩, fun u H5 yu => ?_⟩
        obtain ⟨rfl, hu⟩ := walk_list.yields j H4 u H5 (by rw [lmap]; exact jlt) (SqL.of h4) yu
        rw [List.getElem?_map] at hu
        cases z : (f e)[j]? with
        | none =>
          rw [z] at hu
          cases hu
        | some c =>
          rw [z] at hu
          cases hu
          refine ⟨w3 _ _, ?_⟩
          try dsimp only [tYes]
          rw [if_pos rfl]
          refine ⟨_, w4 x (.str c), _, hD4, ?_, fun b o q' => ?_, ?_, ?_⟩
          · rw [List.length_map, List.length_append, List.length_take]
            omega
          · rw [upd_ne (ne_of_none q' hD)]
            exact s4 b o q'
          · rw [upd_ne (Ne.symm hDD)]
            exact h4
          · rw [upd_same, take_succ' z]
            simp only [List.map_append, List.append_assoc, List.map_cons, List.map_nil]
      · have ej : j = (f e).length := by omega
        subst ej
        refine .inl ⟨walk_list.stops H4 (by rw [lmap] at *; exact SqL.of h4) |> fun q => by simpa using q, s4, ?_⟩
        rw [hD4, List.take_length, tk]
  · have ei : i = xs.length := by omega
    subst ei
    refine .inl ⟨walk_tup.stops H1 (SqT.of (s1 _ _ hq)), k D H1 hD s1 ?_⟩
    rw [hD1, hl, List.take_length]
def spLogInit (K : PySem.W.Frag) : Sp := fun vs H Q _ => ∃ (N : Ad) (p dx : Addr) (v : V) (es : List En), vs = [.ref p, v] ∧ H p = some (.ins (ga K "Log") dx []) ∧ (rp (And1 N p) H v es ∨ rp (And1 N p) H v (⟨es⟩ : Tp En)) ∧ EsOk es ∧ Dom N H ∧ ¬ N p ∧
  ∀ H', SameN (fun b => b = p) H H' → LoAt K N H' (.ref p) es → Q .non H'
theorem make_log {K : PySem.W.Frag} {N : Ad} {H : Hp} {v : V} {es : List En} {Q : VK} {E : XK} (hv : rp N H v es ∨ rp N H v (⟨es⟩ : Tp En)) (ok : EsOk es) (dom : Dom N H)
    (k : ∀ u H', Same H H' → LoAt K N H' u es → Q u H') (x dx : Addr) (hx1 : H x = none) (hdx : H dx = none) (hne : dx ≠ x) :
    spLogInit K (.ref x :: ([v] ++ [])) (upd (upd H dx (.own x)) x (.ins (ga K "Log") dx [])) (fun v H2 => v = .non ∧ Q (.ref x) H2) E := by
  have s1 : Same H (upd (upd H dx (.own x)) x (.ins (ga K "Log") dx [])) := (Same.new hdx).lay (by rw [upd_ne (Ne.symm hne)]; exact hx1)
  have kk : ∀ b, And1 N x b → N b ∨ H b = none := fun b z => z.elim .inl fun e => .inr (by rw [e]; exact hx1)
  refine ⟨N, x, dx, v, es, rfl, upd_same, ?_, ok, dom.same s1, dom.not hx1, fun H' s2 lo => ⟨rfl, k _ _ (fun b o e => s2 b o (ne_of_none e hx1) (s1 b o e)) lo⟩⟩
  rcases hv with hv | hv
  · exact .inl (Rp.mono (SameN.of s1) (Rp.fr kk hv))
  · exact .inr (Rp.mono (SameN.of s1) (Rp.fr kk hv))
end Net
namespace Net
open PySem PySem.Spec PyProof.Rows L2
def spLoLines (K : PySem.W.Frag) : Sp := fun vs H Q _ => ∃ (N : Ad) (v : V) (es : List En), vs = [v] ∧ LoAt K N H v es ∧ EsOk es ∧ ∀ D H', H D = none → Same H H' → H' D = some (.lst ((es.flatMap linesE).map V.str)) → Q (.ref D) H'
def textOf (es : List En) : Str := Txt.join (Str.ofString "") ((rowsOf es).map rowT)
def spLoText (K : PySem.W.Frag) : Sp := fun vs H Q _ => ∃ (N : Ad) (v : V) (es : List En), vs = [v] ∧ LoAt K N H v es ∧ EsOk es ∧ ∀ H', Same H H' → Q (.str (textOf es)) H'
def spFirst (K : PySem.W.Frag) : Sp := fun vs H Q _ => ∃ (N : Ad) (v : V) (es : List En) (g : Nat), vs = [v, .int (g : Int)] ∧ LoAt K N H v es ∧ EsOk es ∧ Dom N H ∧ g ≤ es.length ∧ ∀ u H', Same H H' → LoAt K N H' u (es.take g) → Q u H'
def LoEq (K : PySem.W.Frag) (a b : Addr) (H : Hp) : Prop := ∃ (N M : Ad) (es : List En), LoAt K N H (.ref a) es ∧ LoAt K M H (.ref b) es
theorem LoEq.ext {K : PySem.W.Frag} (a b : Addr) (H H' : Hp) (e : Ext H H') (h : LoEq K a b H) : LoEq K a b H' :=
  let ⟨N, M, S, h1, h2⟩ := h
  ⟨N, M, S, h1.mono (SameN.of e), h2.mono (SameN.of e)⟩
/-- a slice from the front of a tuple of entries -/
theorem cut_pre {α : List V} {g : Nat} (h : g ≤ α.length) : cutV α none (some (g : Int)) = α.take g := by
  unfold cutV
  rw [HT.sIx_none, HT.sIx_nat, Nat.min_eq_left h, List.drop_zero, Nat.sub_zero]
theorem cut_suf {α : List V} {g : Nat} (h : g ≤ α.length) : cutV α (some (g : Int)) none = α.drop g := by
  unfold cutV
  rw [HT.sIx_none, HT.sIx_nat, Nat.min_eq_left h]
  have : (α.drop g).length = α.length - g := List.length_drop
  rw [← this, List.take_length]
theorem row_room {x : Str} (h : x.length ≤ 200) : (rowT x).length ≤ 205 := by
  rw [len_tl, tl_rowT, List.length_append, ← len_tl, body_len]
  simp
  omega
theorem sum_le : ∀ (l : List Str) (m : Nat), (∀ x ∈ l, x.length ≤ m) → (l.map fun x => x.length).sum ≤ m * l.length
  | [], _, _ => Nat.le_refl _
  | x :: l, m, h => by
    have h1 := h x List.mem_cons_self
    have h2 := sum_le l m fun y hy => h y (List.mem_cons_of_mem _ hy)
    rw [List.map_cons, List.sum_cons, List.length_cons, Nat.mul_succ]
    omega
section
variable {P : Program} {w : World} {K : PySem.W.Frag} {mg : Str → Option Value} {base : Heap}
abbrev nLogI : List Str := ["self", "entries", "position", "entry"]
theorem sc_Log_init : FnScope nLogI ["self", "entries"] (defScope s_Log_init) := ⟨rfl, rfl, rfl, by decide +kernel, rfl, by decide +kernel, by decide +kernel⟩
theorem ok_Log_init (T : NT K mg) : Cal P w K mg base (He.ma K (ga K "Log") "__init__") 3 ["self", "entries"] (spLogInit K) := by
  obtain ⟨fd, F⟩ := T.D_Log_init
  obtain ⟨ds, hds, hb⟩ := F.binds1 (ps := ["self", "entries"]) 2 1 (by intro z; cases z) rfl (fun Tt kV doc pm an cdv ct us its hl hi => match us, its, hl, hi with
    | [_, _], [_], _, _ => ⟨_, rfl, rfl⟩)
  cases hds
  refine Cal.of F hb sc_Log_init (fun vs H Q E h => ?_) (fun cdv A outer s H vs Q E hr h => ?_)
  · obtain ⟨N, p, dx, v, es, rfl, _⟩ := h
    rfl
  · obtain ⟨N, p, dx, v, es, rfl, hp, hv, ok, dom, np, k⟩ := h
    have nd := sc_Log_init.nd
    have few := ok.few
    -- the end, for a tuple q of the entries
    have fin : ∀ (q : Addr) (xs : List V) (H1 : Hp), Same H H1 → H1 q = some (.tup xs) → ¬ And1 N p q → All2 (rp (And1 N p) H1) xs es → ∀ H2, H2 = upd H1 p (.ins (ga K "Log") dx (putF "own_entries" (.ref q) [])) → Q .non H2 := by
      intro q xs H1 s1 hq hnq hx H2 e
      subst e
      have hqp : q ≠ p := fun z => hnq (.inr z)
      refine k _ ((SameN.of s1).upd' rfl) ⟨p, dx, q, rfl, np, upd_same, q, xs, rfl, fun z => hnq (.inl z), (by rw [upd_ne hqp]; exact hq), ?_⟩
      exact ((hx.monoR (SameN.upd (Or.inr rfl))).weakR (N' := N) fun b z => .inl z)
    rcases hv with ⟨a, xs, rfl, na, ha, hx⟩ | ⟨a, xs, rfl, na, ha, hx⟩
    · have hl := hx.length
      refine ⟨_, pss_cons (ps_if (pt_not (pt_val (pe_f (ok_is_list T) T.g_is_list (hr.mono (by decide)) (pa_cons (pv 1) pa_nil)))) (pss_one ps_never) pss_nil)
        (pss_cons (ps_for PassesOwn.never rfl (pi_enum (by rfl) T.b_enumerate (pa_cons (pv 1) pa_nil)) (pg_tup rfl (pgs_cons (pg_name (i := 2) nd rfl (Or.inl rfl)) (pgs_cons (pg_name (i := 3) nd rfl (Or.inl rfl)) pgs_nil)))
          (pss_one (ps_if (pt_not (pt_val (pe_f (ok_is_entry T) T.g_is_entry (hr.mono (by decide)) (pa_cons (pv 3) pa_nil)))) (pss_one ps_never) pss_nil)))
        (pss_cons (ps_if (pt_cmpR op_gt (pe_b call_len_seq T.b_len (pa_cons (pv 1) pa_nil)) (pe_ci T.i_MOST_ENTRIES) (nomark _)) (pss_one ps_never) pss_nil)
        (pss_one (ps_fld (pv 0) (pe_tupleOf (by rfl) T.b_tuple (pv 1)) rfl)))), ?_⟩
      refine ⟨_, rfl, a, xs, rfl, .inl ha, fun H1 s1 => ⟨true, rfl, iteF ?_⟩⟩
      refine ⟨_, rfl, a, xs, rfl, SqL.of (s1 _ _ ha), for_it walk_enum (fun i σ H' => ∃ v3 v4 : Option V, σ = [some (.ref p), some (.ref a), v3, v4] ∧ Same H H')
        ⟨none, none, rfl, s1⟩ (fun i σ H' _ ⟨_, _, _, s3⟩ => SqL.of (s3 _ _ ha)) ?_ ?_⟩
      · rintro i x σ H2 H3 hi ⟨v3, v4, rfl, s3⟩ ⟨q, y, z, rfl, hq, rfl, e1, e2⟩
        obtain ⟨l, hl1, hl2⟩ := hx.get' e2
        have s4 : Same H (upd H2 q (.tup [y, z])) := s3.lay hq
        refine ⟨q, _, rfl, SqT.of upd_same, rfl, y, _, rfl, _, _, rfl, rfl, ?_⟩
        exact ⟨_, rfl, And1 N p, z, l, rfl, Rp.mono (SameN.of s4) hl2, ok.ok l (List.mem_of_getElem? hl1), fun H' s5 => ⟨true, rfl, iteF ⟨_, _, rfl, s4.trans s5⟩⟩⟩
      · rintro σ H2 ⟨v3, v4, rfl, s2⟩
        refine ⟨_, rfl, a, xs, rfl, .inl (SqL.of (s2 _ _ ha)), _, 300, rfl, rfl, false, congrArg V.bl (decide_eq_false (by omega)), iteF ?_⟩
        refine ⟨_, rfl, .inl ⟨a, xs, rfl, SqL.of (s2 _ _ ha), fun q hq => ?_⟩⟩
        have hqn : ¬ And1 N p q := fun z => by
          rcases z with z | z
          · obtain ⟨o, e⟩ := dom q z
            rw [s2 _ _ e] at hq
            cases hq
          · rw [z, s2 _ _ hp] at hq
            cases hq
        have hqp : q ≠ p := fun z => hqn (.inr z)
        have s3 : Same H (upd H2 q (.tup xs)) := s2.lay hq
        exact ⟨_, rfl, p, _, dx, [], rfl, s3 _ _ hp, T.c_Log, T.n_Log_own_entries, (by show 0 < 1000; decide), fin q xs _ s3 upd_same hqn (hx.monoR (SameN.of s3)) _ rfl⟩
    · have hl := hx.length
      have hle : xs.length = es.length := hl
      refine ⟨_, pss_cons (ps_if (pt_not (pt_val (pe_f (ok_is_list T) T.g_is_list (hr.mono (by decide)) (pa_cons (pv 1) pa_nil)))) (pss_one ps_never) pss_nil)
        (pss_cons (ps_for PassesOwn.never rfl (pi_enumT (by rfl) T.b_enumerate (pa_cons (pv 1) pa_nil)) (pg_tup rfl (pgs_cons (pg_name (i := 2) nd rfl (Or.inl rfl)) (pgs_cons (pg_name (i := 3) nd rfl (Or.inl rfl)) pgs_nil)))
          (pss_one (ps_if (pt_not (pt_val (pe_f (ok_is_entry T) T.g_is_entry (hr.mono (by decide)) (pa_cons (pv 3) pa_nil)))) (pss_one ps_never) pss_nil)))
        (pss_cons (ps_if (pt_cmpR op_gt (pe_b call_len_seq T.b_len (pa_cons (pv 1) pa_nil)) (pe_ci T.i_MOST_ENTRIES) (nomark _)) (pss_one ps_never) pss_nil)
        (pss_one (ps_fld (pv 0) (pe_tupleOf (by rfl) T.b_tuple (pv 1)) rfl)))), ?_⟩
      refine ⟨_, rfl, a, xs, rfl, .inr ha, fun H1 s1 => ⟨true, rfl, iteF ?_⟩⟩
      refine ⟨_, rfl, a, xs, rfl, SqT.of (s1 _ _ ha), for_it walk_enumT (fun i σ H' => ∃ v3 v4 : Option V, σ = [some (.ref p), some (.ref a), v3, v4] ∧ Same H H')
        ⟨none, none, rfl, s1⟩ (fun i σ H' _ ⟨_, _, _, s3⟩ => SqT.of (s3 _ _ ha)) ?_ ?_⟩
      · rintro i x σ H2 H3 hi ⟨v3, v4, rfl, s3⟩ ⟨q, y, z, rfl, hq, rfl, e1, e2⟩
        obtain ⟨l, hl1, hl2⟩ := hx.get' e2
        have s4 : Same H (upd H2 q (.tup [y, z])) := s3.lay hq
        refine ⟨q, _, rfl, SqT.of upd_same, rfl, y, _, rfl, _, _, rfl, rfl, ?_⟩
        exact ⟨_, rfl, And1 N p, z, l, rfl, Rp.mono (SameN.of s4) hl2, ok.ok l (List.mem_of_getElem? hl1), fun H' s5 => ⟨true, rfl, iteF ⟨_, _, rfl, s4.trans s5⟩⟩⟩
      · rintro σ H2 ⟨v3, v4, rfl, s2⟩
        refine ⟨_, rfl, a, xs, rfl, .inr (SqT.of (s2 _ _ ha)), _, 300, rfl, rfl, false, congrArg V.bl (decide_eq_false (by omega)), iteF ?_⟩
        refine ⟨_, rfl, .inr ⟨a, xs, rfl, SqT.of (s2 _ _ ha), ?_⟩⟩
        exact ⟨_, rfl, p, _, dx, [], rfl, s2 _ _ hp, T.c_Log, T.n_Log_own_entries, (by show 0 < 1000; decide), fin a xs _ s2 (s2 _ _ ha) na (hx.monoR (SameN.of s2)) _ rfl⟩
theorem sc_Log_lines : FnScope ["self", "entry", "line"] ["self"] (defScope s_Log_lines) := ⟨rfl, rfl, rfl, by decide +kernel, rfl, by decide +kernel, by decide +kernel⟩
theorem ok_Log_lines (T : NT K mg) : Cal P w K mg base (He.ma K (ga K "Log") "lines") 2 ["self"] (spLoLines K) := by
  obtain ⟨fd, F⟩ := T.D_Log_lines
  refine Cal.of F (F.bindsN fun _ _ _ _ _ _ us hl => match us, hl with | [_], _ => rfl) sc_Log_lines (fun vs H Q E h => ?_) (fun cdv A outer s H vs Q E hr h => ?_)
  · obtain ⟨N, v, es, rfl, _⟩ := h
    rfl
  · obtain ⟨N, v, es, rfl, ⟨a, dx, q, rfl, na, ha, q', xs, e, nq, hq, hx⟩, ok, k⟩ := h
    cases e
    have nd := sc_Log_lines.nd
    refine ⟨_, pss_one (ps_ret (pe_lc2 (own := [("entry", 1), ("line", 2)]) (vs1 := [2]) (g := gName 1) (tt := tYes) (g1 := gName 2) (tt1 := tYes) (wi1 := iList K (tCall (spLinesOf linesE) [] E0 (tCons (tVar 1) tNil))) rfl nd (pi_tup (pe_fld (pv 0) rfl)) (blkOk_by (N := ["self", "entry", "line"]) (sc := defScope s_Log_lines) (by decide +kernel)) (by decide)
      (fun _ _ _ _ _ => pg_name (i := 1) nd rfl (Or.inl rfl)) (fun _ _ _ _ _ => pts_nil) (fun _ _ _ _ _ => pi_list (pe_f (ok_own_lines T) T.g_own_lines (hr.mono (by decide)) (pa_cons (pv 1) pa_nil)))
      (fun _ _ _ _ _ => pg_name (i := 2) nd rfl (Or.inl rfl)) (fun _ _ _ _ _ => pts_nil) (fun _ _ _ _ _ => pv 2))), ?_⟩
    refine ⟨_, rfl, a, _, dx, _, _, rfl, ha, T.c_Log, T.n_Log_own_entries, loF_entries _, q, rfl, ⟨xs, SqT.of hq⟩, ?_⟩
    exact lc2_lines (es := es) (f := linesE) (ie := 1) (il := 2) hq hx ok.ok (by have := lines_le es; have := ok.rows; omega) (fun _ => rfl) (fun _ => rfl) (fun σ2 v => by simp [wipe, List.set_set]) (fun _ _ => rfl) k
end
end Net
namespace Net
open PySem PySem.Spec PyProof.Rows L2
def spParted (K : PySem.W.Frag) : Sp := fun vs H Q _ => ∃ (N : Ad) (v : V) (es : List En) (x : Str), vs = [v, .str x] ∧ LoAt K N H v es ∧ EsOk es ∧ Dom N H ∧ CL x ∧ ∀ (p : Addr) (u w : V) (at_ : Nat) (H' : Hp), Same H H' → H' p = some (.tup [u, w]) → LoAt K N H' u (es.take at_) → LoAt K N H' w (es.drop at_) → Q (.ref p) H'
def spTorn (K : PySem.W.Frag) : Sp := fun vs H Q _ => ∃ (z : Str) (es : List En) (m : Nat) (part : Str), vs = [.str z] ∧ z.length ≤ 50000 ∧ Txt.split z nl = ((rowsOf es).take m).map bodyT ++ [part] ∧ EsOk es ∧ m ≤ (rowsOf es).length ∧
  ∀ (p : Addr) (u : V) (g : Nat) (H' : Hp), Same H H' → H' p = some (.tup [u, .int ((Rn es g : Nat) : Int)]) → LoAt K (In H) H' u (es.take g) → g ≤ es.length → Rn es g ≤ m → (∀ j, g < j → j ≤ es.length → m < Rn es j) → Q (.ref p) H'
def spRead (K : PySem.W.Frag) : Sp := fun vs H Q _ => ∃ (es : List En) (part : Str), vs = [.str (textOf es)] ∧ (textOf es).length ≤ 50000 ∧ Txt.split (textOf es) nl = (rowsOf es).map bodyT ++ [part] ∧ EsOk es ∧ ∀ u H', Same H H' → LoAt K (In H) H' u es → Q u H'
section
variable {P : Program} {w : World} {K : PySem.W.Frag} {mg : Str → Option Value} {base : Heap}
theorem sc_Log_text : FnScope ["self", "rows", "entry", "line"] ["self"] (defScope s_Log_text) := ⟨rfl, rfl, rfl, by decide +kernel, rfl, by decide +kernel, by decide +kernel⟩
theorem ok_Log_text (T : NT K mg) : Cal P w K mg base (He.ma K (ga K "Log") "text") 2 ["self"] (spLoText K) := by
  obtain ⟨fd, F⟩ := T.D_Log_text
  refine Cal.of F (F.bindsN fun _ _ _ _ _ _ us hl => match us, hl with | [_], _ => rfl) sc_Log_text (fun vs H Q E h => ?_) (fun cdv A outer s H vs Q E hr h => ?_)
  · obtain ⟨N, v, es, rfl, _⟩ := h
    rfl
  · obtain ⟨N, v, es, rfl, ⟨a, dx, q, rfl, na, ha, q', xs, e, nq, hq, hx⟩, ok, k⟩ := h
    cases e
    have nd := sc_Log_text.nd
    have hbig := big
    have hrows := ok.rows
    refine ⟨_, pss_cons (ps_setLc2 (i := 1) (own := [("entry", 2), ("line", 3)]) (vs1 := [3]) (g := gName 2) (tt := tYes) (g1 := gName 3) (tt1 := tYes) (te := tVar 3) (wi1 := iList K (tCall (spLinesOf checkedE) [] E0 (tCons (tVar 2) tNil))) rfl nd rfl rfl (sw_true rfl rfl rfl rfl) (pi_tup (pe_fld (pv 0) rfl)) (blkOk_by (N := ["self", "rows", "entry", "line"]) (sc := defScope s_Log_text) (by decide +kernel)) (by decide)
        (fun _ _ _ _ _ => pg_name (i := 2) nd rfl (Or.inl rfl)) (fun _ _ _ _ _ => pts_nil) (fun _ _ _ _ _ => pi_list (pe_f (ok_checked_lines T) T.g_checked_lines (hr.mono (by decide)) (pa_cons (pv 2) pa_nil)))
        (fun _ _ _ _ _ => pg_name (i := 3) nd rfl (Or.inl rfl)) (fun _ _ _ _ _ => pts_nil) (fun _ _ _ _ _ => pv 3))
      (pss_one (ps_ret (pe_join pe_str (pe_lc (own := [("line", 3)]) (g := gName 3) (tt := tYes) rfl nd (pi_list (pv 1)) (blkOk_by (N := ["self", "rows", "entry", "line"]) (sc := defScope s_Log_text) (by decide +kernel))
        (fun _ _ _ _ _ => pg_name (i := 3) nd rfl (Or.inl rfl)) (fun _ _ _ _ _ => pts_nil)
        (fun _ _ _ _ _ => pe_op op_add_str (pe_op op_add_str (pe_op op_add_str (pv 3) (pe_cs T.x_BLANK)) (pe_f (ok_check_by T) T.g_check_by (hr.mono (by decide)) (pa_cons (pv 3) pa_nil))) pe_str))))), ?_⟩
    refine ⟨_, rfl, a, _, dx, _, _, rfl, ha, T.c_Log, T.n_Log_own_entries, loF_entries _, q, rfl, ⟨xs, SqT.of hq⟩, ?_⟩
    refine lc2_lines (K := K) (Q := fun x H1 => gName 1 x [some (V.ref a), none, none, none] H1 _) (σ := [some (.ref a), none, none, none]) (es := es) (f := checkedE) (ie := 2) (il := 3) hq hx ok.ok (by show (rowsOf es).length ≤ 1000; omega) (fun _ => rfl) (fun _ => rfl) (fun σ2 v => by simp [wipe, List.set_set]) (fun _ _ => rfl) fun D H1 hD s1 hD1 => ?_
    refine ⟨⟨_, rfl⟩, _, rfl, D, rfl, ⟨_, SqL.of hD1⟩, fun D2 hD2 => ?_⟩
    refine lc_rp (β := Str) (walk_list (xs := (es.flatMap checkedE).map V.str)) ((rowsOf es).map rowT) (by rw [List.length_map, List.length_map]; rfl) (by rw [List.length_map]; show (rowsOf es).length ≤ _; omega) (fun _ => False) hD2 (fun H2 s2 => SqL.of (s2 _ _ hD1)) yAt_same (fun j b y H3 H2 K1 hb s2 _ hy k1 => ?_) (fun H2 acc s2 hacc r => ?_)
    · obtain ⟨rfl, hy⟩ := hy
      rw [List.getElem?_map] at hy hb
      cases z : (rowsOf es)[j]? with
      | none =>
        rw [z] at hb
        cases hb
      | some x =>
        rw [z] at hb
        replace hy : ((rowsOf es)[j]?).map V.str = some y := hy
        rw [z] at hy
        cases hb
        cases hy
        have lr := rows_lr ok.ok x (List.mem_of_getElem? z)
        have l2 := lr.l2
        have lb : blank.length = 1 := by rw [len_tl, tl_blank]; rfl
        have ln : nl.length = 1 := by rw [len_tl, tl_nl]; rfl
        have lc : (chk x).length = 3 := by rw [len_tl, chk_len]
        have la : (x ++ blank).length = x.length + 1 := by rw [len_tl, tl_append, List.length_append, ← len_tl, tl_blank]; rfl
        refine ⟨wipe1 _ _ _, _, rfl, x, blank, rfl, rfl, by omega, _, rfl, x, rfl, l2, lr.row, fun H' s3 => ⟨_, chk x, rfl, rfl, by omega, _, nl, rfl, rfl, ?_, k1 _ _ s3 rfl⟩⟩
        have : ((x ++ blank) ++ chk x).length = x.length + 4 := body_len x
        omega
    · have eacc := strs_of r
      subst eacc
      refine ⟨Str.ofString "", D2, (rowsOf es).map rowT, rfl, rfl, .inl (SqL.of hacc), ?_, k _ (s1.trans s2)⟩
      have h1 := sum_le ((rowsOf es).map rowT) 205 fun y hy => by
        obtain ⟨x, hx, rfl⟩ := List.mem_map.mp hy
        exact row_room (rows_lr ok.ok x hx).l2
      rw [List.length_map] at h1 ⊢
      have h2 : (Str.ofString "").length = 0 := by decide +kernel
      rw [h2, Nat.mul_zero]
      omega
theorem sc_Log_first : FnScope ["self", "many"] ["self", "many"] (defScope s_Log_first) := ⟨rfl, rfl, rfl, by decide +kernel, rfl, by decide +kernel, by decide +kernel⟩
theorem ok_Log_first (T : NT K mg) : Cal P w K mg base (He.ma K (ga K "Log") "first") 5 ["self", "many"] (spFirst K) := by
  obtain ⟨fd, F⟩ := T.D_Log_first
  refine Cal.of F (F.bindsN fun _ _ _ _ _ _ us hl => match us, hl with | [_, _], _ => rfl) sc_Log_first (fun vs H Q E h => ?_) (fun cdv A outer s H vs Q E hr h => ?_)
  · obtain ⟨N, v, es, g, rfl, _⟩ := h
    rfl
  · obtain ⟨N, v, es, g, rfl, ⟨a, dx, q, rfl, na, ha, q', xs, e, nq, hq, hx⟩, ok, dom, hg, k⟩ := h
    cases e
    have hl : xs.length = es.length := hx.length
    refine ⟨_, pss_cons (ps_if (PW.pt (pw_or (pt_not (pt_val (pe_f (ok_is_count T) T.g_is_count (hr.mono (by decide)) (pa_cons (pv 1) pa_nil)))) (pw_or1 (pt_cmpR op_gt (pv 1) (pe_b call_len_seq T.b_len (pa_cons (pe_fld (pv 0) rfl) pa_nil)) (nomark _))))) (pss_one ps_never) pss_nil)
      (pss_one (ps_ret (pe_mk T.k_Log (ok_Log_init T) T.g_Log (hr.mono (by decide)) (pa_cons (pe_slice sl_tupA (pe_fld (pv 0) rfl) po_none (po_some (pv 1))) pa_nil)))), ?_⟩
    refine ⟨_, rfl, (g : Int), rfl, by omega, true, rfl, iteF ?_⟩
    refine ⟨_, rfl, _, rfl, a, _, dx, _, _, rfl, ha, T.c_Log, T.n_Log_own_entries, loF_entries _, q, xs, rfl, .inr (SqT.of hq), _, _, rfl, rfl, false, congrArg V.bl (decide_eq_false (by omega)), iteF ?_⟩
    refine ⟨_, rfl, a, _, dx, _, _, rfl, ha, T.c_Log, T.n_Log_own_entries, loF_entries _, _, rfl, _, rfl, q, xs, rfl, SqT.of hq, fun hw => ?_, fun hw p hp => ?_⟩
    · rw [HT.sIx_nat, Nat.min_eq_left (by omega)] at hw
      have eg : es.take g = es := List.take_of_length_le (by omega)
      rw [eg] at k
      exact make_log (.inr ⟨q, xs, rfl, nq, hq, hx⟩) ok dom k
    · rw [cut_pre (by omega)]
      have s1 : Same H (upd H p (.tup (xs.take g))) := Same.new hp
      refine make_log (.inr ⟨p, _, rfl, dom.not hp, upd_same, (hx.take g).monoR (SameN.of s1)⟩) (ok.take g) (dom.same s1) fun u H' s2 lo => k u H' (s1.trans s2) lo
theorem sc_Log_eq : FnScope ["self", "other"] ["self", "other"] (defScope s_Log_eq) := ⟨rfl, rfl, rfl, by decide +kernel, rfl, by decide +kernel, by decide +kernel⟩
theorem ok_Log_eq (T : NT K mg) : Cal P w K mg base (He.ma K (ga K "Log") "__eq__") 2 ["self", "other"] (spEq (LoEq K)) := by
  obtain ⟨fd, F⟩ := T.D_Log_eq
  refine Cal.of F (F.bindsN fun _ _ _ _ _ _ us hl => match us, hl with | [_, _], _ => rfl) sc_Log_eq (fun vs H Q E h => ?_) (fun cdv A outer s H vs Q E hr h => ?_)
  · obtain ⟨a, b, rfl, _⟩ := h
    rfl
  · obtain ⟨a, b, rfl, ⟨N, M, es, ⟨_, dx, q, e1, na, ha, hq⟩, ⟨_, dx2, q2, e2, nb, hb, hq2⟩⟩, k⟩ := h
    cases e1
    cases e2
    refine ⟨_, pss_cons (ps_if (pt_not (pt_val (pe_b (cr_isOwn T.c_Log T.e_iLog (if_pos (beq_self_eq_true _))) T.b_isinstance (pa_cons (pv 1) (pa_cons (pe_cc T.g_Log) pa_nil))))) (pss_one (ps_ret pe_bl)) pss_nil)
      (pss_one (ps_ret (pe_cmpR (op_eqC (α := Tp En) hr.units) (pe_fld (pv 0) rfl) (pe_fld (pv 1) rfl) (nomark _)))), ?_⟩
    refine ⟨_, rfl, b, dx2, _, rfl, hb, true, rfl, iteF ?_⟩
    refine ⟨_, rfl, a, _, dx, _, _, rfl, ha, T.c_Log, T.n_Log_own_entries, loF_entries _, _, rfl, b, _, dx2, _, _, rfl, hb, T.c_Log, T.n_Log_own_entries, loF_entries _, N, M, ⟨es⟩, ⟨es⟩, hq, hq2, ?_⟩
    rw [decide_eq_true rfl]
    exact k H Ext.rfl'
end
end Net
namespace Net
open PySem PySem.Spec PyProof.Rows L2
theorem mk_log {K : PySem.W.Frag} {N : Ad} {H : Hp} {v : V} {es : List En} {R : Addr → Hp → Prop} {E : XK} (hv : rp N H v es ∨ rp N H v (⟨es⟩ : Tp En)) (ok : EsOk es) (dom : Dom N H)
    (k : ∀ a H', Same H H' → LoAt K N H' (.ref a) es → R a H') (x dx : Addr) (hx1 : H x = none) (hdx : H dx = none) (hne : dx ≠ x) :
    spLogInit K (.ref x :: ([v] ++ [])) (upd (upd H dx (.own x)) x (.ins (ga K "Log") dx [])) (fun v H2 => v = .non ∧ R x H2) E :=
by
  obtain ⟨N', p', dx', v', es', e1, h1, h2, h3, h4, h5, h6⟩ := make_log (E := E) (Q := fun u H' => ∃ a, u = .ref a ∧ R a H') hv ok dom (fun u H' s lo => by
    obtain ⟨a, dx, q, e, z⟩ := id lo
    exact ⟨a, e, k a H' s (by rw [← e]; exact lo)⟩) x dx hx1 hdx hne
  refine ⟨N', p', dx', v', es', e1, h1, h2, h3, h4, h5, fun H' s lo => ?_⟩
  obtain ⟨a, b, c, d⟩ := h6 H' s lo
  cases c
  exact ⟨a, d⟩
section
variable {P : Program} {w : World} {K : PySem.W.Frag} {mg : Str → Option Value} {base : Heap}
theorem EsOk.rows1000 {es : List En} (h : EsOk es) : (rowsOf es).length ≤ 1000 := by have := h.rows; omega
theorem sc_Log_torn : FnScope ["text", "entries", "lines"] ["text"] (defScope s_Log_torn) := ⟨rfl, rfl, rfl, by decide +kernel, rfl, by decide +kernel, by decide +kernel⟩
theorem ok_Log_torn (T : NT K mg) : Cal P w K mg base (He5.wf K (ga K "Log") "staticmethod" "torn") 5 ["text"] (spTorn K) := by
  obtain ⟨fd, F⟩ := T.D_Log_torn
  refine Cal.of F (F.bindsN fun _ _ _ _ _ _ us hl => match us, hl with | [_], _ => rfl) sc_Log_torn (fun vs H Q E h => ?_) (fun cdv A outer s H vs Q E hr h => ?_)
  · obtain ⟨z, es, m, part, rfl, _⟩ := h
    rfl
  · obtain ⟨z, es, m, part, rfl, hz, hsp, ok, hm, k⟩ := h
    have nd := sc_Log_torn.nd
    refine ⟨_, pss_cons (ps_if (pt_not (pt_val (pe_b (cr_is "str") T.b_isinstance (pa_cons (pv 0) (pa_cons (pe_ty "str" T.b_str) pa_nil))))) (pss_one ps_never) pss_nil)
      (pss_cons (ps_asg (pe_f (ok_good_part T) T.g_good_part (hr.mono (by decide)) (pa_cons (pv 0) pa_nil)) (pg_tup rfl (pgs_cons (pg_name (i := 1) nd rfl (Or.inl rfl)) (pgs_cons (pg_name (i := 2) nd rfl (Or.inl rfl)) pgs_nil))))
      (pss_one (ps_ret (pe_tup (pa_cons (pe_mk T.k_Log (ok_Log_init T) T.g_Log (hr.mono (by decide)) (pa_cons (pv 1) pa_nil)) (pa_cons (pv 2) pa_nil)))))), ?_⟩
    refine ⟨_, rfl, _, "str", true, rfl, .base (.str _), by decide +kernel, true, rfl, iteF ?_⟩
    refine ⟨_, rfl, z, es, m, part, rfl, hz, hsp, ok.ok, ok.few, ok.rows1000, hm, fun p f g H1 s1 hp hf hg hR hj => ?_⟩
    refine ⟨p, _, rfl, SqT.of hp, rfl, _, _, rfl, _, _, rfl, rfl, ?_⟩
    have dom : Dom (In H) H1 := fun b ⟨o, e⟩ => ⟨o, s1 b o e⟩
    refine ⟨_, rfl, mk_log (.inl hf) (ok.take g) dom fun u H2 s2 lo => ⟨_, rfl, (by show 2 ≤ sizeLine; decide), fun q hq => ?_⟩⟩
    have s3 : Same H2 (upd H2 q (.tup [.ref u, .int ((Rn es g : Nat) : Int)])) := Same.new hq
    exact k q (.ref u) g _ ((s1.trans s2).trans s3) upd_same (lo.mono (SameN.of s3)) hg hR hj
theorem sc_Log_read : FnScope ["text", "entries", "lines"] ["text"] (defScope s_Log_read) := ⟨rfl, rfl, rfl, by decide +kernel, rfl, by decide +kernel, by decide +kernel⟩
theorem ok_Log_read (T : NT K mg) : Cal P w K mg base (He5.wf K (ga K "Log") "staticmethod" "read") 5 ["text"] (spRead K) := by
  obtain ⟨fd, F⟩ := T.D_Log_read
  refine Cal.of F (F.bindsN fun _ _ _ _ _ _ us hl => match us, hl with | [_], _ => rfl) sc_Log_read (fun vs H Q E h => ?_) (fun cdv A outer s H vs Q E hr h => ?_)
  · obtain ⟨es, part, rfl, _⟩ := h
    rfl
  · obtain ⟨es, part, rfl, hz, hsp, ok, k⟩ := h
    have nd := sc_Log_read.nd
    refine ⟨_, pss_cons (ps_if (pt_not (pt_val (pe_b (cr_is "str") T.b_isinstance (pa_cons (pv 0) (pa_cons (pe_ty "str" T.b_str) pa_nil))))) (pss_one ps_never) pss_nil)
      (pss_cons (ps_asg (pe_f (ok_good_part T) T.g_good_part (hr.mono (by decide)) (pa_cons (pv 0) pa_nil)) (pg_tup rfl (pgs_cons (pg_name (i := 1) nd rfl (Or.inl rfl)) (pgs_cons (pg_name (i := 2) nd rfl (Or.inl rfl)) pgs_nil))))
      (pss_cons (ps_if (pt_cmpR op_ne (pe_mt0 (ok_Log_text T) T.c_Log T.m_Log_text (hr.mono (by decide)) (pe_mk T.k_Log (ok_Log_init T) T.g_Log (hr.mono (by decide)) (pa_cons (pv 1) pa_nil))) (pv 0) (nomark _)) (pss_one ps_never) pss_nil)
      (pss_one (ps_ret (pe_mk T.k_Log (ok_Log_init T) T.g_Log (hr.mono (by decide)) (pa_cons (pv 1) pa_nil)))))), ?_⟩
    refine ⟨_, rfl, _, "str", true, rfl, .base (.str _), by decide +kernel, true, rfl, iteF ?_⟩
    refine ⟨_, rfl, textOf es, es, (rowsOf es).length, part, rfl, hz, by rw [List.take_length]; exact hsp, ok.ok, ok.few, ok.rows1000, Nat.le_refl _, fun p f g H1 s1 hp hf hg hR hj => ?_⟩
    have eg : es.take g = es := by
      rcases Nat.lt_or_ge g es.length with h | h
      · have := hj es.length h (Nat.le_refl _)
        rw [Rn_all] at this
        omega
      · exact List.take_of_length_le h
    rw [eg] at hf
    refine ⟨p, _, rfl, SqT.of hp, rfl, _, _, rfl, _, _, rfl, rfl, ?_⟩
    have dom : Dom (In H) H1 := fun b ⟨o, e⟩ => ⟨o, s1 b o e⟩
    refine ⟨_, rfl, mk_log (.inl hf) ok dom fun a H2 s2 lo => ?_⟩
    obtain ⟨_, dx, q, e, na, ha, hq⟩ := id lo
    cases e
    refine ⟨a, dx, _, rfl, ha, loF_no q (by decide +kernel), In H, _, es, rfl, lo, ok, fun H3 s3 => ⟨_, rfl, rfl, false, ?_, iteF ?_⟩⟩
    · refine congrArg V.bl ?_
      show (!decide (V.str (textOf es) = V.str (textOf es))) = false
      rw [decide_eq_true rfl]
      rfl
    · have s23 := s2.trans s3
      refine ⟨_, rfl, make_log (.inl (Rp.mono (SameN.of s23) hf)) ok (dom.same s23) fun u H4 s4 lo4 => k u H4 ((s1.trans s23).trans s4) lo4⟩
abbrev nParted : List Str := ["self", "mark", "places", "at", "entry"]
theorem sc_Log_parted : FnScope nParted ["self", "mark"] (defScope s_Log_parted) := ⟨rfl, rfl, rfl, by decide +kernel, rfl, by decide +kernel, by decide +kernel⟩
theorem strs_flat (l : List Str) : (l.map V.str).all flatV = true := by
  induction l with
  | nil => rfl
  | cons x l ih =>
    rw [List.map_cons, List.all_cons, ih]
    rfl
theorem ok_Log_parted (T : NT K mg) : Cal P w K mg base (He.ma K (ga K "Log") "parted") 5 ["self", "mark"] (spParted K) := by
  obtain ⟨fd, F⟩ := T.D_Log_parted
  refine Cal.of F (F.bindsN fun _ _ _ _ _ _ us hl => match us, hl with | [_, _], _ => rfl) sc_Log_parted (fun vs H Q E h => ?_) (fun cdv A outer s H vs Q E hr h => ?_)
  · obtain ⟨N, v, es, x, rfl, _⟩ := h
    rfl
  · obtain ⟨N, v, es, x, rfl, ⟨a, dx, q, rfl, na, ha, q', xs, e, nq, hq, hx⟩, ok, dom, cl, k⟩ := h
    cases e
    have nd := sc_Log_parted.nd
    have hl : xs.length = es.length := hx.length
    have few := ok.few
    have hbig := big
    refine ⟨_, pss_cons (ps_if (pt_not (pt_val (pe_f (ok_is_command_line T) T.g_is_command_line (hr.mono (by decide)) (pa_cons (pv 1) pa_nil)))) (pss_one ps_never) pss_nil)
      (pss_cons (ps_setLc (i := 2) (own := [("at", 3), ("entry", 4)]) (g := gTup K 2 (gCons (gName 3) (gCons (gName 4) gNil))) (tt := tTest (tOp (rIn K false) (tVar 1) (tCall (spLinesOf linesE) [] E0 (tCons (tVar 4) tNil)))) (te := tVar 3) rfl nd rfl rfl (sw_true rfl rfl rfl rfl) (pi_enumT (by rfl) T.b_enumerate (pa_cons (pe_fld (pv 0) rfl) pa_nil)) (blkOk_by (N := nParted) (sc := defScope s_Log_parted) (by decide +kernel))
          (fun _ _ _ _ _ => pg_tup rfl (pgs_cons (pg_name (i := 3) nd rfl (Or.inl rfl)) (pgs_cons (pg_name (i := 4) nd rfl (Or.inl rfl)) pgs_nil))) (fun _ _ _ _ _ => pts_one (pt_cmpR op_in_seq (pv 1) (pe_f (ok_own_lines T) T.g_own_lines (hr.mono (by decide)) (pa_cons (pv 4) pa_nil)) rfl)) (fun _ _ _ _ _ => pv 3))
      (pss_cons (ps_set (i := 3) nd rfl (Or.inl rfl) (pe_ifExp (pt_cmpR (op_neC (α := List Int) hr.units) (pv 2) (pe_lst pa_nil) (nomark _)) (pe_ix ix_list (pv 2) pe_int (fun _ _ => rfl)) (pe_b call_len_seq T.b_len (pa_cons (pe_fld (pv 0) rfl) pa_nil))))
      (pss_one (ps_ret (pe_tup (pa_cons (pe_mk T.k_Log (ok_Log_init T) T.g_Log (hr.mono (by decide)) (pa_cons (pe_slice sl_tupA (pe_fld (pv 0) rfl) po_none (po_some (pv 3))) pa_nil)) (pa_cons (pe_mk T.k_Log (ok_Log_init T) T.g_Log (hr.mono (by decide)) (pa_cons (pe_slice sl_tupA (pe_fld (pv 0) rfl) (po_some (pv 3)) po_none) pa_nil)) pa_nil))))))), ?_⟩
    refine ⟨_, rfl, x, true, rfl, cl.cmd, fun H1 s1 => ⟨true, rfl, iteF ?_⟩⟩
    have ha1 := s1 _ _ ha
    have hq1 := s1 _ _ hq
    refine ⟨_, rfl, a, _, dx, _, _, rfl, ha1, T.c_Log, T.n_Log_own_entries, loF_entries _, q, xs, rfl, SqT.of hq1, fun D hD => ?_⟩
    refine lc_rpF (β := Int) walk_enumT ((List.range xs.length).map fun (j : Nat) => match es[j]? with
        | some e => if inV (.str x) ((linesE e).map V.str) = true then some (j : Int) else none
        | none => none) (by simp) (by omega) (fun _ => False) hD (fun H2 s2 => SqT.of (s2 _ _ hq1)) yPair_same (fun j o y H3 H4 K1 K2 ho s2 hex hy k1 k2 => ?_) (fun H2 acc s2 hacc r => ?_)
    · obtain ⟨p, y1, y2, rfl, hp, rfl, e1, e2⟩ := hy
      cases (show some (V.int ((j : Nat) : Int)) = some y1 from e1)
      obtain ⟨e, he, re⟩ := hx.get' (show xs[j]? = some y2 from e2)
      have hjl : j < xs.length := (List.getElem?_eq_some_iff.mp (show xs[j]? = some y2 from e2)).1
      rw [List.getElem?_map, List.getElem?_range hjl] at ho
      have ho2 : o = if inV (.str x) ((linesE e).map V.str) = true then some (j : Int) else none := by
        have := Option.some.inj ho
        rw [← this]
        show (match es[j]? with
          | some e => if inV (.str x) ((linesE e).map V.str) = true then some (j : Int) else none
          | none => none) = _
        rw [show es[j]? = some e from he]
      have s23 : Same H (upd H3 p (.tup [V.int ((j : Nat) : Int), y2])) := (s1.trans s2).lay hp
      refine ⟨p, _, rfl, SqT.of upd_same, rfl, _, _, rfl, _, _, rfl, rfl, rfl, ?_⟩
      refine ⟨_, rfl, _, rfl, N, y2, e, rfl, Rp.mono (SameN.of s23) re, ok.ok e (List.mem_of_getElem? he), fun D2 H5 hD2 s5 h5 => ⟨D2, _, rfl, .inl (SqL.of h5), rfl, strs_flat _, _, rfl, ?_⟩⟩
      cases hb : inV (.str x) ((linesE e).map V.str) with
      | true =>
        rw [hb, if_pos rfl] at ho2
        exact ⟨_, rfl, k1 (j : Int) ho2 _ _ s5 rfl⟩
      | false =>
        rw [hb, if_neg Bool.false_ne_true] at ho2
        exact k2 ho2 _ s5
    · have s12 : Same H H2 := s1.trans s2
      obtain ⟨ls, hls⟩ : ∃ ls : List Int, ls = (((List.range xs.length).map fun (j : Nat) => match es[j]? with
        | some e => if inV (.str x) ((linesE e).map V.str) = true then some (j : Int) else none
        | none => none).filterMap id) := ⟨_, rfl⟩
      rw [← hls] at r
      have bnd : ∀ i ∈ ls, ∃ j : Nat, i = (j : Int) ∧ j < es.length := fun i hi => by
        rw [hls] at hi
        obtain ⟨o, ho, e⟩ := List.mem_filterMap.mp hi
        obtain ⟨j, hj, rfl⟩ := List.mem_map.mp ho
        have hjl := List.mem_range.mp hj
        cases z : es[j]? with
        | none =>
          rw [z] at e
          cases e
        | some e' =>
          rw [z] at e
          have e2 : (if inV (.str x) ((linesE e').map V.str) = true then some (j : Int) else none) = some i := e
          by_cases c : inV (.str x) ((linesE e').map V.str) = true
          · rw [if_pos c] at e2
            exact ⟨j, (Option.some.inj e2).symm, by omega⟩
          · rw [if_neg c] at e2
            cases e2
      have eacc := ints_of r
      subst eacc
      -- behind the place that was found
      have tail : ∀ (j : Nat) (H3 : Hp) (o4 : Option V), Same H H3 → j ≤ es.length → tRet (tTup (tCons (tMake (ga K "Log") (spLogInit K) [] E0 (tCons (tSl (rSlA K) (tFld K (tVar 0) "own_entries") tNoPart (tPart (tVar 3))) tNil)) (tCons (tMake (ga K "Log") (spLogInit K) [] E0 (tCons (tSl (rSlA K) (tFld K (tVar 0) "own_entries") (tPart (tVar 3)) tNoPart) tNil)) tNil))) { nx := fun _ H' => Q .non H', rt := Q } [some (.ref a), some (.str x), some (.ref D), some (.int (j : Int)), o4] H3 := by
        intro j H3 o4 s3 hj
        have dom3 := dom.same s3
        have hq3 := s3 _ _ hq
        have ha3 := s3 _ _ ha
        have conv : ∀ (u : V) (H4 : Hp), Same H H4 → LoAt K N H4 u (es.take j) → (tCons (tMake (ga K "Log") (spLogInit K) [] E0 (tCons (tSl (rSlA K) (tFld K (tVar 0) "own_entries") (tPart (tVar 3)) tNoPart) tNil)) tNil) [some (.ref a), some (.str x), some (.ref D), some (.int (j : Int)), o4] H4 fun vs H5 => ((u :: vs).length ≤ sizeLine ∧ ∀ p, H5 p = none → Q (.ref p) (upd H5 p (.tup (u :: vs)))) := by
          intro u H4 s4 lo4
          have hq4 := s4 _ _ hq
          have fin : ∀ (w : Addr) (H5 : Hp), Same H4 H5 → LoAt K N H5 (.ref w) (es.drop j) → tNil [some (.ref a), some (.str x), some (.ref D), some (.int (j : Int)), o4] H5 fun xs H6 => ((u :: .ref w :: xs).length ≤ sizeLine ∧ ∀ p, H6 p = none → Q (.ref p) (upd H6 p (.tup (u :: .ref w :: xs)))) := fun w H5 s5 lo5 => by
            refine ⟨by show 2 ≤ sizeLine; decide, fun p hp => ?_⟩
            have s6 : Same H5 (upd H5 p (.tup [u, .ref w])) := Same.new hp
            exact k p u (.ref w) j _ ((s4.trans s5).trans s6) upd_same (lo4.mono (SameN.of (s5.trans s6))) (lo5.mono (SameN.of s6))
          refine ⟨_, rfl, a, _, dx, _, _, rfl, s4 _ _ ha, T.c_Log, T.n_Log_own_entries, loF_entries _, _, rfl, _, rfl, q, xs, rfl, SqT.of hq4, fun hw => ?_, fun hw p hp => ?_⟩
          · rw [HT.sIx_nat, Nat.min_eq_left (by omega)] at hw
            have eg : es.drop j = es := by rw [hw.1]; rfl
            rw [eg] at fin
            exact mk_log (.inr ⟨q, xs, rfl, nq, hq4, hx.monoR (SameN.of s4)⟩) ok (dom.same s4) fin
          · rw [cut_suf (by omega)]
            have s5 : Same H4 (upd H4 p (.tup (xs.drop j))) := Same.new hp
            refine mk_log (.inr ⟨p, _, rfl, (dom.same s4).not hp, upd_same, (hx.drop j).monoR (SameN.of (s4.trans s5))⟩) (ok.drop j) ((dom.same s4).same s5) fun w H5 s6 lo5 => fin w H5 (s5.trans s6) lo5
        refine ⟨_, rfl, a, _, dx, _, _, rfl, ha3, T.c_Log, T.n_Log_own_entries, loF_entries _, _, rfl, _, rfl, q, xs, rfl, SqT.of hq3, fun hw => ?_, fun hw p hp => ?_⟩
        · rw [HT.sIx_nat, Nat.min_eq_left (by omega)] at hw
          have eg : es.take j = es := List.take_of_length_le (by omega)
          exact mk_log (.inr ⟨q, xs, rfl, nq, hq3, hx.monoR (SameN.of s3)⟩) ok dom3 fun u H4 s4 lo => conv (.ref u) H4 (s3.trans s4) (by rw [eg]; exact lo)
        · rw [cut_pre (by omega)]
          have s5 : Same H3 (upd H3 p (.tup (xs.take j))) := Same.new hp
          refine mk_log (.inr ⟨p, _, rfl, dom3.not hp, upd_same, (hx.take j).monoR (SameN.of (s3.trans s5))⟩) (ok.take j) (dom3.same s5) fun u H4 s6 lo => conv (.ref u) H4 (s3.trans (s5.trans s6)) lo
      refine ⟨_, rfl, Nat.zero_le _, fun l hl2 => ?_⟩
      have hDl : D ≠ l := ne_of_none hacc hl2
      have hD3 : upd H2 l (.lst []) D = some (.lst (ls.map V.int)) := by rw [upd_ne hDl]; exact hacc
      have s3 : Same H (upd H2 l (.lst [])) := s12.lay hl2
      refine ⟨fun _ => False, fun _ => False, ls, [], ⟨D, _, rfl, fun z => z, hD3, ints_rp _⟩, ⟨l, _, rfl, fun z => z, upd_same, trivial⟩, !decide (ls = []), rfl, ?_⟩
      cases els : ls with
      | nil =>
        rw [decide_eq_true rfl]
        refine iteF ⟨_, rfl, a, _, dx, _, _, rfl, s3 _ _ ha, T.c_Log, T.n_Log_own_entries, loF_entries _, q, xs, rfl, .inr (SqT.of (s3 _ _ hq)), ?_⟩
        rw [hl]
        exact tail es.length _ _ s3 (Nat.le_refl _)
      | cons i r2 =>
        rw [decide_eq_false (fun z => nomatch z)]
        obtain ⟨j, rfl, hj⟩ := bnd i (by rw [els]; exact List.mem_cons_self)
        rw [els] at hD3
        exact iteT ⟨_, rfl, D, _, 0, _, rfl, rfl, SqL.of hD3, atI_nat (j := 0) rfl, tail j _ _ s3 (by omega)⟩
end
end Net
namespace Net
open PySem PySem.Spec PyProof.Rows L2
theorem atI_int {α : Type} {xs : List α} {r : Int} {v : α} (h0 : 0 ≤ r) (h : xs[r.toNat]? = some v) : atI xs r = some v := by
  have := atI_nat h
  rwa [Int.toNat_of_nonneg h0] at this
theorem pos1 : (0 : Int) < 2147483549 := by decide
theorem pos2 : (0 : Int) < 2147483497 := by decide
/-! ### pots -/
def PotOk (H : Hp) (p : Addr) : Prop := ∃ a b : Int, H p = some (.lst [.int a, .int b]) ∧ 0 ≤ a ∧ 0 ≤ b ∧ b < 4294967296
abbrev At (p : Addr) : Ad := fun c => c = p
theorem PotOk.same {H H' : Hp} {p : Addr} (h : PotOk H p) (s : Same H H') : PotOk H' p := let ⟨a, b, e, q⟩ := h; ⟨a, b, s _ _ e, q⟩
theorem PotOk.ne {H : Hp} {p b : Addr} {o : HO} (h : PotOk H p) (e : H b = some o) (n : ∀ i j : Int, o ≠ .lst [.int i, .int j]) : b ≠ p := fun z => by
  obtain ⟨i, j, h1, _⟩ := h
  rw [z, h1] at e
  exact n i j (Option.some.inj e).symm
def spPot (K : PySem.W.Frag) : Sp := fun vs H Q _ => ∃ (sc : Addr) (xs : List Int) (k : Nat), vs = [.ref sc, .int (k : Int)] ∧ SqL K H sc (xs.map V.int) ∧ k ≤ 2 ∧ ∀ p H', Same H H' → H p = none → PotOk H' p → Q (.ref p) H'
def spDraw : Sp := fun vs H Q _ => ∃ (p : Addr) (n : Int), vs = [.ref p, .int n] ∧ PotOk H p ∧ 0 < n ∧ n ≤ 1000000 ∧ ∀ r H', 0 ≤ r → r < n → SameN (At p) H H' → PotOk H' p → Q (.int r) H'
def spPickS : Sp := fun vs H Q _ => ∃ (p : Addr) (x : Str), vs = [.ref p, .str x] ∧ PotOk H p ∧ 1 ≤ x.length ∧ x.length ≤ 1000 ∧ ∀ c H', c ∈ tl x → SameN (At p) H H' → PotOk H' p → Q (.str (sg c)) H'
def spPickL : Sp := fun vs H Q _ => ∃ (p b : Addr) (xs : List V), vs = [.ref p, .ref b] ∧ PotOk H p ∧ b ≠ p ∧ H b = some (.lst xs) ∧ 1 ≤ xs.length ∧ xs.length ≤ 1000 ∧ ∀ v H', v ∈ xs → SameN (At p) H H' → PotOk H' p → Q v H'
section
variable {P : Program} {w : World} {K : PySem.W.Frag} {mg : Str → Option Value} {base : Heap}
theorem sc_law_pot : FnScope ["_law_script", "_law_k", "_law_cell"] ["_law_script", "_law_k"] (defScope s_law_pot) := ⟨rfl, rfl, rfl, by decide +kernel, rfl, by decide +kernel, by decide +kernel⟩
theorem ok_law_pot (T : NT K mg) : Cal P w K mg base (ga K "_law_pot") 1 ["_law_script", "_law_k"] (spPot K) := by
  obtain ⟨fd, F⟩ := T.D_law_pot
  refine Cal.of F (F.bindsN fun _ _ _ _ _ _ us hl => match us, hl with | [_, _], _ => rfl) sc_law_pot (fun vs H Q E h => ?_) (fun cdv A outer s H vs Q E hr h => ?_)
  · obtain ⟨sc, xs, k, rfl, _⟩ := h
    rfl
  · obtain ⟨sc, xs, k, rfl, hsc, hk, kk⟩ := h
    have nd := sc_law_pot.nd
    refine ⟨_, pss_cons (ps_set (i := 2) nd rfl (Or.inl rfl) (pe_op op_add (pe_op op_mul pe_int (pv 1)) pe_int))
      (pss_cons (ps_if (pt_cmpR op_lt (pv 1) (pe_b call_len_seq T.b_len (pa_cons (pv 0) pa_nil)) (nomark _)) (pss_one (ps_set (i := 2) nd rfl (Or.inl rfl) (pe_b call_abs T.b_abs (pa_cons (pe_ix ix_list (pv 0) (pv 1) (fun _ _ => rfl)) pa_nil)))) pss_nil)
      (pss_one (ps_ret (pe_lst (pa_cons (pe_b (call_max2 rfl) T.b_max (pa_cons pe_int (pa_cons (pe_op op_sub (pv 2) (pe_op op_pow pe_int pe_int)) pa_nil)))
        (pa_cons (pe_op op_add (pe_op op_mod (pe_t call_int1 T.b_int (pa_cons (pe_op op_add (pe_op op_add (pe_op op_mul (pe_op op_mod (pe_t call_int1 T.b_int (pa_cons (pv 2) pa_nil)) pe_int) pe_int) (pe_op op_mul pe_int (pv 1))) pe_int) pa_nil)) pe_int) pe_int) pa_nil)))))), ?_⟩
    refine ⟨_, rfl, _, _, rfl, rfl, ?_⟩
    refine ⟨.inl ⟨by decide, by decide⟩, _, _, rfl, rfl, ?_⟩
    have hlen : (xs.map V.int).length = xs.length := List.length_map ..
    refine ⟨_, rfl, _, rfl, sc, _, rfl, .inl (hsc), _, _, rfl, rfl, ?_⟩
    have fin : ∀ (c d : Int) (q : Addr), H q = none → Q (.ref q) (upd H q (.lst [.int (if c - 10 ^ 18 > 0 then c - 10 ^ 18 else 0), .int (d % 2147483497 + 1)])) := fun c d q hq => by
      refine kk q _ (Same.new hq) hq ⟨_, _, upd_same, ?_, ?_, ?_⟩
      · split <;> omega
      · omega
      · omega
    by_cases hc : (k : Int) < ((xs.map V.int).length : Int)
    · have hkl : k < xs.length := by rw [hlen] at hc; omega
      refine ⟨true, congrArg V.bl (decide_eq_true hc), iteT ?_⟩
      refine ⟨_, rfl, _, rfl, sc, _, _, V.int xs[k], rfl, rfl, hsc, atI_nat (j := k) (by rw [List.getElem?_map, List.getElem?_eq_getElem hkl]; rfl), _, rfl, ?_⟩
      refine ⟨_, rfl, 10, 18, rfl, rfl, ⟨by decide, by decide, by decide⟩, _, _, rfl, rfl, _, _, rfl, ?_⟩
      refine ⟨_, rfl, .inl ⟨_, rfl, _, _, rfl, rfl, pos1, _, _, rfl, rfl, .inr ⟨by decide, by decide⟩, _, rfl, _, _, rfl, rfl, .inl ⟨by decide, by decide⟩, _, _, rfl, rfl, _, _, rfl, rfl, .inl ⟨_, rfl, _, _, rfl, rfl, pos2, _, _, rfl, rfl, ?_⟩⟩⟩
      exact ⟨by show 2 ≤ sizeLine; decide, fun q hq => fin _ _ q hq⟩
    · refine ⟨false, congrArg V.bl (decide_eq_false hc), iteF ?_⟩
      refine ⟨_, rfl, 10, 18, rfl, rfl, ⟨by decide, by decide, by decide⟩, _, _, rfl, rfl, _, _, rfl, ?_⟩
      refine ⟨_, rfl, .inl ⟨_, rfl, _, _, rfl, rfl, pos1, _, _, rfl, rfl, .inr ⟨by decide, by decide⟩, _, rfl, _, _, rfl, rfl, .inl ⟨by decide, by decide⟩, _, _, rfl, rfl, _, _, rfl, rfl, .inl ⟨_, rfl, _, _, rfl, rfl, pos2, _, _, rfl, rfl, ?_⟩⟩⟩
      exact ⟨by show 2 ≤ sizeLine; decide, fun q hq => fin _ _ q hq⟩
theorem sc_law_draw : FnScope ["_law_pot_here", "_law_many", "_law_digit"] ["_law_pot_here", "_law_many"] (defScope s_law_draw) := ⟨rfl, rfl, rfl, by decide +kernel, rfl, by decide +kernel, by decide +kernel⟩
theorem ok_law_draw (T : NT K mg) : Cal P w K mg base (ga K "_law_draw") 1 ["_law_pot_here", "_law_many"] spDraw := by
  obtain ⟨fd, F⟩ := T.D_law_draw
  refine Cal.of F (F.bindsN fun _ _ _ _ _ _ us hl => match us, hl with | [_, _], _ => rfl) sc_law_draw (fun vs H Q E h => ?_) (fun cdv A outer s H vs Q E hr h => ?_)
  · obtain ⟨p, n, rfl, _⟩ := h
    rfl
  · obtain ⟨p, n, rfl, ⟨a, b, hp, ha, hb, hb2⟩, hn, hn2, k⟩ := h
    have nd := sc_law_draw.nd
    refine ⟨_, pss_cons (ps_if (pt_cmpR op_gt (pe_ix ix_list (pv 0) pe_int (fun _ _ => rfl)) pe_int (nomark _))
        (pss_cons (ps_asg (pe_b call_divmodW T.b_divmod (pa_cons (pe_ix ix_list (pv 0) pe_int (fun _ _ => rfl)) (pa_cons (pv 1) pa_nil))) (pg_tup rfl (pgs_cons (pg_sub (pv 0) pe_int set_list) (pgs_cons (pg_name (i := 2) nd rfl (Or.inl rfl)) pgs_nil))))
          (pss_one (ps_ret (pv 2)))) pss_nil)
      (pss_cons (ps_asg (pe_op op_mod (pe_t call_int1 T.b_int (pa_cons (pe_op op_add (pe_op op_mul (pe_ix ix_list (pv 0) pe_int (fun _ _ => rfl)) pe_int) pe_int) pa_nil)) pe_int) (pg_sub (pv 0) pe_int set_list))
      (pss_one (ps_ret (pe_op op_mod (pe_t call_int1 T.b_int (pa_cons (pe_op op_fdivW (pe_op op_mod (pe_t call_int1 T.b_int (pa_cons (pe_op op_mul (pe_ix ix_list (pv 0) pe_int (fun _ _ => rfl)) (pe_ix ix_list (pv 0) pe_int (fun _ _ => rfl))) pa_nil)) pe_int) pe_int) pa_nil)) (pv 1))))), ?_⟩
    refine ⟨_, rfl, p, _, 0, _, rfl, rfl, SqL.of hp, atI_nat (j := 0) rfl, _, _, rfl, rfl, ?_⟩
    by_cases hc : a > 0
    · refine ⟨true, congrArg V.bl (decide_eq_true hc), iteT ?_⟩
      refine ⟨_, rfl, p, _, 0, _, rfl, rfl, SqL.of hp, atI_nat (j := 0) rfl, _, rfl, _, _, rfl, ⟨hn, PyProof.noPylong_small (by omega)⟩, fun q hq => ?_⟩
      have hpq : p ≠ q := ne_of_none hp hq
      have hp1 : upd H q (.tup [.int (a / n), .int (a % n)]) p = some (.lst [.int a, .int b]) := by rw [upd_ne hpq]; exact hp
      refine ⟨q, _, rfl, SqT.of upd_same, rfl, _, _, rfl, ?_⟩
      refine ⟨_, rfl, p, _, 0, 0, rfl, rfl, hp1, rfl, _, _, rfl, rfl, ?_⟩
      refine ⟨_, rfl, k (a % n) _ (Int.emod_nonneg _ (by omega)) (Int.emod_lt_of_pos _ hn) ?_ ⟨a / n, b, upd_same, Int.ediv_nonneg ha (by omega), hb, hb2⟩⟩
      exact (SameN.of (Same.new hq)).upd' rfl
    · refine ⟨false, congrArg V.bl (decide_eq_false hc), iteF ?_⟩
      refine ⟨_, rfl, p, _, 1, _, rfl, rfl, SqL.of hp, atI_nat (j := 1) rfl, _, _, rfl, rfl, .inr ⟨by decide, by decide⟩, _, _, rfl, rfl, .inl ⟨_, rfl, _, _, rfl, rfl, pos2, ?_⟩⟩
      refine ⟨_, rfl, p, _, 1, 1, rfl, rfl, hp, rfl, ?_⟩
      have c0 : 0 ≤ (b * 48271 + 20011) % 2147483497 := by omega
      have c1 : (b * 48271 + 20011) % 2147483497 < 2147483497 := by omega
      have hp2 : upd H p (.lst [.int a, .int ((b * 48271 + 20011) % 2147483497)]) p = some (.lst [.int a, .int ((b * 48271 + 20011) % 2147483497)]) := upd_same
      refine ⟨_, rfl, p, _, 1, _, rfl, rfl, SqL.of hp2, atI_nat (j := 1) rfl, _, rfl, p, _, 1, _, rfl, rfl, SqL.of hp2, atI_nat (j := 1) rfl, _, _, rfl, rfl, .inl ⟨by omega, by omega⟩, .inl ⟨_, rfl, _, _, rfl, rfl, pos1, _, _, rfl, rfl, ⟨by decide, by decide⟩, .inl ⟨_, rfl, _, rfl, _, _, rfl, rfl, hn, ?_⟩⟩⟩
      exact k _ _ (Int.emod_nonneg _ (by omega)) (Int.emod_lt_of_pos _ hn) (SameN.upd rfl) ⟨a, _, hp2, ha, c0, by omega⟩
theorem sc_law_pick : FnScope ["_law_pot_here", "_law_some"] ["_law_pot_here", "_law_some"] (defScope s_law_pick) := ⟨rfl, rfl, rfl, by decide +kernel, rfl, by decide +kernel, by decide +kernel⟩
theorem ok_law_pickS (T : NT K mg) : Cal P w K mg base (ga K "_law_pick") 2 ["_law_pot_here", "_law_some"] spPickS := by
  obtain ⟨fd, F⟩ := T.D_law_pick
  refine Cal.of F (F.bindsN fun _ _ _ _ _ _ us hl => match us, hl with | [_, _], _ => rfl) sc_law_pick (fun vs H Q E h => ?_) (fun cdv A outer s H vs Q E hr h => ?_)
  · obtain ⟨p, n, rfl, _⟩ := h
    rfl
  · obtain ⟨p, x, rfl, hp, hn, hn2, k⟩ := h
    have nd := sc_law_pick.nd
    have hbig := big
    refine ⟨_, pss_one (ps_ret (pe_ix ix_str (pv 1) (pe_f (ok_law_draw T) T.g_law_draw (hr.mono (by decide)) (pa_cons (pv 0) (pa_cons (pe_b call_len_str T.b_len (pa_cons (pv 1) pa_nil)) pa_nil))) (fun _ _ => rfl))), ?_⟩
    refine ⟨_, rfl, _, rfl, _, rfl, x, rfl, by omega, p, _, rfl, hp, by omega, by omega, fun r H' r0 r1 s1 hp1 => ?_⟩
    have hlt : r.toNat < (tl x).length := by rw [← len_tl]; omega
    refine ⟨x, r, (tl x)[r.toNat], rfl, rfl, by omega, atI_int r0 (List.getElem?_eq_getElem hlt), k _ _ (List.getElem_mem hlt) s1 hp1⟩
theorem ok_law_pickL (T : NT K mg) : Cal P w K mg base (ga K "_law_pick") 2 ["_law_pot_here", "_law_some"] spPickL := by
  obtain ⟨fd, F⟩ := T.D_law_pick
  refine Cal.of F (F.bindsN fun _ _ _ _ _ _ us hl => match us, hl with | [_, _], _ => rfl) sc_law_pick (fun vs H Q E h => ?_) (fun cdv A outer s H vs Q E hr h => ?_)
  · obtain ⟨p, b, xs, rfl, _⟩ := h
    rfl
  · obtain ⟨p, b, xs, rfl, hp, hne, hb, hn, hn2, k⟩ := h
    have nd := sc_law_pick.nd
    refine ⟨_, pss_one (ps_ret (pe_ix ix_list (pv 1) (pe_f (ok_law_draw T) T.g_law_draw (hr.mono (by decide)) (pa_cons (pv 0) (pa_cons (pe_b call_len_seq T.b_len (pa_cons (pv 1) pa_nil)) pa_nil))) (fun _ _ => rfl))), ?_⟩
    refine ⟨_, rfl, _, rfl, _, rfl, b, xs, rfl, .inl (SqL.of hb), p, _, rfl, hp, by omega, by omega, fun r H' r0 r1 s1 hp1 => ?_⟩
    have hlt : r.toNat < xs.length := by omega
    refine ⟨b, xs, r, xs[r.toNat], rfl, rfl, SqL.of (s1 _ _ hne hb), atI_int r0 (List.getElem?_eq_getElem hlt), k _ _ (List.getElem_mem hlt) s1 hp1⟩
end
end Net
namespace Net
open PySem PySem.Spec PyProof.Rows L2
theorem callR_or {X : Cx} {f : Value} {r r' : List V → Hp → VK → Prop} (h : CallR X f r) (h' : CallR X f r') : CallR X f (fun xs H Q => r xs H Q ∨ r' xs H Q) := fun pins s σ H xs us Q I v q => q.elim (fun q => h pins s σ H xs us Q I v q) fun q => h' pins s σ H xs us Q I v q
theorem pi_or {X : Cx} {tg e : Expr} {w1 w2 : TI} (h : PI X tg e w1) (h' : PI X tg e w2) : PI X tg e (fun σ H R => w1 σ H R ∨ w2 σ H R) := ⟨fun pins s σ H R I q => q.elim (fun q => h.run pins s σ H R I q) fun q => h'.run pins s σ H R I q⟩
section
variable {β : Type} [Rp β] {J : It} {n : Nat} {G : Hp → Prop} {Y : Nat → Hp → V → Hp → Prop} {g : TG} {tt : TT} {te : TE} {vs : List Nat} {σ : L2.St} {H1 : Hp} {D : Addr} {Qd : Hp → Prop}
/-- a comprehension whose turns may draw from the pot at p -/
theorem lc_rpE (w : Walk J n G Y) (Pz : β → Prop) (hz : n ≤ sizeLine) (N : Ad) (p : Addr) (hp : PotOk H1 p) (hN : N p) (hD : H1 D = none) (hG : ∀ H, SameN (At p) H1 H → G H) (hY : ∀ i H x H', Y i H x H' → Same H H')
    (step : ∀ (j : Nat) (x : V) (H H' : Hp) (K1 : V → Hp → Prop), j < n → SameN (At p) H1 H → PotOk H p → (∃ acc, H D = some (.lst acc)) → Y j H x H' → (∀ y b H4, SameN (At p) H' H4 → PotOk H4 p → Pz b → rp (And1 N D) H4 y b → K1 y H4) →
      g x (wipe σ vs) H' fun σ2 H2 => wipe σ2 vs = wipe σ vs ∧ te σ2 H2 K1)
    (hd : ∀ H acc l, SameN (At p) H1 H → PotOk H p → l.length = n → (∀ b ∈ l, Pz b) → H D = some (.lst acc) → All2 (rp (And1 N D) H) acc l → Qd H) :
    ∃ W : Nat → Nat → Hp → Prop, (∃ m, W 0 m (upd H1 D (.lst []))) ∧ ∀ i m H, W i m H →
      (J.stop i H ∧ Qd H) ∨ (J.go i H ∧ ∃ Nx : Hp → Prop, (∀ H', Nx H' → ∃ m', m' < m ∧ W (i + 1) m' H') ∧ ∀ x H', J.yld i H x H' → g x (wipe σ vs) H' fun σ2 H2 => wipe σ2 vs = wipe σ vs ∧ tYes σ2 H2 fun b H3 =>
        if b = true then te σ2 H3 fun y H4 => ∃ acc, H4 D = some (.lst acc) ∧ acc.length < sizeLine ∧ Nx (upd H4 D (.lst (acc ++ [y]))) else Nx H3) := by
  have hpD : p ≠ D := fun z => by
    obtain ⟨i, j, e, _⟩ := hp
    rw [z, hD] at e
    cases e
  have up : ∀ {H : Hp} {o : HO}, SameN (At p) H1 H → SameN (At p) H1 (upd H D o) := fun s b u nb e => by
    rw [upd_ne (ne_of_none e hD)]
    exact s b u nb e
  have upP : ∀ {H : Hp} {o : HO}, PotOk H p → PotOk (upd H D o) p := fun ⟨i, j, e, q⟩ => ⟨i, j, by rw [upd_ne hpD]; exact e, q⟩
  refine lc_it w (fun j H => SameN (At p) H1 H ∧ PotOk H p ∧ ∃ acc, ∃ l : List β, H D = some (.lst acc) ∧ l.length = j ∧ (∀ b ∈ l, Pz b) ∧ All2 (rp (And1 N D) H) acc l) ⟨up (SameN.refl _ _), upP hp, [], [], upd_same, rfl, (fun _ h => nomatch h), trivial⟩ (fun j H _ q => hG H q.1) (fun j x H H' hj q y => ?_) fun H q => ?_
  · obtain ⟨s1, pk, acc, l, ha, hlen, hl, r⟩ := q
    have sy := hY j H x H' y
    refine step j x H H' _ hj s1 pk ⟨_, ha⟩ y fun z b H4 s4 pk4 pb rz => ?_
    have s5 : SameN (And1 N D) H (upd H4 D (.lst (acc ++ [z]))) := ((SameN.of sy).trans (s4.weak fun b e => .inl (by rw [show b = p from e]; exact hN))).upd' (Or.inr rfl)
    have h4 : H4 D = some (.lst acc) := s4 _ _ (fun z => hpD z.symm) (sy _ _ ha)
    refine ⟨acc, h4, by rw [r.length]; omega, up (s1.trans ((SameN.of sy).trans s4)), upP pk4, acc ++ [z], l ++ [b], upd_same, by simp [hlen], fun b' hb' => ?_, ?_⟩
    · rcases List.mem_append.mp hb' with m | m
      · exact hl b' m
      · rw [List.mem_singleton.mp m]
        exact pb
    · exact (r.monoR s5).append (.one (Rp.mono (SameN.upd (Or.inr rfl)) rz))
  · obtain ⟨s1, pk, acc, l, ha, hlen, hl, r⟩ := q
    exact hd H acc l s1 pk hlen hl ha r
end
/-- a line that the law makes -/
def LT (n : Int) : Ln → Prop
  | .ask x => 1 ≤ x.length ∧ x.length ≤ 3 ∧ ∀ c ∈ tl x, c = 97 ∨ c = 98
  | .put t => 0 ≤ t.x ∧ t.x < n ∧ (t.c = 97 ∨ t.c = 98) ∧ 0 ≤ t.y ∧ t.y < n
  | .strike t => 0 ≤ t.x ∧ t.x < n ∧ (t.c = 97 ∨ t.c = 98) ∧ 0 ≤ t.y ∧ t.y < n
theorem LT.ok {n : Int} : ∀ {l : Ln}, LT n l → LnOk n l
  | .ask x, ⟨h1, h2, h3⟩ => ⟨h1, by omega, fun c hc => by rcases h3 c hc with e | e <;> omega⟩
  | .put t, ⟨h1, h2, h3, h4, h5⟩ => ⟨h1, h2, by omega, by omega, h4, h5⟩
  | .strike t, ⟨h1, h2, h3, h4, h5⟩ => ⟨h1, h2, by omega, by omega, h4, h5⟩
theorem tl_ab {c : Nat} (h : c ∈ tl (Str.ofString "ab")) : c = 97 ∨ c = 98 := by
  have e : tl (Str.ofString "ab") = [97, 98] := by decide +kernel
  rw [e] at h
  simpa using h
abbrev nilS : Str := Str.ofString ""
theorem joinL_nil : ∀ (m : List (List Nat)), TL.joinL [] m = m.flatten
  | [] => rfl
  | [p] => by simp [TL.joinL]
  | p :: q :: r => by
    show p ++ ([] ++ TL.joinL [] (q :: r)) = _
    rw [joinL_nil (q :: r)]
    rfl
theorem tl_join0 (m : List Str) : tl (Txt.join nilS m) = (m.map tl).flatten := by
  rw [TL.join_eq]
  refine (TL.tl_join _ _).trans ?_
  rw [show TL.tl nilS = [] from by decide +kernel]
  exact joinL_nil _
theorem join_sg : ∀ {l : List Str}, (∀ y ∈ l, ∃ c, (c = 97 ∨ c = 98) ∧ y = sg c) → (tl (Txt.join nilS l)).length = l.length ∧ ∀ c ∈ tl (Txt.join nilS l), c = 97 ∨ c = 98 := fun {l} h => by
  rw [tl_join0]
  induction l with
  | nil => exact ⟨rfl, fun _ h => nomatch h⟩
  | cons y m ih =>
    obtain ⟨c, hc, rfl⟩ := h y List.mem_cons_self
    obtain ⟨i1, i2⟩ := ih fun y hy => h y (List.mem_cons_of_mem _ hy)
    rw [List.map_cons, List.flatten_cons]
    refine ⟨by rw [List.length_append, i1]; show 1 + m.length = _; rw [List.length_cons]; omega, fun d hd => ?_⟩
    rcases List.mem_append.mp hd with e | e
    · rw [List.mem_singleton.mp (show d ∈ [c] from e)]
      exact hc
    · exact i2 d e
theorem sum_sg : ∀ {l : List Str}, (∀ y ∈ l, ∃ c, (c = 97 ∨ c = 98) ∧ y = sg c) → (l.map (·.length)).sum = l.length
  | [], _ => rfl
  | y :: m, h => by
    obtain ⟨c, hc, rfl⟩ := h y List.mem_cons_self
    rw [List.map_cons, List.sum_cons, sum_sg fun y hy => h y (List.mem_cons_of_mem _ hy), List.length_cons]
    show 1 + _ = _
    omega
theorem In.notP {H H' : Hp} {p q : Addr} (s : SameN (At p) H H') (k : PotOk H' p) (h : H' q = none) : ¬ In H q := fun ⟨o, e⟩ => by
  by_cases z : q = p
  · obtain ⟨i, j, e2, _⟩ := k
    rw [z, e2] at h
    cases h
  · rw [s q o z e] at h
    cases h
theorem PotOk.isn {H : Hp} {p q : Addr} (k : PotOk H p) (h : H q = none) : q ≠ p := fun z => by
  obtain ⟨i, j, e2, _⟩ := k
  rw [z, e2] at h
  cases h
def spLine2 : Sp := fun vs H Q _ => ∃ (p : Addr) (n : Int), vs = [.ref p, .int n] ∧ PotOk H p ∧ 1 ≤ n ∧ n ≤ 3 ∧ ∀ v l H', SameN (At p) H H' → PotOk H' p → LT n l → rp (In H) H' v l → Q v H'
section
variable {P : Program} {w : World} {K : PySem.W.Frag} {mg : Str → Option Value} {base : Heap}
abbrev nLine2 : List Str := ["_law_pot_here", "_law_nodes", "_law_turn", "_law_tie"]
theorem sc_law_line : FnScope nLine2 ["_law_pot_here", "_law_nodes"] (defScope s_law_line) := ⟨rfl, rfl, rfl, by decide +kernel, rfl, by decide +kernel, by decide +kernel⟩
theorem ok_law_line (T : NT K mg) : Cal P w K mg base (ga K "_law_line") 3 ["_law_pot_here", "_law_nodes"] spLine2 := by
  obtain ⟨fd, F⟩ := T.D_law_line
  refine Cal.of F (F.bindsN fun _ _ _ _ _ _ us hl => match us, hl with | [_, _], _ => rfl) sc_law_line (fun vs H Q E h => ?_) (fun cdv A outer s H vs Q E hr h => ?_)
  · obtain ⟨p, n, rfl, _⟩ := h
    rfl
  · obtain ⟨p, n, rfl, hp, hn, hn2, k⟩ := h
    have nd := sc_law_line.nd
    have hbig := big
    refine ⟨_, pss_cons (ps_if (pt_cmpR op_eq (pe_f (ok_law_draw T) T.g_law_draw (hr.mono (by decide)) (pa_cons (pv 0) (pa_cons pe_int pa_nil))) pe_int (nomark _))
        (pss_one (ps_ret (pe_tup (pa_cons pe_str (pa_cons (pe_join pe_str (pe_lc (own := [("_law_turn", 2)]) (g := gName 2) (tt := tYes) (te := tCall spPickS [] E0 (tCons (tVar 0) (tCons (tC (.str "ab")) tNil))) rfl nd (pi_range1 (by rfl) T.b_range (pa_cons (pe_op op_add pe_int (pe_f (ok_law_draw T) T.g_law_draw (hr.mono (by decide)) (pa_cons (pv 0) (pa_cons pe_int pa_nil)))) pa_nil)) (blkOk_by (N := nLine2) (sc := defScope s_law_line) (by decide +kernel))
          (fun _ _ _ _ _ => pg_name (i := 2) nd rfl (Or.inl rfl)) (fun _ _ _ _ _ => pts_nil) (fun _ _ _ _ _ => pe_f (ok_law_pickS T) T.g_law_pick (hr.mono (by decide)) (pa_cons (pv 0) (pa_cons pe_str pa_nil))))) pa_nil))))) pss_nil)
      (pss_cons (ps_set (i := 3) nd rfl (Or.inl rfl) (pe_tup (pa_cons (pe_f (ok_law_draw T) T.g_law_draw (hr.mono (by decide)) (pa_cons (pv 0) (pa_cons (pv 1) pa_nil))) (pa_cons (pe_f (ok_law_pickS T) T.g_law_pick (hr.mono (by decide)) (pa_cons (pv 0) (pa_cons pe_str pa_nil))) (pa_cons (pe_f (ok_law_draw T) T.g_law_draw (hr.mono (by decide)) (pa_cons (pv 0) (pa_cons (pv 1) pa_nil))) pa_nil)))))
      (pss_one (ps_ret (pe_tup (pa_cons (pe_f (ok_law_pickL T) T.g_law_pick (hr.mono (by decide)) (pa_cons (pv 0) (pa_cons (pe_lst (pa_cons pe_str (pa_cons pe_str (pa_cons pe_str pa_nil)))) pa_nil))) (pa_cons (pv 3) pa_nil)))))), ?_⟩
    refine ⟨_, rfl, p, 2, rfl, hp, by omega, by omega, fun r H1 r0 r1 s1 hp1 => ?_⟩
    have l2 : (Str.ofString "ab").length = 2 := by decide +kernel
    refine ⟨rfl, ?_⟩
    by_cases hc : r = 0
    · refine ⟨true, congrArg V.bl (decide_eq_true (by rw [hc])), iteT ?_⟩
      refine ⟨⟨_, rfl⟩, _, rfl, p, 3, rfl, hp1, by omega, by omega, fun r2 H2 r20 r21 s2 hp2 => ⟨_, _, rfl, rfl, _, rfl, by omega, by omega, fun D hD => ?_⟩⟩
      refine lc_rpE (β := Str) walk_range (fun y => ∃ c, (c = 97 ∨ c = 98) ∧ y = sg c) (by omega) (In H2) p hp2 (by obtain ⟨i, j, e, _⟩ := hp2; exact ⟨_, e⟩) hD (fun _ _ => trivial) yFn_same (fun j x H3 H4 K1 hj s3 pk3 _ hy k1 => ?_) (fun H3 acc l s3 pk3 hl hll hacc r3 => ?_)
      · obtain ⟨rfl, _⟩ := hy
        refine ⟨wipe1 _ _ _, _, rfl, p, _, rfl, pk3, by omega, by omega, fun c H5 hc5 s5 pk5 => k1 _ (sg c) H5 s5 pk5 ⟨c, tl_ab hc5, rfl⟩ rfl⟩
      · have e := strs_of r3
        subst e
        obtain ⟨j1, j2⟩ := join_sg hll
        refine ⟨_, _, l, rfl, rfl, .inl (SqL.of hacc), ?_, ?_⟩
        · rw [sum_sg hll, show (Str.ofString "").length = 0 from by decide +kernel]
          omega
        · refine ⟨by show 2 ≤ sizeLine; decide, fun q hq => ?_⟩
          have s4 := ((s1.trans s2).trans s3)
          refine k (.ref q) (.ask (Txt.join nilS l)) _ (s4.trans (SameN.of (Same.new hq))) (pk3.same (Same.new hq)) ⟨by rw [len_tl]; omega, by rw [len_tl]; omega, j2⟩ ⟨q, _, rfl, ?_, upd_same, rfl⟩
          exact In.notP s4 pk3 hq
    · refine ⟨false, congrArg V.bl (decide_eq_false fun e => hc (V.int.inj e)), iteF ?_⟩
      refine ⟨_, rfl, _, rfl, p, _, rfl, hp1, by omega, by omega, fun i H2 i0 i1 s2 hp2 => ⟨_, rfl, p, _, rfl, hp2, by omega, by omega, fun c H3 hc3 s3 hp3 => ⟨_, rfl, _, rfl, p, _, rfl, hp3, by omega, by omega, fun j H4 j0 j1 s4 hp4 => ⟨by show 3 ≤ sizeLine; decide, fun q hq => ?_⟩⟩⟩⟩
      have s14 := ((s1.trans s2).trans s3).trans s4
      have s5 : Same H4 (upd H4 q (.tup [.int i, .str (sg c), .int j])) := Same.new hq
      have hp5 := hp4.same s5
      refine ⟨_, rfl, by show 3 ≤ sizeLine; decide, fun b hb => ?_⟩
      have s6 := s5.lay (o := .lst [.str (Str.ofString "put"), .str (Str.ofString "put"), .str (Str.ofString "strike")]) hb
      have hp6 := hp4.same s6
      refine ⟨p, b, _, rfl, hp6, hp5.isn hb, upd_same, by decide, by decide, fun v H7 hv s7 hp7 => ⟨_, rfl, by show 2 ≤ sizeLine; decide, fun e he => ?_⟩⟩
      have s8 : Same H7 (upd H7 e (.tup [v, .ref q])) := Same.new he
      have hq6 : H7 q = some (.tup [.int i, .str (sg c), .int j]) := s7 _ _ (hp4.isn hq) (Same.new hb _ _ upd_same)
      have all : SameN (At p) H H7 := s14.trans ((SameN.of s6).trans s7)
      have rt : rp (In H) (upd H7 e (.tup [v, .ref q])) (.ref q) (⟨i, c, j⟩ : Tie) := ⟨q, rfl, In.notP s14 hp4 hq, s8 _ _ hq6⟩
      have ok : LT n (.put ⟨i, c, j⟩) := ⟨i0, i1, tl_ab hc3, j0, j1⟩
      rcases List.mem_cons.mp hv with rfl | hv
      · exact k (.ref e) (.put ⟨i, c, j⟩) _ (all.trans (SameN.of s8)) (hp7.same s8) ok ⟨e, _, rfl, In.notP all hp7 he, upd_same, rt⟩
      rcases List.mem_cons.mp hv with rfl | hv
      · exact k (.ref e) (.put ⟨i, c, j⟩) _ (all.trans (SameN.of s8)) (hp7.same s8) ok ⟨e, _, rfl, In.notP all hp7 he, upd_same, rt⟩
      rcases List.mem_cons.mp hv with rfl | hv
      · exact k (.ref e) (.strike ⟨i, c, j⟩) _ (all.trans (SameN.of s8)) (hp7.same s8) ok ⟨e, _, rfl, In.notP all hp7 he, upd_same, rt⟩
      · cases hv
end
end Net
namespace Net
open PySem PySem.Spec PyProof.Rows L2
/-! ### lines, told -/
theorem not_dec_t {a b : V} (h : a = b) : (!decide (a = b)) = false := by rw [decide_eq_true h]; rfl
theorem not_dec_f {a b : V} (h : ¬ a = b) : (!decide (a = b)) = true := by rw [decide_eq_false h]; rfl
def Ln.parts : Ln → List Str
  | .ask x => [x]
  | .put t => [numS t.x.toNat, sg t.c, numS t.y.toNat]
  | .strike t => [numS t.x.toNat, sg t.c, numS t.y.toNat]
def lineS (l : Ln) : Str := Txt.join blank (l.word :: l.parts)
theorem numS_len {k : Nat} (h : k < 10) : (numS k).length = 1 := by rw [len_tl, tl_numS h]; rfl
theorem word_len : ∀ l : Ln, l.word.length ≤ 6
  | .ask _ => by show (Str.ofString "ask").length ≤ 6; decide +kernel
  | .put _ => by show (Str.ofString "put").length ≤ 6; decide +kernel
  | .strike _ => by show (Str.ofString "strike").length ≤ 6; decide +kernel
theorem parts_sum {l : Ln} (h : LT 3 l) : ((l.word :: l.parts).map (·.length)).sum + (l.word :: l.parts).length * blank.length ≤ 16777216 := by
  have hw := word_len l
  have hb : blank.length = 1 := by decide +kernel
  rw [hb, List.map_cons, List.sum_cons]
  cases l with
  | ask x =>
    obtain ⟨h1, h2, _⟩ := h
    simp only [Ln.parts, List.map_cons, List.map_nil, List.sum_cons, List.sum_nil, List.length_cons, List.length_nil]
    omega
  | put t =>
    obtain ⟨a0, a1, _, b0, b1⟩ := h
    have e1 := numS_len (show t.x.toNat < 10 by omega)
    have e2 := numS_len (show t.y.toNat < 10 by omega)
    have e3 : (sg t.c).length = 1 := rfl
    simp only [Ln.parts, List.map_cons, List.map_nil, List.sum_cons, List.sum_nil, List.length_cons, List.length_nil]
    omega
  | strike t =>
    obtain ⟨a0, a1, _, b0, b1⟩ := h
    have e1 := numS_len (show t.x.toNat < 10 by omega)
    have e2 := numS_len (show t.y.toNat < 10 by omega)
    have e3 : (sg t.c).length = 1 := rfl
    simp only [Ln.parts, List.map_cons, List.map_nil, List.sum_cons, List.sum_nil, List.length_cons, List.length_nil]
    omega
theorem numS_toNat {i : Int} (h : 0 ≤ i) : V.str (toString i) = V.str (numS i.toNat) := by
  unfold numS
  rw [Int.toNat_of_nonneg h]
theorem low2 {i : Int} (h0 : 0 ≤ i) (h : i < 3) : i.natAbs.log2 < 1920 := by
  have : i = 0 ∨ i = 1 ∨ i = 2 := by omega
  rcases this with e | e | e <;> (subst e; decide +kernel)
def rStr : List V → Hp → VK → Prop := fun xs H Q => (∃ i, xs = [.int i] ∧ i.natAbs.log2 < 1920 ∧ Q (.str (toString i)) H) ∨ (∃ a, xs = [.str a] ∧ Q (.str a) H)
theorem call_strB {X : Cx} : CallR X (.type "str") rStr := callR_or call_str_int SkE.call_str_str
def spTold : Sp := fun vs H Q _ => ∃ (N : Ad) (v : V) (l : Ln), vs = [v] ∧ rp N H v l ∧ LT 3 l ∧ ∀ H', Same H H' → Q (.str (lineS l)) H'
section
variable {P : Program} {w : World} {K : PySem.W.Frag} {mg : Str → Option Value} {base : Heap}
theorem sc_law_told : FnScope ["_law_line_here", "_law_part"] ["_law_line_here"] (defScope s_law_told) := ⟨rfl, rfl, rfl, by decide +kernel, rfl, by decide +kernel, by decide +kernel⟩
theorem ok_law_told (T : NT K mg) : Cal P w K mg base (ga K "_law_told") 1 ["_law_line_here"] spTold := by
  obtain ⟨fd, F⟩ := T.D_law_told
  refine Cal.of F (F.bindsN fun _ _ _ _ _ _ us hl => match us, hl with | [_], _ => rfl) sc_law_told (fun vs H Q E h => ?_) (fun cdv A outer s H vs Q E hr h => ?_)
  · obtain ⟨N, v, l, rfl, _⟩ := h
    rfl
  · obtain ⟨N, v, l, rfl, ⟨a, y, rfl, na, ha, q⟩, ok, k⟩ := h
    have nd := sc_law_told.nd
    have hbig := big
    refine ⟨_, pss_one (ps_ret (pe_join pe_str (pe_op op_cat (pe_lst (pa_cons (pe_ix ix_tup (pv 0) pe_int (fun _ _ => rfl)) pa_nil))
      (pe_lc (own := [("_law_part", 1)]) (g := gName 1) (tt := tYes) (te := tCB rStr (tCons (tVar 1) tNil)) rfl nd
        (pi_or (pi_list (pe_ifExp (pt_cmpR op_ne (pe_ix ix_tup (pv 0) pe_int (fun _ _ => rfl)) pe_str (nomark _)) (pe_ix ix_tup (pv 0) pe_int (fun _ _ => rfl)) (pe_lst (pa_cons (pe_ix ix_tup (pv 0) pe_int (fun _ _ => rfl)) pa_nil))))
          (pi_tup (pe_ifExp (pt_cmpR op_ne (pe_ix ix_tup (pv 0) pe_int (fun _ _ => rfl)) pe_str (nomark _)) (pe_ix ix_tup (pv 0) pe_int (fun _ _ => rfl)) (pe_lst (pa_cons (pe_ix ix_tup (pv 0) pe_int (fun _ _ => rfl)) pa_nil)))))
        (blkOk_by (N := ["_law_line_here", "_law_part"]) (sc := defScope s_law_told) (by decide +kernel))
        (fun _ _ _ _ _ => pg_name (i := 1) nd rfl (Or.inl rfl)) (fun _ _ _ _ _ => pts_nil) (fun _ _ _ _ _ => pe_t call_strB T.b_str (pa_cons (pv 1) pa_nil)))))), ?_⟩
    refine ⟨⟨_, rfl⟩, _, rfl, a, _, _, _, rfl, rfl, SqT.of ha, atI_nat (j := 0) rfl, by show 1 ≤ sizeLine; decide, fun b hb => ?_⟩
    have s1 : Same H (upd H b (.lst [.str l.word])) := Same.new hb
    have ha1 := s1 _ _ ha
    have hps := parts_sum ok
    -- behind the comprehension
    have fin : ∀ (H2 : Hp) (D : Addr) (acc : List V), Same (upd H b (.lst [.str l.word])) H2 → H2 D = some (.lst acc) → All2 (rp (And1 N D) H2) acc l.parts → rCat (.ref b) (.ref D) H2 fun x H1 => ∃ a p, ∃ ys : List Str, V.str (Str.ofString " ") = .str a ∧ [x] = [.ref p] ∧ (SqL K H1 p (ys.map V.str) ∨ SqT K H1 p (ys.map V.str)) ∧ (ys.map (·.length)).sum + ys.length * a.length ≤ 16777216 ∧ Q (.str (Txt.join a ys)) H1 := fun H2 D acc s2 hacc r => by
      have e := strs_of r
      subst e
      refine ⟨b, D, _, _, rfl, rfl, s2 _ _ upd_same, hacc, ?_, fun p hp => ⟨_, p, l.word :: l.parts, rfl, rfl, .inl (SqL.of upd_same), hps, k _ ((s1.trans s2).lay hp)⟩⟩
      cases l <;> (simp only [Ln.parts, List.map_cons, List.map_nil, List.length_cons, List.length_nil]; omega)
    -- a tie's parts, one by one
    have tie : ∀ (t : Tie) (c : Addr), l.parts = [numS t.x.toNat, sg t.c, numS t.y.toNat] → 0 ≤ t.x → t.x < 3 → 0 ≤ t.y → t.y < 3 → y = .ref c → upd H b (.lst [.str l.word]) c = some (.tup t.vs) → ∀ (b' : Str) (v : V) (j : Nat), l.parts[j]? = some b' → t.vs[j]? = some v → ∀ (H2 : Hp) (K1 : V → Hp → Prop), K1 (.str b') H2 → rStr [v] H2 K1 := fun t c ep x0 x1 y0 y1 ey hc b' v j hb' hv H2 K1 kk => by
      rw [ep] at hb'
      match j, hb', hv with
      | 0, hb', hv =>
        cases hb'
        cases hv
        exact .inl ⟨_, rfl, low2 x0 x1, by rw [numS_toNat x0]; exact kk⟩
      | 1, hb', hv =>
        cases hb'
        cases hv
        exact .inr ⟨_, rfl, kk⟩
      | 2, hb', hv =>
        cases hb'
        cases hv
        exact .inl ⟨_, rfl, low2 y0 y1, by rw [numS_toNat y0]; exact kk⟩
      | n + 3, hb', hv => cases hb'
    cases l with
    | ask x =>
      cases q
      refine .inl ⟨_, rfl, a, _, _, _, rfl, rfl, SqT.of ha1, atI_nat (j := 0) rfl, rfl, false, congrArg V.bl (not_dec_t rfl), iteF ?_⟩
      refine ⟨_, rfl, a, _, _, _, rfl, rfl, SqT.of ha1, atI_nat (j := 1) rfl, by show 1 ≤ sizeLine; decide, fun c hc => ⟨c, rfl, ⟨_, SqL.of upd_same⟩, fun D hD => ?_⟩⟩
      refine lc_rp (β := Str) (walk_list (xs := [.str x])) [x] rfl (by show 1 ≤ sizeLine; decide) (fun _ => False) hD (fun H2 s2 => SqL.of (s2 _ _ upd_same)) yAt_same (fun j b y H3 H2 K1 hb s2 _ hy k1 => ?_) (fun H2 acc s2 hacc r => fin H2 D acc ((Same.new hc).trans s2) hacc r)
      obtain ⟨rfl, hy⟩ := hy
      match j, hb, hy with
      | 0, hb, hy =>
        cases hb
        cases hy
        exact ⟨wipe1 _ _ _, _, rfl, .inr ⟨_, rfl, k1 _ _ (Same.refl _) rfl⟩⟩
      | n + 1, hb, hy => cases hb
    | put t =>
      obtain ⟨x0, x1, _, y0, y1⟩ := ok
      obtain ⟨c, rfl, nc, hc⟩ := q
      have hc1 := s1 _ _ hc
      refine .inr ⟨_, rfl, a, _, _, _, rfl, rfl, SqT.of ha1, atI_nat (j := 0) rfl, rfl, true, congrArg V.bl (not_dec_f fun z => ask_put (V.str.inj z)), iteT ?_⟩
      refine ⟨_, rfl, a, _, _, _, rfl, rfl, SqT.of ha1, atI_nat (j := 1) rfl, c, rfl, ⟨_, SqT.of hc1⟩, fun D hD => ?_⟩
      refine lc_rp (β := Str) (walk_tup (xs := t.vs)) (Ln.put t).parts rfl (by show 3 ≤ sizeLine; decide) (fun _ => False) hD (fun H2 s2 => SqT.of (s2 _ _ hc1)) yAt_same (fun j b y H3 H2 K1 hb s2 _ hy k1 => ?_) (fun H2 acc s2 hacc r => fin H2 D acc s2 hacc r)
      obtain ⟨rfl, hy⟩ := hy
      exact ⟨wipe1 _ _ _, _, rfl, tie t c rfl x0 x1 y0 y1 rfl hc1 b y j hb hy _ _ (k1 _ _ (Same.refl _) rfl)⟩
    | strike t =>
      obtain ⟨x0, x1, _, y0, y1⟩ := ok
      obtain ⟨c, rfl, nc, hc⟩ := q
      have hc1 := s1 _ _ hc
      refine .inr ⟨_, rfl, a, _, _, _, rfl, rfl, SqT.of ha1, atI_nat (j := 0) rfl, rfl, true, congrArg V.bl (not_dec_f fun z => ask_strike (V.str.inj z)), iteT ?_⟩
      refine ⟨_, rfl, a, _, _, _, rfl, rfl, SqT.of ha1, atI_nat (j := 1) rfl, c, rfl, ⟨_, SqT.of hc1⟩, fun D hD => ?_⟩
      refine lc_rp (β := Str) (walk_tup (xs := t.vs)) (Ln.strike t).parts rfl (by show 3 ≤ sizeLine; decide) (fun _ => False) hD (fun H2 s2 => SqT.of (s2 _ _ hc1)) yAt_same (fun j b y H3 H2 K1 hb s2 _ hy k1 => ?_) (fun H2 acc s2 hacc r => fin H2 D acc s2 hacc r)
      obtain ⟨rfl, hy⟩ := hy
      exact ⟨wipe1 _ _ _, _, rfl, tie t c rfl x0 x1 y0 y1 rfl hc1 b y j hb hy _ _ (k1 _ _ (Same.refl _) rfl)⟩
end
end Net
namespace Net
open PySem PySem.Spec PyProof.Rows L2
/-! ### a told line, done -/
theorem LT.up {n m : Int} (h : n ≤ m) : ∀ {l : Ln}, LT n l → LT m l
  | .ask x, ⟨h1, h2, h3⟩ => ⟨h1, h2, h3⟩
  | .put t, ⟨h1, h2, h3, h4, h5⟩ => ⟨h1, by omega, h3, h4, by omega⟩
  | .strike t, ⟨h1, h2, h3, h4, h5⟩ => ⟨h1, by omega, h3, h4, by omega⟩
theorem tl_word : ∀ l : Ln, 32 ∉ tl l.word
  | .ask _ => by show 32 ∉ tl (Str.ofString "ask"); decide +kernel
  | .put _ => by show 32 ∉ tl (Str.ofString "put"); decide +kernel
  | .strike _ => by show 32 ∉ tl (Str.ofString "strike"); decide +kernel
theorem tl_parts {l : Ln} (h : LT 3 l) : ∀ p ∈ l.parts, 32 ∉ tl p := by
  have tie : ∀ t : Tie, 0 ≤ t.x → t.x < 3 → (t.c = 97 ∨ t.c = 98) → 0 ≤ t.y → t.y < 3 → ∀ p ∈ [numS t.x.toNat, sg t.c, numS t.y.toNat], 32 ∉ tl p := fun t a0 a1 hc b0 b1 p hp => by
    rcases List.mem_cons.mp hp with e | hp
    · rw [e, tl_numS (by omega)]
      simp
      omega
    rcases List.mem_cons.mp hp with e | hp
    · rw [e]
      show 32 ∉ [t.c]
      simp
      omega
    rcases List.mem_cons.mp hp with e | hp
    · rw [e, tl_numS (by omega)]
      simp
      omega
    · cases hp
  cases l with
  | ask x =>
    intro p hp
    rw [List.mem_singleton.mp hp]
    intro m
    have := h.2.2 32 m
    omega
  | put t => exact tie t h.1 h.2.1 h.2.2.1 h.2.2.2.1 h.2.2.2.2
  | strike t => exact tie t h.1 h.2.1 h.2.2.1 h.2.2.2.1 h.2.2.2.2
theorem split_line {l : Ln} (h : LT 3 l) : Txt.split (lineS l) blank = l.word :: l.parts := by
  refine TL.split_join (s := 32) (S := []) tl_blank (by decide +kernel) (by simp) fun p hp => ?_
  rcases List.mem_cons.mp hp with e | m
  · rw [e]
    exact tl_word l
  · exact tl_parts h p m
def AnsAt (N : Ad) (H : Hp) (v : V) : Option Answer → Prop
  | none => v = .non
  | some a => rp N H v a
theorem int_numS {k : Nat} (h : k < 10) : PySem.intText? (numS k) = some (k : Int) := TL.int_num (by rw [TL.numL_lt h]; exact Nat.le_of_ble_eq_true rfl)
def spDone (K : PySem.W.Frag) : Sp := fun vs H Q _ => ∃ (N : Ad) (v : V) (S : St0) (l : Ln) (n : Int), vs = [v, .str (lineS l)] ∧ StAt K N H v S ∧ Dom N H ∧ S.Ok ∧ S.ts.length < 400 ∧ LT n l ∧ n ≤ 3 ∧ n ≤ S.n ∧
  ∀ p v' y H', Same H H' → H' p = some (.tup [v', y]) → StAt K N H' v' (stepL S l) → AnsAt (In H) H' y (ansL S l) → Q (.ref p) H'
theorem tl_lineS (l : Ln) : tl (lineS l) = TL.joinL [32] ((l.word :: l.parts).map tl) := by
  unfold lineS
  rw [TL.join_eq]
  refine (TL.tl_join _ _).trans ?_
  rw [show TL.tl blank = [32] from tl_blank]
theorem tl_ask (x : Str) : tl (lineS (.ask x)) = [97, 115, 107, 32] ++ tl x := by
  rw [tl_lineS]
  show tl (Str.ofString "ask") ++ ([32] ++ tl x) = _
  rw [show tl (Str.ofString "ask") = [97, 115, 107] from by decide +kernel]
  rfl
theorem tl_tie (w : List Nat) (t : Tie) (h0 : t.x.toNat < 10) (h1 : t.y.toNat < 10) : TL.joinL [32] (w :: [numS t.x.toNat, sg t.c, numS t.y.toNat].map tl) = w ++ [32, 48 + t.x.toNat, 32, t.c, 32, 48 + t.y.toNat] := by
  show w ++ ([32] ++ (tl (numS t.x.toNat) ++ ([32] ++ ([t.c] ++ ([32] ++ tl (numS t.y.toNat)))))) = _
  rw [tl_numS h0, tl_numS h1]
  rfl
theorem tl_put {t : Tie} (h0 : t.x.toNat < 10) (h1 : t.y.toNat < 10) : tl (lineS (.put t)) = [112, 117, 116] ++ [32, 48 + t.x.toNat, 32, t.c, 32, 48 + t.y.toNat] := by
  rw [tl_lineS]
  refine (tl_tie (tl (Str.ofString "put")) t h0 h1).trans ?_
  rw [show tl (Str.ofString "put") = [112, 117, 116] from by decide +kernel]
theorem tl_strike {t : Tie} (h0 : t.x.toNat < 10) (h1 : t.y.toNat < 10) : tl (lineS (.strike t)) = [115, 116, 114, 105, 107, 101] ++ [32, 48 + t.x.toNat, 32, t.c, 32, 48 + t.y.toNat] := by
  rw [tl_lineS]
  refine (tl_tie (tl (Str.ofString "strike")) t h0 h1).trans ?_
  rw [show tl (Str.ofString "strike") = [115, 116, 114, 105, 107, 101] from by decide +kernel]
theorem line_len {l : Ln} (h : LT 3 l) : (lineS l).length ≤ 20 := by
  rw [len_tl]
  cases l with
  | ask x =>
    obtain ⟨h1, h2, _⟩ := h
    rw [tl_ask, List.length_append, ← len_tl]
    show 4 + x.length ≤ 20
    omega
  | put t =>
    obtain ⟨a0, a1, _, b0, b1⟩ := h
    rw [tl_put (by omega) (by omega)]
    exact Nat.le_of_ble_eq_true rfl
  | strike t =>
    obtain ⟨a0, a1, _, b0, b1⟩ := h
    rw [tl_strike (by omega) (by omega)]
    exact Nat.le_of_ble_eq_true rfl
section
variable {P : Program} {w : World} {K : PySem.W.Frag} {mg : Str → Option Value} {base : Heap}
abbrev nDone : List Str := ["_law_store", "_law_told_here", "_law_words", "_law_tie"]
theorem sc_law_done : FnScope nDone ["_law_store", "_law_told_here"] (defScope s_law_done) := ⟨rfl, rfl, rfl, by decide +kernel, rfl, by decide +kernel, by decide +kernel⟩
theorem ok_law_done (T : NT K mg) : Cal P w K mg base (ga K "_law_done") 10 ["_law_store", "_law_told_here"] (spDone K) := by
  obtain ⟨fd, F⟩ := T.D_law_done
  refine Cal.of F (F.bindsN fun _ _ _ _ _ _ us hl => match us, hl with | [_, _], _ => rfl) sc_law_done (fun vs H Q E h => ?_) (fun cdv A outer s H vs Q E hr h => ?_)
  · obtain ⟨N, v, S, l, n, rfl, _⟩ := h
    rfl
  · obtain ⟨N, v, S, l, n, rfl, st, dom, sok, few, lt, n3, hn, k⟩ := h
    have nd := sc_law_done.nd
    have hbig := big
    have lt3 := lt.up n3
    have hlen := line_len lt3
    refine ⟨_, pss_cons (ps_set (i := 2) nd rfl (Or.inl rfl) (pe_split (pv 1) pe_str))
      (pss_cons (ps_if (pt_cmpR op_eq (pe_ix ix_list (pv 2) pe_int (fun _ _ => rfl)) pe_str (nomark _))
        (pss_one (ps_ret (pe_tup (pa_cons (pv 0) (pa_cons (pe_f (ok_pairs T) T.g_pairs (hr.mono (by decide)) (pa_cons (pv 0) (pa_cons (pe_ix ix_list (pv 2) pe_int (fun _ _ => rfl)) pa_nil))) pa_nil))))) pss_nil)
      (pss_cons (ps_set (i := 3) nd rfl (Or.inl rfl) (pe_tup (pa_cons (pe_t call_int_str T.b_int (pa_cons (pe_ix ix_list (pv 2) pe_int (fun _ _ => rfl)) pa_nil)) (pa_cons (pe_ix ix_list (pv 2) pe_int (fun _ _ => rfl)) (pa_cons (pe_t call_int_str T.b_int (pa_cons (pe_ix ix_list (pv 2) pe_int (fun _ _ => rfl)) pa_nil)) pa_nil)))))
      (pss_one (ps_ret (pe_tup (pa_cons (pe_ifExp (pt_cmpR op_eq (pe_ix ix_list (pv 2) pe_int (fun _ _ => rfl)) pe_str (nomark _))
          (pe_ix ix_tup (pe_mt (ok_Store_put T) T.c_Store T.m_Store_put (hr.mono (by decide)) (pv 0) (pa_cons (pv 3) pa_nil)) pe_int (fun _ _ => rfl))
          (pe_ix ix_tup (pe_mt (ok_Store_strike T) T.c_Store T.m_Store_strike (hr.mono (by decide)) (pv 0) (pa_cons (pv 3) pa_nil)) pe_int (fun _ _ => rfl))) (pa_cons pe_non pa_nil))))))), ?_⟩
    refine ⟨_, rfl, ⟨_, rfl⟩, lineS l, blank, rfl, rfl, rfl, by omega, fun b hb => ?_⟩
    rw [split_line lt3]
    have s1 : Same H (upd H b (.lst ((l.word :: l.parts).map V.str))) := Same.new hb
    have hb1 : upd H b (.lst ((l.word :: l.parts).map V.str)) b = some (.lst ((l.word :: l.parts).map V.str)) := upd_same
    refine ⟨_, rfl, b, _, _, _, rfl, rfl, SqL.of hb1, atI_nat (j := 0) rfl, rfl, ?_⟩
    cases l with
    | ask x =>
      obtain ⟨x1, x2, x3⟩ := lt
      refine ⟨true, congrArg V.bl (decide_eq_true rfl), iteT ?_⟩
      refine ⟨_, rfl, _, rfl, _, rfl, b, _, _, _, rfl, rfl, SqL.of hb1, atI_nat (j := 1) rfl, N, v, S, x, rfl, st.mono (SameN.of s1), sok, x1, by omega, (LT.ok (n := n) (l := .ask x) ⟨x1, x2, x3⟩).2.2, fun u H2 s2 ru => ⟨by show 2 ≤ sizeLine; decide, fun p hp => ?_⟩⟩
      have s3 : Same H2 (upd H2 p (.tup [v, u])) := Same.new hp
      refine k p v u _ ((s1.trans s2).trans s3) upd_same (st.mono (SameN.of ((s1.trans s2).trans s3))) ?_
      exact Rp.mono (SameN.of s3) (Rp.weak (fun c ⟨o, e⟩ => ⟨o, s1 c o e⟩) ru)
    | put t =>
      have tok := TieOk.up (LT.ok lt) hn
      obtain ⟨x0, x1, xc, y0, y1⟩ := lt
      refine ⟨false, congrArg V.bl (decide_eq_false fun z => ask_put (V.str.inj z)), iteF ?_⟩
      refine ⟨_, rfl, b, _, _, _, rfl, rfl, SqL.of hb1, atI_nat (j := 1) rfl, _, _, rfl, int_numS (by omega), by rw [numS_len (by omega)]; decide, ?_⟩
      refine ⟨_, rfl, b, _, _, _, rfl, rfl, SqL.of hb1, atI_nat (j := 2) rfl, ?_⟩
      refine ⟨_, rfl, b, _, _, _, rfl, rfl, SqL.of hb1, atI_nat (j := 3) rfl, _, _, rfl, int_numS (by omega), by rw [numS_len (by omega)]; decide, by show 3 ≤ sizeLine; decide, fun q hq => ?_⟩
      rw [Int.toNat_of_nonneg x0, Int.toNat_of_nonneg y0]
      have s2 := s1.lay (o := .tup [.int t.x, .str (sg t.c), .int t.y]) hq
      have hb2 := Same.new (o := .tup [.int t.x, .str (sg t.c), .int t.y]) hq _ _ hb1
      have st2 := st.mono (SameN.of s2)
      obtain ⟨a, dx, td, gd, od, rfl, na, nt, ha, ht, hg⟩ := id st2
      refine ⟨_, rfl, b, _, _, _, rfl, rfl, SqL.of hb2, atI_nat (j := 0) rfl, rfl, true, congrArg V.bl (decide_eq_true rfl), iteT ?_⟩
      refine ⟨_, rfl, a, dx, _, rfl, ha, stF_no _ _ _ (by decide +kernel) (by decide +kernel) (by decide +kernel), _, rfl, N, _, q, S, t, rfl, st2, dom.same s2, sok, few, upd_same, tok, fun p v' fl H3 s3 hp st3 => ?_⟩
      refine ⟨p, _, 0, v', rfl, rfl, SqT.of hp, atI_nat (j := 0) rfl, by show 2 ≤ sizeLine; decide, fun e he => ?_⟩
      have s4 : Same H3 (upd H3 e (.tup [v', .non])) := Same.new he
      exact k e v' .non _ ((s2.trans s3).trans s4) upd_same (st3.mono (SameN.of s4)) rfl
    | strike t =>
      have tok := TieOk.up (LT.ok lt) hn
      obtain ⟨x0, x1, xc, y0, y1⟩ := lt
      refine ⟨false, congrArg V.bl (decide_eq_false fun z => ask_strike (V.str.inj z)), iteF ?_⟩
      refine ⟨_, rfl, b, _, _, _, rfl, rfl, SqL.of hb1, atI_nat (j := 1) rfl, _, _, rfl, int_numS (by omega), by rw [numS_len (by omega)]; decide, ?_⟩
      refine ⟨_, rfl, b, _, _, _, rfl, rfl, SqL.of hb1, atI_nat (j := 2) rfl, ?_⟩
      refine ⟨_, rfl, b, _, _, _, rfl, rfl, SqL.of hb1, atI_nat (j := 3) rfl, _, _, rfl, int_numS (by omega), by rw [numS_len (by omega)]; decide, by show 3 ≤ sizeLine; decide, fun q hq => ?_⟩
      rw [Int.toNat_of_nonneg x0, Int.toNat_of_nonneg y0]
      have s2 := s1.lay (o := .tup [.int t.x, .str (sg t.c), .int t.y]) hq
      have hb2 := Same.new (o := .tup [.int t.x, .str (sg t.c), .int t.y]) hq _ _ hb1
      have st2 := st.mono (SameN.of s2)
      obtain ⟨a, dx, td, gd, od, rfl, na, nt, ha, ht, hg⟩ := id st2
      refine ⟨_, rfl, b, _, _, _, rfl, rfl, SqL.of hb2, atI_nat (j := 0) rfl, rfl, false, congrArg V.bl (decide_eq_false fun z => put_strike (V.str.inj z)), iteF ?_⟩
      refine ⟨_, rfl, a, dx, _, rfl, ha, stF_no _ _ _ (by decide +kernel) (by decide +kernel) (by decide +kernel), _, rfl, N, _, q, S, t, rfl, st2, dom.same s2, sok, few, upd_same, tok, fun p v' fl H3 s3 hp st3 => ?_⟩
      refine ⟨p, _, 0, v', rfl, rfl, SqT.of hp, atI_nat (j := 0) rfl, by show 2 ≤ sizeLine; decide, fun e he => ?_⟩
      have s4 : Same H3 (upd H3 e (.tup [v', .non])) := Same.new he
      exact k e v' .non _ ((s2.trans s3).trans s4) upd_same (st3.mono (SameN.of s4)) rfl
end
end Net
namespace Net
open PySem PySem.Spec PyProof.Rows L2
/-! ### told lines, run -/
abbrev lineV (l : Ln) : V := .str (lineS l)
def spRun (K : PySem.W.Frag) : Sp := fun vs H Q _ => ∃ (N : Ad) (v : V) (b : Addr) (S : St0) (ls : List Ln) (n : Int), vs = [v, .ref b] ∧ StAt K N H v S ∧ Dom N H ∧ S.Ok ∧ S.ts.length ≤ 100 ∧ H b = some (.lst (ls.map lineV)) ∧ ls.length ≤ 100 ∧ (∀ l ∈ ls, LT n l) ∧ n ≤ 3 ∧ n ≤ S.n ∧
  ∀ p v' d as H', Same H H' → H' p = some (.tup [v', .ref d]) → H' d = some (.lst as) → All2 (rp (In H) H') as (runA S ls) → StAt K N H' v' (runS S ls) → Q (.ref p) H'
section
variable {P : Program} {w : World} {K : PySem.W.Frag} {mg : Str → Option Value} {base : Heap}
abbrev nRun : List Str := ["_law_store", "_law_lines", "_law_found", "_law_told_here", "_law_answer"]
theorem runA_len (S : St0) : ∀ ls : List Ln, (runA S ls).length ≤ ls.length := fun ls => by
  induction ls generalizing S with
  | nil => exact Nat.le_refl _
  | cons l ls ih =>
    show ((ansL S l).toList ++ runA (stepL S l) ls).length ≤ _
    have := ih (stepL S l)
    rw [List.length_append, List.length_cons]
    cases l <;> simp [ansL] <;> omega
theorem sc_law_run : FnScope nRun ["_law_store", "_law_lines"] (defScope s_law_run) := ⟨rfl, rfl, rfl, by decide +kernel, rfl, by decide +kernel, by decide +kernel⟩
theorem ok_law_run (T : NT K mg) : Cal P w K mg base (ga K "_law_run") 11 ["_law_store", "_law_lines"] (spRun K) := by
  obtain ⟨fd, F⟩ := T.D_law_run
  refine Cal.of F (F.bindsN fun _ _ _ _ _ _ us hl => match us, hl with | [_, _], _ => rfl) sc_law_run (fun vs H Q E h => ?_) (fun cdv A outer s H vs Q E hr h => ?_)
  · obtain ⟨N, v, b, S, ls, n, rfl, _⟩ := h
    rfl
  · obtain ⟨N, v, b, S, ls, n, rfl, st, dom, sok, few, hb, hls, lt, n3, hn, k⟩ := h
    have nd := sc_law_run.nd
    have hbig := big
    refine ⟨_, pss_cons (ps_set (i := 2) nd rfl (Or.inl rfl) (pe_lst pa_nil))
      (pss_cons (ps_for PassesOwn.never rfl (pi_list (pv 1)) (pg_name (i := 3) nd rfl (Or.inl rfl))
        (pss_cons (ps_asg (pe_f (ok_law_done T) T.g_law_done (hr.mono (by decide)) (pa_cons (pv 0) (pa_cons (pv 3) pa_nil))) (pg_tup rfl (pgs_cons (pg_name (i := 0) nd rfl (Or.inl rfl)) (pgs_cons (pg_name (i := 4) nd rfl (Or.inl rfl)) pgs_nil))))
        (pss_one (ps_expr (pe_bm PySem.F.plainAttrs_list PySem.F.slot_list_extend PySem.F.type_list_extend mt_extend (pv 2) (pa_cons (pe_ifExp (pt_cmp (pc_notN (pv 4))) (pe_lst (pa_cons (pv 4) pa_nil)) (pe_lst pa_nil)) pa_nil))))))
      (pss_one (ps_ret (pe_tup (pa_cons (pv 0) (pa_cons (pv 2) pa_nil)))))), ?_⟩
    refine ⟨Nat.zero_le _, fun f hf => ?_⟩
    have s0 : Same H (upd H f (.lst [])) := Same.new hf
    refine ⟨_, rfl, b, rfl, ⟨_, SqL.of (s0 _ _ hb)⟩, for_it (walk_list (xs := ls.map lineV)) (fun i σ H' => ∃ (vh : V) (o3 o4 : Option V) (xs : List V), σ = [some vh, some (.ref b), some (.ref f), o3, o4] ∧ Same H H' ∧ H' f = some (.lst xs) ∧ All2 (rp (And1 (In H) f) H') xs (runA S (ls.take i)) ∧ StAt K (And1 N f) H' vh (runS S (ls.take i)))
      ⟨v, none, none, [], rfl, s0, upd_same, trivial, ?_⟩ (fun i σ H' _ ⟨_, _, _, _, _, s2, _⟩ => SqL.of (s2 _ _ hb)) ?_ ?_⟩
    · exact (st.fr (N' := And1 N f) fun c z => z.elim .inl fun e => .inr (by rw [e]; exact hf)).mono (SameN.of s0)
    · rintro i y σ H3 H2 hi ⟨vh, o3, o4, xs, rfl, s2, hf2, rx, sth⟩ ⟨rfl, hy⟩
      rw [List.length_map] at hi
      have eli := List.getElem?_eq_getElem hi
      rw [List.getElem?_map, eli] at hy
      cases hy
      have dom2 : Dom (And1 N f) H2 := (dom.same s2).and1 hf2
      have hS := runS_ok (S := S) (ls := ls.take i) sok (fun m hm => (lt m (List.mem_of_mem_take hm)).ok) hn (by rw [List.length_take]; omega)
      have hSn := runS_n S (ls.take i)
      have hSl := runS_len S (ls.take i)
      rw [List.length_take] at hSl
      refine ⟨_, rfl, _, rfl, And1 N f, vh, runS S (ls.take i), ls[i], n, rfl, sth, dom2, hS, by omega, lt _ (List.getElem_mem hi), n3, by omega, fun p v' y H4 s4 hp st4 ra => ?_⟩
      refine ⟨p, _, rfl, SqT.of hp, rfl, _, _, rfl, _, _, rfl, rfl, ?_⟩
      have hf4 := s4 _ _ hf2
      have s24 := s2.trans s4
      have fne : ∀ {c : Addr} {o : HO}, H c = some o → c ≠ f := fun e z => by
        rw [z, hf] at e
        cases e
      have et := take_succ' eli
      have lxs : xs.length ≤ 100 := by
        have := runA_len S (ls.take i)
        rw [List.length_take] at this
        rw [rx.length]
        omega
      have es : runS S (ls.take (i + 1)) = stepL (runS S (ls.take i)) ls[i] := by rw [et, runS_snoc]
      have ea : runA S (ls.take (i + 1)) = runA S (ls.take i) ++ (ansL (runS S (ls.take i)) ls[i]).toList := by rw [et, runA_snoc]
      have fin : ∀ (l2 : Addr) (zs : List V) (H5 : Hp), Same H4 H5 → H5 l2 = some (.lst zs) → H5 f = some (.lst xs) → zs.length ≤ 1 → All2 (rp (And1 (In H) f) H5) zs (ansL (runS S (ls.take i)) ls[i]).toList → ∃ vh' o3' o4' xs', [some v', some (.ref b), some (.ref f), some (lineV ls[i]), some y] = [some vh', some (V.ref b), some (.ref f), o3', o4'] ∧ Same H (upd H5 f (.lst (xs ++ zs))) ∧ (upd H5 f (.lst (xs ++ zs))) f = some (.lst xs') ∧ All2 (rp (And1 (In H) f) (upd H5 f (.lst (xs ++ zs)))) xs' (runA S (ls.take (i + 1))) ∧ StAt K (And1 N f) (upd H5 f (.lst (xs ++ zs))) vh' (runS S (ls.take (i + 1))) := fun l2 zs H5 s5 h2 h5 _ rz => by
        refine ⟨v', _, _, xs ++ zs, rfl, fun c o e => ?_, upd_same, ?_, ?_⟩
        · rw [upd_ne (fne e)]
          exact s5 _ _ (s24 _ _ e)
        · rw [ea]
          have s6 : SameN (And1 (In H) f) H2 (upd H5 f (.lst (xs ++ zs))) := (SameN.of (s4.trans s5)).upd' (.inr rfl)
          exact (rx.monoR s6).append (rz.monoR (SameN.upd (.inr rfl)))
        · rw [es]
          exact st4.mono ((SameN.of s5).upd' (.inr rfl))
      refine ⟨_, rfl, .inl ⟨rfl, _, SqL.of hf4⟩, ?_⟩
      cases el : ansL (runS S (ls.take i)) ls[i] with
      | none =>
        rw [el] at ra fin
        cases ra
        refine ⟨_, rfl, false, rfl, iteF ⟨Nat.zero_le _, fun l2 hl2 => ⟨f, l2, xs, [], rfl, rfl, ?_, upd_same, by rw [List.length_nil]; omega, ?_⟩⟩⟩
        · exact Same.new hl2 _ _ hf4
        · exact fin l2 [] _ (Same.new hl2) upd_same (Same.new hl2 _ _ hf4) (Nat.zero_le _) trivial
      | some a =>
        rw [el] at ra fin
        obtain ⟨c, ys, rfl, nc, hc, rc⟩ := id (show rp (In H2) H4 y a from ra)
        refine ⟨_, rfl, true, rfl, iteT ⟨_, rfl, by show 1 ≤ sizeLine; decide, fun l2 hl2 => ⟨f, l2, xs, [.ref c], rfl, rfl, ?_, upd_same, by rw [List.length_singleton]; omega, ?_⟩⟩⟩
        · exact Same.new hl2 _ _ hf4
        · refine fin l2 [.ref c] _ (Same.new hl2) upd_same (Same.new hl2 _ _ hf4) (Nat.le_refl _) (.one ?_)
          refine Rp.mono (SameN.of (Same.new hl2)) (Rp.weak (fun d z => ?_) (show rp (In H2) H4 (.ref c) a from ra))
          rcases z with ⟨o, e⟩ | e
          · exact ⟨o, s2 _ _ e⟩
          · rw [e]
            exact ⟨_, hf2⟩
    · rintro σ H3 ⟨vh, o3, o4, xs, rfl, s2, hf2, rx, sth⟩
      rw [List.length_map, List.take_length] at rx sth
      refine ⟨_, rfl, _, rfl, by show 2 ≤ sizeLine; decide, fun p hp => ?_⟩
      have s3 : Same H3 (upd H3 p (.tup [vh, .ref f])) := Same.new hp
      exact k p vh f xs _ (s2.trans s3) upd_same (s3 _ _ hf2) ((rx.weakR fun c z => .inl z).monoR (SameN.of s3)) ((sth.weak fun c z => .inl z).mono (SameN.of s3))
end
end Net
namespace Net
open PySem PySem.Spec PyProof.Rows L2
/-! ### a row -/
theorem rep_flat (k : Nat) (i : Int) : (List.replicate k [V.int i]).flatten = (List.replicate k i).map V.int := by
  induction k with
  | zero => rfl
  | succ m ih =>
    rw [List.replicate_succ, List.flatten_cons, ih, List.replicate_succ]
    rfl
theorem seqI {r : Int} {n : Nat} (h0 : 0 ≤ r) (h1 : r < (n : Int)) : seqIndex? r n = some r.toNat := by
  unfold seqIndex?
  simp only [if_neg (Int.not_lt.mpr h0)]
  rw [if_pos (by simp; omega)]
theorem perm_erase {l : List Int} {k : Nat} {y : Int} (h : l[k]? = some y) : (y :: l.eraseIdx k).Perm l := by
  obtain ⟨hk, e⟩ := List.getElem?_eq_some_iff.mp h
  rw [List.eraseIdx_eq_take_drop_succ]
  have e2 : l = l.take k ++ y :: l.drop (k + 1) := by
    conv => lhs; rw [← List.take_append_drop k l, List.drop_eq_getElem_cons hk, e]
  conv => rhs; rw [e2]
  exact List.perm_middle.symm
theorem erase_map {α β : Type} (f : α → β) : ∀ (l : List α) (k : Nat), (l.map f).eraseIdx k = (l.eraseIdx k).map f
  | [], _ => rfl
  | _ :: _, 0 => rfl
  | a :: l, k + 1 => congrArg (f a :: ·) (erase_map f l k)
def spRow : Sp := fun vs H Q _ => ∃ (N : Ad) (p : Addr) (v : V) (ps : List (List Ln)) (n : Int), vs = [.ref p, v] ∧ PotOk H p ∧ rp N H v ps ∧ N p ∧ PsOk n ps ∧ ∀ d row H', SameN (At p) H H' → PotOk H' p → H d = none → H' d = some (.lst (row.map V.int)) → Weave ps row → Q (.ref d) H'
section
variable {P : Program} {w : World} {K : PySem.W.Frag} {mg : Str → Option Value} {base : Heap}
abbrev nRow : List Str := ["_law_pot_here", "_law_programs", "_law_left", "_law_found", "_law_number", "_law_program"]
theorem sc_law_row : FnScope nRow ["_law_pot_here", "_law_programs"] (defScope s_law_row) := ⟨rfl, rfl, rfl, by decide +kernel, rfl, by decide +kernel, by decide +kernel⟩
theorem ok_law_row (T : NT K mg) : Cal P w K mg base (ga K "_law_row") 3 ["_law_pot_here", "_law_programs"] spRow := by
  obtain ⟨fd, F⟩ := T.D_law_row
  refine Cal.of F (F.bindsN fun _ _ _ _ _ _ us hl => match us, hl with | [_, _], _ => rfl) sc_law_row (fun vs H Q E h => ?_) (fun cdv A outer s H vs Q E hr h => ?_)
  · obtain ⟨N, p, v, ps, n, rfl, _⟩ := h
    rfl
  · obtain ⟨N, p, v, ps, n, rfl, hp, ⟨c, xs, rfl, nc, hc, rx⟩, Np, ok, k⟩ := h
    have nd := sc_law_row.nd
    have hbig := big
    have h9 := ok.len
    refine ⟨_, pss_cons (ps_par (i := 2) (j := 3) rfl nd rfl rfl (by decide) rfl rfl (pa_cons (pe_lst pa_nil) (pa_cons (pe_lst pa_nil) pa_nil)) rfl)
      (pss_cons (ps_for PassesOwn.never rfl (pi_enum (by rfl) T.b_enumerate (pa_cons (pv 1) pa_nil)) (pg_tup rfl (pgs_cons (pg_name (i := 4) nd rfl (Or.inl rfl)) (pgs_cons (pg_name (i := 5) nd rfl (Or.inl rfl)) pgs_nil)))
        (pss_one (ps_expr (pe_bm PySem.F.plainAttrs_list PySem.F.slot_list_extend PySem.F.type_list_extend mt_extend (pv 2) (pa_cons (pe_op op_rep (pe_lst (pa_cons (pv 4) pa_nil)) (pe_b call_len_seq T.b_len (pa_cons (pv 5) pa_nil))) pa_nil)))))
      (pss_cons (ps_while PassesOwn.never (pt_cmpR (op_neC (α := List Int) hr.units) (pv 2) (pe_lst pa_nil) (nomark _))
        (pss_one (ps_expr (pe_bm PySem.F.plainAttrs_list PySem.F.slot_list_append PySem.F.type_list_append mt_append (pv 3) (pa_cons (pe_bm PySem.F.plainAttrs_list PySem.F.slot_list_pop PySem.F.type_list_pop mt_popAt (pv 2) (pa_cons (pe_f (ok_law_draw T) T.g_law_draw (hr.mono (by decide)) (pa_cons (pv 0) (pa_cons (pe_b call_len_seq T.b_len (pa_cons (pv 2) pa_nil)) pa_nil))) pa_nil)) pa_nil)))))
      (pss_one (ps_ret (pv 3))))), ?_⟩
    refine ⟨Nat.zero_le _, fun l hl => ⟨Nat.zero_le _, fun f hf => ⟨_, _, rfl, ?_⟩⟩⟩
    have s0 : Same H (upd (upd H l (.lst [])) f (.lst [])) := (Same.new hl).lay hf
    have hlf : l ≠ f := ne_of_none upd_same hf
    have hf0 : H f = none := (Same.new hl).free hf
    have fneH : ∀ {a : Addr} {o : HO}, H a = some o → a ≠ f := fun e => ne_of_none e hf0
    have lneH : ∀ {a : Addr} {o : HO}, H a = some o → a ≠ l := fun e => ne_of_none e hl
    have lxs : xs.length = ps.length := rx.length
    refine ⟨_, rfl, c, _, rfl, SqL.of (s0 _ _ hc), for_it (walk_enum (xs := xs)) (fun i σ H' => ∃ v4 v5 : Option V, σ = [some (.ref p), some (.ref c), some (.ref l), some (.ref f), v4, v5] ∧ Same H H' ∧ H' l = some (.lst ((numb 0 (ps.take i)).map V.int)) ∧ H' f = some (.lst []))
      ⟨none, none, rfl, s0, by rw [upd_ne hlf]; exact upd_same, upd_same⟩ (fun i σ H' _ ⟨_, _, _, s1, _⟩ => SqL.of (s1 _ _ hc)) ?_ ?_⟩
    · rintro i x σ H3 H4 hi ⟨v4, v5, rfl, s1, hl1, hf1⟩ ⟨q, y, z, rfl, hq, rfl, e1, e2⟩
      replace e2 : xs[i]? = some z := e2
      cases (show some (V.int ((i : Nat) : Int)) = some y from e1)
      obtain ⟨pr, hpr, c2, ys, rfl, nc2, hc2, ry⟩ := rx.get' e2
      have o2 := (ok.each pr (List.mem_of_getElem? hpr)).2.1
      have lys := ry.length
      have hlq : l ≠ q := ne_of_none hl1 hq
      have hfq : f ≠ q := ne_of_none hf1 hq
      refine ⟨q, _, rfl, SqT.of upd_same, rfl, _, _, rfl, _, _, rfl, rfl, ?_⟩
      have hl2 : upd H3 q (.tup [V.int ((i : Nat) : Int), .ref c2]) l = some (.lst ((numb 0 (ps.take i)).map V.int)) := by rw [upd_ne hlq]; exact hl1
      have hf2 : upd H3 q (.tup [V.int ((i : Nat) : Int), .ref c2]) f = some (.lst []) := by rw [upd_ne hfq]; exact hf1
      have s2 : Same H (upd H3 q (.tup [V.int ((i : Nat) : Int), .ref c2])) := s1.lay hq
      generalize upd H3 q (.tup [V.int ((i : Nat) : Int), .ref c2]) = H5 at hl2 hf2 s2 ⊢
      refine ⟨_, rfl, .inl ⟨rfl, _, SqL.of hl2⟩, _, rfl, (by show 1 ≤ sizeLine; decide), fun m hm => ?_⟩
      have s3 := s2.lay (o := .lst [V.int ((i : Nat) : Int)]) hm
      refine ⟨_, rfl, c2, ys, rfl, .inl (SqL.of (s3 _ _ hc2)), m, _, _, rfl, rfl, upd_same, by omega, by omega, ?_, fun m2 hm2 => ?_⟩
      · rw [Int.toNat_natCast]
        show 1 * ys.length ≤ sizeLine
        omega
      have hlm : upd H5 m (.lst [V.int ((i : Nat) : Int)]) l = some (.lst ((numb 0 (ps.take i)).map V.int)) := by rw [upd_ne (ne_of_none hl2 hm)]; exact hl2
      have hfm : upd H5 m (.lst [V.int ((i : Nat) : Int)]) f = some (.lst []) := by rw [upd_ne (ne_of_none hf2 hm)]; exact hf2
      have s4 := s3.lay (o := .lst (List.replicate ((ys.length : Nat) : Int).toNat [V.int ((i : Nat) : Int)]).flatten) hm2
      refine ⟨l, m2, _, _, rfl, rfl, by rw [upd_ne (ne_of_none hlm hm2)]; exact hlm, upd_same, ?_, ?_⟩
      · have h2 : (numb 0 (ps.take i)).length ≤ 9 := by
          rw [numb_len] at h9 ⊢
          rw [List.map_take]
          have : ((ps.map List.length).take i).sum ≤ (ps.map List.length).sum := by
            conv => rhs; rw [← List.take_append_drop i (ps.map List.length), List.sum_append]
            exact Nat.le_add_right _ _
          omega
        rw [Int.toNat_natCast, rep_flat, List.length_map, List.length_map, List.length_replicate]
        omega
      · refine ⟨_, _, rfl, fun a o e => ?_, ?_, ?_⟩
        · rw [upd_ne (lneH e)]
          exact s4 _ _ e
        · rw [upd_same, Int.toNat_natCast, rep_flat, take_succ' hpr, numb_snoc, List.map_append, List.length_take, lys]
          rw [show 0 + min i ps.length = i from by
            have := (List.getElem?_eq_some_iff.mp hpr).1
            omega]
        · rw [upd_ne hlf.symm, upd_ne (ne_of_none hfm hm2)]
          exact hfm
    · rintro σ H3 ⟨v4, v5, rfl, s1, hl1, hf1⟩
      rw [lxs, List.take_length] at hl1
      have hp1 := hp.same s1
      have hpl : l ≠ p := fun z => by
        obtain ⟨_, _, e, _⟩ := hp
        exact lneH e z.symm
      have hpf : f ≠ p := fun z => by
        obtain ⟨_, _, e, _⟩ := hp
        exact fneH e z.symm
      refine ⟨fun μ σ H' => ∃ (ls fs : List Int) (v4 v5 : Option V), σ = [some (.ref p), some (.ref c), some (.ref l), some (.ref f), v4, v5] ∧ μ = ls.length ∧ SameN (At p) H H' ∧ PotOk H' p ∧ H' l = some (.lst (ls.map V.int)) ∧ H' f = some (.lst (fs.map V.int)) ∧ (fs ++ ls).Perm (numb 0 ps),
        ⟨_, numb 0 ps, [], v4, v5, rfl, rfl, SameN.of s1, hp1, hl1, hf1, List.Perm.refl _⟩, ?_⟩
      rintro μ σ H4 ⟨ls, fs, v4, v5, rfl, rfl, s2, hp2, hl2, hf2, pm⟩
      have plen := pm.length_eq
      rw [List.length_append] at plen
      refine ⟨_, rfl, Nat.zero_le _, fun e he => ?_⟩
      have hle : upd H4 e (.lst []) l = some (.lst (ls.map V.int)) := by rw [upd_ne (ne_of_none hl2 he)]; exact hl2
      have hfe : upd H4 e (.lst []) f = some (.lst (fs.map V.int)) := by rw [upd_ne (ne_of_none hf2 he)]; exact hf2
      have s3 : Same H4 (upd H4 e (.lst [])) := Same.new he
      refine ⟨fun _ => False, fun _ => False, ls, [], ⟨l, _, rfl, fun z => z, hle, ints_rp _⟩, ⟨e, _, rfl, fun z => z, upd_same, trivial⟩, !decide (ls = []), rfl, ?_⟩
      have hp3 := hp2.same s3
      have s23 := s2.trans (SameN.of s3)
      generalize upd H4 e (.lst []) = H5 at hle hfe s23 hp3 ⊢
      cases els : ls with
      | nil =>
        rw [decide_eq_true rfl]
        refine iteF ⟨_, rfl, k f fs H5 s23 hp3 hf0 hfe ?_⟩
        rw [els, List.append_nil] at pm
        exact pm
      | cons i0 r0 =>
        rw [decide_eq_false (fun z => nomatch z), ← els]
        have lpos : 1 ≤ ls.length := by rw [els]; exact Nat.succ_le_succ (Nat.zero_le _)
        refine iteT ⟨fun σ' H' => ∃ (ls' fs' : List Int) (v4 v5 : Option V), σ' = [some (.ref p), some (.ref c), some (.ref l), some (.ref f), v4, v5] ∧ ls'.length < ls.length ∧ SameN (At p) H H' ∧ PotOk H' p ∧ H' l = some (.lst (ls'.map V.int)) ∧ H' f = some (.lst (fs'.map V.int)) ∧ (fs' ++ ls').Perm (numb 0 ps),
          fun σ' H' ⟨ls', fs', a4, a5, e1, e2, e3, e4, e5, e6, e7⟩ => ⟨ls'.length, e2, ls', fs', a4, a5, e1, rfl, e3, e4, e5, e6, e7⟩, ?_⟩
        refine ⟨_, rfl, .inl ⟨rfl, _, SqL.of hfe⟩, ?_⟩
        refine ⟨_, rfl, .inl ⟨rfl, _, SqL.of hle⟩, _, rfl, _, rfl, l, _, rfl, .inl (SqL.of hle), p, _, rfl, hp3, by rw [List.length_map]; omega, by rw [List.length_map]; omega, fun r H6 r0 r1 s6 hp6 => ?_⟩
        rw [List.length_map] at r1
        have hrl : r.toNat < ls.length := by omega
        have hl6 := s6 _ _ hpl hle
        have hf6 := s6 _ _ hpf hfe
        refine ⟨l, _, r, r.toNat, V.int ls[r.toNat], rfl, rfl, hl6, by omega, by omega, seqI r0 (by rw [List.length_map]; exact r1), by rw [List.getElem?_map, List.getElem?_eq_getElem hrl]; rfl, ?_⟩
        refine ⟨f, _, _, rfl, rfl, by rw [upd_ne hlf.symm]; exact hf6, by rw [List.length_map]; omega, ?_⟩
        refine ⟨ls.eraseIdx r.toNat, fs ++ [ls[r.toNat]], v4, v5, rfl, by rw [List.length_eraseIdx, if_pos hrl]; omega, fun a o na e => ?_, ?_, ?_, ?_, ?_⟩
        · rw [upd_ne (fneH e), upd_ne (lneH e)]
          exact s6 _ _ na (s23 _ _ na e)
        · obtain ⟨i, j, e, q⟩ := hp6
          exact ⟨i, j, by rw [upd_ne hpf.symm, upd_ne hpl.symm]; exact e, q⟩
        · rw [upd_ne hlf, upd_same]
          exact congrArg (fun z => some (HO.lst z)) (erase_map V.int ls _)
        · rw [upd_same, List.map_append]
          rfl
        · rw [List.append_assoc]
          exact (List.Perm.append_left fs (perm_erase (List.getElem?_eq_getElem hrl))).trans pm
end
end Net
namespace Net
open PySem PySem.Spec PyProof.Rows L2
/-! ### entries -/
theorem line_cl {l : Ln} (h : LT 3 l) : CL (lineS l) := by
  have hlen := line_len h
  have hw : ∃ y r, Txt.split (lineS l) blank = y :: r ∧ y ≠ allS := by
    refine ⟨l.word, l.parts, split_line h, ?_⟩
    cases l with
    | ask x => show Str.ofString "ask" ≠ allS; decide +kernel
    | put x => show Str.ofString "put" ≠ allS; decide +kernel
    | strike x => show Str.ofString "strike" ≠ allS; decide +kernel
  have row : ∀ c, c = 32 ∨ (48 ≤ c ∧ c ≤ 50) ∨ (97 ≤ c ∧ c ≤ 122) → c ∈ rowC := fun c hc => rowC_mem (by omega) (by omega) (by omega)
  have tie : ∀ (w : List Nat) (t : Tie), tl (lineS l) = w ++ [32, 48 + t.x.toNat, 32, t.c, 32, 48 + t.y.toNat] → (∀ c ∈ w, 97 ≤ c ∧ c ≤ 122) → 0 ≤ t.x → t.x < 3 → (t.c = 97 ∨ t.c = 98) → 0 ≤ t.y → t.y < 3 → 1 ≤ w.length → CL (lineS l) := fun w t e hwd x0 x1 hc y0 y1 hwl => by
    have el : (lineS l).length = w.length + 6 := by rw [len_tl, e, List.length_append]; rfl
    refine ⟨by omega, by omega, fun c hcm => ?_, fun c hc0 => ?_, fun c hc0 => ?_, hw⟩
    · rw [e] at hcm
      refine row c ?_
      rcases List.mem_append.mp hcm with m | m
      · exact .inr (.inr (hwd c m))
      · simp only [List.mem_cons, List.not_mem_nil, or_false] at m
        omega
    · rw [e] at hc0
      match w, hwl, hwd, hc0 with
      | a :: w', _, hwd, hc0 =>
        cases hc0
        have := hwd c List.mem_cons_self
        omega
    · rw [el, e, List.getElem?_append_right (by omega), show w.length + 6 - 1 - w.length = 5 from by omega] at hc0
      cases hc0
      omega
  cases l with
  | ask x =>
    obtain ⟨h1, h2, h3⟩ := h
    have e := tl_ask x
    have el : (lineS (.ask x)).length = 4 + x.length := by rw [len_tl, e, List.length_append, ← len_tl]; rfl
    refine ⟨by omega, by omega, fun c hcm => ?_, fun c hc0 => ?_, fun c hc0 => ?_, hw⟩
    · rw [e] at hcm
      refine row c ?_
      rcases List.mem_append.mp hcm with m | m
      · simp only [List.mem_cons, List.not_mem_nil, or_false] at m
        omega
      · have := h3 c m
        omega
    · rw [e] at hc0
      cases hc0
      omega
    · rw [el, e, List.getElem?_append_right (by show 4 ≤ _; omega)] at hc0
      have := h3 c (List.mem_of_getElem? hc0)
      omega
  | put t =>
    obtain ⟨x0, x1, hc, y0, y1⟩ := h
    exact tie _ t (tl_put (by omega) (by omega)) (by decide) x0 x1 hc y0 y1 (by decide)
  | strike t =>
    obtain ⟨x0, x1, hc, y0, y1⟩ := h
    exact tie _ t (tl_strike (by omega) (by omega)) (by decide) x0 x1 hc y0 y1 (by decide)
/-- a group of lines as an entry -/
def grpE (g : Tp Str) : En := if g.items.length > 1 then .inr g else .inl (g.items.headD nilS)
theorem grp_lines {g : Tp Str} (h : 1 ≤ g.items.length) : linesE (grpE g) = g.items := by
  unfold grpE
  by_cases c : g.items.length > 1
  · rw [if_pos c]
    rfl
  · rw [if_neg c]
    obtain ⟨l⟩ := g
    match l, h, c with
    | [x], _, _ => rfl
    | x :: y :: r, _, c => simp at c
theorem grps_lines : ∀ {gs : List (Tp Str)}, (∀ g ∈ gs, 1 ≤ g.items.length) → (gs.map grpE).flatMap linesE = (gs.map PySem.W.Tup.items).flatten
  | [], _ => rfl
  | g :: gs, h => by
    rw [List.map_cons, List.flatMap_cons, List.map_cons, List.flatten_cons, grp_lines (h g List.mem_cons_self), grps_lines fun g' hg => h g' (List.mem_cons_of_mem _ hg)]
theorem grp_ok {g : Tp Str} (h1 : 1 ≤ g.items.length) (h9 : g.items.length ≤ 9) (hc : ∀ x ∈ g.items, CL x) : EnOk (grpE g) := by
  unfold grpE
  by_cases c : g.items.length > 1
  · rw [if_pos c]
    exact ⟨h1, h9, hc⟩
  · rw [if_neg c]
    obtain ⟨l⟩ := g
    match l, h1, c, hc with
    | [x], _, _, hc => exact hc x List.mem_cons_self
    | x :: y :: r, _, c, _ => simp at c
end Net
namespace Net
open PySem PySem.Spec PyProof.Rows L2
def spEntries : Sp := fun vs H Q _ => ∃ (N : Ad) (v : V) (b : Addr) (ps : List (List Ln)) (row : List Int) (n : Int), vs = [v, .ref b] ∧ rp N H v ps ∧ H b = some (.lst (row.map V.int)) ∧ PsOk n ps ∧ Weave ps row ∧ (∀ p ∈ ps, ∀ l ∈ p, LT 3 l) ∧
  ∀ t e sp ys zs es H', Same H H' → H' t = some (.tup [.ref e, .ref sp]) → H' e = some (.lst ys) → All2 (rp (In H) H') ys (es : List En) → H' sp = some (.lst zs) → All2 (rp (In H) H') zs (spotsIn row) → es.flatMap linesE = (linesIn ps row).map lineS → (∀ en ∈ es, EnOk en) → Q (.ref t) H'
theorem linesIn_LT {n : Int} {ps : List (List Ln)} {row : List Int} (lt : ∀ p ∈ ps, ∀ l ∈ p, LT n l) (we : Weave ps row) : ∀ l ∈ linesIn ps row, LT n l := fun l hl => by
  obtain ⟨i, hi, e⟩ := List.mem_iff_getElem.mp hl
  rw [linesIn_len] at hi
  obtain ⟨h0, h1, p, l', hp, hl', hla⟩ := weave_line we (List.getElem?_eq_getElem hi)
  have e2 := linesIn_get (List.getElem?_eq_getElem hi) hla
  have e3 : l' = l := Option.some.inj (e2.symm.trans (List.getElem?_eq_some_iff.mpr ⟨by rw [linesIn_len]; exact hi, e⟩))
  subst e3
  exact lt p (List.mem_of_getElem? hp) l' (List.mem_of_getElem? hl')
theorem ixN_int {r : Int} {n : Nat} (h0 : 0 ≤ r) (h1 : r.toNat < n) : ixN n r = some r.toNat := by
  unfold ixN
  rw [if_pos h0, if_pos (by omega)]
section
variable {P : Program} {w : World} {K : PySem.W.Frag} {mg : Str → Option Value} {base : Heap}
abbrev nEntries : List Str := ["_law_programs", "_law_row_here", "_law_entries_here", "_law_spots", "_law_done_here", "_law_at", "_law_number", "_law_told_here", "_law_entry"]
theorem sc_law_entries : FnScope nEntries ["_law_programs", "_law_row_here"] (defScope s_law_entries) := ⟨rfl, rfl, rfl, by decide +kernel, rfl, by decide +kernel, by decide +kernel⟩
theorem ok_law_entries (T : NT K mg) : Cal P w K mg base (ga K "_law_entries") 2 ["_law_programs", "_law_row_here"] spEntries := by
  obtain ⟨fd, F⟩ := T.D_law_entries
  refine Cal.of F (F.bindsN fun _ _ _ _ _ _ us hl => match us, hl with | [_, _], _ => rfl) sc_law_entries (fun vs H Q E h => ?_) (fun cdv A outer s H vs Q E hr h => ?_)
  · obtain ⟨N, v, b, ps, row, n, rfl, _⟩ := h
    rfl
  · obtain ⟨N, v, b, ps, row, n, rfl, ⟨c, xs, rfl, nc, hc, rx⟩, hb, ok, we, lt, k⟩ := h
    have nd := sc_law_entries.nd
    have hbig := big
    have lrow : row.length ≤ 9 := by rw [we.length_eq]; exact ok.len
    have lok := linesIn_LT lt we
    have lxs : xs.length = ps.length := rx.length
    have hp3 := ok.p3
    refine ⟨_, pss_cons (ps_par3 (i := 2) (j := 3) (l := 4) rfl nd rfl rfl rfl (by decide) (by decide) (by decide) rfl rfl rfl (pa_cons (pe_lst pa_nil) (pa_cons (pe_lst pa_nil) (pa_cons (pe_op op_rep (pe_lst (pa_cons pe_int pa_nil)) (pe_b call_len_seq T.b_len (pa_cons (pv 0) pa_nil))) pa_nil))) rfl)
      (pss_cons (ps_for PassesOwn.never rfl (pi_enum (by rfl) T.b_enumerate (pa_cons (pv 1) pa_nil)) (pg_tup rfl (pgs_cons (pg_name (i := 5) nd rfl (Or.inl rfl)) (pgs_cons (pg_name (i := 6) nd rfl (Or.inl rfl)) pgs_nil)))
        (pss_cons (ps_set (i := 7) nd rfl (Or.inl rfl) (pe_f (ok_law_told T) T.g_law_told (hr.mono (by decide)) (pa_cons (pe_ix ix_list (pe_ix ix_list (pv 0) (pv 6) (fun _ _ => rfl)) (pe_ix ix_list (pv 4) (pv 6) (fun _ _ => rfl)) (fun _ _ => rfl)) pa_nil)))
        (pss_cons (ps_if (PW.pt (pw_and (pt_cmpR op_gt (pv 5) pe_int (nomark _)) (pw_and1 (pt_cmpR op_eq (pe_ix ix_list (pv 1) (pe_op op_sub (pv 5) pe_int) (fun _ _ => rfl)) (pv 6) (nomark _)))))
          (pss_one (ps_asg (pe_op op_catT (pe_ix ix_list (pv 2) (pe_un un_neg pe_int) (fun _ _ => rfl)) (pe_tup (pa_cons (pv 7) pa_nil))) (pg_sub (pv 2) (pe_un un_neg pe_int) set_list)))
          (pss_one (ps_expr (pe_bm PySem.F.plainAttrs_list PySem.F.slot_list_append PySem.F.type_list_append mt_append (pv 2) (pa_cons (pe_tup (pa_cons (pv 7) pa_nil)) pa_nil)))))
        (pss_cons (ps_expr (pe_bm PySem.F.plainAttrs_list PySem.F.slot_list_append PySem.F.type_list_append mt_append (pv 3) (pa_cons (pe_tup (pa_cons (pv 6) (pa_cons (pe_ix ix_list (pv 4) (pv 6) (fun _ _ => rfl)) pa_nil))) pa_nil)))
        (pss_one (ps_asg (pe_op op_add (pe_ix ix_list (pv 4) (pv 6) (fun _ _ => rfl)) pe_int) (pg_sub (pv 4) (pv 6) set_list)))))))
      (pss_one (ps_ret (pe_tup (pa_cons (pe_lc (own := [("_law_entry", 8)]) (g := gName 8) (tt := tYes) (te := tIf (tTest (tOp (rI0 fun i j => .bl (decide (i > j))) (tCB (rLenQ K) (tCons (tVar 8) tNil)) (tC (.int 1)))) (tVar 8) (tOp (rIxT K) (tVar 8) (tC (.int 0)))) rfl nd (pi_list (pv 2)) (blkOk_by (N := nEntries) (sc := defScope s_law_entries) (by decide +kernel))
          (fun _ _ _ _ _ => pg_name (i := 8) nd rfl (Or.inl rfl)) (fun _ _ _ _ _ => pts_nil) (fun _ _ _ _ _ => pe_ifExp (pt_cmpR op_gt (pe_b call_len_seq T.b_len (pa_cons (pv 8) pa_nil)) pe_int (nomark _)) (pv 8) (pe_ix ix_tup (pv 8) pe_int (fun _ _ => rfl)))) (pa_cons (pv 3) pa_nil)))))), ?_⟩
    refine ⟨Nat.zero_le _, fun e he => ⟨Nat.zero_le _, fun sp hsp => ⟨by show 1 ≤ sizeLine; decide, fun z hz => ?_⟩⟩⟩
    have s1 : Same H (upd (upd (upd H e (.lst [])) sp (.lst [])) z (.lst [.int 0])) := ((Same.new he).lay hsp).lay hz
    refine ⟨_, rfl, c, xs, rfl, .inl (SqL.of (s1 _ _ hc)), z, _, _, rfl, rfl, upd_same, by omega, by omega, ?_, fun dn hdn => ⟨_, _, _, rfl, ?_⟩⟩
    · rw [Int.toNat_natCast]
      show 1 * xs.length ≤ sizeLine
      omega
    have zne : ∀ {a : Addr} {o : HO}, H a = some o → a ≠ z := fun e1 => ne_of_none (((Same.new he).lay hsp) _ _ e1) hz
    have hespH : e ≠ sp := ne_of_none upd_same hsp
    have hez : e ≠ z := ne_of_none (show (upd (upd H e (.lst [])) sp (.lst [])) e = some (.lst []) by rw [upd_ne hespH]; exact upd_same) hz
    have hspz : sp ≠ z := ne_of_none upd_same hz
    have he3 : (upd (upd (upd H e (.lst [])) sp (.lst [])) z (.lst [.int 0])) e = some (.lst []) := by rw [upd_ne hez, upd_ne hespH]; exact upd_same
    have hsp3 : (upd (upd (upd H e (.lst [])) sp (.lst [])) z (.lst [.int 0])) sp = some (.lst []) := by rw [upd_ne hspz]; exact upd_same
    have hedn : e ≠ dn := ne_of_none he3 hdn
    have hspdn : sp ≠ dn := ne_of_none hsp3 hdn
    have he0 : H e = none := he
    have hsp0 : H sp = none := (Same.new he).free hsp
    have hdn0 : H dn = none := s1.free hdn
    have s2 : Same H (upd (upd (upd (upd H e (.lst [])) sp (.lst [])) z (.lst [.int 0])) dn (.lst (List.replicate ((xs.length : Nat) : Int).toNat [V.int 0]).flatten)) := s1.lay hdn
    have he4 : (upd (upd (upd (upd H e (.lst [])) sp (.lst [])) z (.lst [.int 0])) dn (.lst (List.replicate ((xs.length : Nat) : Int).toNat [V.int 0]).flatten)) e = some (.lst []) := by rw [upd_ne hedn]; exact he3
    have hsp4 : (upd (upd (upd (upd H e (.lst [])) sp (.lst [])) z (.lst [.int 0])) dn (.lst (List.replicate ((xs.length : Nat) : Int).toNat [V.int 0]).flatten)) sp = some (.lst []) := by rw [upd_ne hspdn]; exact hsp3
    have hdn4 : (upd (upd (upd (upd H e (.lst [])) sp (.lst [])) z (.lst [.int 0])) dn (.lst (List.replicate ((xs.length : Nat) : Int).toNat [V.int 0]).flatten)) dn = some (.lst ((List.replicate ps.length (0 : Int)).map V.int)) := by rw [upd_same, Int.toNat_natCast, rep_flat, lxs]
    generalize (upd (upd (upd (upd H e (.lst [])) sp (.lst [])) z (.lst [.int 0])) dn (.lst (List.replicate ((xs.length : Nat) : Int).toNat [V.int 0]).flatten)) = H1 at s2 he4 hsp4 hdn4 ⊢
    obtain ⟨M, eM⟩ : ∃ M : Ad, M = fun a => In H a ∨ a = e ∨ a = sp ∨ a = dn := ⟨_, rfl⟩
    have mIn : ∀ a, In H a → M a := fun a h => by rw [eM]; exact .inl h
    have me : M e := by rw [eM]; exact .inr (.inl rfl)
    have msp : M sp := by rw [eM]; exact .inr (.inr (.inl rfl))
    have mdn : M dn := by rw [eM]; exact .inr (.inr (.inr rfl))
    have neH : ∀ {a : Addr} {o : HO}, H a = some o → a ≠ e ∧ a ≠ sp ∧ a ≠ dn := fun h => ⟨ne_of_none h he0, ne_of_none h hsp0, ne_of_none h hdn0⟩
    obtain ⟨Pv, ePv⟩ : ∃ Pv : Nat → L2.St → Hp → Prop, Pv = fun i σ H' => ∃ (o5 o6 o7 : Option V) (ys : List V) (gs : List (Tp Str)) (zs : List V) (ds : List Int), σ = [some (.ref c), some (.ref b), some (.ref e), some (.ref sp), some (.ref dn), o5, o6, o7, none] ∧ Same H H' ∧ H' e = some (.lst ys) ∧ All2 (rp M H') ys gs ∧ (∀ g ∈ gs, 1 ≤ g.items.length) ∧ (gs.map PySem.W.Tup.items).flatten = ((linesIn ps row).take i).map lineS ∧ H' sp = some (.lst zs) ∧ All2 (rp M H') zs ((spotsIn row).take i) ∧ H' dn = some (.lst (ds.map V.int)) ∧ ds.length = ps.length ∧ ∀ (j : Nat) (d : Int), ds[j]? = some d → d = cnt (j : Int) (row.take i) := ⟨_, rfl⟩
    have noM : ∀ {H' : Hp} {q : Addr}, Same H H' → (∃ o, H' e = some o) → (∃ o, H' sp = some o) → (∃ o, H' dn = some o) → H' q = none → ¬ M q := fun s ⟨o1, h1⟩ ⟨o2, h2⟩ ⟨o3, h3⟩ hq m => by
      rw [eM] at m
      rcases m with ⟨o, h⟩ | h | h | h
      · rw [s _ _ h] at hq
        cases hq
      · rw [h, h1] at hq
        cases hq
      · rw [h, h2] at hq
        cases hq
      · rw [h, h3] at hq
        cases hq
    refine ⟨_, rfl, b, _, rfl, SqL.of (s2 _ _ hb), for_it (walk_enum (xs := row.map V.int)) Pv ?_ (fun i σ H' _ hh => ?_) ?_ ?_⟩
    · rw [ePv]
      refine ⟨none, none, none, [], [], [], _, rfl, s2, he4, trivial, (fun _ h => nomatch h), rfl, hsp4, trivial, hdn4, List.length_replicate, fun j d h => ?_⟩
      rw [List.take_zero, cnt_nil]
      exact List.eq_of_mem_replicate (List.mem_of_getElem? h)
    · rw [ePv] at hh
      obtain ⟨_, _, _, _, _, _, _, _, s3, _⟩ := hh
      exact SqL.of (s3 _ _ hb)
    · intro i x σ H3 H4 hi hh hy
      rw [ePv] at hh
      obtain ⟨o5, o6, o7, ys, gs, zs, ds, rfl, s3, he5, rg, g1, gf, hsp5, rz, hdn5, lds, hds⟩ := hh
      obtain ⟨q, y, z', rfl, hq, rfl, e1, e2⟩ := hy
      replace e2 : (row.map V.int)[i]? = some z' := e2
      cases (show some (V.int ((i : Nat) : Int)) = some y from e1)
      rw [List.length_map] at hi
      have eri := List.getElem?_eq_getElem hi
      rw [List.getElem?_map, eri] at e2
      cases e2
      obtain ⟨h0, h1, p, l, hp, hl, hla⟩ := weave_line we eri
      obtain ⟨r, er⟩ : ∃ r, r = row[i] := ⟨_, rfl⟩
      rw [← er] at eri h0 h1 hp hl hla ⊢
      have hps : p ∈ ps := List.mem_of_getElem? hp
      have ltl : LT 3 l := lt p hps l (List.mem_of_getElem? hl)
      have hli := linesIn_get eri hla
      have hspi := spotsIn_get eri
      obtain ⟨x1, hx1, c2, ys2, rfl, nc2, hc2, ry⟩ := rx.get hp
      obtain ⟨v2, hv2, rl⟩ := ry.get hl
      have hrd : r.toNat < ds.length := by rw [lds]; omega
      have hd := hds r.toNat _ (List.getElem?_eq_getElem hrd)
      rw [Int.toNat_of_nonneg h0] at hd
      have hdg : (ds.map V.int)[r.toNat]? = some (V.int (cnt r (row.take i))) := by rw [List.getElem?_map, List.getElem?_eq_getElem hrd, hd]; rfl
      have hq' : ∀ {a : Addr} {o : HO}, H3 a = some o → a ≠ q := fun h => ne_of_none h hq
      have s35 : Same H3 (upd H3 q (.tup [V.int ((i : Nat) : Int), .int r])) := Same.new hq
      refine ⟨q, _, rfl, SqT.of upd_same, rfl, _, _, rfl, _, _, rfl, rfl, ?_⟩
      generalize upd H3 q (.tup [V.int ((i : Nat) : Int), .int r]) = H5 at s35 ⊢
      have s5 := s3.trans s35
      refine ⟨_, rfl, _, rfl, c, xs, r, _, rfl, rfl, SqL.of (s5 _ _ hc), atI_int h0 hx1, _, rfl, _, rfl, dn, _, r, _, rfl, rfl, SqL.of (s35 _ _ hdn5), atI_int h0 hdg, c2, ys2, _, v2, rfl, rfl, SqL.of (s5 _ _ hc2), atI_int (cnt_nonneg _ _) hv2, N, v2, l, rfl, Rp.mono (SameN.of s5) rl, ltl, fun H6 s56 => ?_⟩
      have s36 := s35.trans s56
      have s6 := s5.trans s56
      have he6 := s36 _ _ he5
      have hsp6 := s36 _ _ hsp5
      have hdn6 := s36 _ _ hdn5
      have rg6 := rg.monoR (SameN.of s36)
      have rz6 := rz.monoR (SameN.of s36)
      have lys := rg.length
      have lzs := rz.length
      rw [List.length_take, spotsIn_len] at lzs
      have lgs : gs.length ≤ 9 := by
        have gen : ∀ gs : List (Tp Str), (∀ g ∈ gs, 1 ≤ g.items.length) → gs.length ≤ ((gs.map PySem.W.Tup.items).flatten).length := fun gs => by
          induction gs with
          | nil => exact fun _ => Nat.le_refl _
          | cons g gs ih =>
            intro h
            have h1 := h g List.mem_cons_self
            have h2 := ih fun g' hg => h g' (List.mem_cons_of_mem _ hg)
            rw [List.map_cons, List.flatten_cons, List.length_append, List.length_cons]
            omega
        have := gen gs g1
        rw [gf, List.length_map, List.length_take, linesIn_len] at this
        omega
      have rest : ∀ (D : Ends) (H7 : Hp) (ys' : List V) (gs' : List (Tp Str)), (∀ σ' H', Pv (i + 1) σ' H' → D.nx σ' H') → Same H H7 → H7 e = some (.lst ys') → All2 (rp M H7) ys' gs' → (∀ g ∈ gs', 1 ≤ g.items.length) → (gs'.map PySem.W.Tup.items).flatten = (gs.map PySem.W.Tup.items).flatten ++ [lineS l] → H7 sp = some (.lst zs) → All2 (rp M H7) zs ((spotsIn row).take i) → H7 dn = some (.lst (ds.map V.int)) →
          (tSeq (tDrop (tBM K "list" rAppend (tVar 3) (tCons (tTup (tCons (tVar 6) (tCons (tOp (rIxL K) (tVar 4) (tVar 6)) tNil))) tNil))) (tAsg (tOp (rI0 fun i j => .int (i + j)) (tOp (rIxL K) (tVar 4) (tVar 6)) (tC (.int 1))) (gSub (tVar 4) (tVar 6) rSetL))) D [some (.ref c), some (.ref b), some (.ref e), some (.ref sp), some (.ref dn), some (V.int ((i : Nat) : Int)), some (.int r), some (.str (lineS l)), none] H7 := by
        intro D H7 ys' gs' hD s7 he7 rg7 g17 gf7 hsp7 rz7 hdn7
        refine ⟨_, rfl, .inl ⟨rfl, _, SqL.of hsp7⟩, _, rfl, _, rfl, _, rfl, dn, _, r, _, rfl, rfl, SqL.of hdn7, atI_int h0 hdg, by show 2 ≤ sizeLine; decide, fun t ht => ?_⟩
        have sM1 : SameN M H7 (upd H7 t (.tup [.int r, .int (cnt r (row.take i))])) := SameN.of (Same.new ht)
        have nMt := noM s7 ⟨_, he7⟩ ⟨_, hsp7⟩ ⟨_, hdn7⟩ ht
        have hspt : sp ≠ t := ne_of_none hsp7 ht
        have hdnt : dn ≠ t := ne_of_none hdn7 ht
        have het : e ≠ t := ne_of_none he7 ht
        refine ⟨sp, zs, _, rfl, rfl, by rw [upd_ne hspt]; exact hsp7, by omega, ?_⟩
        have hdn9 : (upd (upd H7 t (.tup [.int r, .int (cnt r (row.take i))])) sp (.lst (zs ++ [.ref t]))) dn = some (.lst (ds.map V.int)) := by rw [upd_ne hspdn.symm, upd_ne hdnt]; exact hdn7
        refine ⟨_, rfl, _, rfl, dn, _, r, _, rfl, rfl, SqL.of hdn9, atI_int h0 hdg, _, _, rfl, rfl, _, rfl, _, rfl, dn, _, r, r.toNat, rfl, rfl, hdn9, ixN_int h0 (by rw [List.length_map]; exact hrd), hD _ _ ?_⟩
        have sM : SameN M H7 (upd (upd (upd H7 t (.tup [.int r, .int (cnt r (row.take i))])) sp (.lst (zs ++ [.ref t]))) dn (.lst ((ds.map V.int).set r.toNat (.int (cnt r (row.take i) + 1))))) := (sM1.upd' msp).upd' mdn
        have sM2 : SameN M (upd H7 t (.tup [.int r, .int (cnt r (row.take i))])) (upd (upd (upd H7 t (.tup [.int r, .int (cnt r (row.take i))])) sp (.lst (zs ++ [.ref t]))) dn (.lst ((ds.map V.int).set r.toNat (.int (cnt r (row.take i) + 1))))) := (SameN.upd msp).upd' mdn
        rw [ePv]
        refine ⟨_, _, _, ys', gs', zs ++ [.ref t], ds.set r.toNat (cnt r (row.take i) + 1), rfl, fun a o h => ?_, ?_, rg7.monoR sM, g17, ?_, ?_, ?_, ?_, by rw [List.length_set]; exact lds, fun j d h => ?_⟩
        · obtain ⟨n1, n2, n3⟩ := neH h
          rw [upd_ne n3, upd_ne n2]
          exact Same.new ht _ _ (s7 _ _ h)
        · rw [upd_ne hedn, upd_ne hespH, upd_ne het]
          exact he7
        · rw [gf7, gf, take_succ' hli, List.map_append]
          rfl
        · rw [upd_ne hspdn]
          exact upd_same
        · rw [take_succ' hspi]
          have rt : rp M (upd (upd (upd H7 t (.tup [.int r, .int (cnt r (row.take i))])) sp (.lst (zs ++ [.ref t]))) dn (.lst ((ds.map V.int).set r.toNat (.int (cnt r (row.take i) + 1))))) (.ref t) (r, cnt r (row.take i)) := ⟨t, _, _, rfl, nMt, by rw [upd_ne hdnt.symm, upd_ne hspt.symm]; exact upd_same, rfl, rfl⟩
          exact (rz7.monoR sM).append (.one rt)
        · rw [upd_same, List.map_set]
        · rw [take_succ' eri, cnt_snoc]
          by_cases hj : j = r.toNat
          · subst hj
            rw [Int.toNat_of_nonneg h0, if_pos rfl]
            rw [List.getElem?_set_self hrd] at h
            exact (Option.some.inj h).symm
          · rw [List.getElem?_set_ne (fun z => hj z.symm)] at h
            rw [if_neg (by omega)]
            exact hds j d h
      have no := fun (D : Ends) (hD : ∀ σ' H', Pv (i + 1) σ' H' → D.nx σ' H') => (show (tDrop (tBM K "list" rAppend (tVar 2) (tCons (tTup (tCons (tVar 7) tNil)) tNil))) { D with nx := fun σ H => (tSeq (tDrop (tBM K "list" rAppend (tVar 3) (tCons (tTup (tCons (tVar 6) (tCons (tOp (rIxL K) (tVar 4) (tVar 6)) tNil))) tNil))) (tAsg (tOp (rI0 fun i j => .int (i + j)) (tOp (rIxL K) (tVar 4) (tVar 6)) (tC (.int 1))) (gSub (tVar 4) (tVar 6) rSetL))) D σ H } [some (.ref c), some (.ref b), some (.ref e), some (.ref sp), some (.ref dn), some (V.int ((i : Nat) : Int)), some (.int r), some (.str (lineS l)), none] H6 from by
        refine ⟨_, rfl, .inl ⟨rfl, _, SqL.of he6⟩, _, rfl, by show 1 ≤ sizeLine; decide, fun t ht => ?_⟩
        have nMt := noM s6 ⟨_, he6⟩ ⟨_, hsp6⟩ ⟨_, hdn6⟩ ht
        have het : e ≠ t := ne_of_none he6 ht
        have sM : SameN M H6 (upd (upd H6 t (.tup [.str (lineS l)])) e (.lst (ys ++ [.ref t]))) := (SameN.of (Same.new ht)).upd' me
        have rt : rp M (upd (upd H6 t (.tup [.str (lineS l)])) e (.lst (ys ++ [.ref t]))) (.ref t) (⟨[lineS l]⟩ : Tp Str) := ⟨t, [.str (lineS l)], rfl, nMt, by rw [upd_ne het.symm]; exact upd_same, rfl, trivial⟩
        refine ⟨e, ys, _, rfl, rfl, by rw [upd_ne het]; exact he6, by omega, ?_⟩
        refine rest D _ (ys ++ [.ref t]) (gs ++ [⟨[lineS l]⟩]) hD (fun a o h => ?_) upd_same ((rg6.monoR sM).append (.one rt)) (fun g hg => ?_) ?_ ?_ (rz6.monoR sM) ?_
        · rw [upd_ne (neH h).1]
          exact Same.new ht _ _ (s6 _ _ h)
        · rcases List.mem_append.mp hg with m | m
          · exact g1 g m
          · rw [List.mem_singleton.mp m]
            exact Nat.le_refl _
        · rw [List.map_append, List.flatten_append]
          rfl
        · rw [upd_ne hespH.symm, upd_ne (ne_of_none hsp6 ht)]
          exact hsp6
        · rw [upd_ne hedn.symm, upd_ne (ne_of_none hdn6 ht)]
          exact hdn6)
      refine ⟨_, rfl, _, _, rfl, rfl, decide ((i : Int) > 0), rfl, ?_⟩
      by_cases hi0 : (i : Int) > 0
      · rw [decide_eq_true hi0]
        have hi1 : i - 1 < row.length := by omega
        have e3 : (i : Int) - 1 = ((i - 1 : Nat) : Int) := by omega
        refine iteT ⟨_, rfl, _, rfl, _, _, rfl, rfl, b, _, _, V.int row[i - 1], rfl, rfl, SqL.of (s6 _ _ hb), ?_, _, rfl, rfl, decide (V.int row[i - 1] = V.int r), rfl, ?_⟩
        · rw [e3]
          exact atI_nat (by rw [List.getElem?_map, List.getElem?_eq_getElem hi1]; rfl)
        by_cases hc : V.int row[i - 1] = V.int r
        · rw [decide_eq_true hc]
          refine iteT ?_
          rcases List.eq_nil_or_concat gs with eg | ⟨gs0, gl, eg⟩
          · exfalso
            rw [eg] at gf
            have := congrArg List.length gf
            rw [List.length_map, List.length_take, linesIn_len] at this
            simp at this
            omega
          rcases List.eq_nil_or_concat ys with ey | ⟨ys0, yl, ey⟩
          · rw [ey, eg] at lys
            simp at lys
          rw [List.concat_eq_append] at eg ey
          subst eg
          subst ey
          rw [List.length_append, List.length_append, List.length_singleton, List.length_singleton] at lys
          have lys' : ys0.length = gs0.length := by omega
          have rg0 : All2 (rp M H6) ys0 gs0 := by
            have := rg6.take gs0.length
            rw [List.take_left, ← lys', List.take_left] at this
            exact this
          obtain ⟨yl', hyl, rl6⟩ := rg6.get (i := gs0.length) (b := gl) (by rw [List.getElem?_append_right (Nat.le_refl _), Nat.sub_self]; rfl)
          rw [← lys', List.getElem?_append_right (Nat.le_refl _), Nat.sub_self] at hyl
          cases hyl
          obtain ⟨ta, xa, rfl, nta, hta, rxa⟩ := id rl6
          have exa := strs_of rxa
          subst exa
          have gl1 := g1 gl (List.mem_append_right _ (List.mem_singleton.mpr rfl))
          have gl9 : gl.items.length ≤ 9 := by
            have := congrArg List.length gf
            rw [List.map_append, List.flatten_append, List.length_append, List.length_map, List.length_take, linesIn_len] at this
            simp at this
            omega
          refine ⟨_, rfl, 1, rfl, e, _, -1, .ref ta, rfl, rfl, SqL.of he6, atI_last _ _, _, rfl, by show 1 ≤ sizeLine; decide, fun m hm => ?_⟩
          have s8 := s6.lay (o := .tup [.str (lineS l)]) hm
          have hta8 : (upd H6 m (.tup [.str (lineS l)])) ta = some (.tup (gl.items.map V.str)) := Same.new hm _ _ hta
          refine ⟨ta, m, _, _, rfl, rfl, SqT.of hta8, SqT.of upd_same, fun z => ?_, ?_, (fun z => nomatch z), fun _ t ht => ?_⟩
          · rw [List.map_eq_nil_iff] at z
            rw [z] at gl1
            simp at gl1
          · rw [List.length_map, List.length_singleton]
            omega
          have he8 := Same.new (o := .tup [.str (lineS l)]) hm _ _ he6
          have hsp8 := Same.new (o := .tup [.str (lineS l)]) hm _ _ hsp6
          have hdn8 := Same.new (o := .tup [.str (lineS l)]) hm _ _ hdn6
          have nMt := noM s8 ⟨_, he8⟩ ⟨_, hsp8⟩ ⟨_, hdn8⟩ ht
          have het : e ≠ t := ne_of_none he8 ht
          have he9 : (upd (upd H6 m (.tup [.str (lineS l)])) t (.tup (gl.items.map V.str ++ [.str (lineS l)]))) e = some (.lst (ys0 ++ [.ref ta])) := by rw [upd_ne het]; exact he8
          refine ⟨_, rfl, 1, rfl, e, _, -1, ys0.length, rfl, rfl, he9, ?_, ?_⟩
          · unfold ixN
            rw [if_neg (by decide), if_pos (by rw [List.length_append, List.length_singleton]; omega), List.length_append, List.length_singleton]
            exact congrArg some (by omega)
          rw [List.set_append_right _ _ (Nat.le_refl _), Nat.sub_self]
          have sM : SameN M H6 (upd (upd (upd H6 m (.tup [.str (lineS l)])) t (.tup (gl.items.map V.str ++ [.str (lineS l)]))) e (.lst (ys0 ++ [.ref ta].set 0 (.ref t)))) := (SameN.of ((Same.new hm).lay ht)).upd' me
          have rt : rp M (upd (upd (upd H6 m (.tup [.str (lineS l)])) t (.tup (gl.items.map V.str ++ [.str (lineS l)]))) e (.lst (ys0 ++ [.ref ta].set 0 (.ref t)))) (.ref t) (⟨gl.items ++ [lineS l]⟩ : Tp Str) := ⟨t, _, rfl, nMt, by rw [upd_ne het.symm]; exact upd_same, by
            have := strs_rp (N := M) (H := (upd (upd (upd H6 m (.tup [.str (lineS l)])) t (.tup (gl.items.map V.str ++ [.str (lineS l)]))) e (.lst (ys0 ++ [.ref ta].set 0 (.ref t))))) (gl.items ++ [lineS l])
            rw [List.map_append] at this
            exact this⟩
          refine rest _ _ (ys0 ++ [.ref t]) (gs0 ++ [⟨gl.items ++ [lineS l]⟩]) (fun _ _ h => h) (fun a o h => ?_) upd_same ((rg0.monoR sM).append (.one rt)) (fun g hg => ?_) ?_ ?_ (rz6.monoR sM) ?_
          · rw [upd_ne (neH h).1]
            exact Same.new ht _ _ (s8 _ _ h)
          · rcases List.mem_append.mp hg with m2 | m2
            · exact g1 g (List.mem_append_left _ m2)
            · rw [List.mem_singleton.mp m2]
              show 1 ≤ (gl.items ++ [lineS l]).length
              rw [List.length_append]
              omega
          · rw [List.map_append, List.flatten_append, List.map_append, List.flatten_append, List.append_assoc]
            congr 1
            simp
          · rw [upd_ne hespH.symm, upd_ne (ne_of_none hsp8 ht)]
            exact hsp8
          · rw [upd_ne hedn.symm, upd_ne (ne_of_none hdn8 ht)]
            exact hdn8
        · rw [decide_eq_false hc]
          exact iteF (no _ fun _ _ h => h)
      · rw [decide_eq_false hi0]
        exact iteF (iteF (no _ fun _ _ h => h))
    · intro σ H3 hh
      rw [ePv] at hh
      obtain ⟨o5, o6, o7, ys, gs, zs, ds, rfl, s3, he5, rg, g1, gf, hsp5, rz, hdn5, lds, hds⟩ := hh
      rw [List.length_map] at gf rz
      rw [List.take_of_length_le (by rw [linesIn_len]; exact Nat.le_refl _)] at gf
      rw [List.take_of_length_le (by rw [spotsIn_len]; exact Nat.le_refl _)] at rz
      have lys := rg.length
      have ltot : ((gs.map PySem.W.Tup.items).flatten).length ≤ 9 := by rw [gf, List.length_map, linesIn_len]; exact lrow
      have gin : ∀ g ∈ gs, g.items.length ≤ 9 ∧ ∀ x ∈ g.items, CL x := fun g hg => by
        have hsub : ∀ x ∈ g.items, x ∈ (gs.map PySem.W.Tup.items).flatten := fun x hx => List.mem_flatten.mpr ⟨_, List.mem_map.mpr ⟨g, hg, rfl⟩, hx⟩
        refine ⟨Nat.le_trans ?_ ltot, fun x hx => ?_⟩
        · exact (List.sublist_flatten_of_mem (List.mem_map.mpr ⟨g, hg, rfl⟩)).length_le
        · have hx2 := hsub x hx
          rw [gf] at hx2
          obtain ⟨l, hl, rfl⟩ := List.mem_map.mp hx2
          exact line_cl (lok l hl)
      have lgs : gs.length ≤ 9 := by
        have gen : ∀ gs : List (Tp Str), (∀ g ∈ gs, 1 ≤ g.items.length) → gs.length ≤ ((gs.map PySem.W.Tup.items).flatten).length := fun gs => by
          induction gs with
          | nil => exact fun _ => Nat.le_refl _
          | cons g gs ih =>
            intro h
            have h1 := h g List.mem_cons_self
            have h2 := ih fun g' hg => h g' (List.mem_cons_of_mem _ hg)
            rw [List.map_cons, List.flatten_cons, List.length_append, List.length_cons]
            omega
        have := gen gs g1
        omega
      refine ⟨_, rfl, e, rfl, ⟨_, SqL.of he5⟩, fun D hD => ?_⟩
      refine lc_rp (β := En) (walk_list (xs := ys)) (gs.map grpE) (by rw [List.length_map]; exact lys.symm) (by omega) M hD (fun H2 s4 => SqL.of (s4 _ _ he5)) yAt_same (fun j b' y H4 H2 K1 hb' s4 _ hy k1 => ?_) (fun H2 acc s4 hacc r => ?_)
      · obtain ⟨rfl, hy⟩ := hy
        obtain ⟨g, hg, ta, xa, rfl, nta, hta, rxa⟩ := rg.get' hy
        rw [List.getElem?_map, hg] at hb'
        cases hb'
        have exa := strs_of rxa
        subst exa
        have hgm := List.mem_of_getElem? hg
        have hta4 := s4 _ _ hta
        have nD : ta ≠ D := ne_of_none hta hD
        refine ⟨wipe1 _ _ _, _, rfl, ta, _, rfl, .inr (SqT.of hta4), _, _, rfl, rfl, decide ((((g.items.map V.str).length : Nat) : Int) > 1), rfl, ?_⟩
        rw [List.length_map]
        by_cases hgl : g.items.length > 1
        · rw [decide_eq_true (by omega)]
          refine iteT ⟨_, rfl, k1 _ _ (Same.refl _) ?_⟩
          unfold grpE
          rw [if_pos hgl]
          exact (show rp (And1 M D) H2 (.ref ta) g from ⟨ta, _, rfl, fun z => z.elim nta nD, hta4, strs_rp _⟩)
        · rw [decide_eq_false (by omega)]
          obtain ⟨x, hx⟩ : ∃ x, g.items = [x] := by
            have h1 := g1 g hgm
            exact List.length_eq_one_iff.mp (by omega)
          refine iteF ⟨_, rfl, ta, _, 0, V.str x, rfl, rfl, SqT.of hta4, atI_nat (j := 0) (by rw [hx]; rfl), k1 _ _ (Same.refl _) ?_⟩
          unfold grpE
          rw [if_neg hgl, hx]
          exact (show rp (And1 M D) H2 (.str x) x from rfl)
      · refine ⟨_, rfl, by show 2 ≤ sizeLine; decide, fun t ht => ?_⟩
        have s5 : Same H2 (upd H2 t (.tup [.ref D, .ref sp])) := Same.new ht
        refine k t D sp acc zs (gs.map grpE) _ ((s3.trans s4).trans s5) upd_same (s5 _ _ hacc) ((r.weakR fun a z => .inl (mIn a z)).monoR (SameN.of s5)) (s5 _ _ (s4 _ _ hsp5)) ((rz.weakR mIn).monoR (SameN.of (s4.trans s5))) (by rw [grps_lines g1, gf]) fun en hen => ?_
        obtain ⟨g, hg, rfl⟩ := List.mem_map.mp hen
        exact grp_ok (g1 g hg) (gin g hg).1 (gin g hg).2
end
end Net
namespace Net
open PySem PySem.Spec PyProof.Rows L2
def spFlat : Sp := fun vs H Q _ => ∃ (N : Ad) (e : Addr) (ys : List V) (es : List En), vs = [.ref e] ∧ H e = some (.lst ys) ∧ All2 (rp N H) ys es ∧ (es.flatMap linesE).length ≤ 1000 ∧
  ∀ D H', Same H H' → H' D = some (.lst ((es.flatMap linesE).map V.str)) → Q (.ref D) H'
section
variable {P : Program} {w : World} {K : PySem.W.Frag} {mg : Str → Option Value} {base : Heap}
abbrev nFlat : List Str := ["_law_entries_here", "_law_found", "_law_entry"]
theorem sc_law_flat : FnScope nFlat ["_law_entries_here"] (defScope s_law_flat) := ⟨rfl, rfl, rfl, by decide +kernel, rfl, by decide +kernel, by decide +kernel⟩
theorem ok_law_flat (T : NT K mg) : Cal P w K mg base (ga K "_law_flat") 1 ["_law_entries_here"] spFlat := by
  obtain ⟨fd, F⟩ := T.D_law_flat
  refine Cal.of F (F.bindsN fun _ _ _ _ _ _ us hl => match us, hl with | [_], _ => rfl) sc_law_flat (fun vs H Q E h => ?_) (fun cdv A outer s H vs Q E hr h => ?_)
  · obtain ⟨N, e, ys, es, rfl, _⟩ := h
    rfl
  · obtain ⟨N, e, ys, es, rfl, he, ry, few, k⟩ := h
    have nd := sc_law_flat.nd
    have hbig := big
    refine ⟨_, pss_cons (ps_set (i := 1) nd rfl (Or.inl rfl) (pe_lst pa_nil))
      (pss_cons (ps_for PassesOwn.never rfl (pi_list (pv 0)) (pg_name (i := 2) nd rfl (Or.inl rfl))
        (pss_one (ps_expr (pe_bm PySem.F.plainAttrs_list PySem.F.slot_list_extend PySem.F.type_list_extend mt_extend (pv 1) (pa_cons (pe_ifExp (pt_val (pe_b (cr_is "tuple") T.b_isinstance (pa_cons (pv 2) (pa_cons (pe_ty "tuple" T.b_tuple) pa_nil)))) (pe_t call_list_of T.b_list (pa_cons (pv 2) pa_nil)) (pe_lst (pa_cons (pv 2) pa_nil))) pa_nil)))))
      (pss_one (ps_ret (pv 1)))), ?_⟩
    refine ⟨Nat.zero_le _, fun f hf => ?_⟩
    have s0 : Same H (upd H f (.lst [])) := Same.new hf
    refine ⟨_, rfl, e, rfl, ⟨_, SqL.of (s0 _ _ he)⟩, for_it (walk_list (xs := ys)) (fun i σ H' => ∃ (o2 : Option V), σ = [some (.ref e), some (.ref f), o2] ∧ Same H H' ∧ H' f = some (.lst (((es.take i).flatMap linesE).map V.str)))
      ⟨none, rfl, s0, upd_same⟩ (fun i σ H' _ ⟨_, _, s2, _⟩ => SqL.of (s2 _ _ he)) ?_ ?_⟩
    · rintro i y σ H3 H2 hi ⟨o2, rfl, s2, hf2⟩ ⟨rfl, hy⟩
      obtain ⟨en, hen, re⟩ := ry.get' hy
      have hlen : ((es.take i).flatMap linesE).length + (linesE en).length ≤ 1000 := by
        have e1 : (es.take (i + 1)).flatMap linesE = (es.take i).flatMap linesE ++ linesE en := by rw [take_succ' hen, List.flatMap_append]; simp
        have e2 : es.flatMap linesE = (es.take (i + 1)).flatMap linesE ++ (es.drop (i + 1)).flatMap linesE := by rw [← List.flatMap_append, List.take_append_drop]
        rw [e2, e1, List.length_append, List.length_append] at few
        omega
      have fin : ∀ (D : Addr) (H5 : Hp), Same H2 H5 → H5 D = some (.lst ((linesE en).map V.str)) → rExtend (.ref f) [.ref D] H5 fun _ H6 => ∃ (o2 : Option V), [some (.ref e), some (.ref f), some y] = [some (V.ref e), some (.ref f), o2] ∧ Same H H6 ∧ H6 f = some (.lst (((es.take (i + 1)).flatMap linesE).map V.str)) := fun D H5 s5 hD => by
        refine ⟨f, D, _, _, rfl, rfl, s5 _ _ hf2, hD, by rw [List.length_map, List.length_map]; omega, _, rfl, fun a o h => ?_, ?_⟩
        · rw [upd_ne (ne_of_none h hf)]
          exact s5 _ _ (s2 _ _ h)
        · rw [upd_same, take_succ' hen, List.flatMap_append, List.map_append]
          simp
      refine ⟨_, rfl, .inl ⟨rfl, _, SqL.of hf2⟩, ?_⟩
      cases en with
      | inl x =>
        cases (show y = V.str x from re)
        refine ⟨_, rfl, _, "str", false, rfl, .base (.str _), by decide +kernel, false, rfl, iteF ?_⟩
        exact ⟨_, rfl, (by show 1 ≤ sizeLine; decide), fun D hD => fin D _ (Same.new hD) upd_same⟩
      | inr t =>
        obtain ⟨a, xs, rfl, na, ha, hx⟩ := (show rp N H y t from re)
        have ex := strs_of hx
        subst ex
        have ha2 := s2 _ _ ha
        refine ⟨_, rfl, _, "tuple", true, rfl, tyX_tup ha2, by decide +kernel, true, rfl, iteT ?_⟩
        exact ⟨_, rfl, a, _, rfl, .inr (SqT.of ha2), fun D hD => fin D _ (Same.new hD) upd_same⟩
    · rintro σ H3 ⟨o2, rfl, s2, hf2⟩
      rw [ry.length, List.take_length] at hf2
      exact ⟨_, rfl, k f _ s2 hf2⟩
end
end Net
/-! Texts of logs, cut: plain. -/
namespace Net
open PySem PySem.Spec PyProof.Rows L2
def Tt (rs : List Str) : List Nat := (rs.map fun x => tl (rowT x)).flatten
theorem Tt_append (a b : List Str) : Tt (a ++ b) = Tt a ++ Tt b := by
  unfold Tt
  rw [List.map_append, List.flatten_append]
theorem Tt_cons (x : Str) (b : List Str) : Tt (x :: b) = tl (rowT x) ++ Tt b := rfl
theorem tl_textOf (es : List En) : tl (textOf es) = Tt (rowsOf es) := by
  unfold textOf
  refine (tl_join0 _).trans ?_
  rw [List.map_map]
  rfl
theorem body_free {x : Str} (h : LR x) : 10 ∉ tl (bodyT x) := fun m => by
  rw [tl_body] at m
  rcases List.mem_append.mp m with m | m
  · have := rowC_low (h.row _ m)
    omega
  · rcases List.mem_cons.mp m with e | m
    · omega
    · have := chk_dig x _ m
      omega
/-- a text of rows, cut anywhere -/
theorem cut_rows : ∀ {rs : List Str} (c : Nat), (∀ x ∈ rs, LR x) → ∃ m part, m ≤ rs.length ∧ (Tt rs).take c = Tt (rs.take m) ++ part ∧ 10 ∉ part
  | [], c, _ => ⟨0, [], Nat.le_refl _, by simp [Tt], fun h => nomatch h⟩
  | x :: rs, c, h => by
    have hx := body_free (h x List.mem_cons_self)
    have el : (tl (rowT x)).length = (tl (bodyT x)).length + 1 := by rw [tl_rowT, List.length_append]; rfl
    rcases Nat.lt_or_ge c (tl (rowT x)).length with hc | hc
    · refine ⟨0, (tl (bodyT x)).take c, Nat.zero_le _, ?_, fun m => hx (List.mem_of_mem_take m)⟩
      rw [Tt_cons, List.take_append_of_le_length (by omega), tl_rowT, List.take_append_of_le_length (by omega)]
      rfl
    · obtain ⟨m, part, hm, e, hp⟩ := cut_rows (rs := rs) (c - (tl (rowT x)).length) fun y hy => h y (List.mem_cons_of_mem _ hy)
      refine ⟨m + 1, part, Nat.succ_le_succ hm, ?_, hp⟩
      rw [Tt_cons, List.take_append, List.take_of_length_le hc, e, List.take_succ_cons, Tt_cons, List.append_assoc]
theorem joinL_snoc (S : List Nat) (p : List Nat) : ∀ l : List (List Nat), TL.joinL S (l ++ [p]) = (l.map (· ++ S)).flatten ++ p
  | [] => rfl
  | [a] => by simp [TL.joinL]
  | a :: b :: l => by
    show a ++ (S ++ TL.joinL S ((b :: l) ++ [p])) = _
    rw [joinL_snoc S p (b :: l)]
    simp
theorem split_cut {z : Str} {rs : List Str} {part : List Nat} (h : ∀ x ∈ rs, LR x) (e : tl z = Tt rs ++ part) (hp : 10 ∉ part) : Txt.split z nl = rs.map bodyT ++ [⟨part.toArray⟩] := by
  have ez : z = Txt.join nl (rs.map bodyT ++ [⟨part.toArray⟩]) := by
    refine ext_tl ?_
    rw [TL.join_eq, e]
    refine Eq.symm ((TL.tl_join _ _).trans ?_)
    rw [show TL.tl nl = [10] from tl_nl, List.map_append, List.map_cons, List.map_nil, joinL_snoc, List.map_map, List.map_map]
    congr 1
    unfold Tt
    congr 1
    refine List.map_congr_left fun x _ => ?_
    exact (tl_rowT x).symm
  rw [ez]
  refine TL.split_join (s := 10) (S := []) tl_nl (by decide +kernel) (by simp) fun p hp' => ?_
  rcases List.mem_append.mp hp' with m | m
  · obtain ⟨x, hx, rfl⟩ := List.mem_map.mp m
    exact body_free (h x hx)
  · rw [List.mem_singleton.mp m]
    exact hp
theorem starts_iff (x y : Str) : Txt.startswith x y = true ↔ tl y <+: tl x := by
  unfold Txt.startswith
  rw [StrLaws.subAt_eq, List.drop_zero, Bool.and_eq_true, decide_eq_true_eq, beq_iff_eq, Nat.zero_add, List.prefix_iff_eq_take]
  constructor
  · intro ⟨_, h⟩
    rw [← len_tl]
    exact h.symm
  · intro h
    rw [← len_tl] at h
    refine ⟨?_, h.symm⟩
    have := congrArg List.length h
    rw [List.length_take, ← len_tl, ← len_tl] at this
    omega
theorem rows_take (es : List En) (j : Nat) : rowsOf (es.take j) = (rowsOf es).take (Rn es j) := by
  have e : rowsOf es = rowsOf (es.take j) ++ rowsOf (es.drop j) := by
    unfold rowsOf
    rw [← List.flatMap_append, List.take_append_drop]
  rw [e]
  unfold Rn
  rw [List.take_left]
theorem starts_cut {es : List En} {z : Str} {m : Nat} {part : List Nat} (hm : m ≤ (rowsOf es).length) (e : tl z = Tt ((rowsOf es).take m) ++ part) (hp : 10 ∉ part) (j : Nat) : Txt.startswith z (textOf (es.take j)) = decide (Rn es j ≤ m) := by
  rw [Bool.eq_iff_iff, starts_iff, decide_eq_true_eq, tl_textOf, rows_take, e]
  constructor
  · intro h
    refine Nat.le_of_not_lt fun hlt => ?_
    have hR : Rn es j ≤ (rowsOf es).length := by
      have := Rn_le es j
      exact this
    have e1 : (rowsOf es).take (Rn es j) = (rowsOf es).take m ++ ((rowsOf es).take (Rn es j)).drop m := by
      have : ((rowsOf es).take (Rn es j)).take m = (rowsOf es).take m := by rw [List.take_take, Nat.min_eq_left (by omega)]
      conv => lhs; rw [← List.take_append_drop m ((rowsOf es).take (Rn es j)), this]
    rw [e1, Tt_append, List.prefix_append_right_inj] at h
    have hl : 0 < (((rowsOf es).take (Rn es j)).drop m).length := by rw [List.length_drop, List.length_take]; omega
    match q : ((rowsOf es).take (Rn es j)).drop m, hl with
    | x :: r, _ =>
      rw [q, Tt_cons, tl_rowT] at h
      exact hp (h.subset (by simp))
  · intro h
    have e1 : (rowsOf es).take m = (rowsOf es).take (Rn es j) ++ ((rowsOf es).take m).drop (Rn es j) := by
      have : ((rowsOf es).take m).take (Rn es j) = (rowsOf es).take (Rn es j) := by rw [List.take_take, Nat.min_eq_left h]
      conv => lhs; rw [← List.take_append_drop (Rn es j) ((rowsOf es).take m), this]
    rw [e1, Tt_append, List.append_assoc]
    exact List.prefix_append _ _
theorem nl_sg : nl = sg 10 := ext_tl (by rw [tl_nl])
theorem count_rows {rs : List Str} (h : ∀ x ∈ rs, LR x) : PyProof.Rows.cnt 10 (Tt rs) = (rs.length : Int) := by
  induction rs with
  | nil => rfl
  | cons x rs ih =>
    rw [Tt_cons, PyProof.Rows.cnt_append, ih fun y hy => h y (List.mem_cons_of_mem _ hy), tl_rowT, PyProof.Rows.cnt_append, PyProof.Rows.cnt_none 10 _ (body_free (h x List.mem_cons_self)), PyProof.Rows.cnt_cons, PyProof.Rows.cnt_nil, if_pos rfl, List.length_cons]
    omega
theorem count_text {es : List En} (h : ∀ x ∈ rowsOf es, LR x) : Txt.count (textOf es) nl = ((rowsOf es).length : Int) := by
  rw [nl_sg, PyProof.Rows.count_cnt]
  show PyProof.Rows.cnt 10 (tl (textOf es)) = _
  rw [tl_textOf, count_rows h]
theorem Tt_len : ∀ {rs : List Str}, (∀ x ∈ rs, LR x) → (Tt rs).length ≤ 205 * rs.length
  | [], _ => Nat.le_refl _
  | x :: rs, h => by
    have ih := Tt_len (rs := rs) fun y hy => h y (List.mem_cons_of_mem _ hy)
    have hx := (h x List.mem_cons_self).l2
    have hb := body_len x
    rw [Tt_cons, List.length_append, tl_rowT, List.length_append, ← len_tl, hb]
    simp only [List.length_cons, List.length_nil]
    omega
/-- how many entries are whole within m rows -/
theorem good_ex (es : List En) (m : Nat) : ∃ g, g ≤ es.length ∧ Rn es g ≤ m ∧ ∀ j, g < j → j ≤ es.length → m < Rn es j := by
  have gen : ∀ n, ∃ g, g ≤ n ∧ Rn es g ≤ m ∧ ∀ j, g < j → j ≤ n → m < Rn es j := fun n => by
    induction n with
    | zero => exact ⟨0, Nat.le_refl _, Nat.zero_le _, fun j h1 h2 => by omega⟩
    | succ n ih =>
      by_cases h : Rn es (n + 1) ≤ m
      · exact ⟨n + 1, Nat.le_refl _, h, fun j h1 h2 => by omega⟩
      · obtain ⟨g, h1, h2, h3⟩ := ih
        refine ⟨g, by omega, h2, fun j hj hjn => ?_⟩
        by_cases e : j = n + 1
        · rw [e]
          omega
        · exact h3 j hj (by omega)
  exact gen es.length
theorem good_one {es : List En} {m g g' : Nat} (h : g ≤ es.length ∧ Rn es g ≤ m ∧ ∀ j, g < j → j ≤ es.length → m < Rn es j) (h' : g' ≤ es.length ∧ Rn es g' ≤ m ∧ ∀ j, g' < j → j ≤ es.length → m < Rn es j) : g' = g := by
  rcases Nat.lt_trichotomy g' g with q | q | q
  · have := h'.2.2 g q h.1
    have := h.2.1
    omega
  · exact q
  · have := h.2.2 g' q h'.1
    have := h'.2.1
    omega
def goodO (es : List En) (m : Nat) : List (Option Int) := (List.range (es.length + 1)).map fun (j : Nat) => if Rn es j ≤ m then some (j : Int) else none
theorem good_last {es : List En} {m g : Nat} (h : g ≤ es.length ∧ Rn es g ≤ m ∧ ∀ j, g < j → j ≤ es.length → m < Rn es j) : ∃ l : List Int, (goodO es m).filterMap id = l ++ [(g : Int)] := by
  have e : es.length + 1 = (g + 1) + (es.length - g) := by have := h.1; omega
  unfold goodO
  rw [e, List.range_add, List.map_append, List.filterMap_append, List.range_succ, List.map_append, List.filterMap_append]
  refine ⟨((List.range g).map fun (j : Nat) => if Rn es j ≤ m then some (j : Int) else none).filterMap id, ?_⟩
  have e2 : (((List.range (es.length - g)).map (g + 1 + ·)).map fun (j : Nat) => if Rn es j ≤ m then some (j : Int) else none).filterMap id = [] := by
    rw [List.filterMap_eq_nil_iff]
    intro o ho
    obtain ⟨j, hj, rfl⟩ := List.mem_map.mp ho
    obtain ⟨i, hi, rfl⟩ := List.mem_map.mp hj
    have hi2 := List.mem_range.mp hi
    have := h.2.2 (g + 1 + i) (by omega) (by omega)
    rw [if_neg (by omega)]
    rfl
  rw [e2, List.append_nil, List.map_cons, List.map_nil, if_pos h.2.1]
  rfl
/-- the lines of whole entries -/
theorem lines_part {es : List En} {ls : List Ln} (h : es.flatMap linesE = ls.map lineS) (j : Nat) : ∃ l1 l2, ls = l1 ++ l2 ∧ (es.take j).flatMap linesE = l1.map lineS ∧ (es.drop j).flatMap linesE = l2.map lineS := by
  have e : ls.map lineS = (es.take j).flatMap linesE ++ (es.drop j).flatMap linesE := by rw [← List.flatMap_append, List.take_append_drop, h]
  obtain ⟨l1, l2, e1, e2, e3⟩ := List.map_eq_append_iff.mp e
  exact ⟨l1, l2, e1, e2.symm, e3.symm⟩
theorem es_ok {es : List En} (h : ∀ e ∈ es, EnOk e) (few : (es.flatMap linesE).length ≤ 9) : EsOk es := by
  have gen : ∀ es : List En, (∀ e ∈ es, EnOk e) → es.length ≤ (es.flatMap linesE).length ∧ (rowsOf es).length ≤ 2 * (es.flatMap linesE).length := fun es => by
    induction es with
    | nil => exact fun _ => ⟨Nat.le_refl _, Nat.le_refl _⟩
    | cons e es ih =>
      intro h
      obtain ⟨h1, h2⟩ := ih fun x hx => h x (List.mem_cons_of_mem _ hx)
      have he := h e List.mem_cons_self
      have e1 : rowsOf (e :: es) = checkedE e ++ rowsOf es := rfl
      have e2 : 1 ≤ (linesE e).length ∧ (checkedE e).length ≤ 2 * (linesE e).length := by
        cases e with
        | inl x => exact ⟨Nat.le_refl _, by show 1 ≤ 2 * 1; omega⟩
        | inr t =>
          have := he.1
          refine ⟨this, ?_⟩
          show t.items.length + 1 ≤ 2 * t.items.length
          omega
      rw [List.flatMap_cons, List.length_append, List.length_cons, e1, List.length_append]
      omega
  obtain ⟨h1, h2⟩ := gen es h
  exact ⟨h, by omega, by omega⟩
end Net
/-! What is told, spot by spot: plain. -/
namespace Net
open PySem PySem.Spec PyProof.Rows L2
theorem toldL_append : ∀ (S : St0) (xs ys : List ((Int × Int) × Ln)), toldL S (xs ++ ys) = toldL S xs ++ toldL (runS S (xs.map (·.2))) ys
  | S, [], ys => rfl
  | S, (sp, l) :: xs, ys => by
    show ((ansL S l).toList.map fun a => (sp, a)) ++ toldL (stepL S l) (xs ++ ys) = (((ansL S l).toList.map fun a => (sp, a)) ++ toldL (stepL S l) xs) ++ toldL (runS (stepL S l) (xs.map (·.2))) ys
    rw [toldL_append (stepL S l) xs ys, List.append_assoc]
theorem told_at {S : St0} {zs : List ((Int × Int) × Ln)} {i : Nat} {sp : Int × Int} {l : Ln} (nd : (zs.map (·.1)).Nodup) (e : zs[i]? = some (sp, l)) :
    (∀ a, ansL (runS S ((zs.take i).map (·.2))) l = some a → (sp, a) ∈ toldL S zs) ∧ (ansL (runS S ((zs.take i).map (·.2))) l = none → ¬ sp ∈ (toldL S zs).map (·.1)) := by
  obtain ⟨hi, ei⟩ := List.getElem?_eq_some_iff.mp e
  have e1 : zs = zs.take i ++ (sp, l) :: zs.drop (i + 1) := by
    conv => lhs; rw [← List.take_append_drop i zs, List.drop_eq_getElem_cons hi, ei]
  have e2 : toldL S zs = toldL S (zs.take i) ++ (((ansL (runS S ((zs.take i).map (·.2))) l).toList.map fun a => (sp, a)) ++ toldL (stepL (runS S ((zs.take i).map (·.2))) l) (zs.drop (i + 1))) := by
    conv => lhs; rw [e1, toldL_append]
    rfl
  refine ⟨fun a ha => ?_, fun hn hm => ?_⟩
  · rw [e2, ha]
    exact List.mem_append_right _ (List.mem_append_left _ (List.mem_singleton.mpr rfl))
  · rw [e2, hn, List.map_append, List.map_append] at hm
    rw [e1, List.map_append, List.map_cons] at nd
    obtain ⟨n1, n2, n3⟩ := List.nodup_append.mp nd
    obtain ⟨n4, n5⟩ := List.nodup_cons.mp n2
    rcases List.mem_append.mp hm with m | m
    · exact n3 sp ((toldL_keys _ _).subset m) sp List.mem_cons_self rfl
    · rcases List.mem_append.mp m with m | m
      · cases m
      · exact n4 ((toldL_keys _ _).subset m)
def ansO (S : St0) : List Ln → List (Option Answer)
  | [] => []
  | l :: ls => ansL S l :: ansO (stepL S l) ls
theorem ansO_len : ∀ (S : St0) (ls : List Ln), (ansO S ls).length = ls.length
  | _, [] => rfl
  | S, l :: ls => congrArg Nat.succ (ansO_len (stepL S l) ls)
theorem ansO_run : ∀ (S : St0) (ls : List Ln), (ansO S ls).filterMap id = runA S ls
  | _, [] => rfl
  | S, l :: ls => by
    show (ansL S l :: ansO (stepL S l) ls).filterMap id = (ansL S l).toList ++ runA (stepL S l) ls
    rw [← ansO_run (stepL S l) ls]
    cases ansL S l <;> rfl
theorem ansO_get : ∀ {S : St0} {ls : List Ln} {i : Nat} {l : Ln}, ls[i]? = some l → (ansO S ls)[i]? = some (ansL (runS S (ls.take i)) l)
  | S, [], i, l, h => by simp at h
  | S, a :: ls, 0, l, h => by
    simp at h
    subst h
    rfl
  | S, a :: ls, i + 1, l, h => by
    have := ansO_get (S := stepL S a) (ls := ls) (i := i) (l := l) (by simpa using h)
    exact this
theorem zl_nodup (ps : List (List Ln)) (row : List Int) : ((zl ps row).map (·.1)).Nodup := by
  rw [zl_spots]
  exact spotsIn_nodup row
section
variable {N : Ad} {H : Hp} {ks ks' : List Sp2} {ts : List ((Int × Int) × Answer)}
theorem tol_nodup (h : TolAt N H ks ts) (nd : (ts.map (·.1)).Nodup) (p : ks'.Perm ks) : (ks'.map (·.1)).Nodup := by
  rw [(p.map _).nodup_iff, h.keys]
  exact nd
theorem tol_some (h : TolAt N H ks ts) (nd : (ts.map (·.1)).Nodup) (p : ks'.Perm ks) {sp : Int × Int} {a : Answer} (m : (sp, a) ∈ ts) : ∃ c, valV (ks'.map entS) [.inl sp.1, .inl sp.2] = some (.ref c) ∧ rp N H (.ref c) a := by
  obtain ⟨i, hi, e⟩ := List.mem_iff_getElem.mp m
  obtain ⟨k, hk, e1, r⟩ := All2.get h (List.getElem?_eq_some_iff.mpr ⟨hi, e⟩)
  refine ⟨k.2, entS_some (tol_nodup h nd p) ?_, r⟩
  have e2 : k = (sp, k.2) := Prod.ext e1 rfl
  rw [← e2]
  exact p.mem_iff.mpr (List.mem_of_getElem? hk)
theorem tol_none (h : TolAt N H ks ts) (p : ks'.Perm ks) {sp : Int × Int} (m : ¬ sp ∈ ts.map (·.1)) : valV (ks'.map entS) [.inl sp.1, .inl sp.2] = none := by
  refine entS_none fun q => m ?_
  rw [← h.keys]
  exact (p.map _).mem_iff.mp q
end
end Net
namespace Net
open PySem PySem.Spec PyProof.Rows L2
/-! ### stores, logs and runs compared -/
theorem mk_store {K : PySem.W.Frag} {H : Hp} {a : Addr} {n : Int} {xs : List V} {ts : List Tie} {R : Addr → Hp → Prop} {E : XK} (ha : H a = some (.lst xs)) (hx : All2 (rp (fun _ => False) H) xs ts) (ok : TiesOk n ts)
    (k : ∀ a H' us, us.Perm ts → Rise us → Same H H' → StAt K (In H) H' (.ref a) ⟨n, us⟩ → R a H') (x dx : Addr) (hx1 : H x = none) (hdx : H dx = none) (hne : dx ≠ x) :
    spStore K (.ref x :: ([.int n, .ref a] ++ [])) (upd (upd H dx (.own x)) x (.ins (ga K "Store") dx [])) (fun v H2 => v = .non ∧ R x H2) E := by
  have s1 : Same H (upd (upd H dx (.own x)) x (.ins (ga K "Store") dx [])) := (Same.new hdx).lay (by rw [upd_ne (Ne.symm hne)]; exact hx1)
  refine ⟨x, dx, a, n, xs, ts, rfl, upd_same, s1 _ _ ha, hx.monoR (SameN.of s1), ok, fun H' us hp hr s2 st => ⟨rfl, k _ _ us hp hr (fun b o e => s2 b o (ne_of_none e hx1) (s1 b o e)) (st.weak fun b ⟨o, e⟩ => ⟨⟨o, s1 b o e⟩, ne_of_none e hx1⟩)⟩⟩
/-- what a run answers -/
def DAns (K : PySem.W.Frag) : Eqv := DList (DList (DTup K DFlat))
def DRun (K : PySem.W.Frag) : Eqv := fun x y H => DIns (ga K "Store") (StEq K) x y H ∨ DAns K x y H
theorem mon_ans {K : PySem.W.Frag} : Mon (DAns K) := mon_list (mon_list (mon_tup mon_flat))
theorem mon_run {K : PySem.W.Frag} : Mon (DRun K) := (mon_ins (fun a b H H' e h => StEq.ext a b H H' e h)).or mon_ans
section
variable {X : Cx}
theorem eqG_store (T : NT X.K X.mg) : EqG X 2 (DIns (ga X.K "Store") (StEq X.K)) := by
  obtain ⟨fd, F1, bd⟩ := (ok_Store_eq (P := X.prog) (w := X.w) (base := X.base) T).ex
  exact eqG_ins F1 T.m_Store_eq.at_ T.m_Store_eq.fn bd pass0
theorem rcG_log (T : NT X.K X.mg) : RcG X 2 (DIns (ga X.K "Log") (LoEq X.K)) := by
  obtain ⟨fd, F1, bd⟩ := (ok_Log_eq (P := X.prog) (w := X.w) (base := X.base) T).ex
  exact rcG_ins F1 T.m_Log_eq.at_ T.m_Log_eq.fn bd pass0
theorem eqG_run (T : NT X.K X.mg) : EqG X 3 (DRun X.K) := ((eqG_store T).mono (by decide)).or (eqG_list (mon_list (mon_tup mon_flat)) (eqG_list (mon_tup mon_flat) (eqG_tup mon_flat eqG_flat)))
theorem op_neRun (T : NT X.K X.mg) (hr : Room 4 X.A) : OpR X (compareOp .NotEq) (rNeG (DTup X.K (DRun X.K))) := op_neTupG mon_run (eqG_run T) hr
theorem op_eqRun (T : NT X.K X.mg) (hr : Room 4 X.A) : OpR X (compareOp .Eq) (rEqG (DTup X.K (DRun X.K))) := op_eqG (rcG_tup mon_run (eqG_run T)) hr
theorem op_eqLog (T : NT X.K X.mg) (hr : Room 2 X.A) : OpR X (compareOp .Eq) (rEqG (DIns (ga X.K "Log") (LoEq X.K))) := op_eqG (rcG_log T) hr
theorem op_neLog (T : NT X.K X.mg) (hr : Room 3 X.A) : OpR X (compareOp .NotEq) (rNeG (DIns (ga X.K "Log") (LoEq X.K))) := by
  obtain ⟨fd, F1, bd⟩ := (ok_Log_eq (P := X.prog) (w := X.w) (base := X.base) T).ex
  exact op_neInsG F1 T.m_Log_eq.at_ T.m_Log_eq.fn bd pass0 T.e_nLog T.e_iLog.2.2.2 hr
theorem op_neStore (T : NT X.K X.mg) (hr : Room 3 X.A) : OpR X (compareOp .NotEq) (rNeG (DIns (ga X.K "Store") (StEq X.K))) := by
  obtain ⟨fd, F1, bd⟩ := (ok_Store_eq (P := X.prog) (w := X.w) (base := X.base) T).ex
  exact op_neInsG F1 T.m_Store_eq.at_ T.m_Store_eq.fn bd pass0 T.e_nStore T.e_iStore.2.2.2 hr
end
theorem st_ins {K : PySem.W.Frag} {N M : Ad} {H : Hp} {u v : V} {S : St0} (h : StAt K N H u S) (h' : StAt K M H v S) : DIns (ga K "Store") (StEq K) u v H := by
  obtain ⟨a, dx, td, gd, od, rfl, na, nt, ha, _⟩ := id h
  obtain ⟨b, dx', td', gd', od', rfl, nb, nt', hb, _⟩ := id h'
  exact ⟨a, b, dx, dx', _, _, rfl, rfl, ha, hb, N, M, S, h, h'⟩
theorem lo_ins {K : PySem.W.Frag} {N M : Ad} {H : Hp} {u v : V} {es : List En} (h : LoAt K N H u es) (h' : LoAt K M H v es) : DIns (ga K "Log") (LoEq K) u v H := by
  obtain ⟨a, dx, q, rfl, na, ha, _⟩ := id h
  obtain ⟨b, dx', q', rfl, nb, hb, _⟩ := id h'
  exact ⟨a, b, dx, dx', _, _, rfl, rfl, ha, hb, N, M, es, h, h'⟩
theorem prs_of {α : Type} {D : Eqv} {H : Hp} {R R' : V → α → Prop} (k : ∀ x y a, R x a → R' y a → D x y H) {xs ys : List V} {l : List α} (h : All2 R xs l) (h' : All2 R' ys l) : Prs D xs ys H := by
  refine ⟨h.length.trans h'.length.symm, fun i x y hx hy => ?_⟩
  obtain ⟨a, ha, r⟩ := h.get' hx
  obtain ⟨b, hb, r'⟩ := h'.get' hy
  rw [ha] at hb
  cases hb
  exact k x y a r r'
theorem ans_eq {K : PySem.W.Frag} {N M : Ad} {H : Hp} {x y : V} {l : List Answer} (h : rp N H x l) (h' : rp M H y l) : DAns K x y H := by
  obtain ⟨a, xs, rfl, na, ha, rx⟩ := h
  obtain ⟨b, ys, rfl, nb, hb, ry⟩ := h'
  refine ⟨a, b, xs, ys, rfl, rfl, ha, hb, prs_of (fun x y l h h' => ?_) rx ry⟩
  obtain ⟨a, xs, rfl, na, ha, rx⟩ := h
  obtain ⟨b, ys, rfl, nb, hb, ry⟩ := h'
  refine ⟨a, b, xs, ys, rfl, rfl, ha, hb, prs_of (fun x y l h h' => ?_) rx ry⟩
  obtain ⟨a, u, v, rfl, na, ha, ru, rv⟩ := h
  obtain ⟨b, u', v', rfl, nb, hb, ru', rv'⟩ := h'
  cases ru
  cases rv
  cases ru'
  cases rv'
  have fl : ∀ i : Int, DFlat (.int i) (.int i) H := fun i => ⟨rfl, rfl, beq_self_eq_true i⟩
  exact ⟨a, b, _, _, rfl, rfl, SqT.of ha, SqT.of hb, Prs.cons (fl _) (Prs.cons (fl _) Prs.nil)⟩
/-- a run's tuple -/
def RnAt (K : PySem.W.Frag) (N : Ad) (H : Hp) (w : V) (S : St0) (as : List Answer) : Prop := ∃ t v d, w = .ref t ∧ ¬ N t ∧ H t = some (.tup [v, .ref d]) ∧ StAt K N H v S ∧ rp N H (.ref d) as
theorem RnAt.mono {K : PySem.W.Frag} {N : Ad} {H H' : Hp} {w : V} {S : St0} {as : List Answer} (s : SameN N H H') (h : RnAt K N H w S as) : RnAt K N H' w S as := by
  obtain ⟨t, v, d, e, nt, ht, st, r⟩ := h
  exact ⟨t, v, d, e, nt, s _ _ nt ht, st.mono s, Rp.mono s r⟩
theorem RnAt.weak {K : PySem.W.Frag} {N N' : Ad} {H : Hp} {w : V} {S : St0} {as : List Answer} (k : ∀ b, N' b → N b) (h : RnAt K N H w S as) : RnAt K N' H w S as := by
  obtain ⟨t, v, d, e, nt, ht, st, r⟩ := h
  exact ⟨t, v, d, e, fun z => nt (k _ z), ht, st.weak k, Rp.weak k r⟩
theorem rn_eq {K : PySem.W.Frag} {N M : Ad} {H : Hp} {x y : V} {S : St0} {as : List Answer} (h : RnAt K N H x S as) (h' : RnAt K M H y S as) : DTup K (DRun K) x y H := by
  obtain ⟨t, v, d, rfl, nt, ht, st, r⟩ := h
  obtain ⟨t', v', d', rfl, nt', ht', st', r'⟩ := h'
  exact ⟨t, t', _, _, rfl, rfl, SqT.of ht, SqT.of ht', Prs.cons (.inl (st_ins st st')) (Prs.cons (.inr (ans_eq r r')) Prs.nil)⟩
end Net
namespace Net
open PySem PySem.Spec PyProof.Rows L2
theorem mk_sess {K : PySem.W.Frag} {N : Ad} {H : Hp} {n : Int} {v : V} {ps : List (List Ln)} {R : Addr → Hp → Prop} {E : XK} (hv : rp N H v ps) (ok : PsOk n ps) (dom : Dom N H)
    (k : ∀ a H', Same H H' → SeAt K N H' (.ref a) n ps → R a H') (x dx : Addr) (hx1 : H x = none) (hdx : H dx = none) (hne : dx ≠ x) :
    spSess K (.ref x :: ([.int n, v] ++ [])) (upd (upd H dx (.own x)) x (.ins (ga K "Sessions") dx [])) (fun v H2 => v = .non ∧ R x H2) E := by
  have s1 : Same H (upd (upd H dx (.own x)) x (.ins (ga K "Sessions") dx [])) := (Same.new hdx).lay (by rw [upd_ne (Ne.symm hne)]; exact hx1)
  refine ⟨N, x, dx, n, v, ps, rfl, upd_same, Rp.mono (SameN.of s1) (Rp.fr (fun b z => z.elim .inl fun e => .inr (by rw [e]; exact hx1)) hv), ok, dom.same s1, dom.not hx1, fun H' s2 se => ⟨rfl, k x H' (fun b o e => s2 b o (ne_of_none e hx1) (s1 b o e)) se⟩⟩
theorem st_a : Str.ofString "a" = sg 97 := by decide +kernel
/-- what the law keeps while only the pot changes -/
structure Rt (K : PySem.W.Frag) (p : Addr) (n : Int) (ps : List (List Ln)) (row : List Int) (S : St0) (es : List En) (vs vu lg va : V) (b e : Addr) (ys : List V) (H : Hp) : Prop where
  pot : PotOk H p
  se : SeAt K (At p) H vs n ps
  st : StAt K (At p) H vu S
  lo : LoAt K (At p) H lg es
  bp : b ≠ p
  hb : H b = some (.lst (row.map V.int))
  ep : e ≠ p
  he : H e = some (.lst ys)
  ry : All2 (rp (At p) H) ys es
  an : RnAt K (At p) H va (runS S (linesIn ps row)) (runA S (linesIn ps row))
theorem Rt.go {K : PySem.W.Frag} {p : Addr} {n : Int} {ps : List (List Ln)} {row : List Int} {S : St0} {es : List En} {vs vu lg va : V} {b e : Addr} {ys : List V} {H H' : Hp} (h : Rt K p n ps row S es vs vu lg va b e ys H) (s : SameN (At p) H H') (pk : PotOk H' p) : Rt K p n ps row S es vs vu lg va b e ys H' :=
  ⟨pk, h.se.mono s, h.st.mono s, h.lo.mono s, h.bp, s _ _ h.bp h.hb, h.ep, s _ _ h.ep h.he, h.ry.monoR s, h.an.mono s⟩
theorem Rt.same {K : PySem.W.Frag} {p : Addr} {n : Int} {ps : List (List Ln)} {row : List Int} {S : St0} {es : List En} {vs vu lg va : V} {b e : Addr} {ys : List V} {H H' : Hp} (h : Rt K p n ps row S es vs vu lg va b e ys H) (s : Same H H') : Rt K p n ps row S es vs vu lg va b e ys H' := h.go (SameN.of s) (h.pot.same s)
theorem two_ints {N : Ad} {H : Hp} {i j : Int} : ∀ {l : List Answer}, ¬ All2 (rp N H) [.int i, .int j] l
  | [], h => h
  | [_], h => h.2
  | x :: _ :: [], h => by
    obtain ⟨_, _, e, _⟩ := (show rp N H (.int i) x from h.1)
    cases e
  | _ :: _ :: _ :: _, h => h.2.2
theorem rn_of {K : PySem.W.Frag} {H H' : Hp} {p t d : Addr} {v : V} {S : St0} {as : List V} {l : List Answer} (pk : PotOk H p) (s : Same H H') (ht : H' t = some (.tup [v, .ref d])) (hd : H' d = some (.lst as)) (ras : All2 (rp (In H) H') as l) (st : StAt K (At p) H' v S) : RnAt K (At p) H' (.ref t) S l := by
  have inp : ∀ c, At p c → In H c := fun c e => by
    obtain ⟨_, _, e2, _⟩ := pk
    rw [show c = p from e]
    exact ⟨_, e2⟩
  have pk' := pk.same s
  exact ⟨t, v, d, rfl, pk'.ne ht (fun i j z => nomatch z), ht, st, d, as, rfl, pk'.ne hd (fun i j z => two_ints (by rw [← HO.lst.inj z]; exact ras)), hd, ras.weakR inp⟩
theorem cut_sheet {z : Str} {c : Int} (h0 : 0 ≤ c) (h1 : c ≤ (z.length : Int)) : tl (cutS z none (some c)) = (tl z).take c.toNat := by
  obtain ⟨k, rfl⟩ := Int.eq_ofNat_of_zero_le h0
  unfold cutS
  rw [HT.sIx_nat, HT.sIx_none, Nat.min_eq_left (by omega), List.drop_zero, Nat.sub_zero, Int.toNat_natCast]
theorem row_pos {n : Int} {ps : List (List Ln)} {row : List Int} (ok : PsOk n ps) (we : Weave ps row) : 1 ≤ row.length := by
  rw [we.length_eq]
  match ps, ok.p1, ok.each with
  | q :: r, _, h =>
    have := (h q List.mem_cons_self).1
    show 1 ≤ (List.replicate q.length ((0 : Nat) : Int) ++ numb 1 r).length
    rw [List.length_append, List.length_replicate]
    omega
def spRight : Sp := fun vs H Q _ => ∃ (p : Addr), vs = [.ref p] ∧ PotOk H p ∧ ∀ H', SameN (At p) H H' → Q (.bl true) H'
section
variable {P : Program} {w : World} {K : PySem.W.Frag} {mg : Str → Option Value} {base : Heap}
abbrev nRight : List Str := ["_law_pot_here", "_law_nodes", "_law_programs", "_law_turn", "_law_more", "_law_sessions", "_law_row_here", "_law_ties", "_law_store", "_law_entries_here", "_law_spots", "_law_log", "_law_told_here", "_law_answers", "_law_spot", "_law_sheet", "_law_cut", "_law_good", "_law_many", "_law_back", "_law_lines", "_law_ahead", "_law_rest", "_law_between", "_law_later"]
theorem sc_law_right : FnScope nRight ["_law_pot_here"] (defScope s_law_right) := ⟨rfl, rfl, rfl, by decide +kernel, rfl, by decide +kernel, by decide +kernel⟩
theorem ok_law_right (T : NT K mg) : Cal P w K mg base (ga K "_law_right") 12 ["_law_pot_here"] spRight := by
  obtain ⟨fd, F⟩ := T.D_law_right
  refine Cal.of F (F.bindsN fun _ _ _ _ _ _ us hl => match us, hl with | [_], _ => rfl) sc_law_right (fun vs H Q E h => ?_) (fun cdv A outer s H vs Q E hr h => ?_)
  · obtain ⟨p, rfl, _⟩ := h
    rfl
  · obtain ⟨p, rfl, hp, k⟩ := h
    have nd := sc_law_right.nd
    have hbig := big
    have hu := hu_of hr
    refine ⟨_, pss_cons (ps_set (i := 1) nd rfl (Or.inr rfl) (pe_op op_add pe_int (pe_f (ok_law_draw T) T.g_law_draw (hr.mono (by decide)) (pa_cons (pv 0) (pa_cons pe_int pa_nil)))))
      (pss_cons (ps_set (i := 2) nd rfl (Or.inl rfl) (pe_lst pa_nil))
      (pss_cons (ps_for PassesOwn.never rfl (pi_range1 (by rfl) T.b_range (pa_cons (pe_op op_add pe_int (pe_f (ok_law_draw T) T.g_law_draw (hr.mono (by decide)) (pa_cons (pv 0) (pa_cons pe_int pa_nil)))) pa_nil)) (pg_name (i := 3) nd rfl (Or.inl rfl))
        (pss_one (ps_expr (pe_bm PySem.F.plainAttrs_list PySem.F.slot_list_append PySem.F.type_list_append mt_append (pv 2) (pa_cons (pe_lc (own := [("_law_more", 4)]) (g := gName 4) (tt := tYes) (te := tCall spLine2 [] E0 (tCons (tVar 0) (tCons (tVar 1) tNil))) rfl nd (pi_range1 (by rfl) T.b_range (pa_cons (pe_op op_add pe_int (pe_f (ok_law_draw T) T.g_law_draw (hr.mono (by decide)) (pa_cons (pv 0) (pa_cons pe_int pa_nil)))) pa_nil)) (blkOk_by (N := nRight) (sc := defScope s_law_right) (by decide +kernel))
          (fun _ _ _ _ _ => pg_name (i := 4) nd rfl (Or.inl rfl)) (fun _ _ _ _ _ => pts_nil) (fun _ _ _ _ _ => pe_f (ok_law_line T) T.g_law_line (hr.mono (by decide)) (pa_cons (pv 0) (pa_cons (pv 1) pa_nil)))) pa_nil)))))
      (pss_cons (ps_par (i := 5) (j := 6) rfl nd rfl rfl (by decide) rfl rfl (pa_cons (pe_mk T.k_Sessions (ok_Sessions_init T) T.g_Sessions (hr.mono (by decide)) (pa_cons (pv 1) (pa_cons (pv 2) pa_nil))) (pa_cons (pe_f (ok_law_row T) T.g_law_row (hr.mono (by decide)) (pa_cons (pv 0) (pa_cons (pv 2) pa_nil))) pa_nil)) rfl)
      (pss_cons (ps_set (i := 7) nd rfl (Or.inl rfl) (pe_lst (pa_cons (pe_tup (pa_cons (pe_f (ok_law_draw T) T.g_law_draw (hr.mono (by decide)) (pa_cons (pv 0) (pa_cons (pv 1) pa_nil))) (pa_cons pe_str (pa_cons (pe_f (ok_law_draw T) T.g_law_draw (hr.mono (by decide)) (pa_cons (pv 0) (pa_cons (pv 1) pa_nil))) pa_nil)))) pa_nil)))
      (pss_cons (ps_set (i := 8) nd rfl (Or.inl rfl) (pe_mk T.k_Store (ok_Store_init T) T.g_Store (hr.mono (by decide)) (pa_cons (pe_op op_add (pv 1) pe_int) (pa_cons (pv 7) pa_nil))))
      (pss_cons (ps_asg (pe_f (ok_law_entries T) T.g_law_entries (hr.mono (by decide)) (pa_cons (pv 2) (pa_cons (pv 6) pa_nil))) (pg_tup rfl (pgs_cons (pg_name (i := 9) nd rfl (Or.inr rfl)) (pgs_cons (pg_name (i := 10) nd rfl (Or.inl rfl)) pgs_nil))))
      (pss_cons (ps_set (i := 11) nd rfl (Or.inl rfl) (pe_mk T.k_Log (ok_Log_init T) T.g_Log (hr.mono (by decide)) (pa_cons (pv 9) pa_nil)))
      (pss_cons (ps_asg (pe_tup (pa_cons (pe_f (ok_heard T) T.g_heard (hr.mono (by decide)) (pa_cons (pv 5) (pa_cons (pv 8) (pa_cons (pv 6) pa_nil)))) (pa_cons (pe_f (ok_law_run T) T.g_law_run (hr.mono (by decide)) (pa_cons (pv 8) (pa_cons (pe_mt0 (ok_Log_lines T) T.c_Log T.m_Log_lines (hr.mono (by decide)) (pv 11)) pa_nil))) pa_nil))) (pg_tup rfl (pgs_cons (pg_name (i := 12) nd rfl (Or.inr rfl)) (pgs_cons (pg_name (i := 13) nd rfl (Or.inl rfl)) pgs_nil))))
      (pss_cons (ps_if (PW.pt (pw_or (pt_cmpR (op_neC (α := List Answer) hr.units) (pe_ix ix_tup (pv 13) pe_int (fun _ _ => rfl)) (pe_lc (own := [("_law_spot", 14)]) (g := gName 14) (tt := tB (tDIn (tVar 14) (tVar 12))) (te := tDGet (tVar 12) (tVar 14)) rfl nd (pi_list (pv 10)) (blkOk_by (N := nRight) (sc := defScope s_law_right) (by decide +kernel))
            (fun _ _ _ _ _ => pg_name (i := 14) nd rfl (Or.inl rfl)) (fun _ _ _ _ _ => pts_one (pt_cmp (pc_din hu (pv 14) (pv 12)))) (fun _ _ _ _ _ => pe_dget hu (pv 12) (pv 14) (fun _ _ => rfl))) (nomark _))
          (pw_or1 (pt_cmpR (op_neStore T (hr.mono (by decide))) (pe_ix ix_tup (pv 13) pe_int (fun _ _ => rfl)) (pe_f (ok_behind T) T.g_behind (hr.mono (by decide)) (pa_cons (pv 5) (pa_cons (pv 8) (pa_cons (pv 6) pa_nil)))) (nomark _))))) (pss_one (ps_ret pe_bl)) pss_nil)
      (pss_cons (ps_set (i := 15) nd rfl (Or.inl rfl) (pe_mt0 (ok_Log_text T) T.c_Log T.m_Log_text (hr.mono (by decide)) (pv 11)))
      (pss_cons (ps_for PassesOwn.never rfl (pi_range1 (by rfl) T.b_range (pa_cons pe_int pa_nil)) (pg_name (i := 3) nd rfl (Or.inl rfl))
        (pss_cons (ps_set (i := 16) nd rfl (Or.inr rfl) (pe_slice sl_str (pv 15) po_none (po_some (pe_f (ok_law_draw T) T.g_law_draw (hr.mono (by decide)) (pa_cons (pv 0) (pa_cons (pe_op op_add (pe_b call_len_str T.b_len (pa_cons (pv 15) pa_nil)) pe_int) pa_nil))))))
        (pss_cons (ps_setLc (i := 17) (own := [("_law_many", 18)]) (g := gName 18) (tt := tB (tM1 (fun x xs H Q => ∃ a b, x = .str a ∧ xs = [.str b] ∧ Q (.bl (Txt.startswith a b)) H) (tVar 16) (tMeth (ga K "Log") "text" (spLoText K) [] E0 (tMake (ga K "Log") (spLogInit K) [] E0 (tCons (tSl (rSlL K) (tVar 9) tNoPart (tPart (tVar 18))) tNil)) tNil))) (te := tVar 18) rfl nd rfl rfl (sw_true rfl rfl rfl rfl) (pi_range1 (by rfl) T.b_range (pa_cons (pe_op op_add (pe_b call_len_seq T.b_len (pa_cons (pv 9) pa_nil)) pe_int) pa_nil)) (blkOk_by (N := nRight) (sc := defScope s_law_right) (by decide +kernel))
            (fun _ _ _ _ _ => pg_name (i := 18) nd rfl (Or.inl rfl)) (fun _ _ _ _ _ => pts_one (pt_val (pe_m1 PySem.F.slot_str_startswith PySem.F.type_str_startswith mt_startswith (pv 16) (pe_mt0 (ok_Log_text T) T.c_Log T.m_Log_text (hr.mono (by decide)) (pe_mk T.k_Log (ok_Log_init T) T.g_Log (hr.mono (by decide)) (pa_cons (pe_slice sl_list (pv 9) po_none (po_some (pv 18))) pa_nil)))))) (fun _ _ _ _ _ => pv 18))
        (pss_cons (ps_asg (pe_stat (ok_Log_torn T) T.e_rLog T.e_torn (hr.mono (by decide)) (pe_cc T.g_Log) (pa_cons (pv 16) pa_nil)) (pg_tup rfl (pgs_cons (pg_name (i := 19) nd rfl (Or.inl rfl)) (pgs_cons (pg_name (i := 20) nd rfl (Or.inl rfl)) pgs_nil))))
        (pss_cons (ps_if (PW.pt (pw_or (pt_cmpR (op_neLog T (hr.mono (by decide))) (pv 19) (pe_mt (ok_Log_first T) T.c_Log T.m_Log_first (hr.mono (by decide)) (pv 11) (pa_cons (pe_ix ix_list (pv 17) (pe_un un_neg pe_int) (fun _ _ => rfl)) pa_nil)) (nomark _))
            (pw_or1 (pt_cmpR op_ne (pv 20) (pe_m1 PySem.F.slot_str_count PySem.F.type_str_count mt_count (pe_mt0 (ok_Log_text T) T.c_Log T.m_Log_text (hr.mono (by decide)) (pe_mk T.k_Log (ok_Log_init T) T.g_Log (hr.mono (by decide)) (pa_cons (pe_slice sl_list (pv 9) po_none (po_some (pe_ix ix_list (pv 17) (pe_un un_neg pe_int) (fun _ _ => rfl)))) pa_nil))) pe_str) (nomark _))))) (pss_one (ps_ret pe_bl)) pss_nil)
        (pss_one (ps_if (pt_cmpR (op_neRun T (hr.mono (by decide))) (pe_f (ok_law_run T) T.g_law_run (hr.mono (by decide)) (pa_cons (pv 8) (pa_cons (pe_mt0 (ok_Log_lines T) T.c_Log T.m_Log_lines (hr.mono (by decide)) (pv 19)) pa_nil)))
            (pe_f (ok_law_run T) T.g_law_run (hr.mono (by decide)) (pa_cons (pv 8) (pa_cons (pe_f (ok_law_flat T) T.g_law_flat (hr.mono (by decide)) (pa_cons (pe_slice sl_list (pv 9) po_none (po_some (pe_ix ix_list (pv 17) (pe_un un_neg pe_int) (fun _ _ => rfl)))) pa_nil)) pa_nil))) (nomark _)) (pss_one (ps_ret pe_bl)) pss_nil)))))))
      (pss_cons (ps_asg (pe_mt (ok_Log_parted T) T.c_Log T.m_Log_parted (hr.mono (by decide)) (pv 11) (pa_cons (pe_f (ok_law_pickL T) T.g_law_pick (hr.mono (by decide)) (pa_cons (pv 0) (pa_cons (pe_mt0 (ok_Log_lines T) T.c_Log T.m_Log_lines (hr.mono (by decide)) (pv 11)) pa_nil))) pa_nil)) (pg_tup rfl (pgs_cons (pg_name (i := 21) nd rfl (Or.inl rfl)) (pgs_cons (pg_name (i := 22) nd rfl (Or.inl rfl)) pgs_nil))))
      (pss_cons (ps_set (i := 23) nd rfl (Or.inl rfl) (pe_f (ok_law_run T) T.g_law_run (hr.mono (by decide)) (pa_cons (pv 8) (pa_cons (pe_mt0 (ok_Log_lines T) T.c_Log T.m_Log_lines (hr.mono (by decide)) (pv 21)) pa_nil))))
      (pss_cons (ps_set (i := 24) nd rfl (Or.inl rfl) (pe_f (ok_law_run T) T.g_law_run (hr.mono (by decide)) (pa_cons (pe_ix ix_tup (pv 23) pe_int (fun _ _ => rfl)) (pa_cons (pe_mt0 (ok_Log_lines T) T.c_Log T.m_Log_lines (hr.mono (by decide)) (pv 22)) pa_nil))))
      (pss_one (ps_ret (pe_and (pe_cmpR (op_eqRun T (hr.mono (by decide))) (pe_tup (pa_cons (pe_ix ix_tup (pv 24) pe_int (fun _ _ => rfl)) (pa_cons (pe_op op_cat (pe_ix ix_tup (pv 23) pe_int (fun _ _ => rfl)) (pe_ix ix_tup (pv 24) pe_int (fun _ _ => rfl))) pa_nil))) (pv 13) (nomark _))
        (pe_one (pe_cmpR (op_eqLog T (hr.mono (by decide))) (pe_stat (ok_Log_read T) T.e_rLog T.e_read (hr.mono (by decide)) (pe_cc T.g_Log) (pa_cons (pv 15) pa_nil)) (pv 11) (nomark _)))))))))))))))))))), ?_⟩
    -- the nodes, and no programs yet
    refine ⟨_, rfl, p, 3, rfl, hp, by omega, by omega, fun r H1 r0 r1 s1 hp1 => ⟨_, _, rfl, rfl, ?_⟩⟩
    obtain ⟨n, en⟩ : ∃ n : Int, n = 1 + r := ⟨_, rfl⟩
    have n1 : 1 ≤ n := by omega
    have n3 : n ≤ 3 := by omega
    refine (show gName 1 (V.int (1 + r)) _ _ _ from ?_)
    rw [← en]
    refine ⟨Nat.zero_le _, fun pr hpr => ?_⟩
    have pr0 : ¬ In H pr := In.notP s1 hp1 hpr
    have prp : pr ≠ p := hp1.isn hpr
    have s2 : SameN (At p) H (upd H1 pr (.lst [])) := s1.trans (SameN.of (Same.new hpr))
    have hp2 : PotOk (upd H1 pr (.lst [])) p := hp1.same (Same.new hpr)
    have hInp : In H p := let ⟨_, _, e, _⟩ := hp; ⟨_, e⟩
    -- the programs
    refine ⟨_, rfl, p, 2, rfl, hp2, by omega, by omega, fun r2 H3 r20 r21 s3 hp3 => ⟨_, _, rfl, rfl, _, rfl, by omega, by omega, for_it walk_range (fun i σ H' => ∃ (o3 : Option V) (xs : List V) (l : List (List Ln)), σ = [some (.ref p), some (.int n), some (.ref pr), o3, none, none, none, none, none, none, none, none, none, none, none, none, none, none, none, none, none, none, none, none, none] ∧ SameN (At p) H H' ∧ PotOk H' p ∧ H' pr = some (.lst xs) ∧ l.length = i ∧ (∀ q ∈ l, 1 ≤ q.length ∧ q.length ≤ 3 ∧ ∀ x ∈ q, LT n x) ∧ All2 (rp (And1 (In H) pr) H') xs l)
      ⟨none, [], [], rfl, s2.trans s3, hp3, s3 _ _ prp upd_same, rfl, (fun _ h => nomatch h), trivial⟩ (fun _ _ _ _ _ => trivial) ?_ ?_⟩⟩
    · rintro i y σ H5 H4 hi ⟨o3, xs, l, rfl, s4, hp4, hpr4, ll, lo, rx⟩ ⟨rfl, rfl⟩
      have lxs := rx.length
      refine ⟨_, rfl, .inl ⟨rfl, _, SqL.of hpr4⟩, _, rfl, p, 3, rfl, hp4, by omega, by omega, fun r3 H6 r30 r31 s6 hp6 => ⟨_, _, rfl, rfl, _, rfl, by omega, by omega, fun D hD => ?_⟩⟩
      have s46 := s4.trans s6
      have hpr6 := s6 _ _ prp hpr4
      have Dpr : D ≠ pr := fun z => by
        rw [z, hpr6] at hD
        cases hD
      have nD : ¬ In H D := In.notP s46 hp6 hD
      refine lc_rpE (β := Ln) walk_range (LT n) (by omega) (And1 (In H) pr) p hp6 (.inl hInp) hD (fun _ _ => trivial) yFn_same (fun j x H8 H7 K1 hj s7 hp7 hex hy k1 => ?_) (fun H7 acc l2 s7 hp7 hl2 hlt hacc r7 => ?_)
      · obtain ⟨rfl, _⟩ := hy
        refine ⟨wipe1 _ _ _, _, rfl, _, rfl, p, n, rfl, hp7, n1, n3, fun v l H9 s9 hp9 lt rl => k1 v l H9 s9 hp9 lt (Rp.weak (fun b z => ?_) rl)⟩
        have inC : ∀ b, In H b → In _ b := fun b ⟨o, e⟩ => by
          by_cases zb : b = p
          · obtain ⟨_, _, e2, _⟩ := hp7
            rw [zb]
            exact ⟨_, e2⟩
          · exact ⟨o, s7 _ _ zb (s46 _ _ zb e)⟩
        rcases z with (z | z) | z
        · exact inC b z
        · rw [z]
          exact ⟨_, s7 _ _ prp hpr6⟩
        · obtain ⟨acc, ha⟩ := hex
          rw [z]
          exact ⟨_, ha⟩
      · have hpr7 := s7 _ _ prp hpr6
        have sM : SameN (And1 (In H) pr) H4 (upd H7 pr (.lst (xs ++ [.ref D]))) := ((s6.trans s7).weak fun b e => .inl (by rw [show b = p from e]; exact hInp)).upd' (.inr rfl)
        refine ⟨pr, xs, _, rfl, rfl, hpr7, by omega, some (.int (0 + (i : Int))), xs ++ [.ref D], l ++ [l2], rfl, fun b o nb e => ?_, ?_, upd_same, by rw [List.length_append, ll]; rfl, fun q hq => ?_, (rx.monoR sM).append (.one ?_)⟩
        · rw [upd_ne (fun z => pr0 (by rw [← z]; exact ⟨_, e⟩))]
          exact s7 _ _ nb (s46 _ _ nb e)
        · obtain ⟨a1, a2, e, q⟩ := hp7
          exact ⟨a1, a2, by rw [upd_ne prp.symm]; exact e, q⟩
        · rcases List.mem_append.mp hq with m | m
          · exact lo q m
          · rw [List.mem_singleton.mp m]
            exact ⟨by omega, by omega, hlt⟩
        · have rD : rp (And1 (In H) pr) (upd H7 pr (.lst (xs ++ [.ref D]))) (.ref D) l2 := ⟨D, acc, rfl, fun z => z.elim nD Dpr, by rw [upd_ne Dpr]; exact hacc, (r7.weakR fun b z => .inl z).monoR (SameN.upd (.inr rfl))⟩
          exact rD
    rintro σ H4 ⟨o3, xs, ps, rfl, s4, hp4, hpr4, ll, lo, rx⟩
    have pok : PsOk n ps := ⟨n1, by omega, by omega, by omega, fun q hq => ⟨(lo q hq).1, (lo q hq).2.1, fun x hx => ((lo q hq).2.2 x hx).ok⟩⟩
    have lt3 : ∀ q ∈ ps, ∀ x ∈ q, LT 3 x := fun q hq x hx => ((lo q hq).2.2 x hx).up n3
    have domp : ∀ {H' : Hp}, PotOk H' p → Dom (At p) H' := fun h b e => by
      obtain ⟨_, _, e2, _⟩ := h
      rw [show b = p from e]
      exact ⟨_, e2⟩
    have rps : rp (At p) H4 (.ref pr) ps := ⟨pr, xs, rfl, prp, hpr4, rx.weakR fun b e => .inl (by rw [show b = p from e]; exact hInp)⟩
    -- sessions and a row
    refine ⟨_, rfl, _, rfl, mk_sess rps pok (domp hp4) fun se H5 s5 rse => ?_⟩
    have hp5 := hp4.same s5
    refine ⟨_, rfl, _, rfl, At p, p, _, ps, n, rfl, hp5, Rp.mono (SameN.of s5) rps, rfl, pok, fun b row H6 s6 hp6 hb0 hb we => ⟨_, _, rfl, ?_⟩⟩
    have bp : b ≠ p := hp5.isn hb0
    -- a tie, the store
    refine ⟨_, rfl, _, rfl, p, n, rfl, hp6, by omega, by omega, fun i H7 i0 i1 s7 hp7 => ⟨_, rfl, _, rfl, p, n, rfl, hp7, by omega, by omega, fun j H8 j0 j1 s8 hp8 => ⟨by show 3 ≤ sizeLine; decide, fun q hq => ⟨by show 1 ≤ sizeLine; decide, fun tb htb => ?_⟩⟩⟩⟩
    obtain ⟨t0, et0⟩ : ∃ t : Tie, t = ⟨i, 97, j⟩ := ⟨_, rfl⟩
    have tok : TiesOk (n + 1) [t0] := by
      rw [et0]
      exact ⟨by omega, by omega, List.pairwise_singleton .., fun t ht => by rw [List.mem_singleton.mp ht]; exact ⟨i0, (by show i < n + 1; omega), (by show 97 ≤ 97; omega), (by show 97 ≤ 102; omega), j0, (by show j < n + 1; omega)⟩, (by show 1 ≤ 400; decide)⟩
    have s9 : Same H8 (upd (upd H8 q (.tup [.int i, .str (Str.ofString "a"), .int j])) tb (.lst [.ref q])) := (Same.new hq).lay htb
    have hq9 : (upd (upd H8 q (.tup [.int i, .str (Str.ofString "a"), .int j])) tb (.lst [.ref q])) q = some (.tup t0.vs) := by
      rw [upd_ne (ne_of_none upd_same htb), upd_same, st_a, et0]
      rfl
    have htb9 : (upd (upd H8 q (.tup [.int i, .str (Str.ofString "a"), .int j])) tb (.lst [.ref q])) tb = some (.lst [.ref q]) := upd_same
    generalize upd (upd H8 q (.tup [.int i, .str (Str.ofString "a"), .int j])) tb (.lst [.ref q]) = H9 at s9 hq9 htb9 ⊢
    have hp9 := hp8.same s9
    have s59 : SameN (At p) H5 H9 := ((s6.trans s7).trans s8).trans (SameN.of s9)
    refine ⟨_, rfl, _, _, rfl, rfl, _, rfl, mk_store (n := n + 1) (ts := [t0]) htb9 ⟨⟨q, rfl, fun z => z, hq9⟩, trivial⟩ tok fun st H10 us perm rise s10 rst => ?_⟩
    have sok := TiesOk.st tok perm rise
    have fewS : us.length = 1 := by rw [perm.length_eq]; rfl
    obtain ⟨S, eS⟩ : ∃ S : St0, S = ⟨n + 1, us⟩ := ⟨_, rfl⟩
    rw [← eS] at sok rst
    have fS : S.ts.length = 1 := by rw [eS]; exact fewS
    have nS : S.n = n + 1 := by rw [eS]
    have hp10 := hp9.same s10
    have rst10 : StAt K (At p) H10 (.ref st) S := rst.weak fun c e => by
      obtain ⟨_, _, e2, _⟩ := hp9
      rw [show c = p from e]
      exact ⟨_, e2⟩
    have s510 := s59.trans (SameN.of s10)
    have rse10 := rse.mono s510
    have hb10 : H10 b = some (.lst (row.map V.int)) := s10 _ _ (s9 _ _ (s8 _ _ bp (s7 _ _ bp hb)))
    have rps10 : rp (At p) H10 (.ref pr) ps := Rp.mono ((SameN.of s5).trans s510) rps
    have s010 : SameN (At p) H H10 := (s4.trans (SameN.of s5)).trans s510
    -- entries and their log
    refine ⟨_, rfl, _, rfl, At p, _, b, ps, row, n, rfl, rps10, hb10, pok, we, lt3, fun t e sp ys zs es H11 s11 ht he rye hsp rzs efl eok1 => ⟨t, _, rfl, SqT.of ht, rfl, _, _, rfl, _, _, rfl, rfl, ?_⟩⟩
    have hp11 := hp10.same s11
    have lls : (linesIn ps row).length ≤ 9 := by rw [linesIn_len, we.length_eq]; exact pok.len
    have eok : EsOk es := es_ok eok1 (by rw [efl, List.length_map]; exact lls)
    have inp10 : ∀ c, At p c → In H10 c := fun c e => by
      obtain ⟨_, _, e2, _⟩ := hp10
      rw [show c = p from e]
      exact ⟨_, e2⟩
    have ep : e ≠ p := hp11.ne he fun i j z => by
      have z2 : ys = [.int i, .int j] := HO.lst.inj z
      subst z2
      match es, rye with
      | x :: y :: [], rye =>
        cases x with
        | inl x => cases (show V.int i = V.str x from rye.1)
        | inr x =>
          obtain ⟨_, _, e2, _⟩ := (show rp (In H10) H11 (.int i) x from rye.1)
          cases e2
      | [], rye => cases rye
      | [_], rye => cases rye.2
      | _ :: _ :: _ :: _, rye => cases rye.2.2
    have rye' := rye.weakR inp10
    have rzs' := rzs.weakR inp10
    refine ⟨_, rfl, mk_log (N := At p) (es := es) (.inl ⟨e, ys, rfl, ep, he, rye'⟩) eok (domp hp11) fun lg H12 s12 rlo => ?_⟩
    have hp12 := hp11.same s12
    have s1012 := s11.trans s12
    -- what is heard, what is run
    refine ⟨_, rfl, _, rfl, _, rfl, At p, At p, _, _, n, ps, b, row, S, rfl, rse10.mono (SameN.of s1012), pok, rst10.mono (SameN.of s1012), domp hp12, sok, by omega, by omega, s1012 _ _ hb10, we, fun d ks ks' H13 s13 hd kp tol => ?_⟩
    have hp13 := hp12.same s13
    have rlo13 := rlo.mono (SameN.of s13)
    obtain ⟨la, ldx, lq, lae, lna, lha, lhq⟩ := id rlo13
    cases lae
    have lsLT := linesIn_LT (n := n) (fun q hq x hx => (lo q hq).2.2 x hx) we
    refine ⟨_, rfl, _, rfl, lg, ldx, _, rfl, lha, loF_no lq (by decide +kernel), At p, _, es, rfl, rlo13, eok, fun L H14 hL0 s14 hL => ?_⟩
    have hp14 := hp13.same s14
    have hL' : H14 L = some (.lst ((linesIn ps row).map lineV)) := by
      rw [hL, efl, List.map_map]
      rfl
    have s1014 := s1012.trans (s13.trans s14)
    refine ⟨At p, _, L, S, linesIn ps row, n, rfl, rst10.mono (SameN.of s1014), domp hp14, sok, by omega, hL', by omega, lsLT, n3, by omega, fun t2 v2 d2 as H15 s15 ht2 hd2 ras rst2 => ⟨by show 2 ≤ sizeLine; decide, fun q2 hq2 => ⟨q2, _, rfl, SqT.of upd_same, rfl, _, _, rfl, _, _, rfl, rfl, ?_⟩⟩⟩
    have hp15 := hp14.same s15
    have s16 : Same H15 (upd H15 q2 (.tup [.ref d, .ref t2])) := Same.new hq2
    generalize upd H15 q2 (.tup [.ref d, .ref t2]) = H16 at s16 ⊢
    have t2p : t2 ≠ p := hp15.ne ht2 fun i j z => nomatch z
    have d2p : d2 ≠ p := hp15.ne hd2 fun i j z => two_ints (by rw [← HO.lst.inj z]; exact ras)
    have inp14 : ∀ c, At p c → In H14 c := fun c e => by
      obtain ⟨_, _, e2, _⟩ := hp14
      rw [show c = p from e]
      exact ⟨_, e2⟩
    have s1016 := s1014.trans (s15.trans s16)
    have s1316 := s14.trans (s15.trans s16)
    have rt : Rt K p n ps row S es (.ref se) (.ref st) (.ref lg) (.ref t2) b e ys H16 :=
      ⟨hp15.same s16, rse10.mono (SameN.of s1016), rst10.mono (SameN.of s1016), rlo13.mono (SameN.of s1316), bp, s1016 _ _ hb10, ep, s1316 _ _ (s13 _ _ (s12 _ _ he)), rye'.monoR (SameN.of (s12.trans (s13.trans s1316))),
        t2, v2, d2, rfl, t2p, s16 _ _ ht2, rst2.mono (SameN.of s16), d2, as, rfl, d2p, s16 _ _ hd2, (ras.weakR inp14).monoR (SameN.of s16)⟩
    have s016 : SameN (At p) H H16 := s010.trans (SameN.of s1016)
    have hd16 := s1316 _ _ hd
    have hsp16 := s1316 _ _ (s13 _ _ (s12 _ _ hsp))
    have rzs16 := rzs'.monoR (SameN.of (s12.trans (s13.trans s1316)))
    have ht216 := s16 _ _ ht2
    have lzs : zs.length = row.length := by rw [rzs.length, spotsIn_len]
    have lrow : row.length ≤ 9 := by rw [← linesIn_len ps row]; exact lls
    -- what was heard is what was run
    have tnd : ((toldL S (zl ps row)).map (·.1)).Nodup := List.Sublist.nodup (toldL_keys S (zl ps row)) (zl_nodup ps row)
    refine ⟨_, rfl, t2, _, 1, .ref d2, rfl, rfl, SqT.of ht216, atI_nat (j := 1) rfl, _, rfl, sp, rfl, ⟨_, SqL.of hsp16⟩, fun D hD => ?_⟩
    refine lc_rpF (β := Answer) (walk_list (xs := zs)) (ansO S (linesIn ps row)) (by rw [ansO_len, linesIn_len, lzs]) (by omega) (At p) hD (fun H17 s17 => SqL.of (s17 _ _ hsp16)) yAt_same (fun jj o y H18 H17 K1 K2 ho s17 hex hy k1 k2 => ?_) (fun H17 acc s17 hacc r17 => ?_)
    · obtain ⟨rfl, hy⟩ := hy
      obtain ⟨spt, hspt, a0, y1, y2, rfl, na0, ha0, ry1, ry2⟩ := rzs16.get' hy
      cases ry1
      cases ry2
      have hjl : jj < row.length := by rw [← lzs]; exact (List.getElem?_eq_some_iff.mp hy).1
      have eri := List.getElem?_eq_getElem hjl
      obtain ⟨h0, h1, pp, l, hpp, hl, hla⟩ := weave_line we eri
      have hl1 := linesIn_get eri hla
      have espt : spt = (row[jj], cnt row[jj] (row.take jj)) := Option.some.inj (hspt.symm.trans (spotsIn_get eri))
      have hzl : (zl ps row)[jj]? = some (spt, l) := by
        unfold zl
        rw [List.getElem?_map, hspt]
        show some (spt, (lineAt ps spt).getD _) = _
        rw [espt, hla]
        rfl
      have hz2 : ((zl ps row).take jj).map (·.2) = (linesIn ps row).take jj := by rw [List.map_take, zl_lines]
      have ho2 : o = ansL (runS S ((linesIn ps row).take jj)) l := Option.some.inj (ho.symm.trans (ansO_get hl1))
      obtain ⟨ta1, ta2⟩ := told_at (S := S) (zl_nodup ps row) hzl
      rw [hz2, ← ho2] at ta1 ta2
      have ha17 := s17 _ _ ha0
      have hd17 := s17 _ _ hd16
      cases o with
      | none =>
        have e1 := tol_none tol kp (ta2 rfl)
        refine ⟨wipe1 _ _ _, _, rfl, _, rfl, d, none, rfl, .inr ⟨_, [.inl spt.1, .inl spt.2], a0, .inl hd17, rfl, ha17, e1.symm⟩, false, rfl, ?_⟩
        exact iteF (k2 rfl _ (Same.refl _))
      | some a =>
        obtain ⟨c, e1, rc⟩ := tol_some tol tnd kp (ta1 a rfl)
        refine ⟨wipe1 _ _ _, _, rfl, _, rfl, d, some (.ref c), rfl, .inr ⟨_, [.inl spt.1, .inl spt.2], a0, .inl hd17, rfl, ha17, e1.symm⟩, true, rfl, iteT ?_⟩
        refine ⟨_, rfl, _, rfl, d, .ref c, rfl, .inr ⟨_, [.inl spt.1, .inl spt.2], a0, .inl hd17, rfl, ha17, e1.symm⟩, k1 a rfl _ _ (Same.refl _) ?_⟩
        refine Rp.mono (SameN.of (s1316.trans s17)) (Rp.fr (fun bb z => ?_) rc)
        rcases z with z | z
        · refine .inl ?_
          obtain ⟨_, _, e2, _⟩ := hp12
          rw [show bb = p from z]
          exact ⟨_, e2⟩
        · rw [z]
          exact .inr (s1316.free hD)
    rw [ansO_run] at r17
    have rt17 := rt.same s17
    obtain ⟨t2', v2', d2', ee, nt2, ht217, st17, ra17⟩ := id rt17.an
    cases ee
    rw [s17 _ _ ht216] at ht217
    cases ht217
    refine ⟨At p, fun _ => False, _, runA S (linesIn ps row), ra17, ⟨D, acc, rfl, fun z => z, hacc, r17.weakR fun b z => z.elim⟩, false, congrArg V.bl (by rw [decide_eq_true rfl]; rfl), iteF ?_⟩
    refine ⟨_, rfl, t2, _, 0, v2, rfl, rfl, SqT.of (s17 _ _ ht216), atI_nat (j := 0) rfl, _, rfl, _, rfl, _, rfl, At p, At p, _, _, n, ps, b, row, S, rfl, rt17.se, pok, rt17.st, domp rt17.pot, sok, by omega, by omega, rt17.hb, we, fun v' H18 s18 st18 => ⟨st_ins (st17.mono (SameN.of s18)) st18, fun H19 s19 => ⟨false, rfl, iteF ?_⟩⟩⟩
    replace s19 : Same H18 H19 := fun b o h => s19 b o h
    have rt19 := (rt17.same s18).same s19
    obtain ⟨_, ldx9, lq9, lae9, lna9, lha9, lhq9⟩ := id rt19.lo
    cases lae9
    refine ⟨_, rfl, lg, ldx9, _, rfl, lha9, loF_no lq9 (by decide +kernel), At p, _, es, rfl, rt19.lo, eok, fun H20 s20 => ?_⟩
    have rt20 := rt19.same s20
    have s020 : SameN (At p) H H20 := s016.trans (SameN.of (s17.trans (s18.trans (s19.trans s20))))
    -- cut four times
    refine ⟨_, rfl, by decide, by decide, for_it walk_range (fun i σ H' => ∃ (o3 o16 o17 o19 o20 : Option V), σ = [some (.ref p), some (.int n), some (.ref pr), o3, none, some (.ref se), some (.ref b), some (.ref tb), some (.ref st), some (.ref e), some (.ref sp), some (.ref lg), some (.ref d), some (.ref t2), none, some (.str (textOf es)), o16, o17, none, o19, o20, none, none, none, none] ∧ SameN (At p) H H' ∧ Rt K p n ps row S es (.ref se) (.ref st) (.ref lg) (.ref t2) b e ys H')
      ⟨_, none, none, none, none, rfl, s020, rt20⟩ (fun _ _ _ _ _ => trivial) ?_ ?_⟩
    · rintro ii y σ H22 H21 hi ⟨o3, o16, o17, o19, o20, rfl, s21, rt21⟩ ⟨rfl, rfl⟩
      have s2122 := s21
      have hz : (textOf es).length ≤ 41000 := by
        rw [len_tl, tl_textOf]
        have := Tt_len (rows_lr eok.ok)
        have := eok.rows
        omega
      have lys := rt21.ry.length
      have efew := eok.few
      refine ⟨_, rfl, _, rfl, _, rfl, textOf es, rfl, by omega, _, _, rfl, rfl, p, _, rfl, rt21.pot, by omega, by omega, fun c H23 c0 c1 s23 hp23 => ⟨_, rfl, textOf es, rfl, by omega, ?_⟩⟩
      have rt23 := rt21.go s23 hp23
      have s023 := s21.trans s23
      obtain ⟨m, part, hm, ecut, hpart⟩ := cut_rows (rs := rowsOf es) c.toNat (rows_lr eok.ok)
      obtain ⟨z, ez⟩ : ∃ z, z = cutS (textOf es) none (some c) := ⟨_, rfl⟩
      have tz : tl z = Tt ((rowsOf es).take m) ++ part := by rw [ez, cut_sheet c0 (by omega), tl_textOf, ecut]
      have zlen : z.length ≤ 50000 := by
        rw [ez, len_tl, cut_sheet c0 (by omega), List.length_take, ← len_tl]
        omega
      refine (show gName 16 (V.str (cutS (textOf es) none (some c))) _ _ _ from ?_)
      rw [← ez]
      -- the good ones
      refine ⟨_, rfl, e, ys, rfl, .inl (SqL.of rt23.he), _, _, rfl, rfl, _, rfl, by omega, by omega, fun D hD => ?_⟩
      refine lc_rpF (β := Int) walk_range (goodO es m) (by unfold goodO; rw [List.length_map, List.length_range]; omega) (by have := eok.few; omega) (At p) hD (fun _ _ => trivial) yFn_same (fun jj o y H25 H24 K1 K2 ho s24 hex hy k1 k2 => ?_) (fun H24 acc s24 hacc r24 => ?_)
      · obtain ⟨rfl, rfl⟩ := hy
        have rt24 := rt23.same s24
        have hjl : jj < es.length + 1 := by
          have := (List.getElem?_eq_some_iff.mp ho).1
          unfold goodO at this
          rwa [List.length_map, List.length_range] at this
        have ho2 : o = if Rn es jj ≤ m then some (jj : Int) else none := by
          unfold goodO at ho
          rw [List.getElem?_map, List.getElem?_range hjl] at ho
          exact (Option.some.inj ho).symm
        refine ⟨wipe1 _ _ _, _, rfl, ⟨_, rfl⟩, _, rfl, _, rfl, _, rfl, e, ys, rfl, SqL.of rt24.he, fun q hq => ?_⟩
        rw [Int.zero_add, cut_pre (by omega)]
        have s25 : Same _ (upd _ q (.lst (ys.take jj))) := Same.new hq
        refine mk_log (N := At p) (es := es.take jj) (.inl ⟨q, ys.take jj, rfl, rt24.pot.isn hq, upd_same, (rt24.ry.take jj).monoR (SameN.of s25)⟩) (eok.take jj) (domp (rt24.pot.same s25)) fun lg2 H26 s26 lo26 => ?_
        obtain ⟨_, dx2, q3, ae, na2, ha2, hq3⟩ := id lo26
        cases ae
        refine ⟨lg2, dx2, _, rfl, ha2, loF_no q3 (by decide +kernel), At p, _, es.take jj, rfl, lo26, eok.take jj, fun H27 s27 => ⟨z, textOf (es.take jj), rfl, rfl, decide (Rn es jj ≤ m), congrArg V.bl (starts_cut hm tz hpart jj), ?_⟩⟩
        by_cases hR : Rn es jj ≤ m
        · rw [if_pos hR] at ho2
          rw [decide_eq_true hR]
          refine iteT ⟨_, rfl, k1 (jj : Int) ho2 _ _ ((s25.trans s26).trans s27) ?_⟩
          exact congrArg V.int (Int.zero_add _)
        · rw [if_neg hR] at ho2
          rw [decide_eq_false hR]
          exact iteF (k2 ho2 _ ((s25.trans s26).trans s27))
      have eacc := ints_of r24
      have rt24 := rt23.same s24
      have s024 := s023.trans (SameN.of s24)
      -- torn
      refine ⟨rfl, _, rfl, z, es, m, ⟨part.toArray⟩, rfl, zlen, split_cut (fun x hx => rows_lr eok.ok x (List.mem_of_mem_take hx)) tz hpart, eok, hm, fun tp u g H25 s25 htp lo25 g1 g2 g3 => ⟨tp, _, rfl, SqT.of htp, rfl, _, _, rfl, _, _, rfl, rfl, ?_⟩⟩
      obtain ⟨gl, egl⟩ := good_last ⟨g1, g2, g3⟩
      rw [egl, List.map_append] at eacc
      subst eacc
      have rt25 := rt24.same s25
      have s025 := s024.trans (SameN.of s25)
      have hD25 := s25 _ _ hacc
      have lo25' : LoAt K (At p) H25 u (es.take g) := lo25.weak fun c e => by
        obtain ⟨_, _, e2, _⟩ := rt24.pot
        rw [show c = p from e]
        exact ⟨_, e2⟩
      obtain ⟨uu, ux, uq, rfl, una, uha, uhq⟩ := id lo25'
      obtain ⟨_, ldx, lq, lae, lna, lha, lhq⟩ := id rt25.lo
      cases lae
      refine ⟨_, rfl, _, rfl, lg, ldx, _, rfl, lha, loF_no lq (by decide +kernel), _, rfl, 1, rfl, D, _, -1, _, rfl, rfl, SqL.of hD25, atI_last _ _, At p, _, es, g, rfl, rt25.lo, eok, domp rt25.pot, g1, fun u2 H26 s26 lo26 => ⟨lo_ins (lo25'.mono (SameN.of s26)) lo26, fun H27 s27 => ⟨false, rfl, iteF ?_⟩⟩⟩
      replace s27 : Same H26 H27 := fun b o h => s27 b o h
      have s2527 := s26.trans s27
      have rt27 := rt25.same s2527
      have hD27 := s2527 _ _ hD25
      -- how many lines the whole entries have
      refine ⟨_, rfl, _, rfl, _, rfl, 1, rfl, D, _, -1, _, rfl, rfl, SqL.of hD27, atI_last _ _, _, rfl, e, ys, rfl, SqL.of rt27.he, fun q hq => ?_⟩
      rw [cut_pre (by omega)]
      have s28 : Same H27 (upd H27 q (.lst (ys.take g))) := Same.new hq
      refine mk_log (N := At p) (es := es.take g) (.inl ⟨q, ys.take g, rfl, rt27.pot.isn hq, upd_same, (rt27.ry.take g).monoR (SameN.of s28)⟩) (eok.take g) (domp (rt27.pot.same s28)) fun lg2 H29 s29 lo29 => ?_
      obtain ⟨_, dx2, q3, ae, na2, ha2, hq3⟩ := id lo29
      cases ae
      have ecnt : Txt.count (textOf (es.take g)) nl = ((Rn es g : Nat) : Int) := count_text (rows_lr (eok.take g).ok)
      refine ⟨lg2, dx2, _, rfl, ha2, loF_no q3 (by decide +kernel), At p, _, es.take g, rfl, lo29, eok.take g, fun H30 s30 => ⟨⟨_, rfl⟩, textOf (es.take g), nl, rfl, rfl, rfl, false, ?_, iteF ?_⟩⟩
      · rw [ecnt]
        exact congrArg V.bl (by rw [decide_eq_true rfl]; rfl)
      have s2730 := s28.trans (s29.trans s30)
      have rt30 := rt27.same s2730
      have hD30 := s2730 _ _ hD27
      have s2530 := s2527.trans s2730
      have s030 := s025.trans (SameN.of s2530)
      -- both runs
      obtain ⟨l1, l2, els, el1, el2⟩ := lines_part efl g
      have ll1 : l1.length ≤ 9 := by
        have := congrArg List.length els
        rw [List.length_append] at this
        omega
      have lt1 : ∀ x ∈ l1, LT n x := fun x hx => lsLT x (by rw [els]; exact List.mem_append_left _ hx)
      have lo30 := lo25'.mono (SameN.of s2530)
      have uha30 := s2530 _ _ uha
      refine ⟨_, rfl, _, rfl, uu, ux, _, rfl, uha30, loF_no uq (by decide +kernel), At p, _, es.take g, rfl, lo30, eok.take g, fun L H31 hL0 s31 hL => ?_⟩
      have rt31 := rt30.same s31
      refine ⟨At p, _, L, S, l1, n, rfl, rt31.st, domp rt31.pot, sok, by omega, by rw [hL, el1, List.map_map]; rfl, by omega, lt1, n3, by omega, fun t3 v3_ d3_ as3_ H32 s32 ht3_ hd3_ ras3_ st3_ => ?_⟩
      have rn3 := rn_of rt31.pot s32 ht3_ hd3_ ras3_ st3_
      have rt32 := rt31.same s32
      have hD32 := s32 _ _ (s31 _ _ hD30)
      refine ⟨_, rfl, _, rfl, _, rfl, 1, rfl, D, _, -1, _, rfl, rfl, SqL.of hD32, atI_last _ _, _, rfl, e, ys, rfl, SqL.of rt32.he, fun q hq => ?_⟩
      rw [cut_pre (by omega)]
      have s33 : Same H32 (upd H32 q (.lst (ys.take g))) := Same.new hq
      refine ⟨At p, q, ys.take g, es.take g, rfl, upd_same, (rt32.ry.take g).monoR (SameN.of s33), by rw [el1, List.length_map]; omega, fun D4 H34 s34 hD4 => ?_⟩
      have rt34 := (rt32.same s33).same s34
      refine ⟨At p, _, D4, S, l1, n, rfl, rt34.st, domp rt34.pot, sok, by omega, by rw [hD4, el1, List.map_map]; rfl, by omega, lt1, n3, by omega, fun t4 v4_ d4_ as4_ H35 s35 ht4_ hd4_ ras4_ st4_ => ?_⟩
      have rn4 := rn_of rt34.pot s35 ht4_ hd4_ ras4_ st4_
      refine ⟨rn_eq (rn3.mono (SameN.of (s33.trans (s34.trans s35)))) rn4, fun H36 s36 => ⟨false, rfl, iteF ?_⟩⟩
      replace s36 : Same H35 H36 := fun b o h => s36 b o h
      have s3036 := s31.trans (s32.trans (s33.trans (s34.trans (s35.trans s36))))
      exact ⟨_, _, _, _, _, rfl, s030.trans (SameN.of s3036), rt30.same s3036⟩
    · rintro σ H21 ⟨o3, o16, o17, o19, o20, rfl, s21, rt21⟩
      obtain ⟨_, ldx, lq, lae, lna, lha, lhq⟩ := id rt21.lo
      cases lae
      have rpos := row_pos pok we
      -- parted at a line
      refine ⟨_, rfl, lg, ldx, _, rfl, lha, loF_no lq (by decide +kernel), _, rfl, _, rfl, lg, ldx, _, rfl, lha, loF_no lq (by decide +kernel), At p, _, es, rfl, rt21.lo, eok, fun L H22 hL0 s22 hL => ?_⟩
      have rt22 := rt21.same s22
      refine ⟨p, L, _, rfl, rt22.pot, rt21.pot.isn hL0, hL, by rw [List.length_map, efl, List.length_map, linesIn_len]; exact rpos, by rw [List.length_map, efl, List.length_map]; omega, fun v H23 hv s23 pk23 => ?_⟩
      have rt23 := rt22.go s23 pk23
      have s023 := (s21.trans (SameN.of s22)).trans s23
      rw [efl] at hv
      obtain ⟨x, hx, rfl⟩ := List.mem_map.mp hv
      obtain ⟨xl, hxl, rfl⟩ := List.mem_map.mp hx
      refine ⟨At p, _, es, lineS xl, rfl, rt23.lo, eok, domp rt23.pot, line_cl ((lsLT xl hxl).up n3), fun pp u w2 at_ H24 s24 hpp lo1 lo2 => ⟨pp, _, rfl, SqT.of hpp, rfl, _, _, rfl, _, _, rfl, rfl, ?_⟩⟩
      have rt24 := rt23.same s24
      obtain ⟨l1, l2, els, el1, el2⟩ := lines_part efl at_
      have ell : l1.length + l2.length ≤ 9 := by
        have := congrArg List.length els
        rw [List.length_append] at this
        omega
      have lt1 : ∀ x ∈ l1, LT n x := fun x hx => lsLT x (by rw [els]; exact List.mem_append_left _ hx)
      have lt2 : ∀ x ∈ l2, LT n x := fun x hx => lsLT x (by rw [els]; exact List.mem_append_right _ hx)
      obtain ⟨uu, ux, uq, rfl, una, uha, uhq⟩ := id lo1
      obtain ⟨wu, wx, wq, rfl, wna, wha, whq⟩ := id lo2
      refine ⟨_, rfl, _, rfl, uu, ux, _, rfl, uha, loF_no uq (by decide +kernel), At p, _, es.take at_, rfl, lo1, eok.take at_, fun L1 H25 hL10 s25 hL1 => ?_⟩
      have rt25 := rt24.same s25
      refine ⟨At p, _, L1, S, l1, n, rfl, rt25.st, domp rt25.pot, sok, by omega, by rw [hL1, el1, List.map_map]; rfl, by omega, lt1, n3, by omega, fun t3 v3_ d3_ as3_ H26 s26 ht3_ hd3_ ras3_ st3_ => ?_⟩
      have rn3 := rn_of rt25.pot s26 ht3_ hd3_ ras3_ st3_
      have rt26 := rt25.same s26
      obtain ⟨_, v3, d3, e3, nt3, ht3, st3, r3⟩ := id rn3
      cases e3
      have s2426 := s25.trans s26
      refine ⟨_, rfl, t3, _, 0, v3, rfl, rfl, SqT.of ht3, atI_nat (j := 0) rfl, _, rfl, wu, wx, _, rfl, s2426 _ _ wha, loF_no wq (by decide +kernel), At p, _, es.drop at_, rfl, lo2.mono (SameN.of s2426), eok.drop at_, fun L2 H27 hL20 s27 hL2 => ?_⟩
      have rt27 := rt26.same s27
      have sok1 := runS_ok (S := S) (ls := l1) sok (fun x hx => (lt1 x hx).ok) (by omega) (by omega)
      have few1 := runS_len S l1
      have n1' := runS_n S l1
      refine ⟨At p, _, L2, (runS S l1), l2, n, rfl, (st3.mono (SameN.of s27)), domp rt27.pot, sok1, by omega, by rw [hL2, el2, List.map_map]; rfl, by omega, lt2, n3, by omega, fun t4 v4_ d4_ as4_ H28 s28 ht4_ hd4_ ras4_ st4_ => ?_⟩
      have rn4 := rn_of rt27.pot s28 ht4_ hd4_ ras4_ st4_
      have rt28 := rt27.same s28
      obtain ⟨_, v4, d4, e4, nt4, ht4, st4, r4⟩ := id rn4
      cases e4
      have s2628 := s27.trans s28
      have ht3' := s2628 _ _ ht3
      have r3' := Rp.mono (SameN.of s2628) r3
      obtain ⟨_, as3, e5, nd3, hd3, ra3⟩ := id r3'
      cases e5
      obtain ⟨_, as4, e6, nd4, hd4, ra4⟩ := id r4
      cases e6
      have las3 : as3.length ≤ 9 := by
        have := runA_len S l1
        rw [ra3.length]
        omega
      have las4 : as4.length ≤ 9 := by
        have := runA_len (runS S l1) l2
        rw [ra4.length]
        omega
      refine ⟨_, rfl, t4, _, 0, v4, rfl, rfl, SqT.of ht4, atI_nat (j := 0) rfl, _, rfl, t3, _, 1, .ref d3, rfl, rfl, SqT.of ht3', atI_nat (j := 1) rfl, _, rfl, t4, _, 1, .ref d4, rfl, rfl, SqT.of ht4, atI_nat (j := 1) rfl, d3, d4, as3, as4, rfl, rfl, hd3, hd4, by omega, fun c hc => ⟨by show 2 ≤ sizeLine; decide, fun tt htt => ?_⟩⟩
      have s29 : Same H28 (upd H28 c (.lst (as3 ++ as4))) := Same.new hc
      have s30 : Same (upd H28 c (.lst (as3 ++ as4))) (upd (upd H28 c (.lst (as3 ++ as4))) tt (.tup [v4, .ref c])) := Same.new htt
      have hc30 := s30 _ _ (show (upd H28 c (.lst (as3 ++ as4))) c = some (.lst (as3 ++ as4)) from upd_same)
      have htt30 : (upd (upd H28 c (.lst (as3 ++ as4))) tt (.tup [v4, .ref c])) tt = some (.tup [v4, .ref c]) := upd_same
      have cp : c ≠ p := rt28.pot.isn hc
      have ttp : tt ≠ p := (rt28.pot.same s29).isn htt
      generalize upd (upd H28 c (.lst (as3 ++ as4))) tt (.tup [v4, .ref c]) = H30 at s30 hc30 htt30 ⊢
      have s2830 := s29.trans s30
      have rt30 := rt28.same s2830
      have rn5 : RnAt K (At p) H30 (.ref tt) (runS S (linesIn ps row)) (runA S (linesIn ps row)) := by
        rw [els, runS_append, runA_append]
        exact ⟨tt, v4, c, rfl, ttp, htt30, st4.mono (SameN.of s2830), c, _, rfl, cp, hc30, (ra3.monoR (SameN.of s2830)).append (ra4.monoR (SameN.of s2830))⟩
      refine ⟨_, rfl, rn_eq rn5 rt30.an, fun H31 s31 => ⟨true, rfl, iteT ?_⟩⟩
      replace s31 : Same H30 H31 := fun b o h => s31 b o h
      have rt31 := rt30.same s31
      have hz : (textOf es).length ≤ 41000 := by
        rw [len_tl, tl_textOf]
        have := Tt_len (rows_lr eok.ok)
        have := eok.rows
        omega
      refine ⟨rfl, _, rfl, es, ⟨([] : List Nat).toArray⟩, rfl, by omega, split_cut (part := []) (rows_lr eok.ok) (by rw [tl_textOf, List.append_nil]) (fun h => nomatch h), eok, fun u H32 s32 lo32 => ⟨_, rfl, lo_ins lo32 ((rt31.same s32).lo), fun H33 s33 => ?_⟩⟩
      replace s33 : Same H32 H33 := fun b o h => s33 b o h
      exact k H33 (s023.trans (SameN.of (s24.trans (s25.trans (s26.trans (s2628.trans (s2830.trans (s31.trans (s32.trans s33)))))))))
end
end Net
namespace Net
open PySem PySem.Spec PyProof.Rows L2
def spLaw (K : PySem.W.Frag) : Sp := fun vs H Q _ => ∃ (sc : Addr) (xs : List Int), vs = [.ref sc] ∧ SqL K H sc (xs.map V.int) ∧ ∀ H', Q (.bl true) H'
section
variable {P : Program} {w : World} {K : PySem.W.Frag} {mg : Str → Option Value} {base : Heap}
theorem sc_law : FnScope ["_law_script", "_law_k"] ["_law_script"] (defScope s_law) := ⟨rfl, rfl, rfl, by decide +kernel, rfl, by decide +kernel, by decide +kernel⟩
theorem fn_of {x qual : Str} {st : Stmt} {dvs : List V} {f : Addr} {fd : FuncData} {N ps : List Str} {k : Nat} {sp : Sp} (F : FunD K x qual (defArgs st) (defBody st) (defScope st) dvs [] f fd) (S : FnScope N ps (defScope st)) (len : ∀ vs H Q E, sp vs H Q E → vs.length = ps.length)
    (hbody : ∀ (cdv : Value) (A : Around) (outer : List Env) (s : Shared) (H : Hp) (vs : List V) (Q : VK) (E : XK), Room k (A.deeper (envOfC qual (defScope st) s.heap.objs.size f cdv)) → sp vs H Q E →
      ∃ t, PSs (cxOf CX0 P w K mg base N qual (defScope st) f cdv A outer s H E).nox (defBody st) t ∧ t { nx := fun _ H' => Q .non H', rt := Q } (start N vs) H) : FnOk P w K mg base CX0 (k + 1) f fd ps sp := by
  refine F.ok S len fun cdv A outer s H vs Q E hr h => ?_
  obtain ⟨t, h1, h2⟩ := hbody cdv A outer s H vs Q E hr h
  exact ⟨t, h1.nox, h2⟩
theorem ok_law (T : NT K mg) {fd : FuncData} (F : FunD K d_law.name d_law.qual d_law.params d_law.body d_law.scope (d_law.dvs K) (d_law.kws K) (d_law.at_ K) fd) : FnOk P w K mg base CX0 13 (ga K "law") fd ["_law_script"] (spLaw K) := by
  refine fn_of F sc_law (fun vs H Q E h => ?_) (fun cdv A outer s H vs Q E hr h => ?_)
  · obtain ⟨sc, xs, rfl, _⟩ := h
    rfl
  · obtain ⟨sc, xs, rfl, hsc, k⟩ := h
    have nd := sc_law.nd
    have hbig := big
    refine ⟨_, pss_one (ps_ret (pe_b (cr_all rfl) T.b_all (pa_cons (pe_lc (own := [("_law_k", 1)]) (g := gName 1) (tt := tYes) (te := tCall spRight [] E0 (tCons (tCall (spPot K) [] E0 (tCons (tVar 0) (tCons (tVar 1) tNil))) tNil)) rfl nd
      (pi_range1 (by rfl) T.b_range (pa_cons (pe_b (call_max2 rfl) T.b_max (pa_cons pe_int (pa_cons (pe_b (call_min2 rfl) T.b_min (pa_cons pe_int (pa_cons (pe_b call_len_seq T.b_len (pa_cons (pv 0) pa_nil)) pa_nil))) pa_nil))) pa_nil)) (blkOk_by (N := ["_law_script", "_law_k"]) (sc := defScope s_law) (by decide +kernel))
      (fun _ _ _ _ _ => pg_name (i := 1) nd rfl (Or.inl rfl)) (fun _ _ _ _ _ => pts_nil) (fun _ _ _ _ _ => pe_f (ok_law_right T) T.g_law_right (hr.mono (by decide)) (pa_cons (pe_f (ok_law_pot T) T.g_law_pot (hr.mono (by decide)) (pa_cons (pv 0) (pa_cons (pv 1) pa_nil))) pa_nil))) pa_nil))), ?_⟩
    obtain ⟨m, em⟩ : ∃ m : Int, m = (if ((xs.map V.int).length : Int) < 2 then ((xs.map V.int).length : Int) else 2) := ⟨_, rfl⟩
    have m2 : m ≤ 2 := by rw [em]; split <;> omega
    obtain ⟨c, ec⟩ : ∃ c : Int, c = (if m > 1 then m else 1) := ⟨_, rfl⟩
    have c2 : c ≤ 2 := by rw [ec]; split <;> omega
    have c1 : 1 ≤ c := by rw [ec]; split <;> omega
    refine ⟨_, rfl, sc, _, rfl, .inl (hsc), _, _, rfl, ?_⟩
    rw [← em]
    refine ⟨_, _, rfl, ?_⟩
    rw [← ec]
    refine ⟨c, rfl, by omega, by omega, fun D hD => ?_⟩
    refine lc_rp (β := Bool) walk_range (List.replicate c.toNat true) (by simp) (by omega) (fun _ => False) hD (fun _ _ => trivial) yFn_same (fun j b y H4 H3 K1 hb s2 hex hy k1 => ?_) (fun H2 acc s2 hacc r => ?_)
    · obtain ⟨rfl, rfl⟩ := hy
      have eb : b = true := List.eq_of_mem_replicate (List.mem_of_getElem? hb)
      subst eb
      have hj : j < c.toNat := by
        have := (List.getElem?_eq_some_iff.mp hb).1
        rwa [List.length_replicate] at this
      refine ⟨wipe1 _ _ _, _, rfl, _, rfl, sc, xs, j, ?_, hsc.ext s2, by omega, fun p H5 s5 hp0 hp5 => ⟨p, rfl, hp5, fun H6 s6 => k1 _ _ (fun a o e => s6 _ _ (fun z => ?_) (s5 _ _ e)) rfl⟩⟩
      · show [V.ref sc, V.int (0 + (j : Int))] = [V.ref sc, V.int (j : Int)]
        rw [Int.zero_add]
      · rw [show a = p from z, hp0] at e
        cases e
    · refine ⟨D, _, rfl, .of (by rw [← bls_of r]; exact hacc), ?_⟩
      rw [show (List.replicate c.toNat true).all id = true by simp]
      exact k _
end
end Net
namespace Net
open PySem PySem.Spec PyProof.Rows L2
theorem facts {P : Program} {w : World} {K : PySem.W.Frag} {h : Heap} {mg : Str → Option Value} {f : Addr} (X : K.In h) (G : h.Ns mainGlobals mg) (hfa : mg ("law" : Str) = some (.ref f)) (c : SaysN K) :
    ∃ fd : FuncData, (∀ (s : Shared) (v : Value), BindsTo s fd ⟨[v], []⟩ [("_law_script", v)]) ∧ ∀ base : Heap, K.In base → base.Ns mainGlobals mg → FnOk P w K mg base CX0 13 f fd ["_law_script"] (spLaw K) := by
  have T : NT K mg := ⟨c, h, X, G⟩
  obtain ⟨fd, F⟩ := T.D_law
  have e := hfa.symm.trans T.g_law
  cases e
  have b := FunD.bindsA (ps := ["_law_script"]) F fun _ _ _ _ _ _ us hl => match us, hl with | [_], _ => rfl
  exact ⟨fd, fun s v => b s [v] rfl, fun base _ _ => ok_law T F⟩
end Net
open PySem PySem.W PySem.Calls PyProof.Rows
theorem PySem.Challenge.cw_netkeep_k94_whole_logs_run_again_holds : PySem.Challenge.rw_netkeep_k94_whole_logs_run_again.Holds := by
  w_on; o_law
  refine HandSHeadRun.head_any (r := OpenLaw.row PySem.Challenge.rw_netkeep_k94_whole_logs_run_again) (q := view (OpenLaw.row PySem.Challenge.rw_netkeep_k94_whole_logs_run_again).prog [96]) (H := Net.hk) (ob := Net.ob) (M := 15000) (loose := Net.names) (d := HandSHeadRun.topDef (OpenLaw.row PySem.Challenge.rw_netkeep_k94_whole_logs_run_again).prog 96) (kwd := []) Net.ob_eq
    (by kernel_rfl) (fun s => by kernel_rfl) Net.run (by kernel_rfl) (by kernel_rfl) (by kernel_rfl) (by rfl) (by first | assumption | decide +kernel) (by decide +kernel) ⟨rfl, rfl, rfl, rfl, rfl, by decide +kernel⟩ ?hw ?hc
  case hw => w_witness2
  case hc =>
    refine L2.walk_ofE (l := PySem.Challenge.rw_netkeep_k94_whole_logs_run_again) (n := 63) (k := 13) (x := "_law_script") (CX := L2.CX0) rfl (by decide) (by kernel_rfl) ⟨rfl, by decide, by decide⟩ ?F (fun _ _ _ _ z => z)
    intro w mg fa h Y G hmg0
    obtain ⟨K, KX, c⟩ := Y
    have hmg : mg ("law" : PySem.Str) = some (.ref fa) := by
      have e : (HandSHeadRun.topDef (OpenLaw.row PySem.Challenge.rw_netkeep_k94_whole_logs_run_again).prog 96).name = ("law" : PySem.Str) := by kernel_rfl
      rw [← e]
      exact hmg0
    obtain ⟨fd, hb, hF⟩ := Net.facts (P := (PySem.Challenge.rw_netkeep_k94_whole_logs_run_again).prog) (w := w) KX G hmg c
    exact ⟨K, fd, Net.spLaw K, KX, hb, fun H a ns hl _ hS => ⟨a, ns, rfl, hS, fun _ => rfl⟩, hF⟩
