import PyProof.Rows.All
import Wide.All
import OpenK.AllK
import Wide.FinOn
import HandS.HeadHook1
import HandS.HeadHook2
import HandS.HeadHook3
import HandS.ForMost
import HandS.Head2
import HandS.HeadHook4
import HandS.HeadWalk
import HandS.IsInst
import HandS.Property
import HandS.FStr
import HandS.Star
import HandS.ClsMeth
import HandS.OwnEq
import PyProof.InstNe
import KE.KOpsOwn
import KE.KFmtOwn
import KE.GoesNew
import KE.GoesMore
import KE.GoesEnum
import HandS.Walk
import HandS.SetFor
import HandS.Replace
import HandS.DictComp
import HandS.Style
import HandS.Conv
import HandS.TupAny
import HandS.SortInts
import HandS.WideBits
import PyProof.Rows.StrLawsPart
import PyProof.StrLawsIn
import HandS.Strs
import HandS.TupSets
import HandS.SortRule
import KE.KDictZip
import PyProof.ListNew
import PyProof.SumAny
import PyProof.ReprBulk
import HandS.HeadEnd
import PySem.Challenge.RW_ringdepth_k51_whole_ranked_told
-- T0a
set_option Elab.async false
set_option linter.all false
set_option maxRecDepth 100000
set_option maxHeartbeats 4000000
/-! T0: the text of the row, and what the top has left -/
namespace RK
open PySem PySem.Spec PyProof.Rows L2

def topS (i : Nat) : Stmt := PySem.Challenge.pw_ringdepth_k51_whole_ranked_told.main.body.getD i (.Pass ⟨0, 0, 0, 0⟩)
inductive Pl where
  | g (x : Str) | m (C m : Str) | p (C m : Str)
def pgA (K : PySem.W.Frag) (C m : Str) : Addr := match PySem.W.recIn K (He.ma K (He.ga K C) m) "property" with
  | some (.ref g :: _) => g
  | _ => 0
def plA (K : PySem.W.Frag) : Pl → Addr
  | .g x => He.ga K x
  | .m C m => He.ma K (He.ga K C) m
  | .p C m => pgA K C m
structure DD where
  at_ : Pl
  name : Str
  qual : Str
  st : Stmt
def DD.val (d : DD) : He.FnW := some (d.name, d.qual, defArgs d.st, .stmts (defBody d.st), defScope d.st, mainGlobals, [], builtinsNs)
def fnWA (K : PySem.W.Frag) (a : Addr) : He.FnW := match K.lookup a with
  | some ⟨_, _, .func fd, _⟩ => some (fd.name, fd.qualname, fd.params, fd.body, fd.scope, fd.globals, fd.closure, fd.builtins)
  | _ => none
def noneB (v : Value) : Bool := match v with
  | .none => true
  | _ => false
def DD.ok (K : PySem.W.Frag) (d : DD) : Bool := PySem.W.keepIn K (.ref (plA K d.at_)) && (match K.lookup (plA K d.at_) with
  | some ⟨_, _, .func fd, _⟩ => PySem.W.codeIn K fd.code d.qual && noneB fd.defaults
  | _ => false)
abbrev s_is_integer : Stmt := topS 17
abbrev s_is_count : Stmt := topS 18
abbrev s_is_list : Stmt := topS 19
abbrev s_is_text : Stmt := topS 20
abbrev s_are_letters : Stmt := topS 21
abbrev s_is_place_of : Stmt := topS 22
abbrev s_want_place : Stmt := topS 23
abbrev s_rising : Stmt := topS 25
abbrev s_root_of : Stmt := topS 26
abbrev s_plain_of : Stmt := topS 27
abbrev s_is_row : Stmt := topS 31
abbrev s_want_rows : Stmt := topS 32
abbrev s_want_letter : Stmt := topS 37
abbrev s_want_word : Stmt := topS 39
abbrev s_goals_by_place : Stmt := topS 41
abbrev s_left_behind : Stmt := topS 42
abbrev s_left_in_order : Stmt := topS 43
abbrev s_joined_parts : Stmt := topS 46
abbrev s_links_within : Stmt := topS 47
abbrev s_parts : Stmt := topS 48
abbrev s_is_rank_row : Stmt := topS 50
abbrev s_want_ranks : Stmt := topS 51
abbrev s_walked : Stmt := topS 52
abbrev s_kept_steps : Stmt := topS 53
abbrev s_links_of : Stmt := topS 55
abbrev s_Word___init : Stmt := inClass (topS 29) 1
abbrev s_Word_begin : Stmt := inClass (topS 29) 3
abbrev s_Word_lap : Stmt := inClass (topS 29) 4
abbrev s_Word_coming : Stmt := inClass (topS 29) 14
abbrev s_Machine___init : Stmt := inClass (topS 36) 1
abbrev s_Machine_letters : Stmt := inClass (topS 36) 3
abbrev s_Machine___len : Stmt := inClass (topS 36) 13
abbrev s_Machine___eq : Stmt := inClass (topS 36) 16
abbrev s_Machine___repr : Stmt := inClass (topS 36) 17
abbrev s_Ranked___init : Stmt := inClass (topS 54) 1
abbrev s_Ranked_machine : Stmt := inClass (topS 54) 2
abbrev s_Ranked_letters : Stmt := inClass (topS 54) 3
abbrev s_Ranked_ranks : Stmt := inClass (topS 54) 4
abbrev s_Ranked_rank : Stmt := inClass (topS 54) 5
abbrev s_Ranked_greatest : Stmt := inClass (topS 54) 6
abbrev s_Ranked_used : Stmt := inClass (topS 54) 7
abbrev s_Ranked___call : Stmt := inClass (topS 54) 8
abbrev s_Ranked___invert : Stmt := inClass (topS 54) 9
abbrev s_Ranked___eq : Stmt := inClass (topS 54) 10
abbrev s_Ranked___repr : Stmt := inClass (topS 54) 11
abbrev s_law_pot : Stmt := topS 57
abbrev s_law_draw : Stmt := topS 58
abbrev s_law_pick : Stmt := topS 59
abbrev s_law_met : Stmt := topS 60
abbrev s_law_turned : Stmt := topS 61
abbrev s_law_net : Stmt := topS 62
abbrev s_law_flood : Stmt := topS 63
abbrev s_law_marks : Stmt := topS 66
abbrev s_law_behind : Stmt := topS 67
abbrev s_law_top_by : Stmt := topS 68
abbrev s_law_is_even : Stmt := topS 69
abbrev s_law_term : Stmt := topS 70
abbrev s_law_used : Stmt := topS 71
abbrev s_law_told_so : Stmt := topS 72
abbrev s_law_words_right : Stmt := topS 73
abbrev s_law_is : Stmt := topS 74
abbrev s_law_equal_right : Stmt := topS 75
abbrev s_law_about_right : Stmt := topS 76
abbrev s_law_great_right : Stmt := topS 77
abbrev s_law_right : Stmt := topS 78
abbrev s_law : Stmt := topS 79
abbrev s_met_from_machines : Stmt := topS 33
abbrev s_met_from_rings : Stmt := topS 44
def ddR : List DD := [⟨.g "is_integer", "is_integer", "is_integer", s_is_integer⟩,
  ⟨.g "is_count", "is_count", "is_count", s_is_count⟩,
  ⟨.g "is_list", "is_list", "is_list", s_is_list⟩,
  ⟨.g "is_text", "is_text", "is_text", s_is_text⟩,
  ⟨.g "are_letters", "are_letters", "are_letters", s_are_letters⟩,
  ⟨.g "is_place_of", "is_place_of", "is_place_of", s_is_place_of⟩,
  ⟨.g "want_place", "want_place", "want_place", s_want_place⟩,
  ⟨.g "rising", "rising", "rising", s_rising⟩,
  ⟨.g "root_of", "root_of", "root_of", s_root_of⟩,
  ⟨.g "plain_of", "plain_of", "plain_of", s_plain_of⟩,
  ⟨.g "is_row", "is_row", "is_row", s_is_row⟩,
  ⟨.g "want_rows", "want_rows", "want_rows", s_want_rows⟩,
  ⟨.g "want_letter", "want_letter", "want_letter", s_want_letter⟩,
  ⟨.g "want_word", "want_word", "want_word", s_want_word⟩,
  ⟨.g "goals_by_place", "goals_by_place", "goals_by_place", s_goals_by_place⟩,
  ⟨.g "left_behind", "left_behind", "left_behind", s_left_behind⟩,
  ⟨.g "left_in_order", "left_in_order", "left_in_order", s_left_in_order⟩,
  ⟨.g "joined_parts", "joined_parts", "joined_parts", s_joined_parts⟩,
  ⟨.g "links_within", "links_within", "links_within", s_links_within⟩,
  ⟨.g "parts", "parts", "parts", s_parts⟩,
  ⟨.g "is_rank_row", "is_rank_row", "is_rank_row", s_is_rank_row⟩,
  ⟨.g "want_ranks", "want_ranks", "want_ranks", s_want_ranks⟩,
  ⟨.g "walked", "walked", "walked", s_walked⟩,
  ⟨.g "kept_steps", "kept_steps", "kept_steps", s_kept_steps⟩,
  ⟨.g "links_of", "links_of", "links_of", s_links_of⟩,
  ⟨.m "Word" "__init__", "__init__", "Word.__init__", s_Word___init⟩,
  ⟨.p "Word" "begin", "begin", "Word.begin", s_Word_begin⟩,
  ⟨.p "Word" "lap", "lap", "Word.lap", s_Word_lap⟩,
  ⟨.m "Word" "coming", "coming", "Word.coming", s_Word_coming⟩,
  ⟨.m "Machine" "__init__", "__init__", "Machine.__init__", s_Machine___init⟩,
  ⟨.p "Machine" "letters", "letters", "Machine.letters", s_Machine_letters⟩,
  ⟨.m "Machine" "__len__", "__len__", "Machine.__len__", s_Machine___len⟩,
  ⟨.m "Machine" "__eq__", "__eq__", "Machine.__eq__", s_Machine___eq⟩,
  ⟨.m "Machine" "__repr__", "__repr__", "Machine.__repr__", s_Machine___repr⟩,
  ⟨.m "Ranked" "__init__", "__init__", "Ranked.__init__", s_Ranked___init⟩,
  ⟨.p "Ranked" "machine", "machine", "Ranked.machine", s_Ranked_machine⟩,
  ⟨.p "Ranked" "letters", "letters", "Ranked.letters", s_Ranked_letters⟩,
  ⟨.m "Ranked" "ranks", "ranks", "Ranked.ranks", s_Ranked_ranks⟩,
  ⟨.m "Ranked" "rank", "rank", "Ranked.rank", s_Ranked_rank⟩,
  ⟨.m "Ranked" "greatest", "greatest", "Ranked.greatest", s_Ranked_greatest⟩,
  ⟨.m "Ranked" "used", "used", "Ranked.used", s_Ranked_used⟩,
  ⟨.m "Ranked" "__call__", "__call__", "Ranked.__call__", s_Ranked___call⟩,
  ⟨.m "Ranked" "__invert__", "__invert__", "Ranked.__invert__", s_Ranked___invert⟩,
  ⟨.m "Ranked" "__eq__", "__eq__", "Ranked.__eq__", s_Ranked___eq⟩,
  ⟨.m "Ranked" "__repr__", "__repr__", "Ranked.__repr__", s_Ranked___repr⟩,
  ⟨.g "_law_pot", "_law_pot", "_law_pot", s_law_pot⟩,
  ⟨.g "_law_draw", "_law_draw", "_law_draw", s_law_draw⟩,
  ⟨.g "_law_pick", "_law_pick", "_law_pick", s_law_pick⟩,
  ⟨.g "_law_met", "_law_met", "_law_met", s_law_met⟩,
  ⟨.g "_law_turned", "_law_turned", "_law_turned", s_law_turned⟩,
  ⟨.g "_law_net", "_law_net", "_law_net", s_law_net⟩,
  ⟨.g "_law_flood", "_law_flood", "_law_flood", s_law_flood⟩,
  ⟨.g "_law_marks", "_law_marks", "_law_marks", s_law_marks⟩,
  ⟨.g "_law_behind", "_law_behind", "_law_behind", s_law_behind⟩,
  ⟨.g "_law_top_by", "_law_top_by", "_law_top_by", s_law_top_by⟩,
  ⟨.g "_law_is_even", "_law_is_even", "_law_is_even", s_law_is_even⟩,
  ⟨.g "_law_term", "_law_term", "_law_term", s_law_term⟩,
  ⟨.g "_law_used", "_law_used", "_law_used", s_law_used⟩,
  ⟨.g "_law_told_so", "_law_told_so", "_law_told_so", s_law_told_so⟩,
  ⟨.g "_law_words_right", "_law_words_right", "_law_words_right", s_law_words_right⟩,
  ⟨.g "_law_is", "_law_is", "_law_is", s_law_is⟩,
  ⟨.g "_law_equal_right", "_law_equal_right", "_law_equal_right", s_law_equal_right⟩,
  ⟨.g "_law_about_right", "_law_about_right", "_law_about_right", s_law_about_right⟩,
  ⟨.g "_law_great_right", "_law_great_right", "_law_great_right", s_law_great_right⟩,
  ⟨.g "_law_right", "_law_right", "_law_right", s_law_right⟩,
  ⟨.g "law", "law", "law", s_law⟩,
  ⟨.g "met_from_machines", "met_from", "met_from", s_met_from_machines⟩,
  ⟨.g "met_from_rings", "met_from", "met_from", s_met_from_rings⟩]
def faR : List He.Fa := [.glo "is_integer",
  .glo "is_count",
  .glo "is_list",
  .glo "is_text",
  .glo "are_letters",
  .glo "is_place_of",
  .glo "want_place",
  .glo "rising",
  .glo "root_of",
  .glo "plain_of",
  .glo "is_row",
  .glo "want_rows",
  .glo "want_letter",
  .glo "want_word",
  .glo "goals_by_place",
  .glo "left_behind",
  .glo "left_in_order",
  .glo "joined_parts",
  .glo "links_within",
  .glo "parts",
  .glo "is_rank_row",
  .glo "want_ranks",
  .glo "walked",
  .glo "kept_steps",
  .glo "links_of",
  .glo "_law_pot",
  .glo "_law_draw",
  .glo "_law_pick",
  .glo "_law_met",
  .glo "_law_turned",
  .glo "_law_net",
  .glo "_law_flood",
  .glo "_law_marks",
  .glo "_law_behind",
  .glo "_law_top_by",
  .glo "_law_is_even",
  .glo "_law_term",
  .glo "_law_used",
  .glo "_law_told_so",
  .glo "_law_words_right",
  .glo "_law_is",
  .glo "_law_equal_right",
  .glo "_law_about_right",
  .glo "_law_great_right",
  .glo "_law_right",
  .glo "law",
  .glo "met_from_machines",
  .glo "met_from_rings",
  .glo "Word",
  .glo "Machine",
  .glo "Ranked",
  .free "isinstance",
  .free "int",
  .free "bool",
  .free "list",
  .free "tuple",
  .free "str",
  .free "all",
  .free "len",
  .free "zip",
  .free "range",
  .free "max",
  .free "min",
  .free "enumerate",
  .free "sorted",
  .free "set",
  .free "any",
  .free "repr",
  .free "abs",
  .free "divmod",
  .free "sum",
  .cls "Word",
  .noat "Word" "own_begin",
  .noat "Word" "own_lap",
  .meth "Word" "coming",
  .mkr "Word",
  .cls "Machine",
  .noat "Machine" "own_letters",
  .noat "Machine" "own_rows",
  .meth "Machine" "__len__",
  .meth "Machine" "__eq__",
  .meth "Machine" "__repr__",
  .mkr "Machine",
  .cls "Ranked",
  .noat "Ranked" "own_machine",
  .noat "Ranked" "own_letters",
  .noat "Ranked" "own_ranks",
  .meth "Ranked" "ranks",
  .meth "Ranked" "rank",
  .meth "Ranked" "greatest",
  .meth "Ranked" "used",
  .meth "Ranked" "__call__",
  .meth "Ranked" "__invert__",
  .meth "Ranked" "__eq__",
  .meth "Ranked" "__repr__",
  .mkr "Ranked",
  .str "SMALL" "abcdefghijklmnopqrstuvwxyz",
  .int "MOST_LETTERS" 3]

def clsIntB (K : PySem.W.Frag) (C : Addr) (f : Str) (n : Int) : Bool := match PySem.W.findCls K (.ref C) (.type "type") f with
  | some (.val (.int i _)) => decide (i = n)
  | _ => false
def propB (K : PySem.W.Frag) (C m : Str) : Bool := He.eqO (PySem.W.findIn K (.ref (He.ga K C)) m) (some (some (.ref (He.ma K (He.ga K C) m)))) &&
  (He.eqO (PySem.W.specialIn K (.ref (He.ma K (He.ga K C) m)) "__get__") (some (some (.builtin "property.__get__"))) && (decide (PySem.W.takesIn K (.ref (He.ma K (He.ga K C) m)) = some true) &&
  (match PySem.W.recIn K (He.ma K (He.ga K C) m) "property" with
    | some (.ref _ :: _) => true
    | _ => false)))
def e_ot1_Word (K : PySem.W.Frag) : Bool := He.eqO (PySem.W.findIn K (.ref (He.ga K "Word")) "__class__") (some (some (.builtin "object.__class__")))
def e_ot2_Word (K : PySem.W.Frag) : Bool := decide (PySem.W.mroIn K (He.ga K "Word") (.type "object") = some true)
def e_cr1_Word (K : PySem.W.Frag) : Bool := PySem.W.readsIn K (He.ga K "Word") (.type "type")
def e_cr2_Word (K : PySem.W.Frag) : Bool := He.eqO (PySem.W.specialIn K (.ref (He.ga K "Word")) "__getattribute__") (some (some (.builtin "type.__getattribute__")))
def e_cv_Word (K : PySem.W.Frag) : Bool := clsIntB K (He.ga K "Word") "MOST_LETTERS" 8000
def e_ot1_Machine (K : PySem.W.Frag) : Bool := He.eqO (PySem.W.findIn K (.ref (He.ga K "Machine")) "__class__") (some (some (.builtin "object.__class__")))
def e_ot2_Machine (K : PySem.W.Frag) : Bool := decide (PySem.W.mroIn K (He.ga K "Machine") (.type "object") = some true)
def e_cr1_Machine (K : PySem.W.Frag) : Bool := PySem.W.readsIn K (He.ga K "Machine") (.type "type")
def e_cr2_Machine (K : PySem.W.Frag) : Bool := He.eqO (PySem.W.specialIn K (.ref (He.ga K "Machine")) "__getattribute__") (some (some (.builtin "type.__getattribute__")))
def e_cv_Machine (K : PySem.W.Frag) : Bool := clsIntB K (He.ga K "Machine") "MOST_PLACES" 120
def e_ot1_Ranked (K : PySem.W.Frag) : Bool := He.eqO (PySem.W.findIn K (.ref (He.ga K "Ranked")) "__class__") (some (some (.builtin "object.__class__")))
def e_ot2_Ranked (K : PySem.W.Frag) : Bool := decide (PySem.W.mroIn K (He.ga K "Ranked") (.type "object") = some true)
def e_cr1_Ranked (K : PySem.W.Frag) : Bool := PySem.W.readsIn K (He.ga K "Ranked") (.type "type")
def e_cr2_Ranked (K : PySem.W.Frag) : Bool := He.eqO (PySem.W.specialIn K (.ref (He.ga K "Ranked")) "__getattribute__") (some (some (.builtin "type.__getattribute__")))
def e_cv_Ranked (K : PySem.W.Frag) : Bool := clsIntB K (He.ga K "Ranked") "MOST_RANK" 12
def e_ot3 (K : PySem.W.Frag) : Bool := He.eqO (PySem.W.specialIn K (.builtin "object.__class__") "__get__") (some (some (.builtin "getset_descriptor.__get__")))
def e_ot4 (K : PySem.W.Frag) : Bool := decide (PySem.W.takesIn K (.builtin "object.__class__") = some true)
def e_pp_Machine_letters (K : PySem.W.Frag) : Bool := propB K "Machine" "letters"
def e_pp_Ranked_letters (K : PySem.W.Frag) : Bool := propB K "Ranked" "letters"
def e_pp_Ranked_machine (K : PySem.W.Frag) : Bool := propB K "Ranked" "machine"
def e_pp_Word_begin (K : PySem.W.Frag) : Bool := propB K "Word" "begin"
def e_pp_Word_lap (K : PySem.W.Frag) : Bool := propB K "Word" "lap"
def e_ne_Machine (K : PySem.W.Frag) : Bool := He.eqO (PySem.W.findIn K (.ref (He.ga K "Machine")) "__ne__") (some (some (.builtin "object.__ne__")))
def e_ne_Ranked (K : PySem.W.Frag) : Bool := He.eqO (PySem.W.findIn K (.ref (He.ga K "Ranked")) "__ne__") (some (some (.builtin "object.__ne__")))
def e_con (K : PySem.W.Frag) : Bool := He.conB K "Ranked" "MOST_RANK" (.int 12)
def e_fc (K : PySem.W.Frag) : Bool := PySem.W.fnIn K (He.ma K (He.ga K "Ranked") "__call__")
def e_kit_ww (K : PySem.W.Frag) : Bool := decide (PySem.W.kitOne K (.ref (He.ga K "Word")) (.ref (He.ga K "Word")) = some true)
def e_kit_mm (K : PySem.W.Frag) : Bool := decide (PySem.W.kitOne K (.ref (He.ga K "Machine")) (.ref (He.ga K "Machine")) = some true)
def e_kit_rr (K : PySem.W.Frag) : Bool := decide (PySem.W.kitOne K (.ref (He.ga K "Ranked")) (.ref (He.ga K "Ranked")) = some true)
def e_kit_mr (K : PySem.W.Frag) : Bool := decide (PySem.W.kitOne K (.ref (He.ga K "Machine")) (.ref (He.ga K "Ranked")) = some false)
def e_kit_NoneType (K : PySem.W.Frag) : Bool := decide (PySem.W.kitOne K (.type "NoneType") (.ref (He.ga K "Ranked")) = some false)
def e_kit_int (K : PySem.W.Frag) : Bool := decide (PySem.W.kitOne K (.type "int") (.ref (He.ga K "Ranked")) = some false)
def e_kit_str (K : PySem.W.Frag) : Bool := decide (PySem.W.kitOne K (.type "str") (.ref (He.ga K "Ranked")) = some false)
def e_kit_list (K : PySem.W.Frag) : Bool := decide (PySem.W.kitOne K (.type "list") (.ref (He.ga K "Ranked")) = some false)
def e_kit_tuple (K : PySem.W.Frag) : Bool := decide (PySem.W.kitOne K (.type "tuple") (.ref (He.ga K "Ranked")) = some false)
def e_nf_mm (K : PySem.W.Frag) : Bool := PySem.W.notFirst K (He.ga K "Machine") (.ref (He.ga K "Machine"))
def e_nf_rr (K : PySem.W.Frag) : Bool := PySem.W.notFirst K (He.ga K "Ranked") (.ref (He.ga K "Ranked"))
def e_nf_mr (K : PySem.W.Frag) : Bool := PySem.W.notFirst K (He.ga K "Ranked") (.ref (He.ga K "Machine"))
def e_nf_NoneType (K : PySem.W.Frag) : Bool := PySem.W.notFirst K (He.ga K "Ranked") (.type "NoneType")
def e_nf_int (K : PySem.W.Frag) : Bool := PySem.W.notFirst K (He.ga K "Ranked") (.type "int")
def e_nf_str (K : PySem.W.Frag) : Bool := PySem.W.notFirst K (He.ga K "Ranked") (.type "str")
def e_nf_list (K : PySem.W.Frag) : Bool := PySem.W.notFirst K (He.ga K "Ranked") (.type "list")
def e_nf_tuple (K : PySem.W.Frag) : Bool := PySem.W.notFirst K (He.ga K "Ranked") (.type "tuple")
def exR : List (PySem.W.Frag → Bool) := [e_ot1_Word, e_ot2_Word, e_cr1_Word, e_cr2_Word, e_cv_Word, e_ot1_Machine, e_ot2_Machine, e_cr1_Machine, e_cr2_Machine, e_cv_Machine, e_ot1_Ranked, e_ot2_Ranked, e_cr1_Ranked, e_cr2_Ranked, e_cv_Ranked, e_ot3, e_ot4, e_pp_Machine_letters, e_pp_Ranked_letters, e_pp_Ranked_machine, e_pp_Word_begin, e_pp_Word_lap, e_ne_Machine, e_ne_Ranked, e_con, e_fc, e_kit_ww, e_kit_mm, e_kit_rr, e_kit_mr, e_kit_NoneType, e_kit_int, e_kit_str, e_kit_list, e_kit_tuple, e_nf_mm, e_nf_rr, e_nf_mr, e_nf_NoneType, e_nf_int, e_nf_str, e_nf_list, e_nf_tuple]

/-- all that the head tells -/
def allB (K : PySem.W.Frag) : Bool := (faR.all fun f => f.ok K) && ((ddR.all fun d => d.ok K) && (exR.all fun f => f K))
def allF (K : PySem.W.Frag) : List He.FnW := ddR.map fun d => fnWA K (plA K d.at_)
def allV : List He.FnW := ddR.map DD.val
end RK
-- HeadD
set_option Elab.async false
set_option linter.all false
set_option maxRecDepth 100000
set_option maxHeartbeats 0
namespace RKH
open PySem PySem.Spec PyProof.Rows L2 RK
def names0 : List PySem.Str := ["_wall", "__name__", "WishError", "InvalidText", "InvalidLetters", "InvalidLetter", "InvalidNumber", "InvalidPlace", "InvalidWord", "InvalidMachine", "InvalidRows", "InvalidRanks", "LimitError", "TooMany", "SMALL", "MOST_LETTERS", "is_integer", "is_count", "is_list", "is_text", "are_letters", "is_place_of", "want_place", "rising", "root_of", "plain_of", "want_number", "Word"]
def names1 : List PySem.Str := ["is_row", "want_rows", "met_from", "met_from_machines", "rows_from", "Machine", "want_letter", "want_text", "want_word", "goals_by_place", "left_behind", "left_in_order", "met_from_rings", "joined_parts", "links_within", "parts", "is_rank_row", "want_ranks", "walked", "kept_steps", "Ranked", "links_of"]
def names2 : List PySem.Str := ["_law_pot", "_law_draw", "_law_pick", "_law_met", "_law_turned", "_law_net", "_law_flood", "_law_is_round", "_law_rings", "_law_marks", "_law_behind", "_law_top_by", "_law_is_even", "_law_term", "_law_used", "_law_told_so", "_law_words_right", "_law_is", "_law_equal_right", "_law_about_right", "_law_great_right", "_law_right"]
def allNames : List PySem.Str := names0 ++ names1 ++ names2
abbrev R : PySem.W.OpenRow := PySem.W.OpenLaw.row PySem.Challenge.rw_ringdepth_k51_whole_ranked_told
/-- the objects below n, off g -/
def kOf (n : Nat) (g : Addr → Option Obj) : PySem.W.Frag := He.frG g (List.range n).reverse
abbrev AlR : Type := Bool × List He.FnW
def obsR (n : Nat) (ex : PySem.W.Frag → Bool) (fn : PySem.W.Frag → List He.FnW) (g : Addr → Option Obj) : AlR := (fun K => (ex K, fn K)) (kOf n g)
def hookR (n : Nat) (ex : PySem.W.Frag → Bool) (fn : PySem.W.Frag → List He.FnW) (val : List He.FnW) : PySem.W.Hook where
  α := AlR
  obs := fun s => obsR n ex fn s.heap.get?
  val := fun _ => (true, val)
  says := fun _ h => ∃ K : PySem.W.Frag, K.In h ∧ ex K = true ∧ fn K = val
  of := fun _ s e => ⟨kOf n s.heap.get?, He.frG_in, congrArg (fun z : AlR => z.1) e, congrArg (fun z : AlR => z.2) e⟩
  keeps := fun _ _ _ ⟨K, hK, c⟩ k => ⟨K, PySem.W.Frag.In.keeps hK k, c⟩
theorem obsR_eq {n : Nat} {ex : PySem.W.Frag → Bool} {fn : PySem.W.Frag → List He.FnW} {val : List He.FnW} {g : Addr → Option Obj} {s : Shared} (h : ∀ a, g a = s.heap.get? a) : obsR n ex fn g = (hookR n ex fn val).obs s := by
  have e : g = s.heap.get? := funext h
  rw [e] <;> rfl
abbrev hk : PySem.W.Hook := hookR 1000 allB allF allV
def ob (s : PySem.W.SharedT) : AlR := obsR 1000 allB allF (HandSHeadRun.getT s)
theorem run (w : World) : HandSHeadRun.RunEq R (PySem.W.view R.prog [79]) hk ob 12000 allNames w := by
  intro os
  kernel_rfl
end RKH
-- G0
set_option Elab.async false
set_option linter.all false
set_option maxRecDepth 100000
set_option maxHeartbeats 4000000
/-! G0: defs whose callers hold no guard (FnG), their calls in all forms, and what an own class's special methods give -/
namespace RK
open PySem PySem.Spec PyProof.Rows L2

/-- room for k calls, and no guard of a repr around -/
structure RG (k : Nat) (A : Around) : Prop where
  r : Room k A
  g : A.guards = some []
theorem guards_deeper {A : Around} {env : Env} (h : A.guards = some []) : (A.deeper env).guards = some [] := by
  exact h
theorem guards_make {A : Around} {C : Addr} {us : List Value} {kw : List (Str × Value)} (h : A.guards = some []) : (A.under (.builtin "type.__call__" ⟨.ref C :: us, kw⟩)).guards = some [] := by
  simp [Around.under, Code.guards, Code.isGuard, guardIds, pushGuards, Code.frames, Code.isFrame, h]
theorem RG.mono {j k : Nat} {A : Around} (h : RG k A) (l : j ≤ k) : RG j A := ⟨h.r.mono l, h.g⟩
theorem RG.in1 {k : Nat} {A : Around} (h : RG (k + 1) A) : RG k A.in1 := ⟨h.r.in1, h.g⟩
theorem RG.deeper {k : Nat} {A : Around} (h : RG (k + 1) A) (env : Env) : RG k (A.deeper env) := ⟨h.r.deeper env, guards_deeper h.g⟩
theorem RG.make {k : Nat} {A : Around} (h : RG (k + 1) A) (C : Addr) (us : List Value) (kw : List (Str × Value)) : RG k (A.under (.builtin "type.__call__" ⟨.ref C :: us, kw⟩)) := ⟨h.r.make C us kw, guards_make h.g⟩
theorem RG.hu {k : Nat} {A : Around} (h : RG k A) : A.units + 1 < cLine := hu_of h.r
theorem RG.units {k : Nat} {A : Around} (h : RG k A) : A.units + 64 < cLine := h.r.units

abbrev Pr := List V → Hp → VK → Prop
structure FnG (P : Program) (w : World) (K : PySem.W.Frag) (mg : Str → Option Value) (base : Heap) (k : Nat) (f : Addr) (fd : FuncData) (ps : List Str) (sp : Pr) : Prop where
  len : ∀ vs H Q, sp vs H Q → vs.length = ps.length
  run : ∀ (A : Around) (outer : List Env) (s : Shared) (H : Hp) (args : Args) (us : List Value) (vs : List V) (Q : VK), RG k A → Env0 P w K mg base A outer s H → BindsTo s fd args (ps.zip us) → Vals vs us → sp vs H Q →
    codeAny (model P w) A (.call (.ref f) args) (CR CX0 outer P w H s Q E0) s
theorem FnG.mono {P : Program} {w : World} {K : PySem.W.Frag} {mg : Str → Option Value} {base : Heap} {j k : Nat} {f : Addr} {fd : FuncData} {ps : List Str} {sp : Pr} (F : FnG P w K mg base j f fd ps sp) (h : j ≤ k) :
    FnG P w K mg base k f fd ps sp := ⟨F.len, fun A outer s H args us vs Q hr => F.run A outer s H args us vs Q (hr.mono h)⟩

section
variable {P : Program} {w : World} {K : PySem.W.Frag} {mg : Str → Option Value} {base : Heap}
/-- THE RULE for a def -/
theorem okG {x qual : Str} {st : Stmt} {f : Addr} {fd : FuncData} {N ps : List Str} {k : Nat} {sp : Pr} (F : Fun K x qual st f fd) (S : FnScope N ps (defScope st)) (len : ∀ vs H Q, sp vs H Q → vs.length = ps.length)
    (hbody : ∀ (cdv : Value) (A : Around) (outer : List Env) (s : Shared) (H : Hp) (vs : List V) (Q : VK), RG k (A.deeper (envOfC qual (defScope st) s.heap.objs.size f cdv)) → sp vs H Q →
      ∃ t, PSs (cxOf CX0 P w K mg base N qual (defScope st) f cdv A outer s H E0).nox (defBody st) t ∧ t { nx := fun _ H' => Q .non H', rt := Q } (start N vs) H) : FnG P w K mg base (k + 1) f fd ps sp := by
  obtain ⟨oc, od, kV, doc, pm, an, cdv, ct, osl, rfl, lk, hcd⟩ := F.ex
  refine ⟨len, fun A outer s H args us vs Q hr e0 hb r hsp => ?_⟩
  have hl := len _ _ _ hsp
  have KX : K.In s.heap := e0.mod.kin.keeps fun b o e => (e0.bs b o e).1
  have lim : s.heap.NoLimit := e0.mod.nolimit.keeps fun b o e => (e0.bs b o e).1
  have hkind : ∀ y ∈ ps.zip us, (defScope st).names.lookup y.1 = some .local ∨ ((defScope st).names.lookup y.1 = some .cell ∧ ((cellsFrom (s.heap.objs.size + 1) (defScope st).names []).lookup y.1).isSome = true) := fun ⟨n, v⟩ hy => by
    rcases S.par n (List.of_mem_zip hy).1 with q | q
    · exact .inl q
    · exact .inr ⟨q, PySem.W.cellsFrom_some _ _ _ (.inl q)⟩
  refine codeAny_call_function hr.r.depth (KX _ _ lk) rfl S.co S.gen rfl (PySem.W.codeRec_of KX hcd) (hb _ _ _ _ ?_)
  refine wpAny_newFunctionEnv_cells S.kind hkind fun env he s1 x => ?_
  subst he
  refine ⟨lim.keeps x.toInCall.keep, codeAny_func ?_⟩
  obtain ⟨t, ht0, hq⟩ := hbody cdv A outer s H vs Q (hr.deeper _) hsp
  have ht := ht0.nox
  have I : Inv (cxOf CX0 P w K mg base N qual (defScope st) f cdv A outer s H E0) [] (start N vs) H s1 := inv_start S hr.r.hd e0 hl r x
  refine wpAny_mono (ht.run [] s1 (start N vs) H _ I hq) (fun fl s' hs => ?_) fun e s' hs => hs
  have fin : ∀ {σ' : L2.St} {H' : Hp} {v : V} {u : Value}, Inv (cxOf CX0 P w K mg base N qual (defScope st) f cdv A outer s H E0) [] σ' H' s' → RelV v u → Q v H' → CE outer P w H s Q u s' :=
    fun {σ' H' v u} J rv q => ⟨v, H', J.os, J.bare, J.base, J.hok, rv, q⟩
  cases fl with
  | ret u =>
    obtain ⟨v, σ', H', J, rv, q⟩ := hs
    exact fin J rv q
  | next =>
    obtain ⟨σ', H', J, q⟩ := hs
    exact fin (v := V.non) (u := Value.none) J rfl q
  | brk =>
    obtain ⟨_, _, _, q⟩ := hs
    exact False.elim q
  | cont =>
    obtain ⟨_, _, _, q⟩ := hs
    exact False.elim q
end

section
variable {X : Cx} {k j : Nat} {f C : Addr} {fd : FuncData} {ps : List Str} {sp : Pr} {x m : Str} {p pos apos : Pos} {e o : Expr} {es : List Expr} {ta : TE} {t : TA} {pins : List (Addr × Obj)} {σ : L2.St} {H : Hp} {s : Shared}
/-- the callee runs, anywhere below the running body -/
theorem run_at {A : Around} {Q : VK} {args : Args} {us : List Value} {vs : List V} (F : FnG X.prog X.w X.K X.mg X.base k f fd ps sp) (hr : RG k A) (hfr : A.frames = X.A.frames) (hb : BindsTo s fd args (ps.zip us))
    (I : Inv X pins σ H s) (r : Vals vs us) (h : sp vs H Q) : codeAny (model X.prog X.w) A (.call (.ref f) args) (callEnd (EP X pins σ Q) X.xe) s := by
  have e := I.env0
  have e0 : Env0 X.prog X.w X.K X.mg X.base A X.stack s H := ⟨by rw [hfr]; exact e.frames, e.mod, e.bs, e.bsz, e.funs, e.frf, e.hok, e.bare⟩
  refine codeAny_mono (F.run A X.stack s H args us vs Q hr e0 hb r h) fun r s' hq => ?_
  cases r with
  | error e => exact False.elim hq
  | ok fl =>
    cases fl with
    | ret u => exact I.after hq
    | next => exact False.elim hq
    | brk => exact False.elim hq
    | cont => exact False.elim hq
theorem run_fnG {Q : VK} {us : List Value} {vs : List V} (F : FnG X.prog X.w X.K X.mg X.base k f fd ps sp) (hr : RG k X.A) (hb : Binds X.K fd ps []) (I : Inv X pins σ H s) (r : Vals vs us) (h : sp vs H Q) :
    wpAny (model X.prog X.w) X.A (call (.ref f) us) (EP X pins σ Q) X.xe s := by
  have hl : us.length = ps.length := by rw [← r.length]; exact F.len _ _ _ h
  have b := hb s us I.kIn (by simpa using hl)
  rw [List.append_nil] at b
  exact wpAny_call (run_at F hr rfl b I r h)

/-- the keywords' values fill the parameters behind self from the right -/
def BindsR (fd : FuncData) (ps ks : List Str) : Prop := ∀ (s : Shared) (u : Value) (ws : List Value), ws.length = ks.length → BindsTo s fd ⟨[u], ks.zip ws⟩ (ps.zip (u :: ws.reverse))

theorem Vals.rev : ∀ {xs : List V} {us : List Value}, Vals xs us → Vals xs.reverse us.reverse
  | _, _, .nil => .nil
  | _, _, .cons r t => by
    rw [List.reverse_cons, List.reverse_cons]
    exact L2.Vals.append (Vals.rev t) (.cons r .nil)
/-! ### what a caller knows of a def, a method, a class -/
structure Df (P : Program) (w : World) (K : PySem.W.Frag) (mg : Str → Option Value) (base : Heap) (x : Str) (k : Nat) (ps : List Str) (sp : Pr) : Prop where
  ex : ∃ (f : Addr) (fd : FuncData), FnG P w K mg base k f fd ps sp ∧ mg x = some (.ref f) ∧ PySem.W.keepIn K (.ref f) = true ∧ Binds K fd ps []
/-- a method, also a special one -/
structure Dm (P : Program) (w : World) (K : PySem.W.Frag) (mg : Str → Option Value) (base : Heap) (C : Addr) (m : Str) (k : Nat) (ps : List Str) (sp : Pr) : Prop where
  ex : ∃ (f : Addr) (fd : FuncData), FnG P w K mg base k f fd ps sp ∧ Meth K C m f ∧ Binds K fd ps [] ∧ BindsR fd ps ps.tail.reverse
/-- a property -/
structure Dp0 (P : Program) (w : World) (K : PySem.W.Frag) (mg : Str → Option Value) (base : Heap) (C : Addr) (m : Str) (k : Nat) (ps : List Str) (sp : Pr) : Prop where
  ex : ∃ (p f : Addr) (fd : FuncData), FnG P w K mg base k f fd ps sp ∧ PropOf K C m p f ∧ Binds K fd ps []
/-- a class that makes instances by its __init__ -/
structure Dk (P : Program) (w : World) (K : PySem.W.Frag) (mg : Str → Option Value) (base : Heap) (x : Str) (C : Addr) (k : Nat) (ps : List Str) (sp : Pr) : Prop where
  ex : ∃ (f : Addr) (fd : FuncData), FnG P w K mg base k f fd ps sp ∧ Mk K C f ∧ mg x = some (.ref C) ∧ Binds K fd ps [] ∧ BindsR fd ps ps.tail.reverse
/-! ### calls -/
def tCl (sp : Pr) (t : TA) : TE := fun σ H Q => t σ H fun vs H1 => sp vs H1 Q
def tMt (C : Addr) (m : Str) (sp : Pr) (ta : TE) (t : TA) : TE := fun σ H Q => ta σ H fun x H1 => ∃ a dx fs, x = .ref a ∧ H1 a = some (.ins C dx fs) ∧ fs.lookup m = none ∧ t σ H1 fun vs H2 => sp (x :: vs) H2 Q
def tMk (C : Addr) (sp : Pr) (t : TA) : TE := fun σ H Q => t σ H fun vs H1 => ∀ x dx, H1 x = none → H1 dx = none → dx ≠ x →
  sp (.ref x :: vs) (upd (upd H1 dx (.own x)) x (.ins C dx [])) fun v H2 => v = .non ∧ Q (.ref x) H2
def tPp (C : Addr) (sp : Pr) (ta : TE) : TE := fun σ H Q => ta σ H fun x H1 => ∃ a dx fs, x = .ref a ∧ H1 a = some (.ins C dx fs) ∧ sp [.ref a] H1 Q
theorem pe_callD (D : Df X.prog X.w X.K X.mg X.base x k ps sp) (hr : RG j X.A) (ha : PA X (e :: es) t) (hkj : k ≤ j := by decide) (hg : Gl X x := by rfl) (hdb : (x == ("__debug__" : Str)) = false := by decide)
    (he : starEach (e :: es) X.env = (false, eval e X.env) :: starEach es X.env := by rfl) (hpl : (backTo pos (starEach es X.env)).any (·.1) = false := by rfl) : PE X (.Call (.Name x p) (e :: es) [] pos) (tCl sp t) := by
  obtain ⟨f, fd, F, hm, hk, hb⟩ := D.ex
  refine ⟨fun pins s σ H Q I h => ?_⟩
  refine wpAny_Call_Name_kw (ld_glob I hg hm ?_ hdb)
  exact PySem.W.callWith_K (h₀ := X.base) I.ok.mod.kin hk (thn (ha.run pos pins s σ H _ I h) fun us s1 ⟨vs, H1, I1, r, q⟩ => ⟨I1.kIn, run_fnG F (hr.mono hkj) hb I1 r q⟩) he hpl
theorem pe_methD {pl : Sem Bool} (c : Cls X.K C) (D : Dm X.prog X.w X.K X.mg X.base C m k ps sp) (hr : RG j X.A) (he : PE X o ta) (ha : PA X (e :: es) t) (hkj : k ≤ j := by decide)
    (hst : starEach (e :: es) X.env = (false, eval e X.env) :: starEach es X.env := by rfl) (hpl : (backTo pos (starEach es X.env)).any (·.1) = false := by rfl)
    (ht : eval (.Call (.Attribute o m apos) (e :: es) [] pos) X.env = (do
      let ov ← eval o X.env
      standAt apos.atName
      let (f, first) ← holding [ov] (getMethod ov m pl)
      callWith pos f first (backTo pos (starEach (e :: es) X.env)) (backToKw pos (keywordEach [] X.env))) := by rfl) :
    PE X (.Call (.Attribute o m apos) (e :: es) [] pos) (tMt C m sp ta t) := by
  obtain ⟨f, fd, F, hm, hb, _⟩ := D.ex
  refine ⟨fun pins s σ H Q I h => ?_⟩
  refine PySem.W.methodCall_KW (pl := pl) (thn (he.run pins s σ H _ I h) fun u s1 ⟨x, H1, I1, rx, a, dx, fs, ex, ea, l, q⟩ => ?_) ht
  subst ex
  obtain rfl : u = Value.ref a := rx
  refine getmeth_ok I1 ea c hm l ?_
  exact PySem.W.callWith_K (first := [.ref a]) (h₀ := X.base) I.ok.mod.kin hm.kp (thn (ha.run pos pins s1 σ H1 _ I1 q) fun us s2 ⟨vs, H2, I2, r, q2⟩ =>
    ⟨I2.kIn, run_fnG (us := .ref a :: us) (vs := .ref a :: vs) F (hr.mono hkj) hb I2 (.cons rfl r) q2⟩) hst hpl
theorem pe_methD0 {pl : Sem Bool} (c : Cls X.K C) (D : Dm X.prog X.w X.K X.mg X.base C m k ps sp) (hr : RG j X.A) (he : PE X o ta) (hkj : k ≤ j := by decide)
    (ht : eval (.Call (.Attribute o m apos) [] [] pos) X.env = (do
      let ov ← eval o X.env
      standAt apos.atName
      let (f, first) ← holding [ov] (getMethod ov m pl)
      callWith pos f first (backTo pos (starEach [] X.env)) (backToKw pos (keywordEach [] X.env))) := by rfl) :
    PE X (.Call (.Attribute o m apos) [] [] pos) (tMt C m sp ta tNil) := by
  obtain ⟨f, fd, F, hm, hb, _⟩ := D.ex
  refine ⟨fun pins s σ H Q I h => ?_⟩
  refine PySem.W.methodCall_KW (pl := pl) (thn (he.run pins s σ H _ I h) fun u s1 ⟨x, H1, I1, rx, a, dx, fs, ex, ea, l, q⟩ => ?_) ht
  subst ex
  obtain rfl : u = Value.ref a := rx
  refine getmeth_ok I1 ea c hm l ?_
  exact PySem.W.callWith_K0 (first := [.ref a]) I1.kIn hm.kp (run_fnG (us := [.ref a]) (vs := [.ref a]) F (hr.mono hkj) hb I1 (.cons rfl .nil) q)
/-- C(e, ..) -/
theorem run_mkG {Q : VK} {us : List Value} {kw : List (Str × Value)} {vs2 : List V} {us2 : List Value} (M : Mk X.K C f) (F : FnG X.prog X.w X.K X.mg X.base k f fd ps sp) (hr : RG (k + 1) X.A)
    (hb : ∀ (s : Shared) (u : Value), X.K.In s.heap → us2.length + 1 = ps.length → BindsTo s fd ⟨u :: us, kw⟩ (ps.zip (u :: us2)))
    (I : Inv X pins σ H s) (r2 : Vals vs2 us2) (h : ∀ x dx, H x = none → H dx = none → dx ≠ x → sp (.ref x :: vs2) (upd (upd H dx (.own x)) x (.ins C dx [])) fun v H2 => v = .non ∧ Q (.ref x) H2) :
    wpAny (model X.prog X.w) X.A (call (.ref C) us kw) (EP X pins σ Q) X.xe s := by
  have hq := h (s.heap.objs.size + 1) s.heap.objs.size (I.hok.fresh (Nat.le_succ _)) (I.hok.fresh (Nat.le_refl _)) (Nat.ne_of_lt (Nat.lt_succ_self _))
  have I2 := Inv.made (C := C) I
  have r3 : Vals (V.ref (s.heap.objs.size + 1) :: vs2) (Value.ref (s.heap.objs.size + 1) :: us2) := .cons rfl r2
  have hl : us2.length + 1 = ps.length := by
    have e := r3.length
    rw [F.len _ _ _ hq] at e
    exact e.symm
  refine wpAny_call (make_map (f := f) I.kIn M.makes M.init (beq_iff_eq.mp M.fn) (codeAny_mono (F.run _ X.stack _ _ ⟨Value.ref (s.heap.objs.size + 1) :: us, kw⟩ (Value.ref (s.heap.objs.size + 1) :: us2) _ _ (hr.make C us kw)
    (I2.env0.make C us kw) (hb _ (Value.ref (s.heap.objs.size + 1)) I2.kIn hl) r3 hq) fun r s' hq' => ?_))
  cases r with
  | error e => exact False.elim hq'
  | ok fl =>
    cases fl with
    | ret u =>
      obtain ⟨v, H', I3, rv, ev, q3⟩ := I2.after hq'
      subst ev
      exact ⟨rv, ⟨V.ref (s.heap.objs.size + 1), H', I3, rfl, q3⟩⟩
    | next => exact False.elim hq'
    | brk => exact False.elim hq'
    | cont => exact False.elim hq'
theorem pe_makeD (D : Dk X.prog X.w X.K X.mg X.base x C k ps sp) (hr : RG j X.A) (ha : PA X (e :: es) t) (hkj : k + 1 ≤ j := by decide) (hg : Gl X x := by rfl) (hdb : (x == ("__debug__" : Str)) = false := by decide)
    (he : starEach (e :: es) X.env = (false, eval e X.env) :: starEach es X.env := by rfl) (hpl : (backTo pos (starEach es X.env)).any (·.1) = false := by rfl) : PE X (.Call (.Name x p) (e :: es) [] pos) (tMk C sp t) := by
  obtain ⟨f, fd, F, M, hm, hb, _⟩ := D.ex
  refine ⟨fun pins s σ H Q I h => ?_⟩
  refine wpAny_Call_Name_kw (ld_glob I hg hm ?_ hdb)
  refine PySem.W.callWith_K (h₀ := X.base) I.ok.mod.kin M.kp (thn (ha.run pos pins s σ H _ I h) fun us s1 ⟨vs, H1, I1, r, q⟩ => ⟨I1.kIn, ?_⟩) he hpl
  exact run_mkG (us2 := us) M F (hr.mono hkj) (fun s u KX hl => by
    have b := hb s (u :: us) KX (by simpa using hl)
    rw [List.append_nil] at b
    exact b) I1 r q
/-- C(k = v, ..), the keywords from the left are the parameters from the right -/
theorem pe_makeKw {kws : List Keyword} {tk : TA} (D : Dk X.prog X.w X.K X.mg X.base x C k ps sp) (hr : RG j X.A) (hkw : PK X kws tk) (hkj : k + 1 ≤ j := by decide) (hg : Gl X x := by rfl) (hdb : (x == ("__debug__" : Str)) = false := by decide)
    (hall : (backToKw pos (keywordEach kws X.env)).all (·.1.isSome) = true := by rfl) (hks : (backToKw pos (keywordEach kws X.env)).filterMap (·.1) = ps.tail.reverse := by rfl)
    (hpl : ((backTo pos (starEach [] X.env)).any (·.1) || (backToKw pos (keywordEach kws X.env)).any (·.1.isNone)) = false := by rfl) :
    PE X (.Call (.Name x p) [] kws pos) (tMk C sp fun σ H Q => tk σ H fun zs H1 => Q zs.reverse H1) := by
  obtain ⟨f, fd, F, M, hm, _, hb⟩ := D.ex
  refine ⟨fun pins s σ H Q I h => ?_⟩
  refine wpAny_Call_Name_kw (ld_glob I hg hm ?_ hdb)
  refine PySem.W.callWith_KW0 (h₀ := X.base) I.ok.mod.kin M.kp hall ?_ hpl
  refine thn (hkw.run pos pins s σ H _ I h) fun ws s2 ⟨zs, H2, I2, rz, q2⟩ => ⟨I2.kIn, ?_⟩
  rw [hks]
  refine run_mkG (us := []) (us2 := ws.reverse) (vs2 := zs.reverse) M F (hr.mono hkj) (fun s u _ hl => hb s u ws ?_) I2 (Vals.rev rz) q2
  rw [List.length_reverse] at hl
  rw [List.length_reverse, List.length_tail]
  omega
/-- o.m(k = v, ..) -/
theorem pe_methK {pl : Sem Bool} {kws : List Keyword} {tk : TA} (c : Cls X.K C) (D : Dm X.prog X.w X.K X.mg X.base C m k ps sp) (hr : RG j X.A) (he : PE X o ta) (hkw : PK X kws tk) (hkj : k ≤ j := by decide)
    (hall : (backToKw pos (keywordEach kws X.env)).all (·.1.isSome) = true := by rfl) (hks : (backToKw pos (keywordEach kws X.env)).filterMap (·.1) = ps.tail.reverse := by rfl)
    (hpl : ((backTo pos (starEach [] X.env)).any (·.1) || (backToKw pos (keywordEach kws X.env)).any (·.1.isNone)) = false := by rfl)
    (ht : eval (.Call (.Attribute o m apos) [] kws pos) X.env = (do
      let ov ← eval o X.env
      standAt apos.atName
      let (f, first) ← holding [ov] (getMethod ov m pl)
      callWith pos f first (backTo pos (starEach [] X.env)) (backToKw pos (keywordEach kws X.env))) := by rfl) :
    PE X (.Call (.Attribute o m apos) [] kws pos) (tMt C m sp ta fun σ H Q => tk σ H fun zs H1 => Q zs.reverse H1) := by
  obtain ⟨f, fd, F, hm, _, hb⟩ := D.ex
  refine ⟨fun pins s σ H Q I h => ?_⟩
  refine PySem.W.methodCall_KW (pl := pl) (thn (he.run pins s σ H _ I h) fun u s1 ⟨x, H1, I1, rx, a, dx, fs, ex, ea, l, q⟩ => ?_) ht
  subst ex
  obtain rfl : u = Value.ref a := rx
  refine getmeth_ok I1 ea c hm l ?_
  refine PySem.W.callWith_KW0 (first := [.ref a]) (h₀ := X.base) I.ok.mod.kin hm.kp hall ?_ hpl
  refine thn (hkw.run pos pins s1 σ H1 _ I1 q) fun ws s2 ⟨zs, H2, I2, rz, q2⟩ => ⟨I2.kIn, ?_⟩
  rw [hks]
  have hl : ws.length = ps.tail.reverse.length := by
    have e := F.len _ _ _ q2
    rw [List.length_cons, List.length_reverse] at e
    rw [List.length_reverse, List.length_tail, ← rz.length]
    omega
  exact wpAny_call (run_at F (hr.mono hkj) rfl (hb s2 (.ref a) ws hl) I2 (vs := .ref a :: _) (.cons rfl (Vals.rev rz)) q2)
theorem pe_propD (c : Cls X.K C) (D : Dp0 X.prog X.w X.K X.mg X.base C m k ps sp) (hr : RG j X.A) (he : PE X e ta) (hkj : k + 1 ≤ j := by decide) (hab : attributeBase e m X.env (eval e X.env) = eval e X.env := by rfl) :
    PE X (.Attribute e m pos) (tPp C sp ta) := by
  obtain ⟨p, g, fd, F, hp, hb⟩ := D.ex
  refine ⟨fun pins s σ H Q I h => ?_⟩
  refine attr_of hab (thn (he.run pins s σ H _ I h) fun u s1 ⟨x, H1, I1, rx, a, dx, fs, ex, ea, q⟩ => ?_)
  subst ex
  obtain rfl : u = Value.ref a := rx
  obtain ⟨mA, O, _, _, _, _⟩ := ins_get I1.hok ea
  obtain ⟨od, J, _⟩ := O.look
  obtain ⟨rest, hrec⟩ := hp.rec_
  have I2 := I1.tok (s1.toks + 1)
  have hl : ([Value.ref a] ++ []).length = ps.length := (F.len _ _ _ q)
  have hc : (PySem.W.clsIn X.K C).isSome = true := by
    obtain ⟨cd, hc, _⟩ := PySem.W.any_some c.hd
    rw [hc]
    rfl
  refine PySem.W.get_bind I1.kIn J (PySem.W.plainGet_of (c.get m)).1 (PySem.W.findObj_data hc hp.at_ hp.get hp.tak) (PySem.W.plainGet_of (c.get m)).2 (wpAny_call (PySem.W.prop_get (s := { s1 with toks := s1.toks + 1 }) I1.kIn hrec ?_))
  refine codeAny_mono (F.run X.A.in1 X.stack { s1 with toks := s1.toks + 1 } H1 ⟨[.ref a], []⟩ [.ref a] [.ref a] Q ((hr.mono hkj).in1) I2.env0.in1 (hb _ [.ref a] I2.kIn hl) (.cons rfl .nil) q) fun r s' hq => ?_
  cases r with
  | error er => exact False.elim hq
  | ok fl =>
    cases fl with
    | ret u =>
      obtain ⟨v, H', I3, rv, q3⟩ := I2.after hq
      show wpAny _ _ (handedOut u) _ _ _
      rw [PySem.W.handedOut_of (handed_of rv)]
      exact wpAny_pure ⟨v, H', I3, rv, q3⟩
    | next => exact hq
    | brk => exact hq
    | cont => exact hq
end
end RK
-- G1
set_option Elab.async false
set_option linter.all false
set_option maxRecDepth 100000
set_option maxHeartbeats 4000000
/-! G1: special methods of own classes: ~x, len, repr, ==, !=, a call of an instance; repr of data -/
namespace RK
open PySem PySem.Spec PyProof.Rows L2

section
variable {prog : Program} {w : World} {A : Around} {E : Value → Shared → Prop} {s : Shared} {K : PySem.W.Frag} {x C L f : Addr} {h₀ : Heap} {m : Str → Option Value} {ox : Obj} {od : Option Obj} {b tb : Value}
open PySem.W in
theorem ifBound_B {M : Model} {name : Str} {id : String} {args : List Value} {Q : Option Value → Shared → Prop} (X : K.In s.heap) (I : InstAt s.heap x ox C od) (hs : findIn K (.ref C) name = some (some (.builtin id)))
    (hb : ∀ self, bindSpecial (.builtin id) self = pure (.builtin id, [self])) (h : wpAny M A (call (.builtin id) (.ref x :: args)) (fun v => Q (some v)) E s) : wpAny M A (callSpecialIfBound? (.ref x) name args) Q E s := by
  simp only [callSpecialIfBound?, bindSpecialIfBound?]
  refine wpAny_holding (wpAny_bind (wpAny_bind (wpAny_bind (I.type.here ((looks_findIn X hs).here ?_)))))
  refine wpAny_bind (wpAny_askSetting (wpAny_ite ?_))
  have fin : wpAny M A (call (.builtin id) ([.ref x] ++ args) >>= fun v => pure (some v)) Q E s := wpAny_bind (wpAny_mono h (fun v s' h' => wpAny_pure h') fun _ _ h' => h')
  split
  · exact wpAny_bind ((Looks.of_pure (hb _)).here (wpAny_pure (by exact fin)))
  · exact wpAny_tryCatch (wpAny_bind ((Looks.of_pure (hb _)).here (wpAny_pure (by exact fin))))
open PySem.W in
theorem objNe_K {Q : Value → Shared → Prop} (hu : A.in1.units < cLine) (X : K.In s.heap) (I : InstAt s.heap x ox C od) (hm : mroIn K C (.type "object") = some true) (hs : findIn K (.ref C) "__eq__" = some (some (.ref f))) (hf : isFn K (.ref f) = true)
    (h : wpAny (model prog w) A.in1 (call (.ref f) [.ref x, b]) (fun v s' => ∃ k, v = .bool k ∧ Q (.bool (!k)) s') E s) : wpAny (model prog w) A (call (.builtin "object.__ne__") [.ref x, b]) Q E s := by
  refine wpAny_call (codeAny_call_builtin PySem.F.slot_object_ne.plain F.cmpEntry_ne (check_slot (i := "object.__ne__") (owner := "object") (n := "__ne__") (by decide +kernel) (by decide +kernel) (I.type.andThen (looks_mroIn X hm)) (F.cmpArgs_ne _ _) ?_))
  unfold Builtin.«object.__ne__»
  repeat (first
    | with_reducible refine wpAny_cRoomFor hu ?_
    | (refine wpAny_bind (m := callSpecialIfBound? (.ref x) (Str.ofString "__eq__") [b])
        (ifBound_K X I hs hf (wpAny_mono h (fun r s' hr => by
          obtain ⟨k, rfl, hq⟩ := hr
          repeat (first | exact hq | exact wpAny_pure hq | exact wpAny_truthy_bool hq | (refine wpAny_bind (m := truthy (.bool _)) (wpAny_truthy_bool ?_)) | wp_step)) fun _ _ e => e)))
    | wp_step)
open PySem.W in
/-- x != b by an own __eq__ and object's __ne__ -/
theorem ne_K {Q : Value → Shared → Prop} (hu : A.units < cLine) (hu1 : A.in1.in1.units < cLine) (F : Fr h₀ L s.heap m) (X₀ : K.In h₀) (I : InstAt s.heap x ox C od) (hb : Looks (model prog w) s.heap (typeOf b) tb) (hn : notFirst K C tb = true)
    (hne : findIn K (.ref C) "__ne__" = some (some (.builtin "object.__ne__"))) (hm : mroIn K C (.type "object") = some true) (hs : findIn K (.ref C) "__eq__" = some (some (.ref f))) (hf : isFn K (.ref f) = true)
    (h : wpAny (model prog w) A.in1 (call (.ref f) [.ref x, b]) (fun v s' => ∃ k, v = .bool k ∧ Q (.bool (!k)) s') E s) : wpAny (model prog w) A (richCompare .NotEq (.ref x) b) Q E s := by
  have X := X₀.keeps F.keep
  have one : wpAny (model prog w) A (tryCompare (.ref x) "__ne__" b) (fun r s' => ∃ v, r = some v ∧ Q v s') E s := by
    unfold tryCompare
    refine wpAny_bind (ifBound_B X I hne PySem.F.slot_object_ne.bind (objNe_K (show A.units + 1 < cLine from by
      have h2 : A.units + 1 + 1 < cLine := hu1
      omega) X I hm hs hf (wpAny_mono h (fun v s' hv => ?_) fun _ _ e => e)))
    obtain ⟨k, rfl, hq⟩ := hv
    exact ⟨k, rfl, wpAny_pure ⟨_, rfl, hq⟩⟩
  unfold richCompare
  simp only [oneThing_ref]
  refine wpAny_holding (wpAny_bind (wpAny_cRoomFor hu ?_))
  rw [cmpInfo_NotEq]
  dsimp only
  refine wpAny_bind (I.type.here (wpAny_bind (hb.here ?_)))
  split
  · rename_i q
    have e : subIn K tb (.ref C) = some false := by
      rcases Bool.or_eq_true_iff.mp hn with e | e
      · rw [beq_iff_eq.mp e] at q; simp at q
      · exact beq_iff_eq.mp e
    refine wpAny_bind ((looks_subIn X e).here ?_)
    simp only [Bool.false_eq_true, if_false]
    refine wpAny_bind (wpAny_mono one (fun r s' z => ?_) fun _ _ e => e)
    obtain ⟨v, rfl, hq⟩ := z
    exact wpAny_pure hq
  · refine wpAny_bind (wpAny_pure ?_)
    simp only [Bool.false_eq_true, if_false]
    refine wpAny_bind (wpAny_mono one (fun r s' z => ?_) fun _ _ e => e)
    obtain ⟨v, rfl, hq⟩ := z
    exact wpAny_pure hq
end

section
variable {X : Cx} {k j : Nat} {f C a dx : Addr} {fs : List (Str × V)} {ps : List Str} {sp : Pr} {pins : List (Addr × Obj)} {σ : L2.St} {H : Hp} {s : Shared}
theorem inst_of (I : Inv X pins σ H s) (h : H a = some (.ins C dx fs)) : ∃ ox od, PySem.W.InstAt s.heap a ox C (some od) ∧ ox.data = .plain := by
  obtain ⟨mA, O, _⟩ := ins_get I.hok h
  obtain ⟨od, J, _⟩ := O.look
  exact ⟨_, _, J, rfl⟩
/-- a special method runs at a place below the body -/
theorem run_sp {A : Around} {Q : VK} {us : List Value} {vs : List V} {fd : FuncData} (F : FnG X.prog X.w X.K X.mg X.base k f fd ps sp) (hr : RG k A) (hfr : A.frames = X.A.frames) (hb : Binds X.K fd ps []) (I : Inv X pins σ H s) (r : Vals vs us) (h : sp vs H Q) :
    wpAny (model X.prog X.w) A (call (.ref f) us) (EP X pins σ Q) X.xe s := by
  have hl : us.length = ps.length := by rw [← r.length]; exact F.len _ _ _ h
  have b := hb s us I.kIn (by simpa using hl)
  rw [List.append_nil] at b
  exact wpAny_call (run_at F hr hfr b I r h)

def rInv (C : Addr) (sp : Pr) : V → Hp → VK → Prop := fun x H Q => ∃ a dx fs, x = .ref a ∧ H a = some (.ins C dx fs) ∧ sp [.ref a] H Q
theorem un_invO (D : Dm X.prog X.w X.K X.mg X.base C "__invert__" k ps sp) (hr : RG j X.A) (hkj : k ≤ j := by decide) : UnR X (unaryOp .Invert) (rInv C sp) := by
  intro pins s σ H x v Q I rx h
  obtain ⟨a, dx, fs, rfl, ha, h⟩ := h
  cases rx
  obtain ⟨f, fd, F, hm, hb, _⟩ := D.ex
  obtain ⟨ox, od, J, _⟩ := inst_of I ha
  obtain ⟨m, hF⟩ := I.fr
  exact PySem.W.ksp_inv hF I.ok.mod.kin J hm.at_ hm.fn (run_fnG (us := [.ref a]) (vs := [.ref a]) F (hr.mono hkj) hb I (.cons rfl .nil) h)
def rLenO (C : Addr) (sp : Pr) : List V → Hp → VK → Prop := fun xs H Q => ∃ a dx fs, xs = [.ref a] ∧ H a = some (.ins C dx fs) ∧ sp [.ref a] H fun v H' => ∃ n : Int, v = .int n ∧ 0 ≤ n ∧ n < 2 ^ 63 ∧ Q (.int n) H'
theorem call_lenO (D : Dm X.prog X.w X.K X.mg X.base C "__len__" k ps sp) (hr : RG j X.A) (hkj : k + 1 ≤ j := by decide) : CallR X (.builtin "len") (rLenO C sp) := by
  intro pins s σ H xs us Q I r h
  obtain ⟨a, dx, fs, rfl, ha, h⟩ := h
  obtain ⟨u1, rfl, r1⟩ := vals1 r
  cases r1
  obtain ⟨f, fd, F, hm, hb, _⟩ := D.ex
  obtain ⟨ox, od, J, _⟩ := inst_of I ha
  obtain ⟨m, hF⟩ := I.fr
  refine PySem.W.len_K hF I.ok.mod.kin J hm.at_ hm.fn (wpAny_mono (run_sp (A := X.A.in1) (us := [.ref a]) (vs := [.ref a]) F ((hr.mono hkj).in1) rfl hb I (.cons rfl .nil) h) (fun v s' hv => ?_) fun _ _ e => e)
  obtain ⟨x, H', I', rx, n, rfl, h0, h1, q⟩ := hv
  obtain ⟨t, rfl⟩ := rx
  exact ⟨⟨h0, h1⟩, .int n, H', I'.tok _, ⟨_, rfl⟩, q⟩
/-- repr(x), x of an own class -/
def rReprO (C : Addr) (sp : Pr) : List V → Hp → VK → Prop := fun xs H Q => ∃ a dx fs, xs = [.ref a] ∧ H a = some (.ins C dx fs) ∧ sp [.ref a] H fun v H' => ∃ z : Str, v = .str z ∧ Q (.str z) H'
theorem call_reprO (D : Dm X.prog X.w X.K X.mg X.base C "__repr__" k ps sp) (hr : RG j X.A) (hkj : k + 1 ≤ j := by decide) : CallR X (.builtin "repr") (rReprO C sp) := by
  intro pins s σ H xs us Q I r h
  obtain ⟨a, dx, fs, rfl, ha, h⟩ := h
  obtain ⟨u1, rfl, r1⟩ := vals1 r
  cases r1
  obtain ⟨f, fd, F, hm, hb, _⟩ := D.ex
  obtain ⟨ox, od, J, _⟩ := inst_of I ha
  obtain ⟨m, hF⟩ := I.fr
  refine PySem.W.repr_K (by have := hr.r.un; show X.A.units + 1 < cLine; omega) hF I.ok.mod.kin J hm.at_ hm.fn (wpAny_mono (run_sp (A := X.A.in1) (us := [.ref a]) (vs := [.ref a]) F ((hr.mono hkj).in1) rfl hb I (.cons rfl .nil) h) (fun v s' hv => ?_) fun _ _ e => e)
  obtain ⟨x, H', I', rx, z, rfl, q⟩ := hv
  obtain ⟨t, rfl⟩ := rx
  exact ⟨.str z, H', I', ⟨_, rfl⟩, q⟩
/-- x == y, x of an own class with an own == -/
def rEqO (K : PySem.W.Frag) (C : Addr) (sp : Pr) : R2 := fun x y H Q => ∃ a dx fs t, x = .ref a ∧ H a = some (.ins C dx fs) ∧ TyX K H y t ∧ PySem.W.notFirst K C t = true ∧ sp [.ref a, y] H fun v H' => ∃ b, v = .bl b ∧ Q (.bl b) H'
theorem op_eqO (D : Dm X.prog X.w X.K X.mg X.base C "__eq__" k ps sp) (hr : RG j X.A) (hkj : k ≤ j := by decide) : OpR X (compareOp .Eq) (rEqO X.K C sp) := by
  intro pins s σ H x y v u Q I rx ry h
  obtain ⟨a, dx, fs, t, rfl, ha, ty, hn, h⟩ := h
  cases rx
  obtain ⟨f, fd, F, hm, hb, _⟩ := D.ex
  obtain ⟨ox, od, J, _⟩ := inst_of I ha
  obtain ⟨m, hF⟩ := I.fr
  obtain ⟨P, Z, p, _⟩ := kit_of I ry ty
  show wpAny (model X.prog X.w) X.A (richCompare .Eq (.ref a) u) _ _ _
  refine PySem.W.cmp_K (op := .Eq) hr.r.units0 hF I.ok.mod.kin J (Z.ty _ _ I.kIn p) hn hm.at_ hm.fn (wpAny_mono (run_fnG (us := [.ref a, u]) (vs := [.ref a, y]) F (hr.mono hkj) hb I (.cons rfl (.cons ry .nil)) h) (fun v s' hv => ?_) fun _ _ e => e)
  obtain ⟨x, H', I', rx, b, rfl, q⟩ := hv
  cases rx
  exact ⟨.bl b, H', I', rfl, q⟩
def rNeO (K : PySem.W.Frag) (C : Addr) (sp : Pr) : R2 := fun x y H Q => ∃ a dx fs t, x = .ref a ∧ H a = some (.ins C dx fs) ∧ TyX K H y t ∧ PySem.W.notFirst K C t = true ∧ sp [.ref a, y] H fun v H' => ∃ b, v = .bl b ∧ Q (.bl (!b)) H'
theorem op_neO (D : Dm X.prog X.w X.K X.mg X.base C "__eq__" k ps sp) (hne : PySem.W.findIn X.K (.ref C) "__ne__" = some (some (.builtin "object.__ne__"))) (hmr : PySem.W.mroIn X.K C (.type "object") = some true) (hr : RG j X.A) (hkj : k + 1 ≤ j := by decide) : OpR X (compareOp .NotEq) (rNeO X.K C sp) := by
  intro pins s σ H x y v u Q I rx ry h
  obtain ⟨a, dx, fs, t, rfl, ha, ty, hn, h⟩ := h
  cases rx
  obtain ⟨f, fd, F, hm, hb, _⟩ := D.ex
  obtain ⟨ox, od, J, _⟩ := inst_of I ha
  obtain ⟨m, hF⟩ := I.fr
  obtain ⟨P, Z, p, _⟩ := kit_of I ry ty
  show wpAny (model X.prog X.w) X.A (richCompare .NotEq (.ref a) u) _ _ _
  refine ne_K hr.r.units0 (by have := hr.r.un; show X.A.units + 1 + 1 < cLine; omega) hF I.ok.mod.kin J (Z.ty _ _ I.kIn p) hn hne hmr hm.at_ hm.fn (wpAny_mono (run_sp (A := X.A.in1) (us := [.ref a, u]) (vs := [.ref a, y]) F ((hr.mono hkj).in1) rfl hb I (.cons rfl (.cons ry .nil)) h) (fun v s' hv => ?_) fun _ _ e => e)
  obtain ⟨x, H', I', rx, b, rfl, q⟩ := hv
  cases rx
  exact ⟨b, rfl, .bl (!b), H', I', rfl, q⟩
/-- repr of data: lists, tuples of ints, bools, texts .. -/
def rReprD (K : PySem.W.Frag) : List V → Hp → VK → Prop := fun xs H Q => ∃ a d, xs = [.ref a] ∧ Dp K H (.ref a) d ∧ d.showable = true ∧ d.hasDict = false ∧ d.depth ≤ 8 ∧ d.shown.length ≤ sizeLine ∧ Q (.str d.shown) H
theorem call_reprD (hr : RG j X.A) : CallR X (.builtin "repr") (rReprD X.K) := by
  intro pins s σ H xs us Q I r h
  obtain ⟨a, d, rfl, hd, hs, hnd, hdp, hz, q⟩ := h
  obtain ⟨u1, rfl, r1⟩ := vals1 r
  obtain ⟨as, rd⟩ := Dp.reads I d (.ref a) u1 hd r1
  cases r1
  refine repr_of_reads' rd hs (PyData.noDict_hsm hnd) hr.g (by have := hr.r.un; omega) (fun _ _ e => e) (fun h' u tk hk => ⟨.str d.shown, H, ?_, ⟨_, rfl⟩, q⟩) hz
  exact I.kept hk
theorem call_reprB : CallR X (.builtin "repr") (fun xs H Q => ∃ b, xs = [.bl b] ∧ Q (.str (if b then "True" else "False")) H) := by
  intro pins s σ H xs us Q I r h
  obtain ⟨b, rfl, q⟩ := h
  obtain ⟨u1, rfl, r1⟩ := vals1 r
  cases r1
  exact PySem.P.repr_of_bool ⟨.str _, H, I.tok _, ⟨_, rfl⟩, q⟩
/-- {x!r}, x of an own class -/
def tFmtO (C : Addr) (sp : Pr) (te : TE) : TE := fun σ H Q => te σ H fun x H1 => ∃ a dx fs, x = .ref a ∧ H1 a = some (.ins C dx fs) ∧ sp [.ref a] H1 fun v H' => ∃ z : Str, v = .str z ∧ z.length ≤ sizeLine ∧ Q (.str z) H'
theorem pe_fmtO {e : Expr} {te : TE} {pos : Pos} (D : Dm X.prog X.w X.K X.mg X.base C "__repr__" k ps sp) (hr : RG j X.A) (he : PE X e te) (hkj : k ≤ j := by decide) : PE X (.FormattedValue e 114 none pos) (tFmtO C sp te) := by
  refine ⟨fun pins s σ H Q I h => ?_⟩
  refine wpAny_FormattedValue_repr (thn (he.run pins s σ H _ I h) fun v s1 hv => ?_)
  obtain ⟨x, H1, I1, r1, a, dx, fs, rfl, ha, q⟩ := hv
  cases r1
  obtain ⟨f, fd, F, hm, hb, _⟩ := D.ex
  obtain ⟨ox, od, J, _⟩ := inst_of I1 ha
  have X1 := I1.kIn
  unfold pyReprObj
  refine wpAny_bind (wpAny_cRoomFor hr.r.units0 ?_)
  refine wpAny_bind (wpAny_bind (J.type.here ((PySem.W.looks_findIn X1 hm.at_).here ?_)))
  refine wpAny_bind (m := callSpecialIfBound? (.ref a) (Str.ofString "__repr__") _) (PySem.W.ifBound_K X1 J hm.at_ hm.fn (wpAny_mono (run_fnG (us := [.ref a]) (vs := [.ref a]) F (hr.mono hkj) hb I1 (.cons rfl .nil) q) (fun r s' hr' => ?_) fun _ _ y => y))
  obtain ⟨x, H', I', rx, z, rfl, hz, q2⟩ := hr'
  obtain ⟨t, rfl⟩ := rx
  refine wpAny_bind (wpAny_isInstance (T := "str") (b := true) (typeIs_str _ _ _) isSubtype_str_str ?_)
  have fin : wpAny (model X.prog X.w) X.A (formatField (.str z t) Str.empty) (EP X pins σ Q) X.xe s' := wpAny_formatField_str ⟨.str z, H', I', ⟨_, rfl⟩, q2⟩ ⟨.str z, H', I'.tok _, ⟨_, rfl⟩, q2⟩ hz
  first
    | exact wpAny_pure fin
    | (rw [if_pos rfl]; exact wpAny_pure fin)
    | (simp only [if_true]; exact wpAny_pure fin)
/-- {x!r}, x a list of data -/
def tFmtD (K : PySem.W.Frag) (te : TE) : TE := fun σ H Q => te σ H fun x H1 => ∃ a d, x = .ref a ∧ Dp K H1 (.ref a) d ∧ d.showable = true ∧ d.hasDict = false ∧ d.depth ≤ 8 ∧ d.shown.length ≤ sizeLine ∧ Q (.str d.shown) H1
theorem pe_fmtD {e : Expr} {te : TE} {pos : Pos} (hr : RG j X.A) (he : PE X e te) : PE X (.FormattedValue e 114 none pos) (tFmtD X.K te) := by
  refine ⟨fun pins s σ H Q I h => ?_⟩
  refine wpAny_FormattedValue_repr (thn (he.run pins s σ H _ I h) fun v s1 hv => ?_)
  obtain ⟨x, H1, I1, r1, a, d, rfl, hd, hs, hnd, hdp, hz, q⟩ := hv
  obtain ⟨as, rd⟩ := Dp.reads I1 d (.ref a) v hd r1
  cases r1
  refine pyReprObj_of_reads rd hs (PyData.noDict_hsm hnd) hr.g (by have := hr.r.un; omega) (fun _ _ e => e) (fun h' u tk hk => ?_) hz
  exact wpAny_formatField_str ⟨.str d.shown, H1, I1.kept hk, ⟨_, rfl⟩, q⟩ ⟨.str d.shown, H1, (I1.kept (t' := tk) hk).tok _, ⟨_, rfl⟩, q⟩ hz
/-! ### an instance called -/
def tCO (C : Addr) (sp : Pr) (tf : TE) (t : TA) : TE := fun σ H Q => tf σ H fun y H1 => ∃ a, y = .ref a ∧ t σ H1 fun vs H2 => (∃ dx fs, H2 a = some (.ins C dx fs)) ∧ sp (.ref a :: vs) H2 Q
theorem pe_callOD {fe e : Expr} {es : List Expr} {tf : TE} {t : TA} {pos : Pos} (D : Dm X.prog X.w X.K X.mg X.base C "__call__" k ps sp) (hfi : ∀ f, PySem.W.findIn X.K (.ref C) "__call__" = some (some (.ref f)) → PySem.W.fnIn X.K f = true) (hr : RG j X.A) (hf : PE X fe tf) (ha : PA X (e :: es) t) (hkj : k ≤ j := by decide)
    (ht : eval (.Call fe (e :: es) [] pos) X.env = (do callWith pos (← eval fe X.env) [] (backTo pos (starEach (e :: es) X.env)) (backToKw pos (keywordEach [] X.env))) := by rfl)
    (he : starEach (e :: es) X.env = (false, eval e X.env) :: starEach es X.env := by rfl) (hpl : (backTo pos (starEach es X.env)).any (·.1) = false := by rfl) : PE X (.Call fe (e :: es) [] pos) (tCO C sp tf t) := by
  obtain ⟨f, fd, F, hm, hb, _⟩ := D.ex
  refine ⟨fun pins s σ H Q I h => ?_⟩
  refine Call_ (thn (hf.run pins s σ H _ I h) fun u s1 ⟨y, H1, I1, ry, a, ey, q⟩ => ?_) ht
  subst ey
  obtain rfl : u = Value.ref a := ry
  refine StX.callO_with (thn (ha.run pos pins s1 σ H1 _ I1 q) fun us s2 ⟨vs, H2, I2, r, ⟨dx, fs, hi⟩, q2⟩ => ?_) he hpl
  obtain ⟨ox, od, J, hd⟩ := inst_of I2 hi
  have hl : (Value.ref a :: us).length = ps.length := by
    rw [List.length_cons, ← r.length]
    exact F.len _ _ _ q2
  have b := hb s2 (Value.ref a :: us) I2.kIn (by simpa using hl)
  rw [List.append_nil] at b
  exact ⟨⟨C, ox, _, J, hd⟩, wpAny_call (PySem.W.kco_code I2.kIn J hd hm.at_ hm.fn (hfi f hm.at_) (run_at F (hr.mono hkj) rfl b I2 (vs := .ref a :: vs) (.cons rfl r) q2))⟩
theorem callO_kw {M : Model} {A : Around} {E : Value → Shared → Prop} {s : Shared} {a : Addr} {pos : Pos} {Q : Value → Shared → Prop} {kws : List (Option Str × Sem Value)} (hall : kws.all (·.1.isSome) = true) (hnone : kws.any (·.1.isNone) = false)
    (h : wpAny M A (evalAll (kws.map (·.2))) (fun ks s₁ => (∃ C ox od, PySem.W.InstAt s₁.heap a ox C od ∧ ox.data = .plain) ∧ wpAny M A (call (.ref a) [] ((kws.filterMap (·.1)).zip ks)) Q E s₁) E s) : wpAny M A (callWith pos (.ref a) [] [] kws) Q E s := by
  unfold callWith
  refine wpAny_bind (wpAny_holding (wpAny_mono (evalArgs_kw_nil (Q := fun z s₁ => (∃ C ox od, PySem.W.InstAt s₁.heap a ox C od ∧ ox.data = .plain) ∧ wpAny M A (call (.ref a) ([] ++ z.pos) z.kw) Q E s₁) hall h) (fun z s₁ h₁ => wpAny_bind (wpAny_standAt ?_)) fun _ _ y => y))
  obtain ⟨⟨C, ox, od, J, hd⟩, h₁⟩ := h₁
  have L := PySem.W.kco_keeper (M := M) J hd
  simp only [hnone, List.any_nil, Bool.or_false]
  refine wpAny_bind (L.here ?_)
  have tail : ∀ {t : Sem Value}, wpAny M A t Q E s₁ → wpAny M A (t >>= fun r => holding [r] point >>= fun _ => pure r) Q E s₁ :=
    fun ht => wpAny_bind (wpAny_mono ht (fun r s₂ hr => wpAny_bind (wpAny_holding (wpAny_point (wpAny_pure hr)))) fun _ _ y => y)
  exact tail (wpAny_operateT h₁)
theorem pe_callOK {fe : Expr} {kws : List Keyword} {tf : TE} {tk : TA} {pos : Pos} (D : Dm X.prog X.w X.K X.mg X.base C "__call__" k ps sp) (hfi : ∀ f, PySem.W.findIn X.K (.ref C) "__call__" = some (some (.ref f)) → PySem.W.fnIn X.K f = true) (hr : RG j X.A) (hf : PE X fe tf) (hkw : PK X kws tk) (hkj : k ≤ j := by decide)
    (hall : (backToKw pos (keywordEach kws X.env)).all (·.1.isSome) = true := by rfl) (hks : (backToKw pos (keywordEach kws X.env)).filterMap (·.1) = ps.tail.reverse := by rfl) (hnone : (backToKw pos (keywordEach kws X.env)).any (·.1.isNone) = false := by rfl)
    (ht : eval (.Call fe [] kws pos) X.env = (do callWith pos (← eval fe X.env) [] (backTo pos (starEach [] X.env)) (backToKw pos (keywordEach kws X.env))) := by rfl) :
    PE X (.Call fe [] kws pos) (tCO C sp tf fun σ H Q => tk σ H fun zs H1 => Q zs.reverse H1) := by
  obtain ⟨f, fd, F, hm, _, hb⟩ := D.ex
  refine ⟨fun pins s σ H Q I h => ?_⟩
  rw [ht]
  refine wpAny_bind (thn (hf.run pins s σ H _ I h) fun u s1 ⟨y, H1, I1, ry, a, ey, q⟩ => ?_)
  subst ey
  obtain rfl : u = Value.ref a := ry
  refine callO_kw hall hnone (thn (hkw.run pos pins s1 σ H1 _ I1 q) fun ws s2 ⟨zs, H2, I2, rz, ⟨dx, fs, hi⟩, q2⟩ => ?_)
  obtain ⟨ox, od, J, hd⟩ := inst_of I2 hi
  have hl : ws.length = ps.tail.reverse.length := by
    have e := F.len _ _ _ q2
    rw [List.length_cons, List.length_reverse] at e
    rw [List.length_reverse, List.length_tail, ← rz.length]
    omega
  rw [hks]
  exact ⟨⟨C, ox, _, J, hd⟩, wpAny_call (PySem.W.kco_code I2.kIn J hd hm.at_ hm.fn (hfi f hm.at_) (run_at F (hr.mono hkj) rfl (hb s2 (.ref a) ws hl) I2 (vs := .ref a :: zs.reverse) (.cons rfl (Vals.rev rz)) q2))⟩
end
end RK
-- G2
set_option Elab.async false
set_option linter.all false
set_option maxRecDepth 100000
set_option maxHeartbeats 4000000
/-! G2: iterators of pairs whose sources are texts, tuples, lists in any mix: zip(text, text), zip(text, list), enumerate(tuple) -/
namespace RK
open PySem PySem.Spec PyProof.Rows L2

/-- pairs (vx i, vy i) for i < n, each in a new tuple, while G stands -/
def Itp (n : Nat) (G : Hp → Prop) (vx vy : Nat → V) : It :=
  ⟨fun i H => i < n ∧ G H, fun i H v H' => ∃ T, v = .ref T ∧ H T = none ∧ H' = upd H T (.tup [vx i, vy i]), fun i H => i = n ∧ G H⟩

theorem turn_pairs {P : Program} {w : World} {K : PySem.W.Frag} {elts : List Expr} {kk : Nat} {tpos : Pos} {n : Nat} {G : Hp → Prop} {vx vy : Nat → V} {it : Addr} {fp wr : List Addr} {tn : Nat → Heap → Prop} {D : Type} {S : D → Heap → Prop}
    {P1 P2 : D → Nat → Value → Prop} (mem : it ∈ fp) (obj : ∀ i h, tn i h → ∀ b ∈ fp, ∃ o, h.get? b = some o ∧ ∀ v, o.data ≠ .cell v) (keep : ∀ i h h', tn i h → (∀ b ∈ fp, ∀ o, h.get? b = some o → h'.get? b = some o) → tn i h') (hwr : ∀ b ∈ wr, b ∈ fp)
    (hW : ∀ (d : D) (A : Around), A.handled = none → ∃ fpG, GoesN P w A (.Tuple elts kk tpos) it fpG wr n (fun i h₀ v h => ∃ T x y, v = .ref T ∧ h₀.objs.size ≤ T ∧ P1 d i x ∧ P2 d i y ∧ h.IsTuple T #[x, y]) (fun i h => tn i h ∧ S d h))
    (hS : ∀ (X : Cx) (pins : List (Addr × Obj)) (σ : L2.St) (H : Hp) (s : Shared), X.prog = P → X.w = w → X.K = K → Inv X pins σ H s → G H → ∃ d, S d s.heap ∧ (∀ i u, i < n → P1 d i u → RelV (vx i) u) ∧ ∀ i u, i < n → P2 d i u → RelV (vy i) u)
    (hself : ∀ (A : Around) (i : Nat) (s : Shared) (Q : Value → Shared → Prop) (E : Value → Shared → Prop), tn i s.heap → Q (.ref it) s → wpAny (model P w) A (pyIter (.ref it)) Q E s) :
    Turn P w K (.Tuple elts kk tpos) (Itp n G vx vy) fp it tn where
  mem := mem
  obj := obj
  keep := keep
  item := by
    intro X hP hw hK hc i pins s σ H E I hf st hg
    subst hP hw hK
    obtain ⟨hi, g⟩ := hg
    obtain ⟨d, sd, r1, r2⟩ := hS X pins σ H s rfl rfl rfl I g
    obtain ⟨fpG, WG⟩ := hW d X.A (I.ok.hd hc)
    refine WG.goes i s (fun v s2 => ∃ x H', Inv X pins σ H' s2 ∧ RelV x v ∧ (Itp n G vx vy).yld i H x H' ∧ tn (i + 1) s2.heap ∧ ∀ b ∈ fp, H' b = none) E hi ⟨st, sd⟩ fun v h' tk hY st' hk htk => ?_
    obtain ⟨T, x, y, rfl, hT, p1, p2, hTup⟩ := hY
    obtain ⟨o, ho, hcl, m, hdt⟩ := hTup
    have new : ObjOk X.prog X.w (upd H T (.tup [vx i, vy i])) h' T (.tup [vx i, vy i]) := ⟨by show 2 ≤ sizeLine; decide, [x, y], .cons (r1 i x hi p1) (.cons (r2 i y hi p2) .nil), ⟨o, ho, hcl, m, hdt⟩⟩
    refine ⟨.ref T, upd H T (.tup [vx i, vy i]), I.turnedNew (t' := tk) (ch := wr) hk (fun b hb => hf b (hwr b hb)) hT new, rfl, ⟨T, rfl, I.hok.fresh hT, rfl⟩, st'.1, fun b hb => ?_⟩
    obtain ⟨ob, e, _⟩ := obj i s.heap st b hb
    rw [upd_ne (Nat.ne_of_lt (Nat.lt_of_lt_of_le (Heap.lt_size e) hT))]
    exact (hf b hb).1
  done := by
    intro X hP hw hK hc i pins s σ H E I hf st hg
    subst hP hw hK
    obtain ⟨rfl, g⟩ := hg
    obtain ⟨d, sd, _, _⟩ := hS X pins σ H s rfl rfl rfl I g
    obtain ⟨fpG, WG⟩ := hW d X.A (I.ok.hd hc)
    exact WG.stops s (fun s1 => Inv X pins σ H s1) E ⟨st, sd⟩ fun h' tk hk _ => I.turnedL (t' := tk) (ch := wr) hk fun b hb => hf b (hwr b hb)
  self := hself
theorem walk_pairs {n : Nat} {G : Hp → Prop} {vx vy : Nat → V} : Walk (Itp n G vx vy) n G (fun i H v H' => ∃ T, v = .ref T ∧ H T = none ∧ H' = upd H T (.tup [vx i, vy i])) :=
  ⟨fun i H hi g => ⟨hi, g⟩, fun H g => ⟨rfl, g⟩, fun i H v H' hi g y => y⟩

/-! ### zip of two texts, of a text and a list -/
def tnTT (z TI TO i1 i2 : Addr) (x y : Str) (t u : Tok) (i : Nat) (h : Heap) : Prop := IsZip h z TI TO .none ∧ IsTupOf2 h TI (.ref i1) (.ref i2) ∧ (∃ a1 a2, IsTupOf2 h TO a1 a2) ∧ h.IsStrIter i1 (strIterType x) x t i ∧ h.IsStrIter i2 (strIterType y) y u i
def tnTL (z TI TO i1 i2 : Addr) (x : Str) (t : Tok) (l : Addr) (i : Nat) (h : Heap) : Prop := IsZip h z TI TO .none ∧ IsTupOf2 h TI (.ref i1) (.ref i2) ∧ (∃ a1 a2, IsTupOf2 h TO a1 a2) ∧ h.IsStrIter i1 (strIterType x) x t i ∧ h.IsListIter i2 l i
theorem gn_cong {prog : Program} {w : World} {A : Around} {target : Expr} {I : Addr} {fp wr : List Addr} {n : Nat} {Y : Nat → Heap → Value → Heap → Prop} {St St' : Nat → Heap → Prop} (W : GoesN prog w A target I fp wr n Y St) (e : ∀ i h, St' i h ↔ St i h) : GoesN prog w A target I fp wr n Y St' := by
  have q : St' = St := by
    funext i h
    exact propext (e i h)
  rw [q]
  exact W
theorem gn_len {prog : Program} {w : World} {A : Around} {target : Expr} {I : Addr} {fp wr : List Addr} {n n' : Nat} {Y : Nat → Heap → Value → Heap → Prop} {St : Nat → Heap → Prop} (W : GoesN prog w A target I fp wr n Y St) (e : n' = n) : GoesN prog w A target I fp wr n' Y St := by
  rw [e]
  exact W
/-- the i-th sign as a value -/
def sgV (x : Str) (i : Nat) : V := .str ⟨#[x.cps.getD i 0]⟩
theorem sgV_rel {x : Str} {i c : Nat} {u : Tok} (h : x.cps[i]? = some c) : RelV (sgV x i) (.str ⟨#[c]⟩ u) := by
  refine ⟨u, ?_⟩
  rw [Array.getD_eq_getD_getElem?, h] <;> rfl
def iZipTT (ta : TA) : TI := fun σ H R => ta σ H fun vs H1 => ∃ x y : Str, vs = [.str x, .str y] ∧ R (Itp (min x.cps.size y.cps.size) (fun _ => True) (sgV x) (sgV y)) H1
def iZipTL (K : PySem.W.Frag) (ta : TA) : TI := fun σ H R => ta σ H fun vs H1 => ∃ (x : Str) (l : Addr) (ys : List V), vs = [.str x, .ref l] ∧ SqL K H1 l ys ∧ R (Itp (min x.cps.size ys.length) (fun H => SqL K H l ys) (sgV x) (fun i => ys.getD i .non)) H1
theorem fp5 {N c : Nat} (h : c ∈ [N + 4, N + 2, N + 3, N, N + 1]) : N ≤ c := by
  simp at h
  omega
section
variable {X : Cx} {e e2 : Expr} {ta : TA} {p pos tpos : Pos} {elts : List Expr} {kk : Nat}
theorem pi_zipSS (hg : Gl X "zip") (hm : X.mg "zip" = none) (ha : PA X [e, e2] ta)
    (hs : starEach [e, e2] X.env = (false, eval e X.env) :: starEach [e2] X.env := by rfl) (hpl : (backTo pos (starEach [e2] X.env)).any (·.1) = false := by rfl) :
    PI X (.Tuple elts kk tpos) (.Call (.Name "zip" p) [e, e2] [] pos) (iZipTT ta) := by
  refine ⟨fun pins s σ H R I h => ?_⟩
  refine Call_ (ld_blt I hg hm PyProof.Rows.boot_zip (PyProof.Rows.callWith_type1 (thn (ha.run pos pins s σ H _ I h) fun us s1 ⟨vs, H1, I1, r1, q1⟩ => ?_) hs hpl))
  obtain ⟨x, y, rfl, q⟩ := q1
  obtain ⟨u1, u2, rfl, r1, r2⟩ := vals2 r1
  obtain ⟨t, rfl⟩ := r1
  obtain ⟨u, rfl⟩ := r2
  refine zip_begins2 (begins_text x t) (begins_text y u) trivial trivial fun h' hz hTI hTO h1 h2 hsz hk => wpAny_pyIter_zip hz ?_
  have I2 : Inv X pins σ H1 { s1 with heap := h' } := I1.kept (t' := s1.toks) hk
  refine ⟨s1.heap.objs.size + 4, [s1.heap.objs.size + 4, s1.heap.objs.size + 2, s1.heap.objs.size + 3, s1.heap.objs.size, s1.heap.objs.size + 1], tnTT (s1.heap.objs.size + 4) (s1.heap.objs.size + 2) (s1.heap.objs.size + 3) s1.heap.objs.size (s1.heap.objs.size + 1) x y t u, _, H1, rfl, I2,
    turn_pairs (D := Unit) (S := fun _ _ => True) (wr := [s1.heap.objs.size + 4, s1.heap.objs.size + 3, s1.heap.objs.size, s1.heap.objs.size + 1]) (P1 := fun _ i v => ∃ c u, x.cps[i]? = some c ∧ v = .str ⟨#[c]⟩ u) (P2 := fun _ i v => ∃ c u, y.cps[i]? = some c ∧ v = .str ⟨#[c]⟩ u)
      (by simp) (fun i h st b hb => ?_) (fun i h h2 st k => ?_) (fun b hb => ?_) (fun _ A hh => ?_) (fun X' pins' σ' H' s' _ _ _ I' _ => ⟨(), trivial, fun i v _ pv => ?_, fun i v _ pv => ?_⟩) (fun A i s Q E st h => wpAny_pyIter_zip st.1 h), ⟨hz, hTI, ⟨_, _, hTO⟩, ⟨_, h1, rfl, rfl⟩, ⟨_, h2, rfl, rfl⟩⟩, fun c hc => I1.fpOk (fp5 hc) (I1.hok.fresh (fp5 hc)), q⟩
  · obtain ⟨a1, a2, ⟨b1, b2, a3⟩, ⟨o1, e1, _, d1⟩, ⟨o2, e2, _, d2⟩⟩ := st
    simp at hb
    rcases hb with rfl | rfl | rfl | rfl | rfl
    · exact ⟨_, a1, fun v q => nomatch q⟩
    · exact ⟨_, a2, fun v q => nomatch q⟩
    · exact ⟨_, a3, fun v q => nomatch q⟩
    · exact ⟨o1, e1, fun v q => by rw [d1] at q; cases q⟩
    · exact ⟨o2, e2, fun v q => by rw [d2] at q; cases q⟩
  · obtain ⟨a1, a2, ⟨b1, b2, a3⟩, ⟨o1, e1, c1, d1⟩, ⟨o2, e2, c2, d2⟩⟩ := st
    exact ⟨k _ (by simp) _ a1, k _ (by simp) _ a2, ⟨b1, b2, k _ (by simp) _ a3⟩, ⟨o1, k _ (by simp) _ e1, c1, d1⟩, ⟨o2, k _ (by simp) _ e2, c2, d2⟩⟩
  · simp at hb
    rcases hb with rfl | rfl | rfl | rfl <;> simp
  · exact ⟨_, gn_cong (GoesN.zip2 (zip_sep2 (N := s1.heap.objs.size) (fp1 := []) (fp2 := []) (by simp) (by simp)) (Draws.text (A := A.in1) hh s1.heap.objs.size x t) (Draws.text (A := A.in1) hh (s1.heap.objs.size + 1) y u)) fun i h => ⟨fun q => q.1, fun q => ⟨q, trivial⟩⟩⟩
  · obtain ⟨c, u, hc, rfl⟩ := pv
    exact sgV_rel hc
  · obtain ⟨c, u, hc, rfl⟩ := pv
    exact sgV_rel hc
theorem pi_zipSL (hg : Gl X "zip") (hm : X.mg "zip" = none) (ha : PA X [e, e2] ta)
    (hs : starEach [e, e2] X.env = (false, eval e X.env) :: starEach [e2] X.env := by rfl) (hpl : (backTo pos (starEach [e2] X.env)).any (·.1) = false := by rfl) :
    PI X (.Tuple elts kk tpos) (.Call (.Name "zip" p) [e, e2] [] pos) (iZipTL X.K ta) := by
  refine ⟨fun pins s σ H R I h => ?_⟩
  refine Call_ (ld_blt I hg hm PyProof.Rows.boot_zip (PyProof.Rows.callWith_type1 (thn (ha.run pos pins s σ H _ I h) fun us s1 ⟨vs, H1, I1, r1, q1⟩ => ?_) hs hpl))
  obtain ⟨x, l, ys, rfl, hl, q⟩ := q1
  obtain ⟨u1, u2, rfl, r1, r2⟩ := vals2 r1
  obtain ⟨t, rfl⟩ := r1
  cases r2
  obtain ⟨its, rv, pl, hz'⟩ := I1.list hl
  have hll : l < s1.heap.objs.size := pl.lt
  refine zip_begins2 (begins_text x t) (begins_list l its.toArray) trivial pl.isList fun h' hz hTI hTO h1 h2 hsz hk => wpAny_pyIter_zip hz ?_
  have I2 : Inv X pins σ H1 { s1 with heap := h' } := I1.kept (t' := s1.toks) hk
  refine ⟨s1.heap.objs.size + 4, [s1.heap.objs.size + 4, s1.heap.objs.size + 2, s1.heap.objs.size + 3, s1.heap.objs.size, s1.heap.objs.size + 1], tnTL (s1.heap.objs.size + 4) (s1.heap.objs.size + 2) (s1.heap.objs.size + 3) s1.heap.objs.size (s1.heap.objs.size + 1) x t l, _, H1, rfl, I2,
    turn_pairs (D := { its : List Value // its.length = ys.length }) (S := fun d h => h.IsList l d.1.toArray) (wr := [s1.heap.objs.size + 4, s1.heap.objs.size + 3, s1.heap.objs.size, s1.heap.objs.size + 1]) (P1 := fun _ i v => ∃ c u, x.cps[i]? = some c ∧ v = .str ⟨#[c]⟩ u) (P2 := fun d i v => d.1.toArray[i]? = some v)
      (by simp) (fun i h st b hb => ?_) (fun i h h2 st k => ?_) (fun b hb => ?_) (fun d A hh => ?_) (fun X' pins' σ' H' s' hP hw hK I' g => ?_) (fun A i s Q E st h => wpAny_pyIter_zip st.1 h), ⟨hz, hTI, ⟨_, _, hTO⟩, ⟨_, h1, rfl, rfl⟩, ⟨_, h2, rfl, rfl⟩⟩, fun c hc => I1.fpOk (fp5 hc) (I1.hok.fresh (fp5 hc)), q⟩
  · obtain ⟨a1, a2, ⟨b1, b2, a3⟩, ⟨o1, e1, _, d1⟩, ⟨o2, e2, _, d2⟩⟩ := st
    simp at hb
    rcases hb with rfl | rfl | rfl | rfl | rfl
    · exact ⟨_, a1, fun v q => nomatch q⟩
    · exact ⟨_, a2, fun v q => nomatch q⟩
    · exact ⟨_, a3, fun v q => nomatch q⟩
    · exact ⟨o1, e1, fun v q => by rw [d1] at q; cases q⟩
    · exact ⟨o2, e2, fun v q => by rw [d2] at q; cases q⟩
  · obtain ⟨a1, a2, ⟨b1, b2, a3⟩, ⟨o1, e1, c1, d1⟩, ⟨o2, e2, c2, d2⟩⟩ := st
    exact ⟨k _ (by simp) _ a1, k _ (by simp) _ a2, ⟨b1, b2, k _ (by simp) _ a3⟩, ⟨o1, k _ (by simp) _ e1, c1, d1⟩, ⟨o2, k _ (by simp) _ e2, c2, d2⟩⟩
  · simp at hb
    rcases hb with rfl | rfl | rfl | rfl <;> simp
  · obtain ⟨its2, e2⟩ := d
    have hn : l ≠ s1.heap.objs.size + 1 := Nat.ne_of_lt (Nat.lt_succ_of_lt hll)
    refine ⟨_, gn_cong (gn_len (GoesN.zip2 (zip_sep2 (N := s1.heap.objs.size) (fp1 := []) (fp2 := [l]) (by simp) (by intro b hb; simp at hb; rw [hb]; exact hll)) (Draws.text (A := A.in1) hh s1.heap.objs.size x t) (Draws.list (A := A.in1) hh (s1.heap.objs.size + 1) l hn its2.toArray)) ?_) fun i h => ?_⟩
    · have ez : its2.toArray.size = ys.length := by rw [List.size_toArray, e2]
      rw [ez]
    · exact ⟨fun ⟨⟨a, b, c, d, e⟩, f⟩ => ⟨a, b, c, d, e, f⟩, fun ⟨a, b, c, d, e, f⟩ => ⟨⟨a, b, c, d, e⟩, f⟩⟩
  · have g' : SqL X'.K H' l ys := by rw [hK]; exact g
    obtain ⟨its2, rv2, pl2, _⟩ := I'.list g'
    refine ⟨⟨its2, rv2.length.symm⟩, pl2.isList, fun i v _ pv => ?_, fun i v hi pv => ?_⟩
    · obtain ⟨c, u, hc, rfl⟩ := pv
      exact sgV_rel hc
    · have hi2 : i < ys.length := Nat.lt_of_lt_of_le hi (Nat.min_le_right _ _)
      obtain ⟨u, hu, ru⟩ := rv2.get (List.getElem?_eq_getElem hi2)
      have pv : its2.toArray[i]? = some v := pv
      rw [List.getElem?_toArray, hu] at pv
      cases pv
      show L2.RelV (ys.getD i V.non) _
      rw [List.getD_eq_getElem?_getD, List.getElem?_eq_getElem hi2]
      exact ru
end
/-! ### enumerate of a tuple -/
set_option maxHeartbeats 8000000 in
theorem meets_enum1 {v : Value} {o : Obj} {H : Heap → Prop} (B : Begins v o H) :
    Meets (Builtin.«enumerate.__new__» ⟨[.type "enumerate", v], []⟩) (fun _ R s => H s.heap ∧
      R (.ok (.ret (.ref (s.heap.push o).objs.size))) { s with heap := (s.heap.push o).push { cls := .type "enumerate", data := .fields #[.none, .bool false, .ref s.heap.objs.size, rawInt 0, .none, .none] } }) :=
  .of_wp fun prog w A R s h => by
    obtain ⟨hp, g, d, tk, os⟩ := s
    obtain ⟨h1, h⟩ := h
    have hsub := sub_enumerate
    have q1 : ∀ {A' : Around} {E : Value → Shared → Prop} {Q : Value → Shared → Prop}, Q (.ref hp.objs.size) ⟨hp.push o, g, d, tk, os⟩ → wpAny (model prog w) A' (pyIter v) Q E ⟨hp, g, d, tk, os⟩ :=
      fun q => B.iter prog w _ _ ⟨hp, g, d, tk, os⟩ _ h1 q
    wp_walk using q1
    refine wpAny_stack_any fun st => wpAny_pure ?_
    split
    · rename_i c _ _ _ _ _
      cases (c == Value.type "enumerate")
      · wp_walk using q1
        exact ⟨_, rfl, h⟩
      · wp_walk using q1
        exact ⟨_, rfl, h⟩
    · wp_walk using q1
      exact ⟨_, rfl, h⟩
def tnE (e it l : Addr) (i : Nat) (h : Heap) : Prop := (∃ old, IsEnum h e it (0 + (i : Int)) old) ∧ h.IsTupleIter it l i
def iEnumT (K : PySem.W.Frag) (ta : TA) : TI := fun σ H R => ta σ H fun vs H1 => ∃ (l : Addr) (ys : List V), vs = [.ref l] ∧ SqT K H1 l ys ∧ R (Itp ys.length (fun H => SqT K H l ys) (fun i => .int (i : Int)) (fun i => ys.getD i .non)) H1
section
variable {X : Cx} {e : Expr} {ta : TA} {p pos tpos : Pos} {elts : List Expr} {kk : Nat}
theorem pi_enumT (hg : Gl X "enumerate") (hm : X.mg "enumerate" = none) (ha : PA X [e] ta) (hs : starEach [e] X.env = [(false, eval e X.env)] := by rfl) :
    PI X (.Tuple elts kk tpos) (.Call (.Name "enumerate" p) [e] [] pos) (iEnumT X.K ta) := by
  refine ⟨fun pins s σ H R I h => ?_⟩
  refine Call_ (ld_blt I hg hm boot_enumerate (PyProof.Rows.callWith_type1 (thn (ha.run pos pins s σ H _ I h) fun us s1 ⟨vs, H1, I1, r1, q1⟩ => ?_) hs rfl))
  obtain ⟨l, ys, rfl, hl, q⟩ := q1
  obtain ⟨u1, rfl, r2⟩ := vals1 r1
  obtain rfl : u1 = Value.ref l := r2
  obtain ⟨its, rv, pl, hz'⟩ := I1.tuple hl
  have hll : l < s1.heap.objs.size := pl.lt
  have plT : s1.heap.IsTuple l its.toArray := pl
  refine callType_new F.called_enumerate (by decide) (F.typeCall_enumerate_1 _) (F.newCall_enumerate_1 _) (fun obj => F.args_object_init_2 obj _) F.entry_enumerate_new (meets_enum1 (begins_tuple l its.toArray)) ⟨plT, ?_⟩
  generalize hh1 : (s1.heap.push { cls := .type "tuple_iterator", data := .fields #[.ref l, .int 0 0] }) = h1
  have z1 : h1.objs.size = s1.heap.objs.size + 1 := by
    rw [← hh1, Heap.size_push]
  have g1 : h1.get? s1.heap.objs.size = some { cls := .type "tuple_iterator", data := .fields #[.ref l, .int 0 0] } := by
    rw [← hh1]
    exact Heap.get?_push_size _ rfl
  have k1 : ∀ b o, s1.heap.get? b = some o → h1.get? b = some o := fun b o q => by
    rw [← hh1]
    exact Heap.get?_push_of_some _ q
  show _ ∧ _
  rw [z1]
  have he : IsEnum (h1.push { cls := .type "enumerate", data := .fields #[.none, .bool false, .ref s1.heap.objs.size, rawInt 0, .none, .none] }) (s1.heap.objs.size + 1) s1.heap.objs.size 0 .none := by
    have := Heap.get?_push_size h1 (o := { cls := .type "enumerate", data := .fields #[.none, .bool false, .ref s1.heap.objs.size, rawInt 0, .none, .none] }) rfl
    rw [z1] at this
    exact this
  refine ⟨⟨_, he, rfl⟩, wpAny_pyIter_enum he ?_⟩
  generalize hh2 : h1.push { cls := .type "enumerate", data := .fields #[.none, .bool false, .ref s1.heap.objs.size, rawInt 0, .none, .none] } = h2 at he
  have k2 : ∀ b o, s1.heap.get? b = some o → h2.get? b = some o := fun b o q => by
    rw [← hh2]
    exact Heap.get?_push_of_some _ (k1 b o q)
  have g2 : h2.get? s1.heap.objs.size = some { cls := .type "tuple_iterator", data := .fields #[.ref l, .int 0 0] } := by
    rw [← hh2]
    exact Heap.get?_push_of_some _ g1
  have I2 : Inv X pins σ H1 { s1 with heap := h2 } := I1.kept (t' := s1.toks) k2
  have fpE : ∀ c ∈ [s1.heap.objs.size + 1, s1.heap.objs.size], s1.heap.objs.size ≤ c := fun c hc => by
    simp at hc
    omega
  refine ⟨s1.heap.objs.size + 1, [s1.heap.objs.size + 1, s1.heap.objs.size], tnE (s1.heap.objs.size + 1) s1.heap.objs.size l, _, H1, rfl, I2,
    turn_pairs (D := { its : List Value // its.length = ys.length }) (S := fun d h => h.IsTuple l d.1.toArray) (wr := [s1.heap.objs.size + 1, s1.heap.objs.size]) (P1 := fun _ i v => ∃ t, v = .int (0 + (i : Int)) t) (P2 := fun d i v => d.1.toArray[i]? = some v)
      (by simp) (fun i h st b hb => ?_) (fun i h h2 st k => ?_) (fun b hb => hb) (fun d A hh => ?_) (fun X' pins' σ' H' s' hP hw hK I' g => ?_) (fun A i s Q E st h => let ⟨⟨_, he⟩, _⟩ := st; wpAny_pyIter_enum he h), ⟨⟨_, he⟩, ⟨_, g2, rfl, rfl⟩⟩, fun c hc => I1.fpOk (fpE c hc) (I1.hok.fresh (fpE c hc)), q⟩
  · obtain ⟨⟨old, a1⟩, ⟨o1, e1, _, d1⟩⟩ := st
    simp at hb
    rcases hb with rfl | rfl
    · exact ⟨_, a1, fun v q => nomatch q⟩
    · exact ⟨o1, e1, fun v q => by rw [d1] at q; cases q⟩
  · obtain ⟨⟨old, a1⟩, ⟨o1, e1, c1, d1⟩⟩ := st
    exact ⟨⟨old, k _ (by simp) _ a1⟩, ⟨o1, k _ (by simp) _ e1, c1, d1⟩⟩
  · obtain ⟨its2, e2⟩ := d
    have hn : l ≠ s1.heap.objs.size := Nat.ne_of_lt hll
    have W := GoesN.enumFrom (elts := elts) (x1 := kk) (pos := tpos) 0 (Draws.tuple (prog := X.prog) (w := X.w) (A := A.in1) hh s1.heap.objs.size l hn its2.toArray) (s1.heap.objs.size + 1) (Nat.succ_ne_self _) (by simp; exact fun z => absurd z (Nat.ne_of_gt (Nat.lt_succ_of_lt hll))) (by simp)
    refine ⟨_, gn_cong (gn_len (W.mono fun i h₀ v h _ hY => ?_) ?_) fun i h => ?_⟩
    · obtain ⟨T, t, x, ev, hT, hx, hi⟩ := hY
      exact ⟨T, .int (0 + (i : Int)) t, x, ev, hT, ⟨t, rfl⟩, hx, hi⟩
    · rw [List.size_toArray, e2]
    · exact ⟨fun ⟨⟨a, b⟩, c⟩ => ⟨a, b, c⟩, fun ⟨a, b, c⟩ => ⟨⟨a, b⟩, c⟩⟩
  · have g' : SqT X'.K H' l ys := by rw [hK]; exact g
    obtain ⟨its2, rv2, pl2, _⟩ := I'.tuple g'
    refine ⟨⟨its2, rv2.length.symm⟩, pl2, fun i v _ pv => ?_, fun i v hi pv => ?_⟩
    · obtain ⟨t, rfl⟩ := pv
      exact ⟨t, by rw [Int.zero_add]⟩
    · obtain ⟨u, hu, ru⟩ := rv2.get (List.getElem?_eq_getElem hi)
      have pv : its2.toArray[i]? = some v := pv
      rw [List.getElem?_toArray, hu] at pv
      cases pv
      show L2.RelV (ys.getD i V.non) _
      rw [List.getD_eq_getElem?_getD, List.getElem?_eq_getElem hi]
      exact ru
end
end RK
-- D0
set_option Elab.async false
set_option linter.all false
set_option maxRecDepth 100000
set_option maxHeartbeats 4000000
/-! D0: readings without a heap: data, slots that are data or owned objects, and what a reading over heaps has of them -/
namespace RK
open PySem PySem.Spec PyProof.Rows L2

/-- data, as trees -/
inductive Da where
  | non | bl (b : Bool) | int (i : Int) | str (s : Str)
  | lst (xs : List Da) | tup (xs : List Da) | dic (kvs : List (Int × Da)) | obj (C : Addr) (ns : List Str) (vs : List Da)
  | scr (ns : List Int) | ty (n : String) | cls (C : Addr)

mutual
inductive At (K : PySem.W.Frag) (G : Hp) : V → Da → Prop
  | non : At K G .non .non
  | bl (b : Bool) : At K G (.bl b) (.bl b)
  | int (i : Int) : At K G (.int i) (.int i)
  | str (x : Str) : At K G (.str x) (.str x)
  | lst {a : Addr} {vs : List V} {ds : List Da} : G a = some (.lst vs) → Ats K G vs ds → At K G (.ref a) (.lst ds)
  | tup {a : Addr} {vs : List V} {ds : List Da} : G a = some (.tup vs) → Ats K G vs ds → At K G (.ref a) (.tup ds)
  | dic {a : Addr} {kvs : List (Key × V)} {ds : List (Int × Da)} : G a = some (.dK kvs) → kvs.map (·.1) = ds.map (fun q => Sum.inl q.1) → Ats K G (kvs.map (·.2)) (ds.map (·.2)) → At K G (.ref a) (.dic ds)
  | obj {a C dx : Addr} {fs : List (Str × V)} {ns : List Str} {ds : List Da} : G a = some (.ins C dx fs) → fs.map (·.1) = ns → Ats K G (fs.map (·.2)) ds → At K G (.ref a) (.obj C ns ds)
  | scr {a : Addr} {ns : List Int} : SqL K G a (ns.map V.int) → At K G (.ref a) (.scr ns)
  | ty (n : String) : At K G (.ty n) (.ty n)
  | cls (C : Addr) : At K G (.ref C) (.cls C)
inductive Ats (K : PySem.W.Frag) (G : Hp) : List V → List Da → Prop
  | nil : Ats K G [] []
  | cons {v : V} {vs : List V} {d : Da} {ds : List Da} : At K G v d → Ats K G vs ds → Ats K G (v :: vs) (d :: ds)
end
mutual
theorem At.mono {K : PySem.W.Frag} {G G' : Hp} (s : Same G G') : ∀ {v : V} {d : Da}, At K G v d → At K G' v d
  | _, _, .non => .non
  | _, _, .bl b => .bl b
  | _, _, .int b => .int b
  | _, _, .str b => .str b
  | _, _, .lst h t => .lst (s _ _ h) (Ats.mono s t)
  | _, _, .tup h t => .tup (s _ _ h) (Ats.mono s t)
  | _, _, .dic h k t => .dic (s _ _ h) k (Ats.mono s t)
  | _, _, .obj h k t => .obj (s _ _ h) k (Ats.mono s t)
  | _, _, .scr h => .scr (s.seq h)
  | _, _, .ty b => .ty b
  | _, _, .cls b => .cls b
theorem Ats.mono {K : PySem.W.Frag} {G G' : Hp} (s : Same G G') : ∀ {v : List V} {d : List Da}, Ats K G v d → Ats K G' v d
  | _, _, .nil => .nil
  | _, _, .cons h t => .cons (At.mono s h) (Ats.mono s t)
end
section
variable {K : PySem.W.Frag} {G : Hp}
theorem Ats.length : ∀ {vs : List V} {ds : List Da}, Ats K G vs ds → vs.length = ds.length
  | _, _, .nil => rfl
  | _, _, .cons _ t => by
    rw [List.length_cons, List.length_cons, Ats.length t]
theorem Ats.get : ∀ {vs : List V} {ds : List Da} {i : Nat} {d : Da}, Ats K G vs ds → ds[i]? = some d → ∃ v, vs[i]? = some v ∧ At K G v d
  | _, _, i, d, .nil, e => by simp at e
  | _, _, 0, d, .cons h t, e => by
    simp at e
    subst e
    exact ⟨_, rfl, h⟩
  | _, _, i + 1, d, .cons h t, e => by
    obtain ⟨v, h1, h2⟩ := Ats.get (i := i) (d := d) t (by simpa using e)
    exact ⟨v, by simpa using h1, h2⟩
theorem Ats.append : ∀ {vs ws : List V} {ds es : List Da}, Ats K G vs ds → Ats K G ws es → Ats K G (vs ++ ws) (ds ++ es)
  | _, _, _, _, .nil, s => s
  | _, _, _, _, .cons r t, s => .cons r (Ats.append t s)
theorem Ats.take : ∀ {vs : List V} {ds : List Da} (n : Nat), Ats K G vs ds → Ats K G (vs.take n) (ds.take n)
  | _, _, 0, _ => .nil
  | _, _, _ + 1, .nil => .nil
  | _, _, n + 1, .cons r t => .cons r (Ats.take n t)
theorem Ats.drop : ∀ {vs : List V} {ds : List Da} (n : Nat), Ats K G vs ds → Ats K G (vs.drop n) (ds.drop n)
  | _, _, 0, r => r
  | _, _, _ + 1, .nil => .nil
  | _, _, n + 1, .cons _ t => Ats.drop n t
theorem Ats.set {v : V} {d : Da} (h : At K G v d) : ∀ {vs : List V} {ds : List Da} (i : Nat), Ats K G vs ds → Ats K G (vs.set i v) (ds.set i d)
  | _, _, _, .nil => .nil
  | _, _, 0, .cons _ t => .cons h t
  | _, _, i + 1, .cons q t => .cons q (Ats.set h i t)
theorem Ats.erase : ∀ {vs : List V} {ds : List Da} (i : Nat), Ats K G vs ds → Ats K G (vs.eraseIdx i) (ds.eraseIdx i)
  | _, _, _, .nil => .nil
  | _, _, 0, .cons _ t => t
  | _, _, i + 1, .cons q t => .cons q (Ats.erase i t)
theorem Ats.reverse : ∀ {vs : List V} {ds : List Da}, Ats K G vs ds → Ats K G vs.reverse ds.reverse
  | _, _, .nil => .nil
  | _, _, .cons r t => by
    rw [List.reverse_cons, List.reverse_cons]
    exact (Ats.reverse t).append (.cons r .nil)
theorem Ats.dropLast : ∀ {vs : List V} {ds : List Da}, Ats K G vs ds → Ats K G vs.dropLast ds.dropLast
  | _, _, h => by
    rw [List.dropLast_eq_take, List.dropLast_eq_take, h.length]
    exact h.take _
theorem Ats.ints : ∀ {vs : List V} {ns : List Int}, Ats K G vs (ns.map Da.int) → vs = ns.map V.int
  | _, [], h => by
    cases h
    rfl
  | _, n :: ns, h => by
    cases h with
    | cons a t =>
      cases a
      rw [Ats.ints t]
      rfl
theorem Ats.ofInts : ∀ ns : List Int, Ats K G (ns.map V.int) (ns.map Da.int)
  | [] => .nil
  | n :: ns => .cons (.int n) (Ats.ofInts ns)
theorem Ats.bls : ∀ {vs : List V} {ns : List Bool}, Ats K G vs (ns.map Da.bl) → vs = ns.map V.bl
  | _, [], h => by
    cases h
    rfl
  | _, n :: ns, h => by
    cases h with
    | cons a t =>
      cases a
      rw [Ats.bls t]
      rfl
theorem Ats.strs : ∀ {vs : List V} {ns : List Str}, Ats K G vs (ns.map Da.str) → vs = ns.map V.str
  | _, [], h => by
    cases h
    rfl
  | _, n :: ns, h => by
    cases h with
    | cons a t =>
      cases a
      rw [Ats.strs t]
      rfl
end

theorem nn {x : HO} : (some x : Option HO) ≠ none := by intro z; cases z
/-! ### slots -/
inductive Sl where
  | u | d (x : Da) | l (xs : List Da) | m (kvs : List (Int × Da)) | pot | self (C : Addr) (ns : List Str) (vs : List Da)
def Sl.own : Sl → Bool
  | .l _ => true
  | .m _ => true
  | .pot => true
  | .self _ _ _ => true
  | _ => false
abbrev En := List Sl
/-- a body's start: its heap, its frame, the objects that it may change -/
structure Ctx where
  H0 : Hp
  G0 : Hp
  B : Addr → Prop
def PotAt (H : Hp) (p : Addr) : Prop := ∃ a b : Int, H p = some (.lst [.int a, .int b]) ∧ 0 ≤ a ∧ 0 ≤ b ∧ b < 2147483587
def SlAt (K : PySem.W.Frag) (c : Ctx) (G H : Hp) (o : Option V) : Sl → Prop
  | .u => True
  | .d x => ∃ v, o = some v ∧ At K G v x
  | .l xs => ∃ p vs, o = some (.ref p) ∧ G p = none ∧ c.H0 p = none ∧ H p = some (.lst vs) ∧ Ats K G vs xs
  | .m ds => ∃ p kvs, o = some (.ref p) ∧ G p = none ∧ c.H0 p = none ∧ H p = some (.dK kvs) ∧ kvs.map (·.1) = ds.map (fun q => Sum.inl q.1) ∧ Ats K G (kvs.map (·.2)) (ds.map (·.2))
  | .pot => ∃ p, o = some (.ref p) ∧ G p = none ∧ c.B p ∧ PotAt H p
  | .self C ns ds => ∃ p dx fs, o = some (.ref p) ∧ G p = none ∧ c.B p ∧ H p = some (.ins C dx fs) ∧ fs.map (·.1) = ns ∧ Ats K G (fs.map (·.2)) ds
def Own (σ : L2.St) (env : En) (i : Nat) (p : Addr) : Prop := ∃ s, env[i]? = some s ∧ s.own = true ∧ σ[i]? = some (some (.ref p))
structure Stt (K : PySem.W.Frag) (c : Ctx) (G : Hp) (σ : L2.St) (H : Hp) (env : En) : Prop where
  len : σ.length = env.length
  base : ∀ b o, c.H0 b = some o → ¬ c.B b → H b = some o
  al : ∀ b, c.H0 b ≠ none → H b ≠ none
  g0 : Same c.G0 G
  gh : Same G H
  gf : ∀ b, c.G0 b = none → c.H0 b ≠ none → G b = none
  sl : ∀ (i : Nat) (s : Sl), env[i]? = some s → ∃ o : Option V, σ[i]? = some o ∧ SlAt K c G H o s
  ap : ∀ i j p, Own σ env i p → Own σ env j p → i = j
/-- a step of an expression -/
structure Stp (K : PySem.W.Frag) (c : Ctx) (G : Hp) (σ : L2.St) (H : Hp) (env : En) (G' H' : Hp) (env' : En) : Prop where
  st : Stt K c G' σ H' env'
  gg : Same G G'
  gf : ∀ b, G b = none → H b ≠ none → G' b = none
  kp : ∀ b o, H b = some o → (∀ i, ¬ Own σ env i b) → H' b = some o
  al : ∀ b, H b ≠ none → H' b ≠ none
  ow : ∀ i p, Own σ env' i p ↔ Own σ env i p
section
variable {K : PySem.W.Frag} {c : Ctx} {G G' H H' G1 H1 : Hp} {σ : L2.St} {env env' env1 : En} {p : Addr} {o : HO}
theorem Stp.refl (S : Stt K c G σ H env) : Stp K c G σ H env G H env := ⟨S, Same.refl G, fun _ h _ => h, fun _ _ h _ => h, fun _ h => h, fun _ _ => Iff.rfl⟩
theorem Stp.trans (a : Stp K c G σ H env G1 H1 env1) (b : Stp K c G1 σ H1 env1 G' H' env') : Stp K c G σ H env G' H' env' :=
  ⟨b.st, a.gg.trans b.gg, fun x h h2 => b.gf x (a.gf x h h2) (a.al x h2), fun x o h n => b.kp x o (a.kp x o h n) fun i z => n i ((a.ow i x).mp z), fun x h => b.al x (a.al x h), fun i p => (b.ow i p).trans (a.ow i p)⟩
theorem SlAt.grow {o : Option V} {s : Sl} (h : SlAt K c G H o s) (gg : Same G G') (hp : ∀ p x, o = some (.ref p) → s.own = true → H p = some x → H' p = some x) (gn : ∀ p, o = some (.ref p) → s.own = true → G p = none → G' p = none) : SlAt K c G' H' o s := by
  cases s with
  | u => exact True.intro
  | d x =>
    obtain ⟨v, e, a⟩ := h
    exact ⟨v, e, a.mono gg⟩
  | l xs =>
    obtain ⟨p, vs, e, a, b, d, f⟩ := h
    exact ⟨p, vs, e, gn p e rfl a, b, hp p _ e rfl d, f.mono gg⟩
  | m ds =>
    obtain ⟨p, vs, e, a, b, d, f, g⟩ := h
    exact ⟨p, vs, e, gn p e rfl a, b, hp p _ e rfl d, f, g.mono gg⟩
  | pot =>
    obtain ⟨p, e, a, b, x, y, d, f⟩ := h
    exact ⟨p, e, gn p e rfl a, b, x, y, hp p _ e rfl d, f⟩
  | self C ns ds =>
    obtain ⟨p, dx, fs, e, a, b, d, f, g⟩ := h
    exact ⟨p, dx, fs, e, gn p e rfl a, b, hp p _ e rfl d, f, g.mono gg⟩
theorem SlAt.ownH {o : Option V} {s : Sl} (h : SlAt K c G H o s) (w : s.own = true) : ∃ p x, o = some (.ref p) ∧ G p = none ∧ (c.H0 p = none ∨ c.B p) ∧ H p = some x := by
  cases s with
  | u => cases w
  | d x => cases w
  | l xs =>
    obtain ⟨p, vs, e, a, b, d, f⟩ := h
    exact ⟨p, _, e, a, .inl b, d⟩
  | m ds =>
    obtain ⟨p, vs, e, a, b, d, f, g⟩ := h
    exact ⟨p, _, e, a, .inl b, d⟩
  | pot =>
    obtain ⟨p, e, a, b, x, y, d, f⟩ := h
    exact ⟨p, _, e, a, .inr b, d⟩
  | self C ns ds =>
    obtain ⟨p, dx, fs, e, a, b, d, f, g⟩ := h
    exact ⟨p, _, e, a, .inr b, d⟩
theorem Stt.own (S : Stt K c G σ H env) {i : Nat} (w : Own σ env i p) : G p = none ∧ (c.H0 p = none ∨ c.B p) ∧ H p ≠ none := by
  obtain ⟨s, e, ho, es⟩ := w
  obtain ⟨o, eo, h⟩ := S.sl i s e
  obtain ⟨q, x, e1, e2, e3, e4⟩ := h.ownH ho
  rw [es] at eo
  cases eo
  cases e1
  exact ⟨e2, e3, by rw [e4]; exact nn⟩
theorem Stt.notOwn (S : Stt K c G σ H env) (h : H p = none) (i : Nat) : ¬ Own σ env i p := fun w => (S.own w).2.2 h
theorem Stt.notOwnG (S : Stt K c G σ H env) {x : HO} (h : G p = some x) (i : Nat) : ¬ Own σ env i p := fun w => by
  have := (S.own w).1
  rw [h] at this
  cases this
/-- the heap grows or changes off the owned, the frame grows by what is new -/
theorem Stt.ext (S : Stt K c G σ H env) (gg : Same G G') (gh : Same G' H') (gf : ∀ b, H b ≠ none → G b = none → G' b = none) (kp : ∀ b x, H b = some x → H' b = some x) : Stt K c G' σ H' env :=
  ⟨S.len, fun b o e n => kp b o (S.base b o e n), fun b e => by
    have := S.al b e
    cases q : H b with
    | none => exact absurd q this
    | some x =>
      rw [kp b x q]
      exact nn, S.g0.trans gg, gh, fun b e1 e2 => gf b (S.al b e2) (S.gf b e1 e2), fun i s e => by
    obtain ⟨o, eo, h⟩ := S.sl i s e
    refine ⟨o, eo, h.grow gg (fun p x _ _ e => kp p x e) fun p ep w gn => gf p ?_ gn⟩
    subst ep
    exact (S.own ⟨s, e, w, eo⟩).2.2, S.ap⟩
theorem Stp.ext (S : Stt K c G σ H env) (gg : Same G G') (gh : Same G' H') (gf : ∀ b, H b ≠ none → G b = none → G' b = none) (kp : ∀ b x, H b = some x → H' b = some x) : Stp K c G σ H env G' H' env :=
  ⟨S.ext gg gh gf kp, gg, fun b e1 e2 => gf b e2 e1, fun b x e _ => kp b x e, fun b e => by
    cases q : H b with
    | none => exact absurd q e
    | some x =>
      rw [kp b x q]
      exact nn, fun _ _ => Iff.rfl⟩
theorem same_upd {H : Hp} {p : Addr} {o : HO} (h : H p = none) : Same H (upd H p o) := fun b x e => by
  rw [upd_ne (ne_of_none e h)]
  exact e
theorem Stp.new (S : Stt K c G σ H env) (h : H p = none) : Stp K c G σ H env G (upd H p o) env :=
  Stp.ext S (Same.refl G) (S.gh.trans (same_upd h)) (fun _ _ e => e) (same_upd h)
theorem Stt.free (S : Stt K c G σ H env) (h : H p = none) : G p = none := S.gh.free h
/-- new and in the frame -/
theorem Stp.newG (S : Stt K c G σ H env) (h : H p = none) : Stp K c G σ H env (upd G p o) (upd H p o) env := by
  refine Stp.ext S (same_upd (S.free h)) (fun b x e => ?_) (fun b e1 e2 => ?_) (same_upd h)
  · by_cases hb : b = p
    · subst hb
      rw [upd_same] at e ⊢
      exact e
    · rw [upd_ne hb] at e ⊢
      exact S.gh b x e
  · rw [upd_ne (by intro z; rw [z] at e1; exact e1 h)]
    exact e2
/-- a new object comes into the frame -/
theorem Stp.absorb (S : Stt K c G σ H env) (T : Stp K c G σ H env G1 H1 env1) (hn : H p = none) (h1 : H1 p = some o) (no : ∀ i, ¬ Own σ env1 i p) : Stp K c G σ H env (upd G1 p o) H1 env1 := by
  have h0 : c.H0 p = none := by
    cases q : c.H0 p with
    | none => rfl
    | some x => exact absurd hn (S.al p (by rw [q]; exact nn))
  have up : ∀ b, b ≠ p → (upd G1 p o) b = G1 b := fun b hb => upd_ne hb
  have gg : Same G1 (upd G1 p o) := fun b x e => by
    by_cases hb : b = p
    · subst hb
      have := T.st.gh b x e
      rw [h1] at this
      rw [upd_same, this]
    · rw [up b hb]
      exact e
  have gh : Same (upd G1 p o) H1 := fun b x e => by
    by_cases hb : b = p
    · subst hb
      rw [upd_same] at e
      rw [h1, e]
    · rw [up b hb] at e
      exact T.st.gh b x e
  refine ⟨⟨T.st.len, T.st.base, T.st.al, T.st.g0.trans gg, gh, fun b e1 e2 => ?_, fun i s e => ?_, T.st.ap⟩, T.gg.trans gg, fun b e1 e2 => ?_, T.kp, T.al, T.ow⟩
  · rw [up b (by intro z; rw [z] at e2; exact e2 h0)]
    exact T.st.gf b e1 e2
  · obtain ⟨ov, eo, h⟩ := T.st.sl i s e
    refine ⟨ov, eo, h.grow gg (fun _ _ _ _ e => e) fun q eq w gn => ?_⟩
    subst eq
    rw [up q (fun z => no i ⟨s, e, w, by rw [← z]; exact eo⟩)]
    exact gn
  · rw [up b (by intro z; rw [z] at e2; exact e2 hn)]
    exact T.gf b e1 e2
theorem Stp.absorb_gg (T : Stp K c G σ H env G1 H1 env1) (h1 : H1 p = some o) : Same G1 (upd G1 p o) := fun b x e => by
  by_cases hb : b = p
  · subst hb
    have := T.st.gh b x e
    rw [h1] at this
    rw [upd_same, this]
  · rw [upd_ne hb]
    exact e
/-- an owned object is changed -/
theorem Stp.mut (S : Stt K c G σ H env) {i : Nat} {s s' : Sl} (hi : env[i]? = some s) (ho : s.own = true) (ho' : s'.own = true) (hs : σ[i]? = some (some (.ref p))) (hn : SlAt K c G (upd H p o) (some (.ref p)) s') : Stp K c G σ H env G (upd H p o) (env.set i s') := by
  have w : Own σ env i p := ⟨s, hi, ho, hs⟩
  have hl : i < env.length := (List.getElem?_eq_some_iff.mp hi).1
  obtain ⟨gp, hb, hp⟩ := S.own w
  have ow : ∀ j q, Own σ (env.set i s') j q ↔ Own σ env j q := fun j q => by
    by_cases hj : j = i
    · subst hj
      constructor
      · rintro ⟨t, e, h1, h2⟩
        exact ⟨s, hi, ho, h2⟩
      · rintro ⟨t, e, h1, h2⟩
        exact ⟨s', by rw [List.getElem?_set_self hl], ho', h2⟩
    · constructor
      · rintro ⟨t, e, h1, h2⟩
        rw [List.getElem?_set_ne (Ne.symm hj)] at e
        exact ⟨t, e, h1, h2⟩
      · rintro ⟨t, e, h1, h2⟩
        exact ⟨t, by rw [List.getElem?_set_ne (Ne.symm hj)]; exact e, h1, h2⟩
  have al : ∀ b, H b ≠ none → upd H p o b ≠ none := fun b e => by
    by_cases hbp : b = p
    · rw [hbp, upd_same]
      exact nn
    · rw [upd_ne hbp]
      exact e
  have gne : ∀ b x, G b = some x → b ≠ p := fun b x e z => by
    rw [z, gp] at e
    cases e
  refine ⟨⟨by rw [List.length_set]; exact S.len, fun b x e n => ?_, fun b e => al b (S.al b e), S.g0, fun b x e => ?_, S.gf, fun j t e => ?_, fun j k q h1 h2 => S.ap j k q ((ow j q).mp h1) ((ow k q).mp h2)⟩, Same.refl G, fun b e _ => e, fun b x e n => ?_, al, ow⟩
  · have hbp : b ≠ p := fun z => by
      subst z
      rcases hb with z | z
      · rw [e] at z
        cases z
      · exact n z
    rw [upd_ne hbp]
    exact S.base b x e n
  · rw [upd_ne (gne b x e)]
    exact S.gh b x e
  · by_cases hj : j = i
    · subst hj
      rw [List.getElem?_set_self hl] at e
      cases e
      exact ⟨_, hs, hn⟩
    · rw [List.getElem?_set_ne (Ne.symm hj)] at e
      obtain ⟨ov, eo, q⟩ := S.sl j t e
      refine ⟨ov, eo, q.grow (Same.refl G) (fun r x er wr ex => ?_) fun _ _ _ z => z⟩
      subst er
      have hr : r ≠ p := fun z => by
        subst z
        exact hj (S.ap j i r ⟨t, e, wr, eo⟩ w)
      rw [upd_ne hr]
      exact ex
  · rw [upd_ne (fun z => by subst z; exact n i w)]
    exact e
/-- an object that is not owned and not in the frame, new since the start, may change -/
theorem Stt.off (S : Stt K c G σ H env) (h0 : c.H0 p = none) (gp : G p = none) (no : ∀ i, ¬ Own σ env i p) : Stt K c G σ (upd H p o) env := by
  refine ⟨S.len, fun b x e n => ?_, fun b e => ?_, S.g0, fun b x e => ?_, S.gf, fun j t e => ?_, S.ap⟩
  · rw [upd_ne (fun z => by subst z; rw [h0] at e; cases e)]
    exact S.base b x e n
  · by_cases hb : b = p
    · rw [hb, upd_same]
      exact nn
    · rw [upd_ne hb]
      exact S.al b e
  · rw [upd_ne (fun z => by subst z; rw [gp] at e; cases e)]
    exact S.gh b x e
  · obtain ⟨ov, eo, q⟩ := S.sl j t e
    refine ⟨ov, eo, q.grow (Same.refl G) (fun r x er wr ex => ?_) fun _ _ _ z => z⟩
    subst er
    rw [upd_ne (fun z => by subst z; exact no j ⟨t, e, wr, eo⟩)]
    exact ex
theorem Stt.h0 (S : Stt K c G σ H env) (h : H p = none) : c.H0 p = none := by
  cases q : c.H0 p with
  | none => rfl
  | some x => exact absurd h (S.al p (by rw [q]; exact nn))
end

/-! ### what an expression gives -/
inductive RV where
  | da (d : Da) | sl (i : Nat) | fl (xs : List Da) | fm (kvs : List (Int × Da))
inductive AtR (K : PySem.W.Frag) (Hs G : Hp) (σ : L2.St) (H : Hp) (env : En) : V → RV → Prop
  | da {v : V} {d : Da} : At K G v d → AtR K Hs G σ H env v (.da d)
  | sl {p : Addr} {i : Nat} : Own σ env i p → AtR K Hs G σ H env (.ref p) (.sl i)
  | fl {p : Addr} {vs : List V} {xs : List Da} : Hs p = none → G p = none → H p = some (.lst vs) → Ats K G vs xs → (∀ i, ¬ Own σ env i p) → AtR K Hs G σ H env (.ref p) (.fl xs)
  | fm {p : Addr} {kvs : List (Key × V)} {ds : List (Int × Da)} : Hs p = none → G p = none → H p = some (.dK kvs) → kvs.map (·.1) = ds.map (fun q => Sum.inl q.1) → Ats K G (kvs.map (·.2)) (ds.map (·.2)) → (∀ i, ¬ Own σ env i p) → AtR K Hs G σ H env (.ref p) (.fm ds)
abbrev AtRs (K : PySem.W.Frag) (Hs G : Hp) (σ : L2.St) (H : Hp) (env : En) : List V → List RV → Prop := Paired (AtR K Hs G σ H env)
abbrev DT := En → (RV → En → Prop) → Prop
abbrev DTT := En → (Bool → En → Prop) → Prop
abbrev DAT := En → (List RV → En → Prop) → Prop
structure DEn where
  nx : En → Prop
  rt : Da → En → Prop
  bk : En → Prop := fun _ => False
  ct : En → Prop := fun _ => False
abbrev DTS := DEn → En → Prop
def RE (K : PySem.W.Frag) (t : TE) (d : DT) : Prop := ∀ (c : Ctx) (G : Hp) (σ : L2.St) (H : Hp) (env : En) (P : RV → En → Prop) (Q : VK), Stt K c G σ H env → d env P →
  (∀ v r G' H' env', Stp K c G σ H env G' H' env' → AtR K H G' σ H' env' v r → P r env' → Q v H') → t σ H Q
def RT (K : PySem.W.Frag) (t : TT) (d : DTT) : Prop := ∀ (c : Ctx) (G : Hp) (σ : L2.St) (H : Hp) (env : En) (P : Bool → En → Prop) (Q : Bool → Hp → Prop), Stt K c G σ H env → d env P →
  (∀ b G' H' env', Stp K c G σ H env G' H' env' → P b env' → Q b H') → t σ H Q
def RA (K : PySem.W.Frag) (t : TA) (d : DAT) : Prop := ∀ (c : Ctx) (G : Hp) (σ : L2.St) (H : Hp) (env : En) (P : List RV → En → Prop) (Q : List V → Hp → Prop), Stt K c G σ H env → d env P →
  (∀ vs rs G' H' env', Stp K c G σ H env G' H' env' → AtRs K H G' σ H' env' vs rs → P rs env' → Q vs H') → t σ H Q
structure EndsOk (K : PySem.W.Frag) (c : Ctx) (De : DEn) (D : Ends) : Prop where
  nx : ∀ G σ H env, Stt K c G σ H env → De.nx env → D.nx σ H
  rt : ∀ v d G σ H env, Stt K c G σ H env → At K G v d → De.rt d env → D.rt v H
  bk : ∀ G σ H env, Stt K c G σ H env → De.bk env → D.bk σ H
  ct : ∀ G σ H env, Stt K c G σ H env → De.ct env → D.ct σ H
def RS (K : PySem.W.Frag) (t : TS) (d : DTS) : Prop := ∀ (c : Ctx) (G : Hp) (σ : L2.St) (H : Hp) (env : En) (De : DEn) (D : Ends), Stt K c G σ H env → d De env → EndsOk K c De D → t D σ H
structure DE (X : Cx) (e : Expr) (t : TE) (d : DT) : Prop where
  pe : PE X e t
  rf : RE X.K t d
structure DTs (X : Cx) (e : Expr) (t : TT) (d : DTT) : Prop where
  pt : PT X e t
  rf : RT X.K t d
structure DWs (X : Cx) (e : Expr) (t : TT) (d : DTT) : Prop where
  pw : PW X e t
  rf : RT X.K t d
structure DA (X : Cx) (es : List Expr) (t : TA) (d : DAT) : Prop where
  pa : PA X es t
  rf : RA X.K t d
structure DS (X : Cx) (st : Stmt) (t : TS) (d : DTS) : Prop where
  ps : PS X st t
  rf : RS X.K t d
structure DSs (X : Cx) (st : List Stmt) (t : TS) (d : DTS) : Prop where
  ps : PSs X st t
  rf : RS X.K t d

section
variable {K : PySem.W.Frag} {c : Ctx} {Hs G G' H H' G1 H1 : Hp} {σ : L2.St} {env env' env1 : En} {p : Addr} {o : HO} {v : V} {r : RV} {vs : List V} {rs : List RV}
/-- a value stays what it is over a later step -/
theorem AtR.keep (T : Stp K c G σ H env G' H' env') (h : AtR K Hs G σ H env v r) : AtR K Hs G' σ H' env' v r := by
  cases h with
  | da a => exact .da (a.mono T.gg)
  | sl w => exact .sl ((T.ow _ _).mpr w)
  | fl a b d e f => exact .fl a (T.gf _ b (by rw [d]; exact nn)) (T.kp _ _ d f) (e.mono T.gg) fun i w => f i ((T.ow i _).mp w)
  | fm a b d k e f => exact .fm a (T.gf _ b (by rw [d]; exact nn)) (T.kp _ _ d f) k (e.mono T.gg) fun i w => f i ((T.ow i _).mp w)
theorem AtRs.keep (T : Stp K c G σ H env G' H' env') : ∀ {vs : List V} {rs : List RV}, AtRs K Hs G σ H env vs rs → AtRs K Hs G' σ H' env' vs rs
  | _, _, .nil => .nil
  | _, _, .cons h t => .cons (h.keep T) (AtRs.keep T t)
theorem AtR.start (T : ∀ b, Hs b ≠ none → H1 b ≠ none) (h : AtR K H1 G σ H env v r) : AtR K Hs G σ H env v r := by
  have q : ∀ {b : Addr}, H1 b = none → Hs b = none := fun {b} e => by
    cases z : Hs b with
    | none => rfl
    | some x => exact absurd e (T b (by rw [z]; exact nn))
  cases h with
  | da a => exact .da a
  | sl w => exact .sl w
  | fl a b d e f => exact .fl (q a) b d e f
  | fm a b d k e f => exact .fm (q a) b d k e f
theorem AtRs.start (T : ∀ b, Hs b ≠ none → H1 b ≠ none) : ∀ {vs : List V} {rs : List RV}, AtRs K H1 G σ H env vs rs → AtRs K Hs G σ H env vs rs
  | _, _, .nil => .nil
  | _, _, .cons h t => .cons (h.start T) (AtRs.start T t)
/-- what a value is as data -/
def toDa : RV → Option Da
  | .da d => some d
  | .sl _ => none
  | .fl xs => some (.lst xs)
  | .fm ds => some (.dic ds)
theorem AtR.absorb (S : Stt K c G σ H env) (T : Stp K c G σ H env G1 H1 env1) (h : AtR K H G1 σ H1 env1 v r) {d : Da} (e : toDa r = some d) : ∃ G2, Stp K c G σ H env G2 H1 env1 ∧ At K G2 v d ∧ Same G1 G2 ∧ ∀ b, H b ≠ none → G1 b = none → G2 b = none := by
  cases h with
  | da a =>
    cases e
    exact ⟨G1, T, a, Same.refl _, fun _ _ h => h⟩
  | sl w => cases e
  | fl a b d e' f =>
    cases e
    exact ⟨_, T.absorb S a d f, .lst upd_same (e'.mono (T.absorb_gg d)), T.absorb_gg d, fun b e1 e2 => by
      rw [upd_ne (by intro z; rw [z] at e1; exact e1 a)]
      exact e2⟩
  | fm a b d k e' f =>
    cases e
    exact ⟨_, T.absorb S a d f, .dic upd_same k (e'.mono (T.absorb_gg d)), T.absorb_gg d, fun b e1 e2 => by
      rw [upd_ne (by intro z; rw [z] at e1; exact e1 a)]
      exact e2⟩
def onDa (r : RV) (k : Da → Prop) : Prop := match toDa r with
  | some d => k d
  | none => False
theorem onDa_some {r : RV} {k : Da → Prop} (h : onDa r k) : ∃ d, toDa r = some d ∧ k d := by
  unfold onDa at h
  split at h
  · exact ⟨_, by assumption, h⟩
  · exact False.elim h
def onInt (r : RV) (k : Int → Prop) : Prop := match r with
  | .da (.int i) => k i
  | _ => False
theorem onInt_some {r : RV} {k : Int → Prop} (h : onInt r k) : ∃ i, r = .da (.int i) ∧ k i := by
  unfold onInt at h
  split at h
  · exact ⟨_, rfl, h⟩
  · exact False.elim h
def onBl (r : RV) (k : Bool → Prop) : Prop := match r with
  | .da (.bl i) => k i
  | _ => False
theorem onBl_some {r : RV} {k : Bool → Prop} (h : onBl r k) : ∃ i, r = .da (.bl i) ∧ k i := by
  unfold onBl at h
  split at h
  · exact ⟨_, rfl, h⟩
  · exact False.elim h
def onStr (r : RV) (k : Str → Prop) : Prop := match r with
  | .da (.str i) => k i
  | _ => False
theorem onStr_some {r : RV} {k : Str → Prop} (h : onStr r k) : ∃ i, r = .da (.str i) ∧ k i := by
  unfold onStr at h
  split at h
  · exact ⟨_, rfl, h⟩
  · exact False.elim h
/-- a list to be read: data, owned, new -/
def vL (env : En) : RV → Option (List Da)
  | .da (.lst xs) => some xs
  | .fl xs => some xs
  | .sl i => match env[i]? with
    | some (.l xs) => some xs
    | _ => none
  | _ => none
def onL (env : En) (r : RV) (k : List Da → Prop) : Prop := match vL env r with
  | some d => k d
  | none => False
theorem onL_some {r : RV} {k : List Da → Prop} (h : onL env r k) : ∃ d, vL env r = some d ∧ k d := by
  unfold onL at h
  split at h
  · exact ⟨_, by assumption, h⟩
  · exact False.elim h
theorem vL_at (S : Stt K c G σ H env) (h : AtR K Hs G σ H env v r) {xs : List Da} (e : vL env r = some xs) : ∃ p vs, v = .ref p ∧ H p = some (.lst vs) ∧ Ats K G vs xs := by
  cases h with
  | da a =>
    cases a with
    | lst h1 h2 =>
      cases e
      exact ⟨_, _, rfl, S.gh _ _ h1, h2⟩
    | _ => cases e
  | @sl p i w =>
    obtain ⟨s, e1, ho, es⟩ := w
    simp only [vL, e1] at e
    cases s with
    | l ys =>
      cases e
      obtain ⟨o, eo, q⟩ := S.sl i _ e1
      obtain ⟨p2, vs, e2, _, _, e3, e4⟩ := q
      rw [es] at eo
      cases eo
      cases e2
      exact ⟨_, _, rfl, e3, e4⟩
    | _ => cases e
  | fl a b d e' f =>
    cases e
    exact ⟨_, _, rfl, d, e'⟩
  | fm a b d k e' f => cases e
def onT (r : RV) (k : List Da → Prop) : Prop := match r with
  | .da (.tup xs) => k xs
  | _ => False
theorem onT_some {r : RV} {k : List Da → Prop} (h : onT r k) : ∃ xs, r = .da (.tup xs) ∧ k xs := by
  unfold onT at h
  split at h
  · exact ⟨_, rfl, h⟩
  · exact False.elim h
theorem vT_at (S : Stt K c G σ H env) {xs : List Da} (h : AtR K Hs G σ H env v (.da (.tup xs))) : ∃ p vs, v = .ref p ∧ H p = some (.tup vs) ∧ Ats K G vs xs := by
  cases h with
  | da a =>
    cases a with
    | tup h1 h2 => exact ⟨_, _, rfl, S.gh _ _ h1, h2⟩
/-- a dict to be read -/
def vM (env : En) : RV → Option (List (Int × Da))
  | .da (.dic ds) => some ds
  | .fm ds => some ds
  | .sl i => match env[i]? with
    | some (.m ds) => some ds
    | _ => none
  | _ => none
def onM (env : En) (r : RV) (k : List (Int × Da) → Prop) : Prop := match vM env r with
  | some d => k d
  | none => False
theorem onM_some {r : RV} {k : List (Int × Da) → Prop} (h : onM env r k) : ∃ ds, vM env r = some ds ∧ k ds := by
  unfold onM at h
  split at h
  · exact ⟨_, by assumption, h⟩
  · exact False.elim h
theorem vM_at (S : Stt K c G σ H env) (h : AtR K Hs G σ H env v r) {ds : List (Int × Da)} (e : vM env r = some ds) : ∃ p kvs, v = .ref p ∧ H p = some (.dK kvs) ∧ kvs.map (·.1) = ds.map (fun q => Sum.inl q.1) ∧ Ats K G (kvs.map (·.2)) (ds.map (·.2)) := by
  cases h with
  | da a =>
    cases a with
    | dic h1 h2 h3 =>
      cases e
      exact ⟨_, _, rfl, S.gh _ _ h1, h2, h3⟩
    | _ => cases e
  | @sl p i w =>
    obtain ⟨s, e1, ho, es⟩ := w
    simp only [vM, e1] at e
    cases s with
    | m ys =>
      cases e
      obtain ⟨o, eo, q⟩ := S.sl i _ e1
      obtain ⟨p2, vs, e2, _, _, e3, e4, e5⟩ := q
      rw [es] at eo
      cases eo
      cases e2
      exact ⟨_, _, rfl, e3, e4, e5⟩
    | _ => cases e
  | fl a b d e' f => cases e
  | fm a b d k e' f =>
    cases e
    exact ⟨_, _, rfl, d, k, e'⟩
end
end RK
-- D1
set_option Elab.async false
set_option linter.all false
set_option maxRecDepth 100000
set_option maxHeartbeats 4000000
/-! D1: expressions, tests, arguments without a heap -/
namespace RK
open PySem PySem.Spec PyProof.Rows L2

section
variable {K : PySem.W.Frag} {c : Ctx} {Hs G G' H H' G1 H1 : Hp} {σ : L2.St} {env env' env1 : En} {p : Addr} {o : HO} {v : V} {r : RV} {vs : List V} {rs : List RV}
theorem AtR.int {i : Int} (h : AtR K Hs G σ H env v (.da (.int i))) : v = .int i := by
  cases h with
  | da a => cases a; rfl
theorem AtR.bl {i : Bool} (h : AtR K Hs G σ H env v (.da (.bl i))) : v = .bl i := by
  cases h with
  | da a => cases a; rfl
theorem AtR.str {i : Str} (h : AtR K Hs G σ H env v (.da (.str i))) : v = .str i := by
  cases h with
  | da a => cases a; rfl
end
/-! ### names, constants -/
def dVar (i : Nat) : DT := fun env P => match env[i]? with
  | none => False
  | some .u => False
  | some (.d x) => P (.da x) env
  | some _ => P (.sl i) env
def dC (d : Da) : DT := fun env P => P (.da d) env
section
variable {K : PySem.W.Frag}
theorem re_var {i : Nat} : RE K (tVar i) (dVar i) := by
  intro c G σ H env P Q S h post
  unfold dVar at h
  have own : ∀ s : Sl, env[i]? = some s → s.own = true → P (.sl i) env → tVar i σ H Q := fun s e ho hp => by
    obtain ⟨o, eo, q⟩ := S.sl i s e
    obtain ⟨p, x, e1, _⟩ := q.ownH ho
    subst e1
    exact ⟨_, eo, post _ _ G H env (Stp.refl S) (.sl ⟨s, e, ho, eo⟩) hp⟩
  split at h
  · exact False.elim h
  · exact False.elim h
  · rename_i x e
    obtain ⟨o, eo, q⟩ := S.sl i _ e
    obtain ⟨v, e1, a⟩ := q
    subst e1
    exact ⟨v, eo, post _ _ G H env (Stp.refl S) (.da a) h⟩
  · rename_i s n1 n2 e
    cases s with
    | u => exact absurd rfl n1
    | d x => exact absurd rfl (n2 x)
    | l xs => exact own _ e rfl h
    | m a => exact own _ e rfl h
    | pot => exact own _ e rfl h
    | self a b d => exact own _ e rfl h
theorem re_c {v : V} {d : Da} (hc : ∀ G, At K G v d) : RE K (tC v) (dC d) := by
  intro c G σ H env P Q S h post
  exact post _ _ G H env (Stp.refl S) (.da (hc G)) h
end
/-! ### operators by values -/
abbrev KO := RV → RV → En → (RV → En → Prop) → Prop
def RO (K : PySem.W.Frag) (r : R2) (k : KO) : Prop := ∀ (c : Ctx) (Hs G : Hp) (σ : L2.St) (H : Hp) (env : En) (x y : V) (r1 r2 : RV) (P : RV → En → Prop) (Q : VK), Stt K c G σ H env → AtR K Hs G σ H env x r1 → AtR K Hs G σ H env y r2 → k r1 r2 env P →
  (∀ v r G' H' env', Stp K c G σ H env G' H' env' → AtR K H G' σ H' env' v r → P r env' → Q v H') → r x y H Q
def dOp (k : KO) (da db : DT) : DT := fun env P => da env fun r1 e1 => db e1 fun r2 e2 => k r1 r2 e2 P
theorem re_op {K : PySem.W.Frag} {r : R2} {k : KO} {ta tb : TE} {da db : DT} (ro : RO K r k) (a : RE K ta da) (b : RE K tb db) : RE K (tOp r ta tb) (dOp k da db) := by
  intro c G σ H env P Q S h post
  refine a c G σ H env _ _ S h fun v1 r1 G1 H1 e1 T1 w1 h1 => ?_
  refine b c G1 σ H1 e1 _ _ T1.st h1 fun v2 r2 G2 H2 e2 T2 w2 h2 => ?_
  refine ro c H G2 σ H2 e2 v1 v2 r1 r2 P _ T2.st (w1.keep T2) (w2.start T1.al) h2 fun v r G3 H3 e3 T3 w3 h3 => ?_
  exact post v r G3 H3 e3 ((T1.trans T2).trans T3) (w3.start fun b hb => T2.al b (T1.al b hb)) h3
abbrev KU := RV → En → (RV → En → Prop) → Prop
def RU (K : PySem.W.Frag) (r : V → Hp → VK → Prop) (k : KU) : Prop := ∀ (c : Ctx) (Hs G : Hp) (σ : L2.St) (H : Hp) (env : En) (x : V) (r1 : RV) (P : RV → En → Prop) (Q : VK), Stt K c G σ H env → AtR K Hs G σ H env x r1 → k r1 env P →
  (∀ v r G' H' env', Stp K c G σ H env G' H' env' → AtR K H G' σ H' env' v r → P r env' → Q v H') → r x H Q
def dUn (k : KU) (da : DT) : DT := fun env P => da env fun r1 e1 => k r1 e1 P
theorem re_un {K : PySem.W.Frag} {r : V → Hp → VK → Prop} {k : KU} {ta : TE} {da : DT} (ro : RU K r k) (a : RE K ta da) : RE K (tUn r ta) (dUn k da) := by
  intro c G σ H env P Q S h post
  refine a c G σ H env _ _ S h fun v1 r1 G1 H1 e1 T1 w1 h1 => ?_
  refine ro c H G1 σ H1 e1 v1 r1 P _ T1.st w1 h1 fun v r G3 H3 e3 T3 w3 h3 => ?_
  exact post v r G3 H3 e3 (T1.trans T3) (w3.start T1.al) h3

def kII (C : Int → Int → Prop) (f : Int → Int → Int) : KO := fun r1 r2 env P => onInt r1 fun i => onInt r2 fun j => C i j ∧ P (.da (.int (f i j))) env
def kIB (f : Int → Int → Bool) : KO := fun r1 r2 env P => onInt r1 fun i => onInt r2 fun j => P (.da (.bl (f i j))) env
def kI0 (f : Int → Int → Int) : KO := fun r1 r2 env P => onInt r1 fun i => onInt r2 fun j => P (.da (.int (f i j))) env
section
variable {K : PySem.W.Frag}
theorem ro_I {C : Int → Int → Prop} {f : Int → Int → Int} : RO K (rI C fun i j => .int (f i j)) (kII C f) := by
  intro c Hs G σ H env x y r1 r2 P Q S w1 w2 h post
  obtain ⟨i, rfl, h1⟩ := onInt_some h
  obtain ⟨j, rfl, hc, h2⟩ := onInt_some h1
  cases w1.int
  cases w2.int
  exact ⟨i, j, rfl, rfl, hc, post _ _ G H env (Stp.refl S) (.da (.int _)) h2⟩
theorem ro_I0 {f : Int → Int → Int} : RO K (rI0 fun i j => .int (f i j)) (kI0 f) := by
  intro c Hs G σ H env x y r1 r2 P Q S w1 w2 h post
  obtain ⟨i, rfl, h1⟩ := onInt_some h
  obtain ⟨j, rfl, h2⟩ := onInt_some h1
  cases w1.int
  cases w2.int
  exact ⟨i, j, rfl, rfl, post _ _ G H env (Stp.refl S) (.da (.int _)) h2⟩
theorem ro_B0 {f : Int → Int → Bool} : RO K (rI0 fun i j => .bl (f i j)) (kIB f) := by
  intro c Hs G σ H env x y r1 r2 P Q S w1 w2 h post
  obtain ⟨i, rfl, h1⟩ := onInt_some h
  obtain ⟨j, rfl, h2⟩ := onInt_some h1
  cases w1.int
  cases w2.int
  exact ⟨i, j, rfl, rfl, post _ _ G H env (Stp.refl S) (.da (.bl _)) h2⟩
/-! texts -/
def kSS (f : Str → Str → Bool) : KO := fun r1 r2 env P => onStr r1 fun i => onStr r2 fun j => P (.da (.bl (f i j))) env
theorem ro_ltS : RO K (fun x y H Q => ∃ i j : Str, x = V.str i ∧ y = V.str j ∧ Q (.bl (decide (i.cps.toList < j.cps.toList))) H) (kSS fun i j => decide (i.cps.toList < j.cps.toList)) := by
  intro c Hs G σ H env x y r1 r2 P Q S w1 w2 h post
  obtain ⟨i, rfl, h1⟩ := onStr_some h
  obtain ⟨j, rfl, h2⟩ := onStr_some h1
  cases w1.str
  cases w2.str
  exact ⟨i, j, rfl, rfl, post _ _ G H env (Stp.refl S) (.da (.bl _)) h2⟩
def kAddS : KO := fun r1 r2 env P => onStr r1 fun i => onStr r2 fun j => i.length + j.length ≤ sizeLine ∧ P (.da (.str (i ++ j))) env
theorem ro_addS : RO K (fun x y H Q => ∃ i j : Str, x = V.str i ∧ y = V.str j ∧ i.length + j.length ≤ sizeLine ∧ Q (.str (i ++ j)) H) kAddS := by
  intro c Hs G σ H env x y r1 r2 P Q S w1 w2 h post
  obtain ⟨i, rfl, h1⟩ := onStr_some h
  obtain ⟨j, rfl, hl, h2⟩ := onStr_some h1
  cases w1.str
  cases w2.str
  exact ⟨i, j, rfl, rfl, hl, post _ _ G H env (Stp.refl S) (.da (.str _)) h2⟩
/-- a sign in a text -/
def kSign (neg : Bool) : KO := fun r1 r2 env P => onStr r1 fun i => onStr r2 fun j => ∃ ch, i = ⟨#[ch]⟩ ∧ P (.da (.bl (if neg then !decide (ch ∈ j.cps.toList) else decide (ch ∈ j.cps.toList)))) env
theorem ro_inSign : RO K (fun x y H Q => ∃ (ch : Nat) (z : Str), x = V.str ⟨#[ch]⟩ ∧ y = V.str z ∧ Q (.bl (decide (ch ∈ z.cps.toList))) H) (kSign false) := by
  intro c Hs G σ H env x y r1 r2 P Q S w1 w2 h post
  obtain ⟨i, rfl, h1⟩ := onStr_some h
  obtain ⟨j, rfl, ch, rfl, h2⟩ := onStr_some h1
  cases w1.str
  cases w2.str
  exact ⟨ch, j, rfl, rfl, post _ _ G H env (Stp.refl S) (.da (.bl _)) h2⟩
theorem ro_notInSign : RO K (fun x y H Q => ∃ (ch : Nat) (z : Str), x = V.str ⟨#[ch]⟩ ∧ y = V.str z ∧ Q (.bl (!decide (ch ∈ z.cps.toList))) H) (kSign true) := by
  intro c Hs G σ H env x y r1 r2 P Q S w1 w2 h post
  obtain ⟨i, rfl, h1⟩ := onStr_some h
  obtain ⟨j, rfl, ch, rfl, h2⟩ := onStr_some h1
  cases w1.str
  cases w2.str
  exact ⟨ch, j, rfl, rfl, post _ _ G H env (Stp.refl S) (.da (.bl _)) h2⟩
/-! == of scalars -/
def flD : RV → Option V
  | .da .non => some .non
  | .da (.bl b) => some (.bl b)
  | .da (.int b) => some (.int b)
  | .da (.str b) => some (.str b)
  | _ => none
theorem flD_at {Hs G H : Hp} {σ : L2.St} {env : En} {v x : V} {r : RV} (w : AtR K Hs G σ H env v r) (e : flD r = some x) : v = x := by
  cases w with
  | da a => cases a <;> cases e <;> rfl
  | _ => cases e
def kEq (neg : Bool) : KO := fun r1 r2 env P => match flD r1, flD r2 with
  | some x, some y => scal x y = true ∧ P (.da (.bl (if neg then !decide (x = y) else decide (x = y)))) env
  | _, _ => False
theorem ro_eq : RO K rEq (kEq false) := by
  intro c Hs G σ H env x y r1 r2 P Q S w1 w2 h post
  unfold kEq at h
  split at h
  · rename_i u v e1 e2
    cases flD_at w1 e1
    cases flD_at w2 e2
    exact ⟨h.1, post _ _ G H env (Stp.refl S) (.da (.bl _)) h.2⟩
  · exact False.elim h
theorem ro_ne : RO K rNe (kEq true) := by
  intro c Hs G σ H env x y r1 r2 P Q S w1 w2 h post
  unfold kEq at h
  split at h
  · rename_i u v e1 e2
    cases flD_at w1 e1
    cases flD_at w2 e2
    exact ⟨h.1, post _ _ G H env (Stp.refl S) (.da (.bl _)) h.2⟩
  · exact False.elim h
/-! in lists and tuples of ints -/
/-- a list or a tuple to be read -/
def vS (env : En) : RV → Option (List Da)
  | .da (.tup xs) => some xs
  | r => vL env r
def onS (env : En) (r : RV) (k : List Da → Prop) : Prop := match vS env r with
  | some d => k d
  | none => False
theorem onS_some {env : En} {r : RV} {k : List Da → Prop} (h : onS env r k) : ∃ d, vS env r = some d ∧ k d := by
  unfold onS at h
  split at h
  · exact ⟨_, by assumption, h⟩
  · exact False.elim h
theorem vS_at {c : Ctx} {Hs G H : Hp} {σ : L2.St} {env : En} {v : V} {r : RV} (S : Stt K c G σ H env) (h : AtR K Hs G σ H env v r) {xs : List Da} (e : vS env r = some xs) : ∃ p vs, v = .ref p ∧ (H p = some (.lst vs) ∨ H p = some (.tup vs)) ∧ Ats K G vs xs := by
  unfold vS at e
  split at e
  · cases e
    obtain ⟨p, vs, a, b, d⟩ := vT_at S h
    exact ⟨p, vs, a, .inr b, d⟩
  · obtain ⟨p, vs, a, b, d⟩ := vL_at S h e
    exact ⟨p, vs, a, .inl b, d⟩
theorem inV_ints (n : Int) : ∀ ns : List Int, inV (.int n) (ns.map V.int) = decide (n ∈ ns)
  | [] => rfl
  | m :: ns => by
    show (eqV (.int m) (.int n) || inV (.int n) (ns.map V.int)) = _
    rw [inV_ints n ns]
    show ((m == n) || decide (n ∈ ns)) = _
    rw [Bool.eq_iff_iff]
    simp only [Bool.or_eq_true, beq_iff_eq, decide_eq_true_eq, List.mem_cons]
    exact ⟨fun h => h.elim (fun z => .inl z.symm) .inr, fun h => h.elim (fun z => .inl z.symm) .inr⟩
theorem flat_ints (ns : List Int) : (ns.map V.int).all flatV = true := by
  rw [List.all_eq_true]
  intro x hx
  obtain ⟨n, _, rfl⟩ := List.mem_map.mp hx
  rfl
abbrev iD (ns : List Int) : List Da := ns.map Da.int
def kIn (neg : Bool) : KO := fun r1 r2 env P => onInt r1 fun i => onS env r2 fun xs => ∃ ns, xs = iD ns ∧ P (.da (.bl (if neg then !decide (i ∈ ns) else decide (i ∈ ns)))) env
theorem ro_inN (neg : Bool) : RO K (rIn K neg) (kIn neg) := by
  intro c Hs G σ H env x y r1 r2 P Q S w1 w2 h post
  obtain ⟨i, rfl, h1⟩ := onInt_some h
  obtain ⟨xs, e, ns, rfl, h2⟩ := onS_some h1
  cases w1.int
  obtain ⟨p, vs, rfl, hp, a⟩ := vS_at S w2 e
  have ev := a.ints
  subst ev
  refine ⟨p, _, rfl, hp.imp (fun z => .inl (.inl z)) (fun z => .inl (.inl z)), rfl, flat_ints ns, ?_⟩
  refine post _ _ G H env (Stp.refl S) (.da (.bl _)) ?_
  cases neg
  · simp only [inV_ints, Bool.false_eq_true, if_false] at h2 ⊢
    exact h2
  · simp only [inV_ints, if_true] at h2 ⊢
    exact h2
/-! == of lists of ints, of lists of lists of ints -/
theorem eqv_intsAll : ∀ (xs ys : List Int), PyData.eqvAll (xs.map PyData.int) (ys.map PyData.int) = decide (xs = ys)
  | [], [] => rfl
  | [], _ :: _ => rfl
  | _ :: _, [] => rfl
  | x :: xs, y :: ys => by
    show ((x == y) && PyData.eqvAll (xs.map PyData.int) (ys.map PyData.int)) = _
    rw [eqv_intsAll xs ys, Bool.eq_iff_iff]
    simp
theorem eqv_ints2 : ∀ (xs ys : List (List Int)), PyData.eqvAll (xs.map fun z => PyData.list (z.map PyData.int)) (ys.map fun z => PyData.list (z.map PyData.int)) = decide (xs = ys)
  | [], [] => rfl
  | [], _ :: _ => rfl
  | _ :: _, [] => rfl
  | x :: xs, y :: ys => by
    show (PyData.eqvAll (x.map PyData.int) (y.map PyData.int) && PyData.eqvAll (xs.map fun z => PyData.list (z.map PyData.int)) (ys.map fun z => PyData.list (z.map PyData.int))) = _
    rw [eqv_intsAll x y, eqv_ints2 xs ys, Bool.eq_iff_iff]
    simp
theorem dp_ints {H : Hp} : ∀ ns : List Int, DpAll K H (ns.map V.int) (ns.map PyData.int)
  | [] => .nil
  | n :: ns => .cons (.int n) (dp_ints ns)
theorem dp_ints2 {G H : Hp} (gh : Same G H) : ∀ {vs : List V} {nss : List (List Int)}, Ats K G vs (nss.map fun z => Da.lst (iD z)) → DpAll K H vs (nss.map fun z => PyData.list (z.map PyData.int))
  | _, [], h => by
    cases h
    exact .nil
  | _, n :: ns, h => by
    cases h with
    | cons a t =>
      cases a with
      | lst e b =>
        have ev := b.ints
        subst ev
        exact .cons (.lst (.inl (.inl (gh _ _ e))) (dp_ints n)) (dp_ints2 gh t)
end
end RK
-- D2
set_option Elab.async false
set_option linter.all false
set_option maxRecDepth 100000
set_option maxHeartbeats 4000000
/-! D2: arguments, displays, subscripts, calls of built-ins, methods of lists and texts, dicts -/
namespace RK
open PySem PySem.Spec PyProof.Rows L2

def onO {α : Type} (o : Option α) (k : α → Prop) : Prop := match o with
  | some a => k a
  | none => False
theorem onO_some {α : Type} {o : Option α} {k : α → Prop} (h : onO o k) : ∃ a, o = some a ∧ k a := by
  unfold onO at h
  split at h
  · exact ⟨_, rfl, h⟩
  · exact False.elim h
section
variable {K : PySem.W.Frag} {c : Ctx} {Hs G G' H H' G1 H1 : Hp} {σ : L2.St} {env env' env1 : En} {p : Addr} {o : HO} {v : V} {r : RV} {vs : List V} {rs : List RV} {P : RV → En → Prop} {Q : VK}
/-- a new list -/
theorem fin_fl {xs : List Da} (S : Stt K c G σ H env) (a : Ats K G vs xs) (post : ∀ v r G' H' env', Stp K c G σ H env G' H' env' → AtR K H G' σ H' env' v r → P r env' → Q v H') (h : P (.fl xs) env) (hp : H p = none) : Q (.ref p) (upd H p (.lst vs)) :=
  post _ _ G _ env (Stp.new S hp) (.fl hp (S.free hp) upd_same a fun i => S.notOwn hp i) h
theorem fin_tup {xs : List Da} (S : Stt K c G σ H env) (a : Ats K G vs xs) (post : ∀ v r G' H' env', Stp K c G σ H env G' H' env' → AtR K H G' σ H' env' v r → P r env' → Q v H') (h : P (.da (.tup xs)) env) (hp : H p = none) : Q (.ref p) (upd H p (.tup vs)) :=
  post _ _ _ _ env (Stp.newG S hp) (.da (.tup upd_same (a.mono (same_upd (S.free hp))))) h
theorem AtRs.das : ∀ {vs : List V} {rs : List RV}, AtRs K Hs G σ H env vs rs → ∀ {xs : List Da}, rs = xs.map RV.da → Ats K G vs xs
  | _, _, .nil, [], _ => .nil
  | _, _, .cons h t, x :: xs, e => by
    cases e
    cases h with
    | da a => exact .cons a (AtRs.das t rfl)
end
/-- all data -/
def dasOf : List RV → Option (List Da)
  | [] => some []
  | .da d :: r => (dasOf r).map (d :: ·)
  | _ :: _ => none
section
variable {K : PySem.W.Frag} {Hs G H : Hp} {σ : L2.St} {env : En}
theorem AtRs.dasOf : ∀ {vs : List V} {rs : List RV} {xs : List Da}, AtRs K Hs G σ H env vs rs → RK.dasOf rs = some xs → Ats K G vs xs
  | _, _, _, .nil, e => by
    cases e
    exact .nil
  | _, r :: rs, xs, .cons h t, e => by
    cases h with
    | da a =>
      rw [RK.dasOf, Option.map_eq_some_iff] at e
      obtain ⟨ys, e1, rfl⟩ := e
      exact .cons a (AtRs.dasOf t e1)
    | _ => cases e
end
/-! ### arguments -/
def dNil : DAT := fun env P => P [] env
def dCons (de : DT) (dr : DAT) : DAT := fun env P => de env fun r e1 => dr e1 fun rs e2 => P (r :: rs) e2
/-- each as data -/
def dConsA (de : DT) (dr : DAT) : DAT := fun env P => de env fun r e1 => onDa r fun d => dr e1 fun rs e2 => P (.da d :: rs) e2
section
variable {K : PySem.W.Frag} {te : TE} {ta : TA} {de : DT} {dr : DAT}
theorem ra_nil : RA K tNil dNil := fun c G σ H env P Q S h post => post _ _ G H env (Stp.refl S) .nil h
theorem ra_cons (a : RE K te de) (b : RA K ta dr) : RA K (tCons te ta) (dCons de dr) := by
  intro c G σ H env P Q S h post
  refine a c G σ H env _ _ S h fun v1 r1 G1 H1 e1 T1 w1 h1 => ?_
  refine b c G1 σ H1 e1 _ _ T1.st h1 fun vs rs G2 H2 e2 T2 w2 h2 => ?_
  exact post _ _ G2 H2 e2 (T1.trans T2) (.cons (w1.keep T2) (w2.start T1.al)) h2
theorem ra_consA (a : RE K te de) (b : RA K ta dr) : RA K (tCons te ta) (dConsA de dr) := by
  intro c G σ H env P Q S h post
  refine a c G σ H env _ _ S h fun v1 r1 G1 H1 e1 T1 w1 h1 => ?_
  obtain ⟨d, ed, h1⟩ := onDa_some h1
  obtain ⟨G1', T1', w1', _, _⟩ := w1.absorb S T1 ed
  refine b c G1' σ H1 e1 _ _ T1'.st h1 fun vs rs G2 H2 e2 T2 w2 h2 => ?_
  exact post _ _ G2 H2 e2 (T1'.trans T2) (.cons (.da (w1'.mono T2.gg)) (w2.start T1.al)) h2
/-! ### displays -/
def dTup (da : DAT) : DT := fun env P => da env fun rs e1 => onO (dasOf rs) fun xs => xs.length ≤ sizeLine ∧ P (.da (.tup xs)) e1
def dLst (da : DAT) : DT := fun env P => da env fun rs e1 => onO (dasOf rs) fun xs => xs.length ≤ sizeLine ∧ P (.fl xs) e1
theorem re_tup (a : RA K ta dr) : RE K (tTup ta) (dTup dr) := by
  intro c G σ H env P Q S h post
  refine a c G σ H env _ _ S h fun vs rs G1 H1 e1 T1 w1 h1 => ?_
  obtain ⟨xs, ex, hl, h2⟩ := onO_some h1
  have aa : Ats K G1 vs xs := w1.dasOf ex
  refine ⟨by rw [aa.length]; exact hl, fun p hp => ?_⟩
  exact fin_tup T1.st aa (fun v r G' H' env' T w hP => post v r G' H' env' (T1.trans T) (w.start T1.al) hP) h2 hp
theorem re_lst (a : RA K ta dr) : RE K (tLst ta) (dLst dr) := by
  intro c G σ H env P Q S h post
  refine a c G σ H env _ _ S h fun vs rs G1 H1 e1 T1 w1 h1 => ?_
  obtain ⟨xs, ex, hl, h2⟩ := onO_some h1
  have aa : Ats K G1 vs xs := w1.dasOf ex
  refine ⟨by rw [aa.length]; exact hl, fun p hp => ?_⟩
  exact fin_fl T1.st aa (fun v r G' H' env' T w hP => post v r G' H' env' (T1.trans T) (w.start T1.al) hP) h2 hp
/-! ### boolean operators -/
def dAnd (da db : DT) : DT := fun env P => da env fun r e1 => onBl r fun b => if b = true then db e1 P else P (.da (.bl false)) e1
def dOr (da db : DT) : DT := fun env P => da env fun r e1 => onBl r fun b => if b = true then P (.da (.bl true)) e1 else db e1 P
def dNot (da : DT) : DT := fun env P => da env fun r e1 => onBl r fun b => P (.da (.bl (!b))) e1
def dB (da : DT) : DTT := fun env P => da env fun r e1 => onBl r fun b => P b e1
def dAndT (da db : DTT) : DTT := fun env P => da env fun b e1 => if b = true then db e1 P else P false e1
def dOrT (da db : DTT) : DTT := fun env P => da env fun b e1 => if b = true then P true e1 else db e1 P
def dNotT (da : DTT) : DTT := fun env P => da env fun b e1 => P (!b) e1
def dIf (dc : DTT) (da db : DT) : DT := fun env P => dc env fun b e1 => if b = true then da e1 P else db e1 P
variable {ta' tb : TE} {da db : DT} {tt tu : TT} {dt du : DTT}
theorem re_and (a : RE K ta' da) (b : RE K tb db) : RE K (tAndV ta' tb) (dAnd da db) := by
  intro c G σ H env P Q S h post
  refine a c G σ H env _ _ S h fun v1 r1 G1 H1 e1 T1 w1 h1 => ?_
  obtain ⟨k, rfl, h2⟩ := onBl_some h1
  refine ⟨k, w1.bl, ?_⟩
  cases k
  · exact post _ _ G1 H1 e1 T1 (.da (.bl _)) h2
  · exact b c G1 σ H1 e1 _ _ T1.st h2 fun v2 r2 G2 H2 e2 T2 w2 h3 => post _ _ G2 H2 e2 (T1.trans T2) (w2.start T1.al) h3
theorem re_or (a : RE K ta' da) (b : RE K tb db) : RE K (tOrV ta' tb) (dOr da db) := by
  intro c G σ H env P Q S h post
  refine a c G σ H env _ _ S h fun v1 r1 G1 H1 e1 T1 w1 h1 => ?_
  obtain ⟨k, rfl, h2⟩ := onBl_some h1
  refine ⟨k, w1.bl, ?_⟩
  cases k
  · exact b c G1 σ H1 e1 _ _ T1.st h2 fun v2 r2 G2 H2 e2 T2 w2 h3 => post _ _ G2 H2 e2 (T1.trans T2) (w2.start T1.al) h3
  · exact post _ _ G1 H1 e1 T1 (.da (.bl _)) h2
theorem re_not (a : RE K ta' da) : RE K (tNotV ta') (dNot da) := by
  intro c G σ H env P Q S h post
  refine a c G σ H env _ _ S h fun v1 r1 G1 H1 e1 T1 w1 h1 => ?_
  obtain ⟨k, rfl, h2⟩ := onBl_some h1
  exact ⟨k, w1.bl, post _ _ G1 H1 e1 T1 (.da (.bl _)) h2⟩
theorem rt_B (a : RE K ta' da) : RT K (tB ta') (dB da) := by
  intro c G σ H env P Q S h post
  refine a c G σ H env _ _ S h fun v1 r1 G1 H1 e1 T1 w1 h1 => ?_
  obtain ⟨k, rfl, h2⟩ := onBl_some h1
  exact ⟨k, w1.bl, post _ G1 H1 e1 T1 h2⟩
theorem rt_test (a : RE K ta' da) : RT K (tTest ta') (dB da) := by
  intro c G σ H env P Q S h post
  refine a c G σ H env _ _ S h fun v1 r1 G1 H1 e1 T1 w1 h1 => ?_
  obtain ⟨k, rfl, h2⟩ := onBl_some h1
  exact ⟨k, w1.bl, post _ G1 H1 e1 T1 h2⟩
theorem rt_and (a : RT K tt dt) (b : RT K tu du) : RT K (tAnd tt tu) (dAndT dt du) := by
  intro c G σ H env P Q S h post
  refine a c G σ H env _ _ S h fun k G1 H1 e1 T1 h1 => ?_
  cases k
  · exact post _ G1 H1 e1 T1 h1
  · exact b c G1 σ H1 e1 _ _ T1.st h1 fun k2 G2 H2 e2 T2 h3 => post _ G2 H2 e2 (T1.trans T2) h3
theorem rt_or (a : RT K tt dt) (b : RT K tu du) : RT K (tOr tt tu) (dOrT dt du) := by
  intro c G σ H env P Q S h post
  refine a c G σ H env _ _ S h fun k G1 H1 e1 T1 h1 => ?_
  cases k
  · exact b c G1 σ H1 e1 _ _ T1.st h1 fun k2 G2 H2 e2 T2 h3 => post _ G2 H2 e2 (T1.trans T2) h3
  · exact post _ G1 H1 e1 T1 h1
theorem rt_not (a : RT K tt dt) : RT K (tNot tt) (dNotT dt) := by
  intro c G σ H env P Q S h post
  exact a c G σ H env _ _ S h fun k G1 H1 e1 T1 h1 => post _ G1 H1 e1 T1 h1
theorem re_if (t : RT K tt dt) (a : RE K ta' da) (b : RE K tb db) : RE K (tIf tt ta' tb) (dIf dt da db) := by
  intro c G σ H env P Q S h post
  refine t c G σ H env _ _ S h fun k G1 H1 e1 T1 h1 => ?_
  cases k
  · exact b c G1 σ H1 e1 _ _ T1.st h1 fun v2 r2 G2 H2 e2 T2 w2 h3 => post _ _ G2 H2 e2 (T1.trans T2) (w2.start T1.al) h3
  · exact a c G1 σ H1 e1 _ _ T1.st h1 fun v2 r2 G2 H2 e2 T2 w2 h3 => post _ _ G2 H2 e2 (T1.trans T2) (w2.start T1.al) h3
/-- a <= b <= c -/
def dChain (k1 k2 : KO) (da db dc : DT) : DT := fun env P => da env fun r1 e1 => db e1 fun r2 e2 => k1 r1 r2 e2 fun z e3 => onBl z fun b => if b = true then dc e3 fun r3 e4 => k2 r2 r3 e4 P else P (.da (.bl false)) e3
theorem re_chain {r r' : R2} {k1 k2 : KO} {tc : TE} {dc : DT} (o1 : RO K r k1) (o2 : RO K r' k2) (a : RE K ta' da) (b : RE K tb db) (cc : RE K tc dc) : RE K (tChain r r' ta' tb tc) (dChain k1 k2 da db dc) := by
  intro c G σ H env P Q S h post
  refine a c G σ H env _ _ S h fun v1 r1 G1 H1 e1 T1 w1 h1 => ?_
  refine b c G1 σ H1 e1 _ _ T1.st h1 fun v2 r2 G2 H2 e2 T2 w2 h2 => ?_
  have T12 := T1.trans T2
  refine o1 c H G2 σ H2 e2 v1 v2 r1 r2 _ _ T2.st (w1.keep T2) (w2.start T1.al) h2 fun v r G3 H3 e3 T3 w3 h3 => ?_
  obtain ⟨k, rfl, h4⟩ := onBl_some h3
  refine ⟨k, w3.bl, ?_⟩
  have T13 := T12.trans T3
  cases k
  · exact post _ _ G3 H3 e3 T13 (.da (.bl _)) h4
  · refine cc c G3 σ H3 e3 _ _ T3.st h4 fun v4 r4 G4 H4 e4 T4 w4 h5 => ?_
    exact o2 c H1 G4 σ H4 e4 v2 v4 r2 r4 P _ T4.st ((w2.keep T3).keep T4) (w4.start fun b hb => T3.al b (T2.al b hb)) h5 fun v r G5 H5 e5 T5 w5 h6 => post _ _ G5 H5 e5 ((T13.trans T4).trans T5) (w5.start (T13.trans T4).al) h6
end
/-! ### subscripts -/
theorem Ats.atI {K : PySem.W.Frag} {G : Hp} {vs : List V} {ds : List Da} {i : Int} {d : Da} (a : Ats K G vs ds) (h : L2.atI ds i = some d) : ∃ v, L2.atI vs i = some v ∧ At K G v d := by
  unfold L2.atI at h ⊢
  rw [a.length]
  cases e : ixN ds.length i with
  | none =>
    rw [e] at h
    cases h
  | some j =>
    rw [e] at h
    exact a.get h
theorem atI_ints (ns : List Int) (i : Int) : L2.atI (ns.map V.int) i = (L2.atI ns i).map V.int := by
  unfold L2.atI
  rw [List.length_map]
  cases ixN ns.length i with
  | none => rfl
  | some j => simp
def kIx : KO := fun r1 r2 env P => onInt r2 fun i => match r1 with
  | .da (.str z) => z.length ≤ sizeLine ∧ onO (L2.atI z.cps.toList i) fun ch => P (.da (.str ⟨#[ch]⟩)) env
  | .da (.scr ns) => onO (L2.atI ns i) fun n => P (.da (.int n)) env
  | r => onS env r fun xs => onO (L2.atI xs i) fun d => P (.da d) env
theorem ro_ix {K : PySem.W.Frag} : RO K (rIx K) kIx := by
  intro c Hs G σ H env x y r1 r2 P Q S w1 w2 h post
  obtain ⟨i, rfl, h1⟩ := onInt_some h
  cases w2.int
  split at h1
  · obtain ⟨hl, h2⟩ := h1
    obtain ⟨ch, e, h3⟩ := onO_some h2
    cases w1.str
    exact .inr (.inr ⟨_, i, ch, rfl, rfl, hl, e, post _ _ G H env (Stp.refl S) (.da (.str _)) h3⟩)
  · obtain ⟨n, e, h3⟩ := onO_some h1
    cases w1 with
    | da a =>
      cases a with
      | @scr a ns hs => exact .inl ⟨a, _, i, .int n, rfl, rfl, S.gh.seq hs, by rw [atI_ints, e]; rfl, post _ _ G H env (Stp.refl S) (.da (.int _)) h3⟩
  · obtain ⟨xs, ex, h2⟩ := onS_some h1
    obtain ⟨d, e, h3⟩ := onO_some h2
    obtain ⟨p, vs, rfl, hp, a⟩ := vS_at S w1 ex
    obtain ⟨v, ev, av⟩ := a.atI e
    rcases hp with hp | hp
    · exact .inl ⟨p, vs, i, v, rfl, rfl, .inl (.inl hp), ev, post _ _ G H env (Stp.refl S) (.da av) h3⟩
    · exact .inr (.inl ⟨p, vs, i, v, rfl, rfl, .inl (.inl hp), ev, post _ _ G H env (Stp.refl S) (.da av) h3⟩)
/-! slices of lists and texts; a bound: an optional expression -/
def cutD {α : Type} (xs : List α) (lo hi : Option Int) : List α := (xs.drop (HT.sIx xs.length 0 lo)).take (HT.sIx xs.length xs.length hi - HT.sIx xs.length 0 lo)
theorem Ats.cut {K : PySem.W.Frag} {G : Hp} {vs : List V} {ds : List Da} {lo hi : Option Int} (a : Ats K G vs ds) : Ats K G (cutV vs lo hi) (cutD ds lo hi) := by
  unfold cutV cutD
  rw [a.length]
  exact (a.drop _).take _
abbrev DO := En → (Option Int → En → Prop) → Prop
def ROp (K : PySem.W.Frag) (t : TO) (d : DO) : Prop := ∀ (c : Ctx) (G : Hp) (σ : L2.St) (H : Hp) (env : En) (P : Option Int → En → Prop) (Q : Option Int → Hp → Prop), Stt K c G σ H env → d env P →
  (∀ o G' H' env', Stp K c G σ H env G' H' env' → P o env' → Q o H') → t σ H Q
def dNoPart : DO := fun env P => P none env
def dPart (d : DT) : DO := fun env P => d env fun r e1 => onInt r fun i => P (some i) e1
/-- a slice of a text; of a list -/
def dSlS (de : DT) (dl dh : DO) : DT := fun env P => de env fun r e1 => dl e1 fun lo e2 => dh e2 fun hi e3 => onStr r fun z => z.length ≤ sizeLine ∧ P (.da (.str (cutS z lo hi))) e3
def dSlL (de : DT) (dl dh : DO) : DT := fun env P => de env fun r e1 => dl e1 fun lo e2 => dh e2 fun hi e3 => onL e3 r fun xs => P (.fl (cutD xs lo hi)) e3
section
variable {K : PySem.W.Frag} {te : TE} {de : DT} {tl th : TO} {dl dh : DO}
theorem ro_no : ROp K tNoPart dNoPart := fun c G σ H env P Q S h post => post _ G H env (Stp.refl S) h
theorem ro_part (a : RE K te de) : ROp K (tPart te) (dPart de) := by
  intro c G σ H env P Q S h post
  refine a c G σ H env _ _ S h fun v1 r1 G1 H1 e1 T1 w1 h1 => ?_
  obtain ⟨i, rfl, h2⟩ := onInt_some h1
  exact ⟨i, w1.int, post _ G1 H1 e1 T1 h2⟩
theorem re_slL (a : RE K te de) (b : ROp K tl dl) (cc : ROp K th dh) : RE K (tSl (rSlL K) te tl th) (dSlL de dl dh) := by
  intro c G σ H env P Q S h post
  refine a c G σ H env _ _ S h fun v1 r1 G1 H1 e1 T1 w1 h1 => ?_
  refine b c G1 σ H1 e1 _ _ T1.st h1 fun lo G2 H2 e2 T2 h2 => ?_
  refine cc c G2 σ H2 e2 _ _ T2.st h2 fun hi G3 H3 e3 T3 h3 => ?_
  have w3 := (w1.keep T2).keep T3
  have T := (T1.trans T2).trans T3
  obtain ⟨xs, ex, h4⟩ := onL_some h3
  obtain ⟨p, vs, rfl, hp, av⟩ := vL_at T3.st w3 ex
  exact ⟨p, vs, rfl, .inl (.inl hp), fun q hq => fin_fl T3.st av.cut (fun v r G' H' env' T' w hP => post v r G' H' env' (T.trans T') (w.start T.al) hP) h4 hq⟩
theorem re_slS (a : RE K te de) (b : ROp K tl dl) (cc : ROp K th dh) : RE K (tSl rSlS te tl th) (dSlS de dl dh) := by
  intro c G σ H env P Q S h post
  refine a c G σ H env _ _ S h fun v1 r1 G1 H1 e1 T1 w1 h1 => ?_
  refine b c G1 σ H1 e1 _ _ T1.st h1 fun lo G2 H2 e2 T2 h2 => ?_
  refine cc c G2 σ H2 e2 _ _ T2.st h2 fun hi G3 H3 e3 T3 h3 => ?_
  obtain ⟨z, rfl, hl, h4⟩ := onStr_some h3
  exact ⟨z, w1.str, hl, post _ _ G3 H3 e3 ((T1.trans T2).trans T3) (.da (.str _)) h4⟩
/-- xs[::-1] -/
def dRev (de : DT) : DT := fun env P => de env fun r e1 => onL e1 r fun xs => P (.fl xs.reverse) e1
theorem re_revL (a : RE K te de) : RE K (tRevL K te) (dRev de) := by
  intro c G σ H env P Q S h post
  refine a c G σ H env _ _ S h fun v1 r1 G1 H1 e1 T1 w1 h1 => ?_
  obtain ⟨xs, ex, h4⟩ := onL_some h1
  obtain ⟨p, vs, rfl, hp, av⟩ := vL_at T1.st w1 ex
  exact ⟨p, vs, rfl, .inl (.inl hp), fun q hq => fin_fl T1.st av.reverse (fun v r G' H' env' T' w hP => post v r G' H' env' (T1.trans T') (w.start T1.al) hP) h4 hq⟩
end
/-! ### calls of built-ins -/
abbrev KC := List RV → En → (RV → En → Prop) → Prop
def RC (K : PySem.W.Frag) (r : List V → Hp → VK → Prop) (k : KC) : Prop := ∀ (c : Ctx) (Hs G : Hp) (σ : L2.St) (H : Hp) (env : En) (xs : List V) (rs : List RV) (P : RV → En → Prop) (Q : VK), Stt K c G σ H env → AtRs K Hs G σ H env xs rs → k rs env P →
  (∀ v r G' H' env', Stp K c G σ H env G' H' env' → AtR K H G' σ H' env' v r → P r env' → Q v H') → r xs H Q
def dCB (k : KC) (da : DAT) : DT := fun env P => da env fun rs e1 => k rs e1 P
theorem re_CB {K : PySem.W.Frag} {r : List V → Hp → VK → Prop} {k : KC} {ta : TA} {da : DAT} (rc : RC K r k) (a : RA K ta da) : RE K (tCB r ta) (dCB k da) := by
  intro c G σ H env P Q S h post
  refine a c G σ H env _ _ S h fun vs rs G1 H1 e1 T1 w1 h1 => ?_
  exact rc c H G1 σ H1 e1 vs rs P _ T1.st w1 h1 fun v r G2 H2 e2 T2 w2 h2 => post v r G2 H2 e2 (T1.trans T2) (w2.start T1.al) h2
def k1 (f : RV → En → (RV → En → Prop) → Prop) : KC := fun rs env P => match rs with
  | [r] => f r env P
  | _ => False
theorem k1_some {f : RV → En → (RV → En → Prop) → Prop} {rs : List RV} {env : En} {P : RV → En → Prop} (h : k1 f rs env P) : ∃ r, rs = [r] ∧ f r env P := by
  unfold k1 at h
  split at h
  · exact ⟨_, rfl, h⟩
  · exact False.elim h
def k2 (f : RV → RV → En → (RV → En → Prop) → Prop) : KC := fun rs env P => match rs with
  | [r, r'] => f r r' env P
  | _ => False
theorem k2_some {f : RV → RV → En → (RV → En → Prop) → Prop} {rs : List RV} {env : En} {P : RV → En → Prop} (h : k2 f rs env P) : ∃ r r', rs = [r, r'] ∧ f r r' env P := by
  unfold k2 at h
  split at h
  · exact ⟨_, _, rfl, h⟩
  · exact False.elim h
section
variable {K : PySem.W.Frag}
theorem AtRs.one {Hs G H : Hp} {σ : L2.St} {env : En} {xs : List V} {r : RV} : AtRs K Hs G σ H env xs [r] → ∃ v, xs = [v] ∧ AtR K Hs G σ H env v r
  | .cons h .nil => ⟨_, rfl, h⟩
theorem AtRs.two {Hs G H : Hp} {σ : L2.St} {env : En} {xs : List V} {r r' : RV} : AtRs K Hs G σ H env xs [r, r'] → ∃ v w, xs = [v, w] ∧ AtR K Hs G σ H env v r ∧ AtR K Hs G σ H env w r'
  | .cons h (.cons h' .nil) => ⟨_, _, rfl, h, h'⟩
def lenD (env : En) : RV → Option Nat
  | .da (.str z) => if z.length ≤ sizeLine then some z.length else none
  | .da (.scr ns) => some ns.length
  | r => (vS env r).map (·.length)
def kLen : KC := fun rs0 env0 P0 => k1 (fun r env P => onO (lenD env r) fun n => P (.da (.int (n : Nat))) env) rs0 env0 P0
theorem rc_len : RC K (fun xs H Q => ∃ x n, xs = [x] ∧ LenV K x H n ∧ Q (.int n) H) kLen := by
  intro c Hs G σ H env xs rs P Q S w h post
  obtain ⟨r, rfl, h1⟩ := k1_some h
  obtain ⟨n, en, h2⟩ := onO_some h1
  obtain ⟨v, rfl, w1⟩ := w.one
  refine ⟨v, n, rfl, ?_, post _ _ G H env (Stp.refl S) (.da (.int _)) h2⟩
  unfold lenD at en
  split at en
  · split at en
    · cases en
      cases w1.str
      exact ⟨by assumption, rfl⟩
    · cases en
  · cases en
    cases w1 with
    | da a =>
      cases a with
      | scr hs => exact .inl ⟨_, S.gh.seq hs, by simp⟩
  · rw [Option.map_eq_some_iff] at en
    obtain ⟨ds, e, rfl⟩ := en
    obtain ⟨p, vs, rfl, hp, a⟩ := vS_at S w1 e
    rcases hp with hp | hp
    · exact .inl ⟨vs, .inl (.inl hp), a.length.symm⟩
    · exact .inr ⟨vs, .inl (.inl hp), a.length.symm⟩
def kAll (f : List Bool → Bool) : KC := fun rs0 env0 P0 => k1 (fun r env P => onL env r fun xs => ∃ bs, xs = bs.map Da.bl ∧ P (.da (.bl (f bs))) env) rs0 env0 P0
theorem rc_all : RC K (rAll K) (kAll fun bs => bs.all id) := by
  intro c Hs G σ H env xs rs P Q S w h post
  obtain ⟨r, rfl, h1⟩ := k1_some h
  obtain ⟨ds, e, bs, rfl, h2⟩ := onL_some h1
  obtain ⟨v, rfl, w1⟩ := w.one
  obtain ⟨p, vs, rfl, hp, a⟩ := vL_at S w1 e
  cases a.bls
  exact ⟨p, bs, rfl, .inl (.inl hp), post _ _ G H env (Stp.refl S) (.da (.bl _)) h2⟩
theorem rc_any : RC K (rAny K) (kAll fun bs => bs.any id) := by
  intro c Hs G σ H env xs rs P Q S w h post
  obtain ⟨r, rfl, h1⟩ := k1_some h
  obtain ⟨ds, e, bs, rfl, h2⟩ := onL_some h1
  obtain ⟨v, rfl, w1⟩ := w.one
  obtain ⟨p, vs, rfl, hp, a⟩ := vL_at S w1 e
  cases a.bls
  exact ⟨p, bs, rfl, .inl (.inl hp), post _ _ G H env (Stp.refl S) (.da (.bl _)) h2⟩
/-- max of a list of ints -/
def kMax : KC := fun rs0 env0 P0 => k1 (fun r env P => onL env r fun xs => ∃ ns, xs = iD ns ∧ 0 < ns.length ∧ ∀ m, m ∈ ns → (∀ y, y ∈ ns → y ≤ m) → P (.da (.int m)) env) rs0 env0 P0
theorem rc_max : RC K (rMax K) kMax := by
  intro c Hs G σ H env xs rs P Q S w h post
  obtain ⟨r, rfl, h1⟩ := k1_some h
  obtain ⟨ds, e, bs, rfl, hl, h2⟩ := onL_some h1
  obtain ⟨v, rfl, w1⟩ := w.one
  obtain ⟨p, vs, rfl, hp, a⟩ := vL_at S w1 e
  cases a.ints
  exact ⟨p, bs, rfl, .inl (.inl hp), hl, fun m hm hy => post _ _ G H env (Stp.refl S) (.da (.int _)) (h2 m hm hy)⟩
def kMM (f : Int → Int → Int) : KC := fun rs0 env0 P0 => k2 (fun r r' env P => onInt r fun i => onInt r' fun j => P (.da (.int (f i j))) env) rs0 env0 P0
theorem rc_max2 : RC K (fun xs H Q => ∃ i j, xs = [.int i, .int j] ∧ Q (.int (if j > i then j else i)) H) (kMM fun i j => if j > i then j else i) := by
  intro c Hs G σ H env xs rs P Q S w h post
  obtain ⟨r, r', rfl, h1⟩ := k2_some h
  obtain ⟨i, rfl, h2⟩ := onInt_some h1
  obtain ⟨j, rfl, h3⟩ := onInt_some h2
  obtain ⟨v, u, rfl, w1, w2⟩ := w.two
  cases w1.int
  cases w2.int
  exact ⟨i, j, rfl, post _ _ G H env (Stp.refl S) (.da (.int _)) h3⟩
theorem rc_min2 : RC K (fun xs H Q => ∃ i j, xs = [.int i, .int j] ∧ Q (.int (if j < i then j else i)) H) (kMM fun i j => if j < i then j else i) := by
  intro c Hs G σ H env xs rs P Q S w h post
  obtain ⟨r, r', rfl, h1⟩ := k2_some h
  obtain ⟨i, rfl, h2⟩ := onInt_some h1
  obtain ⟨j, rfl, h3⟩ := onInt_some h2
  obtain ⟨v, u, rfl, w1, w2⟩ := w.two
  cases w1.int
  cases w2.int
  exact ⟨i, j, rfl, post _ _ G H env (Stp.refl S) (.da (.int _)) h3⟩
def kAbs : KC := fun rs0 env0 P0 => k1 (fun r env P => onInt r fun i => P (.da (.int (if i < 0 then -i else i))) env) rs0 env0 P0
theorem rc_abs : RC K (fun xs H Q => ∃ i, xs = [.int i] ∧ Q (.int (if i < 0 then -i else i)) H) kAbs := by
  intro c Hs G σ H env xs rs P Q S w h post
  obtain ⟨r, rfl, h1⟩ := k1_some h
  obtain ⟨i, rfl, h2⟩ := onInt_some h1
  obtain ⟨v, rfl, w1⟩ := w.one
  cases w1.int
  exact ⟨i, rfl, post _ _ G H env (Stp.refl S) (.da (.int _)) h2⟩
def kInt : KC := fun rs0 env0 P0 => k1 (fun r env P => onInt r fun i => P (.da (.int i)) env) rs0 env0 P0
theorem rc_int : RC K (fun xs H Q => (∃ i, xs = [.int i] ∧ Q (.int i) H) ∨ ∃ k, xs = [.bl k] ∧ Q (.int (if k then 1 else 0)) H) kInt := by
  intro c Hs G σ H env xs rs P Q S w h post
  obtain ⟨r, rfl, h1⟩ := k1_some h
  obtain ⟨i, rfl, h2⟩ := onInt_some h1
  obtain ⟨v, rfl, w1⟩ := w.one
  cases w1.int
  exact .inl ⟨i, rfl, post _ _ G H env (Stp.refl S) (.da (.int _)) h2⟩
/-- list(x), x a list or a tuple -/
def kList : KC := fun rs0 env0 P0 => k1 (fun r env P => onS env r fun xs => P (.fl xs) env) rs0 env0 P0
theorem rc_list : RC K (fun xs H Q => ∃ p ys, xs = [.ref p] ∧ (SqL K H p ys ∨ SqT K H p ys) ∧ ∀ l, H l = none → Q (.ref l) (upd H l (.lst ys))) kList := by
  intro c Hs G σ H env xs rs P Q S w h post
  obtain ⟨r, rfl, h1⟩ := k1_some h
  obtain ⟨ds, e, h2⟩ := onS_some h1
  obtain ⟨v, rfl, w1⟩ := w.one
  obtain ⟨p, vs, rfl, hp, a⟩ := vS_at S w1 e
  exact ⟨p, vs, rfl, hp.imp (fun z => .inl (.inl z)) (fun z => .inl (.inl z)), fun q hq => fin_fl S a post h2 hq⟩
/-- tuple(x), x a list -/
def kTuple : KC := fun rs0 env0 P0 => k1 (fun r env P => onL env r fun xs => P (.da (.tup xs)) env) rs0 env0 P0
theorem rc_tuple : RC K (fun xs H Q => ∃ p ys, xs = [.ref p] ∧ ((SqL K H p ys ∧ ∀ l, H l = none → Q (.ref l) (upd H l (.tup ys))) ∨ (SqT K H p ys ∧ Q (.ref p) H))) kTuple := by
  intro c Hs G σ H env xs rs P Q S w h post
  obtain ⟨r, rfl, h1⟩ := k1_some h
  obtain ⟨ds, e, h2⟩ := onL_some h1
  obtain ⟨v, rfl, w1⟩ := w.one
  obtain ⟨p, vs, rfl, hp, a⟩ := vL_at S w1 e
  exact ⟨p, vs, rfl, .inl ⟨.inl (.inl hp), fun q hq => fin_tup S a post h2 hq⟩⟩
/-- sorted(list of ints) -/
def kSortI : KC := fun rs0 env0 P0 => k1 (fun r env P => onL env r fun xs => ∃ ns, xs = iD ns ∧ ∀ ns', ns'.Perm ns → ns'.Pairwise (· ≤ ·) → P (.fl (iD ns')) env) rs0 env0 P0
theorem rc_sortI : RC K (rSortedI K) kSortI := by
  intro c Hs G σ H env xs rs P Q S w h post
  obtain ⟨r, rfl, h1⟩ := k1_some h
  obtain ⟨ds, e, ns, rfl, h2⟩ := onL_some h1
  obtain ⟨v, rfl, w1⟩ := w.one
  obtain ⟨p, vs, rfl, hp, a⟩ := vL_at S w1 e
  cases a.ints
  exact ⟨p, ns, rfl, .inl (.inl hp), fun ns' q h3 h4 hq => fin_fl S (Ats.ofInts ns') post (h2 ns' h3 h4) hq⟩
def kDivmod : KC := fun rs0 env0 P0 => k2 (fun r r' env P => onInt r fun i => onInt r' fun j => CDivP i j ∧ P (.da (.tup [.int (i / j), .int (i % j)])) env) rs0 env0 P0
theorem rc_divmod : RC K (fun xs H Q => ∃ i j, xs = [.int i, .int j] ∧ CDivP i j ∧ ∀ p, H p = none → Q (.ref p) (upd H p (.tup [.int (i / j), .int (i % j)]))) kDivmod := by
  intro c Hs G σ H env xs rs P Q S w h post
  obtain ⟨r, r', rfl, h1⟩ := k2_some h
  obtain ⟨i, rfl, h2⟩ := onInt_some h1
  obtain ⟨j, rfl, hc, h3⟩ := onInt_some h2
  obtain ⟨v, u, rfl, w1, w2⟩ := w.two
  cases w1.int
  cases w2.int
  exact ⟨i, j, rfl, hc, fun p hp => fin_tup S (.cons (.int _) (.cons (.int _) .nil)) post h3 hp⟩
end
end RK
-- D3
set_option Elab.async false
set_option linter.all false
set_option maxRecDepth 100000
set_option maxHeartbeats 4000000
/-! D3: dicts, methods, fields, list(range), join -/
namespace RK
open PySem PySem.Spec PyProof.Rows L2

/-! ### dicts -/
def lk (kvs : List (Int × Da)) (k : Int) : Option Da := (kvs.find? fun q => decide (q.1 = k)).map (·.2)
def putD (kvs : List (Int × Da)) (k : Int) (d : Da) : List (Int × Da) := if (kvs.any fun q => decide (q.1 = k)) = true then kvs.map (fun q => if q.1 = k then (q.1, d) else q) else kvs ++ [(k, d)]
theorem lk_nil {k : Int} : lk [] k = none := rfl
theorem lk_cons {q : Int × Da} {r : List (Int × Da)} {k : Int} : lk (q :: r) k = if q.1 = k then some q.2 else lk r k := by
  unfold lk
  rw [List.find?_cons]
  by_cases h : q.1 = k <;> simp [h]
theorem lk_append {a b : List (Int × Da)} {k : Int} : lk (a ++ b) k = (lk a k).or (lk b k) := by
  induction a with
  | nil => rfl
  | cons q r ih =>
    rw [List.cons_append, lk_cons, lk_cons, ih]
    by_cases h : q.1 = k <;> simp [h]
theorem lk_any (k : Int) : ∀ kvs : List (Int × Da), (kvs.any fun q => decide (q.1 = k)) = (lk kvs k).isSome
  | [] => rfl
  | q :: r => by
    rw [List.any_cons, lk_cons, lk_any k r]
    by_cases h : q.1 = k <;> simp [h]
theorem lk_map_ne {kvs : List (Int × Da)} {k j : Int} {d : Da} (h : j ≠ k) : lk (kvs.map fun q => if q.1 = k then (q.1, d) else q) j = lk kvs j := by
  induction kvs with
  | nil => rfl
  | cons q r ih =>
    rw [List.map_cons, lk_cons, lk_cons, ih]
    by_cases hq : q.1 = k
    · rw [if_pos hq]
      have : q.1 ≠ j := fun z => h (z ▸ hq)
      simp [this]
    · rw [if_neg hq]
theorem lk_map_eq {kvs : List (Int × Da)} {k : Int} {d : Da} (h : (lk kvs k).isSome = true) : lk (kvs.map fun q => if q.1 = k then (q.1, d) else q) k = some d := by
  induction kvs with
  | nil => cases h
  | cons q r ih =>
    rw [List.map_cons, lk_cons]
    by_cases hq : q.1 = k
    · simp [hq]
    · rw [lk_cons, if_neg hq] at h
      simp only [if_neg hq]
      exact ih h
theorem lk_put {kvs : List (Int × Da)} {k j : Int} {d : Da} : lk (putD kvs k d) j = if j = k then some d else lk kvs j := by
  unfold putD
  rw [lk_any]
  by_cases h : (lk kvs k).isSome = true
  · rw [if_pos h]
    by_cases e : j = k
    · rw [if_pos e, e, lk_map_eq h]
    · rw [if_neg e, lk_map_ne e]
  · rw [if_neg h, lk_append, lk_cons]
    by_cases e : j = k
    · rw [if_pos e, e]
      have : lk kvs k = none := by
        cases q : lk kvs k with
        | none => rfl
        | some x => rw [q] at h; exact absurd rfl h
      simp [this]
    · rw [if_neg e]
      have : ¬ k = j := fun z => e z.symm
      simp [this, lk_nil]
theorem put_length {kvs : List (Int × Da)} {k : Int} {d : Da} : (putD kvs k d).length ≤ kvs.length + 1 := by
  unfold putD
  split <;> simp
section
variable {K : PySem.W.Frag} {G : Hp}
theorem lk_val : ∀ {kvs : List (Key × V)} {ds : List (Int × Da)} {k : Int}, kvs.map (·.1) = ds.map (fun q => Sum.inl q.1) → Ats K G (kvs.map (·.2)) (ds.map (·.2)) →
    match lk ds k with
    | some d => ∃ v, valV kvs (Sum.inl k) = some v ∧ At K G v d
    | none => valV kvs (Sum.inl k) = none
  | [], [], k, _, _ => rfl
  | [], _ :: _, k, e, _ => by cases e
  | _ :: _, [], k, e, _ => by cases e
  | p :: kvs, q :: ds, k, e, a => by
    rw [List.map_cons, List.map_cons, List.cons.injEq] at e
    rw [List.map_cons, List.map_cons] at a
    cases a with
    | cons h t =>
      have ih := lk_val (k := k) e.2 t
      rw [lk_cons]
      by_cases hq : q.1 = k
      · rw [if_pos hq]
        refine ⟨p.2, valV_pos (by rw [e.1, hq]), h⟩
      · rw [if_neg hq]
        have hp : ¬ p.1 = Sum.inl k := fun z => hq (by rw [e.1] at z; exact Sum.inl.inj z)
        rw [valV_neg hp]
        exact ih
theorem put_val {kvs : List (Key × V)} {ds : List (Int × Da)} {k : Int} {v : V} {d : Da} (e : kvs.map (·.1) = ds.map (fun q => Sum.inl q.1)) (a : Ats K G (kvs.map (·.2)) (ds.map (·.2))) (h : At K G v d) :
    (putK kvs (Sum.inl k) v).map (·.1) = (putD ds k d).map (fun q => Sum.inl q.1) ∧ Ats K G ((putK kvs (Sum.inl k) v).map (·.2)) ((putD ds k d).map (·.2)) := by
  have hany : (kvs.any fun kv => decide (kv.1 = (Sum.inl k : Key))) = ds.any fun q => decide (q.1 = k) := by
    rw [valV_any, lk_any]
    have := lk_val (k := k) e a
    cases z : lk ds k with
    | none => rw [z] at this; rw [show valV kvs (Sum.inl k) = none from this]; rfl
    | some x =>
      rw [z] at this
      obtain ⟨w, e1, _⟩ := this
      rw [e1]
      rfl
  unfold putK putD
  rw [hany]
  split
  · clear hany
    rename_i hh
    clear hh
    induction kvs generalizing ds with
    | nil =>
      cases ds with
      | nil => exact ⟨rfl, .nil⟩
      | cons q ds => cases e
    | cons p kvs ih =>
      cases ds with
      | nil => cases e
      | cons q ds =>
        simp only [List.map_cons, List.cons.injEq] at e a ⊢
        cases a with
        | cons h1 t =>
          obtain ⟨i1, i2⟩ := ih e.2 t
          by_cases hq : q.1 = k
          · have hp : p.1 = Sum.inl k := by rw [e.1, hq]
            rw [if_pos hq, if_pos hp]
            exact ⟨⟨e.1, i1⟩, .cons h i2⟩
          · have hp : ¬ p.1 = Sum.inl k := fun z => hq (by rw [e.1] at z; exact Sum.inl.inj z)
            rw [if_neg hq, if_neg hp]
            exact ⟨⟨e.1, i1⟩, .cons h1 i2⟩
  · refine ⟨?_, ?_⟩
    · rw [List.map_append, List.map_append, e]
      rfl
    · rw [List.map_append, List.map_append]
      exact a.append (.cons h .nil)
end
def dDGet (dd dy : DT) : DT := fun env P => dd env fun r1 e1 => dy e1 fun r2 e2 => onInt r2 fun k => onM e2 r1 fun kvs => onO (lk kvs k) fun d => P (.da d) e2
def dDIn (neg : Bool) (dy dd : DT) : DT := fun env P => dy env fun r2 e1 => dd e1 fun r1 e2 => onInt r2 fun k => onM e2 r1 fun kvs => P (.da (.bl (if neg then !(lk kvs k).isSome else (lk kvs k).isSome))) e2
def dDGet2 (dd dy dx : DT) : DT := fun env P => dd env fun r1 e1 => onM e1 r1 fun _ => dy e1 fun r2 e2 => dx e2 fun r3 e3 => onInt r2 fun k => onM e3 r1 fun kvs => onDa r3 fun z => P (.da ((lk kvs k).getD z)) e3
section
variable {K : PySem.W.Frag} {td ty tx : TE} {dd dy dx : DT}
theorem re_dget (a : RE K td dd) (b : RE K ty dy) : RE K (tDGet td ty) (dDGet dd dy) := by
  intro c G σ H env P Q S h post
  refine a c G σ H env _ _ S h fun v1 r1 G1 H1 e1 T1 w1 h1 => ?_
  refine b c G1 σ H1 e1 _ _ T1.st h1 fun v2 r2 G2 H2 e2 T2 w2 h2 => ?_
  obtain ⟨k, rfl, h3⟩ := onInt_some h2
  obtain ⟨kvs, e, h4⟩ := onM_some h3
  obtain ⟨d, el, h5⟩ := onO_some h4
  cases w2.int
  obtain ⟨p, kvs', rfl, hp, hk, hv⟩ := vM_at T2.st (w1.keep T2) e
  have q := lk_val (k := k) hk hv
  rw [el] at q
  obtain ⟨v, e1, e2⟩ := q
  refine ⟨p, v, rfl, ?_, post _ _ G2 H2 _ (T1.trans T2) (.da e2) h5⟩
  rw [← e1]
  exact DGet.k (k := Sum.inl k) hp
theorem re_din0 (neg : Bool) (a : RE K ty dy) (b : RE K td dd) : RE K (if neg then tDNotIn ty td else tDIn ty td) (dDIn neg dy dd) := by
  have key : ∀ (c : Ctx) (G : Hp) (σ : L2.St) (H : Hp) (env : En) (P : RV → En → Prop) (Q : VK), Stt K c G σ H env → dDIn neg dy dd env P →
      (∀ v r G' H' env', Stp K c G σ H env G' H' env' → AtR K H G' σ H' env' v r → P r env' → Q v H') →
      ty σ H fun y H1 => td σ H1 fun x H2 => ∃ a o, x = .ref a ∧ DGet H2 a y o ∧ Q (.bl (if neg then !o.isSome else o.isSome)) H2 := by
    intro c G σ H env P Q S h post
    refine a c G σ H env _ _ S h fun v1 r1 G1 H1 e1 T1 w1 h1 => ?_
    refine b c G1 σ H1 e1 _ _ T1.st h1 fun v2 r2 G2 H2 e2 T2 w2 h2 => ?_
    obtain ⟨k, rfl, h3⟩ := onInt_some h2
    obtain ⟨kvs, e, h4⟩ := onM_some h3
    cases w1.int
    obtain ⟨p, kvs', rfl, hp, hk, hv⟩ := vM_at T2.st w2 e
    have q := lk_val (k := k) hk hv
    refine ⟨p, _, rfl, DGet.k (k := Sum.inl k) hp, post _ _ G2 H2 _ (T1.trans T2) (.da (.bl _)) ?_⟩
    have es : (valV kvs' (Sum.inl k)).isSome = (lk kvs k).isSome := by
      cases z : lk kvs k with
      | none =>
        rw [z] at q
        rw [show valV kvs' (Sum.inl k) = none from q]
        rfl
      | some x =>
        rw [z] at q
        obtain ⟨w, e1, _⟩ := q
        rw [e1]
        rfl
    rw [es]
    exact h4
  cases neg
  · exact key
  · exact key
theorem re_din (a : RE K ty dy) (b : RE K td dd) : RE K (tDIn ty td) (dDIn false dy dd) := re_din0 false a b
theorem re_dnotin (a : RE K ty dy) (b : RE K td dd) : RE K (tDNotIn ty td) (dDIn true dy dd) := re_din0 true a b
theorem re_dget2 (a : RE K td dd) (b : RE K ty dy) (cc : RE K tx dx) : RE K (tDGet2 td ty tx) (dDGet2 dd dy dx) := by
  intro c G σ H env P Q S h post
  refine a c G σ H env _ _ S h fun v1 r1 G1 H1 e1 T1 w1 h1 => ?_
  obtain ⟨kvs0, e0, h1⟩ := onM_some h1
  obtain ⟨p, kvs1, rfl, hp1, _, _⟩ := vM_at T1.st w1 e0
  refine ⟨p, rfl, .inl ⟨_, .inl hp1⟩, ?_⟩
  refine b c G1 σ H1 e1 _ _ T1.st h1 fun v2 r2 G2 H2 e2 T2 w2 h2 => ?_
  refine cc c G2 σ H2 e2 _ _ T2.st h2 fun v3 r3 G3 H3 e3 T3 w3 h3 => ?_
  obtain ⟨k, rfl, h4⟩ := onInt_some h3
  obtain ⟨kvs, e, h5⟩ := onM_some h4
  obtain ⟨z, ez, h6⟩ := onDa_some h5
  cases w2.int
  obtain ⟨p', kvs', ep, hp, hk, hv⟩ := vM_at T3.st ((w1.keep T2).keep T3) e
  cases ep
  obtain ⟨G4, T4, w4, s4, _⟩ := w3.absorb T2.st T3 ez
  have q := lk_val (k := k) hk hv
  refine ⟨_, DGet.k (k := Sum.inl k) hp, ?_⟩
  have T : Stp K c G σ H env G4 H3 e3 := (T1.trans T2).trans T4
  cases zz : lk kvs k with
  | none =>
    rw [zz] at q h6
    rw [show valV kvs' (Sum.inl k) = none from q]
    exact post _ _ G4 H3 _ T (.da w4) h6
  | some x =>
    rw [zz] at q h6
    obtain ⟨w, e1, ax⟩ := q
    rw [e1]
    exact post _ _ G4 H3 _ T (.da (ax.mono s4)) h6
theorem re_dnew : RE K tDNewK (fun env P => P (.fm []) env) := by
  intro c G σ H env P Q S h post p hp
  exact post _ _ G _ env (Stp.new S hp) (.fm hp (S.free hp) upd_same rfl .nil fun i => S.notOwn hp i) h
end
/-! ### methods of lists -/
abbrev KM := RV → List RV → En → (RV → En → Prop) → Prop
def RM (K : PySem.W.Frag) (r : V → List V → Hp → VK → Prop) (k : KM) : Prop := ∀ (c : Ctx) (Hs G : Hp) (σ : L2.St) (H : Hp) (env : En) (x : V) (r1 : RV) (xs : List V) (rs : List RV) (P : RV → En → Prop) (Q : VK), Stt K c G σ H env → AtR K Hs G σ H env x r1 → AtRs K Hs G σ H env xs rs → k r1 rs env P →
  (∀ v r G' H' env', Stp K c G σ H env G' H' env' → AtR K H G' σ H' env' v r → P r env' → Q v H') → r x xs H Q
def dBM (k : KM) (dd : DT) (da : DAT) : DT := fun env P => dd env fun r e1 => onL e1 r fun _ => da e1 fun rs e2 => k r rs e2 P
def dBM0 (k : KM) (dd : DT) : DT := fun env P => dd env fun r e1 => onL e1 r fun _ => k r [] e1 P
def dBMS (k : KM) (dd : DT) (da : DAT) : DT := fun env P => dd env fun r e1 => onStr r fun _ => da e1 fun rs e2 => k r rs e2 P
section
variable {K : PySem.W.Frag} {to : TE} {t : TA} {dd : DT} {da : DAT} {r : V → List V → Hp → VK → Prop} {k : KM}
theorem re_bm (rm : RM K r k) (a : RE K to dd) (b : RA K t da) : RE K (tBM K "list" r to t) (dBM k dd da) := by
  intro c G σ H env P Q S h post
  refine a c G σ H env _ _ S h fun v1 r1 G1 H1 e1 T1 w1 h1 => ?_
  obtain ⟨xs, e, h2⟩ := onL_some h1
  obtain ⟨p, vs, rfl, hp, av⟩ := vL_at T1.st w1 e
  refine ⟨.inl ⟨rfl, _, .inl (.inl hp)⟩, ?_⟩
  refine b c G1 σ H1 e1 _ _ T1.st h2 fun ws rs G2 H2 e2 T2 w2 h3 => ?_
  exact rm c H G2 σ H2 e2 _ r1 ws rs P _ T2.st (w1.keep T2) (w2.start T1.al) h3 fun v r G3 H3 e3 T3 w3 h4 => post v r G3 H3 e3 ((T1.trans T2).trans T3) (w3.start (T1.trans T2).al) h4
theorem re_bm0 (rm : RM K r k) (a : RE K to dd) : RE K (tBM0 K "list" r to) (dBM0 k dd) := by
  intro c G σ H env P Q S h post
  refine a c G σ H env _ _ S h fun v1 r1 G1 H1 e1 T1 w1 h1 => ?_
  obtain ⟨xs, e, h2⟩ := onL_some h1
  obtain ⟨p, vs, rfl, hp, av⟩ := vL_at T1.st w1 e
  refine ⟨.inl ⟨rfl, _, .inl (.inl hp)⟩, ?_⟩
  exact rm c H G1 σ H1 e1 _ r1 [] [] P _ T1.st w1 .nil h2 fun v r G3 H3 e3 T3 w3 h4 => post v r G3 H3 e3 (T1.trans T3) (w3.start T1.al) h4
theorem re_bmS (rm : RM K r k) (a : RE K to dd) (b : RA K t da) : RE K (tBM K "str" r to t) (dBMS k dd da) := by
  intro c G σ H env P Q S h post
  refine a c G σ H env _ _ S h fun v1 r1 G1 H1 e1 T1 w1 h1 => ?_
  obtain ⟨z, rfl, h2⟩ := onStr_some h1
  cases w1.str
  refine ⟨rfl, ?_⟩
  refine b c G1 σ H1 e1 _ _ T1.st h2 fun ws rs G2 H2 e2 T2 w2 h3 => ?_
  exact rm c H G2 σ H2 e2 _ _ ws rs P _ T2.st (.da (.str z)) (w2.start T1.al) h3 fun v r G3 H3 e3 T3 w3 h4 => post v r G3 H3 e3 ((T1.trans T2).trans T3) (w3.start (T1.trans T2).al) h4
/-- an owned list -/
def onOwn (env : En) (r : RV) (k : Nat → List Da → Prop) : Prop := match r with
  | .sl i => match env[i]? with
    | some (.l xs) => k i xs
    | _ => False
  | _ => False
theorem onOwn_some {env : En} {r : RV} {k : Nat → List Da → Prop} (h : onOwn env r k) : ∃ i xs, r = .sl i ∧ env[i]? = some (.l xs) ∧ k i xs := by
  unfold onOwn at h
  split at h
  · split at h
    · exact ⟨_, _, rfl, by assumption, h⟩
    · exact False.elim h
  · exact False.elim h
theorem own_at {c : Ctx} {Hs G H : Hp} {σ : L2.St} {env : En} {v : V} {i : Nat} {xs : List Da} (S : Stt K c G σ H env) (w : AtR K Hs G σ H env v (.sl i)) (e : env[i]? = some (.l xs)) :
    ∃ p vs, v = .ref p ∧ σ[i]? = some (some (.ref p)) ∧ G p = none ∧ c.H0 p = none ∧ H p = some (.lst vs) ∧ Ats K G vs xs := by
  cases w with
  | sl w =>
    obtain ⟨s, e1, ho, es⟩ := w
    obtain ⟨o, eo, q⟩ := S.sl i _ e
    obtain ⟨p2, vs, e2, a1, a2, e3, e4⟩ := q
    rw [es] at eo
    cases eo
    cases e2
    exact ⟨_, vs, rfl, es, a1, a2, e3, e4⟩
/-- the owned list becomes another -/
theorem own_mut {c : Ctx} {G H : Hp} {σ : L2.St} {env : En} {i : Nat} {p : Addr} {xs ys : List Da} {vs : List V} (S : Stt K c G σ H env) (e : env[i]? = some (.l xs)) (es : σ[i]? = some (some (.ref p))) (gp : G p = none) (hb : c.H0 p = none) (a : Ats K G vs ys) :
    Stp K c G σ H env G (upd H p (.lst vs)) (env.set i (.l ys)) := Stp.mut S e rfl rfl es ⟨p, vs, rfl, gp, hb, upd_same, a⟩
def kAppend : KM := fun r rs env P => onOwn env r fun i xs => match rs with
  | [.da d] => xs.length < sizeLine ∧ P (.da .non) (env.set i (.l (xs ++ [d])))
  | _ => False
theorem rm_append : RM K rAppend kAppend := by
  intro c Hs G σ H env x r1 xs rs P Q S w1 w2 h post
  obtain ⟨i, ys, rfl, e, h1⟩ := onOwn_some h
  split at h1
  · rename_i d
    obtain ⟨v, rfl, w3⟩ := w2.one
    obtain ⟨p, vs, rfl, es, gp, hb, hp, a⟩ := own_at S w1 e
    cases w3 with
    | da ad => exact ⟨p, vs, v, rfl, rfl, hp, by rw [a.length]; exact h1.1, post _ _ G _ _ (own_mut S e es gp hb (a.append (.cons ad .nil))) (.da .non) h1.2⟩
  · exact False.elim h1
def kExtend : KM := fun r rs env P => onOwn env r fun i xs => match rs with
  | [q] => onL env q fun ys => q ≠ .sl i ∧ xs.length + ys.length ≤ sizeLine ∧ P (.da .non) (env.set i (.l (xs ++ ys)))
  | _ => False
theorem rm_extend : RM K rExtend kExtend := by
  intro c Hs G σ H env x r1 xs rs P Q S w1 w2 h post
  obtain ⟨i, ys, rfl, e, h1⟩ := onOwn_some h
  split at h1
  · rename_i q
    obtain ⟨zs, eq, hne, hl, h2⟩ := onL_some h1
    obtain ⟨v, rfl, w3⟩ := w2.one
    obtain ⟨p, vs, rfl, es, gp, hb, hp, a⟩ := own_at S w1 e
    obtain ⟨b, us, rfl, hq, au⟩ := vL_at S w3 eq
    exact ⟨p, b, vs, us, rfl, rfl, hp, hq, by rw [a.length, au.length]; exact hl, post _ _ G _ _ (own_mut S e es gp hb (a.append au)) (.da .non) h2⟩
  · exact False.elim h1
def kPop : KM := fun r rs env P => onOwn env r fun i xs => rs = [] ∧ onO (xs[xs.length - 1]?) fun d => P (.da d) (env.set i (.l xs.dropLast))
theorem rm_pop : RM K rPop kPop := by
  intro c Hs G σ H env x r1 xs rs P Q S w1 w2 h post
  obtain ⟨i, ys, rfl, e, rfl, h1⟩ := onOwn_some h
  obtain ⟨d, ed, h2⟩ := onO_some h1
  cases w2
  obtain ⟨p, vs, rfl, es, gp, hb, hp, a⟩ := own_at S w1 e
  obtain ⟨v, ev, av⟩ := a.get ed
  exact ⟨p, vs, v, rfl, rfl, hp, by rw [a.length]; exact ev, post _ _ G _ _ (own_mut S e es gp hb a.dropLast) (.da av) h2⟩
def kPopAt : KM := fun r rs env P => onOwn env r fun i xs => match rs with
  | [.da (.int j)] => ∃ n : Nat, j = n ∧ (n : Int) < 2 ^ 63 ∧ onO (xs[n]?) fun d => P (.da d) (env.set i (.l (xs.eraseIdx n)))
  | _ => False
theorem rm_popAt : RM K rPopAt kPopAt := by
  intro c Hs G σ H env x r1 xs rs P Q S w1 w2 h post
  obtain ⟨i, ys, rfl, e, h1⟩ := onOwn_some h
  split at h1
  · rename_i j
    obtain ⟨n, rfl, hn, h2⟩ := h1
    obtain ⟨d, ed, h3⟩ := onO_some h2
    obtain ⟨v, rfl, w3⟩ := w2.one
    cases w3.int
    obtain ⟨p, vs, rfl, es, gp, hb, hp, a⟩ := own_at S w1 e
    obtain ⟨v, ev, av⟩ := a.get ed
    have hl : n < vs.length := (List.getElem?_eq_some_iff.mp ev).1
    refine ⟨p, vs, n, n, v, rfl, rfl, hp, by omega, hn, ?_, ev, post _ _ G _ _ (own_mut S e es gp hb (a.erase n)) (.da av) h3⟩
    have := PySem.seqIndex_of (k := (n : Int)) (n := vs.length) (by omega) (by omega)
    rw [this]
    simp
  · exact False.elim h1
def kClear : KM := fun r rs env P => onOwn env r fun i xs => rs = [] ∧ P (.da .non) (env.set i (.l []))
theorem rm_clear : RM K rClear kClear := by
  intro c Hs G σ H env x r1 xs rs P Q S w1 w2 h post
  obtain ⟨i, ys, rfl, e, rfl, h1⟩ := onOwn_some h
  cases w2
  obtain ⟨p, vs, rfl, es, gp, hb, hp, a⟩ := own_at S w1 e
  exact ⟨p, vs, rfl, rfl, hp, post _ _ G _ _ (own_mut S e es gp hb .nil) (.da .non) h1⟩
/-- xs.index(n), xs.count(n): ints -/
def kIndex : KM := fun r rs env P => onL env r fun xs => match rs with
  | [.da (.int n)] => ∃ ns, xs = iD ns ∧ n ∈ ns ∧ P (.da (.int (ns.idxOf n : Nat))) env
  | _ => False
theorem idxOf_get {n : Int} : ∀ {ns : List Int}, n ∈ ns → ns[ns.idxOf n]? = some n ∧ ∀ m, m < ns.idxOf n → ns[m]? ≠ some n
  | [], h => by cases h
  | a :: r, h => by
    rw [List.idxOf_cons]
    by_cases e : a = n
    · have e' : (a == n) = true := by simp [e]
      rw [e']
      exact ⟨by simp [e], fun m hm => absurd hm (by simp)⟩
    · have e' : (a == n) = false := by simp [e]
      rw [e']
      have hr : n ∈ r := by
        rcases List.mem_cons.mp h with z | z
        · exact absurd z.symm e
        · exact z
      obtain ⟨h1, h2⟩ := idxOf_get hr
      refine ⟨by simpa using h1, fun m hm => ?_⟩
      cases m with
      | zero => simpa using e
      | succ m =>
        have : m < r.idxOf n := by simpa using hm
        simpa using h2 m this
theorem rm_index : RM K (rIndex K) kIndex := by
  intro c Hs G σ H env x r1 xs rs P Q S w1 w2 h post
  obtain ⟨ys, e, h1⟩ := onL_some h
  split at h1
  · rename_i n
    obtain ⟨ns, rfl, hn, h2⟩ := h1
    obtain ⟨v, rfl, w3⟩ := w2.one
    cases w3.int
    obtain ⟨p, vs, rfl, hp, a⟩ := vL_at S w1 e
    cases a.ints
    obtain ⟨g1, g2⟩ := idxOf_get hn
    refine ⟨p, _, .int n, ns.idxOf n, .int n, rfl, rfl, .inl (.inl hp), rfl, flat_ints ns, ?_, ?_, fun m z hm hz => ?_, post _ _ G H env (Stp.refl S) (.da (.int _)) h2⟩
    · rw [List.getElem?_map, g1]
      rfl
    · show (n == n) = true
      simp
    · rw [List.getElem?_map] at hz
      cases q : ns[m]? with
      | none => rw [q] at hz; cases hz
      | some y =>
        rw [q] at hz
        cases hz
        have : y ≠ n := fun z => g2 m hm (by rw [q, z])
        show (y == n) = false
        simp [this]
  · exact False.elim h1
def kCount : KM := fun r rs env P => onL env r fun xs => match rs with
  | [.da (.int n)] => ∃ ns, xs = iD ns ∧ P (.da (.int (ns.count n : Nat))) env
  | _ => False
theorem rm_count : RM K (rCntI K) kCount := by
  intro c Hs G σ H env x r1 xs rs P Q S w1 w2 h post
  obtain ⟨ys, e, h1⟩ := onL_some h
  split at h1
  · rename_i n
    obtain ⟨ns, rfl, h2⟩ := h1
    obtain ⟨v, rfl, w3⟩ := w2.one
    cases w3.int
    obtain ⟨p, vs, rfl, hp, a⟩ := vL_at S w1 e
    cases a.ints
    exact ⟨p, ns, n, rfl, rfl, .inl (.inl hp), post _ _ G H env (Stp.refl S) (.da (.int _)) h2⟩
  · exact False.elim h1
/-- text.index(sign): some place of it -/
def kSIndex : KM := fun r rs env P => onStr r fun z => match rs with
  | [.da (.str s)] => ∃ ch, s = ⟨#[ch]⟩ ∧ ch ∈ z.cps.toList ∧ ∀ i : Nat, z.cps.toList[i]? = some ch → P (.da (.int (i : Nat))) env
  | _ => False
theorem rm_sindex : RM K (fun x xs H Q => ∃ a b i rest, x = .str a ∧ xs = [.str b] ∧ Builtin.Str.occurrences a b 0 a.length 1 = i :: rest ∧ Q (.int (i : Nat)) H) kSIndex := by
  intro c Hs G σ H env x r1 xs rs P Q S w1 w2 h post
  obtain ⟨z, rfl, h1⟩ := onStr_some h
  split at h1
  · rename_i s
    obtain ⟨ch, rfl, hm, h2⟩ := h1
    obtain ⟨v, rfl, w3⟩ := w2.one
    cases w3.str
    cases w1.str
    have hf := StrLaws.found_one z ch
    rw [decide_eq_true hm] at hf
    cases ho : Builtin.Str.occurrences z ⟨#[ch]⟩ 0 z.length 1 with
    | nil =>
      rw [ho] at hf
      cases hf
    | cons i rest =>
      have hs := StrLaws.occ_spec z ⟨#[ch]⟩ 0 z.length 1 i (by rw [ho]; exact List.mem_cons_self)
      refine ⟨z, ⟨#[ch]⟩, i, rest, rfl, rfl, ho, post _ _ G H env (Stp.refl S) (.da (.int _)) (h2 i ?_)⟩
      obtain ⟨h3, h4⟩ := hs
      have h5 : z.cps.extract i (i + 1) = #[ch] := by
        have : (z.cps.extract i (i + (⟨#[ch]⟩ : Str).length) == #[ch]) = true := h4
        exact eq_of_beq this
      have h6 : (z.cps.extract i (i + 1))[0]? = some ch := by rw [h5]; rfl
      rw [Array.getElem?_extract] at h6
      split at h6
      · rw [Nat.add_zero] at h6
        rw [Array.getElem?_toList]
        exact h6
      · cases h6
  · exact False.elim h1
end
/-! ### fields -/
def lkF (f : Str) : List Str → List Da → Option Da
  | n :: ns, d :: ds => if n = f then some d else lkF f ns ds
  | _, _ => none
def dFld (C : Addr) (f : Str) (de : DT) : DT := fun env P => de env fun r e1 => match r with
  | .da (.obj C' ns ds) => C' = C ∧ onO (lkF f ns ds) fun d => P (.da d) e1
  | _ => False
theorem lkF_val {K : PySem.W.Frag} {G : Hp} {f : Str} : ∀ {fs : List (Str × V)} {ns : List Str} {ds : List Da} {d : Da}, fs.map (·.1) = ns → Ats K G (fs.map (·.2)) ds → lkF f ns ds = some d → ∃ v, fs.lookup f = some v ∧ At K G v d
  | [], _, _, _, rfl, a, h => by cases h
  | p :: fs, _, _, d, rfl, a, h => by
    rw [List.map_cons] at a h
    cases a with
    | cons h1 t =>
      unfold lkF at h
      rw [List.lookup_cons]
      by_cases e : p.1 = f
      · rw [if_pos e] at h
        cases h
        have : (f == p.1) = true := by simp [e]
        rw [this]
        exact ⟨p.2, rfl, h1⟩
      · rw [if_neg e] at h
        have : (f == p.1) = false := by simpa using fun z => e (Eq.symm z)
        rw [this]
        exact lkF_val rfl t h
theorem re_fld {K : PySem.W.Frag} {te : TE} {de : DT} {C : Addr} {f : Str} (hc : Cls K C) (hn : NoAttr K C f) (a : RE K te de) : RE K (tFld K te f) (dFld C f de) := by
  intro c G σ H env P Q S h post
  refine a c G σ H env _ _ S h fun v1 r1 G1 H1 e1 T1 w1 h1 => ?_
  split at h1
  · rename_i C' ns ds
    obtain ⟨rfl, h2⟩ := h1
    obtain ⟨d, e, h3⟩ := onO_some h2
    cases w1 with
    | da ad =>
      cases ad with
      | obj g hk hv =>
        obtain ⟨v, ev, av⟩ := lkF_val hk hv e
        exact ⟨_, _, _, _, v, rfl, T1.st.gh _ _ g, hc, hn, ev, post _ _ G1 H1 e1 T1 (.da av) h3⟩
  · exact False.elim h1
/-! ### list(range(..)), join -/
def dLR (dd : En → (Int → Int → En → Prop) → Prop) : DT := fun env P => dd env fun a b e1 => RgOk a b ∧ P (.fl (iD ((List.range (b - a).toNat).map fun i : Nat => a + (i : Nat)))) e1
def dRg1 (da : DT) : En → (Int → Int → En → Prop) → Prop := fun env P => da env fun r e1 => onInt r fun n => P 0 n e1
def dRg2 (da db : DT) : En → (Int → Int → En → Prop) → Prop := fun env P => da env fun r e1 => db e1 fun r' e2 => onInt r fun i => onInt r' fun j => P i j e2
def RRg (K : PySem.W.Frag) (t : L2.St → Hp → (Int → Int → Hp → Prop) → Prop) (d : En → (Int → Int → En → Prop) → Prop) : Prop := ∀ (c : Ctx) (G : Hp) (σ : L2.St) (H : Hp) (env : En) (P : Int → Int → En → Prop) (Q : Int → Int → Hp → Prop), Stt K c G σ H env → d env P →
  (∀ a b G' H' env', Stp K c G σ H env G' H' env' → P a b env' → Q a b H') → t σ H Q
section
variable {K : PySem.W.Frag} {ta tb : TE} {da db : DT}
theorem rr_1 (a : RE K ta da) : RRg K (tRg1 ta) (dRg1 da) := by
  intro c G σ H env P Q S h post
  refine a c G σ H env _ _ S h fun v1 r1 G1 H1 e1 T1 w1 h1 => ?_
  obtain ⟨n, rfl, h2⟩ := onInt_some h1
  exact ⟨n, w1.int, post _ _ G1 H1 e1 T1 h2⟩
theorem rr_2 (a : RE K ta da) (b : RE K tb db) : RRg K (tRg2 ta tb) (dRg2 da db) := by
  intro c G σ H env P Q S h post
  refine a c G σ H env _ _ S h fun v1 r1 G1 H1 e1 T1 w1 h1 => ?_
  refine b c G1 σ H1 e1 _ _ T1.st h1 fun v2 r2 G2 H2 e2 T2 w2 h2 => ?_
  obtain ⟨i, rfl, h3⟩ := onInt_some h2
  obtain ⟨j, rfl, h4⟩ := onInt_some h3
  exact ⟨i, j, w1.int, w2.int, post _ _ G2 H2 e2 (T1.trans T2) h4⟩
theorem re_listRg {t : L2.St → Hp → (Int → Int → Hp → Prop) → Prop} {d : En → (Int → Int → En → Prop) → Prop} (a : RRg K t d) : RE K (tLstRg t) (dLR d) := by
  intro c G σ H env P Q S h post
  refine a c G σ H env _ _ S h fun x y G1 H1 e1 T1 h1 => ⟨h1.1, fun q hq => ?_⟩
  have ev : rgV x y = ((List.range (y - x).toNat).map fun i : Nat => x + (i : Nat)).map V.int := by
    unfold rgV
    rw [List.map_map]
    rfl
  rw [ev]
  exact fin_fl T1.st (Ats.ofInts _) (fun v r G' H' env' T' w hP => post v r G' H' env' (T1.trans T') (w.start T1.al) hP) h1.2 hq
/-- sep.join(list of texts) -/
def dJoin (da db : DT) : DT := fun env P => da env fun r e1 => onStr r fun a => db e1 fun r' e2 => onL e2 r' fun xs => ∃ ys : List Str, xs = ys.map Da.str ∧ (ys.map (·.length)).sum + ys.length * a.length ≤ 16777216 ∧ P (.da (.str (Txt.join a ys))) e2
theorem re_join (a : RE K ta da) (b : RE K tb db) : RE K (tM1 (fun x xs H Q => ∃ a p, ∃ ys : List Str, x = .str a ∧ xs = [.ref p] ∧ (SqL K H p (ys.map V.str) ∨ SqT K H p (ys.map V.str)) ∧ (ys.map (·.length)).sum + ys.length * a.length ≤ 16777216 ∧ Q (.str (Txt.join a ys)) H) ta tb) (dJoin da db) := by
  intro c G σ H env P Q S h post
  refine a c G σ H env _ _ S h fun v1 r1 G1 H1 e1 T1 w1 h1 => ?_
  obtain ⟨z, rfl, h2⟩ := onStr_some h1
  cases w1.str
  refine ⟨⟨z, rfl⟩, ?_⟩
  refine b c G1 σ H1 e1 _ _ T1.st h2 fun v2 r2 G2 H2 e2 T2 w2 h3 => ?_
  obtain ⟨xs, e, ys, rfl, hl, h4⟩ := onL_some h3
  obtain ⟨p, vs, rfl, hp, av⟩ := vL_at T2.st w2 e
  cases av.strs
  exact ⟨z, p, ys, rfl, rfl, .inl (.inl (.inl hp)), hl, post _ _ G2 H2 e2 (T1.trans T2) (.da (.str _)) h4⟩
end
end RK
-- D4
set_option Elab.async false
set_option linter.all false
set_option maxRecDepth 100000
set_option maxHeartbeats 4000000
/-! D4: statements, targets, loops, comprehensions -/
namespace RK
open PySem PySem.Spec PyProof.Rows L2

section
variable {K : PySem.W.Frag} {c : Ctx} {Hs G G' H H' G1 H1 : Hp} {σ : L2.St} {env env' env1 : En} {p : Addr} {o : HO} {v : V} {r : RV} {vs : List V} {rs : List RV}
/-- slot i gets a value that is data -/
theorem Stt.setD (S : Stt K c G σ H env) {d : Da} (a : At K G v d) (i : Nat) : Stt K c G (σ.set i (some v)) H (env.set i (.d d)) := by
  have ow : ∀ j q, Own (σ.set i (some v)) (env.set i (.d d)) j q → Own σ env j q := fun j q ⟨t, e, h1, h2⟩ => by
    by_cases hj : i = j
    · subst hj
      rw [List.getElem?_set] at e
      simp only [if_true] at e
      split at e
      · cases e
        cases h1
      · cases e
    · rw [List.getElem?_set_ne hj] at e h2
      exact ⟨t, e, h1, h2⟩
  refine ⟨by rw [List.length_set, List.length_set]; exact S.len, S.base, S.al, S.g0, S.gh, S.gf, fun j s e => ?_, fun j k q h1 h2 => S.ap j k q (ow j q h1) (ow k q h2)⟩
  by_cases hj : i = j
  · subst hj
    rw [List.getElem?_set] at e
    simp only [if_true] at e
    split at e
    · rename_i hl
      cases e
      exact ⟨some v, by rw [List.getElem?_set_self (by rw [S.len]; exact hl)], v, rfl, a⟩
    · cases e
  · rw [List.getElem?_set_ne hj] at e ⊢
    exact S.sl j s e
/-- slot i comes to own a new object -/
theorem Stt.setO (S : Stt K c G σ H env) {s : Sl} {p : Addr} (no : ∀ i, ¬ Own σ env i p) (a : SlAt K c G H (some (.ref p)) s) (i : Nat) : Stt K c G (σ.set i (some (.ref p))) H (env.set i s) := by
  have ow : ∀ j q, Own (σ.set i (some (.ref p))) (env.set i s) j q → (j = i ∧ q = p) ∨ (j ≠ i ∧ Own σ env j q) := fun j q ⟨t, e, h1, h2⟩ => by
    by_cases hj : i = j
    · subst hj
      rw [List.getElem?_set] at h2
      simp only [if_true] at h2
      split at h2
      · cases h2
        exact .inl ⟨rfl, rfl⟩
      · cases h2
    · rw [List.getElem?_set_ne hj] at e h2
      exact .inr ⟨fun z => hj z.symm, t, e, h1, h2⟩
  refine ⟨by rw [List.length_set, List.length_set]; exact S.len, S.base, S.al, S.g0, S.gh, S.gf, fun j t e => ?_, fun j k q h1 h2 => ?_⟩
  · by_cases hj : i = j
    · subst hj
      rw [List.getElem?_set] at e
      simp only [if_true] at e
      split at e
      · rename_i hl
        cases e
        exact ⟨_, by rw [List.getElem?_set_self (by rw [S.len]; exact hl)], a⟩
      · cases e
    · rw [List.getElem?_set_ne hj] at e ⊢
      exact S.sl j t e
  · rcases ow j q h1 with ⟨a1, a2⟩ | ⟨a1, a2⟩ <;> rcases ow k q h2 with ⟨b1, b2⟩ | ⟨b1, b2⟩
    · rw [a1, b1]
    · subst a2
      exact absurd b2 (no k)
    · subst b2
      exact absurd a2 (no j)
    · exact S.ap j k q a2 b2
/-- what a slot becomes -/
def rvS : RV → Option Sl
  | .da d => some (.d d)
  | .fl xs => some (.l xs)
  | .fm kvs => some (.m kvs)
  | .sl _ => none
theorem AtR.set (S : Stt K c G σ H env) (hs : ∀ b, c.H0 b ≠ none → Hs b ≠ none) (w : AtR K Hs G σ H env v r) {s : Sl} (e : rvS r = some s) (i : Nat) : Stt K c G (σ.set i (some v)) H (env.set i s) := by
  have h0 : ∀ {q : Addr}, Hs q = none → c.H0 q = none := fun {q} h => by
    cases z : c.H0 q with
    | none => rfl
    | some x => exact absurd h (hs q (by rw [z]; exact nn))
  cases w with
  | da a =>
    cases e
    exact S.setD a i
  | sl w => cases e
  | fl a b d e' f =>
    cases e
    exact S.setO (s := .l _) f ⟨_, _, rfl, b, h0 a, d, e'⟩ i
  | fm a b d k e' f =>
    cases e
    exact S.setO (s := .m _) f ⟨_, _, rfl, b, h0 a, d, k, e'⟩ i
end
/-! ### targets by data -/
abbrev DG := Da → En → (En → Prop) → Prop
abbrev DGs := List Da → En → (En → Prop) → Prop
/-- the target changes the slots iv only -/
structure RG_ (K : PySem.W.Frag) (iv : List Nat) (g : TG) (d : DG) : Prop where
  run : ∀ (c : Ctx) (G : Hp) (σ : L2.St) (H : Hp) (env : En) (v : V) (x : Da) (P : En → Prop) (Q : L2.St → Hp → Prop), Stt K c G σ H env → At K G v x → d x env P →
    (∀ σ' env', Stt K c G σ' H env' → (∀ vs : List Nat, (∀ i ∈ iv, i ∈ vs) → wipe σ' vs = wipe σ vs) → P env' → Q σ' H) → g v σ H Q
structure RGs (K : PySem.W.Frag) (iv : List Nat) (g : TGs) (d : DGs) : Prop where
  run : ∀ (c : Ctx) (G : Hp) (σ : L2.St) (H : Hp) (env : En) (v : List V) (x : List Da) (P : En → Prop) (Q : L2.St → Hp → Prop), Stt K c G σ H env → Ats K G v x → d x env P →
    (∀ σ' env', Stt K c G σ' H env' → (∀ vs : List Nat, (∀ i ∈ iv, i ∈ vs) → wipe σ' vs = wipe σ vs) → P env' → Q σ' H) → g v σ H Q
def dgName (i : Nat) : DG := fun x env P => P (env.set i (.d x))
def dgNil : DGs := fun xs env P => xs = [] ∧ P env
def dgCons (a : DG) (b : DGs) : DGs := fun xs env P => match xs with
  | x :: r => a x env fun e1 => b r e1 P
  | [] => False
def dgTup (n : Nat) (b : DGs) : DG := fun x env P => match x with
  | .tup xs => xs.length = n ∧ b xs env P
  | _ => False
theorem wipe_set {σ : L2.St} {i : Nat} {o : Option V} : ∀ {vs : List Nat}, i ∈ vs → wipe (σ.set i o) vs = wipe σ vs
  | [], h => by cases h
  | w :: vs, h => by
    show (wipe (σ.set i o) vs).set w none = (wipe σ vs).set w none
    by_cases e : i ∈ vs
    · rw [wipe_set e]
    · have hw : i = w := by
        rcases List.mem_cons.mp h with z | z
        · exact z
        · exact absurd z e
      subst hw
      have key : ∀ (us : List Nat), i ∉ us → wipe (σ.set i o) us = (wipe σ us).set i o := by
        intro us
        induction us with
        | nil => exact fun _ => rfl
        | cons u us ih =>
          intro hu
          rw [List.mem_cons, not_or] at hu
          show (wipe (σ.set i o) us).set u none = ((wipe σ us).set u none).set i o
          rw [ih hu.2, List.set_comm _ _ hu.1]
      rw [key vs e, List.set_set]
section
variable {K : PySem.W.Frag}
theorem rg_name (i : Nat) : RG_ K [i] (gName i) (dgName i) := ⟨by
  intro c G σ H env v x P Q S a h post
  exact post _ _ (S.setD a i) (fun vs hv => wipe_set (hv i List.mem_cons_self)) h⟩
theorem rgs_nil : RGs K [] gNil dgNil := ⟨by
  intro c G σ H env v x P Q S a h post
  obtain ⟨rfl, h⟩ := h
  cases a
  exact ⟨rfl, post _ _ S (fun _ _ => rfl) h⟩⟩
theorem rgs_cons {i1 i2 : List Nat} {g : TG} {gs : TGs} {d : DG} {ds : DGs} (a : RG_ K i1 g d) (b : RGs K i2 gs ds) : RGs K (i1 ++ i2) (gCons g gs) (dgCons d ds) := ⟨by
  intro c G σ H env v x P Q S at_ h post
  unfold dgCons at h
  split at h
  · cases at_ with
    | cons a1 a2 =>
      refine ⟨_, _, rfl, a.run c G σ H env _ _ _ _ S a1 h fun σ1 e1 S1 w1 h1 => ?_⟩
      exact b.run c G σ1 H e1 _ _ _ _ S1 a2 h1 fun σ2 e2 S2 w2 h2 => post σ2 e2 S2 (fun vs hv => by
        rw [w2 vs fun i hi => hv i (List.mem_append_right _ hi), w1 vs fun i hi => hv i (List.mem_append_left _ hi)]) h2
  · exact False.elim h⟩
theorem rg_tup {iv : List Nat} {n : Nat} {gs : TGs} {ds : DGs} (b : RGs K iv gs ds) : RG_ K iv (gTup K n gs) (dgTup n ds) := ⟨by
  intro c G σ H env v x P Q S a h post
  unfold dgTup at h
  split at h
  · obtain ⟨hl, h1⟩ := h
    cases a with
    | tup hg av =>
      exact ⟨_, _, rfl, .inl (.inl (S.gh _ _ hg)), by rw [av.length]; exact hl, b.run c G σ H env _ _ _ _ S av h1 post⟩
  · exact False.elim h⟩
end
/-! ### iterators -/
structure Wk (K : PySem.W.Frag) (G : Hp) (J : It) (xs : List Da) : Prop where
  go : ∀ i H, i < xs.length → Same G H → J.go i H
  stop : ∀ H, Same G H → J.stop xs.length H
  yld : ∀ i H v H', i < xs.length → Same G H → J.yld i H v H' → Same H H' ∧ ∀ G1, Same G G1 → Same G1 H → ∃ G2 x, xs[i]? = some x ∧ Same G1 G2 ∧ Same G2 H' ∧ (∀ b, H b ≠ none → G1 b = none → G2 b = none) ∧ At K G2 v x
abbrev DI := En → (List Da → En → Prop) → Prop
def RI (K : PySem.W.Frag) (w : TI) (d : DI) : Prop := ∀ (c : Ctx) (G : Hp) (σ : L2.St) (H : Hp) (env : En) (P : List Da → En → Prop) (R : It → Hp → Prop), Stt K c G σ H env → d env P →
  (∀ J xs G' H' env', Stp K c G σ H env G' H' env' → Wk K G' J xs → P xs env' → R J H') → w σ H R
section
variable {K : PySem.W.Frag} {G : Hp}
theorem Wk.same {J : It} {n : Nat} {Gd : Hp → Prop} {xs : List Da} {ys : List V} (w : Walk J n Gd (YAt ys)) (hn : n = ys.length) (hg : ∀ H, Same G H → Gd H) (a : Ats K G ys xs) : Wk K G J xs := by
  subst hn
  have hl := a.length
  refine ⟨fun i H hi s => w.goes i H (by rw [hl]; exact hi) (hg H s), fun H s => by rw [← hl]; exact w.stops H (hg H s), fun i H v H' hi s y => ?_⟩
  obtain ⟨rfl, hv⟩ := w.yields i H v H' (by rw [hl]; exact hi) (hg H s) y
  refine ⟨Same.refl _, fun G1 g1 g2 => ?_⟩
  obtain ⟨u, hu, au⟩ := a.get (List.getElem?_eq_getElem hi)
  rw [hv] at hu
  cases hu
  exact ⟨G1, _, List.getElem?_eq_getElem hi, Same.refl _, g2, fun _ _ h => h, au.mono g1⟩
theorem Wk.fn {J : It} {n : Nat} {Gd : Hp → Prop} {xs : List Da} {f : Nat → V} (w : Walk J n Gd (YFn f)) (hg : ∀ H, Gd H) (hn : n = xs.length) (hf : ∀ i x, xs[i]? = some x → ∀ G, At K G (f i) x) : Wk K G J xs := by
  subst hn
  refine ⟨fun i H hi s => w.goes i H hi (hg H), fun H s => w.stops H (hg H), fun i H v H' hi s y => ?_⟩
  obtain ⟨rfl, rfl⟩ := w.yields i H v H' hi (hg H) y
  exact ⟨Same.refl _, fun G1 g1 g2 => ⟨G1, _, List.getElem?_eq_getElem hi, Same.refl _, g2, fun _ _ h => h, hf i _ (List.getElem?_eq_getElem hi) _⟩⟩
/-- pairs in new tuples -/
theorem Wk.pairs {J : It} {n : Nat} {Gd : Hp → Prop} {xs : List Da} {f g : Nat → V} (w : Walk J n Gd (fun i H v H' => ∃ T, v = .ref T ∧ H T = none ∧ H' = upd H T (.tup [f i, g i]))) (hg : ∀ H, Same G H → Gd H) (hn : n = xs.length)
    (hf : ∀ i x, xs[i]? = some x → ∃ a b, x = .tup [a, b] ∧ At K G (f i) a ∧ At K G (g i) b) : Wk K G J xs := by
  subst hn
  refine ⟨fun i H hi s => w.goes i H hi (hg H s), fun H s => w.stops H (hg H s), fun i H v H' hi s y => ?_⟩
  obtain ⟨T, rfl, hT, rfl⟩ := w.yields i H v H' hi (hg H s) y
  refine ⟨same_upd hT, fun G1 g1 g2 => ?_⟩
  obtain ⟨a, b, e, a1, a2⟩ := hf i _ (List.getElem?_eq_getElem hi)
  have gT : G1 T = none := g2.free hT
  refine ⟨upd G1 T (.tup [f i, g i]), _, List.getElem?_eq_getElem hi, same_upd gT, fun q x e => ?_, fun q e1 e2 => ?_, ?_⟩
  · by_cases hq : q = T
    · subst hq
      rw [upd_same] at e ⊢
      exact e
    · rw [upd_ne hq] at e ⊢
      exact g2 q x e
  · rw [upd_ne (by intro z; rw [z] at e1; exact e1 hT)]
    exact e2
  · rw [e]
    exact .tup upd_same (.cons (a1.mono (g1.trans (same_upd gT))) (.cons (a2.mono (g1.trans (same_upd gT))) .nil))
end
section
variable {K : PySem.W.Frag} {te : TE} {de : DT} {ta : TA} {da : DAT}
/-- a list; it is data while the loop runs -/
def diL (de : DT) : DI := fun env P => de env fun r e1 => onDa r fun d => match d with
  | .lst xs => P xs e1
  | _ => False
theorem ri_list (a : RE K te de) : RI K (iList K te) (diL de) := by
  intro c G σ H env P R S h post
  refine a c G σ H env _ _ S h fun v1 r1 G1 H1 e1 T1 w1 h1 => ?_
  obtain ⟨d, ed, h2⟩ := onDa_some h1
  obtain ⟨G2, T2, ad, _, _⟩ := w1.absorb S T1 ed
  split at h2
  · rename_i d xs
    cases ad with
    | lst hg av =>
      exact ⟨_, rfl, ⟨_, .inl (.inl (T2.st.gh _ _ hg))⟩, post _ xs G2 H1 e1 T2 (Wk.same walk_list rfl (fun H s => .inl (.inl (s _ _ hg))) av) h2⟩
  · exact False.elim h2
def diT (de : DT) : DI := fun env P => de env fun r e1 => onT r fun xs => P xs e1
theorem ri_tup (a : RE K te de) : RI K (iTup K te) (diT de) := by
  intro c G σ H env P R S h post
  refine a c G σ H env _ _ S h fun v1 r1 G1 H1 e1 T1 w1 h1 => ?_
  obtain ⟨xs, rfl, h2⟩ := onT_some h1
  cases w1 with
  | da ad =>
    cases ad with
    | tup hg av => exact ⟨_, rfl, ⟨_, .inl (.inl (T1.st.gh _ _ hg))⟩, post _ xs G1 H1 e1 T1 (Wk.same walk_tup rfl (fun H s => .inl (.inl (s _ _ hg))) av) h2⟩
def sgD (ch : Nat) : Da := .str ⟨#[ch]⟩
def diS (de : DT) : DI := fun env P => de env fun r e1 => onStr r fun z => P (z.cps.toList.map sgD) e1
theorem ri_str (a : RE K te de) : RI K (iStr te) (diS de) := by
  intro c G σ H env P R S h post
  refine a c G σ H env _ _ S h fun v1 r1 G1 H1 e1 T1 w1 h1 => ?_
  obtain ⟨z, rfl, h2⟩ := onStr_some h1
  cases w1.str
  refine ⟨z, rfl, post _ _ G1 H1 e1 T1 ?_ h2⟩
  have hl : (z.cps.toList.map sgD).length = z.cps.size := by simp
  refine ⟨fun i H hi _ => ?_, fun H _ => ?_, fun i H v H' hi _ y => ?_⟩
  · rw [hl] at hi
    exact hi
  · rw [hl]
    exact Nat.le_refl _
  · obtain ⟨rfl, ch, hc, rfl⟩ := y
    refine ⟨Same.refl _, fun G1 g1 g2 => ⟨G1, sgD ch, ?_, Same.refl _, g2, fun _ _ h => h, .str _⟩⟩
    rw [List.getElem?_map, Array.getElem?_toList, hc]
    rfl
def rgD (lo : Int) (n : Nat) : List Da := (List.range n).map fun i : Nat => Da.int (lo + (i : Nat))
def diR1 (da : DT) : DI := fun env P => da env fun r e1 => onInt r fun j => -(2 ^ 62) ≤ j ∧ j < 2 ^ 62 ∧ P (rgD 0 j.toNat) e1
theorem wk_rg {G : Hp} {lo : Int} {n : Nat} : Wk K G (Itr lo n) (rgD lo n) := by
  refine Wk.fn walk_range (fun _ => True.intro) (by simp [rgD]) fun i x h G => ?_
  unfold rgD at h
  rw [List.getElem?_map] at h
  by_cases hi : i < n
  · rw [List.getElem?_range hi] at h
    cases h
    exact .int _
  · rw [List.getElem?_eq_none (by simp; omega)] at h
    cases h
theorem ri_rng1 (a : RE K te de) : RI K (iRng1 (tCons te tNil)) (diR1 de) := by
  intro c G σ H env P R S h post
  refine a c G σ H env _ _ S h fun v1 r1 G1 H1 e1 T1 w1 h1 => ?_
  obtain ⟨j, rfl, h2, h3, h4⟩ := onInt_some h1
  cases w1.int
  exact ⟨j, rfl, h2, h3, post _ _ G1 H1 e1 T1 wk_rg h4⟩
def diR2 (da db : DT) : DI := fun env P => da env fun r e1 => db e1 fun r' e2 => onInt r fun i => onInt r' fun j => (-(2 ^ 62) ≤ i ∧ i < 2 ^ 62 ∧ -(2 ^ 62) ≤ j ∧ j < 2 ^ 62) ∧ P (rgD i (j - i).toNat) e2
theorem ri_rng2 {tb : TE} {db : DT} (a : RE K te de) (b : RE K tb db) : RI K (iRng2 (tCons te (tCons tb tNil))) (diR2 de db) := by
  intro c G σ H env P R S h post
  refine a c G σ H env _ _ S h fun v1 r1 G1 H1 e1 T1 w1 h1 => ?_
  refine b c G1 σ H1 e1 _ _ T1.st h1 fun v2 r2 G2 H2 e2 T2 w2 h2 => ?_
  obtain ⟨i, rfl, h3⟩ := onInt_some h2
  obtain ⟨j, rfl, h4, h5⟩ := onInt_some h3
  cases w1.int
  cases w2.int
  exact ⟨i, j, rfl, h4, post _ _ G2 H2 e2 (T1.trans T2) wk_rg h5⟩
def zipD (xs ys : List Da) : List Da := (xs.zip ys).map fun q => Da.tup [q.1, q.2]
theorem zipD_get {xs ys : List Da} {i : Nat} {x : Da} (h : (zipD xs ys)[i]? = some x) : ∃ a b, x = .tup [a, b] ∧ xs[i]? = some a ∧ ys[i]? = some b := by
  unfold zipD at h
  rw [List.getElem?_map, Option.map_eq_some_iff] at h
  obtain ⟨q, hq, rfl⟩ := h
  rw [List.getElem?_zip_eq_some] at hq
  exact ⟨q.1, q.2, rfl, hq.1, hq.2⟩
theorem zipD_len {xs ys : List Da} : (zipD xs ys).length = min xs.length ys.length := by simp [zipD]
theorem Wk.pairsO {G : Hp} {J : It} {n : Nat} {Gd : Hp → Prop} {xs : List Da} {f g : Nat → Option V} (w : Walk J n Gd (YPair f g)) (hg : ∀ H, Same G H → Gd H) (hn : n = xs.length)
    (hf : ∀ i x u z, xs[i]? = some x → f i = some u → g i = some z → ∃ a b, x = .tup [a, b] ∧ At K G u a ∧ At K G z b) : Wk K G J xs := by
  subst hn
  refine ⟨fun i H hi s => w.goes i H hi (hg H s), fun H s => w.stops H (hg H s), fun i H v H' hi s y => ?_⟩
  obtain ⟨T, u, z, rfl, hT, rfl, hu, hz⟩ := w.yields i H v H' hi (hg H s) y
  refine ⟨same_upd hT, fun G1 g1 g2 => ?_⟩
  obtain ⟨a, b, e, a1, a2⟩ := hf i _ u z (List.getElem?_eq_getElem hi) hu hz
  have gT : G1 T = none := g2.free hT
  refine ⟨upd G1 T (.tup [u, z]), _, List.getElem?_eq_getElem hi, same_upd gT, fun q x e => ?_, fun q e1 e2 => ?_, ?_⟩
  · by_cases hq : q = T
    · subst hq
      rw [upd_same] at e ⊢
      exact e
    · rw [upd_ne hq] at e ⊢
      exact g2 q x e
  · rw [upd_ne (by intro z; rw [z] at e1; exact e1 hT)]
    exact e2
  · rw [e]
    exact .tup upd_same (.cons (a1.mono (g1.trans (same_upd gT))) (.cons (a2.mono (g1.trans (same_upd gT))) .nil))
def onLd (r : RV) (k : List Da → Prop) : Prop := match r with
  | .da (.lst xs) => k xs
  | _ => False
theorem onLd_some {r : RV} {k : List Da → Prop} (h : onLd r k) : ∃ xs, r = .da (.lst xs) ∧ k xs := by
  unfold onLd at h
  split at h
  · exact ⟨_, rfl, h⟩
  · exact False.elim h
theorem lst_at {c : Ctx} {Hs G H : Hp} {σ : L2.St} {env : En} {v : V} {xs : List Da} (h : AtR K Hs G σ H env v (.da (.lst xs))) : ∃ p vs, v = .ref p ∧ G p = some (.lst vs) ∧ Ats K G vs xs := by
  cases h with
  | da a =>
    cases a with
    | lst h1 h2 => exact ⟨_, _, rfl, h1, h2⟩
/-- zip of two lists that are data -/
def diZ (da : DAT) : DI := fun env P => da env fun rs e1 => match rs with
  | [r, r'] => onLd r fun xs => onLd r' fun ys => P (zipD xs ys) e1
  | _ => False
theorem ri_zip (a : RA K ta da) : RI K (iZip K ta) (diZ da) := by
  intro c G σ H env P R S h post
  refine a c G σ H env _ _ S h fun vs rs G1 H1 e1 T1 w1 h1 => ?_
  split at h1
  · obtain ⟨xs, rfl, h2⟩ := onLd_some h1
    obtain ⟨ys, rfl, h3⟩ := onLd_some h2
    obtain ⟨v, u, rfl, w2, w3⟩ := w1.two
    obtain ⟨p, us, rfl, hp, au⟩ := lst_at (c := c) w2
    obtain ⟨q, ws, rfl, hq, aw⟩ := lst_at (c := c) w3
    refine ⟨p, q, us, ws, rfl, .inl (.inl (T1.st.gh _ _ hp)), .inl (.inl (T1.st.gh _ _ hq)), post _ _ G1 H1 e1 T1 ?_ h3⟩
    refine Wk.pairsO (walk_zip (xs := us) (ys := ws) rfl) (fun H s => ⟨.inl (.inl (s _ _ hp)), .inl (.inl (s _ _ hq))⟩) (by rw [zipD_len, au.length, aw.length]) fun i x f g hx hf hg => ?_
    obtain ⟨a1, b1, e, ha, hb⟩ := zipD_get hx
    obtain ⟨v1, e1, at1⟩ := au.get ha
    obtain ⟨v2, e2, at2⟩ := aw.get hb
    rw [hf] at e1
    rw [hg] at e2
    cases e1
    cases e2
    exact ⟨a1, b1, e, at1, at2⟩
  · exact False.elim h1
def enumD (xs : List Da) : List Da := zipD ((List.range xs.length).map fun i : Nat => Da.int (i : Nat)) xs
def diE (da : DAT) : DI := fun env P => da env fun rs e1 => match rs with
  | [r] => onLd r fun xs => P (enumD xs) e1
  | _ => False
theorem enumD_get {xs : List Da} {i : Nat} {x : Da} (h : (enumD xs)[i]? = some x) : ∃ b, x = .tup [.int (i : Nat), b] ∧ xs[i]? = some b := by
  obtain ⟨a, b, e, h1, h2⟩ := zipD_get h
  rw [List.getElem?_map, Option.map_eq_some_iff] at h1
  obtain ⟨j, hj, rfl⟩ := h1
  have : j = i := by
    have hi := (List.getElem?_eq_some_iff.mp hj)
    obtain ⟨hl, e2⟩ := hi
    rw [List.getElem_range] at e2
    exact e2.symm
  subst this
  exact ⟨b, e, h2⟩
theorem enumD_len {xs : List Da} : (enumD xs).length = xs.length := by simp [enumD, zipD_len]
theorem ri_enum (a : RA K ta da) : RI K (iEnum K ta) (diE da) := by
  intro c G σ H env P R S h post
  refine a c G σ H env _ _ S h fun vs rs G1 H1 e1 T1 w1 h1 => ?_
  split at h1
  · obtain ⟨xs, rfl, h2⟩ := onLd_some h1
    obtain ⟨v, rfl, w2⟩ := w1.one
    obtain ⟨p, us, rfl, hp, au⟩ := lst_at (c := c) w2
    refine ⟨p, us, rfl, .inl (.inl (T1.st.gh _ _ hp)), post _ _ G1 H1 e1 T1 ?_ h2⟩
    refine Wk.pairsO (walk_enum (xs := us)) (fun H s => .inl (.inl (s _ _ hp))) (by rw [enumD_len, au.length]) fun i x f g hx hf hg => ?_
    obtain ⟨b1, e, hb⟩ := enumD_get hx
    obtain ⟨v2, e2, at2⟩ := au.get hb
    rw [hg] at e2
    cases e2
    cases hf
    exact ⟨_, b1, e, .int _, at2⟩
  · exact False.elim h1
/-- zip(text, text), zip(text, list), enumerate(tuple) -/
def diZSS (da : DAT) : DI := fun env P => da env fun rs e1 => match rs with
  | [r, r'] => onStr r fun x => onStr r' fun y => P (zipD (x.cps.toList.map sgD) (y.cps.toList.map sgD)) e1
  | _ => False
theorem sgV_at {G : Hp} {x : Str} {i : Nat} {a : Da} (h : (x.cps.toList.map sgD)[i]? = some a) : At K G (sgV x i) a := by
  rw [List.getElem?_map, Option.map_eq_some_iff] at h
  obtain ⟨ch, hc, rfl⟩ := h
  rw [Array.getElem?_toList] at hc
  unfold sgV
  rw [Array.getD_eq_getD_getElem?, hc]
  exact .str _
theorem ri_zipSS (a : RA K ta da) : RI K (iZipTT ta) (diZSS da) := by
  intro c G σ H env P R S h post
  refine a c G σ H env _ _ S h fun vs rs G1 H1 e1 T1 w1 h1 => ?_
  split at h1
  · obtain ⟨x, rfl, h2⟩ := onStr_some h1
    obtain ⟨y, rfl, h3⟩ := onStr_some h2
    obtain ⟨v, u, rfl, w2, w3⟩ := w1.two
    cases w2.str
    cases w3.str
    refine ⟨x, y, rfl, post _ _ G1 H1 e1 T1 ?_ h3⟩
    refine Wk.pairs walk_pairs (fun _ _ => True.intro) (by rw [zipD_len]; simp) fun i z hz => ?_
    obtain ⟨a1, b1, e, ha, hb⟩ := zipD_get hz
    exact ⟨a1, b1, e, sgV_at ha, sgV_at hb⟩
  · exact False.elim h1
def diZSL (da : DAT) : DI := fun env P => da env fun rs e1 => match rs with
  | [r, r'] => onStr r fun x => onLd r' fun ys => P (zipD (x.cps.toList.map sgD) ys) e1
  | _ => False
theorem ri_zipSL (a : RA K ta da) : RI K (iZipTL K ta) (diZSL da) := by
  intro c G σ H env P R S h post
  refine a c G σ H env _ _ S h fun vs rs G1 H1 e1 T1 w1 h1 => ?_
  split at h1
  · obtain ⟨x, rfl, h2⟩ := onStr_some h1
    obtain ⟨ys, rfl, h3⟩ := onLd_some h2
    obtain ⟨v, u, rfl, w2, w3⟩ := w1.two
    cases w2.str
    obtain ⟨p, us, rfl, hp, au⟩ := lst_at (c := c) w3
    refine ⟨x, p, us, rfl, .inl (.inl (T1.st.gh _ _ hp)), post _ _ G1 H1 e1 T1 ?_ h3⟩
    refine Wk.pairs walk_pairs (fun H s => .inl (.inl (s _ _ hp))) (by rw [zipD_len, au.length]; simp) fun i z hz => ?_
    obtain ⟨a1, b1, e, ha, hb⟩ := zipD_get hz
    obtain ⟨v2, e2, at2⟩ := au.get hb
    refine ⟨a1, b1, e, sgV_at ha, ?_⟩
    rw [List.getD_eq_getElem?_getD, e2]
    exact at2
  · exact False.elim h1
def diET (da : DAT) : DI := fun env P => da env fun rs e1 => match rs with
  | [r] => onT r fun xs => P (enumD xs) e1
  | _ => False
theorem ri_enumT (a : RA K ta da) : RI K (iEnumT K ta) (diET da) := by
  intro c G σ H env P R S h post
  refine a c G σ H env _ _ S h fun vs rs G1 H1 e1 T1 w1 h1 => ?_
  split at h1
  · obtain ⟨xs, rfl, h2⟩ := onT_some h1
    obtain ⟨v, rfl, w2⟩ := w1.one
    cases w2 with
    | da a =>
      cases a with
      | tup hp au =>
        refine ⟨_, _, rfl, .inl (.inl (T1.st.gh _ _ hp)), post _ _ G1 H1 e1 T1 ?_ h2⟩
        refine Wk.pairs walk_pairs (fun H s => .inl (.inl (s _ _ hp))) (by rw [enumD_len, au.length]) fun i z hz => ?_
        obtain ⟨b1, e, hb⟩ := enumD_get hz
        obtain ⟨v2, e2, at2⟩ := au.get hb
        refine ⟨_, b1, e, .int _, ?_⟩
        rw [List.getD_eq_getElem?_getD, e2]
        exact at2
  · exact False.elim h1
end
end RK
-- D5
set_option Elab.async false
set_option linter.all false
set_option maxRecDepth 100000
set_option maxHeartbeats 4000000
/-! D5: statements, loops, comprehensions -/
namespace RK
open PySem PySem.Spec PyProof.Rows L2

theorem Stt.hs {K : PySem.W.Frag} {c : Ctx} {G H : Hp} {σ : L2.St} {env : En} (S : Stt K c G σ H env) : ∀ b, c.H0 b ≠ none → H b ≠ none := S.al
section
variable {K : PySem.W.Frag} {te : TE} {de : DT} {ta : TA} {da : DAT} {t u : TS} {d e : DTS} {tt : TT} {dt : DTT}
def dNext : DTS := fun De env => De.nx env
def dSeq (d e : DTS) : DTS := fun De env => d { De with nx := e De } env
theorem rs_next : RS K tNext dNext := fun c G σ H env De D S h ok => ok.nx G σ H env S h
theorem rs_seq (a : RS K t d) (b : RS K u e) : RS K (tSeq t u) (dSeq d e) := by
  intro c G σ H env De D S h ok
  exact a c G σ H env _ _ S h ⟨fun G1 σ1 H1 e1 S1 h1 => b c G1 σ1 H1 e1 _ _ S1 h1 ok, ok.rt, ok.bk, ok.ct⟩
def dDrop (de : DT) : DTS := fun De env => de env fun _ e1 => De.nx e1
theorem rs_drop (a : RE K te de) : RS K (tDrop te) (dDrop de) := fun c G σ H env De D S h ok =>
  a c G σ H env _ _ S h fun v r G1 H1 e1 T w h1 => ok.nx G1 σ H1 e1 T.st h1
/-- return: an owned list, too -/
def rtD (env : En) : RV → Option Da
  | .sl i => match env[i]? with
    | some (.l xs) => some (.lst xs)
    | some (.m kvs) => some (.dic kvs)
    | _ => none
  | r => toDa r
def dRet (de : DT) : DTS := fun De env => de env fun r e1 => onO (rtD e1 r) fun d => match r with
  | .sl i => De.rt d (e1.set i (.d d))
  | _ => De.rt d e1
/-- an owned slot becomes data -/
theorem Stt.frz {c : Ctx} {G H : Hp} {σ : L2.St} {env : En} (S : Stt K c G σ H env) {i : Nat} {p : Addr} {s : Sl} {o : HO} {d : Da} (e : env[i]? = some s) (ho : s.own = true) (es : σ[i]? = some (some (.ref p))) (hn : c.H0 p = none) (hp : H p = some o)
    (a : At K (upd G p o) (.ref p) d) : Stt K c (upd G p o) σ H (env.set i (.d d)) := by
  have w : Own σ env i p := ⟨s, e, ho, es⟩
  have hl : i < env.length := (List.getElem?_eq_some_iff.mp e).1
  have gp := (S.own w).1
  have gg : Same G (upd G p o) := same_upd gp
  have ow : ∀ j q, Own σ (env.set i (.d d)) j q → j ≠ i ∧ Own σ env j q := fun j q ⟨t, e1, h1, h2⟩ => by
    by_cases hj : i = j
    · subst hj
      rw [List.getElem?_set_self hl] at e1
      cases e1
      cases h1
    · rw [List.getElem?_set_ne hj] at e1
      exact ⟨fun z => hj z.symm, t, e1, h1, h2⟩
  refine ⟨by rw [List.length_set]; exact S.len, S.base, S.al, S.g0.trans gg, fun b x e1 => ?_, fun b e1 e2 => ?_, fun j t e1 => ?_, fun j k q h1 h2 => S.ap j k q (ow j q h1).2 (ow k q h2).2⟩
  · by_cases hb : b = p
    · subst hb
      rw [upd_same] at e1
      rw [hp, e1]
    · rw [upd_ne hb] at e1
      exact S.gh b x e1
  · rw [upd_ne (by intro z; rw [z] at e2; exact e2 hn)]
    exact S.gf b e1 e2
  · by_cases hj : i = j
    · subst hj
      rw [List.getElem?_set_self hl] at e1
      cases e1
      exact ⟨_, es, _, rfl, a⟩
    · rw [List.getElem?_set_ne hj] at e1
      obtain ⟨ov, eo, q⟩ := S.sl j t e1
      refine ⟨ov, eo, q.grow gg (fun _ _ _ _ z => z) fun r er wr z => ?_⟩
      subst er
      rw [upd_ne (fun z => by subst z; exact hj (S.ap i j _ w ⟨t, e1, wr, eo⟩))]
      exact z
/-- data of an owned slot -/
theorem Stt.frzL {c : Ctx} {G H : Hp} {σ : L2.St} {env : En} (S : Stt K c G σ H env) {i : Nat} {xs : List Da} (e : env[i]? = some (.l xs)) :
    ∃ p G1, σ[i]? = some (some (.ref p)) ∧ Stt K c G1 σ H (env.set i (.d (.lst xs))) ∧ At K G1 (.ref p) (.lst xs) ∧ Same G G1 := by
  obtain ⟨o, eo, q⟩ := S.sl i _ e
  obtain ⟨p, vs, e1, gp, hb, hp, a⟩ := q
  subst e1
  have at_ : At K (upd G p (.lst vs)) (.ref p) (.lst xs) := .lst upd_same (a.mono (same_upd gp))
  exact ⟨p, _, eo, S.frz e rfl eo hb hp at_, at_, same_upd gp⟩
theorem Stt.frzM {c : Ctx} {G H : Hp} {σ : L2.St} {env : En} (S : Stt K c G σ H env) {i : Nat} {xs : List (Int × Da)} (e : env[i]? = some (.m xs)) :
    ∃ p G1, σ[i]? = some (some (.ref p)) ∧ Stt K c G1 σ H (env.set i (.d (.dic xs))) ∧ At K G1 (.ref p) (.dic xs) ∧ Same G G1 := by
  obtain ⟨o, eo, q⟩ := S.sl i _ e
  obtain ⟨p, vs, e1, gp, hb, hp, k, a⟩ := q
  subst e1
  have at_ : At K (upd G p (.dK vs)) (.ref p) (.dic xs) := .dic upd_same k (a.mono (same_upd gp))
  exact ⟨p, _, eo, S.frz e rfl eo hb hp at_, at_, same_upd gp⟩
theorem rs_ret (a : RE K te de) : RS K (tRet te) (dRet de) := by
  intro c G σ H env De D S h ok
  refine a c G σ H env _ _ S h fun v r G1 H1 e1 T w h1 => ?_
  obtain ⟨x, ex, h2⟩ := onO_some h1
  cases w with
  | da ad =>
    cases ex
    exact ok.rt _ _ G1 σ H1 e1 T.st ad h2
  | @sl p i w =>
    obtain ⟨s, e2, ho, es⟩ := w
    simp only [rtD, e2] at ex
    cases s with
    | l xs =>
      cases ex
      obtain ⟨q, G2, eq, S2, aq, _⟩ := T.st.frzL e2
      rw [es] at eq
      cases eq
      exact ok.rt _ _ G2 σ H1 _ S2 aq h2
    | m xs =>
      cases ex
      obtain ⟨q, G2, eq, S2, aq, _⟩ := T.st.frzM e2
      rw [es] at eq
      cases eq
      exact ok.rt _ _ G2 σ H1 _ S2 aq h2
    | _ => cases ex
  | fl a b d0 e' f =>
    obtain ⟨G2, T2, ad, _, _⟩ := (AtR.fl a b d0 e' f : AtR K H G1 σ H1 e1 _ (.fl _)).absorb S T rfl
    cases ex
    exact ok.rt _ _ G2 σ H1 e1 T2.st ad h2
  | fm a b d0 k e' f =>
    obtain ⟨G2, T2, ad, _, _⟩ := (AtR.fm a b d0 k e' f : AtR K H G1 σ H1 e1 _ (.fm _)).absorb S T rfl
    cases ex
    exact ok.rt _ _ G2 σ H1 e1 T2.st ad h2
def dRetN : DTS := fun De env => De.rt .non env
theorem rs_retN : RS K tRetN dRetN := fun c G σ H env De D S h ok => ok.rt _ _ G σ H env S .non h
def dIfS (dt : DTT) (d e : DTS) : DTS := fun De env => dt env fun b e1 => if b = true then d De e1 else e De e1
theorem rs_if (cc : RT K tt dt) (a : RS K t d) (b : RS K u e) : RS K (tIfS tt t u) (dIfS dt d e) := by
  intro c G σ H env De D S h ok
  refine cc c G σ H env _ _ S h fun k G1 H1 e1 T h1 => ?_
  cases k
  · exact b c G1 σ H1 e1 _ _ T.st h1 ok
  · exact a c G1 σ H1 e1 _ _ T.st h1 ok
def dNever : DTS := fun _ _ => False
theorem rs_never : RS K tNever dNever := fun c G σ H env De D S h ok => False.elim h
/-- x = e, a plain name -/
def dSet (i : Nat) (de : DT) : DTS := fun De env => de env fun r e1 => onO (rvS r) fun s => De.nx (e1.set i s)
theorem rs_set (i : Nat) (a : RE K te de) : RS K (tAsg te (gName i)) (dSet i de) := by
  intro c G σ H env De D S h ok
  refine a c G σ H env _ _ S h fun v r G1 H1 e1 T w h1 => ?_
  obtain ⟨s, es, h2⟩ := onO_some h1
  exact ok.nx G1 _ H1 _ (w.set T.st S.hs es i) h2
/-- a target of data -/
def dAsg (de : DT) (dg : DG) : DTS := fun De env => de env fun r e1 => onDa r fun x => dg x e1 De.nx
theorem rs_asg {iv : List Nat} {g : TG} {dg : DG} (a : RE K te de) (b : RG_ K iv g dg) : RS K (tAsg te g) (dAsg de dg) := by
  intro c G σ H env De D S h ok
  refine a c G σ H env _ _ S h fun v r G1 H1 e1 T w h1 => ?_
  obtain ⟨x, ex, h2⟩ := onDa_some h1
  obtain ⟨G2, T2, ad, _, _⟩ := w.absorb S T ex
  exact b.run c G2 σ H1 e1 v x _ _ T2.st ad h2 fun σ' e2 S2 _ h3 => ok.nx G2 σ' H1 e2 S2 h3
/-- a, b = x, y -/
def dPar (i j : Nat) (da db : DT) : DTS := fun De env => da env fun r e1 => db e1 fun r' e2 => onO (rvS r) fun s => onO (rvS r') fun s' => De.nx ((e2.set i s).set j s')
def dPar3 (i j l : Nat) (da db dc : DT) : DTS := fun De env => da env fun r e1 => db e1 fun r' e2 => dc e2 fun r'' e3 => onO (rvS r) fun s => onO (rvS r') fun s' => onO (rvS r'') fun s'' => De.nx (((e3.set i s).set j s').set l s'')
theorem Own_set {σ : L2.St} {env : En} {i j : Nat} {p : Addr} {v : Option V} {s : Sl} (h : Own (σ.set i v) (env.set i s) j p) : (j = i ∧ v = some (.ref p) ∧ s.own = true) ∨ (j ≠ i ∧ Own σ env j p) := by
  obtain ⟨t, e, h1, h2⟩ := h
  by_cases hj : i = j
  · subst hj
    rw [List.getElem?_set] at h2 e
    simp only [if_true] at h2 e
    split at h2
    · split at e
      · cases e
        exact .inl ⟨rfl, Option.some.inj h2, h1⟩
      · cases e
    · cases h2
  · rw [List.getElem?_set_ne hj] at e h2
    exact .inr ⟨fun z => hj z.symm, t, e, h1, h2⟩
theorem AtR.put {Hs G H : Hp} {σ : L2.St} {env : En} {v v1 : V} {r : RV} {i : Nat} {s s' : Sl} (w : AtR K Hs G σ H env v r) (e : rvS r = some s') (hv : ∀ p, v1 = .ref p → s.own = true → Hs p ≠ none) : AtR K Hs G (σ.set i (some v1)) H (env.set i s) v r := by
  have no : ∀ {p : Addr}, Hs p = none → (∀ i, ¬ Own σ env i p) → ∀ j, ¬ Own (σ.set i (some v1)) (env.set i s) j p := fun {p} hp f j h => by
    rcases Own_set h with ⟨_, a, b⟩ | ⟨_, a⟩
    · exact hv p (Option.some.inj a) b hp
    · exact f j a
  cases w with
  | da ad => exact .da ad
  | sl w => cases e
  | fl a b d e' f => exact .fl a b d e' (no a f)
  | fm a b d k e' f => exact .fm a b d k e' (no a f)
theorem AtR.alive {Hs G H : Hp} {σ : L2.St} {env : En} {v : V} {r : RV} {s : Sl} (w : AtR K Hs G σ H env v r) (e : rvS r = some s) : ∀ p, v = .ref p → s.own = true → H p ≠ none := fun p ev ho => by
  cases w with
  | da ad => cases e; cases ho
  | sl w => cases e
  | fl a b d e' f => cases ev; rw [d]; exact nn
  | fm a b d k e' f => cases ev; rw [d]; exact nn
theorem par_core {c : Ctx} {H0 H1 G H : Hp} {σ : L2.St} {env : En} {v v' : V} {r r' : RV} {s s' : Sl} {i j : Nat} (S : Stt K c G σ H env) (a0 : ∀ b, c.H0 b ≠ none → H0 b ≠ none) (a1 : ∀ b, c.H0 b ≠ none → H1 b ≠ none) (w1 : AtR K H0 G σ H env v r) (w2 : AtR K H1 G σ H env v' r')
    (al : ∀ p, v = .ref p → s.own = true → H1 p ≠ none) (es : rvS r = some s) (es' : rvS r' = some s') : Stt K c G ((σ.set i (some v)).set j (some v')) H ((env.set i s).set j s') :=
  (w2.put es' al).set (w1.set S a0 es i) a1 es' j
theorem rs_par {i j : Nat} {tb : TE} {db : DT} (a : RE K te de) (b : RE K tb db) : RS K (tPar i j (tCons te (tCons tb tNil))) (dPar i j de db) := by
  intro c G σ H env De D S h ok
  refine a c G σ H env _ _ S h fun v r G1 H1 e1 T1 w1 h1 => ?_
  refine b c G1 σ H1 e1 _ _ T1.st h1 fun v' r' G2 H2 e2 T2 w2 h2 => ⟨v, v', rfl, ?_⟩
  obtain ⟨s, es, h3⟩ := onO_some h2
  obtain ⟨s', es', h4⟩ := onO_some h3
  exact ok.nx G2 _ H2 _ (par_core T2.st S.al T1.st.al (w1.keep T2) w2 (w1.alive es) es es') h4
/-- the same by a tuple -/
theorem rs_parT {i j : Nat} {tb : TE} {db : DT} (a : RE K te de) (b : RE K tb db) : RS K (tAsg (tTup (tCons te (tCons tb tNil))) (gTup K 2 (gCons (gName i) (gCons (gName j) gNil)))) (dPar i j de db) := by
  intro c G σ H env De D S h ok
  refine a c G σ H env _ _ S h fun v r G1 H1 e1 T1 w1 h1 => ?_
  refine b c G1 σ H1 e1 _ _ T1.st h1 fun v' r' G2 H2 e2 T2 w2 h2 => ⟨(by show 2 ≤ sizeLine; decide), fun p hp => ?_⟩
  obtain ⟨s, es, h3⟩ := onO_some h2
  obtain ⟨s', es', h4⟩ := onO_some h3
  have T3 : Stp K c G2 σ H2 e2 G2 (upd H2 p (.tup [v, v'])) e2 := Stp.new T2.st hp
  exact ⟨p, [v, v'], rfl, .inl (.inl upd_same), rfl, v, [v'], rfl, v', [], rfl, rfl, ok.nx G2 _ _ _ (par_core T3.st S.al T1.st.al ((w1.keep T2).keep T3) (w2.keep T3) (w1.alive es) es es') h4⟩
theorem rs_par3T {i j l : Nat} {tb tc : TE} {db dc : DT} (a : RE K te de) (b : RE K tb db) (d : RE K tc dc) : RS K (tAsg (tTup (tCons te (tCons tb (tCons tc tNil)))) (gTup K 3 (gCons (gName i) (gCons (gName j) (gCons (gName l) gNil))))) (dPar3 i j l de db dc) := by
  intro c G σ H env De D S h ok
  refine a c G σ H env _ _ S h fun v r G1 H1 e1 T1 w1 h1 => ?_
  refine b c G1 σ H1 e1 _ _ T1.st h1 fun v' r' G2 H2 e2 T2 w2 h2 => ?_
  refine d c G2 σ H2 e2 _ _ T2.st h2 fun v'' r'' G3 H3 e3 T3 w3 h3 => ⟨(by show 3 ≤ sizeLine; decide), fun p hp => ?_⟩
  obtain ⟨s, es, h4⟩ := onO_some h3
  obtain ⟨s', es', h5⟩ := onO_some h4
  obtain ⟨s'', es'', h6⟩ := onO_some h5
  have T4 : Stp K c G3 σ H3 e3 G3 (upd H3 p (.tup [v, v', v''])) e3 := Stp.new T3.st hp
  have al1 := w1.alive es
  have al2 := w2.alive es'
  have S5 := par_core (i := i) (j := j) T4.st S.al T1.st.al (((w1.keep T2).keep T3).keep T4) ((w2.keep T3).keep T4) al1 es es'
  have w5 : AtR K H2 G3 _ (upd H3 p (.tup [v, v', v''])) _ v'' r'' := ((w3.keep T4).put (i := i) (v1 := v) es'' fun q e1 e2 => T2.al q (al1 q e1 e2)).put (i := j) (v1 := v') es'' al2
  exact ⟨p, [v, v', v''], rfl, .inl (.inl upd_same), rfl, v, [v', v''], rfl, v', [v''], rfl, v'', [], rfl, rfl, ok.nx G3 _ _ _ (w5.set S5 T2.st.al es'' l) h6⟩
/-! ### stores to fields of self, to owned dicts -/
def dFldS (C : Addr) (i : Nat) (f : Str) (de : DT) : DTS := fun De env => de env fun r e1 => onDa r fun x => match e1[i]? with
  | some (.self C' ns ds) => C' = C ∧ f ∉ ns ∧ ns.length < 1000 ∧ De.nx (e1.set i (.self C (ns ++ [f]) (ds ++ [x])))
  | _ => False
theorem putF_new {f : Str} {v : V} : ∀ {fs : List (Str × V)}, f ∉ fs.map (·.1) → putF f v fs = fs ++ [(f, v)]
  | [], _ => rfl
  | (g, x) :: r, h => by
    rw [List.map_cons, List.mem_cons, not_or] at h
    show (if g = f then (g, v) :: r else (g, x) :: putF f v r) = _
    rw [if_neg (fun z => h.1 z.symm), putF_new h.2]
    rfl
theorem rs_fldS {i : Nat} {f : Str} {C : Addr} (hc : Cls K C) (hn : NoAttr K C f) (a : RE K te de) : RS K (sFld K (tVar i) te f) (dFldS C i f de) := by
  intro c G σ H env De D S h ok
  refine a c G σ H env _ _ S h fun v r G1 H1 e1 T w h1 => ?_
  obtain ⟨x, ex, h2⟩ := onDa_some h1
  obtain ⟨G2, T2, ad, _, _⟩ := w.absorb S T ex
  split at h2
  · rename_i C' ns ds e2
    obtain ⟨rfl, hf, hl, h3⟩ := h2
    obtain ⟨o, eo, q⟩ := T2.st.sl i _ e2
    obtain ⟨p, dx, fs, e3, gp, hb, hp, hk, av⟩ := q
    subst e3
    subst hk
    refine ⟨_, eo, p, C', dx, fs, rfl, hp, hc, hn, by rw [← List.length_map (f := fun q : Str × V => q.1)]; exact hl, ?_⟩
    rw [putF_new hf]
    have T3 := Stp.mut (s' := .self C' (fs.map (·.1) ++ [f]) (ds ++ [x])) (o := .ins C' dx (fs ++ [(f, v)])) T2.st e2 rfl rfl eo ⟨p, dx, _, rfl, gp, hb, upd_same, by simp, by
      rw [List.map_append]
      exact av.append (.cons ad .nil)⟩
    exact ok.nx G2 _ _ _ T3.st h3
  · exact False.elim h2
/-- d[k] = v, d owned -/
def dDPut (dd dk dv : DT) : DTS := fun De env => dv env fun r e1 => onDa r fun x => dd e1 fun r1 e2 => dk e2 fun r2 e3 => onInt r2 fun k => match r1 with
  | .sl i => (match e3[i]? with
    | some (.m kvs) => kvs.length < sizeLine ∧ De.nx (e3.set i (.m (putD kvs k x)))
    | _ => False)
  | _ => False
theorem rs_dput {td tk : TE} {dd dk : DT} (a : RE K td dd) (b : RE K tk dk) (cc : RE K te de) : RS K (sDPut td tk te) (dDPut dd dk de) := by
  intro c G σ H env De D S h ok
  refine cc c G σ H env _ _ S h fun v r G1' H1 e1 T1' w h1 => ?_
  obtain ⟨x, ex, h2⟩ := onDa_some h1
  obtain ⟨G1, T1, ad, _, _⟩ := w.absorb S T1' ex
  refine a c G1 σ H1 e1 _ _ T1.st h2 fun v2 r2 G2 H2 e2 T2 w2 h3 => ?_
  refine b c G2 σ H2 e2 _ _ T2.st h3 fun v3 r3 G3 H3 e3 T3 w3 h4 => ?_
  obtain ⟨k, rfl, h5⟩ := onInt_some h4
  cases w3.int
  split at h5
  · rename_i i
    split at h5
    · rename_i kvs e
      have w2' := w2.keep T3
      cases w2' with
      | sl w =>
        obtain ⟨s, es, ho, eσ⟩ := w
        obtain ⟨o, eo, q⟩ := T3.st.sl i _ e
        obtain ⟨p, kv, e1, gp, hb, hp, hk, av⟩ := q
        rw [eσ] at eo
        cases eo
        cases e1
        have hl : kv.length < sizeLine := by
          have : kv.length = kvs.length := by
            have := congrArg List.length hk
            simpa using this
          rw [this]
          exact h5.1
        obtain ⟨k1, k2⟩ := put_val (k := k) hk av (ad.mono (T2.gg.trans T3.gg))
        refine ⟨_, _, rfl, DPut.k (k := Sum.inl k) hp hl, ?_⟩
        exact ok.nx G3 _ _ _ (Stp.mut (s' := .m (putD kvs k x)) (o := .dK (putK kv (Sum.inl k) v)) T3.st e rfl rfl eσ ⟨_, _, rfl, gp, hb, upd_same, k1, k2⟩).st h5.2
    · exact False.elim h5
  · exact False.elim h5
/-! ### an owned slot becomes data ahead of a statement -/
def dFrz (i : Nat) (d : DTS) : DTS := fun De env => match env[i]? with
  | some (.l xs) => d De (env.set i (.d (.lst xs)))
  | some (.m kvs) => d De (env.set i (.d (.dic kvs)))
  | _ => False
theorem rs_frz {i : Nat} (a : RS K t d) : RS K t (dFrz i d) := by
  intro c G σ H env De D S h ok
  unfold dFrz at h
  split at h
  · rename_i xs e
    obtain ⟨p, G1, _, S1, _, _⟩ := S.frzL e
    exact a c G1 σ H _ De D S1 h ok
  · rename_i xs e
    obtain ⟨p, G1, _, S1, _, _⟩ := S.frzM e
    exact a c G1 σ H _ De D S1 h ok
  · exact False.elim h
/-! ### loops -/
def dWhile (dt : DTT) (d : DTS) : DTS := fun De env => ∃ I : Nat → En → Prop, (∃ m, I m env) ∧ ∀ m e, I m e → dt e fun b e1 => if b = true then d { De with nx := fun e2 => ∃ m', m' < m ∧ I m' e2, ct := fun e2 => ∃ m', m' < m ∧ I m' e2, bk := De.nx } e1 else De.nx e1
theorem rs_while (cc : RT K tt dt) (a : RS K t d) : RS K (tWhile tt t) (dWhile dt d) := by
  intro c G σ H env De D S h ok
  obtain ⟨I, ⟨m0, h0⟩, hs⟩ := h
  refine ⟨fun m σ H => ∃ G e, Stt K c G σ H e ∧ I m e, ⟨m0, G, env, S, h0⟩, fun m σ1 H1 ⟨G1, e1, S1, i1⟩ => ?_⟩
  refine cc c G1 σ1 H1 e1 _ _ S1 (hs m e1 i1) fun k G2 H2 e2 T h2 => ?_
  cases k
  · exact ok.nx G2 σ1 H2 e2 T.st h2
  · refine ⟨fun σ' H' => ∃ m', m' < m ∧ ∃ G e, Stt K c G σ' H' e ∧ I m' e, fun σ' H' ⟨m', h1, h3⟩ => ⟨m', h1, h3⟩, ?_⟩
    refine a c G2 σ1 H2 e2 _ _ T.st h2 ⟨fun G3 σ3 H3 e3 S3 ⟨m', h4, h5⟩ => ⟨m', h4, G3, e3, S3, h5⟩, ok.rt, ok.nx, fun G3 σ3 H3 e3 S3 ⟨m', h4, h5⟩ => ⟨m', h4, G3, e3, S3, h5⟩⟩
def dFor (di : DI) (dg : DG) (d : DTS) : DTS := fun De env => di env fun xs e0 => ∃ I : Nat → En → Prop, I 0 e0 ∧ (∀ i x e, xs[i]? = some x → I i e → dg x e fun e2 => d { De with nx := I (i + 1), ct := I (i + 1), bk := De.nx } e2) ∧ ∀ e, I xs.length e → De.nx e
theorem Stt.up {c : Ctx} {G G' H H' : Hp} {σ σ' : L2.St} {env env' : En} (S : Stt K c G σ H env) (S' : Stt K c G' σ' H' env') (g : Same G G') : Stt K { c with G0 := G } G' σ' H' env' :=
  ⟨S'.len, S'.base, S'.al, g, S'.gh, fun b e1 e2 => S'.gf b (by
    cases z : c.G0 b with
    | none => rfl
    | some x =>
      have : G b = some x := S.g0 b x z
      exact absurd (this.symm.trans e1) nn) e2, S'.sl, S'.ap⟩
theorem Stt.down {c : Ctx} {G G' H H' : Hp} {σ σ' : L2.St} {env env' : En} (S : Stt K c G σ H env) (S' : Stt K { c with G0 := G } G' σ' H' env') : Stt K c G' σ' H' env' ∧ Same G G' :=
  ⟨⟨S'.len, S'.base, S'.al, S.g0.trans S'.g0, S'.gh, fun b e1 e2 => S'.gf b (S.gf b e1 e2) e2, S'.sl, S'.ap⟩, S'.g0⟩
theorem rs_for {wi : TI} {di : DI} {iv : List Nat} {g : TG} {dg : DG} (hi : RI K wi di) (hg : RG_ K iv g dg) (a : RS K t d) : RS K (tFor wi g t) (dFor di dg d) := by
  intro c G σ H env De D S h ok
  refine hi c G σ H env _ _ S h fun J xs G1 H1 e1 T1 wk h1 => ?_
  obtain ⟨I, i0, hs, he⟩ := h1
  have S1 := T1.st
  refine ⟨fun i m σ H => m = xs.length - i ∧ i ≤ xs.length ∧ ∃ Gi e, Stt K c Gi σ H e ∧ Same G1 Gi ∧ I i e, ⟨xs.length, by simp, Nat.zero_le _, G1, e1, S1, Same.refl _, i0⟩, ?_⟩
  rintro i m σ2 H2 ⟨rfl, hi, Gi, e, Si, gi, hI⟩
  have gh : Same G1 H2 := gi.trans Si.gh
  by_cases hlt : i < xs.length
  · refine .inr ⟨wk.go i H2 hlt gh, fun σ' H' => ∃ G' e, Stt K c G' σ' H' e ∧ Same G1 G' ∧ I (i + 1) e, fun σ' H' h' => ⟨xs.length - (i + 1), by omega, rfl, hlt, h'⟩, fun v H' y => ?_⟩
    obtain ⟨hh, hG⟩ := wk.yld i H2 v H' hlt gh y
    obtain ⟨G2, x, ex, g1, g2, gf, ax⟩ := hG Gi gi Si.gh
    have S2 : Stt K c G2 σ2 H' e := Si.ext g1 g2 (fun b e1 e2 => gf b e1 e2) hh
    have hx : xs[i]? = some x := ex
    refine hg.run c G2 σ2 H' e v x _ _ S2 ax (hs i x e hx hI) fun σ3 e3 S3 _ h3 => ?_
    have S3' := S1.up S3 (gi.trans g1)
    refine a { c with G0 := G1 } G2 σ3 H' e3 _ _ S3' h3 ⟨fun G4 σ4 H4 e4 S4 h4 => ?_, fun v d G4 σ4 H4 e4 S4 => ok.rt v d G4 σ4 H4 e4 (S1.down S4).1, fun G4 σ4 H4 e4 S4 => ok.nx G4 σ4 H4 e4 (S1.down S4).1, fun G4 σ4 H4 e4 S4 h4 => ?_⟩
    · exact ⟨G4, e4, (S1.down S4).1, (S1.down S4).2, h4⟩
    · exact ⟨G4, e4, (S1.down S4).1, (S1.down S4).2, h4⟩
  · have ei : i = xs.length := by omega
    subst ei
    exact .inl ⟨wk.stop H2 gh, ok.nx Gi σ2 H2 e Si (he e hI)⟩
end
end RK
-- D6
set_option Elab.async false
set_option linter.all false
set_option maxRecDepth 100000
set_option maxHeartbeats 4000000
/-! D6: comprehensions -/
namespace RK
open PySem PySem.Spec PyProof.Rows L2

def wipeE (env : En) : List Nat → En
  | [] => env
  | v :: vs => (wipeE env vs).set v .u
theorem wipeE_length (env : En) : ∀ vs : List Nat, (wipeE env vs).length = env.length
  | [] => rfl
  | v :: vs => by
    unfold wipeE
    rw [List.length_set, wipeE_length env vs]
theorem wipeE_get {env : En} {i : Nat} : ∀ {vs : List Nat}, (wipeE env vs)[i]? = if i ∈ vs then (if i < env.length then some .u else none) else env[i]?
  | [] => by simp [wipeE]
  | v :: vs => by
    unfold wipeE
    rw [List.getElem?_set, wipeE_length, wipeE_get (vs := vs)]
    by_cases h : v = i
    · subst h
      simp
    · have h' : ¬ i = v := fun z => h z.symm
      simp [h, h']
theorem wipe_get {σ : L2.St} {i : Nat} : ∀ {vs : List Nat}, (wipe σ vs)[i]? = if i ∈ vs then (if i < σ.length then some none else none) else σ[i]?
  | [] => by simp [wipe]
  | v :: vs => by
    unfold wipe
    rw [List.getElem?_set, wipe_length, wipe_get (vs := vs)]
    by_cases h : v = i
    · subst h
      simp
    · have h' : ¬ i = v := fun z => h z.symm
      simp [h, h']
/-- no own name of the block is an owned slot -/
def noOwn (env : En) (vs : List Nat) : Bool := vs.all fun i => match env[i]? with
  | some s => !s.own
  | none => true
section
variable {K : PySem.W.Frag} {c : Ctx} {G G' H H' G1 H1 : Hp} {σ σ' : L2.St} {env env' env1 : En} {vs : List Nat}
theorem Own_wipe {i : Nat} {p : Addr} : Own (wipe σ vs) (wipeE env vs) i p ↔ i ∉ vs ∧ Own σ env i p := by
  unfold Own
  rw [wipeE_get, wipe_get]
  by_cases h : i ∈ vs
  · constructor
    · rintro ⟨s, e, ho, _⟩
      rw [if_pos h] at e
      by_cases hl : i < env.length
      · rw [if_pos hl] at e
        cases e
        cases ho
      · rw [if_neg hl] at e
        cases e
    · exact fun z => absurd h z.1
  · rw [if_neg h, if_neg h]
    exact ⟨fun z => ⟨h, z⟩, fun z => z.2⟩
theorem Stt.wipe (S : Stt K c G σ H env) (vs : List Nat) : Stt K c G (L2.wipe σ vs) H (wipeE env vs) := by
  refine ⟨by rw [wipe_length, wipeE_length]; exact S.len, S.base, S.al, S.g0, S.gh, S.gf, fun i s e => ?_, fun i j p h1 h2 => S.ap i j p (Own_wipe.mp h1).2 (Own_wipe.mp h2).2⟩
  rw [wipeE_get] at e
  rw [wipe_get]
  by_cases h : i ∈ vs
  · rw [if_pos h] at e ⊢
    split at e
    · rename_i hl
      cases e
      exact ⟨none, by rw [if_pos (by rw [S.len]; exact hl)], True.intro⟩
    · cases e
  · rw [if_neg h] at e ⊢
    exact S.sl i s e
/-- back to the slots as they were -/
theorem Stp.unwipe (S : Stt K c G σ H env) (no : noOwn env vs = true) (T : Stp K c G (L2.wipe σ vs) H (wipeE env vs) G1 H1 (wipeE env vs)) : Stp K c G σ H env G1 H1 env := by
  have nov : ∀ i p, Own σ env i p → i ∉ vs := fun i p ⟨s, e, ho, _⟩ hi => by
    unfold noOwn at no
    rw [List.all_eq_true] at no
    have := no i hi
    simp only [e, ho] at this
    cases this
  refine ⟨⟨S.len, T.st.base, T.st.al, T.st.g0, T.st.gh, T.st.gf, fun i s e => ?_, S.ap⟩, T.gg, T.gf, fun b o e n => T.kp b o e fun i w => n i (Own_wipe.mp w).2, T.al, fun _ _ => Iff.rfl⟩
  obtain ⟨o, eo, q⟩ := S.sl i s e
  by_cases ho : s.own = true
  · obtain ⟨p, x, ep, _⟩ := q.ownH ho
    subst ep
    have hi := nov i p ⟨s, e, ho, eo⟩
    have e2 : (wipeE env vs)[i]? = some s := by
      rw [wipeE_get, if_neg hi]
      exact e
    obtain ⟨o2, eo2, q2⟩ := T.st.sl i s e2
    rw [wipe_get, if_neg hi, eo] at eo2
    cases eo2
    exact ⟨_, eo, q2⟩
  · refine ⟨o, eo, q.grow T.gg (fun p x _ h => absurd h ho) fun p _ h => absurd h ho⟩
/-- the body's slots back to the block's -/
theorem Stt.rewipe (S : Stt K c G σ' H env') (hw : L2.wipe σ' vs = L2.wipe σ vs) (he : wipeE env' vs = wipeE env vs) : Stt K c G (L2.wipe σ vs) H (wipeE env vs) := by
  rw [← hw, ← he]
  exact S.wipe vs
end
/-- a target's data reading changes the slots iv only -/
def GW (iv : List Nat) (dg : DG) : Prop := ∀ (x : Da) (env : En) (P : En → Prop), dg x env P → ∃ env', P env' ∧ ∀ vs : List Nat, (∀ i ∈ iv, i ∈ vs) → wipeE env' vs = wipeE env vs
def GWs (iv : List Nat) (dg : DGs) : Prop := ∀ (x : List Da) (env : En) (P : En → Prop), dg x env P → ∃ env', P env' ∧ ∀ vs : List Nat, (∀ i ∈ iv, i ∈ vs) → wipeE env' vs = wipeE env vs
theorem wipeE_set {env : En} {i : Nat} {s : Sl} {vs : List Nat} (h : i ∈ vs) : wipeE (env.set i s) vs = wipeE env vs := by
  apply List.ext_getElem?
  intro j
  rw [wipeE_get, wipeE_get, List.length_set, List.getElem?_set]
  by_cases hj : j ∈ vs
  · rw [if_pos hj, if_pos hj]
  · rw [if_neg hj, if_neg hj]
    have : ¬ i = j := fun z => hj (z ▸ h)
    rw [if_neg this]
abbrev DTk := En → (Bool → En → Prop) → Prop
/-- [e for target in it if test]; the body leaves the slots as they were -/
def dLc (di : DI) (dg : DG) (dt : DTT) (de : DT) (vs : List Nat) : DT := fun env P => di env fun xs e0 => noOwn e0 vs = true ∧ xs.length < sizeLine ∧ ∃ I : Nat → List Da → Prop, I 0 [] ∧
  (∀ i acc x, xs[i]? = some x → I i acc → dg x (wipeE e0 vs) fun e2 => wipeE e2 vs = wipeE e0 vs ∧ noOwn e2 vs = true ∧ dt e2 fun b e3 => e3 = e2 ∧ if b = true then de e3 fun r e4 => e4 = e2 ∧ onDa r fun d => I (i + 1) (acc ++ [d]) else I (i + 1) acc) ∧
  ∀ acc, I xs.length acc → P (.fl acc) e0
def dYes : DTT := fun env P => P true env
theorem rt_yes {K : PySem.W.Frag} : RT K tYes dYes := fun c G σ H env P Q S h post => post _ G H env (Stp.refl S) h
set_option maxHeartbeats 8000000 in
theorem re_lc {K : PySem.W.Frag} {wi : TI} {di : DI} {iv : List Nat} {g : TG} {dg : DG} {tt : TT} {dt : DTT} {te : TE} {de : DT} {vs : List Nat} (hi : RI K wi di) (hg : RG_ K iv g dg) (ht : RT K tt dt) (he : RE K te de) (hv : ∀ i ∈ iv, i ∈ vs) :
    RE K (tLc wi g tt te vs) (dLc di dg dt de vs) := by
  intro c G σ H env P Q S h post
  refine hi c G σ H env _ _ S h fun J xs G1 H1 e0 T0 wk h1 => ?_
  obtain ⟨no, hlen, I, i0, hs, hend⟩ := h1
  intro D hD
  have S1 := T0.st
  have Sw := S1.wipe vs
  have h0D : c.H0 D = none := S1.h0 hD
  have neD : ∀ b x, H1 b = some x → b ≠ D := fun b x e => ne_of_none e hD
  -- the invariant
  refine ⟨fun i m H2 => m = xs.length - i ∧ i ≤ xs.length ∧ ∃ Gi acc va, Stp K c G1 (wipe σ vs) H1 (wipeE e0 vs) Gi H2 (wipeE e0 vs) ∧ Gi D = none ∧ H2 D = some (.lst va) ∧ Ats K Gi va acc ∧ acc.length ≤ i ∧ I i acc,
    ⟨xs.length, by simp, Nat.zero_le _, G1, [], [], Stp.new Sw hD, S1.free hD, upd_same, .nil, Nat.le_refl _, i0⟩, ?_⟩
  rintro i m H2 ⟨rfl, hi, Gi, acc, va, Ti, gD, hDi, av, hal, hI⟩
  have gh : Same G1 H2 := Ti.gg.trans Ti.st.gh
  have noD : ∀ {σ' : L2.St} {e' : En} {G' H' : Hp}, Stt K c G' σ' H' e' → wipe σ' vs = wipe σ vs → wipeE e' vs = wipeE e0 vs → (∀ i p, Own σ' e' i p → i ∉ vs) → ∀ j, ¬ Own σ' e' j D := fun {σ' e' G' H'} S' hw hwe hn j w => by
    have w' : Own (wipe σ' vs) (wipeE e' vs) j D := Own_wipe.mpr ⟨hn j D w, w⟩
    rw [hw, hwe] at w'
    exact (Sw.notOwn hD j) w'
  by_cases hlt : i < xs.length
  · refine .inr ⟨wk.go i H2 hlt gh, fun H' => ∃ Gi acc va, Stp K c G1 (wipe σ vs) H1 (wipeE e0 vs) Gi H' (wipeE e0 vs) ∧ Gi D = none ∧ H' D = some (.lst va) ∧ Ats K Gi va acc ∧ acc.length ≤ i + 1 ∧ I (i + 1) acc,
      fun H' h' => ⟨xs.length - (i + 1), by omega, rfl, hlt, h'⟩, fun v H' y => ?_⟩
    obtain ⟨hh, hG⟩ := wk.yld i H2 v H' hlt gh y
    obtain ⟨G2, x, ex, g1, g2, gf, ax⟩ := hG Gi Ti.gg Ti.st.gh
    have T2 : Stp K c Gi (wipe σ vs) H2 (wipeE e0 vs) G2 H' (wipeE e0 vs) := Stp.ext Ti.st g1 g2 (fun b e1 e2 => gf b e1 e2) hh
    have g2D : G2 D = none := gf D (by rw [hDi]; exact nn) gD
    have hD' : H' D = some (.lst va) := hh D _ hDi
    have T12 := Ti.trans T2
    refine hg.run c G2 (wipe σ vs) H' (wipeE e0 vs) v x _ _ T2.st ax (hs i acc x ex hI) fun σ3 e3 S3 hw3 h3 => ?_
    obtain ⟨hwe, hno, h3⟩ := h3
    have ww : wipe (wipe σ vs) vs = wipe σ vs := by
      apply List.ext_getElem?
      intro j
      rw [wipe_get, wipe_get, wipe_length]
      by_cases hj : j ∈ vs <;> simp [hj]
    have hws : wipe σ3 vs = wipe σ vs := (hw3 vs hv).trans ww
    refine ⟨hws, ?_⟩
    refine ht c G2 σ3 H' e3 _ _ S3 h3 fun b G4 H4 e4 T4 h4 => ?_
    obtain ⟨rfl, h4⟩ := h4
    have nov : ∀ i p, Own σ3 e4 i p → i ∉ vs := fun i p ⟨s, e5, ho, _⟩ hi => by
      unfold noOwn at hno
      rw [List.all_eq_true] at hno
      have := hno i hi
      simp only [e5, ho] at this
      cases this
    -- the slots of the body as the block's
    have back : ∀ {G5 H5 : Hp}, Stp K c G2 σ3 H' e4 G5 H5 e4 → Stp K c G2 (wipe σ vs) H' (wipeE e0 vs) G5 H5 (wipeE e0 vs) := fun {G5 H5} T =>
      ⟨T.st.rewipe hws hwe, T.gg, T.gf, fun b o e n => T.kp b o e fun i w => n i (by
        rw [← hws, ← hwe]
        exact Own_wipe.mpr ⟨nov i b w, w⟩), T.al, fun _ _ => Iff.rfl⟩
    have nD : ∀ j, ¬ Own σ3 e4 j D := noD S3 hws hwe nov
    cases b with
    | false =>
      have h5 : I (i + 1) acc := h4
      show ∃ Gi acc va, _
      exact ⟨G4, acc, va, T12.trans (back T4), T4.gf D g2D (by rw [hD']; exact nn), T4.kp D _ hD' nD, av.mono (g1.trans T4.gg), Nat.le_succ_of_le hal, h5⟩
    | true =>
      have h5 : de e4 fun r e5 => e5 = e4 ∧ onDa r fun d => I (i + 1) (acc ++ [d]) := h4
      show te σ3 H4 _
      refine he c G4 σ3 H4 e4 _ _ T4.st h5 fun y r G5 H5 e5 T5 w5 h6 => ?_
      obtain ⟨rfl, h6⟩ := h6
      obtain ⟨d, ed, h7⟩ := onDa_some h6
      obtain ⟨G6, T6, ad, s6, f6⟩ := w5.absorb T4.st T5 ed
      have T46 := T4.trans T6
      have hD5 : H5 D = some (.lst va) := T46.kp D _ hD' nD
      have g6D : G6 D = none := T46.gf D g2D (by rw [hD']; exact nn)
      refine ⟨va, hD5, ?_, G6, acc ++ [d], va ++ [y], ?_, g6D, upd_same, ?_, ?_, h7⟩
      · rw [av.length]
        exact Nat.lt_of_le_of_lt hal (Nat.lt_trans hlt hlen)
      · have Tb := T12.trans (back T46)
        refine ⟨Tb.st.off h0D g6D (Sw.notOwn hD), Tb.gg, Tb.gf, fun b o e n => ?_, fun b e => ?_, Tb.ow⟩
        · rw [upd_ne (neD b o e)]
          exact Tb.kp b o e n
        · by_cases hb : b = D
          · rw [hb, upd_same]
            exact nn
          · rw [upd_ne hb]
            exact Tb.al b e
      · exact (av.mono (g1.trans T46.gg)).append (.cons ad .nil)
      · rw [List.length_append]
        exact Nat.succ_le_succ hal
  · have ei : i = xs.length := by omega
    subst ei
    refine .inl ⟨wk.stop H2 gh, ?_⟩
    have Tu := Stp.unwipe S1 no Ti
    refine post _ _ Gi H2 e0 (T0.trans Tu) (.fl ?_ gD hDi av fun j w => ?_) (hend acc hI)
    · cases z : H D with
      | none => rfl
      | some x => exact absurd hD (T0.al D (by rw [z]; exact nn))
    · exact S1.notOwn hD j w
/-- {k: v for target in it if test} -/
def dDc (di : DI) (dg : DG) (dt : DTT) (dk de : DT) (vs : List Nat) : DT := fun env P => di env fun xs e0 => noOwn e0 vs = true ∧ xs.length < sizeLine ∧ ∃ I : Nat → List (Int × Da) → Prop, I 0 [] ∧
  (∀ i acc x, xs[i]? = some x → I i acc → dg x (wipeE e0 vs) fun e2 => wipeE e2 vs = wipeE e0 vs ∧ noOwn e2 vs = true ∧ dt e2 fun b e3 => e3 = e2 ∧ if b = true then dk e3 fun r0 e4 => e4 = e3 ∧ onInt r0 fun k => de e4 fun r e5 => e5 = e4 ∧ onDa r fun d => I (i + 1) (putD acc k d) else I (i + 1) acc) ∧
  ∀ acc, I xs.length acc → P (.fm acc) e0
set_option maxHeartbeats 8000000 in
theorem re_dc {K : PySem.W.Frag} {wi : TI} {di : DI} {iv : List Nat} {g : TG} {dg : DG} {tt : TT} {dt : DTT} {tk te : TE} {dk de : DT} {vs : List Nat} (hi : RI K wi di) (hg : RG_ K iv g dg) (ht : RT K tt dt) (hk : RE K tk dk) (he : RE K te de) (hv : ∀ i ∈ iv, i ∈ vs) :
    RE K (tDc wi g tt tk te vs) (dDc di dg dt dk de vs) := by
  intro c G σ H env P Q S h post
  refine hi c G σ H env _ _ S h fun J xs G1 H1 e0 T0 wk h1 => ?_
  obtain ⟨no, hlen, I, i0, hs, hend⟩ := h1
  intro D hD
  have S1 := T0.st
  have Sw := S1.wipe vs
  have h0D : c.H0 D = none := S1.h0 hD
  have neD : ∀ b x, H1 b = some x → b ≠ D := fun b x e => ne_of_none e hD
  -- the invariant
  refine ⟨fun i m H2 => m = xs.length - i ∧ i ≤ xs.length ∧ ∃ Gi acc va, Stp K c G1 (wipe σ vs) H1 (wipeE e0 vs) Gi H2 (wipeE e0 vs) ∧ Gi D = none ∧ H2 D = some (.dK va) ∧ va.map (·.1) = acc.map (fun q => Sum.inl q.1) ∧ Ats K Gi (va.map (·.2)) (acc.map (·.2)) ∧ acc.length ≤ i ∧ I i acc,
    ⟨xs.length, by simp, Nat.zero_le _, G1, [], [], Stp.new Sw hD, S1.free hD, upd_same, rfl, .nil, Nat.le_refl _, i0⟩, ?_⟩
  rintro i m H2 ⟨rfl, hi, Gi, acc, va, Ti, gD, hDi, hkk, av, hal, hI⟩
  have gh : Same G1 H2 := Ti.gg.trans Ti.st.gh
  have noD : ∀ {σ' : L2.St} {e' : En} {G' H' : Hp}, Stt K c G' σ' H' e' → wipe σ' vs = wipe σ vs → wipeE e' vs = wipeE e0 vs → (∀ i p, Own σ' e' i p → i ∉ vs) → ∀ j, ¬ Own σ' e' j D := fun {σ' e' G' H'} S' hw hwe hn j w => by
    have w' : Own (wipe σ' vs) (wipeE e' vs) j D := Own_wipe.mpr ⟨hn j D w, w⟩
    rw [hw, hwe] at w'
    exact (Sw.notOwn hD j) w'
  by_cases hlt : i < xs.length
  · refine .inr ⟨wk.go i H2 hlt gh, fun H' => ∃ Gi acc va, Stp K c G1 (wipe σ vs) H1 (wipeE e0 vs) Gi H' (wipeE e0 vs) ∧ Gi D = none ∧ H' D = some (.dK va) ∧ va.map (·.1) = acc.map (fun q => Sum.inl q.1) ∧ Ats K Gi (va.map (·.2)) (acc.map (·.2)) ∧ acc.length ≤ i + 1 ∧ I (i + 1) acc,
      fun H' h' => ⟨xs.length - (i + 1), by omega, rfl, hlt, h'⟩, fun v H' y => ?_⟩
    obtain ⟨hh, hG⟩ := wk.yld i H2 v H' hlt gh y
    obtain ⟨G2, x, ex, g1, g2, gf, ax⟩ := hG Gi Ti.gg Ti.st.gh
    have T2 : Stp K c Gi (wipe σ vs) H2 (wipeE e0 vs) G2 H' (wipeE e0 vs) := Stp.ext Ti.st g1 g2 (fun b e1 e2 => gf b e1 e2) hh
    have g2D : G2 D = none := gf D (by rw [hDi]; exact nn) gD
    have hD' : H' D = some (.dK va) := hh D _ hDi
    have T12 := Ti.trans T2
    refine hg.run c G2 (wipe σ vs) H' (wipeE e0 vs) v x _ _ T2.st ax (hs i acc x ex hI) fun σ3 e3 S3 hw3 h3 => ?_
    obtain ⟨hwe, hno, h3⟩ := h3
    have ww : wipe (wipe σ vs) vs = wipe σ vs := by
      apply List.ext_getElem?
      intro j
      rw [wipe_get, wipe_get, wipe_length]
      by_cases hj : j ∈ vs <;> simp [hj]
    have hws : wipe σ3 vs = wipe σ vs := (hw3 vs hv).trans ww
    refine ⟨hws, ?_⟩
    refine ht c G2 σ3 H' e3 _ _ S3 h3 fun b G4 H4 e4 T4 h4 => ?_
    obtain ⟨rfl, h4⟩ := h4
    have nov : ∀ i p, Own σ3 e4 i p → i ∉ vs := fun i p ⟨s, e5, ho, _⟩ hi => by
      unfold noOwn at hno
      rw [List.all_eq_true] at hno
      have := hno i hi
      simp only [e5, ho] at this
      cases this
    -- the slots of the body as the block's
    have back : ∀ {G5 H5 : Hp}, Stp K c G2 σ3 H' e4 G5 H5 e4 → Stp K c G2 (wipe σ vs) H' (wipeE e0 vs) G5 H5 (wipeE e0 vs) := fun {G5 H5} T =>
      ⟨T.st.rewipe hws hwe, T.gg, T.gf, fun b o e n => T.kp b o e fun i w => n i (by
        rw [← hws, ← hwe]
        exact Own_wipe.mpr ⟨nov i b w, w⟩), T.al, fun _ _ => Iff.rfl⟩
    have nD : ∀ j, ¬ Own σ3 e4 j D := noD S3 hws hwe nov
    cases b with
    | false =>
      have h5 : I (i + 1) acc := h4
      show ∃ Gi acc va, _
      exact ⟨G4, acc, va, T12.trans (back T4), T4.gf D g2D (by rw [hD']; exact nn), T4.kp D _ hD' nD, hkk, av.mono (g1.trans T4.gg), Nat.le_succ_of_le hal, h5⟩
    | true =>
      show tk σ3 H4 _
      refine hk c G4 σ3 H4 e4 _ _ T4.st h4 fun y0 r0 G4' H4' e4' T4' w4' h4' => ?_
      obtain ⟨rfl, h4''⟩ := h4'
      obtain ⟨k, rfl, h5⟩ := onInt_some h4''
      cases w4'.int
      refine he c G4' σ3 H4' e4' _ _ T4'.st h5 fun y r G5 H5 e5 T5 w5 h6 => ?_
      obtain ⟨rfl, h6⟩ := h6
      obtain ⟨d, ed, h7⟩ := onDa_some h6
      obtain ⟨G6, T6, ad, s6, f6⟩ := w5.absorb T4'.st T5 ed
      have T46 := (T4.trans T4').trans T6
      have hD5 : H5 D = some (.dK va) := T46.kp D _ hD' nD
      have g6D : G6 D = none := T46.gf D g2D (by rw [hD']; exact nn)
      have hvl : va.length = acc.length := by
        have := congrArg List.length hkk
        simpa using this
      obtain ⟨k1, k2⟩ := put_val (k := k) hkk (av.mono (g1.trans T46.gg)) ad
      refine ⟨va, Sum.inl k, rfl, hD5, ?_, G6, putD acc k d, putK va (Sum.inl k) y, ?_, g6D, upd_same, k1, k2, ?_, h7⟩
      · rw [hvl]
        exact Nat.lt_of_le_of_lt hal (Nat.lt_trans hlt hlen)
      · have Tb := T12.trans (back T46)
        refine ⟨Tb.st.off h0D g6D (Sw.notOwn hD), Tb.gg, Tb.gf, fun b o e n => ?_, fun b e => ?_, Tb.ow⟩
        · rw [upd_ne (neD b o e)]
          exact Tb.kp b o e n
        · by_cases hb : b = D
          · rw [hb, upd_same]
            exact nn
          · rw [upd_ne hb]
            exact Tb.al b e
      · exact Nat.le_trans put_length (Nat.succ_le_succ hal)
  · have ei : i = xs.length := by omega
    subst ei
    refine .inl ⟨wk.stop H2 gh, ?_⟩
    have Tu := Stp.unwipe S1 no Ti
    refine post _ _ Gi H2 e0 (T0.trans Tu) (.fm ?_ gD hDi hkk av fun j w => ?_) (hend acc hI)
    · cases z : H D with
      | none => rfl
      | some x => exact absurd hD (T0.al D (by rw [z]; exact nn))
    · exact S1.notOwn hD j w
end RK
-- D7
set_option Elab.async false
set_option linter.all false
set_option maxRecDepth 100000
set_option maxHeartbeats 4000000
/-! D7: promises by data, bodies, calls -/
namespace RK
open PySem PySem.Spec PyProof.Rows L2

abbrev RR := List Da → (Da → Prop) → Prop
/-- what comes back is told by data; the caller's heap stands -/
def spD (K : PySem.W.Frag) (R : RR) : Pr := fun vs H Q => ∃ (G : Hp) (ds : List Da) (P : Da → Prop), Same G H ∧ Ats K G vs ds ∧ R ds P ∧
  ∀ v d H' G', P d → Same H H' → Same G G' → Same G' H' → (∀ b, G b = none → H b ≠ none → G' b = none) → At K G' v d → Q v H'
/-- the first argument is the pot, which changes -/
def spP (K : PySem.W.Frag) (R : RR) : Pr := fun vs H Q => ∃ (p : Addr) (us : List V) (G : Hp) (ds : List Da) (P : Da → Prop), vs = .ref p :: us ∧ PotAt H p ∧ G p = none ∧ Same G H ∧ Ats K G us ds ∧ R ds P ∧
  ∀ v d H' G', P d → (∀ b o, H b = some o → b ≠ p → H' b = some o) → PotAt H' p → Same G G' → Same G' H' → (∀ b, G b = none → H b ≠ none → G' b = none) → At K G' v d → Q v H'
abbrev RI_ := List Da → (List Str → List Da → Prop) → Prop
/-- an __init__: the new object's fields -/
def spI (K : PySem.W.Frag) (C : Addr) (R : RI_) : Pr := fun vs H Q => ∃ (x dx : Addr) (us : List V) (G : Hp) (ds : List Da) (P : List Str → List Da → Prop), vs = .ref x :: us ∧ H x = some (.ins C dx []) ∧ G x = none ∧ Same G H ∧ Ats K G us ds ∧ R ds P ∧
  ∀ ns es fs dx' H' G', P ns es → (∀ b o, H b = some o → b ≠ x → H' b = some o) → H' x = some (.ins C dx' fs) → fs.map (·.1) = ns → Ats K G' (fs.map (·.2)) es → Same G G' → Same G' H' → (∀ b, G b = none → H b ≠ none → G' b = none) → Q .non H'

def startE (N : List Str) (ss : List Sl) : En := ss ++ List.replicate (N.length - ss.length) .u
section
variable {P : Program} {w : World} {K : PySem.W.Frag} {mg : Str → Option Value} {base : Heap}
theorem start_get {N : List Str} {vs : List V} {i : Nat} {v : V} (h : vs[i]? = some v) : (L2.start N vs)[i]? = some (some v) := by
  have hi := (List.getElem?_eq_some_iff.mp h).1
  unfold L2.start
  rw [List.getElem?_append_left (by rw [List.length_map]; exact hi), List.getElem?_map, h]
  rfl
theorem startE_get {N : List Str} {ss : List Sl} {i : Nat} {s : Sl} (h : (startE N ss)[i]? = some s) : ss[i]? = some s ∨ s = .u := by
  unfold startE at h
  by_cases hi : i < ss.length
  · rw [List.getElem?_append_left hi] at h
    exact .inl h
  · rw [List.getElem?_append_right (by omega), List.getElem?_replicate] at h
    split at h
    · exact .inr (Option.some.inj h).symm
    · cases h
theorem start_stt {c : Ctx} {G H : Hp} {N : List Str} {vs : List V} {ss : List Sl} (hl : vs.length = ss.length) (hN : ss.length ≤ N.length) (hg : Same G H) (hc : c = ⟨H, G, c.B⟩) (sl : ∀ (i : Nat) (s : Sl), ss[i]? = some s → ∃ v : V, vs[i]? = some v ∧ SlAt K c G H (some v) s)
    (ap : ∀ (i j : Nat) (s t : Sl) (p : Addr), ss[i]? = some s → ss[j]? = some t → s.own = true → t.own = true → vs[i]? = some (V.ref p) → vs[j]? = some (V.ref p) → i = j) : Stt K c G (L2.start N vs) H (startE N ss) := by
  have h0 : c.H0 = H := by rw [hc]
  have g0 : c.G0 = G := by rw [hc]
  have ow : ∀ i p, Own (L2.start N vs) (startE N ss) i p → ∃ s, ss[i]? = some s ∧ s.own = true ∧ vs[i]? = some (.ref p) := fun i p ⟨s, e, ho, es⟩ => by
    rcases startE_get e with z | z
    · obtain ⟨v, hv, _⟩ := sl i s z
      rw [start_get hv] at es
      cases es
      exact ⟨s, z, ho, hv⟩
    · subst z
      cases ho
  refine ⟨by simp [L2.start, startE, hl], fun b o e _ => h0 ▸ e, fun b e => h0 ▸ e, g0 ▸ Same.refl _, hg, fun b e _ => g0 ▸ e, fun i s e => ?_, fun i j p h1 h2 => ?_⟩
  · rcases startE_get e with z | z
    · obtain ⟨v, hv, q⟩ := sl i s z
      exact ⟨some v, start_get hv, q⟩
    · subst z
      have hi : i < (L2.start N vs).length := by
        have := (List.getElem?_eq_some_iff.mp e).1
        simpa [L2.start, startE, hl] using this
      exact ⟨_, List.getElem?_eq_getElem hi, True.intro⟩
  · obtain ⟨s, e1, o1, v1⟩ := ow i p h1
    obtain ⟨t, e2, o2, v2⟩ := ow j p h2
    exact ap i j s t p e1 e2 o1 o2 v1 v2
theorem okD {x qual : Str} {st : Stmt} {f : Addr} {fd : FuncData} {N ps : List Str} {k : Nat} {R : RR} (F : Fun K x qual st f fd) (S : FnScope N ps (defScope st)) (len : ∀ ds P, R ds P → ds.length = ps.length) (hN : ps.length ≤ N.length)
    (hbody : ∀ (cdv : Value) (A : Around) (outer : List Env) (s : Shared) (H : Hp), RG k (A.deeper (envOfC qual (defScope st) s.heap.objs.size f cdv)) →
      ∃ t d, DSs (cxOf CX0 P w K mg base N qual (defScope st) f cdv A outer s H E0).nox (defBody st) t d ∧ ∀ ds Q, R ds Q → d { nx := fun _ => Q .non, rt := fun v _ => Q v } (startE N (ds.map Sl.d))) : FnG P w K mg base (k + 1) f fd ps (spD K R) := by
  refine okG F S (fun vs H Q ⟨G, ds, P', _, a, r, _⟩ => by rw [a.length]; exact len ds P' r) fun cdv A outer s H vs Q hr ⟨G, ds, P', g, a, r, q⟩ => ?_
  obtain ⟨t, d, D, hd⟩ := hbody cdv A outer s H hr
  have hl : vs.length = (ds.map Sl.d).length := by rw [a.length, List.length_map]
  refine ⟨t, D.ps, D.rf ⟨H, G, fun _ => False⟩ G (L2.start N vs) H _ _ _ (start_stt hl (by rw [List.length_map, len ds P' r]; exact hN) g rfl (fun i s' e => ?_) fun i j s' t' p e1 _ o1 _ _ _ => ?_) (hd ds P' r) ⟨fun G1 σ1 H1 e1 S1 h1 => ?_, fun v d G1 σ1 H1 e1 S1 a1 h1 => ?_, fun _ _ _ _ _ h => False.elim h, fun _ _ _ _ _ h => False.elim h⟩⟩
  · rw [List.getElem?_map, Option.map_eq_some_iff] at e
    obtain ⟨d, hd, rfl⟩ := e
    obtain ⟨v, hv, av⟩ := a.get hd
    exact ⟨v, hv, v, rfl, av⟩
  · rw [List.getElem?_map, Option.map_eq_some_iff] at e1
    obtain ⟨d, hd, rfl⟩ := e1
    cases o1
  · exact q .non .non H1 G1 h1 (fun b o e => S1.base b o e (fun z => z)) S1.g0 S1.gh S1.gf .non
  · exact q v d H1 G1 h1 (fun b o e => S1.base b o e (fun z => z)) S1.g0 S1.gh S1.gf a1
theorem pot_at {c : Ctx} {G H : Hp} {σ : L2.St} {env : En} {p : Addr} (S : Stt K c G σ H env) (hB : ∀ q, c.B q → q = p) (e : env[0]? = some .pot) : PotAt H p := by
  obtain ⟨o, eo, q, e1, gq, hb, hp⟩ := S.sl 0 _ e
  have := hB q hb
  subst this
  exact hp
theorem okP {x qual : Str} {st : Stmt} {f : Addr} {fd : FuncData} {N ps : List Str} {k : Nat} {R : RR} (F : Fun K x qual st f fd) (S : FnScope N ps (defScope st)) (len : ∀ ds P, R ds P → ds.length + 1 = ps.length) (hN : ps.length ≤ N.length)
    (hbody : ∀ (cdv : Value) (A : Around) (outer : List Env) (s : Shared) (H : Hp), RG k (A.deeper (envOfC qual (defScope st) s.heap.objs.size f cdv)) →
      ∃ t d, DSs (cxOf CX0 P w K mg base N qual (defScope st) f cdv A outer s H E0).nox (defBody st) t d ∧ ∀ ds Q, R ds Q → d { nx := fun e => e[0]? = some .pot ∧ Q .non, rt := fun v e => e[0]? = some .pot ∧ Q v } (startE N (.pot :: ds.map Sl.d))) : FnG P w K mg base (k + 1) f fd ps (spP K R) := by
  refine okG F S (fun vs H Q ⟨p, us, G, ds, P', e, _, _, _, a, r, _⟩ => by rw [e, List.length_cons, a.length]; exact len ds P' r) fun cdv A outer s H vs Q hr ⟨p, us, G, ds, P', e, hp, gp, g, a, r, q⟩ => ?_
  subst e
  obtain ⟨t, d, D, hd⟩ := hbody cdv A outer s H hr
  have hl : (V.ref p :: us).length = (Sl.pot :: ds.map Sl.d).length := by rw [List.length_cons, List.length_cons, a.length, List.length_map]
  refine ⟨t, D.ps, D.rf ⟨H, G, fun b => b = p⟩ G (L2.start N _) H _ _ _ (start_stt hl (by rw [List.length_cons, List.length_map, len ds P' r]; exact hN) g rfl (fun i s' e => ?_) fun i j s' t' p e1 e2 o1 o2 _ _ => ?_) (hd ds P' r) ⟨fun G1 σ1 H1 e1 S1 h1 => ?_, fun v d G1 σ1 H1 e1 S1 a1 h1 => ?_, fun _ _ _ _ _ h => False.elim h, fun _ _ _ _ _ h => False.elim h⟩⟩
  · cases i with
    | zero =>
      cases e
      exact ⟨_, rfl, p, rfl, gp, rfl, hp⟩
    | succ i =>
      rw [List.getElem?_cons_succ, List.getElem?_map, Option.map_eq_some_iff] at e
      obtain ⟨d, hd, rfl⟩ := e
      obtain ⟨v, hv, av⟩ := a.get hd
      exact ⟨v, hv, v, rfl, av⟩
  · cases i with
    | succ i =>
      rw [List.getElem?_cons_succ, List.getElem?_map, Option.map_eq_some_iff] at e1
      obtain ⟨d, hd, rfl⟩ := e1
      cases o1
    | zero =>
      cases j with
      | zero => rfl
      | succ i =>
        rw [List.getElem?_cons_succ, List.getElem?_map, Option.map_eq_some_iff] at e2
        obtain ⟨d, hd, rfl⟩ := e2
        cases o2
  · exact q .non .non H1 G1 h1.2 (fun b o e n => S1.base b o e n) (pot_at S1 (fun q z => z) h1.1) S1.g0 S1.gh S1.gf .non
  · exact q v d H1 G1 h1.2 (fun b o e n => S1.base b o e n) (pot_at S1 (fun q z => z) h1.1) S1.g0 S1.gh S1.gf a1
theorem okI {x qual : Str} {st : Stmt} {f : Addr} {fd : FuncData} {N ps : List Str} {k : Nat} {C : Addr} {R : RI_} (F : Fun K x qual st f fd) (S : FnScope N ps (defScope st)) (len : ∀ ds P, R ds P → ds.length + 1 = ps.length) (hN : ps.length ≤ N.length)
    (hbody : ∀ (cdv : Value) (A : Around) (outer : List Env) (s : Shared) (H : Hp), RG k (A.deeper (envOfC qual (defScope st) s.heap.objs.size f cdv)) →
      ∃ t d, DSs (cxOf CX0 P w K mg base N qual (defScope st) f cdv A outer s H E0).nox (defBody st) t d ∧ ∀ ds Q, R ds Q → d { nx := fun e => ∃ ns es, e[0]? = some (.self C ns es) ∧ Q ns es, rt := fun _ _ => False } (startE N (.self C [] [] :: ds.map Sl.d))) : FnG P w K mg base (k + 1) f fd ps (spI K C R) := by
  refine okG F S (fun vs H Q ⟨x, dx, us, G, ds, P', e, _, _, _, a, r, _⟩ => by rw [e, List.length_cons, a.length]; exact len ds P' r) fun cdv A outer s H vs Q hr ⟨p, dx, us, G, ds, P', e, hp, gp, g, a, r, q⟩ => ?_
  subst e
  obtain ⟨t, d, D, hd⟩ := hbody cdv A outer s H hr
  have hl : (V.ref p :: us).length = (Sl.self C [] [] :: ds.map Sl.d).length := by rw [List.length_cons, List.length_cons, a.length, List.length_map]
  refine ⟨t, D.ps, D.rf ⟨H, G, fun b => b = p⟩ G (L2.start N _) H _ _ _ (start_stt hl (by rw [List.length_cons, List.length_map, len ds P' r]; exact hN) g rfl (fun i s' e => ?_) fun i j s' t' p e1 e2 o1 o2 _ _ => ?_) (hd ds P' r) ⟨fun G1 σ1 H1 e1 S1 h1 => ?_, fun v d G1 σ1 H1 e1 S1 a1 h1 => False.elim h1, fun _ _ _ _ _ h => False.elim h, fun _ _ _ _ _ h => False.elim h⟩⟩
  · cases i with
    | zero =>
      cases e
      exact ⟨_, rfl, p, dx, [], rfl, gp, rfl, hp, rfl, .nil⟩
    | succ i =>
      rw [List.getElem?_cons_succ, List.getElem?_map, Option.map_eq_some_iff] at e
      obtain ⟨d, hd, rfl⟩ := e
      obtain ⟨v, hv, av⟩ := a.get hd
      exact ⟨v, hv, v, rfl, av⟩
  · cases i with
    | succ i =>
      rw [List.getElem?_cons_succ, List.getElem?_map, Option.map_eq_some_iff] at e1
      obtain ⟨d, hd, rfl⟩ := e1
      cases o1
    | zero =>
      cases j with
      | zero => rfl
      | succ i =>
        rw [List.getElem?_cons_succ, List.getElem?_map, Option.map_eq_some_iff] at e2
        obtain ⟨d, hd, rfl⟩ := e2
        cases o2
  · obtain ⟨ns, es, e2, h2⟩ := h1
    obtain ⟨o, eo, q', dx', fs, e3, gq, hb, hx, hk, av⟩ := S1.sl 0 _ e2
    have : q' = p := hb
    subst this
    exact q ns es fs dx' H1 G1 h2 (fun b o e n => S1.base b o e n) hx hk av S1.g0 S1.gh S1.gf
end
/-! ### calls -/
def dCall (R : RR) (da : DAT) : DT := fun env P => da env fun rs e1 => onO (dasOf rs) fun ds => R ds fun d => P (.da d) e1
/-- the last argument an owned dict that is only read; what comes back is a list of ints -/
def dCallM (R : RR) (da db : DT) (i : Nat) : DT := fun env P => da env fun r1 e1 => onDa r1 fun x => db e1 fun r2 e2 => onDa r2 fun y => match e2[i]? with
  | some (.m kvs) => R [x, y, .dic kvs] fun d => ∃ ns, d = .lst (iD ns) ∧ P (.da d) e2
  | _ => False
def isPot (env : En) (i : Nat) : Prop := env[i]? = some .pot
def dCallP (R : RR) (i : Nat) (da : DAT) : DT := fun env P => isPot env i ∧ da env fun rs e1 => isPot e1 i ∧ onO (dasOf rs) fun ds => R ds fun d => P (.da d) e1
def dMk (C : Addr) (R : RI_) (da : DAT) : DT := fun env P => da env fun rs e1 => onO (dasOf rs) fun ds => R ds fun ns es => P (.da (.obj C ns es)) e1
def onObj (C : Addr) (r : RV) (k : List Str → List Da → Prop) : Prop := match r with
  | .da (.obj C' ns es) => C' = C ∧ k ns es
  | _ => False
theorem onObj_some {C : Addr} {r : RV} {k : List Str → List Da → Prop} (h : onObj C r k) : ∃ ns es, r = .da (.obj C ns es) ∧ k ns es := by
  unfold onObj at h
  split at h
  · obtain ⟨rfl, h⟩ := h
    exact ⟨_, _, rfl, h⟩
  · exact False.elim h
def dMt (C : Addr) (m : Str) (R : RR) (dd : DT) (da : DAT) : DT := fun env P => dd env fun r e1 => onObj C r fun ns es => m ∉ ns ∧ da e1 fun rs e2 => onO (dasOf rs) fun ds => R (.obj C ns es :: ds) fun d => P (.da d) e2
def dPp (C : Addr) (R : RR) (dd : DT) : DT := fun env P => dd env fun r e1 => onObj C r fun ns es => R [.obj C ns es] fun d => P (.da d) e1
def dCO (C : Addr) (R : RR) (dd : DT) (da : DAT) : DT := fun env P => dd env fun r e1 => onObj C r fun ns es => da e1 fun rs e2 => onO (dasOf rs) fun ds => R (.obj C ns es :: ds) fun d => P (.da d) e2
/-- arguments from the right -/
def dRevA (da : DAT) : DAT := fun env P => da env fun rs e1 => P rs.reverse e1
section
variable {K : PySem.W.Frag} {ta : TA} {da : DAT} {te : TE} {de : DT}
theorem obj_at {c : Ctx} {Hs G H : Hp} {σ : L2.St} {env : En} {v : V} {C : Addr} {ns : List Str} {es : List Da} (h : AtR K Hs G σ H env v (.da (.obj C ns es))) : ∃ p dx fs, v = .ref p ∧ G p = some (.ins C dx fs) ∧ fs.map (·.1) = ns ∧ Ats K G (fs.map (·.2)) es ∧ At K G v (.obj C ns es) := by
  cases h with
  | da a =>
    have a0 := a
    cases a with
    | obj h1 h2 h3 => exact ⟨_, _, _, rfl, h1, h2, h3, a0⟩
theorem lookup_none {f : Str} : ∀ {fs : List (Str × V)}, f ∉ fs.map (·.1) → fs.lookup f = none
  | [], _ => rfl
  | p :: r, h => by
    rw [List.map_cons, List.mem_cons, not_or] at h
    rw [List.lookup_cons]
    have : (f == p.1) = false := by simpa using h.1
    rw [this]
    exact lookup_none h.2
theorem rev_at {Hs G H : Hp} {σ : L2.St} {env : En} : ∀ {vs : List V} {rs : List RV}, AtRs K Hs G σ H env vs rs → AtRs K Hs G σ H env vs.reverse rs.reverse := fun {vs rs} h => by
  induction h with
  | nil => exact .nil
  | @cons a b as bs h t ih =>
    rw [List.reverse_cons, List.reverse_cons]
    have app : ∀ {xs : List V} {ys : List RV}, AtRs K Hs G σ H env xs ys → AtRs K Hs G σ H env (xs ++ [a]) (ys ++ [b]) := fun {xs ys} q => by
      induction q with
      | nil => exact .cons h .nil
      | cons h1 _ ih1 => exact .cons h1 ih1
    exact app ih
theorem ra_rev (a : RA K ta da) : RA K (fun σ H Q => ta σ H fun zs H1 => Q zs.reverse H1) (dRevA da) := by
  intro c G σ H env P Q S h post
  exact a c G σ H env _ _ S h fun vs rs G1 H1 e1 T1 w1 h1 => post _ _ G1 H1 e1 T1 (rev_at w1) h1
/-- what a promise's end gives the caller -/
theorem post_call {c : Ctx} {G H G' H' : Hp} {σ : L2.St} {env : En} {v : V} {d : Da} (S : Stt K c G σ H env) (hh : Same H H') (gg : Same G G') (gh : Same G' H') (gf : ∀ b, G b = none → H b ≠ none → G' b = none) (a : At K G' v d) :
    Stp K c G σ H env G' H' env ∧ AtR K H G' σ H' env v (.da d) := ⟨Stp.ext S gg gh (fun b e1 e2 => gf b e2 e1) hh, .da a⟩
theorem re_call {R : RR} (a : RA K ta da) : RE K (tCl (spD K R) ta) (dCall R da) := by
  intro c G σ H env P Q S h post
  refine a c G σ H env _ _ S h fun vs rs G1 H1 e1 T1 w1 h1 => ?_
  obtain ⟨ds, ed, h2⟩ := onO_some h1
  refine ⟨G1, ds, _, T1.st.gh, w1.dasOf ed, h2, fun v d H' G' hp hh gg gh gf av => ?_⟩
  obtain ⟨T2, w2⟩ := post_call T1.st hh gg gh gf av
  exact post v _ G' H' e1 (T1.trans T2) (w2.start T1.al) hp
theorem Ats.snoc {G : Hp} {vs : List V} {ds : List Da} {v : V} {d : Da} (a : Ats K G vs ds) (h : At K G v d) : Ats K G (vs ++ [v]) (ds ++ [d]) := a.append (.cons h .nil)
theorem re_mt {R : RR} {C : Addr} {m : Str} (o : RE K te de) (a : RA K ta da) : RE K (tMt C m (spD K R) te ta) (dMt C m R de da) := by
  intro c G σ H env P Q S h post
  refine o c G σ H env _ _ S h fun v r G1 H1 e1 T1 w1 h1 => ?_
  obtain ⟨ns, es, rfl, hm, h2⟩ := onObj_some h1
  obtain ⟨p, dx, fs, rfl, hp, hk, hv, ao⟩ := obj_at (c := c) w1
  subst hk
  refine ⟨p, dx, fs, rfl, T1.st.gh _ _ hp, lookup_none hm, ?_⟩
  refine a c G1 σ H1 e1 _ _ T1.st h2 fun vs rs G2 H2 e2 T2 w2 h3 => ?_
  obtain ⟨ds, ed, h4⟩ := onO_some h3
  refine ⟨G2, _, _, T2.st.gh, .cons (ao.mono T2.gg) (w2.dasOf ed), h4, fun v d H' G' hp hh gg gh gf av => ?_⟩
  obtain ⟨T3, w3⟩ := post_call T2.st hh gg gh gf av
  exact post v _ G' H' e2 ((T1.trans T2).trans T3) (w3.start (T1.trans T2).al) hp
theorem re_co {R : RR} {C : Addr} (o : RE K te de) (a : RA K ta da) : RE K (tCO C (spD K R) te ta) (dCO C R de da) := by
  intro c G σ H env P Q S h post
  refine o c G σ H env _ _ S h fun v r G1 H1 e1 T1 w1 h1 => ?_
  obtain ⟨ns, es, rfl, h2⟩ := onObj_some h1
  obtain ⟨p, dx, fs, rfl, hp, hk, hv, ao⟩ := obj_at (c := c) w1
  refine ⟨p, rfl, ?_⟩
  refine a c G1 σ H1 e1 _ _ T1.st h2 fun vs rs G2 H2 e2 T2 w2 h3 => ?_
  obtain ⟨ds, ed, h4⟩ := onO_some h3
  refine ⟨⟨dx, fs, T2.st.gh _ _ (T2.gg _ _ hp)⟩, G2, _, _, T2.st.gh, .cons (ao.mono T2.gg) (w2.dasOf ed), h4, fun v d H' G' hp hh gg gh gf av => ?_⟩
  obtain ⟨T3, w3⟩ := post_call T2.st hh gg gh gf av
  exact post v _ G' H' e2 ((T1.trans T2).trans T3) (w3.start (T1.trans T2).al) hp
theorem re_pp {R : RR} {C : Addr} (o : RE K te de) : RE K (tPp C (spD K R) te) (dPp C R de) := by
  intro c G σ H env P Q S h post
  refine o c G σ H env _ _ S h fun v r G1 H1 e1 T1 w1 h1 => ?_
  obtain ⟨ns, es, rfl, h2⟩ := onObj_some h1
  obtain ⟨p, dx, fs, rfl, hp, hk, hv, ao⟩ := obj_at (c := c) w1
  refine ⟨p, dx, fs, rfl, T1.st.gh _ _ hp, G1, _, _, T1.st.gh, .cons ao .nil, h2, fun v d H' G' hp hh gg gh gf av => ?_⟩
  obtain ⟨T3, w3⟩ := post_call T1.st hh gg gh gf av
  exact post v _ G' H' e1 (T1.trans T3) (w3.start T1.al) hp
/-- C(e, ..) -/
theorem re_mk {C : Addr} {R : RI_} (a : RA K ta da) : RE K (tMk C (spI K C R) ta) (dMk C R da) := by
  intro c G σ H env P Q S h post
  refine a c G σ H env _ _ S h fun vs rs G1 H1 e1 T1 w1 h1 => ?_
  obtain ⟨ds, ed, h2⟩ := onO_some h1
  intro x dx hx hdx hne
  have s1 : Same H1 (upd H1 dx (.own x)) := same_upd hdx
  have hx1 : (upd H1 dx (.own x)) x = none := by
    rw [upd_ne hne.symm]
    exact hx
  have s2 : Same H1 (upd (upd H1 dx (.own x)) x (.ins C dx [])) := s1.trans (same_upd hx1)
  refine ⟨x, dx, vs, G1, ds, _, rfl, upd_same, T1.st.free hx, T1.st.gh.trans s2, w1.dasOf ed, h2, fun ns es fs dx' H' G' hp kp hx' hk av gg gh gf => ⟨rfl, ?_⟩⟩
  have hh : Same H1 H' := fun b o e => kp b o (s2 b o e) (ne_of_none e hx)
  have gx : G' x = none := gf x (T1.st.free hx) (by rw [upd_same]; exact nn)
  have T2 : Stp K c G1 σ H1 e1 G' H' e1 := Stp.ext T1.st gg gh (fun b e1' e2 => gf b e2 (by
    cases z : H1 b with
    | none => exact absurd z e1'
    | some o => rw [s2 b o z]; exact nn)) hh
  have T3 := T2.absorb T1.st hx hx' (fun i w => T1.st.notOwn hx i w)
  exact post _ _ _ H' e1 (T1.trans T3) (.da (.obj upd_same hk (av.mono (T2.absorb_gg hx')))) hp
theorem Stp.pot {c : Ctx} {G H G' H' : Hp} {σ : L2.St} {env : En} {i : Nat} {p : Addr} (S : Stt K c G σ H env) (e : env[i]? = some .pot) (es : σ[i]? = some (some (.ref p))) (kp : ∀ b o, H b = some o → b ≠ p → H' b = some o) (hp : PotAt H' p)
    (gg : Same G G') (gh : Same G' H') (gf : ∀ b, G b = none → H b ≠ none → G' b = none) : Stp K c G σ H env G' H' env := by
  have w : Own σ env i p := ⟨_, e, rfl, es⟩
  obtain ⟨gp, hb0, hp0⟩ := S.own w
  have hB : c.B p := by
    obtain ⟨o, eo, q, e1, gq, hb, _⟩ := S.sl i _ e
    rw [es] at eo
    cases eo
    cases e1
    exact hb
  have pn : H' p ≠ none := by
    obtain ⟨a, b, e, _⟩ := hp
    rw [e]
    exact nn
  have al : ∀ b, H b ≠ none → H' b ≠ none := fun b h => by
    by_cases hb : b = p
    · rw [hb]
      exact pn
    · cases z : H b with
      | none => exact absurd z h
      | some x =>
        rw [kp b x z hb]
        exact nn
  refine ⟨⟨S.len, fun b o e n => kp b o (S.base b o e n) fun z => n (z ▸ hB), fun b h => al b (S.al b h), S.g0.trans gg, gh, fun b e1 e2 => gf b (S.gf b e1 e2) (S.al b e2), fun j s ej => ?_, S.ap⟩, gg, gf, fun b o e n => kp b o e fun z => n i (z ▸ w), al, fun _ _ => Iff.rfl⟩
  obtain ⟨o, eo, q⟩ := S.sl j s ej
  by_cases hj : j = i
  · subst hj
    rw [e] at ej
    cases ej
    rw [es] at eo
    cases eo
    exact ⟨_, es, p, rfl, gf p gp hp0, hB, hp⟩
  · refine ⟨o, eo, q.grow gg (fun r x er wr ex => ?_) fun r er wr gn => ?_⟩
    · subst er
      exact kp r x ex fun z => hj (S.ap j i p (z ▸ ⟨s, ej, wr, eo⟩) w)
    · subst er
      exact gf r gn (S.own ⟨s, ej, wr, eo⟩).2.2
/-- a def that draws: f(pot, ..) -/
theorem re_callP {R : RR} {i : Nat} (a : RA K ta da) : RE K (tCl (spP K R) (tCons (tVar i) ta)) (dCallP R i da) := by
  intro c G σ H env P Q S h post
  obtain ⟨e0, h⟩ := h
  obtain ⟨o, eo, p, e1, _, hB, _⟩ := S.sl i _ e0
  subst e1
  refine ⟨_, eo, ?_⟩
  refine a c G σ H env _ _ S h fun vs rs G1 H1 e1 T1 w1 h1 => ?_
  obtain ⟨ep, h1⟩ := h1
  obtain ⟨ds, ed, h2⟩ := onO_some h1
  obtain ⟨o2, eo2, p2, e2, gp, hB2, hp⟩ := T1.st.sl i _ ep
  rw [eo] at eo2
  cases eo2
  cases e2
  refine ⟨p, vs, G1, ds, _, rfl, hp, gp, T1.st.gh, w1.dasOf ed, h2, fun v d H' G' hP kp pa gg gh gf av => ?_⟩
  exact post v _ G' H' e1 (T1.trans (Stp.pot T1.st ep eo kp pa gg gh gf)) (.da av) hP
def offP (G : Hp) (p : Addr) : Hp := fun b => if b = p then none else G b
theorem offP_ne {G : Hp} {p b : Addr} (h : b ≠ p) : offP G p b = G b := if_neg h
theorem offP_at {G : Hp} {p : Addr} : offP G p p = none := if_pos rfl
/-- the callee reads an owned dict, too -/
theorem re_callM {R : RR} {i : Nat} {tb : TE} {db : DT} (a : RE K te de) (b : RE K tb db) : RE K (tCl (spD K R) (tCons te (tCons tb (tCons (tVar i) tNil)))) (dCallM R de db i) := by
  intro c G σ H env P Q S h post
  refine a c G σ H env _ _ S h fun v1 r1 G1' H1 e1 T1' w1 h1 => ?_
  obtain ⟨x, ex, h2⟩ := onDa_some h1
  obtain ⟨G1, T1, a1, _, _⟩ := w1.absorb S T1' ex
  refine b c G1 σ H1 e1 _ _ T1.st h2 fun v2 r2 G2' H2 e2 T2' w2 h3 => ?_
  obtain ⟨y, ey, h4⟩ := onDa_some h3
  obtain ⟨G2, T2, a2, _, _⟩ := w2.absorb T1.st T2' ey
  have T := T1.trans T2
  split at h4
  · rename_i kvs e
    obtain ⟨o, eo, q⟩ := T2.st.sl i _ e
    obtain ⟨p, kv, e1, gp, hb, hp, hk, hv⟩ := q
    subst e1
    refine ⟨_, eo, ?_⟩
    have sc : Same G2 (upd G2 p (.dK kv)) := same_upd gp
    refine ⟨upd G2 p (.dK kv), _, _, fun b o e => ?_, .cons ((a1.mono T2.gg).mono sc) (.cons (a2.mono sc) (.cons (.dic upd_same hk (hv.mono sc)) .nil)), h4, fun v d H' G' hP hh gg gh gf av => ?_⟩
    · by_cases hb : b = p
      · subst hb
        rw [upd_same] at e
        rw [hp, e]
      · rw [upd_ne hb] at e
        exact T2.st.gh b o e
    · obtain ⟨ns, rfl, hP⟩ := hP
      have gpd : G' p = some (.dK kv) := gg _ _ upd_same
      have Tc : Stp K c G2 σ H2 e2 (offP G' p) H' e2 := by
        refine Stp.ext T2.st (fun b o e => ?_) (fun b o e => ?_) (fun b e1 e2 => ?_) hh
        · rw [offP_ne (ne_of_none e gp)]
          exact gg b o (sc b o e)
        · by_cases hb : b = p
          · rw [hb, offP_at] at e
            cases e
          · rw [offP_ne hb] at e
            exact gh b o e
        · by_cases hb : b = p
          · rw [hb]
            exact offP_at
          · rw [offP_ne hb]
            exact gf b (by rw [upd_ne hb]; exact e2) e1
      cases av with
      | @lst q vs ds hg ha =>
        have hq : q ≠ p := ne_of hg gpd (fun z => nomatch z)
        have ev := ha.ints
        subst ev
        exact post _ _ _ H' e2 (T.trans Tc) (.da (.lst (by rw [offP_ne hq]; exact hg) (Ats.ofInts ns))) hP
  · exact False.elim h4
end
end RK
-- D8
set_option Elab.async false
set_option linter.all false
set_option maxRecDepth 100000
set_option maxHeartbeats 4000000
/-! D8: special methods, repr, isinstance, joins of lists and tuples, == of lists -/
namespace RK
open PySem PySem.Spec PyProof.Rows L2 ClX

section
variable {K : PySem.W.Frag}
def kInv (C : Addr) (R : RR) : KU := fun r env P => onObj C r fun ns es => R [.obj C ns es] fun d => P (.da d) env
theorem ru_inv {C : Addr} {R : RR} : RU K (rInv C (spD K R)) (kInv C R) := by
  intro c Hs G σ H env x r1 P Q S w h post
  obtain ⟨ns, es, rfl, h1⟩ := onObj_some h
  obtain ⟨p, dx, fs, rfl, hp, hk, hv, ao⟩ := obj_at (c := c) w
  refine ⟨p, dx, fs, rfl, S.gh _ _ hp, G, _, _, S.gh, .cons ao .nil, h1, fun v d H' G' hP hh gg gh gf av => ?_⟩
  obtain ⟨T2, w2⟩ := post_call S hh gg gh gf av
  exact post v _ G' H' env T2 w2 hP
def kNeg : KU := fun r env P => onInt r fun i => P (.da (.int (-i))) env
theorem ru_neg : RU K (rU fun i => .int (-i)) kNeg := by
  intro c Hs G σ H env x r1 P Q S w h post
  obtain ⟨i, rfl, h1⟩ := onInt_some h
  cases w.int
  exact ⟨i, rfl, post _ _ G H env (Stp.refl S) (.da (.int _)) h1⟩
def kLenO (C : Addr) (R : RR) : KC := fun rs0 env0 P0 => k1 (fun r env P => onObj C r fun ns es => R [.obj C ns es] fun d => ∃ n : Int, d = .int n ∧ 0 ≤ n ∧ n < 2 ^ 63 ∧ P (.da (.int n)) env) rs0 env0 P0
theorem rc_lenO {C : Addr} {R : RR} : RC K (rLenO C (spD K R)) (kLenO C R) := by
  intro c Hs G σ H env xs rs P Q S w h post
  obtain ⟨r, rfl, h0⟩ := k1_some h
  obtain ⟨v0, rfl, w0⟩ := w.one
  obtain ⟨ns, es, rfl, h1⟩ := onObj_some h0
  obtain ⟨p, dx, fs, rfl, hp, hk, hv, ao⟩ := obj_at (c := c) w0
  refine ⟨p, dx, fs, rfl, S.gh _ _ hp, G, _, _, S.gh, .cons ao .nil, h1, fun v d H' G' hP hh gg gh gf av => ?_⟩
  obtain ⟨n, rfl, h2, h3, hP⟩ := hP
  cases av
  obtain ⟨T2, w2⟩ := post_call S hh gg gh gf (.int n)
  exact ⟨n, rfl, h2, h3, post _ _ G' H' env T2 w2 hP⟩
def kReprO (C : Addr) (R : RR) : KC := fun rs0 env0 P0 => k1 (fun r env P => onObj C r fun ns es => R [.obj C ns es] fun d => ∃ z : Str, d = .str z ∧ P (.da (.str z)) env) rs0 env0 P0
theorem rc_reprO {C : Addr} {R : RR} : RC K (rReprO C (spD K R)) (kReprO C R) := by
  intro c Hs G σ H env xs rs P Q S w h post
  obtain ⟨r, rfl, h0⟩ := k1_some h
  obtain ⟨v0, rfl, w0⟩ := w.one
  obtain ⟨ns, es, rfl, h1⟩ := onObj_some h0
  obtain ⟨p, dx, fs, rfl, hp, hk, hv, ao⟩ := obj_at (c := c) w0
  refine ⟨p, dx, fs, rfl, S.gh _ _ hp, G, _, _, S.gh, .cons ao .nil, h1, fun v d H' G' hP hh gg gh gf av => ?_⟩
  obtain ⟨z, rfl, hP⟩ := hP
  cases av
  obtain ⟨T2, w2⟩ := post_call S hh gg gh gf (.str z)
  exact ⟨z, rfl, post _ _ G' H' env T2 w2 hP⟩
def dFmtO (C : Addr) (R : RR) (de : DT) : DT := fun env P => de env fun r e1 => onObj C r fun ns es => R [.obj C ns es] fun d => ∃ z : Str, d = .str z ∧ z.length ≤ sizeLine ∧ P (.da (.str z)) e1
theorem re_fmtO {C : Addr} {R : RR} {te : TE} {de : DT} (a : RE K te de) : RE K (tFmtO C (spD K R) te) (dFmtO C R de) := by
  intro c G σ H env P Q S h post
  refine a c G σ H env _ _ S h fun v1 r1 G1 H1 e1 T1 w1 h1 => ?_
  obtain ⟨ns, es, rfl, h2⟩ := onObj_some h1
  obtain ⟨p, dx, fs, rfl, hp, hk, hv, ao⟩ := obj_at (c := c) w1
  refine ⟨p, dx, fs, rfl, T1.st.gh _ _ hp, G1, _, _, T1.st.gh, .cons ao .nil, h2, fun v d H' G' hP hh gg gh gf av => ?_⟩
  obtain ⟨z, rfl, hz, hP⟩ := hP
  cases av
  obtain ⟨T2, w2⟩ := post_call T1.st hh gg gh gf (.str z)
  exact ⟨z, rfl, hz, post _ _ G' H' e1 (T1.trans T2) (w2.start T1.al) hP⟩
/-- {x!r}, x a text or an int -/
def dFmtR (de : DT) : DT := fun env P => de env fun r e1 => onStr r fun y => (reprText y).length ≤ sizeLine ∧ P (.da (.str (reprText y))) e1
theorem re_fmtR {te : TE} {de : DT} (a : RE K te de) : RE K (tFmtR te) (dFmtR de) := by
  intro c G σ H env P Q S h post
  refine a c G σ H env _ _ S h fun v1 r1 G1 H1 e1 T1 w1 h1 => ?_
  obtain ⟨z, rfl, hl, h2⟩ := onStr_some h1
  cases w1.str
  exact .inl ⟨z, rfl, hl, post _ _ G1 H1 e1 T1 (.da (.str _)) h2⟩
/-! data as the library's -/
end
mutual
def toP : Da → PyData
  | .non => .none
  | .bl b => .bool b
  | .int i => .int i
  | .str s => .str s
  | .lst xs => .list (toPs xs)
  | .tup xs => .tuple (toPs xs)
  | .dic _ => .none
  | .obj _ _ _ => .none
  | .scr _ => .none
  | .ty _ => .none
  | .cls _ => .none
def toPs : List Da → List PyData
  | [] => []
  | x :: xs => toP x :: toPs xs
end
mutual
/-- ints, bools, texts, none, lists and tuples of them -/
def plainD : Da → Bool
  | .non => true
  | .bl _ => true
  | .int _ => true
  | .str _ => true
  | .lst xs => plainDs xs
  | .tup xs => plainDs xs
  | .dic _ => false
  | .obj _ _ _ => false
  | .scr _ => false
  | .ty _ => false
  | .cls _ => false
def plainDs : List Da → Bool
  | [] => true
  | x :: xs => plainD x && plainDs xs
end
section
variable {K : PySem.W.Frag} {G H : Hp}
mutual
theorem dp_at (s : Same G H) : ∀ {v : V} {d : Da}, At K G v d → plainD d = true → Dp K H v (toP d)
  | _, _, .non, _ => .non
  | _, _, .bl b, _ => .bl b
  | _, _, .int b, _ => .int b
  | _, _, .str b, _ => .str b
  | _, _, .lst h t, e => .lst (.inl (.inl (s _ _ h))) (dp_ats s t (by unfold plainD at e; exact e))
  | _, _, .tup h t, e => .tup (.inl (.inl (s _ _ h))) (dp_ats s t (by unfold plainD at e; exact e))
  | _, _, .dic _ _ _, e => by unfold plainD at e; cases e
  | _, _, .obj _ _ _, e => by unfold plainD at e; cases e
  | _, _, .scr _, e => by unfold plainD at e; cases e
  | _, _, .ty _, e => by unfold plainD at e; cases e
  | _, _, .cls _, e => by unfold plainD at e; cases e
theorem dp_ats (s : Same G H) : ∀ {v : List V} {d : List Da}, Ats K G v d → plainDs d = true → DpAll K H v (toPs d)
  | _, _, .nil, _ => .nil
  | _, _, .cons h t, e => by
    unfold plainDs at e
    rw [Bool.and_eq_true] at e
    exact .cons (dp_at s h e.1) (dp_ats s t e.2)
end
end
theorem toPs_ints : ∀ ns : List Int, toPs (iD ns) = ns.map PyData.int
  | [] => rfl
  | n :: ns => by
    show toP (.int n) :: toPs (iD ns) = _
    rw [toPs_ints ns]
    rfl
theorem plain_ints : ∀ ns : List Int, plainDs (iD ns) = true
  | [] => rfl
  | n :: ns => by
    show (plainD (.int n) && plainDs (iD ns)) = true
    rw [plain_ints ns]
    rfl
/-- rows of ints -/
abbrev lD (rows : List (List Int)) : List Da := rows.map fun r => Da.lst (iD r)
theorem toPs_rows : ∀ rs : List (List Int), toPs (lD rs) = rs.map fun r => PyData.list (r.map PyData.int)
  | [] => rfl
  | n :: ns => by
    show PyData.list (toPs (iD n)) :: toPs (lD ns) = _
    rw [toPs_rows ns, toPs_ints]
    rfl
theorem plain_rows : ∀ ns : List (List Int), plainDs (lD ns) = true
  | [] => rfl
  | n :: ns => by
    show (plainDs (iD n) && plainDs (lD ns)) = true
    rw [plain_rows ns, plain_ints]
    rfl
/-- what repr asks -/
def RpOk (d : PyData) : Prop := d.showable = true ∧ d.hasDict = false ∧ d.depth ≤ 8 ∧ d.shown.length ≤ sizeLine
section
variable {K : PySem.W.Frag}
/-- a value, seen as data: also an owned list -/
def vD (env : En) (r : RV) : Option Da := match r with
  | .sl i => match env[i]? with
    | some (.l xs) => some (.lst xs)
    | _ => none
  | r => toDa r
theorem vD_dp {c : Ctx} {Hs G H : Hp} {σ : L2.St} {env : En} {v : V} {r : RV} {d : Da} (S : Stt K c G σ H env) (w : AtR K Hs G σ H env v r) (e : vD env r = some d) (hp : plainD d = true) : Dp K H v (toP d) := by
  cases w with
  | da a =>
    cases e
    exact dp_at S.gh a hp
  | @sl p i w =>
    obtain ⟨s, e1, ho, es⟩ := w
    simp only [vD, e1] at e
    cases s with
    | l ys =>
      cases e
      obtain ⟨o, eo, q⟩ := S.sl i _ e1
      obtain ⟨p2, vs, e2, _, _, e3, e4⟩ := q
      rw [es] at eo
      cases eo
      cases e2
      unfold plainD at hp
      unfold toP
      exact .lst (.inl (.inl e3)) (dp_ats S.gh e4 hp)
    | _ => cases e
  | fl a b d e' f =>
    cases e
    unfold plainD at hp
    unfold toP
    exact .lst (.inl (.inl d)) (dp_ats S.gh e' hp)
  | fm a b d k e' f =>
    cases e
    unfold plainD at hp
    cases hp
/-- repr of a list or a tuple of data -/
def kReprD : KC := fun rs0 env0 P0 => k1 (fun r env P => onO (vD env r) fun d => (∃ xs, d = .lst xs ∨ d = .tup xs) ∧ plainD d = true ∧ RpOk (toP d) ∧ P (.da (.str (toP d).shown)) env) rs0 env0 P0
theorem rc_reprD : RC K (rReprD K) kReprD := by
  intro c Hs G σ H env xs rs P Q S w h post
  obtain ⟨r, rfl, h0⟩ := k1_some h
  obtain ⟨v, rfl, w0⟩ := w.one
  obtain ⟨d, e, ⟨xs, hx⟩, hp, ⟨h1, h2, h3, h4⟩, h5⟩ := onO_some h0
  have hd := vD_dp S w0 e hp
  have hv : ∃ a, v = .ref a := by
    rcases hx with rfl | rfl
    · unfold toP at hd
      cases hd
      exact ⟨_, rfl⟩
    · unfold toP at hd
      cases hd
      exact ⟨_, rfl⟩
  obtain ⟨a, rfl⟩ := hv
  exact ⟨a, _, rfl, hd, h1, h2, h3, h4, post _ _ G H env (Stp.refl S) (.da (.str _)) h5⟩
def kReprB : KC := fun rs0 env0 P0 => k1 (fun r env P => onBl r fun b => P (.da (.str (if b then "True" else "False"))) env) rs0 env0 P0
theorem rc_reprB : RC K (fun xs H Q => ∃ b, xs = [.bl b] ∧ Q (.str (if b then "True" else "False")) H) kReprB := by
  intro c Hs G σ H env xs rs P Q S w h post
  obtain ⟨r, rfl, h0⟩ := k1_some h
  obtain ⟨v, rfl, w0⟩ := w.one
  obtain ⟨b, rfl, h1⟩ := onBl_some h0
  cases w0.bl
  exact ⟨b, rfl, post _ _ G H env (Stp.refl S) (.da (.str _)) h1⟩
def dFmtD (de : DT) : DT := fun env P => de env fun r e1 => onO (vD e1 r) fun d => (∃ xs, d = .lst xs) ∧ plainD d = true ∧ RpOk (toP d) ∧ P (.da (.str (toP d).shown)) e1
theorem re_fmtD {te : TE} {de : DT} (a : RE K te de) : RE K (tFmtD K te) (dFmtD de) := by
  intro c G σ H env P Q S h post
  refine a c G σ H env _ _ S h fun v r1 G1 H1 e1 T1 w1 h0 => ?_
  obtain ⟨d, e, ⟨xs, rfl⟩, hp, ⟨h1, h2, h3, h4⟩, h5⟩ := onO_some h0
  have hd := vD_dp T1.st w1 e hp
  have hv : ∃ a, v = .ref a := by
    unfold toP at hd
    cases hd
    exact ⟨_, rfl⟩
  obtain ⟨a, rfl⟩ := hv
  exact ⟨a, _, rfl, hd, h1, h2, h3, h4, post _ _ G1 H1 e1 T1 (.da (.str _)) h5⟩
/-- == and != of lists as data -/
def kEqD (neg : Bool) : KO := fun r1 r2 env P => onO (vD env r1) fun d => onO (vD env r2) fun e => plainD d = true ∧ plainD e = true ∧ SeqAt.shaped (toP d) = true ∧ SeqAt.shaped (toP e) = true ∧ P (.da (.bl (if neg then !PyData.eqv (toP d) (toP e) else PyData.eqv (toP d) (toP e)))) env
theorem ro_eqD : RO K (rEqD K) (kEqD false) := by
  intro c Hs G σ H env x y r1 r2 P Q S w1 w2 h post
  obtain ⟨d, ed, h1⟩ := onO_some h
  obtain ⟨e, ee, h2, h3, h4, h5, h6⟩ := onO_some h1
  exact ⟨_, _, vD_dp S w1 ed h2, vD_dp S w2 ee h3, h4, h5, post _ _ G H env (Stp.refl S) (.da (.bl _)) h6⟩
theorem ro_neD : RO K (rNeD K) (kEqD true) := by
  intro c Hs G σ H env x y r1 r2 P Q S w1 w2 h post
  obtain ⟨d, ed, h1⟩ := onO_some h
  obtain ⟨e, ee, h2, h3, h4, h5, h6⟩ := onO_some h1
  exact ⟨_, _, vD_dp S w1 ed h2, vD_dp S w2 ee h3, h4, h5, post _ _ G H env (Stp.refl S) (.da (.bl _)) h6⟩
theorem eqv_iD (xs ys : List Int) : PyData.eqv (toP (.lst (iD xs))) (toP (.lst (iD ys))) = decide (xs = ys) := by
  unfold toP
  rw [toPs_ints, toPs_ints]
  exact eqv_intsAll xs ys
theorem eqv_lD (xs ys : List (List Int)) : PyData.eqv (toP (.lst (lD xs))) (toP (.lst (lD ys))) = decide (xs = ys) := by
  unfold toP
  rw [toPs_rows, toPs_rows]
  exact eqv_ints2 xs ys
theorem canLay_ints : ∀ ns : List Int, PyData.canLayAll0 (ns.map PyData.int) = true
  | [] => rfl
  | n :: ns => by
    show (PyData.canLay0 (.int n) && PyData.canLayAll0 (ns.map PyData.int)) = true
    rw [canLay_ints ns]
    rfl
theorem canLay_rows : ∀ ns : List (List Int), PyData.canLayAll0 (ns.map fun r => PyData.list (r.map PyData.int)) = true
  | [] => rfl
  | n :: ns => by
    show (PyData.canLayAll0 (n.map PyData.int) && PyData.canLayAll0 (ns.map fun r => PyData.list (r.map PyData.int))) = true
    rw [canLay_rows ns, canLay_ints]
    rfl
theorem depth_ints : ∀ ns : List Int, PyData.depthAll (ns.map PyData.int) = 0
  | [] => rfl
  | n :: ns => by
    show max (PyData.depth (.int n)) (PyData.depthAll (ns.map PyData.int)) = 0
    rw [depth_ints ns]
    rfl
theorem depth_rows : ∀ ns : List (List Int), PyData.depthAll (ns.map fun r => PyData.list (r.map PyData.int)) ≤ 1
  | [] => by decide
  | n :: ns => by
    show max (PyData.depthAll (n.map PyData.int) + 1) (PyData.depthAll (ns.map fun r => PyData.list (r.map PyData.int))) ≤ 1
    have := depth_rows ns
    rw [depth_ints n]
    omega
theorem shaped_iD (xs : List Int) : SeqAt.shaped (toP (.lst (iD xs))) = true := by
  unfold toP SeqAt.shaped
  rw [toPs_ints, Bool.and_eq_true]
  refine ⟨canLay_ints xs, decide_eq_true ?_⟩
  show PyData.depthAll (xs.map PyData.int) + 1 ≤ 64
  rw [depth_ints]
  decide
theorem shaped_lD (xs : List (List Int)) : SeqAt.shaped (toP (.lst (lD xs))) = true := by
  unfold toP SeqAt.shaped
  rw [toPs_rows, Bool.and_eq_true]
  refine ⟨canLay_rows xs, decide_eq_true ?_⟩
  show PyData.depthAll (xs.map fun r => PyData.list (r.map PyData.int)) + 1 ≤ 64
  have := depth_rows xs
  omega
/-! list + list, tuple + tuple -/
def kCat : KO := fun r1 r2 env P => onL env r1 fun xs => onL env r2 fun ys => xs.length + ys.length ≤ sizeLine ∧ P (.fl (xs ++ ys)) env
theorem ro_cat : RO K rCat kCat := by
  intro c Hs G σ H env x y r1 r2 P Q S w1 w2 h post
  obtain ⟨xs, e1, h1⟩ := onL_some h
  obtain ⟨ys, e2, hl, h2⟩ := onL_some h1
  obtain ⟨p, vs, rfl, hp, a⟩ := vL_at S w1 e1
  obtain ⟨q, us, rfl, hq, b⟩ := vL_at S w2 e2
  exact ⟨p, q, vs, us, rfl, rfl, hp, hq, by rw [a.length, b.length]; exact hl, fun l hl' => fin_fl S (a.append b) post h2 hl'⟩
def kCatT : KO := fun r1 r2 env P => onT r1 fun xs => onT r2 fun ys => xs.length + ys.length ≤ sizeLine ∧ P (.da (.tup (xs ++ ys))) env
theorem ro_catT : RO K (rCatA K) kCatT := by
  intro c Hs G σ H env x y r1 r2 P Q S w1 w2 h post
  obtain ⟨xs, rfl, h1⟩ := onT_some h
  obtain ⟨ys, rfl, hl, h2⟩ := onT_some h1
  have w1' := w1
  have w2' := w2
  cases w1' with
  | da a1 =>
    cases w2' with
    | da a2 =>
      have b1 := a1
      have b2 := a2
      cases b1 with
      | tup g1 t1 =>
        cases b2 with
        | tup g2 t2 =>
          refine ⟨_, _, _, _, rfl, rfl, .inl (.inl (S.gh _ _ g1)), .inl (.inl (S.gh _ _ g2)), by rw [t1.length, t2.length]; exact hl, fun e => ?_, fun _ e => ?_, fun _ _ q hq => fin_tup S (t1.append t2) post h2 hq⟩
          · subst e
            cases t1
            exact post _ _ G H env (Stp.refl S) (.da a2) h2
          · subst e
            cases t2
            rw [List.append_nil] at h2
            exact post _ _ G H env (Stp.refl S) (.da a1) h2
/-! isinstance -/
structure OT (K : PySem.W.Frag) (C : Addr) : Prop where
  cl : Cls K C
  ha : PySem.W.findIn K (.ref C) "__class__" = some (some (.builtin "object.__class__"))
  hn : PySem.W.specialIn K (.builtin "object.__class__") "__get__" = some (some (.builtin "getset_descriptor.__get__"))
  htk : PySem.W.takesIn K (.builtin "object.__class__") = some true
  hm : PySem.W.mroIn K C (.type "object") = some true
inductive TyDa (K : PySem.W.Frag) : Da → Value → Prop where
  | non : TyDa K .non (.type "NoneType")
  | bl (b : Bool) : TyDa K (.bl b) (.type "bool")
  | int (b : Int) : TyDa K (.int b) (.type "int")
  | str (b : Str) : TyDa K (.str b) (.type "str")
  | lst (xs : List Da) : TyDa K (.lst xs) (.type "list")
  | tup (xs : List Da) : TyDa K (.tup xs) (.type "tuple")
  | obj {C : Addr} (ns : List Str) (es : List Da) : OT K C → TyDa K (.obj C ns es) (.ref C)
theorem tyx_at {G H : Hp} {v : V} {d : Da} {t : Value} (s : Same G H) (a : At K G v d) (h : TyDa K d t) : TyX K H v t := by
  cases h with
  | non => cases a; exact .base .non
  | bl b => cases a; exact .base (.bl _)
  | int b => cases a; exact .base (.int _)
  | str b => cases a; exact .base (.str _)
  | lst xs => cases a with | lst g t => exact .base (.lst (s _ _ g))
  | tup xs => cases a with | tup g t => exact .base (.tup (s _ _ g))
  | obj ns es o => cases a with | obj g k t => exact .base (.ins (s _ _ g) o.cl o.ha o.hn o.htk o.hm)
/-- what isinstance(.., u) answers, by data -/
def IsiOk (K : PySem.W.Frag) (u : Value) (f : Da → Option Bool) : Prop := ∀ d b, f d = some b → ∃ t, TyDa K d t ∧ PySem.W.kitOne K t u = some b
def IsisOk (K : PySem.W.Frag) (us : List Value) (f : Da → Option Bool) : Prop := ∀ d b, f d = some b → ∃ t, TyDa K d t ∧ PySem.W.kitAny K t us = some b
def clV : Value → Option Da
  | .type n => some (.ty n)
  | .ref C => some (.cls C)
  | _ => none
def kIsi (u : Value) (f : Da → Option Bool) : KC := fun rs0 env0 P0 => k2 (fun r r' env P => onDa r fun d => clV u = toDa r' ∧ onO (f d) fun b => P (.da (.bl b)) env) rs0 env0 P0
theorem cls_at {Hs G H : Hp} {σ : L2.St} {env : En} {v : V} {r : RV} {u : Value} (w : AtR K Hs G σ H env v r) (e : clV u = toDa r) (hn : (toDa r).isSome = true) : ClsV v u := by
  cases w with
  | da a =>
    cases a with
    | ty n =>
      cases u <;> cases e
      exact .ty n
    | cls C =>
      cases u <;> cases e
      exact .own C
    | _ => cases u <;> cases e
  | sl w => cases hn
  | fl a b d e' f => cases u <;> cases e
  | fm a b d k e' f => cases u <;> cases e
theorem rc_isi {u : Value} {f : Da → Option Bool} (hf : IsiOk K u f) (hu : (clV u).isSome = true) : RC K (rIsi K) (kIsi u f) := by
  intro c Hs G σ H env xs rs P Q S w h post
  obtain ⟨r, r', rfl, h0⟩ := k2_some h
  obtain ⟨v, v', rfl, w1, w2⟩ := w.two
  obtain ⟨d, ed, eu, h1⟩ := onDa_some h0
  obtain ⟨b, eb, h2⟩ := onO_some h1
  obtain ⟨t, ht, hk⟩ := hf d b eb
  have hty : TyX K H v t := by
    cases w1 with
    | da a => cases ed; exact tyx_at S.gh a ht
    | sl w => cases ed
    | fl a b d0 e' f =>
      cases ed
      cases ht
      exact .base (.lst d0)
    | fm a b d0 k e' f =>
      cases ed
      cases ht
  exact ⟨v, v', t, u, b, rfl, cls_at w2 eu (by rw [← eu]; exact hu), hty, hk, post _ _ G H env (Stp.refl S) (.da (.bl _)) h2⟩
/-- isinstance(x, (T, T2)) -/
def kIsiT (us : List Value) (cs : List Da) (f : Da → Option Bool) : KC := fun rs0 env0 P0 => k2 (fun r r' env P => onDa r fun d => r' = .da (.tup cs) ∧ onO (f d) fun b => P (.da (.bl b)) env) rs0 env0 P0
theorem rc_isiT {us : List Value} {cs : List Da} {f : Da → Option Bool} (hf : IsisOk K us f) (hc : us.map clV = cs.map some) : RC K (rIsiT K) (kIsiT us cs f) := by
  intro c Hs G σ H env xs rs P Q S w h post
  obtain ⟨r, r', rfl, h0⟩ := k2_some h
  obtain ⟨v, v', rfl, w1, w2⟩ := w.two
  obtain ⟨d, ed, rfl, h1⟩ := onDa_some h0
  obtain ⟨b, eb, h2⟩ := onO_some h1
  obtain ⟨t, ht, hk⟩ := hf d b eb
  have hty : TyX K H v t := by
    cases w1 with
    | da a => cases ed; exact tyx_at S.gh a ht
    | sl w => cases ed
    | fl a b d0 e' f =>
      cases ed
      cases ht
      exact .base (.lst d0)
    | fm a b d0 k e' f =>
      cases ed
      cases ht
  cases w2 with
  | da a2 =>
    cases a2 with
    | @tup tp vs ds g av =>
      have hcs : ∀ {vs : List V} {cs : List Da} {us : List Value}, Ats K G vs cs → us.map clV = cs.map some → Paired ClsV vs us := by
        intro vs cs us av
        induction vs generalizing cs us with
        | nil =>
          cases av
          intro e
          cases us with
          | nil => exact .nil
          | cons u us => cases e
        | cons v vs ih =>
          cases av with
          | cons h t =>
            intro e
            cases us with
            | nil => cases e
            | cons u us =>
              rw [List.map_cons, List.map_cons, List.cons.injEq] at e
              exact .cons (cls_at (Hs := G) (σ := []) (H := G) (env := []) (.da h) e.1 rfl) (ih t e.2)
      exact ⟨v, tp, vs, t, us, b, rfl, S.gh _ _ g, hcs av hc, hty, hk, post _ _ G H env (Stp.refl S) (.da (.bl _)) h2⟩
/-! own == and != -/
def kEqO (C : Addr) (R : RR) (f : Da → Bool) (neg : Bool) : KO := fun r1 r2 env P => onObj C r1 fun ns es => match r2 with
  | .da e => f e = true ∧ R [.obj C ns es, e] fun d => ∃ b, d = .bl b ∧ P (.da (.bl (if neg then !b else b))) env
  | _ => False
def NfOk (K : PySem.W.Frag) (C : Addr) (f : Da → Bool) : Prop := ∀ d, f d = true → ∃ t, TyDa K d t ∧ PySem.W.notFirst K C t = true
theorem ro_eqO {C : Addr} {R : RR} {f : Da → Bool} (hf : NfOk K C f) : RO K (rEqO K C (spD K R)) (kEqO C R f false) := by
  intro c Hs G σ H env x y r1 r2 P Q S w1 w2 h post
  obtain ⟨ns, es, rfl, h1⟩ := onObj_some h
  obtain ⟨p, dx, fs, rfl, hp, hk, hv, ao⟩ := obj_at (c := c) w1
  split at h1
  · rename_i e
    obtain ⟨fe, h2⟩ := h1
    obtain ⟨t, ht, hn⟩ := hf e fe
    cases w2 with
    | da a2 =>
      refine ⟨p, dx, fs, t, rfl, S.gh _ _ hp, tyx_at S.gh a2 ht, hn, G, _, _, S.gh, .cons ao (.cons a2 .nil), h2, fun v d H' G' hP hh gg gh gf av => ?_⟩
      obtain ⟨b, rfl, hP⟩ := hP
      cases av
      obtain ⟨T2, w2⟩ := post_call S hh gg gh gf (.bl b)
      exact ⟨b, rfl, post _ _ G' H' env T2 w2 hP⟩
  · exact False.elim h1
theorem ro_neO {C : Addr} {R : RR} {f : Da → Bool} (hf : NfOk K C f) : RO K (rNeO K C (spD K R)) (kEqO C R f true) := by
  intro c Hs G σ H env x y r1 r2 P Q S w1 w2 h post
  obtain ⟨ns, es, rfl, h1⟩ := onObj_some h
  obtain ⟨p, dx, fs, rfl, hp, hk, hv, ao⟩ := obj_at (c := c) w1
  split at h1
  · rename_i e
    obtain ⟨fe, h2⟩ := h1
    obtain ⟨t, ht, hn⟩ := hf e fe
    cases w2 with
    | da a2 =>
      refine ⟨p, dx, fs, t, rfl, S.gh _ _ hp, tyx_at S.gh a2 ht, hn, G, _, _, S.gh, .cons ao (.cons a2 .nil), h2, fun v d H' G' hP hh gg gh gf av => ?_⟩
      obtain ⟨b, rfl, hP⟩ := hP
      cases av
      obtain ⟨T2, w2⟩ := post_call S hh gg gh gf (.bl (!b))
      exact ⟨b, rfl, post _ _ G' H' env T2 w2 hP⟩
  · exact False.elim h1
/-! class constants, f-strings -/
def dCval (C : Addr) (x : Da) (de : DT) : DT := fun env P => de env fun r e1 => r = .da (.cls C) ∧ P (.da x) e1
theorem re_cval {C : Addr} {mc : Value} {f : Str} {v : V} {u : Value} {x : Da} {te : TE} {de : DT} (hr : CRead K C mc) (hv : CVal K C mc f v u) (hx : ∀ G, At K G v x) (a : RE K te de) : RE K (tCVal K te f) (dCval C x de) := by
  intro c G σ H env P Q S h post
  refine a c G σ H env _ _ S h fun v1 r1 G1 H1 e1 T1 w1 h1 => ?_
  obtain ⟨rfl, h2⟩ := h1
  cases w1 with
  | da a1 =>
    cases a1
    exact ⟨C, mc, v, u, rfl, hr, hv, post _ _ G1 H1 e1 T1 (.da (hx _)) h2⟩
def dCon (C : Addr) (f : Str) (x : Da) (de : DT) : DT := fun env P => de env fun r e1 => onObj C r fun ns es => f ∉ ns ∧ P (.da x) e1
theorem re_con {C : Addr} {f : Str} {v : V} {u : Value} {x : Da} {te : TE} {de : DT} (hc : Cls K C) (hv : Con K C f v u) (hx : ∀ G, At K G v x) (a : RE K te de) : RE K (tCon K te f) (dCon C f x de) := by
  intro c G σ H env P Q S h post
  refine a c G σ H env _ _ S h fun v1 r1 G1 H1 e1 T1 w1 h1 => ?_
  obtain ⟨ns, es, rfl, hm, h2⟩ := onObj_some h1
  obtain ⟨p, dx, fs, rfl, hp, hk, hv2, ao⟩ := obj_at (c := c) w1
  subst hk
  exact ⟨p, C, dx, fs, v, u, rfl, T1.st.gh _ _ hp, hc, hv, lookup_none hm, post _ _ G1 H1 e1 T1 (.da (hx _)) h2⟩
def dJs : List DT → Str → En → (Str → En → Prop) → Prop
  | [], acc, env, P => P acc env
  | d :: ds, acc, env, P => d env fun r e1 => onStr r fun y => (acc ++ y).length ≤ sizeLine ∧ dJs ds (acc ++ y) e1 P
abbrev RJ (K : PySem.W.Frag) : List TE → List DT → Prop := Paired (RE K)
theorem rj_run : ∀ {ts : List TE} {ds : List DT}, RJ K ts ds → ∀ (acc : Str) (c : Ctx) (G : Hp) (σ : L2.St) (H : Hp) (env : En) (P : Str → En → Prop) (Q : Str → Hp → Prop), Stt K c G σ H env → dJs ds acc env P →
    (∀ z G' H' env', Stp K c G σ H env G' H' env' → P z env' → Q z H') → tJs ts acc σ H Q
  | _, _, .nil, acc, c, G, σ, H, env, P, Q, S, h, post => post acc G H env (Stp.refl S) h
  | _, _, .cons a t, acc, c, G, σ, H, env, P, Q, S, h, post => by
    refine a c G σ H env _ _ S h fun v1 r1 G1 H1 e1 T1 w1 h1 => ?_
    obtain ⟨y, rfl, hl, h2⟩ := onStr_some h1
    exact ⟨y, w1.str, hl, rj_run t _ c G1 σ H1 e1 P Q T1.st h2 fun z G2 H2 e2 T2 h3 => post z G2 H2 e2 (T1.trans T2) h3⟩
def dJoined (ds : List DT) : DT := fun env P => dJs ds Str.empty env fun z e1 => P (.da (.str z)) e1
theorem re_joined {ts : List TE} {ds : List DT} (a : RJ K ts ds) : RE K (fun σ H Q => tJs ts Str.empty σ H fun out H1 => Q (.str out) H1) (dJoined ds) := by
  intro c G σ H env P Q S h post
  exact rj_run a _ c G σ H env _ _ S h fun z G1 H1 e1 T1 h1 => post _ _ G1 H1 e1 T1 (.da (.str _)) h1
end
end RK
-- G3
set_option Elab.async false
set_option linter.all false
set_option maxRecDepth 100000
set_option maxHeartbeats 4000000
/-! G3: walks over a list or a tuple; list(zip(..)); text * int; sum of lists; sorted(set(ints)); sorted tuples -/
namespace RK
open PySem PySem.Spec PyProof.Rows L2
section
variable {X : Cx}
/-- a list or a tuple, walked -/
def iSeq (K : PySem.W.Frag) (te : TE) : TI := fun σ H R => te σ H fun x H1 => ∃ a, x = .ref a ∧ (((∃ xs, SqL K H1 a xs) ∧ R (Itl K a) H1) ∨ ((∃ xs, SqT K H1 a xs) ∧ R (Itt K a) H1))
theorem pi_seq {tg l : Expr} {tl : TE} (hl : PE X l tl) : PI X tg l (iSeq X.K tl) := by
  refine ⟨fun pins s σ H R I h => ?_⟩
  refine thn (hl.run pins s σ H _ I h) fun v s1 ⟨x, H1, I1, r1, q1⟩ => ?_
  obtain ⟨a, e, q2⟩ := q1
  subst e
  cases r1
  rcases q2 with ⟨⟨xs, hq⟩, q⟩ | ⟨⟨xs, hq⟩, q⟩
  · obtain ⟨its, rv, p, hz⟩ := I1.list hq
    refine wpAny_pyIter_list p.isList ?_
    refine ⟨s1.heap.objs.size, [s1.heap.objs.size], _, _, H1, rfl, I1.kept (t' := s1.toks) fun b o e => Heap.get?_push_of_some _ e, turn_list a _, ⟨_, Heap.get?_push_size _ rfl, rfl, rfl⟩, fun b hb => ?_, q⟩
    have e : b = s1.heap.objs.size := by simpa using hb
    subst e
    exact I1.fpOk (Nat.le_refl _) (I1.hok.fresh (Nat.le_refl _))
  · obtain ⟨its, rv, p, hz⟩ := I1.tuple hq
    refine wpAny_pyIter_tuple (show s1.heap.IsTuple a its.toArray from p) ?_
    refine ⟨s1.heap.objs.size, [s1.heap.objs.size], _, _, H1, rfl, I1.kept (t' := s1.toks) fun b o e => Heap.get?_push_of_some _ e, turn_tuple a _, ⟨_, Heap.get?_push_size _ rfl, rfl, rfl⟩, fun b hb => ?_, q⟩
    have e : b = s1.heap.objs.size := by simpa using hb
    subst e
    exact I1.fpOk (Nat.le_refl _) (I1.hok.fresh (Nat.le_refl _))
end
def iEnumS (K : PySem.W.Frag) (ta : TA) : TI := fun σ H R => ta σ H fun vs H1 => ∃ (l : Addr) (ys : List V), vs = [.ref l] ∧ ((SqL K H1 l ys ∧ R (Ite K l) H1) ∨ (SqT K H1 l ys ∧ R (Itp ys.length (fun H => SqT K H l ys) (fun i => .int (i : Int)) (fun i => ys.getD i .non)) H1))
theorem pi_enumS {X : Cx} {e : Expr} {ta : TA} {p pos tpos : Pos} {elts : List Expr} {kk : Nat} (hg : Gl X "enumerate") (hm : X.mg "enumerate" = none) (ha : PA X [e] ta) (hs : starEach [e] X.env = [(false, eval e X.env)] := by rfl) :
    PI X (.Tuple elts kk tpos) (.Call (.Name "enumerate" p) [e] [] pos) (iEnumS X.K ta) := by
  refine ⟨fun pins s σ H R I h => ?_⟩
  refine Call_ (ld_blt I hg hm boot_enumerate (PyProof.Rows.callWith_type1 (thn (ha.run pos pins s σ H _ I h) fun us s1 ⟨vs, H1, I1, r1, q1⟩ => ?_) hs rfl))
  obtain ⟨l, ys, rfl, ⟨hl, q⟩ | ⟨hl, q⟩⟩ := q1
  · obtain ⟨u1, rfl, r2⟩ := vals1 r1
    obtain rfl : u1 = Value.ref l := r2
    obtain ⟨its, rv, p', hz⟩ := I1.list hl
    refine call_enumerate_list p'.isList fun h' he hit hsz hk => wpAny_pyIter_enum he ?_
    have I2 : Inv X pins σ H1 { s1 with heap := h' } := I1.kept (t' := s1.toks) hk
    have fpE : ∀ c ∈ [s1.heap.objs.size + 1, s1.heap.objs.size], s1.heap.objs.size ≤ c := fun c hc => by
      simp at hc
      omega
    exact ⟨s1.heap.objs.size + 1, [s1.heap.objs.size + 1, s1.heap.objs.size], _, _, H1, rfl, I2, turn_enum l (s1.heap.objs.size + 1) s1.heap.objs.size, ⟨⟨.none, he⟩, hit, Nat.succ_ne_self _⟩, fun c hc => I1.fpOk (fpE c hc) (I1.hok.fresh (fpE c hc)), q⟩
  · obtain ⟨u1, rfl, r2⟩ := vals1 r1
    obtain rfl : u1 = Value.ref l := r2
    obtain ⟨its, rv, pl, hz'⟩ := I1.tuple hl
    have hll : l < s1.heap.objs.size := pl.lt
    have plT : s1.heap.IsTuple l its.toArray := pl
    refine callType_new F.called_enumerate (by decide) (F.typeCall_enumerate_1 _) (F.newCall_enumerate_1 _) (fun obj => F.args_object_init_2 obj _) F.entry_enumerate_new (meets_enum1 (begins_tuple l its.toArray)) ⟨plT, ?_⟩
    generalize hh1 : (s1.heap.push { cls := .type "tuple_iterator", data := .fields #[.ref l, .int 0 0] }) = h1
    have z1 : h1.objs.size = s1.heap.objs.size + 1 := by
      rw [← hh1, Heap.size_push]
    have g1 : h1.get? s1.heap.objs.size = some { cls := .type "tuple_iterator", data := .fields #[.ref l, .int 0 0] } := by
      rw [← hh1]
      exact Heap.get?_push_size _ rfl
    have k1 : ∀ b o, s1.heap.get? b = some o → h1.get? b = some o := fun b o q => by
      rw [← hh1]
      exact Heap.get?_push_of_some _ q
    show _ ∧ _
    rw [z1]
    have he : IsEnum (h1.push { cls := .type "enumerate", data := .fields #[.none, .bool false, .ref s1.heap.objs.size, rawInt 0, .none, .none] }) (s1.heap.objs.size + 1) s1.heap.objs.size 0 .none := by
      have := Heap.get?_push_size h1 (o := { cls := .type "enumerate", data := .fields #[.none, .bool false, .ref s1.heap.objs.size, rawInt 0, .none, .none] }) rfl
      rw [z1] at this
      exact this
    refine ⟨⟨_, he, rfl⟩, wpAny_pyIter_enum he ?_⟩
    generalize hh2 : h1.push { cls := .type "enumerate", data := .fields #[.none, .bool false, .ref s1.heap.objs.size, rawInt 0, .none, .none] } = h2 at he
    have k2 : ∀ b o, s1.heap.get? b = some o → h2.get? b = some o := fun b o q => by
      rw [← hh2]
      exact Heap.get?_push_of_some _ (k1 b o q)
    have g2 : h2.get? s1.heap.objs.size = some { cls := .type "tuple_iterator", data := .fields #[.ref l, .int 0 0] } := by
      rw [← hh2]
      exact Heap.get?_push_of_some _ g1
    have I2 : Inv X pins σ H1 { s1 with heap := h2 } := I1.kept (t' := s1.toks) k2
    have fpE : ∀ c ∈ [s1.heap.objs.size + 1, s1.heap.objs.size], s1.heap.objs.size ≤ c := fun c hc => by
      simp at hc
      omega
    refine ⟨s1.heap.objs.size + 1, [s1.heap.objs.size + 1, s1.heap.objs.size], tnE (s1.heap.objs.size + 1) s1.heap.objs.size l, _, H1, rfl, I2,
      turn_pairs (D := { its : List Value // its.length = ys.length }) (S := fun d h => h.IsTuple l d.1.toArray) (wr := [s1.heap.objs.size + 1, s1.heap.objs.size]) (P1 := fun _ i v => ∃ t, v = .int (0 + (i : Int)) t) (P2 := fun d i v => d.1.toArray[i]? = some v)
        (by simp) (fun i h st b hb => ?_) (fun i h h2 st k => ?_) (fun b hb => hb) (fun d A hh => ?_) (fun X' pins' σ' H' s' hP hw hK I' g => ?_) (fun A i s Q E st h => let ⟨⟨_, he⟩, _⟩ := st; wpAny_pyIter_enum he h), ⟨⟨_, he⟩, ⟨_, g2, rfl, rfl⟩⟩, fun c hc => I1.fpOk (fpE c hc) (I1.hok.fresh (fpE c hc)), q⟩
    · obtain ⟨⟨old, a1⟩, ⟨o1, e1, _, d1⟩⟩ := st
      simp at hb
      rcases hb with rfl | rfl
      · exact ⟨_, a1, fun v q => nomatch q⟩
      · exact ⟨o1, e1, fun v q => by rw [d1] at q; cases q⟩
    · obtain ⟨⟨old, a1⟩, ⟨o1, e1, c1, d1⟩⟩ := st
      exact ⟨⟨old, k _ (by simp) _ a1⟩, ⟨o1, k _ (by simp) _ e1, c1, d1⟩⟩
    · obtain ⟨its2, e2⟩ := d
      have hn : l ≠ s1.heap.objs.size := Nat.ne_of_lt hll
      have W := GoesN.enumFrom (elts := elts) (x1 := kk) (pos := tpos) 0 (Draws.tuple (prog := X.prog) (w := X.w) (A := A.in1) hh s1.heap.objs.size l hn its2.toArray) (s1.heap.objs.size + 1) (Nat.succ_ne_self _) (by simp; exact fun z => absurd z (Nat.ne_of_gt (Nat.lt_succ_of_lt hll))) (by simp)
      refine ⟨_, gn_cong (gn_len (W.mono fun i h₀ v h _ hY => ?_) ?_) fun i h => ?_⟩
      · obtain ⟨T, t, x, ev, hT, hx, hi⟩ := hY
        exact ⟨T, .int (0 + (i : Int)) t, x, ev, hT, ⟨t, rfl⟩, hx, hi⟩
      · rw [List.size_toArray, e2]
      · exact ⟨fun ⟨⟨a, b⟩, c⟩ => ⟨a, b, c⟩, fun ⟨a, b, c⟩ => ⟨⟨a, b⟩, c⟩⟩
    · have g' : SqT X'.K H' l ys := by rw [hK]; exact g
      obtain ⟨its2, rv2, pl2, _⟩ := I'.tuple g'
      refine ⟨⟨its2, rv2.length.symm⟩, pl2, fun i v _ pv => ?_, fun i v hi pv => ?_⟩
      · obtain ⟨t, rfl⟩ := pv
        exact ⟨t, by rw [Int.zero_add]⟩
      · obtain ⟨u, hu, ru⟩ := rv2.get (List.getElem?_eq_getElem hi)
        have pv : its2.toArray[i]? = some v := pv
        rw [List.getElem?_toArray, hu] at pv
        cases pv
        show L2.RelV (ys.getD i V.non) _
        rw [List.getD_eq_getElem?_getD, List.getElem?_eq_getElem hi]
        exact ru
/-! ### text * int -/
def repS (z : Str) (k : Nat) : Str := ⟨(List.replicate k z.cps.toList).flatten.toArray⟩
def rMulS : R2 := fun x y H Q => ∃ (z : Str) (n : Int), x = .str z ∧ y = .int n ∧ 0 ≤ n ∧ z.length * n.toNat ≤ 1000000 ∧ n < 1000000 ∧ Q (.str (repS z n.toNat)) H
theorem fold_reps (c : Array Nat) : ∀ (k : Nat) (acc : Array Nat), (List.replicate k c).foldl (· ++ ·) acc = acc ++ (List.replicate k c.toList).flatten.toArray
  | 0, acc => by simp
  | k + 1, acc => by
    rw [List.replicate_succ, List.foldl_cons, fold_reps c k (acc ++ c), List.replicate_succ, List.flatten_cons]
    apply Array.toList_inj.mp
    simp
theorem mul_rep (z : Str) (n : Int) (h0 : 0 ≤ n) : Txt.mul z n = repS z n.toNat := by
  unfold Txt.mul repS
  by_cases h1 : n < 1
  · rw [if_pos h1]
    have : n.toNat = 0 := by omega
    rw [this]
    rfl
  · rw [if_neg h1]
    by_cases h2 : (n == 1 || z.length == 0) = true
    · rw [if_pos h2]
      rcases (Bool.or_eq_true _ _).mp h2 with h | h
      · have : n = 1 := by simpa using h
        subst this
        rw [show (1 : Int).toNat = 1 from rfl]
        simp
      · have hz : z.cps = #[] := by
          have : z.cps.size = 0 := by simpa [Str.length] using h
          exact Array.eq_empty_of_size_eq_zero this
        have hz' : z = ⟨#[]⟩ := by cases z; simp at hz; rw [hz]
        rw [hz']
        simp
    · rw [if_neg h2, fold_reps]
      simp
theorem op_mulS {X : Cx} : OpR X (binaryOp .Mult) rMulS := by
  intro pins s σ H x y v u Q I rx ry h
  obtain ⟨z, n, rfl, rfl, h0, hz, hn, q⟩ := h
  obtain ⟨t, rfl⟩ := rx
  obtain ⟨t2, rfl⟩ := ry
  have hok : MulOk z n := by
    have e1 : z.length * n.toNat ≤ 16777216 := by omega
    refine ⟨?_, fun h1 _ => ?_, fun h1 _ => ?_⟩
    · rw [decide_eq_false (by omega : ¬ n < -(2 ^ 63 : Int)), decide_eq_false (by omega : ¬ n ≥ (2 ^ 63 : Int))]
      rfl
    · have hpos : 0 < n := by omega
      have e : ((z.length * n.toNat : Nat) : Int) = (z.length : Int) * n := by rw [Int.natCast_mul, Int.toNat_of_nonneg h0]
      have h4 : (z.length : Int) ≤ (2 ^ 63 - 1) / n := (Int.le_ediv_iff_mul_le hpos).mpr (by rw [← e]; omega)
      omega
    · exact short24 e1
  refine SB.mul hok fun t' k => ⟨.str (repS z n.toNat), H, I.tok k, ⟨t', by rw [mul_rep z n h0]⟩, q⟩
/-! ### sorted(tuples of ints) -/
section
variable {prog : Program} {w : World} {A : Around} {s : Shared}
theorem lex_any {b fin : Bool} : ∀ {xs ys : List Value} {ns ms : List Int} (i : Nat), IntsAre xs ns → IntsAre ys ms → ∃ r : Bool, PySem.W.KatLex prog w A b fin (fun r' s' => s' = s ∧ r' = r) (xs.zip ys) i s
  | [], _, _, _, i, _, _ => ⟨fin, PySem.W.kat_nil ⟨rfl, rfl⟩⟩
  | _ :: _, [], _, _, i, _, _ => ⟨fin, PySem.W.kat_nil ⟨rfl, rfl⟩⟩
  | _, _, _, _, i, .cons p t hx, .cons q u hy => by
    by_cases e : p = q
    · obtain ⟨r, hr⟩ := lex_any (b := b) (fin := fin) (i + 1) hx hy
      refine ⟨r, PySem.W.kat_cons (wpAny_eqBool_int ?_)⟩
      subst e
      rw [beq_self_eq_true]
      exact PySem.W.kat_yes hr
    · refine ⟨decide (p < q), PySem.W.kat_cons (wpAny_eqBool_int ?_)⟩
      rw [show (p == q) = false from beq_eq_false_iff_ne.mpr e]
      exact PySem.W.kat_no (TS.oneLt_ints _ ⟨rfl, rfl⟩)
def TupNe (h : Heap) (v : Value) : Prop := ∃ ns, TS.TupInts h v ns ∧ ns ≠ []
theorem tups_tot {vs : List Value} (hp : ∀ v ∈ vs, TupNe s.heap v) : Srt.Tot prog w A s (tuples' true) (fun p => p.1 ∈ vs) := by
  intro p q hm hm'
  obtain ⟨ns, ⟨a, xs, e, ⟨o, ho, hc, n, hd⟩, hi⟩, _⟩ := hp _ hm
  obtain ⟨ms, ⟨a', ys, e', ⟨o', ho', hc', n', hd'⟩, hi'⟩, _⟩ := hp _ hm'
  rw [e, e']
  obtain ⟨r, hr⟩ := lex_any (prog := prog) (w := w) (A := A) (s := s) (b := true) (fin := decide (xs.size < ys.size)) 0 hi hi'
  exact ⟨r, PySem.W.kat_lt ho hd ho' hd' hr⟩
theorem firsts_tups {h : Heap} : ∀ {vs : List Value}, (∀ v ∈ vs, TupNe h v) → ∃ fs : List Value, PySem.W.KatTups h vs fs ∧ fs.length = vs.length ∧ ∀ f ∈ fs, ∃ x t, f = Value.int x t
  | [], _ => ⟨[], PySem.W.KatTups.nil, rfl, fun _ hm => by simp at hm⟩
  | v :: vs, hp => by
    obtain ⟨fs, h1, h2, h3⟩ := firsts_tups (vs := vs) fun v' hm => hp v' (List.mem_cons_of_mem _ hm)
    obtain ⟨ns, ⟨a, xs, e, ⟨o, ho, hc, n, hd⟩, hi⟩, hne⟩ := hp v (List.mem_cons_self ..)
    subst e
    cases ns with
    | nil => exact absurd rfl hne
    | cons k ns =>
      have hi0 := hi
      generalize hxl : xs.toList = xl at hi
      cases hi with
      | @cons _ t vs' _ hi =>
        refine ⟨.int k t :: fs, PySem.W.KatTups.cons ho hc hd ?_ h1, by rw [List.length_cons, List.length_cons, h2], fun f hm => ?_⟩
        · have := congrArg (fun l : List Value => l[0]?) hxl
          simpa using this
        · rcases List.mem_cons.mp hm with rfl | hm
          · exact ⟨k, t, rfl⟩
          · exact h3 f hm
theorem TupNe.keeps {h h' : Heap} {v : Value} (x : TupNe h v) (k : ∀ b o, h.get? b = some o → o.cls = .type "tuple" → h'.get? b = some o) : TupNe h' v := by
  obtain ⟨ns, t, hne⟩ := x
  exact ⟨ns, t.keeps k, hne⟩
theorem tups_sortable {a : Addr} {vs : List Value} (h0 : 0 < vs.length) (hp : ∀ v ∈ vs, TupNe s.heap v) (ha : ∀ o, s.heap.get? a = some o → o.cls ≠ .type "tuple") : Srt.Sortable prog w A s a vs := by
  intro h' keep
  have hp' : ∀ v ∈ vs, TupNe h' v := fun v hm => (hp v hm).keeps fun b o e c => keep b o (fun z => by subst z; exact ha o e c) e
  obtain ⟨fs, h1, h2, h3⟩ := firsts_tups hp'
  refine ⟨tuples' true, fun Q E hq => ?_, tups_tot hp'⟩
  refine PySem.W.kat_kind (T := .type "int") h1 (by omega) (fun f hm => ?_) (by rfl) ?_
  · obtain ⟨x, t, rfl⟩ := h3 f hm
    exact PySem.W.Looks.now
  · have e : (Value.type "int" != Value.type "tuple") = true := by first | decide +kernel | rfl | decide
    rw [e]
    exact hq
end
def rSortTs (K : PySem.W.Frag) : List V → Hp → VK → Prop := fun vs H Q => ∃ (a : Addr) (us : List V) (ts : List (List Int)), vs = [.ref a] ∧ SqL K H a us ∧ Paired (fun (u : V) (r : List Int) => ∃ q, u = .ref q ∧ H q = some (.tup (r.map V.int))) us ts ∧ (∀ t ∈ ts, t ≠ []) ∧ us.length ≤ 1000 ∧
  ∀ (ws : List V) (p : Addr), ws.Perm us → H p = none → Q (.ref p) (upd H p (.lst ws))
theorem paired_left {α β : Type} {R : α → β → Prop} {us : List α} {ts : List β} (h : Paired R us ts) : ∀ u ∈ us, ∃ t ∈ ts, R u t := by
  induction h with
  | nil => intro u hu; cases hu
  | cons r t ih =>
    intro u hu
    rcases List.mem_cons.mp hu with rfl | hu
    · exact ⟨_, List.mem_cons_self, r⟩
    · obtain ⟨t', h1, h2⟩ := ih u hu
      exact ⟨t', List.mem_cons_of_mem _ h1, h2⟩
theorem call_sortedTs {X : Cx} : CallR X (.builtin "sorted") (rSortTs X.K) := by
  intro pins s σ H vs us Q I r h
  obtain ⟨a, xs, ts, rfl, hs, hx, hne, hl1, q⟩ := h
  obtain ⟨its, rv, hl, hz⟩ := I.list hs
  obtain ⟨u, rfl, ru⟩ := vals1 r
  obtain rfl : u = Value.ref a := ru
  obtain ⟨e1, e2⟩ := refs_back rv fun x m => by
    obtain ⟨t, _, p, e, _⟩ := paired_left hx x m
    exact ⟨p, e⟩
  have hz2 : its.length ≤ sizeLine := by rw [← rv.length]; exact hz
  refine Srt.sorted_any hl.isList hz2 (fun h2 h₁ a' ha k => ?_) fun out ho => ?_
  · refine tups_sortable (s := { s with heap := h₁ }) (by omega) (fun v hv => ?_) fun o e => ?_
    · obtain ⟨t, rfl⟩ := e2 v hv
      have hm : V.ref t ∈ xs := by rw [e1]; exact List.mem_map.mpr ⟨_, hv, rfl⟩
      obtain ⟨ns, hns, p, e, hp⟩ := paired_left hx _ hm
      cases e
      obtain ⟨_, its2, r2, hT⟩ := I.hok _ _ hp
      exact TupNe.keeps ⟨ns, ⟨t, its2.toArray, rfl, hT, by simpa using r2.ints⟩, hne ns hns⟩ fun b o e _ => (k b o e).2
    · have e' : some o = some (seqObj "list" its.toArray 0) := e.symm.trans ha
      cases e'
      intro c
      exact absurd (Value.type.inj c) (by decide)
  · have h3 : ∀ u ∈ out, ∃ a, u = Value.ref a := fun u hu => e2 u (ho.mem_iff.mp hu)
    obtain ⟨n, hn⟩ := PyProof.Rows.sortedAll_at s.heap its out.toArray
    have hd : s.heap.objs.size ≤ s.heap.objs.size + 1 := Nat.le_succ _
    refine ⟨.ref (s.heap.objs.size + 1), upd H (s.heap.objs.size + 1) (.lst (out.map backV)), I.laid (t' := s.toks) (fun b o e => PyProof.Rows.sortedAll_old e) hd ⟨?_, out, n, vals_back h3, hn⟩, rfl, q _ _ ?_ (I.hok.fresh hd)⟩
    · rw [List.length_map, ho.length_eq]; exact hz2
    · rw [e1]; exact ho.map backV
/-! ### sorted(set(ints)) -/
section
variable {P : Program} {w : World} {A : Around} {E : Value → Shared → Prop} {s : Shared}
/-- an empty set as it is made -/
abbrev nsO (w : World) : Obj := { cls := .type "set", dict := none, data := .set #[] 0 (.fresh 0 0 (!w.params.followText "set-order")) }
set_option maxHeartbeats 6400000 in
theorem set_of_list {l : Addr} {items : Array Value} (ns : List Int) {Q : Value → Shared → Prop} (hh : A.handled = none) (hl : s.heap.IsList l items) (hit : IntsAre items.toList ns) (hb : ns.length + 1 < scanBound)
    (h : ∀ (h' : Heap) (tk c : Nat), SetR w h' s.heap.objs.size (fun j => decide (j ∈ ns)) c → c ≤ ns.length → (∀ b o, s.heap.get? b = some o → h'.get? b = some o) → Q (.ref s.heap.objs.size) { s with heap := h', toks := tk }) :
    wpAny (model P w) A (call (.type "set") [.ref l]) Q E s := by
  have hisz : items.size = ns.length := (Array.length_toList (xs := items)).symm.trans (IntsAre.length hit)
  obtain ⟨c, tl, hmro⟩ := F.called_set.mro
  have hmade := F.called_set.made
  have hsub := F.called_set.sub
  refine wpAny_call (codeAny_of_tree ?_)
  show wpAny _ _ (callAny (.type "set") _) _ _ _
  refine wpAny_pure ⟨Code.quiet_builtin _ (by decide +kernel), codeAny_builtin F.entry_type_call ?_⟩
  rw [Around.under_plain (weight_type_call_type "set" [.ref l] []) rfl]
  have h1 := F.called_set.notType
  have h2 := F.called_set.canCreate
  have hct := F.typeCall_set_1 (.ref l)
  repeat (any_goals (first | assumption | wp_step))
  refine codeAny_mono (code_set_led1 (.ref l) (E := E) (Q₁ := fun obj s₁ => obj = .ref s.heap.objs.size ∧ s₁ = { s with heap := s.heap.push (nsO w) }) ⟨rfl, rfl⟩) fun r s₁ hr => ?_
  cases r with
  | error e => exact hr
  | ok fl =>
    cases fl with
    | ret obj =>
      obtain ⟨rfl, rfl⟩ := hr
      have hS : (s.heap.push (nsO w)).get? s.heap.objs.size = some (nsO w) := Heap.get?_push_size _ rfl
      have hT : Shared.TypeIs { s with heap := s.heap.push (nsO w) } (.ref s.heap.objs.size) "set" := ⟨_, hS, rfl⟩
      have hli := F.called_set.init.lookup
      have hbi := F.called_set.init.bind (.ref s.heap.objs.size)
      repeat (any_goals (first | assumption | wp_step))
      refine codeAny_mono (codeAny_call_builtin (R := wants (fun r s₂ => r = .none ∧ ∃ h' tk c, s₂ = { s with heap := h', toks := tk } ∧ SetR w h' s.heap.objs.size (fun j => decide (j ∈ ns)) c ∧ c ≤ ns.length ∧
          (∀ b o, s.heap.get? b = some o → h'.get? b = some o)) E) F.called_set.init.plain F.entry_set_init (check_set_init_1 hT ?_)) fun r₂ s₂ hr₂ => ?_
      · obtain ⟨ol, hol, hcl, nl, hdl⟩ := hl
        obtain ⟨ocls, odict, odata, oslots⟩ := ol
        simp only at hcl hdl
        subst hcl; subst hdl
        have hol' : (s.heap.push (nsO w)).get? l = some { cls := .type "list", dict := odict, data := .seq items nl, slots := oslots } := Heap.get?_push_of_some _ hol
        have hsls := F.sub_list_set
        have hslf := F.sub_list_frozenset
        have hne : (Value.type "list" == Value.type "dict") = false := by decide
        have hl1 : (s.heap.push (nsO w)).IsList l items := ⟨_, hol', rfl, nl, rfl⟩
        unfold Builtin.«set.__init__» noKeywords Builtin.Frozenset.updateFrom
        generalize hPI : pyIter = PI
        wp_walk
        subst hPI
        refine wpAny_pyIter_list hl1 ?_
        refine wpAny_bind (wpAny_runValue ?_)
        have hlS : l < s.heap.objs.size := Heap.lt_size hol
        have hh3 : A.in1.in1.in1.handled = none := by simp [hh]
        have hz1 : (s.heap.push (nsO w)).objs.size = s.heap.objs.size + 1 := Heap.size_push ..
        have hneI : l ≠ (s.heap.push (nsO w)).objs.size := by
          rw [hz1]; exact Nat.ne_of_lt (Nat.lt_succ_of_lt hlS)
        have hSf : s.heap.objs.size ∉ [(s.heap.push (nsO w)).objs.size, l] := by
          rw [hz1]; simp only [List.mem_cons, List.mem_singleton, List.not_mem_nil, or_false, not_or]
          exact ⟨Nat.ne_of_lt (Nat.lt_succ_self _), Nat.ne_of_gt hlS⟩
        have hval : ∀ (i : Nat) (v : Value), items[i]? = some v → ∃ k t, ns[i]? = some k ∧ v = .int k t := fun i v hv => by
          have hi : i < ns.length := by rw [← hisz]; exact (Array.getElem?_eq_some_iff.mp hv).1
          obtain ⟨t, e⟩ := PyProof.Rows.IntsAre.int_at hit i v (by rw [Array.getElem?_toList]; exact hv)
          refine ⟨ns[i], t, List.getElem?_eq_getElem hi, ?_⟩
          rw [e, List.getD_eq_getElem?_getD, List.getElem?_eq_getElem hi] <;> rfl
        refine set_update_ints ((Walks.list hh3 _ l hneI items).toS) s.heap.objs.size
          hSf ns hisz hb hval (items.size - 0) 0 _ (by omega) (Nat.zero_le _)
          ⟨⟨_, Heap.get?_push_size _ rfl, rfl, rfl⟩, (hl1.push _)⟩ ?hS0 ?hR
        case hS0 => exact ⟨0, Nat.le_refl 0, setR_new_at (Heap.get?_push_of_some _ hS)⟩
        case hR =>
          intro s' c' hm hc' hS'
          obtain ⟨h', g2, d', tk', os'⟩ := s'
          have eg : g2 = s.gens := hm.gens
          have ed : d' = s.drawn := hm.drawn
          have eo : os' = s.os := hm.os
          subst eg; subst ed; subst eo
          show wpAny _ _ _ _ _ _
          refine wpAny_pure ?_
          show wpAny _ _ (ret Value.none) _ _ _
          rw [hisz] at hc'
          refine wpAny_pure ⟨rfl, h', tk', c', rfl, hS', hc', fun b o e => ?_⟩
          have hb0 : b < s.heap.objs.size := Heap.lt_size e
          exact hm.heap b o (by simp only [List.mem_cons, List.mem_singleton, List.not_mem_nil, or_false, not_or]; rw [hz1]; exact ⟨Nat.ne_of_lt hb0, Nat.ne_of_lt (Nat.lt_succ_of_lt hb0)⟩) (Heap.get?_push_of_some _ (Heap.get?_push_of_some _ e))
      · cases r₂ with
        | error e => exact hr₂
        | ok fl₂ =>
          cases fl₂ with
          | ret r =>
            obtain ⟨rfl, h', tk', c', rfl, hS', hc', hk⟩ := hr₂
            repeat (any_goals (first | assumption | wp_step))
            exact h h' tk' c' hS' hc' hk
          | _ => exact hr₂.elim
    | _ => exact hr.elim
end
theorem same_upd0 {H : Hp} {p : Addr} {o : HO} (h : H p = none) : Same H (upd H p o) := fun b x e => by
  rw [upd_ne (ne_of_none e h)]
  exact e
def tSS (K : PySem.W.Frag) (te : TE) : TE := fun σ H Q => te σ H fun x H1 => ∃ (a : Addr) (ns : List Int), x = .ref a ∧ SqL K H1 a (ns.map V.int) ∧ ns.length ≤ 1000 ∧ (∀ l : List Int, l.Nodup → (∀ k ∈ l, k ∈ ns) → l.length < 64) ∧
  ∀ (ns' : List Int) (p : Addr) (H' : Hp), ns'.Pairwise (· < ·) → (∀ k, k ∈ ns' ↔ k ∈ ns) → Same H1 H' → H1 p = none → H' p = some (.lst (ns'.map V.int)) → Q (.ref p) H'
theorem pe_sortedSet {X : Cx} {e : Expr} {te : TE} {p p2 pos pos2 : Pos} (hc : X.calm = true) (hg : Gl X "sorted") (hm : X.mg "sorted" = none) (hg2 : Gl X "set") (hm2 : X.mg "set" = none) (he : PE X e te)
    (na : starEach [e] X.env = (false, eval e X.env) :: starEach [] X.env := by rfl) : PE X (.Call (.Name "sorted" p) [.Call (.Name "set" p2) [e] [] pos2] [] pos) (tSS X.K te) := by
  refine ⟨fun pins s σ H Q I h => ?_⟩
  refine Call_ (ld_blt I hg hm PyProof.Rows.boot_sorted ?_)
  refine PyProof.Rows.callWith_builtin1 (PyProof.Rows.args_cons ?_ rfl) rfl rfl
  refine Call_ (ld_blt I hg2 hm2 PyProof.Rows.boot_set ?_)
  refine PyProof.Rows.callWith_type1 (PyProof.Rows.args_cons (thn (he.run pins s σ H _ I h) fun v s1 ⟨x, H1, I1, r1, q1⟩ => PyProof.Rows.args_nil ?_) na) na rfl
  obtain ⟨a, ns, rfl, hq, hl, hsm, q1⟩ := q1
  cases r1
  obtain ⟨its, r, pl, hz⟩ := I1.list hq
  refine set_of_list ns (I1.ok.hd hc) pl.isList (by simpa using r.ints) (by unfold scanBound; omega) fun h' tk c hS hcl hk => ?_
  refine PyProof.Rows.args_nil ?_
  have hn : H1 s1.heap.objs.size = none := I1.hok.fresh (Nat.le_refl _)
  have I2 : Inv X pins σ (upd H1 s1.heap.objs.size (SetO X.w s1.heap.objs.size (fun j => decide (j ∈ ns)) c)) { s1 with heap := h', toks := tk } := I1.laid hk (Nat.le_refl _) (setO_new hS)
  have hc64 : c < 64 := by
    obtain ⟨o, es, ep, t, ho, hex, hd, hg, nd, hm, hb, hf, hn, hr, hl⟩ := hS
    rw [← hn, ← Array.length_toList, ← List.length_map (f := keyOf)]
    exact hsm _ nd fun k hk => of_decide_eq_true ((hm k).mpr hk)
  exact cr_sortedSet hc pins _ σ _ _ _ Q I2 (show Vals [V.ref s1.heap.objs.size] [Value.ref s1.heap.objs.size] from .cons rfl .nil) ⟨_, _, c, rfl, upd_same, hc64, fun ns' p' h1 h2 _ hp => by
    have hpn : p' ≠ s1.heap.objs.size := fun z => by
      rw [z, upd_same] at hp
      cases hp
    rw [upd_ne hpn] at hp
    refine q1 ns' p' _ h1 (fun k => (h2 k).trans decide_eq_true_iff) ((same_upd0 hn).trans (same_upd0 (by rw [upd_ne hpn]; exact hp))) hp upd_same⟩
/-! ### list(zip(xs, ys)): the tuples stay, so zip's own tuple is used but once -/
theorem zip_len0 : typeLookup (.type "zip") "__len__" = pure none := by rw [typeLookup_type, builtinLookup_eq_fast]; kernel_rfl
theorem zip_hint0 : typeLookup (.type "zip") "__length_hint__" = pure none := by rw [typeLookup_type, builtinLookup_eq_fast]; kernel_rfl
/-- a zip of two lists at its i-th turn, its last tuple perhaps still held; S: the list that is filled -/
def ZS (z TI TO i1 i2 l1 l2 S : Addr) (xs ys : Array Value) (i : Nat) (h : Heap) : Prop :=
  IsPair h TI (.ref i1) (.ref i2) ∧ h.IsListIter i1 l1 i ∧ h.IsListIter i2 l2 i ∧ h.IsList l1 xs ∧ h.IsList l2 ys ∧
  ((IsZip h z TI TO .none ∧ ∃ a b, IsPair h TO a b) ∨ ∃ T f oT, IsZipHeld h z TI TO T f ∧ h.get? T = some oT ∧ T ≠ z ∧ T ≠ i1 ∧ T ≠ i2 ∧ T ≠ S) ∧ ∃ o, h.get? TO = some o
section
variable {prog : Program} {w : World} {A : Around} {E : Value → Shared → Prop} {s : Shared} {z TI TO i1 i2 l1 l2 S : Addr} {xs ys : Array Value} {i : Nat}
theorem ZS.over {h h' : Heap} (st : ZS z TI TO i1 i2 l1 l2 S xs ys i h) (nz : S ≠ z) (nTI : S ≠ TI) (nTO : S ≠ TO) (n1 : S ≠ i1) (n2 : S ≠ i2) (n3 : S ≠ l1) (n4 : S ≠ l2) (k : ∀ b o, b ≠ S → h.get? b = some o → h'.get? b = some o) : ZS z TI TO i1 i2 l1 l2 S xs ys i h' := by
  obtain ⟨a1, a2, a3, a4, a5, a6, oTO, a7⟩ := st
  refine ⟨k _ _ (Ne.symm nTI) a1, a2.at fun o e => k _ o (Ne.symm n1) e, a3.at fun o e => k _ o (Ne.symm n2) e, a4.at fun o e => k _ o (Ne.symm n3) e, a5.at fun o e => k _ o (Ne.symm n4) e, ?_, oTO, k _ _ (Ne.symm nTO) a7⟩
  rcases a6 with ⟨b1, x, y, b2⟩ | ⟨T, f, oT, b1, b2, r1, r2, r3, r4⟩
  · exact .inl ⟨k _ _ (Ne.symm nz) b1, x, y, k _ _ (Ne.symm nTO) b2⟩
  · exact .inr ⟨T, f, oT, k _ _ (Ne.symm nz) b1, k _ _ r4 b2, r1, r2, r3, r4⟩
theorem zip_item {Q : Option Value → Shared → Prop} (D : ZipApart z TI TO i1 i2 l1 l2) (st : ZS z TI TO i1 i2 l1 l2 S xs ys i s.heap) (hS : S < s.heap.objs.size) (hi : i < min xs.size ys.size)
    (hQ : ∀ x y h', xs[i]? = some x → ys[i]? = some y → ZS z TI TO i1 i2 l1 l2 S xs ys (i + 1) h' → IsPair h' s.heap.objs.size x y → h'.objs.size = s.heap.objs.size + 1 →
      (∀ c o, c ≠ z → c ≠ TO → c ≠ i1 → c ≠ i2 → s.heap.get? c = some o → h'.get? c = some o) → Q (some (.ref s.heap.objs.size)) { s with heap := h' }) : wpAny (model prog w) A (pyNext (.ref z)) Q E s := by
  obtain ⟨hTI, h1, h2, hl1, hl2, hz, oTO, hTOx⟩ := st
  have ex := Array.getElem?_eq_getElem (Nat.lt_of_lt_of_le hi (Nat.min_le_left ..))
  have ey := Array.getElem?_eq_getElem (Nat.lt_of_lt_of_le hi (Nat.min_le_right ..))
  have lt : ∀ {c o}, s.heap.get? c = some o → s.heap.objs.size ≠ c := fun e => Nat.ne_of_gt (Heap.lt_size e)
  have n1 : s.heap.objs.size ≠ i1 := let ⟨_, e, _⟩ := h1; lt e
  have n2 : s.heap.objs.size ≠ i2 := let ⟨_, e, _⟩ := h2; lt e
  rcases hz with ⟨hz, a, b, hTO⟩ | ⟨T, f, oT, hz, hT, r1, r2, r3, r4⟩
  · refine wpAny_pyNext_zip_item D hz hTI hTO h1 h2 hl1 hl2 ex ey fun h' a1 a2 a3 a4 a5 a6 hk => ?_
    exact hQ _ _ h' ex ey ⟨hk _ _ D.TIz D.TITO D.TIi1 D.TIi2 hTI, a3, a4, hl1.at fun o e => hk _ o D.l1z D.l1TO D.l1i1 D.l1i2 e, hl2.at fun o e => hk _ o D.l2z D.l2TO D.l2i1 D.l2i2 e,
      .inr ⟨s.heap.objs.size, false, _, a1, a5, lt hz, n1, n2, Nat.ne_of_gt hS⟩, _, a2⟩ a5 a6 hk
  · refine wpAny_pyNext_zip_item_held D hz hT hTI h1 h2 hl1 hl2 ex ey fun h' a1 a3 a4 a5 a6 hk => ?_
    exact hQ _ _ h' ex ey ⟨hk _ _ D.TIz D.TIi1 D.TIi2 hTI, a3, a4, hl1.at fun o e => hk _ o D.l1z D.l1i1 D.l1i2 e, hl2.at fun o e => hk _ o D.l2z D.l2i1 D.l2i2 e,
      .inr ⟨T, true, oT, a1, hk _ _ r1 r2 r3 hT, r1, r2, r3, r4⟩, _, hk _ _ D.TOz D.TOi1 D.TOi2 hTOx⟩ a5 a6 fun c o c1 _ c3 c4 e => hk c o c1 c3 c4 e
theorem zip_end {Q : Option Value → Shared → Prop} (hh : A.handled = none) (D : ZipApart z TI TO i1 i2 l1 l2) (st : ZS z TI TO i1 i2 l1 l2 S xs ys (min xs.size ys.size) s.heap)
    (hQ : ∀ h', (∀ c o, c ≠ z → c ≠ TO → c ≠ i1 → c ≠ i2 → s.heap.get? c = some o → h'.get? c = some o) → Q none { s with heap := h' }) : wpAny (model prog w) A (pyNext (.ref z)) Q E s := by
  obtain ⟨hTI, h1, h2, hl1, hl2, hz, _⟩ := st
  have hend : xs[min xs.size ys.size]? = none ∨ ys[min xs.size ys.size]? = none := by
    rcases Nat.le_total xs.size ys.size with h | h
    · exact .inl (Array.getElem?_eq_none (by rw [Nat.min_eq_left h]; exact Nat.le_refl _))
    · exact .inr (Array.getElem?_eq_none (by rw [Nat.min_eq_right h]; exact Nat.le_refl _))
  rcases hz with ⟨hz, a, b, hTO⟩ | ⟨T, f, oT, hz, hT, r1, r2, r3, r4⟩
  · exact wpAny_pyNext_zip_end hh D hz hTI hTO h1 h2 hl1 hl2 hend fun h' hk => hQ h' hk
  · exact wpAny_pyNext_zip_end_held hh D hz hT hTI h1 h2 hl1 hl2 hend fun h' hk => hQ h' fun c o c1 _ c3 c4 e => hk c o c1 c3 c4 e
theorem zip_loop {R : Result → Shared → Prop} {res : Value} (hh : A.handled = none) (D : ZipApart z TI TO i1 i2 l1 l2) (nz : S ≠ z) (nTI : S ≠ TI) (nTO : S ≠ TO) (n1 : S ≠ i1) (n2 : S ≠ i2) (n3 : S ≠ l1) (n4 : S ≠ l2) (hn : min xs.size ys.size ≤ sizeLine) :
    ∀ (k i : Nat) (s : Shared) (acc : Array Value) (c : Nat), min xs.size ys.size - i = k → i ≤ min xs.size ys.size → ZS z TI TO i1 i2 l1 l2 S xs ys i s.heap → acc.size = i → s.heap.get? S = some { cls := .type "list", dict := none, data := .seq acc c, slots := #[] } →
    (∀ (h' : Heap) (Ts : List Addr) (c' : Nat), (∀ b o, b ≠ S → b ≠ z → b ≠ TO → b ≠ i1 → b ≠ i2 → s.heap.get? b = some o → h'.get? b = some o) → h'.get? S = some { cls := .type "list", dict := none, data := .seq (acc ++ (Ts.map Value.ref).toArray) c', slots := #[] } →
      Ts.length = min xs.size ys.size - i → (∀ (j : Nat) (T : Addr), Ts[j]? = some T → s.heap.objs.size ≤ T ∧ ∃ x y, xs[i + j]? = some x ∧ ys[i + j]? = some y ∧ IsPair h' T x y) → Ts.Nodup → R (.ok (.ret res)) { s with heap := h' }) →
    codeAny (model prog w) A (.builtin "list.extend.loop" ⟨[.ref S, .ref z, res], []⟩) R s := by
  intro k
  induction k with
  | zero =>
    intro i s acc c hk hi st ha hS hR
    have hin : i = min xs.size ys.size := by omega
    subst hin
    refine codeAny_builtin F.entry_extend_loop ?_
    rw [Around.under_plainId F.plain_extend_loop _]
    show wpAny _ A.in1 (pyNext (.ref z) >>= _) _ _ s
    refine wpAny_bind (zip_end (by simpa using hh) D st fun h' hk => ?_)
    refine wpAny_pure (hR h' [] c (fun b o _ b1 b2 b3 b4 e => hk b o b1 b2 b3 b4 e) ?_ (by simp) (fun j T e => by simp at e) (by simp))
    rw [hk S _ nz nTO n1 n2 hS]
    simp
  | succ k ih =>
    intro i s acc c hk hi st ha hS hR
    have hlt : i < min xs.size ys.size := by omega
    refine codeAny_builtin F.entry_extend_loop ?_
    rw [Around.under_plainId F.plain_extend_loop _]
    show wpAny _ A.in1 (pyNext (.ref z) >>= _) _ _ s
    refine wpAny_bind (zip_item D st (Heap.lt_size hS) hlt fun x y h' hx hy st' hp hsz hk' => ?_)
    have hS' := hk' S _ nz nTO n1 n2 hS
    show wpAny _ A.in1 (updateSeq S (·.push (.ref s.heap.objs.size)) >>= _) _ _ _
    refine wpAny_bind ?_
    have oth : ∀ b o, b ≠ S → h'.get? b = some o → (h'.update S (Obj.mapSeq (·.push (Value.ref s.heap.objs.size)))).get? b = some o := fun b o hb e => (Heap.get?_update_other _ _ (Ne.symm hb)).trans e
    have hTS : s.heap.objs.size ≠ S := Nat.ne_of_gt (Heap.lt_size hS)
    refine wpAny_updateSeq hS' rfl (wpAny_pure ⟨plainId_quiet F.plain_extend_loop _, ih (i + 1) _ (acc.push (.ref s.heap.objs.size)) _ (by omega) (by omega) (st'.over nz nTI nTO n1 n2 n3 n4 oth) (by rw [Array.size_push, ha]) (Heap.get?_update_self _ hS' rfl) fun h2 Ts c' hk2 hS2 hlen hTs hnd => ?_⟩) (by omega) (by show (acc.push _).size ≤ sizeLine + 1; rw [Array.size_push]; omega)
    have lt : ∀ {b o}, s.heap.get? b = some o → s.heap.objs.size ≠ b := fun e => Nat.ne_of_gt (Heap.lt_size e)
    obtain ⟨hTI, h1, h2', hl1, hl2, hz, oTO, hTOx⟩ := st
    have e1 : s.heap.objs.size ≠ i1 := let ⟨_, e, _⟩ := h1; lt e
    have e2 : s.heap.objs.size ≠ i2 := let ⟨_, e, _⟩ := h2'; lt e
    have e3 : s.heap.objs.size ≠ z := by
      rcases hz with ⟨hz, _⟩ | ⟨T, f, oT, hz, _⟩
      · exact lt hz
      · exact lt hz
    have e4 : s.heap.objs.size ≠ TO := lt hTOx
    have hsz2 : (h'.update S (Obj.mapSeq (·.push (Value.ref s.heap.objs.size)))).objs.size = s.heap.objs.size + 1 := by rw [Heap.size_update, hsz]
    have hp2 : IsPair h2 s.heap.objs.size x y := hk2 _ _ hTS e3 e4 e1 e2 (oth _ _ hTS hp)
    refine hR h2 (s.heap.objs.size :: Ts) c' (fun b o b0 b1 b2 b3 b4 e => hk2 b o b0 b1 b2 b3 b4 (oth b o b0 (hk' b o b1 b2 b3 b4 e))) ?_ (by rw [List.length_cons, hlen]; omega) (fun j T e => ?_) (List.nodup_cons.mpr ⟨fun hm => ?_, hnd⟩)
    · rw [hS2]
      congr 3
      apply Array.toList_inj.mp
      simp
    · cases j with
      | zero =>
        cases e
        exact ⟨Nat.le_refl _, x, y, hx, hy, hp2⟩
      | succ j =>
        obtain ⟨a1, x', y', a2, a3, a4⟩ := hTs j T (by simpa using e)
        have a1' : (h'.update S (Obj.mapSeq (·.push (Value.ref s.heap.objs.size)))).objs.size ≤ T := a1
        rw [hsz2] at a1'
        exact ⟨by omega, x', y', by rw [← a2]; congr 1; omega, by rw [← a3]; congr 1; omega, a4⟩
    · obtain ⟨j, hj⟩ := List.getElem?_of_mem hm
      obtain ⟨a1, _⟩ := hTs j _ hj
      have a1' : (h'.update S (Obj.mapSeq (·.push (Value.ref s.heap.objs.size)))).objs.size ≤ s.heap.objs.size := a1
      rw [hsz2] at a1'
      omega
theorem call_list_zip {Q : Value → Shared → Prop} (hh : A.handled = none) (D : ZipApart z TI TO i1 i2 l1 l2) (hz : IsZip s.heap z TI TO .none) (hTI : IsPair s.heap TI (.ref i1) (.ref i2)) {a b : Value} (hTO : IsPair s.heap TO a b) (h1 : s.heap.IsListIter i1 l1 0) (h2 : s.heap.IsListIter i2 l2 0)
    (hl1 : s.heap.IsList l1 xs) (hl2 : s.heap.IsList l2 ys) (hn : min xs.size ys.size ≤ sizeLine)
    (hQ : ∀ (h' : Heap) (Ts : List Addr) (c' : Nat), (∀ b o, b ≠ z → b ≠ TO → b ≠ i1 → b ≠ i2 → s.heap.get? b = some o → h'.get? b = some o) → h'.get? s.heap.objs.size = some { cls := .type "list", dict := none, data := .seq (Ts.map Value.ref).toArray c', slots := #[] } →
      Ts.length = min xs.size ys.size → (∀ (j : Nat) (T : Addr), Ts[j]? = some T → s.heap.objs.size < T ∧ ∃ x y, xs[j]? = some x ∧ ys[j]? = some y ∧ IsPair h' T x y) → Ts.Nodup → Q (.ref s.heap.objs.size) { s with heap := h' }) :
    wpAny (model prog w) A (call (.type "list") [.ref z]) Q E s := by
  have lt : ∀ {c o}, s.heap.get? c = some o → s.heap.objs.size ≠ c := fun e => Nat.ne_of_gt (Heap.lt_size e)
  have nz := lt hz
  have nTI := lt hTI
  have nTO := lt hTO
  have n1 : s.heap.objs.size ≠ i1 := let ⟨_, e, _⟩ := h1; lt e
  have n2 : s.heap.objs.size ≠ i2 := let ⟨_, e, _⟩ := h2; lt e
  have n3 : s.heap.objs.size ≠ l1 := let ⟨_, e, _⟩ := hl1; lt e
  have n4 : s.heap.objs.size ≠ l2 := let ⟨_, e, _⟩ := hl2; lt e
  refine callType_codes (Q₁ := fun obj s₁ => obj = .ref s.heap.objs.size ∧ s₁ = { s with heap := s.heap.push { cls := .type "list", data := .seq #[] } }) F.called_list (F.typeCall_list_1 _) F.entry_list_init
    (code_list_new _ ⟨rfl, rfl⟩) fun obj s₁ e₁ => ?_
  obtain ⟨rfl, rfl⟩ := e₁
  have hS : (s.heap.push { cls := .type "list", data := .seq #[] }).get? s.heap.objs.size = some { cls := .type "list", data := .seq #[] } := Heap.get?_push_size _ rfl
  have pu : ∀ b o, s.heap.get? b = some o → (s.heap.push { cls := .type "list", data := .seq #[] }).get? b = some o := fun b o e => Heap.get?_push_of_some _ e
  refine ⟨⟨_, hS, rfl⟩, F.args_list_init_2 _ _, ?_⟩
  show wpAny _ A.in1.in1 (do let old ← Builtin.List.listItems (.ref s.heap.objs.size); Builtin.List.listUpdate (.ref s.heap.objs.size) (fun _ => #[]); letGo old.toList.reverse; Builtin.List.listExtendWith (.ref s.heap.objs.size) (.ref z) .none) _ _ _
  refine wpAny_bind ?_
  unfold Builtin.List.listItems
  refine wpAny_bind (wpAny_seqItems hS rfl (wpAny_pure ?_))
  show wpAny _ A.in1.in1 (updateSeq s.heap.objs.size (fun _ => #[]) >>= fun _ => letGo (#[] : Array Value).toList.reverse >>= fun _ => Builtin.List.listExtendWith (.ref s.heap.objs.size) (.ref z) .none) _ _ _
  refine wpAny_bind (wpAny_updateSeq hS rfl ?_)
  have hS2 := Heap.get?_update_self (Obj.mapSeq (fun _ => (#[] : Array Value))) hS rfl
  have k2 : ∀ b o, s.heap.get? b = some o → ((s.heap.push { cls := .type "list", data := .seq #[] }).update s.heap.objs.size (Obj.mapSeq (fun _ => (#[] : Array Value)))).get? b = some o := fun b o e => (Heap.get?_update_other _ _ (lt e)).trans (pu b o e)
  refine wpAny_bind (wpAny_letGo ?_)
  unfold Builtin.List.listExtendWith
  have tyz : ∀ (s' : Shared), (∀ b o, s.heap.get? b = some o → s'.heap.get? b = some o) → s'.TypeIs (.ref z) "zip" := fun s' k => ⟨_, k _ _ hz, rfl⟩
  refine wpAny_bind (wpAny_typeOf (tyz _ k2) ?_)
  have q1 : Builtin.List.listSameRef (.ref s.heap.objs.size) (.ref z) = false := by simp [Builtin.List.listSameRef, nz]
  have q2 : (Value.type "zip" == Value.type "list") = false := by decide
  have q3 : (Value.type "zip" == Value.type "tuple") = false := by decide
  simp only [q1, q2, q3, Bool.or_false, Bool.false_eq_true, if_false]
  refine wpAny_bind (wpAny_pyIter_zip (k2 _ _ hz) ?_)
  refine wpAny_bind (wpAny_holding ?_)
  unfold Builtin.List.listLengthHint
  refine wpAny_bind (wpAny_specialOf (tyz _ k2) zip_len0 ?_)
  show wpAny _ A.in1.in1 (specialOf (Value.ref z) (Str.ofString "__length_hint__") >>= _) _ _ _
  refine wpAny_bind (wpAny_specialOf (tyz _ k2) zip_hint0 ?_)
  refine wpAny_pure ?_
  show wpAny _ A.in1.in1 (rule "list.extend.makes-room" >>= fun _ => Builtin.List.listTouch (.ref s.heap.objs.size) >>= fun _ =>
    again (.builtin "list.extend.loop" ⟨[.ref s.heap.objs.size, .ref z, .none], []⟩)) _ _ _
  refine wpAny_bind (wpAny_rule ?_)
  refine wpAny_bind ?_
  show wpAny _ A.in1.in1 (updateSeq s.heap.objs.size (·.push .none) >>= fun _ => updateSeq s.heap.objs.size (·.pop)) _ _ _
  refine wpAny_bind (wpAny_updateSeq hS2 rfl ?_)
  have hS3 := Heap.get?_update_self (Obj.mapSeq (·.push Value.none)) hS2 rfl
  refine wpAny_updateSeq (hz := by seq_fits) hS3 rfl ?_
  have hS4 := Heap.get?_update_self (Obj.mapSeq (·.pop)) hS3 rfl
  have k4 := fun b o (e : s.heap.get? b = some o) => ((Heap.get?_update_other _ (Obj.mapSeq (·.pop)) (lt e)).trans ((Heap.get?_update_other _ (Obj.mapSeq (·.push Value.none)) (lt e)).trans (k2 b o e)))
  have hsz : ((((s.heap.push { cls := .type "list", data := .seq #[] }).update s.heap.objs.size (Obj.mapSeq (fun _ => (#[] : Array Value)))).update s.heap.objs.size (Obj.mapSeq (·.push Value.none))).update s.heap.objs.size (Obj.mapSeq (·.pop))).objs.size = s.heap.objs.size + 1 := by
    rw [Heap.size_update, Heap.size_update, Heap.size_update, Heap.size_push]
  refine wpAny_pure ⟨plainId_quiet F.plain_extend_loop _, zip_loop (by simpa using hh) D nz nTI nTO n1 n2 n3 n4 hn (min xs.size ys.size) 0 _ #[] _ (Nat.sub_zero _) (Nat.zero_le _)
    ⟨k4 _ _ hTI, h1.at fun o e => k4 _ o e, h2.at fun o e => k4 _ o e, hl1.at fun o e => k4 _ o e, hl2.at fun o e => k4 _ o e, .inl ⟨k4 _ _ hz, a, b, k4 _ _ hTO⟩, _, k4 _ _ hTO⟩ rfl hS4 fun h' Ts c' hk hL hlen hTs hnd => ?_⟩
  refine ⟨rfl, hQ h' Ts c' (fun b o b1 b2 b3 b4 e => hk b o (Ne.symm (lt e)) b1 b2 b3 b4 (k4 b o e)) (by rw [hL]; simp) (by rw [hlen, Nat.sub_zero]) (fun j T e => ?_) hnd⟩
  obtain ⟨a1, x, y, a2, a3, a4⟩ := hTs j T e
  rw [Nat.zero_add] at a2 a3
  have a1' : _ ≤ T := a1
  rw [hsz] at a1'
  exact ⟨a1', x, y, a2, a3, a4⟩
end
/-- several new objects laid and tracked -/
theorem inv_laids {X : Cx} {pins : List (Addr × Obj)} {σ : L2.St} {H H' : Hp} {s : Shared} {h' : Heap} {t' : Nat} (I : Inv X pins σ H s) (k : ∀ b o, s.heap.get? b = some o → h'.get? b = some o) (sm : Same H H')
    (new : ∀ b o, H' b = some o → H b = some o ∨ (s.heap.objs.size ≤ b ∧ ObjOk X.prog X.w H' h' b o)) : Inv X pins σ H' { s with heap := h', toks := t' } := by
  refine I.un ⟨fun b o e _ _ _ => k b o e, fun b o e _ _ _ => ⟨o.slots, k b o e⟩, fun b o e n _ => ?_, fun b o e _ => ⟨o, k b o e⟩, fun b xs e => sm b _ e, fun b o u e => sm b _ e, fun b ps e => ⟨#[], by rw [sm b _ e]; simp⟩⟩ fun b o e => ?_
  · cases q : H' b with
    | none => rfl
    | some u =>
      rcases new b u q with h | ⟨h, _⟩
      · rw [n] at h
        cases h
      · exact absurd (Heap.lt_size e) (Nat.not_lt.mpr h)
  · rcases new b o e with h | ⟨_, h⟩
    · exact (I.hok b o h).stay (fun c u _ q => k c u q) (fun c q => sm c _ q) fun c xs q => sm c _ q
    · exact h
/-- the pairs at their places -/
def pairsH : List Addr → List V → List V → Hp → Hp
  | T :: Ts, u :: us, v :: vs, H => upd (pairsH Ts us vs H) T (.tup [u, v])
  | _, _, _, H => H
theorem pairsH_off : ∀ {Ts : List Addr} {us vs : List V} {H : Hp} {b : Addr}, b ∉ Ts → pairsH Ts us vs H b = H b
  | [], _, _, _, _, _ => by unfold pairsH; rfl
  | _ :: _, [], _, _, _, _ => by unfold pairsH; rfl
  | _ :: _, _ :: _, [], _, _, _ => by unfold pairsH; rfl
  | T :: Ts, u :: us, v :: vs, H, b, h => by
    show upd (pairsH Ts us vs H) T _ b = _
    rw [upd_ne (fun z => h (by rw [z]; exact List.mem_cons_self)), pairsH_off fun z => h (List.mem_cons_of_mem _ z)]
theorem pairsH_at : ∀ {Ts : List Addr} {us vs : List V} {H : Hp} {j : Nat} {T : Addr} {u v : V}, Ts.Nodup → Ts[j]? = some T → us[j]? = some u → vs[j]? = some v → pairsH Ts us vs H T = some (.tup [u, v])
  | [], _, _, _, _, _, _, _, _, h, _, _ => by simp at h
  | _ :: _, [], _, _, _, _, _, _, _, _, h, _ => by simp at h
  | _ :: _, _ :: _, [], _, _, _, _, _, _, _, _, h => by simp at h
  | T0 :: Ts, u0 :: us, v0 :: vs, H, j, T, u, v, nd, h1, h2, h3 => by
    show upd (pairsH Ts us vs H) T0 _ T = _
    cases j with
    | zero =>
      cases h1
      cases h2
      cases h3
      exact upd_same
    | succ j =>
      have h1' : Ts[j]? = some T := by simpa using h1
      have hne : T ≠ T0 := fun z => by
        rw [z] at h1'
        exact (List.nodup_cons.mp nd).1 (List.mem_of_getElem? h1')
      rw [upd_ne hne]
      exact pairsH_at (List.nodup_cons.mp nd).2 h1' (by simpa using h2) (by simpa using h3)
theorem vals_refs : ∀ Ts : List Addr, Vals (Ts.map V.ref) (Ts.map Value.ref)
  | [] => .nil
  | _ :: Ts => .cons rfl (vals_refs Ts)
/-! ### list(zip(xs, ys)) -/
def tLZ (K : PySem.W.Frag) (t1 t2 : TE) : TE := fun σ H Q => t1 σ H fun x H1 => t2 σ H1 fun y H2 => ∃ a b xs ys, x = .ref a ∧ y = .ref b ∧ SqL K H2 a xs ∧ SqL K H2 b ys ∧
  ∀ (p : Addr) (Ts : List Addr) (H' : Hp), Same H2 H' → H2 p = none → H' p = some (.lst (Ts.map V.ref)) → Ts.length = min xs.length ys.length →
    (∀ (j : Nat) (T : Addr), Ts[j]? = some T → H2 T = none ∧ ∃ u v, xs[j]? = some u ∧ ys[j]? = some v ∧ H' T = some (.tup [u, v])) → Q (.ref p) H'
theorem pe_listZip {X : Cx} {e1 e2 : Expr} {t1 t2 : TE} {p p2 pos pos2 : Pos} (hc : X.calm = true) (hg : Gl X "list") (hm : X.mg "list" = none) (hg2 : Gl X "zip") (hm2 : X.mg "zip" = none) (h1 : PE X e1 t1) (h2 : PE X e2 t2)
    (hs : starEach [Expr.Call (.Name "zip" p2) [e1, e2] [] pos2] X.env = (false, eval (.Call (.Name "zip" p2) [e1, e2] [] pos2) X.env) :: starEach [] X.env := by rfl) (hs2 : starEach [e1, e2] X.env = (false, eval e1 X.env) :: starEach [e2] X.env := by rfl)
    (hs3 : starEach [e2] X.env = (false, eval e2 X.env) :: starEach [] X.env := by rfl) (hpl : (backTo pos2 (starEach [e2] X.env)).any (·.1) = false := by rfl) :
    PE X (.Call (.Name "list" p) [.Call (.Name "zip" p2) [e1, e2] [] pos2] [] pos) (tLZ X.K t1 t2) := by
  refine ⟨fun pins s σ H Q I h => ?_⟩
  refine Call_ (ld_blt I hg hm PyProof.Rows.boot_list ?_)
  refine PyProof.Rows.callWith_type1 (PyProof.Rows.args_cons ?_ hs) hs rfl
  have ha : PA X [e1, e2] (tCons t1 (tCons t2 tNil)) := pa_cons h1 (pa_cons h2 pa_nil hs3) hs2
  refine Call_ (ld_blt I hg2 hm2 PyProof.Rows.boot_zip (PyProof.Rows.callWith_type1 (thn (ha.run pos2 pins s σ H (fun vs H2 => match vs with
    | [x, y] => ∃ a b xs ys, x = .ref a ∧ y = .ref b ∧ SqL X.K H2 a xs ∧ SqL X.K H2 b ys ∧
      ∀ (p : Addr) (Ts : List Addr) (H' : Hp), Same H2 H' → H2 p = none → H' p = some (.lst (Ts.map V.ref)) → Ts.length = min xs.length ys.length →
      (∀ (j : Nat) (T : Addr), Ts[j]? = some T → H2 T = none ∧ ∃ u v, xs[j]? = some u ∧ ys[j]? = some v ∧ H' T = some (.tup [u, v])) → Q (.ref p) H'
    | _ => False) I h) fun us s1 ⟨vs, H1, I1, r1, q1⟩ => ?_) hs2 hpl))
  match vs, q1 with
  | [x, y], ⟨a, b, xs, ys, ex, ey, ha, hb, q1⟩ =>
    subst ex ey
    obtain ⟨u1, u2, rfl, ra, rb⟩ := vals2 r1
    obtain rfl : u1 = Value.ref a := ra
    obtain rfl : u2 = Value.ref b := rb
    obtain ⟨its, rv, pl, hz⟩ := I1.list ha
    obtain ⟨its2, rv2, pl2, hz2⟩ := I1.list hb
    refine call_zip_2 pl.isList pl2.isList fun h' hzp hTI hTO hi1 hi2 hsz hk => PyProof.Rows.args_nil ?_
    have D := zipApart_new (n := s1.heap.objs.size) pl.lt pl2.lt
    have hmin : min its.toArray.size its2.toArray.size = min xs.length ys.length := by rw [List.size_toArray, List.size_toArray, ← rv.length, ← rv2.length]
    have I2 : Inv X pins σ H1 { s1 with heap := h' } := I1.kept (t' := s1.toks) hk
    refine call_list_zip (s := { s1 with heap := h' }) (I1.ok.hd hc) D hzp hTI hTO hi1 hi2 (Heap.IsList.at pl.isList fun o e => hk _ o e) (Heap.IsList.at pl2.isList fun o e => hk _ o e) (by rw [hmin]; omega) fun h2 Ts c' hk2 hL hlen hTs hnd => ?_
    rw [hmin] at hlen
    have kk : ∀ b o, s1.heap.get? b = some o → h2.get? b = some o := fun b o e => by
      have hb := Heap.lt_size e
      exact hk2 b o (Nat.ne_of_lt (Nat.lt_of_lt_of_le hb (Nat.le_add_right _ _))) (Nat.ne_of_lt (Nat.lt_of_lt_of_le hb (Nat.le_add_right _ _))) (Nat.ne_of_lt hb) (Nat.ne_of_lt (Nat.lt_of_lt_of_le hb (Nat.le_add_right _ _))) (hk b o e)
    have e5 : h'.objs.size = s1.heap.objs.size + 5 := hsz
    have hTn : ∀ T ∈ Ts, s1.heap.objs.size + 5 < T := fun T hT => by
      obtain ⟨j, hj⟩ := List.getElem?_of_mem hT
      have t2 : h'.objs.size < T := (hTs j T hj).1
      rw [e5] at t2
      exact t2
    have hTb : ∀ b : Nat, b < s1.heap.objs.size + 6 → b ∉ Ts := fun b hb hT => Nat.lt_irrefl _ (Nat.lt_of_lt_of_le (hTn b hT) (Nat.le_of_lt_succ hb))
    have hpS : h'.objs.size ∉ Ts := hTb _ (by rw [e5]; exact Nat.lt_succ_self _)
    have hfree : ∀ b, s1.heap.objs.size ≤ b → H1 b = none := fun b hb => I1.hok.fresh hb
    have sm : Same H1 (upd (pairsH Ts xs ys H1) h'.objs.size (.lst (Ts.map V.ref))) := fun b o e => by
      have hb := I1.hok.lt e
      have e1 : b ≠ h'.objs.size := Nat.ne_of_lt (by rw [e5]; exact Nat.lt_of_lt_of_le hb (Nat.le_add_right _ _))
      have e2 : b ∉ Ts := hTb b (Nat.lt_of_lt_of_le hb (Nat.le_add_right _ _))
      rw [upd_ne e1, pairsH_off e2]
      exact e
    have at_ : ∀ (j : Nat) (T : Addr), Ts[j]? = some T → ∃ u v, xs[j]? = some u ∧ ys[j]? = some v ∧ pairsH Ts xs ys H1 T = some (.tup [u, v]) ∧ ObjOk X.prog X.w (upd (pairsH Ts xs ys H1) h'.objs.size (.lst (Ts.map V.ref))) h2 T (.tup [u, v]) := fun j T hj => by
      obtain ⟨_, x, y, hx, hy, hp⟩ := hTs j T hj
      have hjl := (List.getElem?_eq_some_iff.mp hj).1
      have jx : j < xs.length := by omega
      have jy : j < ys.length := by omega
      obtain ⟨x', hx', rx⟩ := rv.get (List.getElem?_eq_getElem jx)
      obtain ⟨y', hy', ry⟩ := rv2.get (List.getElem?_eq_getElem jy)
      rw [List.getElem?_toArray, hx'] at hx
      rw [List.getElem?_toArray, hy'] at hy
      cases hx
      cases hy
      refine ⟨_, _, List.getElem?_eq_getElem jx, List.getElem?_eq_getElem jy, pairsH_at hnd hj (List.getElem?_eq_getElem jx) (List.getElem?_eq_getElem jy), ?_⟩
      exact ⟨by show 2 ≤ sizeLine; decide, [_, _], .cons rx (.cons ry .nil), _, hp, rfl, 0, rfl⟩
    have I3 : Inv X pins σ (upd (pairsH Ts xs ys H1) h'.objs.size (.lst (Ts.map V.ref))) { s1 with heap := h2, toks := s1.toks } := inv_laids I1 kk sm fun b o e => by
      by_cases hb : b = h'.objs.size
      · subst hb
        rw [upd_same] at e
        cases e
        refine .inr ⟨by rw [e5]; exact Nat.le_add_right _ _, by rw [List.length_map, hlen]; omega, Ts.map Value.ref, c', ?_, hL⟩
        exact vals_refs Ts
      · rw [upd_ne hb] at e
        by_cases hT : b ∈ Ts
        · obtain ⟨j, hj⟩ := List.getElem?_of_mem hT
          obtain ⟨u, v, _, _, h3, h4⟩ := at_ j b hj
          rw [h3] at e
          cases e
          exact .inr ⟨Nat.le_trans (Nat.le_add_right _ 5) (Nat.le_of_lt (hTn b hT)), h4⟩
        · rw [pairsH_off hT] at e
          exact .inl e
    refine ⟨.ref h'.objs.size, _, I3, rfl, q1 h'.objs.size Ts _ sm (hfree _ (by rw [e5]; exact Nat.le_add_right _ _)) upd_same hlen fun j T hj => ?_⟩
    obtain ⟨u, v, h3, h4, h5, _⟩ := at_ j T hj
    have hTm := List.mem_of_getElem? hj
    refine ⟨hfree T (Nat.le_trans (Nat.le_add_right _ 5) (Nat.le_of_lt (hTn T hTm))), u, v, h3, h4, ?_⟩
    rw [upd_ne (fun z => hpS (by rw [← z]; exact hTm))]
    exact h5
/-! ### sum(lists, []) -/
theorem args_sum2 (a b : Value) : argsOk "sum" ⟨[a, b], []⟩ := by unfold argsOk; kernel_rfl
/-- a list object as it is made -/
abbrev lsO (xs : List Value) (n : Nat) : Obj := { cls := .type "list", dict := none, data := .seq xs.toArray n, slots := #[] }
section
variable {prog : Program} {w : World} {A : Around} {E : Value → Shared → Prop} {I l : Addr} {items : List Addr}
theorem sum_lists {R : Result → Shared → Prop} (hh : A.handled = none) (hIl : l ≠ I) (S : Addr) (hSI : S ≠ I) (hSl : S ≠ l) (rows : List (List Value)) (hlen : items.length = rows.length) (L : Nat) (hfl : rows.flatten.length ≤ 1000) (hIL : ∀ q ∈ items, q ≠ I ∧ q ≠ S) :
    ∀ (k i : Nat) (s : Shared) (T : Addr) (acc : List Value) (c n : Nat), rows.length - i = k → i ≤ rows.length → s.heap.IsListIter I l i → s.heap.IsList l (items.map Value.ref).toArray → s.heap.get? S = some { cls := .type "list", dict := none, data := .seq #[.ref T] c, slots := #[] } →
    T ≠ S → T ≠ I → s.heap.get? T = some (lsO acc n) → acc = (rows.take i).flatten → (∀ (j : Nat) (q : Addr) (r : List Value), items[j]? = some q → rows[j]? = some r → ∃ m, s.heap.get? q = some (lsO r m)) → L ≤ s.heap.objs.size → (i = 0 ∨ L ≤ T) →
    (∀ (s' : Shared) (T' : Addr) (n' : Nat), (∀ b o, b ≠ S → b ≠ I → s.heap.get? b = some o → s'.heap.get? b = some o) → s' = { s with heap := s'.heap, toks := s'.toks } → s'.heap.get? T' = some (lsO rows.flatten n') → (rows.length = 0 ∨ L ≤ T') → R (.ok (.ret (.ref T'))) s') →
    codeAny (model prog w) A (.builtin "sum.loop" ⟨[.ref I, .ref S, rawInt 2, rawInt 0], []⟩) R s := by
  have hh2 : A.in1.handled = none := by simpa using hh
  have hsz : (items.map Value.ref).toArray.size = rows.length := by simp [hlen]
  intro k
  induction k with
  | zero =>
    intro i s T acc c n hk hi hit hl hS hTS hTI hT hacc hrows hL hiL hR
    have hin : i = rows.length := by omega
    subst hin
    refine codeAny_builtin F.entry_sum_loop ?_
    rw [Around.under_plainId F.plain_sum_loop _]
    show wpAny _ A.in1 (seqItems? (.ref S) >>= _) _ _ s
    refine wpAny_bind (wpAny_seqItems hS rfl ?_)
    show wpAny _ A.in1 (tryCatch (pyNext (.ref I)) _ >>= _) _ _ s
    refine wpAny_bind (wpAny_tryCatch (wpAny_pyNext_list_end hh2 hit hl (Array.getElem?_eq_none (by rw [hsz]; exact Nat.le_refl _)) fun h' he' => ?_))
    refine wpAny_pure (hR { s with heap := h' } T n (fun b o _ b2 e => he' b o b2 e) rfl ?_ hiL)
    have := he' T _ hTI hT
    rw [hacc, List.take_length] at this
    exact this
  | succ k ih =>
    intro i s T acc c n hk hi hit hl hS hTS hTI hT hacc hrows hL hiL hR
    have hlt : i < rows.length := by omega
    refine codeAny_builtin F.entry_sum_loop ?_
    rw [Around.under_plainId F.plain_sum_loop _]
    show wpAny _ A.in1 (seqItems? (.ref S) >>= _) _ _ s
    refine wpAny_bind (wpAny_seqItems hS rfl ?_)
    show wpAny _ A.in1 (tryCatch (pyNext (.ref I)) _ >>= _) _ _ s
    obtain ⟨q, hqi⟩ : ∃ q, items[i]? = some q := ⟨_, List.getElem?_eq_getElem (by omega)⟩
    refine wpAny_bind (wpAny_tryCatch (wpAny_pyNext_list_item hit hl (x := .ref q) (by rw [List.getElem?_toArray, List.getElem?_map, hqi]; rfl) fun h' hit' hs' => ?_))
    obtain ⟨hqI, hqS⟩ := hIL q (List.mem_of_getElem? hqi)
    have hri := List.getElem?_eq_getElem hlt
    generalize rows[i] = r at hri
    obtain ⟨m, hqo⟩ := hrows i q r hqi hri
    have k1 : ∀ b o, b ≠ I → s.heap.get? b = some o → h'.get? b = some o := fun b o b2 e => hs'.extBut b o b2 e
    have hl' := hl.extBut hs'.extBut hIl
    have hss : h'.objs.size = s.heap.objs.size := hs'.1
    have hS' := k1 S _ hSI hS
    have hT' := k1 T _ hTI hT
    have hq' := k1 q _ hqI hqo
    show wpAny _ A.in1 ((holding [Value.ref q] (binaryOp .Add (.ref T) (.ref q))).attempt >>= _) _ _ _
    refine wpAny_bind (wpAny_attempt (wpAny_holding (PySem.P.add_list hT' hq' ?_ ?_)))
    · have hN : h'.objs.size ≠ S := Nat.ne_of_gt (Heap.lt_size hS')
      have hNI : h'.objs.size ≠ I := by
        obtain ⟨o, e, _⟩ := hit'
        exact Nat.ne_of_gt (Heap.lt_size e)
      have hS1 : (h'.push { cls := .type "list", data := .seq (acc.toArray ++ r.toArray) }).get? S = some { cls := .type "list", dict := none, data := .seq #[.ref T] c, slots := #[] } := Heap.get?_push_of_some _ hS'
      show wpAny _ A.in1 (updateSeq S (fun _ => #[.ref h'.objs.size]) >>= _) _ _ _
      refine wpAny_bind (wpAny_updateSeq hS1 rfl ?_)
      have hS2 := Heap.get?_update_self (Obj.mapSeq fun _ => #[Value.ref h'.objs.size]) hS1 rfl
      refine wpAny_bind (wpAny_letGo ?_)
      have k3 : ∀ b o, b ≠ S → h'.get? b = some o → (((h'.push { cls := .type "list", data := .seq (acc.toArray ++ r.toArray) }).update S (Obj.mapSeq fun _ => #[Value.ref h'.objs.size])).update S (Obj.mapSeq fun _ => #[Value.ref h'.objs.size])).get? b = some o := fun b o hb e =>
        (Heap.get?_update_other _ _ (Ne.symm hb)).trans ((Heap.get?_update_other _ _ (Ne.symm hb)).trans (Heap.get?_push_of_some _ e))
      have hT3 : (((h'.push { cls := .type "list", data := .seq (acc.toArray ++ r.toArray) }).update S (Obj.mapSeq fun _ => #[Value.ref h'.objs.size])).update S (Obj.mapSeq fun _ => #[Value.ref h'.objs.size])).get? h'.objs.size = some (lsO (acc ++ r) 0) :=
        (Heap.get?_update_other _ _ (Ne.symm hN)).trans ((Heap.get?_update_other _ _ (Ne.symm hN)).trans ((Heap.get?_push_size _ rfl).trans (by simp [lsO])))
      have hacc2 : acc ++ r = (rows.take (i + 1)).flatten := by rw [hacc, List.take_add_one, hri]; simp
      have hsz3 : (((h'.push { cls := .type "list", data := .seq (acc.toArray ++ r.toArray) }).update S (Obj.mapSeq fun _ => #[Value.ref h'.objs.size])).update S (Obj.mapSeq fun _ => #[Value.ref h'.objs.size])).objs.size = h'.objs.size + 1 := by
        rw [Heap.size_update, Heap.size_update, Heap.size_push]
      have hLs : L ≤ h'.objs.size := by rw [hss]; exact hL
      refine wpAny_bind (wpAny_updateSeq hS2 rfl (wpAny_pure ⟨plainId_quiet F.plain_sum_loop _, ih (i + 1) _ h'.objs.size (acc ++ r) _ 0 (by omega) hlt (hit'.at fun o e => k3 I o (Ne.symm hSI) e) (hl'.at fun o e => k3 l o (Ne.symm hSl) e) (Heap.get?_update_self _ hS2 rfl) hN hNI hT3 hacc2
        (fun j q' r' e1 e2 => ?_) (by rw [hsz3]; exact Nat.le_succ_of_le hLs) (.inr hLs) fun s'' T' n' hk2 g1 hT'' hL2 => ?_⟩))
      · obtain ⟨a1, a2⟩ := hIL q' (List.mem_of_getElem? e1)
        obtain ⟨m', hm'⟩ := hrows j q' r' e1 e2
        exact ⟨m', k3 q' _ a2 (k1 q' _ a1 hm')⟩
      · exact hR s'' T' n' (fun b o b1 b2 e => hk2 b o b1 b2 (k3 b o b1 (k1 b o b2 e))) g1 hT'' hL2
    · have h1 : (acc ++ r).length ≤ rows.flatten.length := by
        rw [hacc, show (rows.take i).flatten ++ r = (rows.take (i + 1)).flatten from by rw [List.take_add_one, hri]; simp]
        have h0 : rows.flatten = (rows.take (i + 1)).flatten ++ (rows.drop (i + 1)).flatten := by rw [← List.flatten_append, List.take_append_drop]
        rw [h0, List.length_append]
        exact Nat.le_add_right _ _
      rw [List.length_append] at h1
      rw [List.size_toArray, List.size_toArray, sizeLine_eq]
      omega
theorem call_sum_lists {s : Shared} {b : Addr} {nb : Nat} {Q : Value → Shared → Prop} (hh : A.handled = none) (hl : s.heap.IsList l (items.map Value.ref).toArray) (hb : s.heap.get? b = some (lsO [] nb)) (rows : List (List Value)) (hlen : items.length = rows.length) (hne : rows.length ≠ 0) (hfl : rows.flatten.length ≤ 1000)
    (hrows : ∀ (j : Nat) (q : Addr) (r : List Value), items[j]? = some q → rows[j]? = some r → ∃ m, s.heap.get? q = some (lsO r m))
    (hQ : ∀ (s' : Shared) (T : Addr) (n' : Nat), (∀ b o, s.heap.get? b = some o → s'.heap.get? b = some o) → s' = { s with heap := s'.heap, toks := s'.toks } → s'.heap.get? T = some (lsO rows.flatten n') → s.heap.objs.size ≤ T → Q (.ref T) s') :
    wpAny (model prog w) A (call (.builtin "sum") [.ref l, .ref b]) Q E s := by
  have hll : l < s.heap.objs.size := by obtain ⟨o, e, _⟩ := hl; exact Heap.lt_size e
  have hbb : b < s.heap.objs.size := Heap.lt_size hb
  refine call_function_tree F.kind_sum F.plain_sum F.entry_sum (args_sum2 _ _) ?_
  unfold Builtin.«sum»
  simp only [List.length_cons, List.length_nil]
  rw [if_neg (by decide)]
  refine wpAny_bind (wpAny_of_eq (show Builtin.Builtins.bindParams "sum" ["start"] 0 ⟨[.ref b], []⟩ = pure [some (.ref b)] from rfl) ?_)
  refine wpAny_bind (wpAny_pyIter_list hl ?_)
  refine wpAny_bind (wpAny_pure ?_)
  simp only [List.forIn_cons, List.forIn_nil]
  have tyb : ∀ (s' : Shared), s'.heap.get? b = some (lsO [] nb) → s'.TypeIs (.ref b) "list" := fun s' e => ⟨_, e, rfl⟩
  have hb1 : (s.heap.push { cls := .type "list_iterator", data := .fields #[.ref l, .int 0 0] }).get? b = some (lsO [] nb) := Heap.get?_push_of_some _ hb
  refine wpAny_bind (wpAny_bind (wpAny_bind (wpAny_isInstance (T := "list") (b := false) (tyb _ hb1) F.sub_list_str ?_)))
  simp only [Bool.false_eq_true, if_false]
  refine wpAny_pure (wpAny_bind (wpAny_bind (wpAny_isInstance (T := "list") (b := false) (tyb _ hb1) F.sub_list_bytes ?_)))
  simp only [Bool.false_eq_true, if_false]
  refine wpAny_pure (wpAny_bind (wpAny_bind (wpAny_isInstance (T := "list") (b := false) (tyb _ hb1) F.sub_list_bytearray ?_)))
  simp only [Bool.false_eq_true, if_false]
  refine wpAny_pure (wpAny_pure ?_)
  refine wpAny_bind (wpAny_newObj_type ?_)
  generalize hh1 : s.heap.push { cls := .type "list_iterator", data := .fields #[.ref l, .int 0 0] } = h1 at hb1
  have z1 : h1.objs.size = s.heap.objs.size + 1 := by rw [← hh1, Heap.size_push]
  have k1 : ∀ b o, s.heap.get? b = some o → h1.get? b = some o := fun b o e => by rw [← hh1]; exact Heap.get?_push_of_some _ e
  have hit : h1.IsListIter s.heap.objs.size l 0 := ⟨_, by rw [← hh1]; exact Heap.get?_push_size _ rfl, rfl, rfl⟩
  have hS : (h1.push { cls := .type "list", data := .seq #[.ref b] }).get? h1.objs.size = some { cls := .type "list", dict := none, data := .seq #[.ref b] 0, slots := #[] } := Heap.get?_push_size _ rfl
  have k2 : ∀ b' o, h1.get? b' = some o → (h1.push { cls := .type "list", data := .seq #[.ref b] }).get? b' = some o := fun _ o e => Heap.get?_push_of_some _ e
  have qlt : ∀ q ∈ items, q < s.heap.objs.size := fun q hq => by
    obtain ⟨j, hj⟩ := List.getElem?_of_mem hq
    have hjl : j < rows.length := by rw [← hlen]; exact (List.getElem?_eq_some_iff.mp hj).1
    obtain ⟨m, e⟩ := hrows j q _ hj (List.getElem?_eq_getElem hjl)
    exact Heap.lt_size e
  have nI : ∀ b : Nat, b < s.heap.objs.size → b ≠ s.heap.objs.size := fun b h => Nat.ne_of_lt h
  have nS : ∀ b : Nat, b < s.heap.objs.size → b ≠ h1.objs.size := fun b h => by rw [z1]; exact Nat.ne_of_lt (Nat.lt_succ_of_lt h)
  have nSI : h1.objs.size ≠ s.heap.objs.size := by rw [z1]; exact Nat.succ_ne_self _
  have zS : (h1.push { cls := .type "list", data := .seq #[.ref b] }).objs.size = s.heap.objs.size + 2 := by rw [Heap.size_push, z1]
  refine wpAny_pure ⟨plainId_quiet F.plain_sum_loop _, sum_lists hh (nI l hll) h1.objs.size nSI (Ne.symm (nS l hll)) rows hlen s.heap.objs.size hfl (fun q hq => ⟨nI q (qlt q hq), nS q (qlt q hq)⟩) rows.length 0 _ b [] 0 nb (Nat.sub_zero _) (Nat.zero_le _) (hit.at fun o e => k2 _ o e) (hl.at fun o e => k2 _ o (k1 _ o e)) hS
    (nS b hbb) (nI b hbb) (k2 _ _ hb1) rfl (fun j q r e1 e2 => ?_) (by show s.heap.objs.size ≤ (h1.push _).objs.size; rw [zS]; exact Nat.le_add_right _ _) (.inl rfl) fun s' T' n' hk e hT hL => ?_⟩
  · obtain ⟨m, em⟩ := hrows j q r e1 e2
    exact ⟨m, k2 _ _ (k1 _ _ em)⟩
  · refine hQ s' T' n' (fun b o e => hk b o (nS b (Heap.lt_size e)) (nI b (Heap.lt_size e)) (k2 _ _ (k1 _ _ e))) e hT ?_
    rcases hL with h | h
    · exact absurd h hne
    · exact h
/-! ### the rule -/
def rSumL (K : PySem.W.Frag) : List V → Hp → VK → Prop := fun vs H Q => ∃ (a b : Addr) (us : List V) (rows : List (List Int)), vs = [.ref a, .ref b] ∧ SqL K H a us ∧ Paired (fun (u : V) (r : List Int) => ∃ q, u = .ref q ∧ H q = some (.lst (r.map V.int))) us rows ∧ H b = some (.lst []) ∧ rows ≠ [] ∧ rows.flatten.length ≤ 1000 ∧
  ∀ (p : Addr) (H' : Hp), Same H H' → H p = none → H' p = some (.lst (rows.flatten.map V.int)) → Q (.ref p) H'
/-- the rows' objects behind their values -/
theorem rows_phys {X : Cx} {pins : List (Addr × Obj)} {σ : L2.St} {H : Hp} {s : Shared} (I : Inv X pins σ H s) : ∀ {us : List V} {rows : List (List Int)} {its : List Value}, Paired (fun (u : V) (r : List Int) => ∃ q, u = .ref q ∧ H q = some (.lst (r.map V.int))) us rows → Vals us its →
    ∃ (items : List Addr) (vrows : List (List Value)), its = items.map Value.ref ∧ items.length = vrows.length ∧ vrows.length = rows.length ∧ Vals (rows.flatten.map V.int) vrows.flatten ∧ ∀ (j : Nat) (q : Addr) (r : List Value), items[j]? = some q → vrows[j]? = some r → ∃ m, s.heap.get? q = some (lsO r m)
  | _, _, _, .nil, .nil => ⟨[], [], rfl, rfl, rfl, .nil, fun j q r e => by simp at e⟩
  | _, _, _, .cons ⟨q, e, hq⟩ t, .cons r rr => by
    subst e
    cases r
    obtain ⟨items, vrows, h1, h2, h3, h4, h5⟩ := rows_phys I t rr
    obtain ⟨_, its, n, rv, e⟩ := I.hok _ _ hq
    refine ⟨q :: items, its :: vrows, by rw [h1]; rfl, by simp [h2], by simp [h3], ?_, fun j q' r' e1 e2 => ?_⟩
    · rw [List.flatten_cons, List.flatten_cons, List.map_append]
      exact L2.Vals.append rv h4
    · cases j with
      | zero =>
        cases e1
        cases e2
        exact ⟨n, e⟩
      | succ j => exact h5 j q' r' (by simpa using e1) (by simpa using e2)
theorem call_sumL {X : Cx} (hc : X.calm = true) : CallR X (.builtin "sum") (rSumL X.K) := by
  intro pins s σ H vs us Q I r h
  obtain ⟨a, b, xs, rows, rfl, hs, hp, hb, hne, hfl, q⟩ := h
  obtain ⟨its, rv, hl, hz⟩ := I.list hs
  obtain ⟨u1, u2, rfl, r1, r2⟩ := vals2 r
  obtain rfl : u1 = Value.ref a := r1
  obtain rfl : u2 = Value.ref b := r2
  obtain ⟨_, itb, nb, rb, eb⟩ := I.hok _ _ hb
  cases rb
  obtain ⟨items, vrows, rfl, h2, h3, h4, h5⟩ := rows_phys I hp rv
  have hlenf : vrows.flatten.length = rows.flatten.length := by rw [← h4.length, List.length_map]
  refine call_sum_lists (I.ok.hd hc) hl.isList eb vrows h2 (by rw [h3]; exact fun z => hne (List.length_eq_zero_iff.mp z)) (by rw [hlenf]; exact hfl) h5 fun s' T n' hk e hT hL => ?_
  rw [e]
  have hn : H T = none := I.hok.fresh hL
  refine ⟨.ref T, upd H T (.lst (rows.flatten.map V.int)), I.laid (t' := s'.toks) hk hL ⟨by rw [List.length_map, sizeLine_eq]; omega, vrows.flatten, n', h4, hT⟩, rfl, q T _ (fun b o e => ?_) hn upd_same⟩
  rw [upd_ne (ne_of_none e hn)]
  exact e
end
end RK
-- D9
set_option Elab.async false
set_option linter.all false
set_option maxRecDepth 100000
set_option maxHeartbeats 4000000
/-! D9: the data readings of G3's rules; a display of one pair -/
namespace RK
open PySem PySem.Spec PyProof.Rows L2

section
variable {K : PySem.W.Frag} {te tb : TE} {de db : DT} {ta : TA} {da : DAT}
/-- a list or a tuple, walked; data meanwhile -/
def diQ (de : DT) : DI := fun env P => de env fun r e1 => onDa r fun d => match d with
  | .lst xs => P xs e1
  | .tup xs => P xs e1
  | _ => False
theorem ri_seq (a : RE K te de) : RI K (iSeq K te) (diQ de) := by
  intro c G σ H env P R S h post
  refine a c G σ H env _ _ S h fun v1 r1 G1 H1 e1 T1 w1 h1 => ?_
  obtain ⟨d, ed, h2⟩ := onDa_some h1
  obtain ⟨G2, T2, ad, _, _⟩ := w1.absorb S T1 ed
  split at h2
  · cases ad with
    | lst hg av => exact ⟨_, rfl, .inl ⟨⟨_, .inl (.inl (T2.st.gh _ _ hg))⟩, post _ _ G2 H1 e1 T2 (Wk.same walk_list rfl (fun H s => .inl (.inl (s _ _ hg))) av) h2⟩⟩
  · cases ad with
    | tup hg av => exact ⟨_, rfl, .inr ⟨⟨_, .inl (.inl (T2.st.gh _ _ hg))⟩, post _ _ G2 H1 e1 T2 (Wk.same walk_tup rfl (fun H s => .inl (.inl (s _ _ hg))) av) h2⟩⟩
  · exact False.elim h2
def diEQ (da : DAT) : DI := fun env P => da env fun rs e1 => match rs with
  | [.da (.lst xs)] => P (enumD xs) e1
  | [.da (.tup xs)] => P (enumD xs) e1
  | _ => False
theorem ri_enumS (a : RA K ta da) : RI K (iEnumS K ta) (diEQ da) := by
  intro c G σ H env P R S h post
  refine a c G σ H env _ _ S h fun vs rs G1 H1 e1 T1 w1 h1 => ?_
  split at h1
  · obtain ⟨v, rfl, w2⟩ := w1.one
    obtain ⟨p, us, rfl, hp, au⟩ := lst_at (c := c) w2
    refine ⟨p, us, rfl, .inl ⟨.inl (.inl (T1.st.gh _ _ hp)), post _ _ G1 H1 e1 T1 ?_ h1⟩⟩
    refine Wk.pairsO (walk_enum (xs := us)) (fun H s => .inl (.inl (s _ _ hp))) (by rw [enumD_len, au.length]) fun i x f g hx hf hg => ?_
    obtain ⟨b1, e, hb⟩ := enumD_get hx
    obtain ⟨v2, e2, at2⟩ := au.get hb
    rw [hg] at e2
    cases e2
    cases hf
    exact ⟨_, b1, e, .int _, at2⟩
  · obtain ⟨v, rfl, w2⟩ := w1.one
    cases w2 with
    | da a =>
      cases a with
      | tup hp au =>
        refine ⟨_, _, rfl, .inr ⟨.inl (.inl (T1.st.gh _ _ hp)), post _ _ G1 H1 e1 T1 ?_ h1⟩⟩
        refine Wk.pairs walk_pairs (fun H s => .inl (.inl (s _ _ hp))) (by rw [enumD_len, au.length]) fun i z hz => ?_
        obtain ⟨b1, e, hb⟩ := enumD_get hz
        obtain ⟨v2, e2, at2⟩ := au.get hb
        refine ⟨_, b1, e, .int _, ?_⟩
        rw [List.getD_eq_getElem?_getD, e2]
        exact at2
  · exact False.elim h1
/-- list(zip(xs, ys)): a new list of pairs -/
def dLZ (da db : DT) : DT := fun env P => da env fun r1 e1 => db e1 fun r2 e2 => onL e2 r1 fun xs => onL e2 r2 fun ys => P (.fl (zipD xs ys)) e2
theorem re_listZip (a : RE K te de) (b : RE K tb db) : RE K (tLZ K te tb) (dLZ de db) := by
  intro c G σ H env P Q S h post
  refine a c G σ H env _ _ S h fun v1 r1 G1 H1 e1 T1 w1 h1 => ?_
  refine b c G1 σ H1 e1 _ _ T1.st h1 fun v2 r2 G2 H2 e2 T2 w2 h2 => ?_
  obtain ⟨xs, ex, h3⟩ := onL_some h2
  obtain ⟨ys, ey, h4⟩ := onL_some h3
  have S2 := T2.st
  obtain ⟨p, us, rfl, hp, au⟩ := vL_at S2 (w1.keep T2) ex
  obtain ⟨q, ws, rfl, hq, aw⟩ := vL_at S2 w2 ey
  refine ⟨p, q, us, ws, rfl, rfl, .inl (.inl hp), .inl (.inl hq), fun l Ts H' hh hl hl' hlen hT => ?_⟩
  -- the pairs come into the frame
  let G3 : Hp := fun a => if a ∈ Ts then H' a else G2 a
  have g3i : ∀ a, a ∈ Ts → G3 a = H' a := fun a ha => if_pos ha
  have g3o : ∀ a, a ∉ Ts → G3 a = G2 a := fun a ha => if_neg ha
  have tn : ∀ a, a ∈ Ts → H2 a = none := fun a ha => by
    obtain ⟨j, hj⟩ := List.getElem?_of_mem ha
    exact (hT j a hj).1
  have gn : ∀ a, a ∈ Ts → G2 a = none := fun a ha => S2.gh.free (tn a ha)
  have gg : Same G2 G3 := fun a o e => by
    rw [g3o a (fun z => by rw [gn a z] at e; cases e)]
    exact e
  have gh : Same G3 H' := fun a o e => by
    by_cases ha : a ∈ Ts
    · rw [g3i a ha] at e
      exact e
    · rw [g3o a ha] at e
      exact hh a o (S2.gh a o e)
  have nl : l ∉ Ts := fun hm => by
    obtain ⟨j, hj⟩ := List.getElem?_of_mem hm
    obtain ⟨_, u, v, _, _, e⟩ := hT j l hj
    rw [hl'] at e
    cases e
  have T3 : Stp K c G2 σ H2 e2 G3 H' e2 := Stp.ext S2 gg gh (fun a e1 e2 => by
    rw [g3o a (fun z => e1 (tn a z))]
    exact e2) hh
  have hL : At K G3 (.ref l) (.lst (zipD xs ys)) → True := fun _ => True.intro
  have pairs : Ats K G3 (Ts.map V.ref) (zipD xs ys) := by
    have hz : (zipD xs ys).length = Ts.length := by rw [zipD_len, hlen, au.length, aw.length]
    have key : ∀ (Ts' : List Addr) (zs : List Da), Ts'.length = zs.length → (∀ (j : Nat) (T : Addr) (z : Da), Ts'[j]? = some T → zs[j]? = some z → At K G3 (.ref T) z) → Ats K G3 (Ts'.map V.ref) zs := by
      intro Ts'
      induction Ts' with
      | nil =>
        intro zs hl _
        cases zs with
        | nil => exact .nil
        | cons z zs => cases hl
      | cons T Ts' ih =>
        intro zs hl hA
        cases zs with
        | nil => cases hl
        | cons z zs => exact .cons (hA 0 T z rfl rfl) (ih zs (Nat.succ.inj hl) fun j T' z' h1 h2 => hA (j + 1) T' z' (by simpa using h1) (by simpa using h2))
    refine key Ts _ hz.symm fun j T z hj hz => ?_
    obtain ⟨x, y, rfl, h5, h6⟩ := zipD_get hz
    obtain ⟨_, u, v, h7, h8, h9⟩ := hT j T hj
    obtain ⟨u', e7, a7⟩ := au.get h5
    obtain ⟨v', e8, a8⟩ := aw.get h6
    rw [h7] at e7
    rw [h8] at e8
    cases e7
    cases e8
    exact .tup (by rw [g3i T (List.mem_of_getElem? hj)]; exact h9) (.cons (a7.mono gg) (.cons (a8.mono gg) .nil))
  have sH : ∀ b, H b ≠ none → H2 b ≠ none := fun b hb => T2.al b (T1.al b hb)
  have lH : H l = none := by
    cases z : H l with
    | none => rfl
    | some o => exact absurd hl (sH l (by rw [z]; exact nn))
  exact post _ _ G3 H' e2 ((T1.trans T2).trans T3) (.fl lH (by rw [g3o l nl]; exact S2.free hl) hl' pairs fun i w => S2.notOwn hl i ((T3.ow i l).mp w)) h4
/-- text * int -/
def kMulS : KO := fun r1 r2 env P => onStr r1 fun z => onInt r2 fun n => 0 ≤ n ∧ z.length * n.toNat ≤ 1000000 ∧ n < 1000000 ∧ P (.da (.str (repS z n.toNat))) env
theorem ro_mulS : RO K rMulS kMulS := by
  intro c Hs G σ H env x y r1 r2 P Q S w1 w2 h post
  obtain ⟨z, rfl, h1⟩ := onStr_some h
  obtain ⟨n, rfl, h2, h3, h4, h5⟩ := onInt_some h1
  cases w1.str
  cases w2.int
  exact ⟨z, n, rfl, rfl, h2, h3, h4, post _ _ G H env (Stp.refl S) (.da (.str _)) h5⟩
/-- rows of ints, as addresses -/
theorem rows_at {G H : Hp} (s : Same G H) : ∀ {us : List V} {rows : List (List Int)}, Ats K G us (lD rows) → Paired (fun (u : V) (r : List Int) => ∃ q, u = .ref q ∧ H q = some (.lst (r.map V.int))) us rows
  | _, [], h => by
    cases h
    exact .nil
  | _, r :: rows, h => by
    cases h with
    | cons a t =>
      cases a with
      | lst g b =>
        cases b.ints
        exact .cons ⟨_, rfl, s _ _ g⟩ (rows_at s t)
def kSumL : KC := fun rs0 env0 P0 => k2 (fun r r' env P => onL env r fun xs => onL env r' fun ys => ys = [] ∧ ∃ rows, xs = lD rows ∧ rows ≠ [] ∧ rows.flatten.length ≤ 1000 ∧ P (.fl (iD rows.flatten)) env) rs0 env0 P0
theorem rc_sumL : RC K (rSumL K) kSumL := by
  intro c Hs G σ H env xs rs P Q S w h post
  obtain ⟨r, r', rfl, h1⟩ := k2_some h
  obtain ⟨v, u, rfl, w1, w2⟩ := w.two
  obtain ⟨ds, ed, h2⟩ := onL_some h1
  obtain ⟨es, ee, rfl, rows, rfl, hne, hl, h3⟩ := onL_some h2
  obtain ⟨p, us, rfl, hp, au⟩ := vL_at S w1 ed
  obtain ⟨q, ws, rfl, hq, aw⟩ := vL_at S w2 ee
  cases aw
  refine ⟨p, q, us, rows, rfl, .inl (.inl hp), rows_at S.gh au, hq, hne, hl, fun l H' hh hl hl' => ?_⟩
  have T : Stp K c G σ H env G H' env := Stp.ext S (Same.refl G) (S.gh.trans hh) (fun _ _ e => e) hh
  exact post _ _ G H' env T (.fl hl (S.free hl) hl' (Ats.ofInts _) fun i => S.notOwn hl i) h3
def dSS (de : DT) : DT := fun env P => de env fun r e1 => onL e1 r fun xs => ∃ ns, xs = iD ns ∧ ns.length ≤ 1000 ∧ (∀ l : List Int, l.Nodup → (∀ k ∈ l, k ∈ ns) → l.length < 64) ∧
  ∀ ns' : List Int, ns'.Pairwise (· < ·) → (∀ k, k ∈ ns' ↔ k ∈ ns) → P (.fl (iD ns')) e1
theorem re_sortedSet (a : RE K te de) : RE K (tSS K te) (dSS de) := by
  intro c G σ H env P Q S h post
  refine a c G σ H env _ _ S h fun v1 r1 G1 H1 e1 T1 w1 h1 => ?_
  obtain ⟨ds, ed, ns, rfl, hl, hd, h2⟩ := onL_some h1
  obtain ⟨p, us, rfl, hp, au⟩ := vL_at T1.st w1 ed
  cases au.ints
  refine ⟨p, ns, rfl, .inl (.inl hp), hl, hd, fun ns' l H' h3 h4 hh hl hl' => ?_⟩
  have T : Stp K c G1 σ H1 e1 G1 H' e1 := Stp.ext T1.st (Same.refl G1) (T1.st.gh.trans hh) (fun _ _ e => e) hh
  have w : AtR K H1 G1 σ H' e1 (.ref l) (.fl (iD ns')) := .fl hl (T1.st.free hl) hl' (Ats.ofInts _) fun i => T1.st.notOwn hl i
  exact post _ _ G1 H' e1 (T1.trans T) (w.start T1.al) (h2 ns' h3 h4)
/-- tuples of ints -/
abbrev tD (ts : List (List Int)) : List Da := ts.map fun r => Da.tup (iD r)
theorem tups_at {G H : Hp} (s : Same G H) : ∀ {us : List V} {rows : List (List Int)}, Ats K G us (tD rows) → Paired (fun (u : V) (r : List Int) => ∃ q, u = .ref q ∧ H q = some (.tup (r.map V.int))) us rows
  | _, [], h => by
    cases h
    exact .nil
  | _, r :: rows, h => by
    cases h with
    | cons a t =>
      cases a with
      | tup g b =>
        cases b.ints
        exact .cons ⟨_, rfl, s _ _ g⟩ (tups_at s t)
theorem perm_at {G : Hp} {us ws : List V} (h : ws.Perm us) : ∀ {ts : List (List Int)}, Ats K G us (tD ts) → ∃ ts', ts'.Perm ts ∧ Ats K G ws (tD ts') := by
  induction h with
  | nil =>
    intro ts a
    cases ts with
    | nil => exact ⟨[], .refl _, .nil⟩
    | cons t ts => cases a
  | cons x _ ih =>
    intro ts a
    cases ts with
    | nil => cases a
    | cons t ts =>
      cases a with
      | cons h t' =>
        obtain ⟨ts', hp, ha⟩ := ih t'
        exact ⟨t :: ts', hp.cons t, .cons h ha⟩
  | swap x y l =>
    intro ts a
    match ts, a with
    | t1 :: t2 :: ts, .cons h1 (.cons h2 t') => exact ⟨t2 :: t1 :: ts, .swap _ _ _, .cons h2 (.cons h1 t')⟩
  | trans _ _ ih1 ih2 =>
    intro ts a
    obtain ⟨ts1, p1, a1⟩ := ih2 a
    obtain ⟨ts2, p2, a2⟩ := ih1 a1
    exact ⟨ts2, p2.trans p1, a2⟩
def kSortTs : KC := fun rs0 env0 P0 => k1 (fun r env P => onL env r fun xs => ∃ ts, xs = tD ts ∧ (∀ t ∈ ts, t ≠ []) ∧ ts.length ≤ 1000 ∧ ∀ ts', ts'.Perm ts → P (.fl (tD ts')) env) rs0 env0 P0
theorem rc_sortedTs : RC K (rSortTs K) kSortTs := by
  intro c Hs G σ H env xs rs P Q S w h post
  obtain ⟨r, rfl, h1⟩ := k1_some h
  obtain ⟨v, rfl, w1⟩ := w.one
  obtain ⟨ds, ed, ts, rfl, hne, hl, h2⟩ := onL_some h1
  obtain ⟨p, us, rfl, hp, au⟩ := vL_at S w1 ed
  refine ⟨p, us, ts, rfl, .inl (.inl hp), tups_at S.gh au, hne, by rw [au.length, List.length_map]; exact hl, fun ws l hw hl => ?_⟩
  obtain ⟨ts', hp', aw⟩ := perm_at hw au
  exact fin_fl S aw post (h2 ts' hp') hl
/-- {k: v} -/
def dDisp1 (dk dv : DT) : DT := fun env P => dk env fun r e1 => dv e1 fun r' e2 => onInt r fun k => onDa r' fun d => P (.fm [(k, d)]) e2
theorem re_disp1 {tk tv : TE} {dk dv : DT} (a : RE K tk dk) (b : RE K tv dv) : RE K (tDisp [(tk, tv)]) (dDisp1 dk dv) := by
  intro c G σ H env P Q S h post p hp
  have T0 : Stp K c G σ H env G (upd H p (.dK [])) env := Stp.new S hp
  have gp : G p = none := S.free hp
  refine a c G σ _ env _ _ T0.st h fun v1 r1 G1 H1 e1 T1 w1 h1 => ?_
  refine b c G1 σ H1 e1 _ _ T1.st h1 fun v2 r2 G2 H2 e2 T2 w2 h2 => ?_
  obtain ⟨k, rfl, h3⟩ := onInt_some h2
  obtain ⟨d, ed, h4⟩ := onDa_some h3
  obtain ⟨G3, T3, ad, _, _⟩ := w2.absorb T1.st T2 ed
  cases w1.int
  have T13 := T1.trans T3
  have no0 : ∀ i, ¬ Own σ env i p := fun i => S.notOwn hp i
  have no2 : ∀ i, ¬ Own σ e2 i p := fun i w => no0 i ((T13.ow i p).mp w)
  have hp2 : H2 p = some (.dK []) := T13.kp p _ upd_same no0
  have g3 : G3 p = none := T13.gf p gp (by rw [upd_same]; exact nn)
  refine ⟨hp2, [(Sum.inl k, v2)], rfl, (by show 1 ≤ 15; decide), ?_⟩
  have em : mergeK [] [(Sum.inl k, v2)] = [((Sum.inl k : Key), v2)] := rfl
  rw [em]
  have T4 := T0.trans T13
  have ne : ∀ b, H b ≠ none → b ≠ p := fun b h z => h (z ▸ hp)
  have T5 : Stp K c G σ H env G3 (upd H2 p (.dK [((Sum.inl k : Key), v2)])) e2 := by
    refine ⟨T4.st.off (S.h0 hp) g3 no2, T4.gg, T4.gf, fun b o e n => ?_, fun b e => ?_, T4.ow⟩
    · rw [upd_ne (ne b (by rw [e]; exact nn))]
      exact T4.kp b o e n
    · rw [upd_ne (ne b e)]
      exact T4.al b e
  exact post _ _ G3 _ e2 T5 (.fm (ds := [(k, d)]) hp g3 upd_same rfl (.cons ad .nil) no2) h4
end
end RK
-- T0b
set_option Elab.async false
set_option linter.all false
set_option maxRecDepth 100000
set_option maxHeartbeats 4000000
/-! T0: the text of the row, and what the top has left -/
namespace RK
open PySem PySem.Spec PyProof.Rows L2
theorem DD.fun_ {K : PySem.W.Frag} {d : DD} (e : fnWA K (plA K d.at_) = d.val) (c : d.ok K = true) : ∃ fd, L2.Fun K d.name d.qual d.st (plA K d.at_) fd := by
  obtain ⟨kp, c2⟩ := He.ba c
  unfold fnWA at e
  cases q : K.lookup (plA K d.at_) with
  | none =>
    rw [q] at c2
    cases c2
  | some o =>
    obtain ⟨oc, od, dt, osl⟩ := o
    rw [q] at c2 e
    cases dt with
    | func fd =>
      obtain ⟨n1, n2, n3, n4, n5, n6, n7, n8, n9, n10, n11, n12, n13, n14, n15⟩ := fd
      have e2 : (some (n1, n2, n3, n4, n5, n6, n7, n15) : He.FnW) = some (d.name, d.qual, defArgs d.st, .stmts (defBody d.st), defScope d.st, mainGlobals, [], builtinsNs) := e
      simp only [Option.some.injEq, Prod.mk.injEq] at e2
      obtain ⟨h1, h2, h3, h4, h5, h6, h7, h8⟩ := e2
      subst h1 h2 h3 h4 h5 h6 h7 h8
      have c3 : (PySem.W.codeIn K n13 d.qual && noneB n8) = true := c2
      obtain ⟨k1, k2⟩ := He.ba c3
      have k3 : n8 = .none := by
        cases n8 <;> first | rfl | cases k2
      subst k3
      exact ⟨_, ⟨oc, od, n9, n10, n11, n12, n13, n14, osl, rfl, q, k1⟩, kp⟩
    | _ => cases c2

theorem sc_is_integer : FnScope ["value"] ["value"] (defScope s_is_integer) := ⟨rfl, rfl, rfl, by decide +kernel, rfl, by decide +kernel, by decide +kernel⟩
theorem sc_is_count : FnScope ["value"] ["value"] (defScope s_is_count) := ⟨rfl, rfl, rfl, by decide +kernel, rfl, by decide +kernel, by decide +kernel⟩
theorem sc_is_list : FnScope ["value"] ["value"] (defScope s_is_list) := ⟨rfl, rfl, rfl, by decide +kernel, rfl, by decide +kernel, by decide +kernel⟩
theorem sc_is_text : FnScope ["value", "sign"] ["value"] (defScope s_is_text) := ⟨rfl, rfl, rfl, by decide +kernel, rfl, by decide +kernel, by decide +kernel⟩
theorem sc_are_letters : FnScope ["value", "one", "other"] ["value"] (defScope s_are_letters) := ⟨rfl, rfl, rfl, by decide +kernel, rfl, by decide +kernel, by decide +kernel⟩
theorem sc_is_place_of : FnScope ["machine", "value"] ["machine", "value"] (defScope s_is_place_of) := ⟨rfl, rfl, rfl, by decide +kernel, rfl, by decide +kernel, by decide +kernel⟩
theorem sc_want_place : FnScope ["machine", "value"] ["machine", "value"] (defScope s_want_place) := ⟨rfl, rfl, rfl, by decide +kernel, rfl, by decide +kernel, by decide +kernel⟩
theorem sc_rising : FnScope ["text", "sign"] ["text"] (defScope s_rising) := ⟨rfl, rfl, rfl, by decide +kernel, rfl, by decide +kernel, by decide +kernel⟩
theorem sc_root_of : FnScope ["lap", "size"] ["lap"] (defScope s_root_of) := ⟨rfl, rfl, rfl, by decide +kernel, rfl, by decide +kernel, by decide +kernel⟩
theorem sc_plain_of : FnScope ["begin", "lap", "root", "same", "cut"] ["begin", "lap"] (defScope s_plain_of) := ⟨rfl, rfl, rfl, by decide +kernel, rfl, by decide +kernel, by decide +kernel⟩
theorem sc_is_row : FnScope ["value", "size", "many", "goal"] ["value", "size", "many"] (defScope s_is_row) := ⟨rfl, rfl, rfl, by decide +kernel, rfl, by decide +kernel, by decide +kernel⟩
theorem sc_want_rows : FnScope ["letters", "rows", "position", "row"] ["letters", "rows"] (defScope s_want_rows) := ⟨rfl, rfl, rfl, by decide +kernel, rfl, by decide +kernel, by decide +kernel⟩
theorem sc_want_letter : FnScope ["machine", "letter"] ["machine", "letter"] (defScope s_want_letter) := ⟨rfl, rfl, rfl, by decide +kernel, rfl, by decide +kernel, by decide +kernel⟩
theorem sc_want_word : FnScope ["machine", "word", "letter"] ["machine", "word"] (defScope s_want_word) := ⟨rfl, rfl, rfl, by decide +kernel, rfl, by decide +kernel, by decide +kernel⟩
theorem sc_goals_by_place : FnScope ["pairs", "found", "pair"] ["pairs"] (defScope s_goals_by_place) := ⟨rfl, rfl, rfl, by decide +kernel, rfl, by decide +kernel, by decide +kernel⟩
theorem sc_left_behind : FnScope ["goals", "start", "seen", "path", "counts", "found", "row", "at"] ["goals", "start", "seen"] (defScope s_left_behind) := ⟨rfl, rfl, rfl, by decide +kernel, rfl, by decide +kernel, by decide +kernel⟩
theorem sc_left_in_order : FnScope ["many", "goals", "seen", "found", "start", "place"] ["many", "goals"] (defScope s_left_in_order) := ⟨rfl, rfl, rfl, by decide +kernel, rfl, by decide +kernel, by decide +kernel⟩
theorem sc_joined_parts : FnScope ["many", "links", "order", "back", "own", "known", "found", "start", "group", "place", "link"] ["many", "links"] (defScope s_joined_parts) := ⟨rfl, rfl, rfl, by decide +kernel, rfl, by decide +kernel, by decide +kernel⟩
theorem sc_links_within : FnScope ["machine", "places", "place", "inside", "found", "letter", "goal"] ["machine", "places"] (defScope s_links_within) := ⟨rfl, rfl, rfl, by decide +kernel, rfl, by decide +kernel, by decide +kernel⟩
theorem sc_parts : FnScope ["machine"] ["machine"] (defScope s_parts) := ⟨rfl, rfl, rfl, by decide +kernel, rfl, by decide +kernel, by decide +kernel⟩
theorem sc_is_rank_row : FnScope ["value", "size", "rank"] ["value", "size"] (defScope s_is_rank_row) := ⟨rfl, rfl, rfl, by decide +kernel, rfl, by decide +kernel, by decide +kernel⟩
theorem sc_want_ranks : FnScope ["machine", "ranks", "position", "row"] ["machine", "ranks"] (defScope s_want_ranks) := ⟨rfl, rfl, rfl, by decide +kernel, rfl, by decide +kernel, by decide +kernel⟩
theorem sc_walked : FnScope ["machine", "start", "text", "found", "letter"] ["machine", "start", "text"] (defScope s_walked) := ⟨rfl, rfl, rfl, by decide +kernel, rfl, by decide +kernel, by decide +kernel⟩
theorem sc_kept_steps : FnScope ["machine", "word", "numbers", "starts", "laps", "places", "found", "lap", "letter"] ["machine", "word"] (defScope s_kept_steps) := ⟨rfl, rfl, rfl, by decide +kernel, rfl, by decide +kernel, by decide +kernel⟩
theorem sc_links_of : FnScope ["ranked", "found", "place", "goals", "goal", "rank"] ["ranked"] (defScope s_links_of) := ⟨rfl, rfl, rfl, by decide +kernel, rfl, by decide +kernel, by decide +kernel⟩
theorem sc_Word___init : FnScope ["self", "begin", "lap", "plain"] ["self", "begin", "lap"] (defScope s_Word___init) := ⟨rfl, rfl, rfl, by decide +kernel, rfl, by decide +kernel, by decide +kernel⟩
theorem sc_Word_begin : FnScope ["self"] ["self"] (defScope s_Word_begin) := ⟨rfl, rfl, rfl, by decide +kernel, rfl, by decide +kernel, by decide +kernel⟩
theorem sc_Word_lap : FnScope ["self"] ["self"] (defScope s_Word_lap) := ⟨rfl, rfl, rfl, by decide +kernel, rfl, by decide +kernel, by decide +kernel⟩
theorem sc_Word_coming : FnScope ["self"] ["self"] (defScope s_Word_coming) := ⟨rfl, rfl, rfl, by decide +kernel, rfl, by decide +kernel, by decide +kernel⟩
theorem sc_Machine___init : FnScope ["self", "letters", "rows", "met", "place", "row_here"] ["self", "letters", "rows"] (defScope s_Machine___init) := ⟨rfl, rfl, rfl, by decide +kernel, rfl, by decide +kernel, by decide +kernel⟩
theorem sc_Machine_letters : FnScope ["self"] ["self"] (defScope s_Machine_letters) := ⟨rfl, rfl, rfl, by decide +kernel, rfl, by decide +kernel, by decide +kernel⟩
theorem sc_Machine___len : FnScope ["self"] ["self"] (defScope s_Machine___len) := ⟨rfl, rfl, rfl, by decide +kernel, rfl, by decide +kernel, by decide +kernel⟩
theorem sc_Machine___eq : FnScope ["self", "other"] ["self", "other"] (defScope s_Machine___eq) := ⟨rfl, rfl, rfl, by decide +kernel, rfl, by decide +kernel, by decide +kernel⟩
theorem sc_Machine___repr : FnScope ["self"] ["self"] (defScope s_Machine___repr) := ⟨rfl, rfl, rfl, by decide +kernel, rfl, by decide +kernel, by decide +kernel⟩
theorem sc_Ranked___init : FnScope ["self", "machine", "ranks", "row_here"] ["self", "machine", "ranks"] (defScope s_Ranked___init) := ⟨rfl, rfl, rfl, by decide +kernel, rfl, by decide +kernel, by decide +kernel⟩
theorem sc_Ranked_machine : FnScope ["self"] ["self"] (defScope s_Ranked_machine) := ⟨rfl, rfl, rfl, by decide +kernel, rfl, by decide +kernel, by decide +kernel⟩
theorem sc_Ranked_letters : FnScope ["self"] ["self"] (defScope s_Ranked_letters) := ⟨rfl, rfl, rfl, by decide +kernel, rfl, by decide +kernel, by decide +kernel⟩
theorem sc_Ranked_ranks : FnScope ["self", "row"] ["self"] (defScope s_Ranked_ranks) := ⟨rfl, rfl, rfl, by decide +kernel, rfl, by decide +kernel, by decide +kernel⟩
theorem sc_Ranked_rank : FnScope ["self", "place", "letter"] ["self", "place", "letter"] (defScope s_Ranked_rank) := ⟨rfl, rfl, rfl, by decide +kernel, rfl, by decide +kernel, by decide +kernel⟩
theorem sc_Ranked_greatest : FnScope ["self", "word", "place", "number"] ["self", "word"] (defScope s_Ranked_greatest) := ⟨rfl, rfl, rfl, by decide +kernel, rfl, by decide +kernel, by decide +kernel⟩
theorem sc_Ranked_used : FnScope ["self", "found", "part", "start", "goal", "rank"] ["self"] (defScope s_Ranked_used) := ⟨rfl, rfl, rfl, by decide +kernel, rfl, by decide +kernel, by decide +kernel⟩
theorem sc_Ranked___call : FnScope ["self", "word"] ["self", "word"] (defScope s_Ranked___call) := ⟨rfl, rfl, rfl, by decide +kernel, rfl, by decide +kernel, by decide +kernel⟩
theorem sc_Ranked___invert : FnScope ["self", "row_here", "rank"] ["self"] (defScope s_Ranked___invert) := ⟨rfl, rfl, rfl, by decide +kernel, rfl, by decide +kernel, by decide +kernel⟩
theorem sc_Ranked___eq : FnScope ["self", "other"] ["self", "other"] (defScope s_Ranked___eq) := ⟨rfl, rfl, rfl, by decide +kernel, rfl, by decide +kernel, by decide +kernel⟩
theorem sc_Ranked___repr : FnScope ["self"] ["self"] (defScope s_Ranked___repr) := ⟨rfl, rfl, rfl, by decide +kernel, rfl, by decide +kernel, by decide +kernel⟩
theorem sc_law_pot : FnScope ["_law_script", "_law_k", "_law_cell"] ["_law_script", "_law_k"] (defScope s_law_pot) := ⟨rfl, rfl, rfl, by decide +kernel, rfl, by decide +kernel, by decide +kernel⟩
theorem sc_law_draw : FnScope ["_law_pot_here", "_law_size", "_law_digit"] ["_law_pot_here", "_law_size"] (defScope s_law_draw) := ⟨rfl, rfl, rfl, by decide +kernel, rfl, by decide +kernel, by decide +kernel⟩
theorem sc_law_pick : FnScope ["_law_pot_here", "_law_some"] ["_law_pot_here", "_law_some"] (defScope s_law_pick) := ⟨rfl, rfl, rfl, by decide +kernel, rfl, by decide +kernel, by decide +kernel⟩
theorem sc_law_met : FnScope ["_law_rows", "_law_order", "_law_at", "_law_goal", "_law_spot"] ["_law_rows"] (defScope s_law_met) := ⟨rfl, rfl, rfl, by decide +kernel, rfl, by decide +kernel, by decide +kernel⟩
theorem sc_law_turned : FnScope ["_law_pot_here", "_law_rows", "_law_order", "_law_rest", "_law_turn", "_law_spot", "_law_goal"] ["_law_pot_here", "_law_rows"] (defScope s_law_turned) := ⟨rfl, rfl, rfl, by decide +kernel, rfl, by decide +kernel, by decide +kernel⟩
theorem sc_law_net : FnScope ["_law_pot_here", "_law_most", "_law_many", "_law_size", "_law_signs", "_law_rows", "_law_is_far", "_law_spot", "_law_some", "_law_far", "_law_sign"] ["_law_pot_here", "_law_most"] (defScope s_law_net) := ⟨rfl, rfl, rfl, by decide +kernel, rfl, by decide +kernel, by decide +kernel⟩
theorem sc_law_flood : FnScope ["_law_rows", "_law_some", "_law_spot", "_law_found", "_law_waiting", "_law_goal"] ["_law_rows", "_law_some", "_law_spot"] (defScope s_law_flood) := ⟨rfl, rfl, rfl, by decide +kernel, rfl, by decide +kernel, by decide +kernel⟩
theorem sc_law_marks : FnScope ["_law_pot_here", "_law_net_here", "_law_most", "_law_row", "_law_sign"] ["_law_pot_here", "_law_net_here", "_law_most"] (defScope s_law_marks) := ⟨rfl, rfl, rfl, by decide +kernel, rfl, by decide +kernel, by decide +kernel⟩
theorem sc_law_behind : FnScope ["_law_net_here", "_law_spot", "_law_term_here", "_law_sign"] ["_law_net_here", "_law_spot", "_law_term_here"] (defScope s_law_behind) := ⟨rfl, rfl, rfl, by decide +kernel, rfl, by decide +kernel, by decide +kernel⟩
theorem sc_law_top_by : FnScope ["_law_net_here", "_law_marks_here", "_law_head", "_law_tail", "_law_spot", "_law_found", "_law_turn", "_law_sign"] ["_law_net_here", "_law_marks_here", "_law_head", "_law_tail"] (defScope s_law_top_by) := ⟨rfl, rfl, rfl, by decide +kernel, rfl, by decide +kernel, by decide +kernel⟩
theorem sc_law_is_even : FnScope ["_law_number_now"] ["_law_number_now"] (defScope s_law_is_even) := ⟨rfl, rfl, rfl, by decide +kernel, rfl, by decide +kernel, by decide +kernel⟩
theorem sc_law_term : FnScope ["_law_pot_here", "_law_net_here", "_law_least_now", "_law_most", "_law_turn"] ["_law_pot_here", "_law_net_here", "_law_least_now", "_law_most"] (defScope s_law_term) := ⟨rfl, rfl, rfl, by decide +kernel, rfl, by decide +kernel, by decide +kernel⟩
theorem sc_law_used : FnScope ["_law_net_here", "_law_marks_here", "_law_found", "_law_every", "_law_spot", "_law_goal", "_law_mark"] ["_law_net_here", "_law_marks_here"] (defScope s_law_used) := ⟨rfl, rfl, rfl, by decide +kernel, rfl, by decide +kernel, by decide +kernel⟩
theorem sc_law_told_so : FnScope ["_law_pot_here", "_law_head", "_law_tail", "_law_found"] ["_law_pot_here", "_law_head", "_law_tail"] (defScope s_law_told_so) := ⟨rfl, rfl, rfl, by decide +kernel, rfl, by decide +kernel, by decide +kernel⟩
theorem sc_law_words_right : FnScope ["_law_pot_here", "_law_net_here", "_law_marks_here", "_law_made", "_law_some", "_law_head", "_law_tail", "_law_due", "_law_endless", "_law_told", "_law_sign", "_law_turn"] ["_law_pot_here", "_law_net_here", "_law_marks_here", "_law_made"] (defScope s_law_words_right) := ⟨rfl, rfl, rfl, by decide +kernel, rfl, by decide +kernel, by decide +kernel⟩
theorem sc_law_is : FnScope ["_law_made", "_law_frame", "_law_net_here", "_law_marks_here", "_law_turn", "_law_told", "_law_spot", "_law_row", "_law_sign", "_law_mark"] ["_law_made", "_law_frame", "_law_net_here", "_law_marks_here"] (defScope s_law_is) := ⟨rfl, rfl, rfl, by decide +kernel, rfl, by decide +kernel, by decide +kernel⟩
theorem sc_law_equal_right : FnScope ["_law_made", "_law_frame", "_law_net_here", "_law_marks_here", "_law_same", "_law_far", "_law_other", "_law_row", "_law_thing"] ["_law_made", "_law_frame", "_law_net_here", "_law_marks_here"] (defScope s_law_equal_right) := ⟨rfl, rfl, rfl, by decide +kernel, rfl, by decide +kernel, by decide +kernel⟩
theorem sc_law_about_right : FnScope ["_law_made", "_law_frame", "_law_net_here", "_law_marks_here", "_law_about", "_law_due", "_law_row", "_law_mark"] ["_law_made", "_law_frame", "_law_net_here", "_law_marks_here"] (defScope s_law_about_right) := ⟨rfl, rfl, rfl, by decide +kernel, rfl, by decide +kernel, by decide +kernel⟩
theorem sc_law_great_right : FnScope ["_law_pot_here", "_law_many", "_law_top", "_law_rows", "_law_made", "_law_told", "_law_spot"] ["_law_pot_here"] (defScope s_law_great_right) := ⟨rfl, rfl, rfl, by decide +kernel, rfl, by decide +kernel, by decide +kernel⟩
theorem sc_law_right : FnScope ["_law_pot_here", "_law_net_here", "_law_marks_here", "_law_frame", "_law_row", "_law_given", "_law_made"] ["_law_pot_here"] (defScope s_law_right) := ⟨rfl, rfl, rfl, by decide +kernel, rfl, by decide +kernel, by decide +kernel⟩
theorem sc_law : FnScope ["_law_script", "_law_k"] ["_law_script"] (defScope s_law) := ⟨rfl, rfl, rfl, by decide +kernel, rfl, by decide +kernel, by decide +kernel⟩
theorem sc_met_from_machines : FnScope ["rows", "start", "found", "at", "goal"] ["rows", "start"] (defScope s_met_from_machines) := ⟨rfl, rfl, rfl, by decide +kernel, rfl, by decide +kernel, by decide +kernel⟩
theorem sc_met_from_rings : FnScope ["rows", "start", "known", "here", "found", "done", "place"] ["rows", "start", "known"] (defScope s_met_from_rings) := ⟨rfl, rfl, rfl, by decide +kernel, rfl, by decide +kernel, by decide +kernel⟩
theorem clsIntB_ok {K : PySem.W.Frag} {C : Addr} {f : Str} {n : Int} (h : clsIntB K C f n = true) : ∃ t, PySem.W.findCls K (.ref C) (.type "type") f = some (.val (.int n t)) := by
  unfold clsIntB at h
  split at h
  · rename_i i t e
    exact ⟨t, by rw [e, of_decide_eq_true h]⟩
  · cases h
theorem propB_ok {K : PySem.W.Frag} {C m : Str} (h : propB K C m = true) : PropOf K (He.ga K C) m (He.ma K (He.ga K C) m) (pgA K C m) := by
  obtain ⟨h1, h2⟩ := He.ba h
  obtain ⟨h3, h4⟩ := He.ba h2
  obtain ⟨h5, h6⟩ := He.ba h4
  refine ⟨He.eqO_ok h1, He.eqO_ok h3, of_decide_eq_true h5, ?_⟩
  unfold pgA
  split at h6
  · rename_i g rest e
    rw [e]
    exact ⟨rest, rfl⟩
  · cases h6

structure Txt (K : PySem.W.Frag) (mg : Str → Option Value) : Prop where
  h : ∃ h : Heap, K.In h ∧ h.Ns mainGlobals mg
  b : allB K = true
  f : allF K = allV
section
variable {K : PySem.W.Frag} {mg : Str → Option Value}
theorem Txt.fa (T : Txt K mg) (i : Nat) {f : He.Fa} (h : faR[i]? = some f) : f.ok K = true := List.all_eq_true.mp (He.ba T.b).1 f (List.mem_of_getElem? h)
theorem Txt.ex (T : Txt K mg) (i : Nat) {f : PySem.W.Frag → Bool} (h : exR[i]? = some f) : f K = true := List.all_eq_true.mp (He.ba (He.ba T.b).2).2 f (List.mem_of_getElem? h)
theorem Txt.dd (T : Txt K mg) (i : Nat) {d : DD} (h : ddR[i]? = some d) : ∃ fd, L2.Fun K d.name d.qual d.st (plA K d.at_) fd := by
  refine DD.fun_ ?_ (List.all_eq_true.mp (He.ba (He.ba T.b).2).1 d (List.mem_of_getElem? h))
  have e := congrArg (fun l => l[i]?) T.f
  simp only [allF, allV, List.getElem?_map, h, Option.map_some, Option.some.injEq] at e
  exact e

theorem Txt.g_is_integer (T : Txt K mg) : mg "is_integer" = some (.ref (He.ga K "is_integer")) := by obtain ⟨h, X, G⟩ := T.h; exact He.glo_ok X G (T.fa 0 rfl)
theorem Txt.g_is_count (T : Txt K mg) : mg "is_count" = some (.ref (He.ga K "is_count")) := by obtain ⟨h, X, G⟩ := T.h; exact He.glo_ok X G (T.fa 1 rfl)
theorem Txt.g_is_list (T : Txt K mg) : mg "is_list" = some (.ref (He.ga K "is_list")) := by obtain ⟨h, X, G⟩ := T.h; exact He.glo_ok X G (T.fa 2 rfl)
theorem Txt.g_is_text (T : Txt K mg) : mg "is_text" = some (.ref (He.ga K "is_text")) := by obtain ⟨h, X, G⟩ := T.h; exact He.glo_ok X G (T.fa 3 rfl)
theorem Txt.g_are_letters (T : Txt K mg) : mg "are_letters" = some (.ref (He.ga K "are_letters")) := by obtain ⟨h, X, G⟩ := T.h; exact He.glo_ok X G (T.fa 4 rfl)
theorem Txt.g_is_place_of (T : Txt K mg) : mg "is_place_of" = some (.ref (He.ga K "is_place_of")) := by obtain ⟨h, X, G⟩ := T.h; exact He.glo_ok X G (T.fa 5 rfl)
theorem Txt.g_want_place (T : Txt K mg) : mg "want_place" = some (.ref (He.ga K "want_place")) := by obtain ⟨h, X, G⟩ := T.h; exact He.glo_ok X G (T.fa 6 rfl)
theorem Txt.g_rising (T : Txt K mg) : mg "rising" = some (.ref (He.ga K "rising")) := by obtain ⟨h, X, G⟩ := T.h; exact He.glo_ok X G (T.fa 7 rfl)
theorem Txt.g_root_of (T : Txt K mg) : mg "root_of" = some (.ref (He.ga K "root_of")) := by obtain ⟨h, X, G⟩ := T.h; exact He.glo_ok X G (T.fa 8 rfl)
theorem Txt.g_plain_of (T : Txt K mg) : mg "plain_of" = some (.ref (He.ga K "plain_of")) := by obtain ⟨h, X, G⟩ := T.h; exact He.glo_ok X G (T.fa 9 rfl)
theorem Txt.g_is_row (T : Txt K mg) : mg "is_row" = some (.ref (He.ga K "is_row")) := by obtain ⟨h, X, G⟩ := T.h; exact He.glo_ok X G (T.fa 10 rfl)
theorem Txt.g_want_rows (T : Txt K mg) : mg "want_rows" = some (.ref (He.ga K "want_rows")) := by obtain ⟨h, X, G⟩ := T.h; exact He.glo_ok X G (T.fa 11 rfl)
theorem Txt.g_want_letter (T : Txt K mg) : mg "want_letter" = some (.ref (He.ga K "want_letter")) := by obtain ⟨h, X, G⟩ := T.h; exact He.glo_ok X G (T.fa 12 rfl)
theorem Txt.g_want_word (T : Txt K mg) : mg "want_word" = some (.ref (He.ga K "want_word")) := by obtain ⟨h, X, G⟩ := T.h; exact He.glo_ok X G (T.fa 13 rfl)
theorem Txt.g_goals_by_place (T : Txt K mg) : mg "goals_by_place" = some (.ref (He.ga K "goals_by_place")) := by obtain ⟨h, X, G⟩ := T.h; exact He.glo_ok X G (T.fa 14 rfl)
theorem Txt.g_left_behind (T : Txt K mg) : mg "left_behind" = some (.ref (He.ga K "left_behind")) := by obtain ⟨h, X, G⟩ := T.h; exact He.glo_ok X G (T.fa 15 rfl)
theorem Txt.g_left_in_order (T : Txt K mg) : mg "left_in_order" = some (.ref (He.ga K "left_in_order")) := by obtain ⟨h, X, G⟩ := T.h; exact He.glo_ok X G (T.fa 16 rfl)
theorem Txt.g_joined_parts (T : Txt K mg) : mg "joined_parts" = some (.ref (He.ga K "joined_parts")) := by obtain ⟨h, X, G⟩ := T.h; exact He.glo_ok X G (T.fa 17 rfl)
theorem Txt.g_links_within (T : Txt K mg) : mg "links_within" = some (.ref (He.ga K "links_within")) := by obtain ⟨h, X, G⟩ := T.h; exact He.glo_ok X G (T.fa 18 rfl)
theorem Txt.g_parts (T : Txt K mg) : mg "parts" = some (.ref (He.ga K "parts")) := by obtain ⟨h, X, G⟩ := T.h; exact He.glo_ok X G (T.fa 19 rfl)
theorem Txt.g_is_rank_row (T : Txt K mg) : mg "is_rank_row" = some (.ref (He.ga K "is_rank_row")) := by obtain ⟨h, X, G⟩ := T.h; exact He.glo_ok X G (T.fa 20 rfl)
theorem Txt.g_want_ranks (T : Txt K mg) : mg "want_ranks" = some (.ref (He.ga K "want_ranks")) := by obtain ⟨h, X, G⟩ := T.h; exact He.glo_ok X G (T.fa 21 rfl)
theorem Txt.g_walked (T : Txt K mg) : mg "walked" = some (.ref (He.ga K "walked")) := by obtain ⟨h, X, G⟩ := T.h; exact He.glo_ok X G (T.fa 22 rfl)
theorem Txt.g_kept_steps (T : Txt K mg) : mg "kept_steps" = some (.ref (He.ga K "kept_steps")) := by obtain ⟨h, X, G⟩ := T.h; exact He.glo_ok X G (T.fa 23 rfl)
theorem Txt.g_links_of (T : Txt K mg) : mg "links_of" = some (.ref (He.ga K "links_of")) := by obtain ⟨h, X, G⟩ := T.h; exact He.glo_ok X G (T.fa 24 rfl)
theorem Txt.g__law_pot (T : Txt K mg) : mg "_law_pot" = some (.ref (He.ga K "_law_pot")) := by obtain ⟨h, X, G⟩ := T.h; exact He.glo_ok X G (T.fa 25 rfl)
theorem Txt.g__law_draw (T : Txt K mg) : mg "_law_draw" = some (.ref (He.ga K "_law_draw")) := by obtain ⟨h, X, G⟩ := T.h; exact He.glo_ok X G (T.fa 26 rfl)
theorem Txt.g__law_pick (T : Txt K mg) : mg "_law_pick" = some (.ref (He.ga K "_law_pick")) := by obtain ⟨h, X, G⟩ := T.h; exact He.glo_ok X G (T.fa 27 rfl)
theorem Txt.g__law_met (T : Txt K mg) : mg "_law_met" = some (.ref (He.ga K "_law_met")) := by obtain ⟨h, X, G⟩ := T.h; exact He.glo_ok X G (T.fa 28 rfl)
theorem Txt.g__law_turned (T : Txt K mg) : mg "_law_turned" = some (.ref (He.ga K "_law_turned")) := by obtain ⟨h, X, G⟩ := T.h; exact He.glo_ok X G (T.fa 29 rfl)
theorem Txt.g__law_net (T : Txt K mg) : mg "_law_net" = some (.ref (He.ga K "_law_net")) := by obtain ⟨h, X, G⟩ := T.h; exact He.glo_ok X G (T.fa 30 rfl)
theorem Txt.g__law_flood (T : Txt K mg) : mg "_law_flood" = some (.ref (He.ga K "_law_flood")) := by obtain ⟨h, X, G⟩ := T.h; exact He.glo_ok X G (T.fa 31 rfl)
theorem Txt.g__law_marks (T : Txt K mg) : mg "_law_marks" = some (.ref (He.ga K "_law_marks")) := by obtain ⟨h, X, G⟩ := T.h; exact He.glo_ok X G (T.fa 32 rfl)
theorem Txt.g__law_behind (T : Txt K mg) : mg "_law_behind" = some (.ref (He.ga K "_law_behind")) := by obtain ⟨h, X, G⟩ := T.h; exact He.glo_ok X G (T.fa 33 rfl)
theorem Txt.g__law_top_by (T : Txt K mg) : mg "_law_top_by" = some (.ref (He.ga K "_law_top_by")) := by obtain ⟨h, X, G⟩ := T.h; exact He.glo_ok X G (T.fa 34 rfl)
theorem Txt.g__law_is_even (T : Txt K mg) : mg "_law_is_even" = some (.ref (He.ga K "_law_is_even")) := by obtain ⟨h, X, G⟩ := T.h; exact He.glo_ok X G (T.fa 35 rfl)
theorem Txt.g__law_term (T : Txt K mg) : mg "_law_term" = some (.ref (He.ga K "_law_term")) := by obtain ⟨h, X, G⟩ := T.h; exact He.glo_ok X G (T.fa 36 rfl)
theorem Txt.g__law_used (T : Txt K mg) : mg "_law_used" = some (.ref (He.ga K "_law_used")) := by obtain ⟨h, X, G⟩ := T.h; exact He.glo_ok X G (T.fa 37 rfl)
theorem Txt.g__law_told_so (T : Txt K mg) : mg "_law_told_so" = some (.ref (He.ga K "_law_told_so")) := by obtain ⟨h, X, G⟩ := T.h; exact He.glo_ok X G (T.fa 38 rfl)
theorem Txt.g__law_words_right (T : Txt K mg) : mg "_law_words_right" = some (.ref (He.ga K "_law_words_right")) := by obtain ⟨h, X, G⟩ := T.h; exact He.glo_ok X G (T.fa 39 rfl)
theorem Txt.g__law_is (T : Txt K mg) : mg "_law_is" = some (.ref (He.ga K "_law_is")) := by obtain ⟨h, X, G⟩ := T.h; exact He.glo_ok X G (T.fa 40 rfl)
theorem Txt.g__law_equal_right (T : Txt K mg) : mg "_law_equal_right" = some (.ref (He.ga K "_law_equal_right")) := by obtain ⟨h, X, G⟩ := T.h; exact He.glo_ok X G (T.fa 41 rfl)
theorem Txt.g__law_about_right (T : Txt K mg) : mg "_law_about_right" = some (.ref (He.ga K "_law_about_right")) := by obtain ⟨h, X, G⟩ := T.h; exact He.glo_ok X G (T.fa 42 rfl)
theorem Txt.g__law_great_right (T : Txt K mg) : mg "_law_great_right" = some (.ref (He.ga K "_law_great_right")) := by obtain ⟨h, X, G⟩ := T.h; exact He.glo_ok X G (T.fa 43 rfl)
theorem Txt.g__law_right (T : Txt K mg) : mg "_law_right" = some (.ref (He.ga K "_law_right")) := by obtain ⟨h, X, G⟩ := T.h; exact He.glo_ok X G (T.fa 44 rfl)
theorem Txt.g_law (T : Txt K mg) : mg "law" = some (.ref (He.ga K "law")) := by obtain ⟨h, X, G⟩ := T.h; exact He.glo_ok X G (T.fa 45 rfl)
theorem Txt.g_met_from_machines (T : Txt K mg) : mg "met_from_machines" = some (.ref (He.ga K "met_from_machines")) := by obtain ⟨h, X, G⟩ := T.h; exact He.glo_ok X G (T.fa 46 rfl)
theorem Txt.g_met_from_rings (T : Txt K mg) : mg "met_from_rings" = some (.ref (He.ga K "met_from_rings")) := by obtain ⟨h, X, G⟩ := T.h; exact He.glo_ok X G (T.fa 47 rfl)
theorem Txt.g_Word (T : Txt K mg) : mg "Word" = some (.ref (He.ga K "Word")) := by obtain ⟨h, X, G⟩ := T.h; exact He.glo_ok X G (T.fa 48 rfl)
theorem Txt.g_Machine (T : Txt K mg) : mg "Machine" = some (.ref (He.ga K "Machine")) := by obtain ⟨h, X, G⟩ := T.h; exact He.glo_ok X G (T.fa 49 rfl)
theorem Txt.g_Ranked (T : Txt K mg) : mg "Ranked" = some (.ref (He.ga K "Ranked")) := by obtain ⟨h, X, G⟩ := T.h; exact He.glo_ok X G (T.fa 50 rfl)
theorem Txt.z_isinstance (T : Txt K mg) : mg "isinstance" = none := by obtain ⟨h, X, G⟩ := T.h; exact He.free_ok X G (T.fa 51 rfl)
theorem Txt.z_int (T : Txt K mg) : mg "int" = none := by obtain ⟨h, X, G⟩ := T.h; exact He.free_ok X G (T.fa 52 rfl)
theorem Txt.z_bool (T : Txt K mg) : mg "bool" = none := by obtain ⟨h, X, G⟩ := T.h; exact He.free_ok X G (T.fa 53 rfl)
theorem Txt.z_list (T : Txt K mg) : mg "list" = none := by obtain ⟨h, X, G⟩ := T.h; exact He.free_ok X G (T.fa 54 rfl)
theorem Txt.z_tuple (T : Txt K mg) : mg "tuple" = none := by obtain ⟨h, X, G⟩ := T.h; exact He.free_ok X G (T.fa 55 rfl)
theorem Txt.z_str (T : Txt K mg) : mg "str" = none := by obtain ⟨h, X, G⟩ := T.h; exact He.free_ok X G (T.fa 56 rfl)
theorem Txt.z_all (T : Txt K mg) : mg "all" = none := by obtain ⟨h, X, G⟩ := T.h; exact He.free_ok X G (T.fa 57 rfl)
theorem Txt.z_len (T : Txt K mg) : mg "len" = none := by obtain ⟨h, X, G⟩ := T.h; exact He.free_ok X G (T.fa 58 rfl)
theorem Txt.z_zip (T : Txt K mg) : mg "zip" = none := by obtain ⟨h, X, G⟩ := T.h; exact He.free_ok X G (T.fa 59 rfl)
theorem Txt.z_range (T : Txt K mg) : mg "range" = none := by obtain ⟨h, X, G⟩ := T.h; exact He.free_ok X G (T.fa 60 rfl)
theorem Txt.z_max (T : Txt K mg) : mg "max" = none := by obtain ⟨h, X, G⟩ := T.h; exact He.free_ok X G (T.fa 61 rfl)
theorem Txt.z_min (T : Txt K mg) : mg "min" = none := by obtain ⟨h, X, G⟩ := T.h; exact He.free_ok X G (T.fa 62 rfl)
theorem Txt.z_enumerate (T : Txt K mg) : mg "enumerate" = none := by obtain ⟨h, X, G⟩ := T.h; exact He.free_ok X G (T.fa 63 rfl)
theorem Txt.z_sorted (T : Txt K mg) : mg "sorted" = none := by obtain ⟨h, X, G⟩ := T.h; exact He.free_ok X G (T.fa 64 rfl)
theorem Txt.z_set (T : Txt K mg) : mg "set" = none := by obtain ⟨h, X, G⟩ := T.h; exact He.free_ok X G (T.fa 65 rfl)
theorem Txt.z_any (T : Txt K mg) : mg "any" = none := by obtain ⟨h, X, G⟩ := T.h; exact He.free_ok X G (T.fa 66 rfl)
theorem Txt.z_repr (T : Txt K mg) : mg "repr" = none := by obtain ⟨h, X, G⟩ := T.h; exact He.free_ok X G (T.fa 67 rfl)
theorem Txt.z_abs (T : Txt K mg) : mg "abs" = none := by obtain ⟨h, X, G⟩ := T.h; exact He.free_ok X G (T.fa 68 rfl)
theorem Txt.z_divmod (T : Txt K mg) : mg "divmod" = none := by obtain ⟨h, X, G⟩ := T.h; exact He.free_ok X G (T.fa 69 rfl)
theorem Txt.z_sum (T : Txt K mg) : mg "sum" = none := by obtain ⟨h, X, G⟩ := T.h; exact He.free_ok X G (T.fa 70 rfl)
theorem Txt.cl_Word (T : Txt K mg) : Cls K (He.ga K "Word") := by exact He.cls_ok (T.fa 71 rfl)
theorem Txt.na_Word_own_begin (T : Txt K mg) : NoAttr K (He.ga K "Word") "own_begin" := by exact He.noat_ok (T.fa 72 rfl)
theorem Txt.na_Word_own_lap (T : Txt K mg) : NoAttr K (He.ga K "Word") "own_lap" := by exact He.noat_ok (T.fa 73 rfl)
theorem Txt.me_Word_coming (T : Txt K mg) : Meth K (He.ga K "Word") "coming" (He.ma K (He.ga K "Word") "coming") := by exact He.meth_ok (T.fa 74 rfl)
theorem Txt.mk_Word (T : Txt K mg) : Mk K (He.ga K "Word") (He.ma K (He.ga K "Word") "__init__") := by exact He.mkr_ok (T.fa 75 rfl)
theorem Txt.cl_Machine (T : Txt K mg) : Cls K (He.ga K "Machine") := by exact He.cls_ok (T.fa 76 rfl)
theorem Txt.na_Machine_own_letters (T : Txt K mg) : NoAttr K (He.ga K "Machine") "own_letters" := by exact He.noat_ok (T.fa 77 rfl)
theorem Txt.na_Machine_own_rows (T : Txt K mg) : NoAttr K (He.ga K "Machine") "own_rows" := by exact He.noat_ok (T.fa 78 rfl)
theorem Txt.me_Machine___len__ (T : Txt K mg) : Meth K (He.ga K "Machine") "__len__" (He.ma K (He.ga K "Machine") "__len__") := by exact He.meth_ok (T.fa 79 rfl)
theorem Txt.me_Machine___eq__ (T : Txt K mg) : Meth K (He.ga K "Machine") "__eq__" (He.ma K (He.ga K "Machine") "__eq__") := by exact He.meth_ok (T.fa 80 rfl)
theorem Txt.me_Machine___repr__ (T : Txt K mg) : Meth K (He.ga K "Machine") "__repr__" (He.ma K (He.ga K "Machine") "__repr__") := by exact He.meth_ok (T.fa 81 rfl)
theorem Txt.mk_Machine (T : Txt K mg) : Mk K (He.ga K "Machine") (He.ma K (He.ga K "Machine") "__init__") := by exact He.mkr_ok (T.fa 82 rfl)
theorem Txt.cl_Ranked (T : Txt K mg) : Cls K (He.ga K "Ranked") := by exact He.cls_ok (T.fa 83 rfl)
theorem Txt.na_Ranked_own_machine (T : Txt K mg) : NoAttr K (He.ga K "Ranked") "own_machine" := by exact He.noat_ok (T.fa 84 rfl)
theorem Txt.na_Ranked_own_letters (T : Txt K mg) : NoAttr K (He.ga K "Ranked") "own_letters" := by exact He.noat_ok (T.fa 85 rfl)
theorem Txt.na_Ranked_own_ranks (T : Txt K mg) : NoAttr K (He.ga K "Ranked") "own_ranks" := by exact He.noat_ok (T.fa 86 rfl)
theorem Txt.me_Ranked_ranks (T : Txt K mg) : Meth K (He.ga K "Ranked") "ranks" (He.ma K (He.ga K "Ranked") "ranks") := by exact He.meth_ok (T.fa 87 rfl)
theorem Txt.me_Ranked_rank (T : Txt K mg) : Meth K (He.ga K "Ranked") "rank" (He.ma K (He.ga K "Ranked") "rank") := by exact He.meth_ok (T.fa 88 rfl)
theorem Txt.me_Ranked_greatest (T : Txt K mg) : Meth K (He.ga K "Ranked") "greatest" (He.ma K (He.ga K "Ranked") "greatest") := by exact He.meth_ok (T.fa 89 rfl)
theorem Txt.me_Ranked_used (T : Txt K mg) : Meth K (He.ga K "Ranked") "used" (He.ma K (He.ga K "Ranked") "used") := by exact He.meth_ok (T.fa 90 rfl)
theorem Txt.me_Ranked___call__ (T : Txt K mg) : Meth K (He.ga K "Ranked") "__call__" (He.ma K (He.ga K "Ranked") "__call__") := by exact He.meth_ok (T.fa 91 rfl)
theorem Txt.me_Ranked___invert__ (T : Txt K mg) : Meth K (He.ga K "Ranked") "__invert__" (He.ma K (He.ga K "Ranked") "__invert__") := by exact He.meth_ok (T.fa 92 rfl)
theorem Txt.me_Ranked___eq__ (T : Txt K mg) : Meth K (He.ga K "Ranked") "__eq__" (He.ma K (He.ga K "Ranked") "__eq__") := by exact He.meth_ok (T.fa 93 rfl)
theorem Txt.me_Ranked___repr__ (T : Txt K mg) : Meth K (He.ga K "Ranked") "__repr__" (He.ma K (He.ga K "Ranked") "__repr__") := by exact He.meth_ok (T.fa 94 rfl)
theorem Txt.mk_Ranked (T : Txt K mg) : Mk K (He.ga K "Ranked") (He.ma K (He.ga K "Ranked") "__init__") := by exact He.mkr_ok (T.fa 95 rfl)
theorem Txt.SMALL0 (T : Txt K mg) : ∃ t, mg "SMALL" = some (.str "abcdefghijklmnopqrstuvwxyz" t) := by obtain ⟨h, X, G⟩ := T.h; exact He.str_ok X G (T.fa 96 rfl)
theorem Txt.ML0 (T : Txt K mg) : ∃ t, mg "MOST_LETTERS" = some (.int 3 t) := by obtain ⟨h, X, G⟩ := T.h; exact He.int_ok X G (T.fa 97 rfl)
theorem Txt.x_ot1_Word (T : Txt K mg) : e_ot1_Word K = true := T.ex 0 rfl
theorem Txt.x_ot2_Word (T : Txt K mg) : e_ot2_Word K = true := T.ex 1 rfl
theorem Txt.x_cr1_Word (T : Txt K mg) : e_cr1_Word K = true := T.ex 2 rfl
theorem Txt.x_cr2_Word (T : Txt K mg) : e_cr2_Word K = true := T.ex 3 rfl
theorem Txt.x_cv_Word (T : Txt K mg) : e_cv_Word K = true := T.ex 4 rfl
theorem Txt.x_ot1_Machine (T : Txt K mg) : e_ot1_Machine K = true := T.ex 5 rfl
theorem Txt.x_ot2_Machine (T : Txt K mg) : e_ot2_Machine K = true := T.ex 6 rfl
theorem Txt.x_cr1_Machine (T : Txt K mg) : e_cr1_Machine K = true := T.ex 7 rfl
theorem Txt.x_cr2_Machine (T : Txt K mg) : e_cr2_Machine K = true := T.ex 8 rfl
theorem Txt.x_cv_Machine (T : Txt K mg) : e_cv_Machine K = true := T.ex 9 rfl
theorem Txt.x_ot1_Ranked (T : Txt K mg) : e_ot1_Ranked K = true := T.ex 10 rfl
theorem Txt.x_ot2_Ranked (T : Txt K mg) : e_ot2_Ranked K = true := T.ex 11 rfl
theorem Txt.x_cr1_Ranked (T : Txt K mg) : e_cr1_Ranked K = true := T.ex 12 rfl
theorem Txt.x_cr2_Ranked (T : Txt K mg) : e_cr2_Ranked K = true := T.ex 13 rfl
theorem Txt.x_cv_Ranked (T : Txt K mg) : e_cv_Ranked K = true := T.ex 14 rfl
theorem Txt.x_ot3 (T : Txt K mg) : e_ot3 K = true := T.ex 15 rfl
theorem Txt.x_ot4 (T : Txt K mg) : e_ot4 K = true := T.ex 16 rfl
theorem Txt.x_pp_Machine_letters (T : Txt K mg) : e_pp_Machine_letters K = true := T.ex 17 rfl
theorem Txt.x_pp_Ranked_letters (T : Txt K mg) : e_pp_Ranked_letters K = true := T.ex 18 rfl
theorem Txt.x_pp_Ranked_machine (T : Txt K mg) : e_pp_Ranked_machine K = true := T.ex 19 rfl
theorem Txt.x_pp_Word_begin (T : Txt K mg) : e_pp_Word_begin K = true := T.ex 20 rfl
theorem Txt.x_pp_Word_lap (T : Txt K mg) : e_pp_Word_lap K = true := T.ex 21 rfl
theorem Txt.x_ne_Machine (T : Txt K mg) : e_ne_Machine K = true := T.ex 22 rfl
theorem Txt.x_ne_Ranked (T : Txt K mg) : e_ne_Ranked K = true := T.ex 23 rfl
theorem Txt.x_con (T : Txt K mg) : e_con K = true := T.ex 24 rfl
theorem Txt.x_fc (T : Txt K mg) : e_fc K = true := T.ex 25 rfl
theorem Txt.x_kit_ww (T : Txt K mg) : e_kit_ww K = true := T.ex 26 rfl
theorem Txt.x_kit_mm (T : Txt K mg) : e_kit_mm K = true := T.ex 27 rfl
theorem Txt.x_kit_rr (T : Txt K mg) : e_kit_rr K = true := T.ex 28 rfl
theorem Txt.x_kit_mr (T : Txt K mg) : e_kit_mr K = true := T.ex 29 rfl
theorem Txt.x_kit_NoneType (T : Txt K mg) : e_kit_NoneType K = true := T.ex 30 rfl
theorem Txt.x_kit_int (T : Txt K mg) : e_kit_int K = true := T.ex 31 rfl
theorem Txt.x_kit_str (T : Txt K mg) : e_kit_str K = true := T.ex 32 rfl
theorem Txt.x_kit_list (T : Txt K mg) : e_kit_list K = true := T.ex 33 rfl
theorem Txt.x_kit_tuple (T : Txt K mg) : e_kit_tuple K = true := T.ex 34 rfl
theorem Txt.x_nf_mm (T : Txt K mg) : e_nf_mm K = true := T.ex 35 rfl
theorem Txt.x_nf_rr (T : Txt K mg) : e_nf_rr K = true := T.ex 36 rfl
theorem Txt.x_nf_mr (T : Txt K mg) : e_nf_mr K = true := T.ex 37 rfl
theorem Txt.x_nf_NoneType (T : Txt K mg) : e_nf_NoneType K = true := T.ex 38 rfl
theorem Txt.x_nf_int (T : Txt K mg) : e_nf_int K = true := T.ex 39 rfl
theorem Txt.x_nf_str (T : Txt K mg) : e_nf_str K = true := T.ex 40 rfl
theorem Txt.x_nf_list (T : Txt K mg) : e_nf_list K = true := T.ex 41 rfl
theorem Txt.x_nf_tuple (T : Txt K mg) : e_nf_tuple K = true := T.ex 42 rfl

theorem Txt.g_SMALL (T : Txt K mg) : mg "SMALL" = some (.str "abcdefghijklmnopqrstuvwxyz" (Classical.choose T.SMALL0)) := Classical.choose_spec T.SMALL0
theorem Txt.g_MOST_LETTERS (T : Txt K mg) : mg "MOST_LETTERS" = some (.int 3 (Classical.choose T.ML0)) := Classical.choose_spec T.ML0

theorem Txt.ot_Word (T : Txt K mg) : OT K (He.ga K "Word") := ⟨T.cl_Word, He.eqO_ok T.x_ot1_Word, He.eqO_ok T.x_ot3, of_decide_eq_true T.x_ot4, of_decide_eq_true T.x_ot2_Word⟩
theorem Txt.cr_Word (T : Txt K mg) : ClX.CRead K (He.ga K "Word") (.type "type") := ⟨T.x_cr1_Word, He.eqO_ok T.x_cr2_Word⟩
theorem Txt.cv_Word (T : Txt K mg) : ClX.CVal K (He.ga K "Word") (.type "type") "MOST_LETTERS" (.int 8000) (.int 8000 (Classical.choose (clsIntB_ok T.x_cv_Word))) := ⟨Classical.choose_spec (clsIntB_ok T.x_cv_Word), ⟨_, rfl⟩⟩
theorem Txt.ot_Machine (T : Txt K mg) : OT K (He.ga K "Machine") := ⟨T.cl_Machine, He.eqO_ok T.x_ot1_Machine, He.eqO_ok T.x_ot3, of_decide_eq_true T.x_ot4, of_decide_eq_true T.x_ot2_Machine⟩
theorem Txt.cr_Machine (T : Txt K mg) : ClX.CRead K (He.ga K "Machine") (.type "type") := ⟨T.x_cr1_Machine, He.eqO_ok T.x_cr2_Machine⟩
theorem Txt.cv_Machine (T : Txt K mg) : ClX.CVal K (He.ga K "Machine") (.type "type") "MOST_PLACES" (.int 120) (.int 120 (Classical.choose (clsIntB_ok T.x_cv_Machine))) := ⟨Classical.choose_spec (clsIntB_ok T.x_cv_Machine), ⟨_, rfl⟩⟩
theorem Txt.ot_Ranked (T : Txt K mg) : OT K (He.ga K "Ranked") := ⟨T.cl_Ranked, He.eqO_ok T.x_ot1_Ranked, He.eqO_ok T.x_ot3, of_decide_eq_true T.x_ot4, of_decide_eq_true T.x_ot2_Ranked⟩
theorem Txt.cr_Ranked (T : Txt K mg) : ClX.CRead K (He.ga K "Ranked") (.type "type") := ⟨T.x_cr1_Ranked, He.eqO_ok T.x_cr2_Ranked⟩
theorem Txt.cv_Ranked (T : Txt K mg) : ClX.CVal K (He.ga K "Ranked") (.type "type") "MOST_RANK" (.int 12) (.int 12 (Classical.choose (clsIntB_ok T.x_cv_Ranked))) := ⟨Classical.choose_spec (clsIntB_ok T.x_cv_Ranked), ⟨_, rfl⟩⟩
theorem Txt.pp_Machine_letters (T : Txt K mg) : PropOf K (He.ga K "Machine") "letters" (He.ma K (He.ga K "Machine") "letters") (pgA K "Machine" "letters") := propB_ok T.x_pp_Machine_letters
theorem Txt.pp_Ranked_letters (T : Txt K mg) : PropOf K (He.ga K "Ranked") "letters" (He.ma K (He.ga K "Ranked") "letters") (pgA K "Ranked" "letters") := propB_ok T.x_pp_Ranked_letters
theorem Txt.pp_Ranked_machine (T : Txt K mg) : PropOf K (He.ga K "Ranked") "machine" (He.ma K (He.ga K "Ranked") "machine") (pgA K "Ranked" "machine") := propB_ok T.x_pp_Ranked_machine
theorem Txt.pp_Word_begin (T : Txt K mg) : PropOf K (He.ga K "Word") "begin" (He.ma K (He.ga K "Word") "begin") (pgA K "Word" "begin") := propB_ok T.x_pp_Word_begin
theorem Txt.pp_Word_lap (T : Txt K mg) : PropOf K (He.ga K "Word") "lap" (He.ma K (He.ga K "Word") "lap") (pgA K "Word" "lap") := propB_ok T.x_pp_Word_lap
theorem Txt.ne_Machine (T : Txt K mg) : PySem.W.findIn K (.ref (He.ga K "Machine")) "__ne__" = some (some (.builtin "object.__ne__")) := He.eqO_ok T.x_ne_Machine
theorem Txt.ob_Machine (T : Txt K mg) : PySem.W.mroIn K (He.ga K "Machine") (.type "object") = some true := of_decide_eq_true T.x_ot2_Machine
theorem Txt.ne_Ranked (T : Txt K mg) : PySem.W.findIn K (.ref (He.ga K "Ranked")) "__ne__" = some (some (.builtin "object.__ne__")) := He.eqO_ok T.x_ne_Ranked
theorem Txt.ob_Ranked (T : Txt K mg) : PySem.W.mroIn K (He.ga K "Ranked") (.type "object") = some true := of_decide_eq_true T.x_ot2_Ranked
theorem Txt.con_Ranked (T : Txt K mg) : Con K (He.ga K "Ranked") "MOST_RANK" (.int 12) (Classical.choose (He.conB_ok T.x_con)) := Classical.choose_spec (He.conB_ok T.x_con)
theorem Txt.fc_Ranked (T : Txt K mg) : ∀ f, PySem.W.findIn K (.ref (He.ga K "Ranked")) "__call__" = some (some (.ref f)) → PySem.W.fnIn K f = true := fun f h => by
  have e := T.me_Ranked___call__.at_
  rw [h] at e
  cases e
  exact T.x_fc
/-! what isinstance answers -/
def fInt : Da → Option Bool
  | .int _ => some true
  | _ => none
def fBool : Da → Option Bool
  | .int _ => some false
  | _ => none
def fStr : Da → Option Bool
  | .str _ => some true
  | _ => none
def fList : Da → Option Bool
  | .lst _ => some true
  | .tup _ => some false
  | _ => none
def fSeq : Da → Option Bool
  | .lst _ => some true
  | .tup _ => some true
  | _ => none
def fOwn (C : Addr) : Da → Option Bool
  | .obj C' _ _ => if C' = C then some true else none
  | _ => none
def fRk (C M : Addr) : Da → Option Bool
  | .obj C' _ _ => if C' = C then some true else if C' = M then some false else none
  | .non => some false
  | .int _ => some false
  | .str _ => some false
  | .lst _ => some false
  | .tup _ => some false
  | _ => none
theorem Txt.isi_int (T : Txt K mg) : IsiOk K (.type "int") fInt := fun d b h => by
  cases d <;> cases h
  exact ⟨_, .int _, kit_ty (by decide +kernel)⟩
theorem Txt.isi_bool (T : Txt K mg) : IsiOk K (.type "bool") fBool := fun d b h => by
  cases d <;> cases h
  exact ⟨_, .int _, kit_ty (by decide +kernel)⟩
theorem Txt.isi_str (T : Txt K mg) : IsiOk K (.type "str") fStr := fun d b h => by
  cases d <;> cases h
  exact ⟨_, .str _, kit_ty (by decide +kernel)⟩
theorem Txt.isi_list (T : Txt K mg) : IsiOk K (.type "list") fList := fun d b h => by
  cases d <;> cases h
  · exact ⟨_, .lst _, kit_ty (by decide +kernel)⟩
  · exact ⟨_, .tup _, kit_ty (by decide +kernel)⟩
theorem Txt.isi_list_tuple (T : Txt K mg) : IsisOk K [.type "list", .type "tuple"] fSeq := fun d b h => by
  cases d <;> cases h
  · exact ⟨_, .lst _, kitAny_cons (kit_ty (by decide +kernel : kitB "list" "list" = some true)) (fun z => nomatch z) (fun _ => rfl)⟩
  · exact ⟨_, .tup _, kitAny_cons (kit_ty (by decide +kernel : kitB "tuple" "list" = some false)) (fun _ => kitAny_cons (kit_ty (by decide +kernel : kitB "tuple" "tuple" = some true)) (fun z => nomatch z) (fun _ => rfl)) (fun z => nomatch z)⟩
theorem own_ok {C : Addr} (o : OT K C) (h : PySem.W.kitOne K (.ref C) (.ref C) = some true) : IsiOk K (.ref C) (fOwn C) := fun d b e => by
  cases d with
  | obj C' ns es =>
    change (if C' = C then some true else none) = some b at e
    split at e
    · rename_i hc
      cases e
      subst hc
      exact ⟨_, .obj _ _ o, h⟩
    · cases e
  | _ => cases e
theorem Txt.isi_Word (T : Txt K mg) : IsiOk K (.ref (He.ga K "Word")) (fOwn (He.ga K "Word")) := own_ok T.ot_Word (of_decide_eq_true T.x_kit_ww)
theorem Txt.isi_Machine (T : Txt K mg) : IsiOk K (.ref (He.ga K "Machine")) (fOwn (He.ga K "Machine")) := own_ok T.ot_Machine (of_decide_eq_true T.x_kit_mm)
theorem Txt.isi_Ranked (T : Txt K mg) : IsiOk K (.ref (He.ga K "Ranked")) (fRk (He.ga K "Ranked") (He.ga K "Machine")) := fun d b e => by
  cases d with
  | obj C' ns es =>
    change (if C' = He.ga K "Ranked" then some true else if C' = He.ga K "Machine" then some false else none) = some b at e
    split at e
    · rename_i hc
      cases e
      subst hc
      exact ⟨_, .obj _ _ T.ot_Ranked, of_decide_eq_true T.x_kit_rr⟩
    · split at e
      · rename_i hc
        cases e
        subst hc
        exact ⟨_, .obj _ _ T.ot_Machine, of_decide_eq_true T.x_kit_mr⟩
      · cases e
  | non => cases e; exact ⟨_, .non, of_decide_eq_true T.x_kit_NoneType⟩
  | int _ => cases e; exact ⟨_, .int _, of_decide_eq_true T.x_kit_int⟩
  | str _ => cases e; exact ⟨_, .str _, of_decide_eq_true T.x_kit_str⟩
  | lst _ => cases e; exact ⟨_, .lst _, of_decide_eq_true T.x_kit_list⟩
  | tup _ => cases e; exact ⟨_, .tup _, of_decide_eq_true T.x_kit_tuple⟩
  | _ => cases e
theorem Txt.nf_Machine (T : Txt K mg) : NfOk K (He.ga K "Machine") (fun d => (fOwn (He.ga K "Machine") d).isSome) := fun d e => by
  cases d with
  | obj C' ns es =>
    change (if C' = He.ga K "Machine" then some true else none).isSome = true at e
    split at e
    · rename_i hc
      subst hc
      exact ⟨_, .obj _ _ T.ot_Machine, T.x_nf_mm⟩
    · cases e
  | _ => cases e
theorem Txt.nf_Ranked (T : Txt K mg) : NfOk K (He.ga K "Ranked") (fun d => (fRk (He.ga K "Ranked") (He.ga K "Machine") d).isSome) := fun d e => by
  cases d with
  | obj C' ns es =>
    change (if C' = He.ga K "Ranked" then some true else if C' = He.ga K "Machine" then some false else none).isSome = true at e
    split at e
    · rename_i hc
      subst hc
      exact ⟨_, .obj _ _ T.ot_Ranked, T.x_nf_rr⟩
    · split at e
      · rename_i hc
        subst hc
        exact ⟨_, .obj _ _ T.ot_Machine, T.x_nf_mr⟩
      · cases e
  | non => exact ⟨_, .non, T.x_nf_NoneType⟩
  | int _ => exact ⟨_, .int _, T.x_nf_int⟩
  | str _ => exact ⟨_, .str _, T.x_nf_str⟩
  | lst _ => exact ⟨_, .lst _, T.x_nf_list⟩
  | tup _ => exact ⟨_, .tup _, T.x_nf_tuple⟩
  | _ => cases e
theorem Fun.bindsR {x qual : Str} {st : Stmt} {f : Addr} {fd : FuncData} {ps ks : List Str} (F : L2.Fun K x qual st f fd)
    (h : ∀ (kV doc pm : Value) (an : Option Addr) (cdv ct : Value) (u : Value) (ws : List Value), ws.length = ks.length → bindArgs (PySem.W.fnOf x qual (defArgs st) (defBody st) (defScope st) .none kV doc pm an cdv ct) ⟨[u], ks.zip ws⟩ = pure (ps.zip (u :: ws.reverse))) : BindsR fd ps ks := by
  obtain ⟨oc, od, kV, doc, pm, an, cdv, ct, osl, rfl, lk, hcd⟩ := F.ex
  exact fun s u ws hl => .of_eq (h kV doc pm an cdv ct u ws hl)

theorem q_is_integer (T : Txt K mg) : ∃ fd, L2.Fun K "is_integer" "is_integer" s_is_integer (plA K (.g "is_integer")) fd ∧ Binds K fd ["value"] [] := by
  obtain ⟨fd, F⟩ := T.dd 0 rfl
  exact ⟨fd, F, F.binds fun _ _ _ _ _ _ us hl => match us, hl with | [_], _ => rfl⟩
theorem q_is_count (T : Txt K mg) : ∃ fd, L2.Fun K "is_count" "is_count" s_is_count (plA K (.g "is_count")) fd ∧ Binds K fd ["value"] [] := by
  obtain ⟨fd, F⟩ := T.dd 1 rfl
  exact ⟨fd, F, F.binds fun _ _ _ _ _ _ us hl => match us, hl with | [_], _ => rfl⟩
theorem q_is_list (T : Txt K mg) : ∃ fd, L2.Fun K "is_list" "is_list" s_is_list (plA K (.g "is_list")) fd ∧ Binds K fd ["value"] [] := by
  obtain ⟨fd, F⟩ := T.dd 2 rfl
  exact ⟨fd, F, F.binds fun _ _ _ _ _ _ us hl => match us, hl with | [_], _ => rfl⟩
theorem q_is_text (T : Txt K mg) : ∃ fd, L2.Fun K "is_text" "is_text" s_is_text (plA K (.g "is_text")) fd ∧ Binds K fd ["value"] [] := by
  obtain ⟨fd, F⟩ := T.dd 3 rfl
  exact ⟨fd, F, F.binds fun _ _ _ _ _ _ us hl => match us, hl with | [_], _ => rfl⟩
theorem q_are_letters (T : Txt K mg) : ∃ fd, L2.Fun K "are_letters" "are_letters" s_are_letters (plA K (.g "are_letters")) fd ∧ Binds K fd ["value"] [] := by
  obtain ⟨fd, F⟩ := T.dd 4 rfl
  exact ⟨fd, F, F.binds fun _ _ _ _ _ _ us hl => match us, hl with | [_], _ => rfl⟩
theorem q_is_place_of (T : Txt K mg) : ∃ fd, L2.Fun K "is_place_of" "is_place_of" s_is_place_of (plA K (.g "is_place_of")) fd ∧ Binds K fd ["machine", "value"] [] := by
  obtain ⟨fd, F⟩ := T.dd 5 rfl
  exact ⟨fd, F, F.binds fun _ _ _ _ _ _ us hl => match us, hl with | [_, _], _ => rfl⟩
theorem q_want_place (T : Txt K mg) : ∃ fd, L2.Fun K "want_place" "want_place" s_want_place (plA K (.g "want_place")) fd ∧ Binds K fd ["machine", "value"] [] := by
  obtain ⟨fd, F⟩ := T.dd 6 rfl
  exact ⟨fd, F, F.binds fun _ _ _ _ _ _ us hl => match us, hl with | [_, _], _ => rfl⟩
theorem q_rising (T : Txt K mg) : ∃ fd, L2.Fun K "rising" "rising" s_rising (plA K (.g "rising")) fd ∧ Binds K fd ["text"] [] := by
  obtain ⟨fd, F⟩ := T.dd 7 rfl
  exact ⟨fd, F, F.binds fun _ _ _ _ _ _ us hl => match us, hl with | [_], _ => rfl⟩
theorem q_root_of (T : Txt K mg) : ∃ fd, L2.Fun K "root_of" "root_of" s_root_of (plA K (.g "root_of")) fd ∧ Binds K fd ["lap"] [] := by
  obtain ⟨fd, F⟩ := T.dd 8 rfl
  exact ⟨fd, F, F.binds fun _ _ _ _ _ _ us hl => match us, hl with | [_], _ => rfl⟩
theorem q_plain_of (T : Txt K mg) : ∃ fd, L2.Fun K "plain_of" "plain_of" s_plain_of (plA K (.g "plain_of")) fd ∧ Binds K fd ["begin", "lap"] [] := by
  obtain ⟨fd, F⟩ := T.dd 9 rfl
  exact ⟨fd, F, F.binds fun _ _ _ _ _ _ us hl => match us, hl with | [_, _], _ => rfl⟩
theorem q_is_row (T : Txt K mg) : ∃ fd, L2.Fun K "is_row" "is_row" s_is_row (plA K (.g "is_row")) fd ∧ Binds K fd ["value", "size", "many"] [] := by
  obtain ⟨fd, F⟩ := T.dd 10 rfl
  exact ⟨fd, F, F.binds fun _ _ _ _ _ _ us hl => match us, hl with | [_, _, _], _ => rfl⟩
theorem q_want_rows (T : Txt K mg) : ∃ fd, L2.Fun K "want_rows" "want_rows" s_want_rows (plA K (.g "want_rows")) fd ∧ Binds K fd ["letters", "rows"] [] := by
  obtain ⟨fd, F⟩ := T.dd 11 rfl
  exact ⟨fd, F, F.binds fun _ _ _ _ _ _ us hl => match us, hl with | [_, _], _ => rfl⟩
theorem q_want_letter (T : Txt K mg) : ∃ fd, L2.Fun K "want_letter" "want_letter" s_want_letter (plA K (.g "want_letter")) fd ∧ Binds K fd ["machine", "letter"] [] := by
  obtain ⟨fd, F⟩ := T.dd 12 rfl
  exact ⟨fd, F, F.binds fun _ _ _ _ _ _ us hl => match us, hl with | [_, _], _ => rfl⟩
theorem q_want_word (T : Txt K mg) : ∃ fd, L2.Fun K "want_word" "want_word" s_want_word (plA K (.g "want_word")) fd ∧ Binds K fd ["machine", "word"] [] := by
  obtain ⟨fd, F⟩ := T.dd 13 rfl
  exact ⟨fd, F, F.binds fun _ _ _ _ _ _ us hl => match us, hl with | [_, _], _ => rfl⟩
theorem q_goals_by_place (T : Txt K mg) : ∃ fd, L2.Fun K "goals_by_place" "goals_by_place" s_goals_by_place (plA K (.g "goals_by_place")) fd ∧ Binds K fd ["pairs"] [] := by
  obtain ⟨fd, F⟩ := T.dd 14 rfl
  exact ⟨fd, F, F.binds fun _ _ _ _ _ _ us hl => match us, hl with | [_], _ => rfl⟩
theorem q_left_behind (T : Txt K mg) : ∃ fd, L2.Fun K "left_behind" "left_behind" s_left_behind (plA K (.g "left_behind")) fd ∧ Binds K fd ["goals", "start", "seen"] [] := by
  obtain ⟨fd, F⟩ := T.dd 15 rfl
  exact ⟨fd, F, F.binds fun _ _ _ _ _ _ us hl => match us, hl with | [_, _, _], _ => rfl⟩
theorem q_left_in_order (T : Txt K mg) : ∃ fd, L2.Fun K "left_in_order" "left_in_order" s_left_in_order (plA K (.g "left_in_order")) fd ∧ Binds K fd ["many", "goals"] [] := by
  obtain ⟨fd, F⟩ := T.dd 16 rfl
  exact ⟨fd, F, F.binds fun _ _ _ _ _ _ us hl => match us, hl with | [_, _], _ => rfl⟩
theorem q_joined_parts (T : Txt K mg) : ∃ fd, L2.Fun K "joined_parts" "joined_parts" s_joined_parts (plA K (.g "joined_parts")) fd ∧ Binds K fd ["many", "links"] [] := by
  obtain ⟨fd, F⟩ := T.dd 17 rfl
  exact ⟨fd, F, F.binds fun _ _ _ _ _ _ us hl => match us, hl with | [_, _], _ => rfl⟩
theorem q_links_within (T : Txt K mg) : ∃ fd, L2.Fun K "links_within" "links_within" s_links_within (plA K (.g "links_within")) fd ∧ Binds K fd ["machine", "places"] [] := by
  obtain ⟨fd, F⟩ := T.dd 18 rfl
  exact ⟨fd, F, F.binds fun _ _ _ _ _ _ us hl => match us, hl with | [_, _], _ => rfl⟩
theorem q_parts (T : Txt K mg) : ∃ fd, L2.Fun K "parts" "parts" s_parts (plA K (.g "parts")) fd ∧ Binds K fd ["machine"] [] := by
  obtain ⟨fd, F⟩ := T.dd 19 rfl
  exact ⟨fd, F, F.binds fun _ _ _ _ _ _ us hl => match us, hl with | [_], _ => rfl⟩
theorem q_is_rank_row (T : Txt K mg) : ∃ fd, L2.Fun K "is_rank_row" "is_rank_row" s_is_rank_row (plA K (.g "is_rank_row")) fd ∧ Binds K fd ["value", "size"] [] := by
  obtain ⟨fd, F⟩ := T.dd 20 rfl
  exact ⟨fd, F, F.binds fun _ _ _ _ _ _ us hl => match us, hl with | [_, _], _ => rfl⟩
theorem q_want_ranks (T : Txt K mg) : ∃ fd, L2.Fun K "want_ranks" "want_ranks" s_want_ranks (plA K (.g "want_ranks")) fd ∧ Binds K fd ["machine", "ranks"] [] := by
  obtain ⟨fd, F⟩ := T.dd 21 rfl
  exact ⟨fd, F, F.binds fun _ _ _ _ _ _ us hl => match us, hl with | [_, _], _ => rfl⟩
theorem q_walked (T : Txt K mg) : ∃ fd, L2.Fun K "walked" "walked" s_walked (plA K (.g "walked")) fd ∧ Binds K fd ["machine", "start", "text"] [] := by
  obtain ⟨fd, F⟩ := T.dd 22 rfl
  exact ⟨fd, F, F.binds fun _ _ _ _ _ _ us hl => match us, hl with | [_, _, _], _ => rfl⟩
theorem q_kept_steps (T : Txt K mg) : ∃ fd, L2.Fun K "kept_steps" "kept_steps" s_kept_steps (plA K (.g "kept_steps")) fd ∧ Binds K fd ["machine", "word"] [] := by
  obtain ⟨fd, F⟩ := T.dd 23 rfl
  exact ⟨fd, F, F.binds fun _ _ _ _ _ _ us hl => match us, hl with | [_, _], _ => rfl⟩
theorem q_links_of (T : Txt K mg) : ∃ fd, L2.Fun K "links_of" "links_of" s_links_of (plA K (.g "links_of")) fd ∧ Binds K fd ["ranked"] [] := by
  obtain ⟨fd, F⟩ := T.dd 24 rfl
  exact ⟨fd, F, F.binds fun _ _ _ _ _ _ us hl => match us, hl with | [_], _ => rfl⟩
theorem q_Word___init (T : Txt K mg) : ∃ fd, L2.Fun K "__init__" "Word.__init__" s_Word___init (plA K (.m "Word" "__init__")) fd ∧ Binds K fd ["self", "begin", "lap"] [] ∧ BindsR fd ["self", "begin", "lap"] ["lap", "begin"] := by
  obtain ⟨fd, F⟩ := T.dd 25 rfl
  exact ⟨fd, F, F.binds fun _ _ _ _ _ _ us hl => match us, hl with | [_, _, _], _ => rfl, Fun.bindsR F fun _ _ _ _ _ _ _ ws hl => match ws, hl with | [_, _], _ => rfl⟩
theorem q_Word_begin (T : Txt K mg) : ∃ fd, L2.Fun K "begin" "Word.begin" s_Word_begin (plA K (.p "Word" "begin")) fd ∧ Binds K fd ["self"] [] := by
  obtain ⟨fd, F⟩ := T.dd 26 rfl
  exact ⟨fd, F, F.binds fun _ _ _ _ _ _ us hl => match us, hl with | [_], _ => rfl⟩
theorem q_Word_lap (T : Txt K mg) : ∃ fd, L2.Fun K "lap" "Word.lap" s_Word_lap (plA K (.p "Word" "lap")) fd ∧ Binds K fd ["self"] [] := by
  obtain ⟨fd, F⟩ := T.dd 27 rfl
  exact ⟨fd, F, F.binds fun _ _ _ _ _ _ us hl => match us, hl with | [_], _ => rfl⟩
theorem q_Word_coming (T : Txt K mg) : ∃ fd, L2.Fun K "coming" "Word.coming" s_Word_coming (plA K (.m "Word" "coming")) fd ∧ Binds K fd ["self"] [] ∧ BindsR fd ["self"] [] := by
  obtain ⟨fd, F⟩ := T.dd 28 rfl
  exact ⟨fd, F, F.binds fun _ _ _ _ _ _ us hl => match us, hl with | [_], _ => rfl, Fun.bindsR F fun _ _ _ _ _ _ _ ws hl => match ws, hl with | [], _ => rfl⟩
theorem q_Machine___init (T : Txt K mg) : ∃ fd, L2.Fun K "__init__" "Machine.__init__" s_Machine___init (plA K (.m "Machine" "__init__")) fd ∧ Binds K fd ["self", "letters", "rows"] [] ∧ BindsR fd ["self", "letters", "rows"] ["rows", "letters"] := by
  obtain ⟨fd, F⟩ := T.dd 29 rfl
  exact ⟨fd, F, F.binds fun _ _ _ _ _ _ us hl => match us, hl with | [_, _, _], _ => rfl, Fun.bindsR F fun _ _ _ _ _ _ _ ws hl => match ws, hl with | [_, _], _ => rfl⟩
theorem q_Machine_letters (T : Txt K mg) : ∃ fd, L2.Fun K "letters" "Machine.letters" s_Machine_letters (plA K (.p "Machine" "letters")) fd ∧ Binds K fd ["self"] [] := by
  obtain ⟨fd, F⟩ := T.dd 30 rfl
  exact ⟨fd, F, F.binds fun _ _ _ _ _ _ us hl => match us, hl with | [_], _ => rfl⟩
theorem q_Machine___len (T : Txt K mg) : ∃ fd, L2.Fun K "__len__" "Machine.__len__" s_Machine___len (plA K (.m "Machine" "__len__")) fd ∧ Binds K fd ["self"] [] ∧ BindsR fd ["self"] [] := by
  obtain ⟨fd, F⟩ := T.dd 31 rfl
  exact ⟨fd, F, F.binds fun _ _ _ _ _ _ us hl => match us, hl with | [_], _ => rfl, Fun.bindsR F fun _ _ _ _ _ _ _ ws hl => match ws, hl with | [], _ => rfl⟩
theorem q_Machine___eq (T : Txt K mg) : ∃ fd, L2.Fun K "__eq__" "Machine.__eq__" s_Machine___eq (plA K (.m "Machine" "__eq__")) fd ∧ Binds K fd ["self", "other"] [] ∧ BindsR fd ["self", "other"] ["other"] := by
  obtain ⟨fd, F⟩ := T.dd 32 rfl
  exact ⟨fd, F, F.binds fun _ _ _ _ _ _ us hl => match us, hl with | [_, _], _ => rfl, Fun.bindsR F fun _ _ _ _ _ _ _ ws hl => match ws, hl with | [_], _ => rfl⟩
theorem q_Machine___repr (T : Txt K mg) : ∃ fd, L2.Fun K "__repr__" "Machine.__repr__" s_Machine___repr (plA K (.m "Machine" "__repr__")) fd ∧ Binds K fd ["self"] [] ∧ BindsR fd ["self"] [] := by
  obtain ⟨fd, F⟩ := T.dd 33 rfl
  exact ⟨fd, F, F.binds fun _ _ _ _ _ _ us hl => match us, hl with | [_], _ => rfl, Fun.bindsR F fun _ _ _ _ _ _ _ ws hl => match ws, hl with | [], _ => rfl⟩
theorem q_Ranked___init (T : Txt K mg) : ∃ fd, L2.Fun K "__init__" "Ranked.__init__" s_Ranked___init (plA K (.m "Ranked" "__init__")) fd ∧ Binds K fd ["self", "machine", "ranks"] [] ∧ BindsR fd ["self", "machine", "ranks"] ["ranks", "machine"] := by
  obtain ⟨fd, F⟩ := T.dd 34 rfl
  exact ⟨fd, F, F.binds fun _ _ _ _ _ _ us hl => match us, hl with | [_, _, _], _ => rfl, Fun.bindsR F fun _ _ _ _ _ _ _ ws hl => match ws, hl with | [_, _], _ => rfl⟩
theorem q_Ranked_machine (T : Txt K mg) : ∃ fd, L2.Fun K "machine" "Ranked.machine" s_Ranked_machine (plA K (.p "Ranked" "machine")) fd ∧ Binds K fd ["self"] [] := by
  obtain ⟨fd, F⟩ := T.dd 35 rfl
  exact ⟨fd, F, F.binds fun _ _ _ _ _ _ us hl => match us, hl with | [_], _ => rfl⟩
theorem q_Ranked_letters (T : Txt K mg) : ∃ fd, L2.Fun K "letters" "Ranked.letters" s_Ranked_letters (plA K (.p "Ranked" "letters")) fd ∧ Binds K fd ["self"] [] := by
  obtain ⟨fd, F⟩ := T.dd 36 rfl
  exact ⟨fd, F, F.binds fun _ _ _ _ _ _ us hl => match us, hl with | [_], _ => rfl⟩
theorem q_Ranked_ranks (T : Txt K mg) : ∃ fd, L2.Fun K "ranks" "Ranked.ranks" s_Ranked_ranks (plA K (.m "Ranked" "ranks")) fd ∧ Binds K fd ["self"] [] ∧ BindsR fd ["self"] [] := by
  obtain ⟨fd, F⟩ := T.dd 37 rfl
  exact ⟨fd, F, F.binds fun _ _ _ _ _ _ us hl => match us, hl with | [_], _ => rfl, Fun.bindsR F fun _ _ _ _ _ _ _ ws hl => match ws, hl with | [], _ => rfl⟩
theorem q_Ranked_rank (T : Txt K mg) : ∃ fd, L2.Fun K "rank" "Ranked.rank" s_Ranked_rank (plA K (.m "Ranked" "rank")) fd ∧ Binds K fd ["self", "place", "letter"] [] ∧ BindsR fd ["self", "place", "letter"] ["letter", "place"] := by
  obtain ⟨fd, F⟩ := T.dd 38 rfl
  exact ⟨fd, F, F.binds fun _ _ _ _ _ _ us hl => match us, hl with | [_, _, _], _ => rfl, Fun.bindsR F fun _ _ _ _ _ _ _ ws hl => match ws, hl with | [_, _], _ => rfl⟩
theorem q_Ranked_greatest (T : Txt K mg) : ∃ fd, L2.Fun K "greatest" "Ranked.greatest" s_Ranked_greatest (plA K (.m "Ranked" "greatest")) fd ∧ Binds K fd ["self", "word"] [] ∧ BindsR fd ["self", "word"] ["word"] := by
  obtain ⟨fd, F⟩ := T.dd 39 rfl
  exact ⟨fd, F, F.binds fun _ _ _ _ _ _ us hl => match us, hl with | [_, _], _ => rfl, Fun.bindsR F fun _ _ _ _ _ _ _ ws hl => match ws, hl with | [_], _ => rfl⟩
theorem q_Ranked_used (T : Txt K mg) : ∃ fd, L2.Fun K "used" "Ranked.used" s_Ranked_used (plA K (.m "Ranked" "used")) fd ∧ Binds K fd ["self"] [] ∧ BindsR fd ["self"] [] := by
  obtain ⟨fd, F⟩ := T.dd 40 rfl
  exact ⟨fd, F, F.binds fun _ _ _ _ _ _ us hl => match us, hl with | [_], _ => rfl, Fun.bindsR F fun _ _ _ _ _ _ _ ws hl => match ws, hl with | [], _ => rfl⟩
theorem q_Ranked___call (T : Txt K mg) : ∃ fd, L2.Fun K "__call__" "Ranked.__call__" s_Ranked___call (plA K (.m "Ranked" "__call__")) fd ∧ Binds K fd ["self", "word"] [] ∧ BindsR fd ["self", "word"] ["word"] := by
  obtain ⟨fd, F⟩ := T.dd 41 rfl
  exact ⟨fd, F, F.binds fun _ _ _ _ _ _ us hl => match us, hl with | [_, _], _ => rfl, Fun.bindsR F fun _ _ _ _ _ _ _ ws hl => match ws, hl with | [_], _ => rfl⟩
theorem q_Ranked___invert (T : Txt K mg) : ∃ fd, L2.Fun K "__invert__" "Ranked.__invert__" s_Ranked___invert (plA K (.m "Ranked" "__invert__")) fd ∧ Binds K fd ["self"] [] ∧ BindsR fd ["self"] [] := by
  obtain ⟨fd, F⟩ := T.dd 42 rfl
  exact ⟨fd, F, F.binds fun _ _ _ _ _ _ us hl => match us, hl with | [_], _ => rfl, Fun.bindsR F fun _ _ _ _ _ _ _ ws hl => match ws, hl with | [], _ => rfl⟩
theorem q_Ranked___eq (T : Txt K mg) : ∃ fd, L2.Fun K "__eq__" "Ranked.__eq__" s_Ranked___eq (plA K (.m "Ranked" "__eq__")) fd ∧ Binds K fd ["self", "other"] [] ∧ BindsR fd ["self", "other"] ["other"] := by
  obtain ⟨fd, F⟩ := T.dd 43 rfl
  exact ⟨fd, F, F.binds fun _ _ _ _ _ _ us hl => match us, hl with | [_, _], _ => rfl, Fun.bindsR F fun _ _ _ _ _ _ _ ws hl => match ws, hl with | [_], _ => rfl⟩
theorem q_Ranked___repr (T : Txt K mg) : ∃ fd, L2.Fun K "__repr__" "Ranked.__repr__" s_Ranked___repr (plA K (.m "Ranked" "__repr__")) fd ∧ Binds K fd ["self"] [] ∧ BindsR fd ["self"] [] := by
  obtain ⟨fd, F⟩ := T.dd 44 rfl
  exact ⟨fd, F, F.binds fun _ _ _ _ _ _ us hl => match us, hl with | [_], _ => rfl, Fun.bindsR F fun _ _ _ _ _ _ _ ws hl => match ws, hl with | [], _ => rfl⟩
theorem q_law_pot (T : Txt K mg) : ∃ fd, L2.Fun K "_law_pot" "_law_pot" s_law_pot (plA K (.g "_law_pot")) fd ∧ Binds K fd ["_law_script", "_law_k"] [] := by
  obtain ⟨fd, F⟩ := T.dd 45 rfl
  exact ⟨fd, F, F.binds fun _ _ _ _ _ _ us hl => match us, hl with | [_, _], _ => rfl⟩
theorem q_law_draw (T : Txt K mg) : ∃ fd, L2.Fun K "_law_draw" "_law_draw" s_law_draw (plA K (.g "_law_draw")) fd ∧ Binds K fd ["_law_pot_here", "_law_size"] [] := by
  obtain ⟨fd, F⟩ := T.dd 46 rfl
  exact ⟨fd, F, F.binds fun _ _ _ _ _ _ us hl => match us, hl with | [_, _], _ => rfl⟩
theorem q_law_pick (T : Txt K mg) : ∃ fd, L2.Fun K "_law_pick" "_law_pick" s_law_pick (plA K (.g "_law_pick")) fd ∧ Binds K fd ["_law_pot_here", "_law_some"] [] := by
  obtain ⟨fd, F⟩ := T.dd 47 rfl
  exact ⟨fd, F, F.binds fun _ _ _ _ _ _ us hl => match us, hl with | [_, _], _ => rfl⟩
theorem q_law_met (T : Txt K mg) : ∃ fd, L2.Fun K "_law_met" "_law_met" s_law_met (plA K (.g "_law_met")) fd ∧ Binds K fd ["_law_rows"] [] := by
  obtain ⟨fd, F⟩ := T.dd 48 rfl
  exact ⟨fd, F, F.binds fun _ _ _ _ _ _ us hl => match us, hl with | [_], _ => rfl⟩
theorem q_law_turned (T : Txt K mg) : ∃ fd, L2.Fun K "_law_turned" "_law_turned" s_law_turned (plA K (.g "_law_turned")) fd ∧ Binds K fd ["_law_pot_here", "_law_rows"] [] := by
  obtain ⟨fd, F⟩ := T.dd 49 rfl
  exact ⟨fd, F, F.binds fun _ _ _ _ _ _ us hl => match us, hl with | [_, _], _ => rfl⟩
theorem q_law_net (T : Txt K mg) : ∃ fd, L2.Fun K "_law_net" "_law_net" s_law_net (plA K (.g "_law_net")) fd ∧ Binds K fd ["_law_pot_here", "_law_most"] [] := by
  obtain ⟨fd, F⟩ := T.dd 50 rfl
  exact ⟨fd, F, F.binds fun _ _ _ _ _ _ us hl => match us, hl with | [_, _], _ => rfl⟩
theorem q_law_flood (T : Txt K mg) : ∃ fd, L2.Fun K "_law_flood" "_law_flood" s_law_flood (plA K (.g "_law_flood")) fd ∧ Binds K fd ["_law_rows", "_law_some", "_law_spot"] [] := by
  obtain ⟨fd, F⟩ := T.dd 51 rfl
  exact ⟨fd, F, F.binds fun _ _ _ _ _ _ us hl => match us, hl with | [_, _, _], _ => rfl⟩
theorem q_law_marks (T : Txt K mg) : ∃ fd, L2.Fun K "_law_marks" "_law_marks" s_law_marks (plA K (.g "_law_marks")) fd ∧ Binds K fd ["_law_pot_here", "_law_net_here", "_law_most"] [] := by
  obtain ⟨fd, F⟩ := T.dd 52 rfl
  exact ⟨fd, F, F.binds fun _ _ _ _ _ _ us hl => match us, hl with | [_, _, _], _ => rfl⟩
theorem q_law_behind (T : Txt K mg) : ∃ fd, L2.Fun K "_law_behind" "_law_behind" s_law_behind (plA K (.g "_law_behind")) fd ∧ Binds K fd ["_law_net_here", "_law_spot", "_law_term_here"] [] := by
  obtain ⟨fd, F⟩ := T.dd 53 rfl
  exact ⟨fd, F, F.binds fun _ _ _ _ _ _ us hl => match us, hl with | [_, _, _], _ => rfl⟩
theorem q_law_top_by (T : Txt K mg) : ∃ fd, L2.Fun K "_law_top_by" "_law_top_by" s_law_top_by (plA K (.g "_law_top_by")) fd ∧ Binds K fd ["_law_net_here", "_law_marks_here", "_law_head", "_law_tail"] [] := by
  obtain ⟨fd, F⟩ := T.dd 54 rfl
  exact ⟨fd, F, F.binds fun _ _ _ _ _ _ us hl => match us, hl with | [_, _, _, _], _ => rfl⟩
theorem q_law_is_even (T : Txt K mg) : ∃ fd, L2.Fun K "_law_is_even" "_law_is_even" s_law_is_even (plA K (.g "_law_is_even")) fd ∧ Binds K fd ["_law_number_now"] [] := by
  obtain ⟨fd, F⟩ := T.dd 55 rfl
  exact ⟨fd, F, F.binds fun _ _ _ _ _ _ us hl => match us, hl with | [_], _ => rfl⟩
theorem q_law_term (T : Txt K mg) : ∃ fd, L2.Fun K "_law_term" "_law_term" s_law_term (plA K (.g "_law_term")) fd ∧ Binds K fd ["_law_pot_here", "_law_net_here", "_law_least_now", "_law_most"] [] := by
  obtain ⟨fd, F⟩ := T.dd 56 rfl
  exact ⟨fd, F, F.binds fun _ _ _ _ _ _ us hl => match us, hl with | [_, _, _, _], _ => rfl⟩
theorem q_law_used (T : Txt K mg) : ∃ fd, L2.Fun K "_law_used" "_law_used" s_law_used (plA K (.g "_law_used")) fd ∧ Binds K fd ["_law_net_here", "_law_marks_here"] [] := by
  obtain ⟨fd, F⟩ := T.dd 57 rfl
  exact ⟨fd, F, F.binds fun _ _ _ _ _ _ us hl => match us, hl with | [_, _], _ => rfl⟩
theorem q_law_told_so (T : Txt K mg) : ∃ fd, L2.Fun K "_law_told_so" "_law_told_so" s_law_told_so (plA K (.g "_law_told_so")) fd ∧ Binds K fd ["_law_pot_here", "_law_head", "_law_tail"] [] := by
  obtain ⟨fd, F⟩ := T.dd 58 rfl
  exact ⟨fd, F, F.binds fun _ _ _ _ _ _ us hl => match us, hl with | [_, _, _], _ => rfl⟩
theorem q_law_words_right (T : Txt K mg) : ∃ fd, L2.Fun K "_law_words_right" "_law_words_right" s_law_words_right (plA K (.g "_law_words_right")) fd ∧ Binds K fd ["_law_pot_here", "_law_net_here", "_law_marks_here", "_law_made"] [] := by
  obtain ⟨fd, F⟩ := T.dd 59 rfl
  exact ⟨fd, F, F.binds fun _ _ _ _ _ _ us hl => match us, hl with | [_, _, _, _], _ => rfl⟩
theorem q_law_is (T : Txt K mg) : ∃ fd, L2.Fun K "_law_is" "_law_is" s_law_is (plA K (.g "_law_is")) fd ∧ Binds K fd ["_law_made", "_law_frame", "_law_net_here", "_law_marks_here"] [] := by
  obtain ⟨fd, F⟩ := T.dd 60 rfl
  exact ⟨fd, F, F.binds fun _ _ _ _ _ _ us hl => match us, hl with | [_, _, _, _], _ => rfl⟩
theorem q_law_equal_right (T : Txt K mg) : ∃ fd, L2.Fun K "_law_equal_right" "_law_equal_right" s_law_equal_right (plA K (.g "_law_equal_right")) fd ∧ Binds K fd ["_law_made", "_law_frame", "_law_net_here", "_law_marks_here"] [] := by
  obtain ⟨fd, F⟩ := T.dd 61 rfl
  exact ⟨fd, F, F.binds fun _ _ _ _ _ _ us hl => match us, hl with | [_, _, _, _], _ => rfl⟩
theorem q_law_about_right (T : Txt K mg) : ∃ fd, L2.Fun K "_law_about_right" "_law_about_right" s_law_about_right (plA K (.g "_law_about_right")) fd ∧ Binds K fd ["_law_made", "_law_frame", "_law_net_here", "_law_marks_here"] [] := by
  obtain ⟨fd, F⟩ := T.dd 62 rfl
  exact ⟨fd, F, F.binds fun _ _ _ _ _ _ us hl => match us, hl with | [_, _, _, _], _ => rfl⟩
theorem q_law_great_right (T : Txt K mg) : ∃ fd, L2.Fun K "_law_great_right" "_law_great_right" s_law_great_right (plA K (.g "_law_great_right")) fd ∧ Binds K fd ["_law_pot_here"] [] := by
  obtain ⟨fd, F⟩ := T.dd 63 rfl
  exact ⟨fd, F, F.binds fun _ _ _ _ _ _ us hl => match us, hl with | [_], _ => rfl⟩
theorem q_law_right (T : Txt K mg) : ∃ fd, L2.Fun K "_law_right" "_law_right" s_law_right (plA K (.g "_law_right")) fd ∧ Binds K fd ["_law_pot_here"] [] := by
  obtain ⟨fd, F⟩ := T.dd 64 rfl
  exact ⟨fd, F, F.binds fun _ _ _ _ _ _ us hl => match us, hl with | [_], _ => rfl⟩
theorem q_law (T : Txt K mg) : ∃ fd, L2.Fun K "law" "law" s_law (plA K (.g "law")) fd ∧ Binds K fd ["_law_script"] [] := by
  obtain ⟨fd, F⟩ := T.dd 65 rfl
  exact ⟨fd, F, F.binds fun _ _ _ _ _ _ us hl => match us, hl with | [_], _ => rfl⟩
theorem q_met_from_machines (T : Txt K mg) : ∃ fd, L2.Fun K "met_from" "met_from" s_met_from_machines (plA K (.g "met_from_machines")) fd ∧ Binds K fd ["rows", "start"] [] := by
  obtain ⟨fd, F⟩ := T.dd 66 rfl
  exact ⟨fd, F, F.binds fun _ _ _ _ _ _ us hl => match us, hl with | [_, _], _ => rfl⟩
theorem q_met_from_rings (T : Txt K mg) : ∃ fd, L2.Fun K "met_from" "met_from" s_met_from_rings (plA K (.g "met_from_rings")) fd ∧ Binds K fd ["rows", "start", "known"] [] := by
  obtain ⟨fd, F⟩ := T.dd 67 rfl
  exact ⟨fd, F, F.binds fun _ _ _ _ _ _ us hl => match us, hl with | [_, _, _], _ => rfl⟩
end
end RK
-- M1
set_option linter.all false
/-! M1: words that go round (plain lists) -/
namespace RK

/-- lap is root, told several times -/
def IsRoot (root lap : List Nat) : Prop := root ≠ [] ∧ ∃ k, 1 ≤ k ∧ lap = (List.replicate k root).flatten
/-- the sign at place i of a word that goes round -/
def wd (b l : List Nat) (i : Nat) : Nat := if i < b.length then b.getD i 0 else l.getD ((i - b.length) % l.length) 0
theorem flat_len (root : List Nat) (k : Nat) : (List.replicate k root).flatten.length = k * root.length := by
  induction k with
  | zero => simp
  | succ k ih => rw [List.replicate_succ, List.flatten_cons, List.length_append, ih, Nat.succ_mul, Nat.add_comm]
theorem flat_get (root : List Nat) (hr : 0 < root.length) : ∀ (k t : Nat), t < k * root.length → (List.replicate k root).flatten.getD t 0 = root.getD (t % root.length) 0
  | 0, t, h => by simp at h
  | k + 1, t, h => by
    rw [List.replicate_succ, List.flatten_cons]
    by_cases ht : t < root.length
    · rw [List.getD_eq_getElem?_getD, List.getElem?_append_left ht, Nat.mod_eq_of_lt ht, List.getD_eq_getElem?_getD]
    · rw [List.getD_eq_getElem?_getD, List.getElem?_append_right (by omega), ← List.getD_eq_getElem?_getD, flat_get root hr k (t - root.length) (by rw [Nat.succ_mul] at h; omega)]
      rw [Nat.mod_eq_sub_mod (a := t) (by omega)]
theorem root_pos {root lap : List Nat} (h : IsRoot root lap) : 0 < root.length := List.length_pos_iff.mpr h.1
theorem lap_get {root lap : List Nat} (h : IsRoot root lap) (t : Nat) : lap.getD (t % lap.length) 0 = root.getD (t % root.length) 0 := by
  have hp := root_pos h
  obtain ⟨_, k, hk, rfl⟩ := h
  rw [flat_len]
  have hkp : 0 < k * root.length := Nat.mul_pos hk hp
  rw [flat_get root hp k _ (Nat.mod_lt _ hkp), Nat.mod_mod_of_dvd _ (Nat.dvd_mul_left _ _)]
theorem root_mem {root lap : List Nat} (h : IsRoot root lap) {c : Nat} (hc : c ∈ root) : c ∈ lap := by
  obtain ⟨_, k, hk, rfl⟩ := h
  rw [List.mem_flatten]
  exact ⟨root, by rw [List.mem_replicate]; exact ⟨by omega, rfl⟩, hc⟩
theorem root_le {root lap : List Nat} (h : IsRoot root lap) : root.length ≤ lap.length := by
  obtain ⟨_, k, hk, rfl⟩ := h
  rw [flat_len]
  exact Nat.le_mul_of_pos_left _ hk
/-- root turned by c -/
def rot (root : List Nat) (c : Nat) : List Nat := root.drop c ++ root.take c
theorem rot_len {root : List Nat} {c : Nat} (hc : c ≤ root.length) : (rot root c).length = root.length := by
  unfold rot
  rw [List.length_append, List.length_drop, List.length_take]
  omega
theorem rot_get {root : List Nat} {c t : Nat} (hc : c < root.length) (ht : t < root.length) : (rot root c).getD t 0 = root.getD ((c + t) % root.length) 0 := by
  unfold rot
  rw [List.getD_eq_getElem?_getD, List.getD_eq_getElem?_getD]
  by_cases h : t < root.length - c
  · rw [List.getElem?_append_left (by rw [List.length_drop]; exact h), List.getElem?_drop, Nat.mod_eq_of_lt (by omega)]
  · rw [List.getElem?_append_right (by rw [List.length_drop]; omega), List.length_drop, List.getElem?_take]
    rw [if_pos (by omega), Nat.mod_eq_sub_mod (by omega), Nat.mod_eq_of_lt (by omega)]
    congr 2
    omega
theorem plain_word {b l root : List Nat} (hr : IsRoot root l) {same c : Nat} (hs : same ≤ b.length) (hc : (c : Int) = ((root.length : Int) - same) % root.length)
    (hm : ∀ j, j < same → b.getD (b.length - 1 - j) 0 = root.getD ((((root.length : Int) - 1 - j) % root.length).toNat) 0) (i : Nat) : wd (b.take (b.length - same)) (rot root c) i = wd b l i := by
  have hp := root_pos hr
  have hcl : c < root.length := by
    have := Int.emod_lt_of_pos ((root.length : Int) - same) (by omega : (0 : Int) < root.length)
    omega
  have hd : (root.length : Int) ∣ (c : Int) + same := by
    rw [hc]
    have h1 := Int.emod_add_mul_ediv ((root.length : Int) - same) root.length
    refine ⟨1 - ((root.length : Int) - same) / root.length, ?_⟩
    rw [Int.mul_sub]
    omega
  have hd2 : root.length ∣ c + same := by
    have : ((root.length : Nat) : Int) ∣ ((c + same : Nat) : Int) := by
      rw [Int.natCast_add]
      exact hd
    exact Int.natCast_dvd_natCast.mp this
  unfold wd
  rw [List.length_take, Nat.min_eq_left (by omega), rot_len (by omega)]
  by_cases h1 : i < b.length - same
  · rw [if_pos h1, if_pos (by omega), List.getD_eq_getElem?_getD, List.getElem?_take, if_pos h1, List.getD_eq_getElem?_getD]
  · rw [if_neg h1, rot_get hcl (Nat.mod_lt _ hp), Nat.add_mod_mod]
    by_cases h2 : i < b.length
    · rw [if_pos h2]
      have h3 := hm (b.length - 1 - i) (by omega)
      rw [show b.length - 1 - (b.length - 1 - i) = i by omega] at h3
      rw [h3]
      congr 1
      have h4 : (((c + (i - (b.length - same))) % root.length : Nat) : Int) = ((root.length : Int) - 1 - ((b.length - 1 - i : Nat) : Int)) % root.length := by
        rw [Int.natCast_emod]
        rw [Int.emod_eq_emod_iff_emod_sub_eq_zero]
        apply Int.emod_eq_zero_of_dvd
        have e : ((c + (i - (b.length - same)) : Nat) : Int) - ((root.length : Int) - 1 - ((b.length - 1 - i : Nat) : Int)) = ((c : Int) + same) - root.length := by omega
        rw [e]
        exact Int.dvd_sub hd (Int.dvd_refl _)
      omega
    · rw [if_neg h2, lap_get hr]
      congr 1
      have e : c + (i - (b.length - same)) = (c + same) + (i - b.length) := by omega
      rw [e, Nat.add_mod, Nat.mod_eq_zero_of_dvd hd2, Nat.zero_add, Nat.mod_mod]
theorem rot_mem {root : List Nat} {c x : Nat} : x ∈ rot root c ↔ x ∈ root := by
  unfold rot
  rw [List.mem_append]
  constructor
  · rintro (h | h)
    · exact List.mem_of_mem_drop h
    · exact List.mem_of_mem_take h
  · intro h
    rw [← List.take_append_drop c root, List.mem_append] at h
    exact h.symm
/-- a word's signs are those of its begin and its lap -/
theorem wd_mem {b l : List Nat} (hl : l ≠ []) (i : Nat) : wd b l i ∈ b ∨ wd b l i ∈ l := by
  unfold wd
  by_cases h : i < b.length
  · rw [if_pos h]
    refine .inl ?_
    rw [List.getD_eq_getElem?_getD, List.getElem?_eq_getElem h]
    exact List.getElem_mem h
  · rw [if_neg h]
    have hp := List.length_pos_iff.mpr hl
    have := Nat.mod_lt (i - b.length) hp
    refine .inr ?_
    rw [List.getD_eq_getElem?_getD, List.getElem?_eq_getElem this]
    exact List.getElem_mem this
end RK
-- M2
set_option linter.all false
/-! M2: machines as plain lists: goals, what is come to -/
namespace RK

theorem nodup_len : ∀ (n : Nat) (l : List Nat), l.Nodup → (∀ x ∈ l, x < n) → l.length ≤ n
  | 0, l, _, h => by
    cases l with
    | nil => exact Nat.le_refl _
    | cons x l => exact absurd (h x List.mem_cons_self) (Nat.not_lt_zero _)
  | n + 1, l, hn, h => by
    have h1 := nodup_len n (l.erase n) (hn.erase n) fun x hx => by
      have hx' := (hn.mem_erase_iff).mp hx
      have := h x hx'.2
      omega
    by_cases hm : n ∈ l
    · rw [List.length_erase_of_mem hm] at h1
      omega
    · rw [List.erase_of_not_mem hm] at h1
      omega
/-- the goals of a place -/
def row (rows : List (List Nat)) (p : Nat) : List Nat := rows.getD p []
inductive Reach (rows : List (List Nat)) : Nat → Nat → Prop
  | refl (p : Nat) : Reach rows p p
  | tail {p q g : Nat} : Reach rows p q → g ∈ row rows q → Reach rows p g
theorem Reach.trans {rows : List (List Nat)} {a b c : Nat} (h : Reach rows a b) (k : Reach rows b c) : Reach rows a c := by
  induction k with
  | refl => exact h
  | tail _ hg ih => exact .tail ih hg
theorem Reach.head {rows : List (List Nat)} {a b c : Nat} (h : b ∈ row rows a) (k : Reach rows b c) : Reach rows a c := (Reach.tail (.refl a) h).trans k
/-- all goals are places -/
def InR (rows : List (List Nat)) : Prop := ∀ r ∈ rows, ∀ g ∈ r, g < rows.length
theorem row_mem {rows : List (List Nat)} {p : Nat} (hp : p < rows.length) : row rows p ∈ rows := by
  unfold row
  rw [List.getD_eq_getElem?_getD, List.getElem?_eq_getElem hp]
  exact List.getElem_mem hp
theorem row_out {rows : List (List Nat)} {p : Nat} (hp : ¬ p < rows.length) : row rows p = [] := by
  unfold row
  rw [List.getD_eq_getElem?_getD, List.getElem?_eq_none (by omega)]
  rfl
theorem InR.lt {rows : List (List Nat)} (h : InR rows) {p g : Nat} (hg : g ∈ row rows p) : g < rows.length := by
  by_cases hp : p < rows.length
  · exact h _ (row_mem hp) g hg
  · rw [row_out hp] at hg
    cases hg
/-- the search's state: what is found, how many are looked behind -/
structure MetInv (rows : List (List Nat)) (start : Nat) (found : List Nat) (at_ : Nat) : Prop where
  nd : found.Nodup
  bd : ∀ x ∈ found, x < rows.length
  re : ∀ x ∈ found, Reach rows start x
  st : start ∈ found
  cl : ∀ j x, j < at_ → found[j]? = some x → ∀ g ∈ row rows x, g ∈ found
theorem MetInv.start {rows : List (List Nat)} {p : Nat} (h : p < rows.length) : MetInv rows p [p] 0 :=
  ⟨by simp, fun x hx => by rw [List.mem_singleton.mp hx]; exact h, fun x hx => by rw [List.mem_singleton.mp hx]; exact .refl p, List.mem_singleton.mpr rfl, fun j x hj => absurd hj (Nat.not_lt_zero _)⟩
theorem MetInv.len {rows : List (List Nat)} {p a : Nat} {found : List Nat} (h : MetInv rows p found a) : found.length ≤ rows.length := nodup_len _ _ h.nd h.bd
theorem MetInv.add {rows : List (List Nat)} (hr : InR rows) {p a x g : Nat} {found : List Nat} (h : MetInv rows p found a) (ha : a ≤ found.length) (hx : x ∈ found) (hg : g ∈ row rows x) (hn : g ∉ found) : MetInv rows p (found ++ [g]) a := by
  refine ⟨?_, fun y hy => ?_, fun y hy => ?_, List.mem_append_left _ h.st, fun j y hj hy k hk => ?_⟩
  · rw [List.nodup_append]
    refine ⟨h.nd, by simp, fun y hy z hz e => ?_⟩
    rw [List.mem_singleton.mp hz] at e
    exact hn (e ▸ hy)
  · rcases List.mem_append.mp hy with z | z
    · exact h.bd y z
    · rw [List.mem_singleton.mp z]
      exact hr.lt hg
  · rcases List.mem_append.mp hy with z | z
    · exact h.re y z
    · rw [List.mem_singleton.mp z]
      exact .tail (h.re x hx) hg
  · rw [List.getElem?_append_left (by omega)] at hy
    exact List.mem_append_left _ (h.cl j y hj hy k hk)
theorem MetInv.next {rows : List (List Nat)} {p a x : Nat} {found : List Nat} (h : MetInv rows p found a) (hx : found[a]? = some x) (hg : ∀ g ∈ row rows x, g ∈ found) : MetInv rows p found (a + 1) :=
  ⟨h.nd, h.bd, h.re, h.st, fun j y hj hy => by
    by_cases e : j = a
    · subst e
      rw [hx] at hy
      cases hy
      exact hg
    · exact h.cl j y (by omega) hy⟩
theorem MetInv.done {rows : List (List Nat)} {p a : Nat} {found : List Nat} (h : MetInv rows p found a) (ha : found.length ≤ a) (q : Nat) : Reach rows p q ↔ q ∈ found := by
  constructor
  · intro hq
    induction hq with
    | refl => exact h.st
    | tail _ hg ih =>
      obtain ⟨j, hj⟩ := List.getElem?_of_mem ih
      have := (List.getElem?_eq_some_iff.mp hj).1
      exact h.cl j _ (by omega) hj _ hg
  · exact h.re q
/-- small letters -/
def smallL : List Nat := (List.range 26).map (· + 97)
def Low (l : List Nat) : Prop := ∀ c ∈ l, c ∈ smallL
/-- letters that stand in rising order -/
def Rising (l : List Nat) : Prop := l.Pairwise (· < ·)
theorem Rising.nodup {l : List Nat} (h : Rising l) : l.Nodup := h.imp (fun h => Nat.ne_of_lt h)
/-- a machine -/
structure Mc (ls : List Nat) (rows : List (List Nat)) : Prop where
  low : Low ls
  l1 : 1 ≤ ls.length
  l3 : ls.length ≤ 3
  ris : Rising ls
  n1 : 1 ≤ rows.length
  n2 : rows.length ≤ 120
  rl : ∀ r ∈ rows, r.length = ls.length
  rg : InR rows
def AllMet (rows : List (List Nat)) : Prop := ∀ p, p < rows.length → Reach rows 0 p
/-- ranks of a machine -/
structure Rk (ls : List Nat) (rows ranks : List (List Nat)) : Prop where
  n : ranks.length = rows.length
  rl : ∀ r ∈ ranks, r.length = ls.length
  rb : ∀ r ∈ ranks, ∀ k ∈ r, k ≤ 12
end RK
-- M0
set_option Elab.async false
set_option linter.all false
set_option maxRecDepth 100000
set_option maxHeartbeats 4000000
/-! M0: texts and rows as plain lists; small lemmas of the data readings -/
namespace RK
open PySem PySem.Spec PyProof.Rows L2

/-- a text by its signs -/
def tx (l : List Nat) : Str := ⟨l.toArray⟩
theorem tx_len (l : List Nat) : (tx l).length = l.length := by
  show l.toArray.size = l.length
  simp
theorem tx_list (l : List Nat) : (tx l).cps.toList = l := by simp [tx]
theorem tx_inj {a b : List Nat} (h : tx a = tx b) : a = b := by
  have := congrArg (fun z : Str => z.cps.toList) h
  simpa [tx] using this
theorem tx_app (a b : List Nat) : tx a ++ tx b = tx (a ++ b) := by
  show (⟨a.toArray ++ b.toArray⟩ : Str) = ⟨(a ++ b).toArray⟩
  simp
theorem tx_cut (l : List Nat) (lo hi : Option Int) : cutS (tx l) lo hi = tx (cutD l lo hi) := by
  unfold cutS cutD
  rw [tx_len]
  simp [tx]
theorem sg_tx (c : Nat) : sgD c = .str (tx [c]) := rfl
abbrev ofN (l : List Nat) : List Int := l.map fun (n : Nat) => Int.ofNat n
/-- rows of naturals -/
abbrev oN (r : List (List Nat)) : List (List Int) := r.map ofN
theorem mem_ofN {n : Nat} {l : List Nat} : (n : Int) ∈ ofN l ↔ n ∈ l := by
  unfold ofN
  rw [List.mem_map]
  exact ⟨fun ⟨a, h, e⟩ => Int.ofNat.inj e ▸ h, fun h => ⟨n, h, rfl⟩⟩
theorem ofN_inj : ∀ {a b : List Nat}, ofN a = ofN b → a = b
  | [], [], _ => rfl
  | [], _ :: _, h => by cases h
  | _ :: _, [], h => by cases h
  | x :: a, y :: b, h => by
    simp only [ofN, List.map_cons, List.cons.injEq] at h
    rw [ofN_inj h.2, Int.ofNat.inj h.1]
theorem take_map_snoc {α β : Type} (f : α → β) {xs : List α} {i : Nat} {x : α} (h : xs[i]? = some x) : (xs.take i).map f ++ [f x] = (xs.take (i + 1)).map f := by
  rw [List.take_add_one, h, List.map_append]
  rfl
theorem take_filterMap_some {α β : Type} (f : α → Option β) {xs : List α} {i : Nat} {x : α} {y : β} (h : xs[i]? = some x) (hf : f x = some y) : (xs.take i).filterMap f ++ [y] = (xs.take (i + 1)).filterMap f := by
  rw [List.take_add_one, h, List.filterMap_append]
  simp [hf]
theorem take_filterMap_none {α β : Type} (f : α → Option β) {xs : List α} {i : Nat} {x : α} (h : xs[i]? = some x) (hf : f x = none) : (xs.take i).filterMap f = (xs.take (i + 1)).filterMap f := by
  rw [List.take_add_one, h, List.filterMap_append]
  simp [hf]
theorem getD_of {α : Type} {xs : List α} {i : Nat} {x d : α} (h : xs[i]? = some x) : xs.getD i d = x := by
  rw [List.getD_eq_getElem?_getD, h] <;> rfl
theorem atI_nn {α : Type} {xs : List α} {i : Nat} {x : α} (h : xs[i]? = some x) : L2.atI xs (i : Int) = some x := atI_nat h
theorem small_eq : ("abcdefghijklmnopqrstuvwxyz" : Str) = tx smallL := by decide +kernel
theorem szl : sizeLine = 16777216 := sizeLine_eq
/-! ### loops and comprehensions over data: the pieces apart -/
theorem for_intro {di : DI} {dg : DG} {d : DTS} {De : DEn} {env : En} {xs : List Da} {e0 : En} (hdi : ∀ P : List Da → En → Prop, P xs e0 → di env P) (I : Nat → En → Prop) (h0 : I 0 e0)
    (hs : ∀ i x e, xs[i]? = some x → I i e → dg x e fun e2 => d { De with nx := I (i + 1), ct := I (i + 1), bk := De.nx } e2) (he : ∀ e, I xs.length e → De.nx e) : dFor di dg d De env := hdi _ ⟨I, h0, hs, he⟩
theorem while_intro {dt : DTT} {d : DTS} {De : DEn} {env : En} (I : Nat → En → Prop) (m : Nat) (h0 : I m env)
    (hs : ∀ m e, I m e → dt e fun b e1 => if b = true then d { De with nx := fun e2 => ∃ m', m' < m ∧ I m' e2, ct := fun e2 => ∃ m', m' < m ∧ I m' e2, bk := De.nx } e1 else De.nx e1) : dWhile dt d De env := ⟨I, ⟨m, h0⟩, hs⟩
/-- the body of a comprehension at x, its item to k, no item: k' -/
def lcB (dg : DG) (dt : DTT) (de : DT) (vs : List Nat) (e0 : En) (x : Da) (k : Da → Prop) (k' : Prop) : Prop :=
  dg x (wipeE e0 vs) fun e2 => wipeE e2 vs = wipeE e0 vs ∧ noOwn e2 vs = true ∧ dt e2 fun b e3 => e3 = e2 ∧ if b = true then de e3 fun r e4 => e4 = e2 ∧ onDa r k else k'
/-- what is left once the source is known -/
def lcP (dg : DG) (dt : DTT) (de : DT) (vs : List Nat) (P : RV → En → Prop) (xs : List Da) (e0 : En) : Prop := noOwn e0 vs = true ∧ xs.length < sizeLine ∧ ∃ I : Nat → List Da → Prop, I 0 [] ∧
  (∀ i acc x, xs[i]? = some x → I i acc → lcB dg dt de vs e0 x (fun d => I (i + 1) (acc ++ [d])) (I (i + 1) acc)) ∧ ∀ acc, I xs.length acc → P (.fl acc) e0
theorem lc_open {di : DI} {dg : DG} {dt : DTT} {de : DT} {vs : List Nat} {env : En} {P : RV → En → Prop} (h : di env (lcP dg dt de vs P)) : dLc di dg dt de vs env P := h
theorem lc_rel_in {dg : DG} {dt : DTT} {de : DT} {vs : List Nat} {P : RV → En → Prop} {xs : List Da} {e0 : En} (no : noOwn e0 vs = true) (hl : xs.length < sizeLine) (Rl : Da → Da → Prop)
    (hs : ∀ (i : Nat) (x : Da) (k : Da → Prop) (k' : Prop), xs[i]? = some x → (∀ y, Rl x y → k y) → lcB dg dt de vs e0 x k k')
    (he : ∀ ys : List Da, ys.length = xs.length → (∀ (i : Nat) (x y : Da), xs[i]? = some x → ys[i]? = some y → Rl x y) → P (.fl ys) e0) : lcP dg dt de vs P xs e0 := by
  refine ⟨no, hl, fun i acc => acc.length = i ∧ ∀ (j : Nat) (x y : Da), xs[j]? = some x → acc[j]? = some y → Rl x y, ⟨rfl, fun j x y _ h => by simp at h⟩, fun i acc x hx ha => ?_, fun acc ha => he acc ha.1 ha.2⟩
  refine hs i x _ _ hx fun y hy => ⟨by rw [List.length_append, ha.1]; rfl, fun j x' y' hx' hy' => ?_⟩
  by_cases hj : j < acc.length
  · rw [List.getElem?_append_left hj] at hy'
    exact ha.2 j x' y' hx' hy'
  · have hj2 : j = acc.length := by
      have := (List.getElem?_eq_some_iff.mp hy').1
      rw [List.length_append] at this
      have : [y].length = 1 := rfl
      omega
    subst hj2
    rw [List.getElem?_append_right (Nat.le_refl _)] at hy'
    simp at hy'
    subst hy'
    rw [ha.1, hx] at hx'
    cases hx'
    exact hy
theorem lc_rel {di : DI} {dg : DG} {dt : DTT} {de : DT} {vs : List Nat} {env : En} {P : RV → En → Prop} {xs : List Da} {e0 : En} (hdi : ∀ P : List Da → En → Prop, P xs e0 → di env P) (no : noOwn e0 vs = true) (hl : xs.length < sizeLine) (Rl : Da → Da → Prop)
    (hs : ∀ (i : Nat) (x : Da) (k : Da → Prop) (k' : Prop), xs[i]? = some x → (∀ y, Rl x y → k y) → lcB dg dt de vs e0 x k k')
    (he : ∀ ys : List Da, ys.length = xs.length → (∀ (i : Nat) (x y : Da), xs[i]? = some x → ys[i]? = some y → Rl x y) → P (.fl ys) e0) : dLc di dg dt de vs env P := lc_open (hdi _ (lc_rel_in no hl Rl hs he))
theorem lc_fm_in {dg : DG} {dt : DTT} {de : DT} {vs : List Nat} {P : RV → En → Prop} {xs : List Da} {e0 : En} (no : noOwn e0 vs = true) (hl : xs.length < sizeLine) (f : Da → Option Da)
    (hs : ∀ (i : Nat) (x : Da) (k : Da → Prop) (k' : Prop), xs[i]? = some x → (∀ y, f x = some y → k y) → (f x = none → k') → lcB dg dt de vs e0 x k k')
    (he : P (.fl (xs.filterMap f)) e0) : lcP dg dt de vs P xs e0 := by
  refine ⟨no, hl, fun i acc => acc = (xs.take i).filterMap f, rfl, fun i acc x hx ha => ?_, fun acc ha => ?_⟩
  · subst ha
    exact hs i x _ _ hx (fun y hy => take_filterMap_some f hx hy) fun hn => take_filterMap_none f hx hn
  · subst ha
    rw [List.take_length]
    exact he
theorem lc_fm {di : DI} {dg : DG} {dt : DTT} {de : DT} {vs : List Nat} {env : En} {P : RV → En → Prop} {xs : List Da} {e0 : En} (hdi : ∀ P : List Da → En → Prop, P xs e0 → di env P) (no : noOwn e0 vs = true) (hl : xs.length < sizeLine) (f : Da → Option Da)
    (hs : ∀ (i : Nat) (x : Da) (k : Da → Prop) (k' : Prop), xs[i]? = some x → (∀ y, f x = some y → k y) → (f x = none → k') → lcB dg dt de vs e0 x k k')
    (he : P (.fl (xs.filterMap f)) e0) : dLc di dg dt de vs env P := lc_open (hdi _ (lc_fm_in no hl f hs he))
theorem lc_map_in {dg : DG} {dt : DTT} {de : DT} {vs : List Nat} {P : RV → En → Prop} {xs : List Da} {e0 : En} (no : noOwn e0 vs = true) (hl : xs.length < sizeLine) (f : Da → Da)
    (hs : ∀ (i : Nat) (x : Da) (k : Da → Prop) (k' : Prop), xs[i]? = some x → k (f x) → lcB dg dt de vs e0 x k k')
    (he : P (.fl (xs.map f)) e0) : lcP dg dt de vs P xs e0 :=
  lc_fm_in no hl (fun x => some (f x)) (fun i x k k' hx h _ => hs i x k k' hx (h _ rfl)) (by
    have : xs.filterMap (fun x => some (f x)) = xs.map f := by
      induction xs with
      | nil => rfl
      | cons x xs ih => simp
    rw [this]
    exact he)
theorem lc_map {di : DI} {dg : DG} {dt : DTT} {de : DT} {vs : List Nat} {env : En} {P : RV → En → Prop} {xs : List Da} {e0 : En} (hdi : ∀ P : List Da → En → Prop, P xs e0 → di env P) (no : noOwn e0 vs = true) (hl : xs.length < sizeLine) (f : Da → Da)
    (hs : ∀ (i : Nat) (x : Da) (k : Da → Prop) (k' : Prop), xs[i]? = some x → k (f x) → lcB dg dt de vs e0 x k k')
    (he : P (.fl (xs.map f)) e0) : dLc di dg dt de vs env P := lc_open (hdi _ (lc_map_in no hl f hs he))
/-! the same for dicts: what is left once the source is known -/
def dcB (dg : DG) (dt : DTT) (dk de : DT) (vs : List Nat) (e0 : En) (x : Da) (k : Int → Da → Prop) (k' : Prop) : Prop :=
  dg x (wipeE e0 vs) fun e2 => wipeE e2 vs = wipeE e0 vs ∧ noOwn e2 vs = true ∧ dt e2 fun b e3 => e3 = e2 ∧ if b = true then dk e3 fun r0 e4 => e4 = e3 ∧ onInt r0 fun n => de e4 fun r e5 => e5 = e4 ∧ onDa r (k n) else k'
def dcP (dg : DG) (dt : DTT) (dk de : DT) (vs : List Nat) (P : RV → En → Prop) (xs : List Da) (e0 : En) : Prop := noOwn e0 vs = true ∧ xs.length < sizeLine ∧ ∃ I : Nat → List (Int × Da) → Prop, I 0 [] ∧
  (∀ i acc x, xs[i]? = some x → I i acc → dcB dg dt dk de vs e0 x (fun n d => I (i + 1) (putD acc n d)) (I (i + 1) acc)) ∧ ∀ acc, I xs.length acc → P (.fm acc) e0
theorem dc_open {di : DI} {dg : DG} {dt : DTT} {dk de : DT} {vs : List Nat} {env : En} {P : RV → En → Prop} (h : di env (dcP dg dt dk de vs P)) : dDc di dg dt dk de vs env P := h
theorem all_map_true {α : Type} (l : List α) : (l.map fun _ => true).all id = true := by
  induction l with
  | nil => rfl
  | cons x l ih => simp
theorem map_bl_true {α : Type} (l : List α) : (l.map fun _ => Da.bl true) = (l.map fun _ => true).map Da.bl := by
  rw [List.map_map]
  rfl
theorem rgD_get {lo : Int} {n i : Nat} {x : Da} (h : (rgD lo n)[i]? = some x) : i < n ∧ x = .int (lo + (i : Nat)) := by
  unfold rgD at h
  rw [List.getElem?_map, Option.map_eq_some_iff] at h
  obtain ⟨j, hj, rfl⟩ := h
  obtain ⟨h1, h2⟩ := List.getElem?_eq_some_iff.mp hj
  rw [List.length_range] at h1
  rw [List.getElem_range] at h2
  exact ⟨h1, by rw [h2]⟩
theorem cut_take {α : Type} (xs : List α) (n : Nat) : cutD xs none (some (n : Int)) = xs.take n := by
  unfold cutD
  rw [HT.sIx_none, HT.sIx_nat, List.drop_zero, Nat.sub_zero]
  rw [List.take_eq_take_iff]
  omega
theorem cut_drop {α : Type} (xs : List α) (n : Nat) : cutD xs (some (n : Int)) none = xs.drop n := by
  unfold cutD
  rw [HT.sIx_none, HT.sIx_nat]
  by_cases h : n ≤ xs.length
  · rw [Nat.min_eq_left h]
    exact List.take_of_length_le (by rw [List.length_drop]; exact Nat.le_refl _)
  · rw [Nat.min_eq_right (by omega), List.drop_of_length_le (Nat.le_refl _), List.drop_of_length_le (by omega), List.take_nil]
theorem rep_tx (l : List Nat) (k : Nat) : repS (tx l) k = tx (List.replicate k l).flatten := by
  unfold repS
  rw [tx_list]
  rfl
theorem join_sg (l : List Nat) : Txt.join ("" : Str) (l.map fun c => (⟨#[c]⟩ : Str)) = tx l := by
  have h : ∀ l : List Nat, Str.join ("" : Str) (l.map fun c => (⟨#[c]⟩ : Str)) = tx l := by
    intro l
    induction l with
    | nil => rfl
    | cons c r ih =>
      cases r with
      | nil => rfl
      | cons d r =>
        show (⟨#[c]⟩ : Str) ++ ("" : Str) ++ Str.join ("" : Str) ((d :: r).map fun c => (⟨#[c]⟩ : Str)) = _
        rw [ih]
        show tx [c] ++ tx [] ++ tx (d :: r) = _
        rw [tx_app, tx_app]
        rfl
  rw [← h l]
  exact StrLaws.glued_eq_join _ _
/-! ### machines as data -/
abbrev mcD (K : PySem.W.Frag) (ls : List Nat) (rows : List (List Nat)) : Da := .obj (He.ga K "Machine") ["own_letters", "own_rows"] [.str (tx ls), .lst (lD (oN rows))]
abbrev rkD (K : PySem.W.Frag) (ls : List Nat) (rows ranks : List (List Nat)) : Da := .obj (He.ga K "Ranked") ["own_machine", "own_letters", "own_ranks"] [mcD K ls rows, .str (tx ls), .lst (lD (oN ranks))]
/-- a word as data -/
abbrev wdD (K : PySem.W.Frag) (b l : List Nat) : Da := .obj (He.ga K "Word") ["own_begin", "own_lap"] [.str (tx b), .str (tx l)]
theorem lD_get {rows : List (List Nat)} {p : Nat} (hp : p < rows.length) : (lD (oN rows))[p]? = some (.lst (iD (ofN (row rows p)))) := by
  unfold row
  rw [List.getElem?_map, List.getElem?_map, List.getD_eq_getElem?_getD, List.getElem?_eq_getElem hp]
  rfl
theorem iD_get {l : List Nat} {i : Nat} (hi : i < l.length) : (iD (ofN l))[i]? = some (.int ((l.getD i 0 : Nat) : Int)) := by
  rw [List.getElem?_map, List.getElem?_map, List.getD_eq_getElem?_getD, List.getElem?_eq_getElem hi]
  rfl
theorem iD_at {l : List Nat} {i : Nat} {x : Da} (h : (iD (ofN l))[i]? = some x) : i < l.length ∧ x = .int ((l.getD i 0 : Nat) : Int) := by
  have hi := (List.getElem?_eq_some_iff.mp h).1
  rw [List.length_map, List.length_map] at hi
  rw [iD_get hi] at h
  exact ⟨hi, (Option.some.inj h).symm⟩
theorem iD_mem {l : List Nat} {i : Nat} {x : Da} (h : (iD (ofN l))[i]? = some x) : ∃ n, l[i]? = some n ∧ x = .int (n : Int) := by
  rw [List.getElem?_map, List.getElem?_map, Option.map_eq_some_iff] at h
  obtain ⟨y, h, rfl⟩ := h
  rw [Option.map_eq_some_iff] at h
  obtain ⟨n, h, rfl⟩ := h
  exact ⟨n, h, rfl⟩
theorem iD_len (l : List Nat) : (iD (ofN l)).length = l.length := by simp
theorem lD_len (l : List (List Nat)) : (lD (oN l)).length = l.length := by simp
theorem iD_snoc (l : List Nat) (n : Nat) : iD (ofN l) ++ [.int (n : Int)] = iD (ofN (l ++ [n])) := by
  simp [iD, ofN]
theorem atI_row {rows : List (List Nat)} {p : Nat} (hp : p < rows.length) : L2.atI (lD (oN rows)) (p : Int) = some (.lst (iD (ofN (row rows p)))) := atI_nat (lD_get hp)
theorem atI_iD {l : List Nat} {i n : Nat} (h : l[i]? = some n) : L2.atI (iD (ofN l)) (i : Int) = some (.int (n : Int)) := atI_nat (by
  rw [List.getElem?_map, List.getElem?_map, h]
  rfl)
theorem in_ofN (n : Nat) (l : List Nat) : decide ((n : Int) ∈ ofN l) = decide (n ∈ l) := by
  rw [Bool.eq_iff_iff, decide_eq_true_eq, decide_eq_true_eq]
  exact mem_ofN
theorem cx_K {CX : CXT} {P : Program} {w : World} {K : PySem.W.Frag} {mg : Str → Option Value} {base : Heap} {N : List Str} {q : Str} {sc : Scope} {f : Addr} {cd : Value} {A : Around} {o : List Env} {s : Shared} {H : Hp} {E : XK} : (cxOf CX P w K mg base N q sc f cd A o s H E).K = K := rfl
theorem cx_Kn {CX : CXT} {P : Program} {w : World} {K : PySem.W.Frag} {mg : Str → Option Value} {base : Heap} {N : List Str} {q : Str} {sc : Scope} {f : Addr} {cd : Value} {A : Around} {o : List Env} {s : Shared} {H : Hp} {E : XK} : (cxOf CX P w K mg base N q sc f cd A o s H E).nox.K = K := rfl
theorem sn1 : (("own_letters" : Str) = "own_rows") = False := eq_false (by decide)
theorem sn2 : (("own_machine" : Str) = "own_letters") = False := eq_false (by decide)
theorem sn3 : (("own_machine" : Str) = "own_ranks") = False := eq_false (by decide)
theorem sn4 : (("own_letters" : Str) = "own_ranks") = False := eq_false (by decide)
theorem sn5 : (("own_begin" : Str) = "own_lap") = False := eq_false (by decide)
end RK
-- M3
set_option Elab.async false
set_option linter.all false
set_option maxRecDepth 100000
set_option maxHeartbeats 4000000
/-! M3: data that repr may show -/
namespace RK
open PySem PySem.Spec PyProof.Rows L2

structure ShOk (d : PyData) (k b : Nat) : Prop where
  s : d.showable = true
  h : d.hasDict = false
  dp : d.depth ≤ k
  l : d.leavesShort 13 = true
  bk : d.bulk ≤ b
theorem sh_short : ∀ n : Nat, n ≤ 1000 → (PyData.shown (.int (n : Int))).length ≤ 13 := by
  have h : ∀ n : Fin 1001, (PyData.shown (.int ((n.val : Nat) : Int))).length ≤ 13 := by decide +kernel
  intro n hn
  exact h ⟨n, by omega⟩
theorem sh_log : ∀ n : Nat, n ≤ 1000 → (n : Int).natAbs.log2 < 1920 := by
  intro n hn
  have : (n : Int).natAbs = n := by omega
  rw [this]
  have h2 : n.log2 ≤ n := Nat.log2_le_self n
  omega
theorem sh_int {n : Nat} (h : n ≤ 1000) : ShOk (toP (.int (n : Int))) 0 0 :=
  ⟨decide_eq_true (sh_log n h), rfl, Nat.le_refl _, decide_eq_true (sh_short n h), Nat.le_refl _⟩
theorem sh_bl (b : Bool) : ShOk (toP (.bl b)) 0 0 := ⟨rfl, rfl, Nat.le_refl _, rfl, Nat.le_refl _⟩
theorem sh_all {k b : Nat} : ∀ {ds : List Da}, (∀ d ∈ ds, ShOk (toP d) k b) → PyData.showableAll (toPs ds) = true ∧ PyData.hasDictAll (toPs ds) = false ∧ PyData.depthAll (toPs ds) ≤ k ∧ PyData.leavesShortAll 13 (toPs ds) = true ∧ PyData.bulkAll (toPs ds) ≤ (b + 1) * ds.length
  | [], _ => ⟨rfl, rfl, Nat.zero_le _, rfl, Nat.zero_le _⟩
  | d :: ds, h => by
    obtain ⟨h1, h2, h3, h4, h5⟩ := sh_all fun x hx => h x (List.mem_cons_of_mem _ hx)
    obtain ⟨g1, g2, g3, g4, g5⟩ := h d List.mem_cons_self
    refine ⟨?_, ?_, ?_, ?_, ?_⟩
    · show (PyData.showable (toP d) && PyData.showableAll (toPs ds)) = true
      rw [g1, h1]
      rfl
    · show (PyData.hasDict (toP d) || PyData.hasDictAll (toPs ds)) = false
      rw [g2, h2]
      rfl
    · show max (PyData.depth (toP d)) (PyData.depthAll (toPs ds)) ≤ k
      omega
    · show (PyData.leavesShort 13 (toP d) && PyData.leavesShortAll 13 (toPs ds)) = true
      rw [g4, h4]
      rfl
    · show PyData.bulk (toP d) + 1 + PyData.bulkAll (toPs ds) ≤ (b + 1) * (ds.length + 1)
      rw [Nat.mul_succ]
      omega
theorem sh_list {k b n : Nat} {ds : List Da} (h : ∀ d ∈ ds, ShOk (toP d) k b) (hn : ds.length ≤ n) : ShOk (toP (.lst ds)) (k + 1) ((b + 1) * n) := by
  obtain ⟨h1, h2, h3, h4, h5⟩ := sh_all h
  exact ⟨h1, h2, Nat.succ_le_succ h3, h4, Nat.le_trans h5 (Nat.mul_le_mul_left _ hn)⟩
theorem ShOk.rp {d : PyData} {k b : Nat} (h : ShOk d k b) (hk : k ≤ 8) (hb : b ≤ 1000000) : RpOk d := ⟨h.s, h.h, Nat.le_trans h.dp hk, PyData.shown_fits_bulk (by decide) (by decide) h.l (Nat.le_trans h.bk (by omega))⟩
theorem sh_iD {l : List Nat} (h : ∀ x ∈ l, x ≤ 1000) (hl : l.length ≤ 300) : ShOk (toP (.lst (iD (ofN l)))) 1 300 := by
  have := sh_list (k := 0) (b := 0) (n := 300) (ds := iD (ofN l)) (fun d hd => by
    obtain ⟨z, hz, rfl⟩ := List.mem_map.mp hd
    obtain ⟨n, hn, rfl⟩ := List.mem_map.mp hz
    exact sh_int (h n hn)) (by rw [iD_len]; exact hl)
  exact this
theorem rp_iD {l : List Nat} (h : ∀ x ∈ l, x ≤ 1000) (hl : l.length ≤ 300) : RpOk (toP (.lst (iD (ofN l)))) := (sh_iD h hl).rp (by decide) (by decide)
theorem sh_lD {rows : List (List Nat)} (h : ∀ r ∈ rows, ∀ x ∈ r, x ≤ 1000) (hr : ∀ r ∈ rows, r.length ≤ 300) (hl : rows.length ≤ 300) : ShOk (toP (.lst (lD (oN rows)))) 2 90300 := by
  have := sh_list (k := 1) (b := 300) (n := 300) (ds := lD (oN rows)) (fun d hd => by
    obtain ⟨z, hz, rfl⟩ := List.mem_map.mp hd
    obtain ⟨r, hr', rfl⟩ := List.mem_map.mp hz
    exact sh_iD (h r hr') (hr r hr')) (by rw [lD_len]; exact hl)
  exact this
theorem rp_lD {rows : List (List Nat)} (h : ∀ r ∈ rows, ∀ x ∈ r, x ≤ 1000) (hr : ∀ r ∈ rows, r.length ≤ 300) (hl : rows.length ≤ 300) : RpOk (toP (.lst (lD (oN rows)))) := (sh_lD h hr hl).rp (by decide) (by decide)
theorem shown_le {d : PyData} {k b : Nat} (h : ShOk d k b) : d.shown.length ≤ 15 * b + 13 := by
  have h1 := PyData.shown_le_bulk 13 (by decide) d h.l
  have h2 := Nat.mul_le_mul_left (13 + 2) h.bk
  omega
theorem app_len (a b : Str) : (a ++ b).length = a.length + b.length := by
  show (a.cps ++ b.cps).size = a.cps.size + b.cps.size
  exact Array.size_append
theorem text_len {l : List Nat} (h : Low l) : (reprText (tx l)).length ≤ 15 * l.length + 13 := by
  have h1 : PyData.leavesShort 13 (.str (tx l)) = true := by
    show ((tx l).cps.toList.all fun c => decide (c < 16 ^ 8)) = true
    rw [tx_list, List.all_eq_true]
    intro c hc
    have := h c hc
    unfold smallL at this
    obtain ⟨i, hi, rfl⟩ := List.mem_map.mp this
    rw [List.mem_range] at hi
    exact decide_eq_true (by omega)
  have h2 := PyData.shown_le_bulk 13 (by decide) (.str (tx l)) h1
  have h3 : PyData.bulk (.str (tx l)) = l.length := tx_len l
  rw [h3] at h2
  exact h2
/-- the text of a machine, of a ranked machine -/
def reprM (ls : List Nat) (rows : List (List Nat)) : Str := Str.empty ++ ("Machine(" : Str) ++ reprText (tx ls) ++ (", " : Str) ++ (toP (Da.lst (lD (oN rows)))).shown ++ (")" : Str)
def reprR (ls : List Nat) (rows ranks : List (List Nat)) : Str := Str.empty ++ ("Ranked(" : Str) ++ reprM ls rows ++ (", " : Str) ++ (toP (Da.lst (lD (oN ranks)))).shown ++ (")" : Str)
theorem shown_rows {rows : List (List Nat)} (h : ∀ r ∈ rows, ∀ x ∈ r, x ≤ 1000) (hr : ∀ r ∈ rows, r.length ≤ 300) (hl : rows.length ≤ 300) : (toP (Da.lst (lD (oN rows)))).shown.length ≤ 1354513 := shown_le (sh_lD h hr hl)
theorem Mc.small {ls : List Nat} {rows : List (List Nat)} (h : Mc ls rows) : (∀ r ∈ rows, ∀ x ∈ r, x ≤ 1000) ∧ (∀ r ∈ rows, r.length ≤ 300) ∧ rows.length ≤ 300 := by
  have h2 := h.n2
  refine ⟨fun r hr x hx => ?_, fun r hr => ?_, by omega⟩
  · have := h.rg r hr x hx
    omega
  · have := h.rl r hr
    have := h.l3
    omega
theorem Rk.small {ls : List Nat} {rows ranks : List (List Nat)} (h : Rk ls rows ranks) (m : Mc ls rows) : (∀ r ∈ ranks, ∀ x ∈ r, x ≤ 1000) ∧ (∀ r ∈ ranks, r.length ≤ 300) ∧ ranks.length ≤ 300 := by
  have h2 := m.n2
  have h3 := h.n
  refine ⟨fun r hr x hx => ?_, fun r hr => ?_, by omega⟩
  · have := h.rb r hr x hx
    omega
  · have := h.rl r hr
    have := m.l3
    omega
theorem reprM_len {ls : List Nat} {rows : List (List Nat)} (m : Mc ls rows) : (reprM ls rows).length ≤ 1354600 := by
  obtain ⟨h1, h2, h3⟩ := m.small
  have h4 := shown_rows h1 h2 h3
  have h5 := text_len m.low
  have h6 := m.l3
  have e1 : (Str.empty).length = 0 := rfl
  have e2 : ("Machine(" : Str).length = 8 := rfl
  have e3 : (", " : Str).length = 2 := rfl
  have e4 : (")" : Str).length = 1 := rfl
  unfold reprM
  simp only [app_len]
  omega
end RK
-- M4
set_option linter.all false
/-! M4: steps, the search in depth, groups -/
namespace RK

/-- the goals of p among the steps E -/
def gm (E : List (Nat × Nat)) (p : Nat) : List Nat := (E.filter fun e => decide (e.1 = p)).map (·.2)
theorem gm_mem {E : List (Nat × Nat)} {p g : Nat} : g ∈ gm E p ↔ (p, g) ∈ E := by
  unfold gm
  rw [List.mem_map]
  constructor
  · rintro ⟨⟨a, b⟩, h, rfl⟩
    rw [List.mem_filter, decide_eq_true_eq] at h
    obtain ⟨h1, h2⟩ := h
    have h2 : a = p := h2
    subst h2
    exact h1
  · intro h
    exact ⟨(p, g), by rw [List.mem_filter]; exact ⟨h, by simp⟩, rfl⟩
inductive Rch (E : List (Nat × Nat)) : Nat → Nat → Prop
  | refl (p : Nat) : Rch E p p
  | tail {p q g : Nat} : Rch E p q → (q, g) ∈ E → Rch E p g
theorem Rch.trans {E : List (Nat × Nat)} {a b c : Nat} (h : Rch E a b) (k : Rch E b c) : Rch E a c := by
  induction k with
  | refl => exact h
  | tail _ hg ih => exact .tail ih hg
theorem Rch.one {E : List (Nat × Nat)} {a b : Nat} (h : (a, b) ∈ E) : Rch E a b := .tail (.refl a) h
/-- v stands in L not behind x -/
def PosLe (L : List Nat) (v x : Nat) : Prop := ∃ i j : Nat, L[i]? = some v ∧ L[j]? = some x ∧ i ≤ j
theorem PosLe.app {L M : List Nat} {v x : Nat} (h : PosLe L v x) : PosLe (L ++ M) v x := by
  obtain ⟨i, j, hi, hj, hl⟩ := h
  refine ⟨i, j, ?_, ?_, hl⟩
  · rw [List.getElem?_append_left (List.getElem?_eq_some_iff.mp hi).1]
    exact hi
  · rw [List.getElem?_append_left (List.getElem?_eq_some_iff.mp hj).1]
    exact hj
theorem PosLe.last {L : List Nat} {v t : Nat} (h : v ∈ L ++ [t]) : PosLe (L ++ [t]) v t := by
  obtain ⟨i, hi⟩ := List.getElem?_of_mem h
  have h1 := (List.getElem?_eq_some_iff.mp hi).1
  rw [List.length_append, List.length_singleton] at h1
  exact ⟨i, L.length, hi, by simp, by omega⟩
/-- what is reached from u is left, and not behind one that u goes round with -/
def KOk (E : List (Nat × Nat)) (L : List Nat) (u : Nat) : Prop := ∀ v, Rch E u v → ∃ x, Rch E u x ∧ Rch E x u ∧ PosLe L v x
theorem KOk.app {E : List (Nat × Nat)} {L M : List Nat} {u : Nat} (h : KOk E L u) : KOk E (L ++ M) u := fun v hv => by
  obtain ⟨x, h1, h2, h3⟩ := h v hv
  exact ⟨x, h1, h2, h3.app⟩
/-- the search: L is left, path is on the way -/
structure DInv (E : List (Nat × Nat)) (L path : List Nat) : Prop where
  nd : (L ++ path).Nodup
  ch : ∀ (i a b : Nat), path[i]? = some a → path[i + 1]? = some b → (a, b) ∈ E
  A : ∀ u ∈ L, ∀ g, (u, g) ∈ E → g ∈ L ∨ g ∈ path
  B : ∀ u ∈ L, (∃ w ∈ path, Rch E u w ∧ Rch E w u) ∨ KOk E L u
theorem DInv.nil (E : List (Nat × Nat)) : DInv E [] [] := ⟨by simp, fun i a b h => (by simp at h), fun u h => (by cases h), fun u h => (by cases h)⟩
theorem DInv.begin {E : List (Nat × Nat)} {L : List Nat} {s : Nat} (h : DInv E L []) (hs : s ∉ L) : DInv E L [s] := by
  refine ⟨?_, fun i a b h1 h2 => by simp at h2, fun u hu g hg => ?_, fun u hu => ?_⟩
  · rw [List.nodup_append]
    refine ⟨(List.nodup_append.mp h.nd).1, by simp, fun a ha b hb e => ?_⟩
    rw [List.mem_singleton.mp hb] at e
    exact hs (e ▸ ha)
  · rcases h.A u hu g hg with z | z
    · exact .inl z
    · cases z
  · rcases h.B u hu with ⟨w, hw, _⟩ | z
    · cases hw
    · exact .inr z
/-- along the path -/
theorem DInv.along {E : List (Nat × Nat)} {L path : List Nat} (h : DInv E L path) : ∀ (d i a b : Nat), path[i]? = some a → path[i + d]? = some b → Rch E a b
  | 0, i, a, b, h1, h2 => by
    rw [Nat.add_zero, h1] at h2
    cases h2
    exact .refl _
  | d + 1, i, a, b, h1, h2 => by
    have hl := (List.getElem?_eq_some_iff.mp h2).1
    have h3 : path[i + d]? = some (path[i + d]'(by omega)) := List.getElem?_eq_getElem (by omega)
    exact .tail (h.along d i a _ h1 h3) (h.ch (i + d) _ _ h3 h2)
theorem DInv.push {E : List (Nat × Nat)} {L path : List Nat} {t g : Nat} (h : DInv E L (path ++ [t])) (hg : (t, g) ∈ E) (h1 : g ∉ L) (h2 : g ∉ path ++ [t]) : DInv E L (path ++ [t] ++ [g]) := by
  refine ⟨?_, fun i a b ha hb => ?_, fun u hu k hk => ?_, fun u hu => ?_⟩
  · rw [← List.append_assoc, List.nodup_append]
    refine ⟨h.nd, by simp, fun a ha b hb e => ?_⟩
    rw [List.mem_singleton.mp hb] at e
    subst e
    rcases List.mem_append.mp ha with z | z
    · exact h1 z
    · exact h2 z
  · have hl := (List.getElem?_eq_some_iff.mp hb).1
    simp only [List.length_append, List.length_singleton] at hl
    by_cases e : i + 1 < (path ++ [t]).length
    · rw [List.getElem?_append_left (by omega)] at ha hb
      exact h.ch i a b ha hb
    · simp only [List.length_append, List.length_singleton] at e
      have ei : i = path.length := by omega
      subst ei
      rw [List.getElem?_append_left (by simp)] at ha
      rw [List.getElem?_append_right (by simp)] at hb
      simp at ha hb
      subst ha hb
      exact hg
  · rcases h.A u hu k hk with z | z
    · exact .inl z
    · exact .inr (List.mem_append_left _ z)
  · rcases h.B u hu with ⟨w, hw, h3⟩ | z
    · exact .inl ⟨w, List.mem_append_left _ hw, h3⟩
    · exact .inr z
theorem DInv.pop {E : List (Nat × Nat)} {L path : List Nat} {t : Nat} (h : DInv E L (path ++ [t])) (hg : ∀ g, (t, g) ∈ E → g ∈ L ∨ g ∈ path ++ [t]) : DInv E (L ++ [t]) path := by
  have hA : ∀ u ∈ L ++ [t], ∀ g, (u, g) ∈ E → g ∈ L ++ [t] ∨ g ∈ path := fun u hu g hk => by
    have key : g ∈ L ∨ g ∈ path ++ [t] := by
      rcases List.mem_append.mp hu with z | z
      · exact h.A u z g hk
      · rw [List.mem_singleton.mp z] at hk
        exact hg g hk
    rcases key with z | z
    · exact .inl (List.mem_append_left _ z)
    · rcases List.mem_append.mp z with y | y
      · exact .inr y
      · exact .inl (List.mem_append_right _ y)
  have hbt : ∀ w ∈ path, Rch E w t := fun w hw => by
    obtain ⟨i, hi⟩ := List.getElem?_of_mem hw
    have hl := (List.getElem?_eq_some_iff.mp hi).1
    refine h.along (path.length - i) i w t (by rw [List.getElem?_append_left hl]; exact hi) ?_
    rw [show i + (path.length - i) = path.length by omega]
    simp
  refine ⟨?_, fun i a b h1 h2 => ?_, hA, ?_⟩
  · have := h.nd
    rw [List.append_assoc]
    refine (List.Perm.nodup_iff ?_).mp this
    exact List.Perm.append_left L List.perm_append_comm
  · have hl1 := (List.getElem?_eq_some_iff.mp h1).1
    have hl2 := (List.getElem?_eq_some_iff.mp h2).1
    exact h.ch i a b (by rw [List.getElem?_append_left hl1]; exact h1) (by rw [List.getElem?_append_left hl2]; exact h2)
  · by_cases hr : ∃ w ∈ path, Rch E t w
    · obtain ⟨w, hw, htw⟩ := hr
      have hwt := hbt w hw
      intro u hu
      rcases List.mem_append.mp hu with z | z
      · rcases h.B u z with ⟨x, hx, h1, h2⟩ | y
        · rcases List.mem_append.mp hx with hx | hx
          · exact .inl ⟨x, hx, h1, h2⟩
          · rw [List.mem_singleton.mp hx] at h1 h2
            exact .inl ⟨w, hw, h1.trans htw, hwt.trans h2⟩
        · exact .inr y.app
      · rw [List.mem_singleton.mp z]
        exact .inl ⟨w, hw, htw, hwt⟩
    · have all : ∀ v, Rch E t v → v ∈ L ++ [t] := fun v hv => by
        induction hv with
        | refl => exact List.mem_append_right _ (List.mem_singleton.mpr rfl)
        | @tail q g hq hk ih =>
          rcases hA q ih g hk with y | y
          · exact y
          · exact absurd ⟨g, y, .tail hq hk⟩ hr
      have kt : ∀ u, Rch E u t → Rch E t u → KOk E (L ++ [t]) u := fun u h1 h2 v hv => ⟨t, h1, h2, .last (all v (h2.trans hv))⟩
      intro u hu
      rcases List.mem_append.mp hu with z | z
      · rcases h.B u z with ⟨x, hx, h1, h2⟩ | y
        · rcases List.mem_append.mp hx with hx | hx
          · exact .inl ⟨x, hx, h1, h2⟩
          · rw [List.mem_singleton.mp hx] at h1 h2
            exact .inr (kt u h1 h2)
        · exact .inr y.app
      · rw [List.mem_singleton.mp z]
        exact .inr (kt t (.refl t) (.refl t))
theorem DInv.done {E : List (Nat × Nat)} {L : List Nat} (h : DInv E L []) : ∀ u ∈ L, KOk E L u := fun u hu => by
  rcases h.B u hu with ⟨w, hw, _⟩ | z
  · cases hw
  · exact z
/-! ### groups, from the back of L -/
/-- p comes to s off the known -/
inductive Off (E : List (Nat × Nat)) (k : List Nat) (s : Nat) : Nat → Prop
  | refl : Off E k s s
  | head {p q : Nat} : (p, q) ∈ E → p ∉ k → Off E k s q → Off E k s p
theorem Off.rch {E : List (Nat × Nat)} {k : List Nat} {s p : Nat} (h : Off E k s p) : Rch E p s := by
  induction h with
  | refl => exact .refl s
  | head hp _ _ ih => exact (Rch.one hp).trans ih
/-- whole groups -/
def Whole (E : List (Nat × Nat)) (k : List Nat) : Prop := ∀ p q, p ∈ k → Rch E p q → Rch E q p → q ∈ k
theorem off_iff {E : List (Nat × Nat)} {k : List Nat} {s p : Nat} (hw : Whole E k) (hs : s ∉ k) (h1 : Rch E p s) (h2 : Rch E s p) : Off E k s p := by
  have key : ∀ q, Rch E p q → Rch E q s → Off E k s q → Off E k s p := by
    intro q hq
    induction hq with
    | refl => exact fun _ h => h
    | @tail q g hq hk ih =>
      intro hgs ho
      have hqs : Rch E q s := (Rch.one hk).trans hgs
      refine ih hqs (.head hk (fun z => hs (hw q s z hqs (h2.trans hq))) ho)
  exact key s h1 (.refl s) .refl
theorem group_is {E : List (Nat × Nat)} {L k : List Nat} {s : Nat} {i : Nat} (hK : ∀ u ∈ L, KOk E L u) (hnd : L.Nodup) (hw : Whole E k) (hi : L[i]? = some s) (hs : s ∉ k) (hk : ∀ j x, i < j → L[j]? = some x → x ∈ k) (hall : ∀ p, Off E k s p → p ∈ L) (p : Nat) :
    Off E k s p ↔ (Rch E p s ∧ Rch E s p) := by
  refine ⟨fun h => ⟨h.rch, ?_⟩, fun h => off_iff hw hs h.1 h.2⟩
  obtain ⟨x, h1, h2, a, b, ha, hb, hab⟩ := hK p (hall p h) s h.rch
  have hpk : p ∉ k := by
    cases h with
    | refl => exact hs
    | head _ hn _ => exact hn
  have hai : a = i := by
    have la := (List.getElem?_eq_some_iff.mp ha)
    have li := (List.getElem?_eq_some_iff.mp hi)
    have e := la.2.trans li.2.symm
    have pw := List.pairwise_iff_getElem.mp hnd
    rcases Nat.lt_trichotomy a i with z | z | z
    · exact absurd e (pw a i la.1 li.1 z)
    · exact z
    · exact absurd e.symm (pw i a li.1 la.1 z)
  by_cases hlt : i < b
  · exact absurd (hw x p (hk b x hlt hb) h2 h1) hpk
  · have hbi : b = i := by omega
    subst hbi
    rw [hi] at hb
    cases hb
    exact h2
/-- the groups of places that go round -/
def GoodParts (E : List (Nat × Nat)) (gs : List (List Nat)) : Prop := (∀ gr ∈ gs, ∀ p ∈ gr, ∀ q ∈ gr, Rch E p q) ∧ (∀ p g, (p, g) ∈ E → Rch E g p → ∃ gr ∈ gs, p ∈ gr ∧ g ∈ gr) ∧ gs.Pairwise fun a b => ∀ p ∈ a, p ∉ b
end RK
-- M5
set_option Elab.async false
set_option linter.all false
set_option maxRecDepth 100000
set_option maxHeartbeats 4000000
/-! M5: the dicts of the search -/
namespace RK
open PySem PySem.Spec PyProof.Rows L2

/-- kvs tells the goals of each place among E -/
def IsG (kvs : List (Int × Da)) (E : List (Nat × Nat)) : Prop := ∀ p : Nat, lk kvs (p : Int) = if gm E p = [] then none else some (.tup (iD (ofN (gm E p))))
theorem gm_snoc (E : List (Nat × Nat)) (a b p : Nat) : gm (E ++ [(a, b)]) p = gm E p ++ (if a = p then [b] else []) := by
  unfold gm
  rw [List.filter_append, List.map_append]
  by_cases h : a = p <;> simp [h]
theorem IsG.nil : IsG [] [] := fun p => rfl
theorem IsG.get {kvs : List (Int × Da)} {E : List (Nat × Nat)} (h : IsG kvs E) (p : Nat) : (lk kvs (p : Int)).getD (.tup []) = .tup (iD (ofN (gm E p))) := by
  rw [h p]
  by_cases e : gm E p = []
  · rw [if_pos e, e]
    rfl
  · rw [if_neg e]
    rfl
theorem IsG.put {kvs : List (Int × Da)} {E : List (Nat × Nat)} (h : IsG kvs E) (a b : Nat) : IsG (putD kvs (a : Int) (.tup (iD (ofN (gm E a)) ++ [.int (b : Int)]))) (E ++ [(a, b)]) := fun p => by
  rw [lk_put, gm_snoc]
  by_cases e : p = a
  · subst e
    rw [if_pos rfl, if_pos rfl, if_neg (by simp), iD_snoc]
  · rw [if_neg (show ¬ ((p : Int) = (a : Int)) from fun z => e (by omega)), if_neg (show ¬ a = p from fun z => e z.symm), List.append_nil]
    exact h p
theorem put_len_old {kvs : List (Int × Da)} {k : Int} {d : Da} (h : (lk kvs k).isSome = true) : (putD kvs k d).length = kvs.length := by
  unfold putD
  rw [lk_any, if_pos h, List.length_map]
/-- kvs has just the places L as keys -/
def Seen (kvs : List (Int × Da)) (L : List Nat) : Prop := ∀ p : Nat, (lk kvs (p : Int)).isSome = decide (p ∈ L)
theorem Seen.nil : Seen [] [] := fun p => rfl
theorem Seen.put {kvs : List (Int × Da)} {L : List Nat} (h : Seen kvs L) (a : Nat) (d : Da) : Seen (putD kvs (a : Int) d) (L ++ [a]) := fun p => by
  rw [lk_put]
  by_cases e : p = a
  · subst e
    rw [if_pos rfl]
    simp
  · rw [if_neg (show ¬ ((p : Int) = (a : Int)) from fun z => e (by omega)), h p]
    simp [e]
/-- what is left to be done -/
def todo (n : Nat) (E : List (Nat × Nat)) (done : List Nat) (cf : Nat → Nat) : Nat := ((List.range n).map fun p => if p ∈ done then 0 else (gm E p).length - cf p + 1).sum
theorem sum_le {f g : Nat → Nat} : ∀ {l : List Nat}, (∀ p ∈ l, g p ≤ f p) → (l.map g).sum ≤ (l.map f).sum
  | [], _ => Nat.le_refl _
  | p :: l, h => by
    rw [List.map_cons, List.map_cons, List.sum_cons, List.sum_cons]
    exact Nat.add_le_add (h p List.mem_cons_self) (sum_le fun q hq => h q (List.mem_cons_of_mem _ hq))
theorem sum_lt {f g : Nat → Nat} : ∀ {l : List Nat} {x : Nat}, (∀ p ∈ l, g p ≤ f p) → x ∈ l → g x < f x → (l.map g).sum < (l.map f).sum
  | [], x, _, hx, _ => by cases hx
  | p :: l, x, h, hx, hl => by
    rw [List.map_cons, List.map_cons, List.sum_cons, List.sum_cons]
    have h2 := h p List.mem_cons_self
    have h3 : (l.map g).sum ≤ (l.map f).sum := sum_le fun q hq => h q (List.mem_cons_of_mem _ hq)
    rcases List.mem_cons.mp hx with e | e
    · subst e
      omega
    · have h4 := sum_lt (fun q hq => h q (List.mem_cons_of_mem _ hq)) e hl
      omega
structure LB (E : List (Nat × Nat)) (n : Nat) (L path fin : List Nat) (cf : Nat → Nat) (ck : List (Int × Da)) : Prop where
  D : DInv E (L ++ fin) path
  pb : ∀ p, p ∈ path ∨ p ∈ fin → p < n
  kk : ∀ p : Nat, lk ck (p : Int) = if p ∈ path ∨ p ∈ fin then some (.int (cf p : Nat)) else none
  cl : ∀ p ∈ path, cf p ≤ (gm E p).length
  cg : ∀ p ∈ path, ∀ j g, j < cf p → (gm E p)[j]? = some g → g ∈ L ++ fin ∨ g ∈ path
  c0 : ∀ p, p ∉ path → p ∉ fin → cf p = 0
  sz : ck.length ≤ path.length + fin.length
theorem LB.start {E : List (Nat × Nat)} {n s : Nat} {L : List Nat} (h : DInv E L []) (hs : s ∉ L) (hn : s < n) : LB E n L [s] [] (fun _ => 0) [((s : Int), .int 0)] := by
  refine ⟨by rw [List.append_nil]; exact h.begin hs, fun p hp => ?_, fun p => ?_, fun p _ => Nat.zero_le _, fun p _ j g hj => absurd hj (Nat.not_lt_zero _), fun _ _ _ => rfl, Nat.le_refl _⟩
  · rcases hp with z | z
    · rw [List.mem_singleton.mp z]
      exact hn
    · cases z
  · rw [lk_cons, lk_nil]
    by_cases e : p = s
    · subst e
      simp
    · rw [if_neg (show ¬ ((s : Int) = (p : Int)) from fun z => e (by omega))]
      simp [e]
theorem LB.len {E : List (Nat × Nat)} {n : Nat} {L path fin : List Nat} {cf : Nat → Nat} {ck : List (Int × Da)} (h : LB E n L path fin cf ck) : path.length + fin.length ≤ n := by
  have h1 := h.D.nd
  rw [List.append_assoc] at h1
  have h2 := (List.nodup_append.mp h1).2.1
  have h3 := nodup_len n _ h2 fun x hx => h.pb x (by
    rcases List.mem_append.mp hx with z | z
    · exact .inr z
    · exact .inl z)
  rw [List.length_append] at h3
  omega
/-- the top is done -/
theorem LB.pop {E : List (Nat × Nat)} {n t : Nat} {L path fin : List Nat} {cf : Nat → Nat} {ck : List (Int × Da)} (h : LB E n L (path ++ [t]) fin cf ck) (hc : cf t = (gm E t).length) :
    LB E n L path (fin ++ [t]) cf ck ∧ todo n E (L ++ (fin ++ [t])) cf < todo n E (L ++ fin) cf := by
  have htp : t ∈ path ++ [t] := List.mem_append_right _ (List.mem_singleton.mpr rfl)
  have hD : DInv E (L ++ fin ++ [t]) path := h.D.pop fun g hg => by
    obtain ⟨j, hj⟩ := List.getElem?_of_mem (gm_mem.mpr hg)
    exact h.cg t htp j g (by rw [hc]; exact (List.getElem?_eq_some_iff.mp hj).1) hj
  have iff1 : ∀ p, (p ∈ path ∨ p ∈ fin ++ [t]) ↔ (p ∈ path ++ [t] ∨ p ∈ fin) := fun p => by
    rw [List.mem_append, List.mem_append]
    constructor
    · rintro (a | a | a)
      · exact .inl (.inl a)
      · exact .inr a
      · exact .inl (.inr a)
    · rintro ((a | a) | a)
      · exact .inl a
      · exact .inr (.inr a)
      · exact .inr (.inl a)
  refine ⟨⟨by rw [← List.append_assoc]; exact hD, fun p hp => h.pb p ((iff1 p).mp hp), fun p => ?_, fun p hp => h.cl p (List.mem_append_left _ hp), fun p hp j g hj hg => ?_, fun p h1 h2 => ?_, ?_⟩, ?_⟩
  · rw [h.kk p]
    by_cases e : p ∈ path ++ [t] ∨ p ∈ fin
    · rw [if_pos e, if_pos ((iff1 p).mpr e)]
    · rw [if_neg e, if_neg (fun z => e ((iff1 p).mp z))]
  · rcases h.cg p (List.mem_append_left _ hp) j g hj hg with z | z
    · rw [← List.append_assoc]
      exact .inl (List.mem_append_left _ z)
    · rcases List.mem_append.mp z with y | y
      · exact .inr y
      · rw [← List.append_assoc]
        exact .inl (List.mem_append_right _ y)
  · have h3 : ¬ (p ∈ path ++ [t] ∨ p ∈ fin) := fun z => by
      rcases (iff1 p).mpr z with y | y
      · exact h1 y
      · exact h2 y
    exact h.c0 p (fun z => h3 (.inl z)) fun z => h3 (.inr z)
  · have := h.sz
    simp only [List.length_append, List.length_singleton] at this ⊢
    omega
  · have hnt : t ∉ L ++ fin := fun z => by
      have := h.D.nd
      exact (List.nodup_append.mp this).2.2 t z t htp rfl
    refine sum_lt (x := t) (fun p _ => ?_) (List.mem_range.mpr (h.pb t (.inl htp))) ?_
    · rw [← List.append_assoc]
      by_cases e : p ∈ L ++ fin
      · rw [if_pos e, if_pos (List.mem_append_left _ e)]
        exact Nat.le_refl _
      · rw [if_neg e]
        split
        · exact Nat.zero_le _
        · exact Nat.le_refl _
    · show (if t ∈ L ++ (fin ++ [t]) then 0 else _) < (if t ∈ L ++ fin then 0 else _)
      rw [if_neg hnt, if_pos (by rw [← List.append_assoc]; exact List.mem_append_right _ (List.mem_singleton.mpr rfl))]
      omega
/-- one more goal of the top is seen; it is not new -/
theorem LB.skip {E : List (Nat × Nat)} {n t g : Nat} {L path fin : List Nat} {cf : Nat → Nat} {ck : List (Int × Da)} (h : LB E n L (path ++ [t]) fin cf ck) (hg : (gm E t)[cf t]? = some g) (hs : g ∈ L ∨ g ∈ path ++ [t] ∨ g ∈ fin) :
    LB E n L (path ++ [t]) fin (fun q => if q = t then cf t + 1 else cf q) (putD ck (t : Int) (.int ((cf t : Nat) + 1))) ∧ todo n E (L ++ fin) (fun q => if q = t then cf t + 1 else cf q) < todo n E (L ++ fin) cf := by
  have htp : t ∈ path ++ [t] := List.mem_append_right _ (List.mem_singleton.mpr rfl)
  have hl := (List.getElem?_eq_some_iff.mp hg).1
  refine ⟨⟨h.D, h.pb, fun p => ?_, fun p hp => ?_, fun p hp j k hj hk => ?_, fun p h1 h2 => ?_, ?_⟩, ?_⟩
  · rw [lk_put]
    by_cases e : p = t
    · subst e
      rw [if_pos rfl, if_pos (.inl htp), if_pos rfl]
      rfl
    · rw [if_neg (show ¬ ((p : Int) = (t : Int)) from fun z => e (by omega)), h.kk p, if_neg e]
  · show (if p = t then cf t + 1 else cf p) ≤ _
    by_cases e : p = t
    · subst e
      rw [if_pos rfl]
      omega
    · rw [if_neg e]
      exact h.cl p hp
  · replace hj : j < (if p = t then cf t + 1 else cf p) := hj
    by_cases e : p = t
    · subst e
      rw [if_pos rfl] at hj
      by_cases ej : j = cf p
      · subst ej
        rw [hg] at hk
        cases hk
        rcases hs with z | z | z
        · exact .inl (List.mem_append_left _ z)
        · exact .inr z
        · exact .inl (List.mem_append_right _ z)
      · exact h.cg p hp j k (by omega) hk
    · rw [if_neg e] at hj
      exact h.cg p hp j k hj hk
  · show (if p = t then cf t + 1 else cf p) = 0
    rw [if_neg (fun z => h1 (by rw [z]; exact htp))]
    exact h.c0 p h1 h2
  · rw [put_len_old (by rw [h.kk t, if_pos (.inl htp)]; rfl)]
    exact h.sz
  · have hnt : t ∉ L ++ fin := fun z => (List.nodup_append.mp h.D.nd).2.2 t z t htp rfl
    refine sum_lt (x := t) (fun p _ => ?_) (List.mem_range.mpr (h.pb t (.inl htp))) ?_
    · by_cases e : p ∈ L ++ fin
      · rw [if_pos e, if_pos e]
        exact Nat.le_refl _
      · rw [if_neg e, if_neg e]
        show (gm E p).length - (if p = t then cf t + 1 else cf p) + 1 ≤ (gm E p).length - cf p + 1
        by_cases ep : p = t
        · subst ep
          rw [if_pos rfl]
          omega
        · rw [if_neg ep]
          exact Nat.le_refl _
    · show (if t ∈ L ++ fin then 0 else (gm E t).length - (if t = t then cf t + 1 else cf t) + 1) < (if t ∈ L ++ fin then 0 else (gm E t).length - cf t + 1)
      rw [if_neg hnt, if_neg hnt, if_pos rfl]
      omega
/-- a new place comes onto the path -/
theorem LB.push {E : List (Nat × Nat)} {n t g : Nat} {L path fin : List Nat} {cf : Nat → Nat} {ck : List (Int × Da)} (h : LB E n L (path ++ [t]) fin cf ck) (hb : ∀ e ∈ E, e.2 < n) (hg : (gm E t)[cf t]? = some g) (h1 : g ∉ L) (h2 : g ∉ path ++ [t]) (h3 : g ∉ fin) :
    LB E n L (path ++ [t] ++ [g]) fin (fun q => if q = t then cf t + 1 else cf q) (putD (putD ck (t : Int) (.int ((cf t : Nat) + 1))) (g : Int) (.int 0)) ∧ todo n E (L ++ fin) (fun q => if q = t then cf t + 1 else cf q) < todo n E (L ++ fin) cf := by
  have htp : t ∈ path ++ [t] := List.mem_append_right _ (List.mem_singleton.mpr rfl)
  have hl := (List.getElem?_eq_some_iff.mp hg).1
  have hE : (t, g) ∈ E := gm_mem.mp (List.mem_of_getElem? hg)
  have hgt : g ≠ t := fun z => h2 (z ▸ htp)
  have hnt : t ∉ L ++ fin := fun z => (List.nodup_append.mp h.D.nd).2.2 t z t htp rfl
  refine ⟨⟨h.D.push hE (fun z => (List.mem_append.mp z).elim h1 h3) h2, fun p hp => ?_, fun p => ?_, fun p hp => ?_, fun p hp j k hj hk => ?_, fun p h4 h5 => ?_, ?_⟩, ?_⟩
  · rcases hp with z | z
    · rcases List.mem_append.mp z with y | y
      · exact h.pb p (.inl y)
      · rw [List.mem_singleton.mp y]
        exact hb _ hE
    · exact h.pb p (.inr z)
  · rw [lk_put, lk_put]
    by_cases e : p = g
    · subst e
      rw [if_pos rfl, if_pos (.inl (List.mem_append_right _ (List.mem_singleton.mpr rfl))), if_neg hgt, h.c0 p h2 h3]
      rfl
    · rw [if_neg (show ¬ ((p : Int) = (g : Int)) from fun z => e (by omega))]
      by_cases e2 : p = t
      · subst e2
        rw [if_pos rfl, if_pos (.inl (List.mem_append_left _ htp)), if_pos rfl]
        rfl
      · rw [if_neg (show ¬ ((p : Int) = (t : Int)) from fun z => e2 (by omega)), h.kk p, if_neg e2]
        by_cases e3 : p ∈ path ++ [t] ∨ p ∈ fin
        · rw [if_pos e3, if_pos (e3.imp (List.mem_append_left _) id)]
        · rw [if_neg e3, if_neg (fun z => e3 (z.imp (fun y => (List.mem_append.mp y).elim id fun x => absurd (List.mem_singleton.mp x) e) id))]
  · show (if p = t then cf t + 1 else cf p) ≤ _
    rcases List.mem_append.mp hp with z | z
    · by_cases e : p = t
      · subst e
        rw [if_pos rfl]
        omega
      · rw [if_neg e]
        exact h.cl p z
    · rw [List.mem_singleton.mp z, if_neg hgt, h.c0 g h2 h3]
      exact Nat.zero_le _
  · replace hj : j < (if p = t then cf t + 1 else cf p) := hj
    rcases List.mem_append.mp hp with z | z
    · by_cases e : p = t
      · subst e
        rw [if_pos rfl] at hj
        by_cases ej : j = cf p
        · subst ej
          rw [hg] at hk
          cases hk
          exact .inr (List.mem_append_right _ (List.mem_singleton.mpr rfl))
        · exact (h.cg p z j k (by omega) hk).imp id (List.mem_append_left _)
      · rw [if_neg e] at hj
        exact (h.cg p z j k hj hk).imp id (List.mem_append_left _)
    · rw [List.mem_singleton.mp z, if_neg hgt, h.c0 g h2 h3] at hj
      exact absurd hj (Nat.not_lt_zero _)
  · have h6 : p ∉ path ++ [t] := fun z => h4 (List.mem_append_left _ z)
    show (if p = t then cf t + 1 else cf p) = 0
    rw [if_neg (fun z => h6 (by rw [z]; exact htp))]
    exact h.c0 p h6 h5
  · have h7 := put_len_old (kvs := ck) (k := (t : Int)) (d := .int ((cf t : Nat) + 1)) (by rw [h.kk t, if_pos (.inl htp)]; rfl)
    have h8 := put_length (kvs := putD ck (t : Int) (.int ((cf t : Nat) + 1))) (k := (g : Int)) (d := .int 0)
    have h9 := h.sz
    simp only [List.length_append, List.length_singleton] at h9 ⊢
    omega
  · refine sum_lt (x := t) (fun p _ => ?_) (List.mem_range.mpr (h.pb t (.inl htp))) ?_
    · by_cases e : p ∈ L ++ fin
      · rw [if_pos e, if_pos e]
        exact Nat.le_refl _
      · rw [if_neg e, if_neg e]
        show (gm E p).length - (if p = t then cf t + 1 else cf p) + 1 ≤ (gm E p).length - cf p + 1
        by_cases ep : p = t
        · subst ep
          rw [if_pos rfl]
          omega
        · rw [if_neg ep]
          exact Nat.le_refl _
    · show (if t ∈ L ++ fin then 0 else (gm E t).length - (if t = t then cf t + 1 else cf t) + 1) < (if t ∈ L ++ fin then 0 else (gm E t).length - cf t + 1)
      rw [if_neg hnt, if_neg hnt, if_pos rfl]
      omega
theorem atI_lastN (path : List Nat) (t : Nat) : L2.atI (iD (ofN (path ++ [t]))) (-1) = some (.int (t : Int)) := by
  rw [← iD_snoc]
  exact atI_last _ _
theorem iD_top (path : List Nat) (t : Nat) : (iD (ofN (path ++ [t])))[(path ++ [t]).length - 1]? = some (.int (t : Int)) := by
  rw [← iD_snoc, List.length_append, List.length_singleton, Nat.add_sub_cancel]
  have : (iD (ofN path)).length = path.length := iD_len path
  rw [← this]
  simp
theorem iD_drop (path : List Nat) (t : Nat) : (iD (ofN (path ++ [t]))).dropLast = iD (ofN path) := by
  rw [← iD_snoc, List.dropLast_concat]
theorem lk_some {kvs : List (Int × Da)} {L : List Nat} (h : Seen kvs L) (p : Nat) : (lk kvs (p : Int)).isSome = decide (p ∈ L) := h p
end RK
-- A
set_option Elab.async false
set_option linter.all false
set_option maxRecDepth 100000
set_option maxHeartbeats 4000000
namespace RK
open PySem PySem.Spec PyProof.Rows L2
local macro_rules
  | `(tactic| walk_at "ev") => `(tactic| try simp only [dVar, dC, dOp, dUn, kII, kIB, kI0, kSS, kAddS, kSign, flD, kEq, vS, onS, kIn, dasOf, dNil, dCons, dConsA, dTup, dLst, dAnd, dOr, dNot, dB, dAndT, dOrT, dNotT, dIf, dChain, kIx, dNoPart, dPart, dSlS, dSlL, dRev, dCB, k1, k2, lenD, kLen, kAll, kMax, kMM, kAbs, kInt, kList, kTuple, kSortI, kDivmod, onO, onDa, onInt, onBl, onStr, vL, onL, onT, vM, onM, toDa, dDGet, dDIn, dDGet2, dBM, dBM0, dBMS, onOwn, kAppend, kExtend, kPop, kPopAt, kClear, kIndex, kCount, kSIndex, lkF, dFld, dLR, dRg1, dRg2, dJoin, rvS, dgName, dgNil, dgCons, dgTup, diL, diT, diS, diR1, diR2, onLd, diZ, diE, diZSS, diZSL, diET, dNext, dSeq, dDrop, rtD, dRet, dRetN, dIfS, dNever, dSet, dAsg, dPar, dPar3, dFldS, dDPut, dFrz, dYes, startE, dCall, dCallM, isPot, dCallP, dMk, onObj, dMt, dPp, dCO, dRevA, kInv, kNeg, kLenO, kReprO, dFmtO, dFmtR, vD, kReprD, kReprB, dFmtD, kEqD, kCat, kCatT, clV, kIsi, kIsiT, kEqO, dCval, dCon, dJs, dJoined, diQ, diEQ, dLZ, kMulS, kSumL, dSS, kSortTs, dDisp1, fInt, fBool, fStr, fList, fSeq,
      List.map_cons, List.map_nil, List.cons_append, List.nil_append, List.length_cons, List.length_nil, List.replicate_succ, List.replicate_zero, List.append_nil, Nat.reduceAdd, Nat.reduceSub, Nat.zero_add, Nat.sub_self,
      List.getElem?_cons_zero, List.getElem?_cons_succ, List.getElem?_nil, List.set_cons_zero, List.set_cons_succ, Option.map_some, Option.map_none, List.reverse_cons, List.reverse_nil, Bool.not_true, Bool.not_false, Bool.false_eq_true, if_true, if_false, true_and, and_true, reduceCtorEq, wipeE, noOwn, Sl.own, List.all_cons, List.all_nil, Bool.and_true, Bool.true_and, Bool.and_self, List.length_map, List.not_mem_nil, not_false_eq_true, cx_K, cx_Kn, sn1, sn2, sn3, sn4, sn5, sgD, tx_list, tx_len, tx_app, tx_cut])
section
variable {P : Program} {w : World} {K : PySem.W.Frag} {mg : Str → Option Value} {base : Heap}
abbrev R_is_integer : RR := fun ds Q => ∃ n, ds = [.int n] ∧ Q (.bl true)
theorem ok_is_integer (T : Txt K mg) : Df P w K mg base "is_integer" 1 ["value"] (spD K R_is_integer) := by
  obtain ⟨fd, F, b⟩ := q_is_integer T
  refine ⟨_, fd, okD F sc_is_integer (by rintro ds Q ⟨n, rfl, q⟩; rfl) (by decide) (fun cdv A outer s H hr => ⟨_, _, ⟨
      (pss_one (ps_ret (pe_and (pe_callB call_isi (by rfl) T.z_isinstance boot_isinstance (pa_cons (pv 0) (pa_cons (pe_bltn (v := .ty "int") (by rfl) T.z_int boot_int rfl) pa_nil))) (pe_one (pe_not (pe_callB call_isi (by rfl) T.z_isinstance boot_isinstance (pa_cons (pv 0) (pa_cons (pe_bltn (v := .ty "bool") (by rfl) T.z_bool boot_bool rfl) pa_nil)))))))),
      (rs_ret (re_and (re_CB (rc_isi T.isi_int rfl) (ra_cons re_var (ra_cons (re_c fun _ => .ty _) ra_nil))) (re_not (re_CB (rc_isi T.isi_bool rfl) (ra_cons re_var (ra_cons (re_c fun _ => .ty _) ra_nil))))))⟩, fun ds Q h => ?_⟩), T.g_is_integer, F.kp, b⟩
  obtain ⟨n, rfl, q⟩ := h
  walk_at "ev"
  exact q
abbrev R_is_count : RR := fun ds Q => ∃ n, ds = [.int n] ∧ Q (.bl (decide (0 ≤ n)))
theorem ok_is_count (T : Txt K mg) : Df P w K mg base "is_count" 2 ["value"] (spD K R_is_count) := by
  obtain ⟨fd, F, b⟩ := q_is_count T
  refine ⟨_, fd, okD F sc_is_count (by rintro ds Q ⟨n, rfl, q⟩; rfl) (by decide) (fun cdv A outer s H hr => ⟨_, _, ⟨
      (pss_one (ps_ret (pe_and (pe_callD (ok_is_integer T) hr (pa_cons (pv 0) pa_nil)) (pe_one (pe_cmpR op_ge (pv 0) pe_int (nomark _)))))),
      (rs_ret (re_and (re_call (ra_consA re_var ra_nil)) (re_op ro_B0 re_var (re_c fun _ => .int _))))⟩, fun ds Q h => ?_⟩), T.g_is_count, F.kp, b⟩
  obtain ⟨n, rfl, q⟩ := h
  walk_at "ev"
  exact ⟨n, rfl, q⟩
abbrev R_is_list : RR := fun ds Q => ∃ d, ds = [d] ∧ fSeq d = some true ∧ Q (.bl true)
theorem ok_is_list (T : Txt K mg) : Df P w K mg base "is_list" 1 ["value"] (spD K R_is_list) := by
  obtain ⟨fd, F, b⟩ := q_is_list T
  refine ⟨_, fd, okD F sc_is_list (by rintro ds Q ⟨d, rfl, h1, q⟩; rfl) (by decide) (fun cdv A outer s H hr => ⟨_, _, ⟨
      (pss_one (ps_ret (pe_callB call_isiT (by rfl) T.z_isinstance boot_isinstance (pa_cons (pv 0) (pa_cons (pe_tup (pa_cons (pe_bltn (v := .ty "list") (by rfl) T.z_list boot_list rfl) (pa_cons (pe_bltn (v := .ty "tuple") (by rfl) T.z_tuple boot_tuple rfl) pa_nil))) pa_nil))))),
      (rs_ret (re_CB (rc_isiT (cs := [.ty "list", .ty "tuple"]) T.isi_list_tuple rfl) (ra_cons re_var (ra_cons (re_tup (ra_consA (re_c fun _ => .ty _) (ra_consA (re_c fun _ => .ty _) ra_nil))) ra_nil))))⟩, fun ds Q h => ?_⟩), T.g_is_list, F.kp, b⟩
  obtain ⟨d, rfl, h1, q⟩ := h
  cases d <;> cases h1 <;> (walk_at "ev"; exact ⟨by decide, q⟩)
abbrev R_is_text : RR := fun ds Q => ∃ l, ds = [.str (tx l)] ∧ Low l ∧ l.length ≤ 100000 ∧ Q (.bl true)
theorem ok_is_text (T : Txt K mg) : Df P w K mg base "is_text" 1 ["value"] (spD K R_is_text) := by
  obtain ⟨fd, F, b⟩ := q_is_text T
  refine ⟨_, fd, okD F sc_is_text (by rintro ds Q ⟨l, rfl, h1, h2, q⟩; rfl) (by decide) (fun cdv A outer s H hr => ⟨_, _, ⟨
      (pss_one (ps_ret (pe_and (pe_callB call_isi (by rfl) T.z_isinstance boot_isinstance (pa_cons (pv 0) (pa_cons (pe_bltn (v := .ty "str") (by rfl) T.z_str boot_str rfl) pa_nil))) (pe_one (pe_callB (cr_all rfl) (by rfl) T.z_all boot_all (pa_cons (pe_lc (own := [("sign", 1)]) (g := gName 1) (tt := tYes) rfl sc_is_text.nd (pi_str (pv 0)) (blkOk_by (by kernel_rfl)) (fun _ _ _ _ _ => (pg_name (i := 1) sc_is_text.nd rfl (Or.inl rfl))) (fun _ _ _ _ _ => pts_nil) (fun _ _ _ _ _ => (pe_cmpR op_in_sign (pv 1) (pe_glob (v := .str "abcdefghijklmnopqrstuvwxyz") rfl T.g_SMALL ⟨_, rfl⟩) rfl))) pa_nil)))))),
      (rs_ret (re_and (re_CB (rc_isi T.isi_str rfl) (ra_cons re_var (ra_cons (re_c fun _ => .ty _) ra_nil))) (re_CB rc_all (ra_cons (re_lc (ri_str re_var) (rg_name 1) rt_yes (re_op ro_inSign re_var (re_c fun _ => .str _)) (by decide)) ra_nil))))⟩, fun ds Q h => ?_⟩), T.g_is_text, F.kp, b⟩
  obtain ⟨l, rfl, h1, h2, q⟩ := h
  walk_at "ev"
  refine lc_map (xs := l.map sgD) (fun P h => by walk_at "ev"; exact h) rfl (by rw [List.length_map, szl]; omega) (fun _ => .bl true) (fun i x k k' hx hk => ?_) ?_
  · rw [List.getElem?_map, Option.map_eq_some_iff] at hx
    obtain ⟨c, hc, rfl⟩ := hx
    unfold lcB
    walk_at "ev"
    refine ⟨c, rfl, ?_⟩
    rw [small_eq, tx_list, decide_eq_true (h1 c (List.mem_of_getElem? hc))]
    exact hk
  · walk_at "ev"
    rw [map_bl_true]
    refine ⟨_, rfl, ?_⟩
    rw [all_map_true]
    exact q
theorem cut1 {α : Type} (xs : List α) : cutD xs (some 1) none = xs.drop 1 := by
  unfold cutD
  rw [show HT.sIx xs.length 0 (some 1) = min 1 xs.length from HT.sIx_nat xs.length 0 1, HT.sIx_none]
  cases xs with
  | nil => rfl
  | cons x r =>
    rw [show min 1 (x :: r).length = 1 by
      rw [List.length_cons]
      omega]
    show (List.take ((x :: r).length - 1) r) = r
    rw [List.length_cons, Nat.add_sub_cancel]
    exact List.take_length
theorem rising_at {l : List Nat} (h : Rising l) {i x y : Nat} (hx : l[i]? = some x) (hy : (l.drop 1)[i]? = some y) : x < y := by
  rw [List.getElem?_drop] at hy
  obtain ⟨h1, e1⟩ := List.getElem?_eq_some_iff.mp hx
  obtain ⟨h2, e2⟩ := List.getElem?_eq_some_iff.mp hy
  have := List.pairwise_iff_getElem.mp h i (1 + i) h1 h2 (by omega)
  rw [e1, e2] at this
  exact this
abbrev R_are_letters : RR := fun ds Q => ∃ l, ds = [.str (tx l)] ∧ Low l ∧ 1 ≤ l.length ∧ l.length ≤ 3 ∧ Rising l ∧ Q (.bl true)
theorem ok_are_letters (T : Txt K mg) : Df P w K mg base "are_letters" 2 ["value"] (spD K R_are_letters) := by
  obtain ⟨fd, F, b⟩ := q_are_letters T
  refine ⟨_, fd, okD F sc_are_letters (by rintro ds Q ⟨l, rfl, h1, h2, h3, h4, q⟩; rfl) (by decide) (fun cdv A outer s H hr => ⟨_, _, ⟨
      (pss_cons (ps_if (PW.pt (pw_or (pt_not (pt_val (pe_callD (ok_is_text T) hr (pa_cons (pv 0) pa_nil)))) (pw_or1 (pt_not (pt_chain op_le op_le pe_int (pe_callB call_len (by rfl) T.z_len boot_len (pa_cons (pv 0) pa_nil)) (pe_glob (v := .int 3) rfl T.g_MOST_LETTERS ⟨_, rfl⟩)))))) (pss_one (ps_ret pe_bl)) pss_nil)
      (pss_one (ps_ret (pe_callB (cr_all rfl) (by rfl) T.z_all boot_all (pa_cons (pe_lc (own := [("one", 1), ("other", 2)]) (g := gTup _ 2 (gCons (gName 1) (gCons (gName 2) gNil))) (tt := tYes) rfl sc_are_letters.nd (pi_zipSS (by rfl) T.z_zip (pa_cons (pv 0) (pa_cons (pe_slice sl_str (pv 0) (po_some pe_int) po_none) pa_nil))) (blkOk_by (by kernel_rfl)) (fun _ _ _ _ _ => (pg_tup (n := 2) (by rfl) (pgs_cons (pg_name (i := 1) sc_are_letters.nd rfl (Or.inl rfl)) (pgs_cons (pg_name (i := 2) sc_are_letters.nd rfl (Or.inl rfl)) pgs_nil)))) (fun _ _ _ _ _ => pts_nil) (fun _ _ _ _ _ => (pe_cmpR op_lt_str (pv 1) (pv 2) (nomark _)))) pa_nil))))),
      (rs_seq (rs_if (rt_or (rt_not (rt_B (re_call (ra_consA re_var ra_nil)))) (rt_not (rt_test (re_chain ro_B0 ro_B0 (re_c fun _ => .int _) (re_CB rc_len (ra_cons re_var ra_nil)) (re_c fun _ => .int _))))) (rs_ret (re_c fun _ => .bl _)) rs_next)
      (rs_ret (re_CB rc_all (ra_cons (re_lc (ri_zipSS (ra_consA re_var (ra_consA (re_slS re_var (ro_part (re_c fun _ => .int _)) ro_no) ra_nil))) (rg_tup (n := 2) (rgs_cons (rg_name 1) (rgs_cons (rg_name 2) rgs_nil))) rt_yes (re_op ro_ltS re_var re_var) (by decide)) ra_nil))))⟩, fun ds Q h => ?_⟩), T.g_are_letters, F.kp, b⟩
  obtain ⟨l, rfl, h1, h2, h3, h4, q⟩ := h
  walk_at "ev"
  refine ⟨l, rfl, h1, by omega, ?_⟩
  have e1 : l.length ≤ sizeLine := by rw [szl]; omega
  walk_at "ev"
  rw [if_pos e1]
  simp only []
  rw [if_pos (decide_eq_true (by omega)), if_neg (by simp; omega)]
  refine lc_map (xs := zipD (l.map sgD) ((l.drop 1).map sgD)) (fun P h => by walk_at "ev"; rw [cut1]; exact ⟨e1, h⟩) rfl (by rw [zipD_len, szl]; simp; omega) (fun _ => .bl true) (fun i x k k' hx hk => ?_) ?_
  · obtain ⟨a, b, rfl, ha, hb⟩ := zipD_get hx
    rw [List.getElem?_map, Option.map_eq_some_iff] at ha hb
    obtain ⟨a, ha, rfl⟩ := ha
    obtain ⟨b, hb, rfl⟩ := hb
    unfold lcB
    walk_at "ev"
    have e2 : decide ((#[a] : Array Nat).toList < (#[b] : Array Nat).toList) = true := decide_eq_true (List.Lex.rel (rising_at h4 ha hb))
    rw [e2]
    exact hk
  · walk_at "ev"
    rw [map_bl_true]
    refine ⟨_, rfl, ?_⟩
    rw [all_map_true]
    exact q
/-- the rising text of the signs that come -/
abbrev R_rising : RR := fun ds Q => ∃ l, ds = [.str (tx l)] ∧ Low l ∧ l.length ≤ 100000 ∧ ∀ m : List Nat, m.length ≤ 26 → (∀ c, c ∈ m ↔ c ∈ l) → Q (.str (tx m))
theorem ok_rising (T : Txt K mg) : Df P w K mg base "rising" 1 ["text"] (spD K R_rising) := by
  obtain ⟨fd, F, b⟩ := q_rising T
  refine ⟨_, fd, okD F sc_rising (by rintro ds Q ⟨l, rfl, h1, h2, q⟩; rfl) (by decide) (fun cdv A outer s H hr => ⟨_, _, ⟨
      (pss_one (ps_ret (pe_join pe_str (pe_lc (own := [("sign", 1)]) (g := gName 1) rfl sc_rising.nd (pi_str (pe_glob (v := .str "abcdefghijklmnopqrstuvwxyz") rfl T.g_SMALL ⟨_, rfl⟩)) (blkOk_by (by kernel_rfl)) (fun _ _ _ _ _ => (pg_name (i := 1) sc_rising.nd rfl (Or.inl rfl))) (fun _ _ _ _ _ => pts_one (pt_cmpR op_in_sign (pv 1) (pv 0) rfl)) (fun _ _ _ _ _ => (pv 1)))))),
      (rs_ret (re_join (re_c fun _ => .str _) (re_lc (ri_str (re_c fun _ => .str _)) (rg_name 1) (rt_test (re_op ro_inSign re_var re_var)) re_var (by decide))))⟩, fun ds Q h => ?_⟩), T.g_rising, F.kp, b⟩
  obtain ⟨l, rfl, h1, h2, q⟩ := h
  walk_at "ev"
  refine lc_fm (xs := smallL.map sgD) (fun P h => by walk_at "ev"; rw [small_eq, tx_list]; exact h) rfl (by rw [szl]; decide) (fun x => match x with | .str z => if z.cps.toList.all (fun c => decide (c ∈ l)) then some x else none | _ => none) (fun i x k k' hx hk hk' => ?_) ?_
  · rw [List.getElem?_map, Option.map_eq_some_iff] at hx
    obtain ⟨c, hc, rfl⟩ := hx
    unfold lcB
    walk_at "ev"
    refine ⟨c, rfl, ?_⟩
    by_cases hl : c ∈ l
    · rw [if_pos (decide_eq_true hl)]
      exact hk _ (by simp [sgD, hl])
    · rw [if_neg (by simpa using hl)]
      exact hk' (by simp [sgD, hl])
  · walk_at "ev"
    have e : (smallL.map sgD).filterMap (fun x => match x with | .str z => if z.cps.toList.all (fun c => decide (c ∈ l)) then some x else none | _ => none) = ((smallL.filter fun c => decide (c ∈ l)).map fun c => (⟨#[c]⟩ : Str)).map Da.str := by
      generalize smallL = sl
      induction sl with
      | nil => rfl
      | cons c sl ih =>
        rw [List.map_cons, List.filterMap_cons, ih, List.filter_cons]
        by_cases hl : c ∈ l <;> simp [sgD, hl]
    rw [e]
    refine ⟨_, rfl, ?_, ?_⟩
    · rw [List.map_map]
      have h3 : ∀ l : List Nat, ((l.map ((fun x : Str => x.length) ∘ fun c => (⟨#[c]⟩ : Str)))).sum = l.length := by
        intro l
        induction l with
        | nil => rfl
        | cons c l ih =>
          rw [List.map_cons, List.sum_cons, ih, List.length_cons]
          show 1 + l.length = l.length + 1
          omega
      rw [h3, List.length_map]
      have h4 : (smallL.filter fun c => decide (c ∈ l)).length ≤ 26 := Nat.le_trans (List.length_filter_le _ _) (by decide)
      show _ + _ * 0 ≤ _
      omega
    · rw [join_sg]
      refine q _ (Nat.le_trans (List.length_filter_le _ _) (by decide)) fun c => ?_
      rw [List.mem_filter, decide_eq_true_eq]
      exact ⟨fun z => z.2, fun z => ⟨h1 c z, z⟩⟩
abbrev R_root_of : RR := fun ds Q => ∃ l, ds = [.str (tx l)] ∧ l ≠ [] ∧ l.length ≤ 100000 ∧ ∀ root, IsRoot root l → Q (.str (tx root))
theorem ok_root_of (T : Txt K mg) : Df P w K mg base "root_of" 1 ["lap"] (spD K R_root_of) := by
  obtain ⟨fd, F, b⟩ := q_root_of T
  refine ⟨_, fd, okD F sc_root_of (by rintro ds Q ⟨l, rfl, h1, h2, q⟩; rfl) (by decide) (fun cdv A outer s H hr => ⟨_, _, ⟨
      (pss_cons (ps_for PassesOwn.never rfl (pi_range2 (by rfl) T.z_range (pa_cons pe_int (pa_cons (pe_callB call_len (by rfl) T.z_len boot_len (pa_cons (pv 0) pa_nil)) pa_nil))) (pg_name (i := 1) sc_root_of.nd rfl (Or.inl rfl))
      (pss_one (ps_if (PW.pt (pw_and (pt_cmpR op_eq (pe_op op_mod (pe_callB call_len (by rfl) T.z_len boot_len (pa_cons (pv 0) pa_nil)) (pv 1)) pe_int (nomark _)) (pw_and1 (pt_cmpR op_eq (pe_op op_mulS (pe_slice sl_str (pv 0) po_none (po_some (pv 1))) (pe_op op_fdiv (pe_callB call_len (by rfl) T.z_len boot_len (pa_cons (pv 0) pa_nil)) (pv 1))) (pv 0) (nomark _))))) (pss_one (ps_ret (pe_slice sl_str (pv 0) po_none (po_some (pv 1))))) pss_nil)))
      (pss_one (ps_ret (pv 0)))),
      (rs_seq (rs_for (ri_rng2 (re_c fun _ => .int _) (re_CB rc_len (ra_cons re_var ra_nil))) (rg_name 1)
      (rs_if (rt_and (rt_test (re_op ro_eq (re_op ro_I (re_CB rc_len (ra_cons re_var ra_nil)) re_var) (re_c fun _ => .int _))) (rt_test (re_op ro_eq (re_op ro_mulS (re_slS re_var ro_no (ro_part re_var)) (re_op ro_I (re_CB rc_len (ra_cons re_var ra_nil)) re_var)) re_var))) (rs_ret (re_slS re_var ro_no (ro_part re_var))) rs_next))
      (rs_ret re_var))⟩, fun ds Q h => ?_⟩), T.g_root_of, F.kp, b⟩
  obtain ⟨l, rfl, h1, h2, q⟩ := h
  have e1 : l.length ≤ sizeLine := by rw [szl]; omega
  walk_at "ev"
  refine for_intro (xs := rgD 1 (l.length - 1)) (e0 := [.d (.str (tx l)), .u]) (fun P h => ?_) (fun i e => ∃ s, e = [.d (.str (tx l)), s]) ⟨_, rfl⟩ (fun i x e hx hI => ?_) fun e hI => ?_
  · walk_at "ev"
    simp only [if_pos e1]
    rw [show ((l.length : Int) - 1).toNat = l.length - 1 by omega]
    exact ⟨by omega, h⟩
  · obtain ⟨s, rfl⟩ := hI
    obtain ⟨hi, rfl⟩ := rgD_get hx
    have es : (1 : Int) + (i : Nat) = ((1 + i : Nat) : Int) := by omega
    rw [es]
    generalize hs : 1 + i = s at *
    have s0 : 0 < s := by omega
    have s1 : s < l.length := by omega
    walk_at "ev"
    simp only [if_pos e1, cut_take, rep_tx]
    refine ⟨by omega, rfl, ?_⟩
    by_cases hm : (l.length : Int) % (s : Int) = 0
    · rw [if_pos (decide_eq_true (by rw [hm]))]
      have hd : (l.length : Int) / (s : Int) = ((l.length / s : Nat) : Int) := rfl
      have hd1 : l.length / s ≤ l.length := Nat.div_le_self _ _
      have hm' : s * (l.length / s) ≤ l.length := Nat.mul_div_le _ _
      have hd0 : 0 < l.length / s := Nat.div_pos (by omega) s0
      rw [hd, Int.toNat_natCast]
      generalize l.length / s = k at *
      refine ⟨e1, ⟨by omega, by omega⟩, by omega, ?_, by omega, rfl, ?_⟩
      · rw [List.length_take, Nat.min_eq_left (by omega)]
        exact Nat.le_trans hm' (by omega)
      · refine ite2 (fun h => ?_) fun _ => ⟨_, rfl⟩
        refine ⟨e1, q _ ⟨?_, k, hd0, ?_⟩⟩
        · intro z
          have := congrArg List.length z
          rw [List.length_take, List.length_nil] at this
          omega
        · have h3 := of_decide_eq_true h
          injection h3 with h3
          exact (tx_inj h3).symm
    · rw [if_neg (fun z => hm (by injection of_decide_eq_true z))]
      exact ⟨_, rfl⟩
  · obtain ⟨s, rfl⟩ := hI
    walk_at "ev"
    exact q l ⟨h1, 1, Nat.le_refl _, by simp⟩
abbrev R_plain_of : RR := fun ds Q => ∃ b l, ds = [.str (tx b), .str (tx l)] ∧ l ≠ [] ∧ b.length ≤ 50000 ∧ l.length ≤ 50000 ∧
  ∀ b' l' : List Nat, l' ≠ [] → b'.length ≤ b.length → l'.length ≤ l.length → (∀ i, wd b' l' i = wd b l i) → (∀ c, c ∈ b' ∨ c ∈ l' → c ∈ b ∨ c ∈ l) → Q (.tup [.str (tx b'), .str (tx l')])
theorem ok_plain_of (T : Txt K mg) : Df P w K mg base "plain_of" 2 ["begin", "lap"] (spD K R_plain_of) := by
  obtain ⟨fd, F, b⟩ := q_plain_of T
  refine ⟨_, fd, okD F sc_plain_of (by rintro ds Q ⟨b0, l, rfl, h1, h2, h3, q⟩; rfl) (by decide) (fun cdv A outer s H hr => ⟨_, _, ⟨
      (pss_cons (ps_set (i := 2) sc_plain_of.nd rfl (Or.inl rfl) (pe_callD (ok_root_of T) hr (pa_cons (pv 1) pa_nil)))
      (pss_cons (ps_set (i := 3) sc_plain_of.nd rfl (Or.inl rfl) pe_int)
      (pss_cons (ps_while PassesOwn.never (PW.pt (pw_and (pt_cmpR op_lt (pv 3) (pe_callB call_len (by rfl) T.z_len boot_len (pa_cons (pv 0) pa_nil)) (nomark _)) (pw_and1 (pt_cmpR op_eq (pe_ix ix_seq (pv 0) (pe_op op_sub (pe_op op_sub (pe_callB call_len (by rfl) T.z_len boot_len (pa_cons (pv 0) pa_nil)) pe_int) (pv 3)) (fun _ _ => rfl)) (pe_ix ix_seq (pv 2) (pe_op op_mod (pe_callTy call_int1 (by rfl) T.z_int boot_int (pa_cons (pe_op op_sub (pe_op op_sub (pe_callB call_len (by rfl) T.z_len boot_len (pa_cons (pv 2) pa_nil)) pe_int) (pv 3)) pa_nil)) (pe_callB call_len (by rfl) T.z_len boot_len (pa_cons (pv 2) pa_nil))) (fun _ _ => rfl)) (nomark _)))))
      (pss_one (ps_set (i := 3) sc_plain_of.nd rfl (Or.inl rfl) (pe_op op_add (pv 3) pe_int))))
      (pss_cons (ps_set (i := 4) sc_plain_of.nd rfl (Or.inl rfl) (pe_op op_mod (pe_callTy call_int1 (by rfl) T.z_int boot_int (pa_cons (pe_op op_sub (pe_callB call_len (by rfl) T.z_len boot_len (pa_cons (pv 2) pa_nil)) (pv 3)) pa_nil)) (pe_callB call_len (by rfl) T.z_len boot_len (pa_cons (pv 2) pa_nil))))
      (pss_one (ps_ret (pe_tup (pa_cons (pe_slice sl_str (pv 0) po_none (po_some (pe_op op_sub (pe_callB call_len (by rfl) T.z_len boot_len (pa_cons (pv 0) pa_nil)) (pv 3)))) (pa_cons (pe_op op_add_str (pe_slice sl_str (pv 2) (po_some (pv 4)) po_none) (pe_slice sl_str (pv 2) po_none (po_some (pv 4)))) pa_nil))))))))),
      (rs_seq (rs_set 2 (re_call (ra_consA re_var ra_nil)))
      (rs_seq (rs_set 3 (re_c fun _ => .int _))
      (rs_seq (rs_while (rt_and (rt_test (re_op ro_B0 re_var (re_CB rc_len (ra_cons re_var ra_nil)))) (rt_test (re_op ro_eq (re_op ro_ix re_var (re_op ro_I0 (re_op ro_I0 (re_CB rc_len (ra_cons re_var ra_nil)) (re_c fun _ => .int _)) re_var)) (re_op ro_ix re_var (re_op ro_I (re_CB rc_int (ra_cons (re_op ro_I0 (re_op ro_I0 (re_CB rc_len (ra_cons re_var ra_nil)) (re_c fun _ => .int _)) re_var) ra_nil)) (re_CB rc_len (ra_cons re_var ra_nil)))))))
      (rs_set 3 (re_op ro_I0 re_var (re_c fun _ => .int _))))
      (rs_seq (rs_set 4 (re_op ro_I (re_CB rc_int (ra_cons (re_op ro_I0 (re_CB rc_len (ra_cons re_var ra_nil)) re_var) ra_nil)) (re_CB rc_len (ra_cons re_var ra_nil))))
      (rs_ret (re_tup (ra_consA (re_slS re_var ro_no (ro_part (re_op ro_I0 (re_CB rc_len (ra_cons re_var ra_nil)) re_var))) (ra_consA (re_op ro_addS (re_slS re_var (ro_part re_var) ro_no) (re_slS re_var ro_no (ro_part re_var))) ra_nil))))))))⟩, fun ds Q h => ?_⟩), T.g_plain_of, F.kp, b⟩
  obtain ⟨b0, l, rfl, h1, h2, h3, q⟩ := h
  walk_at "ev"
  refine ⟨l, rfl, h1, by omega, fun root hr => ?_⟩
  walk_at "ev"
  have hp := root_pos hr
  have hle := root_le hr
  have e1 : b0.length ≤ sizeLine := by rw [szl]; omega
  have e2 : root.length ≤ sizeLine := by rw [szl]; omega
  refine while_intro (fun m e => ∃ same : Nat, m + same = b0.length ∧ (∀ j, j < same → b0.getD (b0.length - 1 - j) 0 = root.getD ((((root.length : Int) - 1 - j) % root.length).toNat) 0) ∧
    e = [.d (.str (tx b0)), .d (.str (tx l)), .d (.str (tx root)), .d (.int (same : Nat)), .u]) b0.length ⟨0, rfl, fun j hj => absurd hj (by omega), rfl⟩ (fun m e hI => ?_)
  obtain ⟨same, hm, hmt, rfl⟩ := hI
  walk_at "ev"
  simp only [if_pos e1, if_pos e2]
  have hz := Int.emod_nonneg ((root.length : Int) - (same : Nat)) (by omega : (root.length : Int) ≠ 0)
  have hz2 := Int.emod_lt_of_pos ((root.length : Int) - (same : Nat)) (by omega : (0 : Int) < root.length)
  have fin : (0 : Int) < root.length ∧ b0.length ≤ sizeLine ∧ root.length ≤ sizeLine ∧ root.length ≤ sizeLine ∧
      (cutD root (some (((root.length : Int) - (same : Nat)) % root.length)) none).length + (cutD root none (some (((root.length : Int) - (same : Nat)) % root.length))).length ≤ sizeLine ∧ 2 ≤ sizeLine ∧
      Q (Da.tup [Da.str (tx (cutD b0 none (some ((b0.length : Int) - (same : Nat))))), Da.str (tx (cutD root (some (((root.length : Int) - (same : Nat)) % root.length)) none ++ cutD root none (some (((root.length : Int) - (same : Nat)) % root.length))))]) := by
    obtain ⟨c, hc⟩ := Int.eq_ofNat_of_zero_le hz
    rw [hc] at hz2 ⊢
    rw [show (b0.length : Int) - (same : Nat) = ((b0.length - same : Nat) : Int) by omega, cut_take, cut_take, cut_drop]
    refine ⟨by omega, e1, e2, e2, ?_, by rw [szl]; omega, ?_⟩
    · rw [List.length_drop, List.length_take, szl]
      omega
    · have hl := rot_len (root := root) (c := c) (by omega)
      refine q (b0.take (b0.length - same)) (rot root c) ?_ ?_ ?_ ?_ ?_
      · intro z
        rw [z] at hl
        simp at hl
        omega
      · rw [List.length_take]
        omega
      · omega
      · exact plain_word hr (by omega) hc.symm hmt
      · rintro x (hx | hx)
        · exact .inl (List.mem_of_mem_take hx)
        · exact .inr (root_mem hr (rot_mem.mp hx))
  by_cases hlt : same < b0.length
  · rw [if_pos (decide_eq_true (by omega))]
    have g1 : L2.atI b0 ((b0.length : Int) - 1 - (same : Nat)) = some (b0.getD (b0.length - 1 - same) 0) := by
      rw [show (b0.length : Int) - 1 - (same : Nat) = ((b0.length - 1 - same : Nat) : Int) by omega]
      refine atI_nat ?_
      rw [List.getD_eq_getElem?_getD, List.getElem?_eq_getElem (by omega)]
      rfl
    have hy := Int.emod_nonneg ((root.length : Int) - 1 - (same : Nat)) (by omega : (root.length : Int) ≠ 0)
    have hy2 := Int.emod_lt_of_pos ((root.length : Int) - 1 - (same : Nat)) (by omega : (0 : Int) < root.length)
    have g2 : L2.atI root (((root.length : Int) - 1 - (same : Nat)) % root.length) = some (root.getD ((((root.length : Int) - 1 - (same : Nat)) % root.length).toNat) 0) := by
      generalize ((root.length : Int) - 1 - (same : Nat)) % root.length = z at *
      obtain ⟨n, rfl⟩ := Int.eq_ofNat_of_zero_le hy
      refine atI_nat ?_
      rw [Int.toNat_natCast, List.getD_eq_getElem?_getD, List.getElem?_eq_getElem (by omega)]
      rfl
    rw [g1]
    walk_at "ev"
    refine ⟨e1, by omega, e2, ?_⟩
    rw [g2]
    walk_at "ev"
    refine ⟨rfl, ite2 (fun h => ?_) fun _ => fin⟩
    refine ⟨m - 1, by omega, same + 1, by omega, fun j hj => ?_, rfl⟩
    by_cases he : j = same
    · subst he
      have h3 := of_decide_eq_true h
      injection h3 with h3
      have h4 : (#[b0.getD (b0.length - 1 - j) 0] : Array Nat) = #[root.getD ((((root.length : Int) - 1 - (j : Nat)) % root.length).toNat) 0] := congrArg Str.cps h3
      simpa using h4
    · exact hmt j (by omega)
  · rw [if_neg (by simp; omega)]
    exact fin
abbrev R_Word___init (K : PySem.W.Frag) : RI_ := fun ds Q => ∃ b l, ds = [.str (tx b), .str (tx l)] ∧ Low b ∧ Low l ∧ l ≠ [] ∧ b.length ≤ 8000 ∧ l.length ≤ 8000 ∧
  ∀ b' l' : List Nat, l' ≠ [] → b'.length ≤ b.length → l'.length ≤ l.length → (∀ i, wd b' l' i = wd b l i) → (∀ c, c ∈ b' ∨ c ∈ l' → c ∈ b ∨ c ∈ l) → Q ["own_begin", "own_lap"] [.str (tx b'), .str (tx l')]
theorem ok_Word___init (T : Txt K mg) : Dk P w K mg base "Word" (He.ga K "Word") 3 ["self", "begin", "lap"] (spI K (He.ga K "Word") (R_Word___init K)) := by
  obtain ⟨fd, F, b, b2⟩ := q_Word___init T
  refine ⟨_, fd, okI F sc_Word___init (by rintro ds Q ⟨b0, l, rfl, h1, h2, h3, h4, h5, q⟩; rfl) (by decide) (fun cdv A outer s H hr => ⟨_, _, ⟨
      (pss_cons (ps_if (pt_not (pt_val (pe_callD (ok_is_text T) hr (pa_cons (pv 1) pa_nil)))) (pss_one ps_never) pss_nil)
      (pss_cons (ps_if (PW.pt (pw_or (pt_not (pt_val (pe_callD (ok_is_text T) hr (pa_cons (pv 2) pa_nil)))) (pw_or1 (pt_cmpR op_eq (pv 2) pe_str (nomark _))))) (pss_one ps_never) pss_nil)
      (pss_cons (ps_if (pt_cmpR op_gt (pe_callB (call_max2 rfl) (by rfl) T.z_max boot_max (pa_cons (pe_callB call_len (by rfl) T.z_len boot_len (pa_cons (pv 1) pa_nil)) (pa_cons (pe_callB call_len (by rfl) T.z_len boot_len (pa_cons (pv 2) pa_nil)) pa_nil))) (ClX.pe_cval (pe_glob (v := .ref (He.ga K "Word")) rfl T.g_Word rfl)) (nomark _)) (pss_one ps_never) pss_nil)
      (pss_cons (ps_set (i := 3) sc_Word___init.nd rfl (Or.inl rfl) (pe_callD (ok_plain_of T) hr (pa_cons (pv 1) (pa_cons (pv 2) pa_nil))))
      (pss_cons (ps_fld (pv 0) (pe_ix ix_seq (pv 3) pe_int (fun _ _ => rfl)) rfl)
      (pss_one (ps_fld (pv 0) (pe_ix ix_seq (pv 3) pe_int (fun _ _ => rfl)) rfl))))))),
      (rs_seq (rs_if (rt_not (rt_B (re_call (ra_consA re_var ra_nil)))) rs_never rs_next)
      (rs_seq (rs_if (rt_or (rt_not (rt_B (re_call (ra_consA re_var ra_nil)))) (rt_test (re_op ro_eq re_var (re_c fun _ => .str _)))) rs_never rs_next)
      (rs_seq (rs_if (rt_test (re_op ro_B0 (re_CB rc_max2 (ra_cons (re_CB rc_len (ra_cons re_var ra_nil)) (ra_cons (re_CB rc_len (ra_cons re_var ra_nil)) ra_nil))) (re_cval T.cr_Word T.cv_Word (fun _ => .int _) (re_c fun _ => .cls _)))) rs_never rs_next)
      (rs_seq (rs_set 3 (re_call (ra_consA re_var (ra_consA re_var ra_nil))))
      (rs_seq (rs_fldS T.cl_Word T.na_Word_own_begin (re_op ro_ix re_var (re_c fun _ => .int _)))
      (rs_fldS T.cl_Word T.na_Word_own_lap (re_op ro_ix re_var (re_c fun _ => .int _))))))))⟩, fun ds Q h => ?_⟩), T.mk_Word, T.g_Word, b, b2⟩
  obtain ⟨b0, l, rfl, h1, h2, h3, h4, h5, q⟩ := h
  have e1 : b0.length ≤ sizeLine := by rw [szl]; omega
  have e2 : l.length ≤ sizeLine := by rw [szl]; omega
  walk_at "ev"
  refine ⟨b0, rfl, h1, by omega, ?_⟩
  walk_at "ev"
  refine ⟨l, rfl, h2, by omega, ?_⟩
  walk_at "ev"
  simp only [if_pos e1, if_pos e2]
  have ne : ¬ tx l = ("" : Str) := fun z => h3 (tx_inj (b := []) z)
  refine ⟨rfl, ?_⟩
  rw [if_neg (by simpa using ne), if_neg (by rw [decide_eq_true_eq]; split <;> omega)]
  refine ⟨b0, l, rfl, h3, by omega, by omega, fun b' l' g1 g2 g3 g4 g5 => ?_⟩
  walk_at "ev"
  refine ⟨by decide, by decide, by decide, _, _, rfl, q b' l' g1 g2 g3 g4 g5⟩
abbrev R_Word_begin (K : PySem.W.Frag) : RR := fun ds Q => ∃ b l, ds = [wdD K b l] ∧ Q (.str (tx b))
theorem ok_Word_begin (T : Txt K mg) : Dp0 P w K mg base (He.ga K "Word") "begin" 1 ["self"] (spD K (R_Word_begin K)) := by
  obtain ⟨fd, F, b⟩ := q_Word_begin T
  refine ⟨_, _, fd, okD F sc_Word_begin (by rintro ds Q ⟨b0, l, rfl, q⟩; rfl) (by decide) (fun cdv A outer s H hr => ⟨_, _, ⟨
      (pss_one (ps_ret (pe_fld (pv 0) rfl))),
      (rs_ret (re_fld T.cl_Word T.na_Word_own_begin re_var))⟩, fun ds Q h => ?_⟩), T.pp_Word_begin, b⟩
  obtain ⟨b0, l, rfl, q⟩ := h
  walk_at "ev"
  exact q
abbrev R_Word_lap (K : PySem.W.Frag) : RR := fun ds Q => ∃ b l, ds = [wdD K b l] ∧ Q (.str (tx l))
theorem ok_Word_lap (T : Txt K mg) : Dp0 P w K mg base (He.ga K "Word") "lap" 1 ["self"] (spD K (R_Word_lap K)) := by
  obtain ⟨fd, F, b⟩ := q_Word_lap T
  refine ⟨_, _, fd, okD F sc_Word_lap (by rintro ds Q ⟨b0, l, rfl, q⟩; rfl) (by decide) (fun cdv A outer s H hr => ⟨_, _, ⟨
      (pss_one (ps_ret (pe_fld (pv 0) rfl))),
      (rs_ret (re_fld T.cl_Word T.na_Word_own_lap re_var))⟩, fun ds Q h => ?_⟩), T.pp_Word_lap, b⟩
  obtain ⟨b0, l, rfl, q⟩ := h
  walk_at "ev"
  exact q
abbrev R_Word_coming (K : PySem.W.Frag) : RR := fun ds Q => ∃ b l, ds = [wdD K b l] ∧ Low b ∧ Low l ∧ b.length ≤ 8000 ∧ l.length ≤ 8000 ∧ ∀ m : List Nat, m.length ≤ 26 → (∀ c, c ∈ m ↔ c ∈ b ∨ c ∈ l) → Q (.str (tx m))
theorem ok_Word_coming (T : Txt K mg) : Dm P w K mg base (He.ga K "Word") "coming" 2 ["self"] (spD K (R_Word_coming K)) := by
  obtain ⟨fd, F, b, b2⟩ := q_Word_coming T
  refine ⟨_, fd, okD F sc_Word_coming (by rintro ds Q ⟨b0, l, rfl, h1, h2, h3, h4, q⟩; rfl) (by decide) (fun cdv A outer s H hr => ⟨_, _, ⟨
      (pss_one (ps_ret (pe_callD (ok_rising T) hr (pa_cons (pe_op op_add_str (pe_fld (pv 0) rfl) (pe_fld (pv 0) rfl)) pa_nil)))),
      (rs_ret (re_call (ra_consA (re_op ro_addS (re_fld T.cl_Word T.na_Word_own_begin re_var) (re_fld T.cl_Word T.na_Word_own_lap re_var)) ra_nil)))⟩, fun ds Q h => ?_⟩), T.me_Word_coming, b, b2⟩
  obtain ⟨b0, l, rfl, h1, h2, h3, h4, q⟩ := h
  walk_at "ev"
  refine ⟨by rw [szl]; (try simp only [tx_len]); omega, b0 ++ l, by first | rfl | rw [tx_app], ?_, by rw [List.length_append]; omega, fun m hm hc => ?_⟩
  · intro c hc
    rcases List.mem_append.mp hc with z | z
    · exact h1 c z
    · exact h2 c z
  · walk_at "ev"
    exact q m hm fun c => by rw [hc, List.mem_append]
end
end RK
-- B
set_option Elab.async false
set_option linter.all false
set_option maxRecDepth 100000
set_option maxHeartbeats 4000000
namespace RK
open PySem PySem.Spec PyProof.Rows L2
local macro_rules
  | `(tactic| walk_at "ev") => `(tactic| try simp only [dVar, dC, dOp, dUn, kII, kIB, kI0, kSS, kAddS, kSign, flD, kEq, vS, onS, kIn, dasOf, dNil, dCons, dConsA, dTup, dLst, dAnd, dOr, dNot, dB, dAndT, dOrT, dNotT, dIf, dChain, kIx, dNoPart, dPart, dSlS, dSlL, dRev, dCB, k1, k2, lenD, kLen, kAll, kMax, kMM, kAbs, kInt, kList, kTuple, kSortI, kDivmod, onO, onDa, onInt, onBl, onStr, vL, onL, onT, vM, onM, toDa, dDGet, dDIn, dDGet2, dBM, dBM0, dBMS, onOwn, kAppend, kExtend, kPop, kPopAt, kClear, kIndex, kCount, kSIndex, lkF, dFld, dLR, dRg1, dRg2, dJoin, rvS, dgName, dgNil, dgCons, dgTup, diL, diT, diS, diR1, diR2, onLd, diZ, diE, diZSS, diZSL, diET, dNext, dSeq, dDrop, rtD, dRet, dRetN, dIfS, dNever, dSet, dAsg, dPar, dPar3, dFldS, dDPut, dFrz, dYes, startE, dCall, dCallM, isPot, dCallP, dMk, onObj, dMt, dPp, dCO, dRevA, kInv, kNeg, kLenO, kReprO, dFmtO, dFmtR, vD, kReprD, kReprB, dFmtD, kEqD, kCat, kCatT, clV, kIsi, kIsiT, kEqO, dCval, dCon, dJs, dJoined, diQ, diEQ, dLZ, kMulS, kSumL, dSS, kSortTs, dDisp1, fInt, fBool, fStr, fList, fSeq,
      List.map_cons, List.map_nil, List.cons_append, List.nil_append, List.length_cons, List.length_nil, List.replicate_succ, List.replicate_zero, List.append_nil, Nat.reduceAdd, Nat.reduceSub, Nat.zero_add, Nat.sub_self,
      List.getElem?_cons_zero, List.getElem?_cons_succ, List.getElem?_nil, List.set_cons_zero, List.set_cons_succ, Option.map_some, Option.map_none, List.reverse_cons, List.reverse_nil, Bool.not_true, Bool.not_false, Bool.false_eq_true, if_true, if_false, true_and, and_true, reduceCtorEq, wipeE, noOwn, Sl.own, List.all_cons, List.all_nil, Bool.and_true, Bool.true_and, Bool.and_self, List.length_map, List.not_mem_nil, not_false_eq_true, cx_K, cx_Kn, sn1, sn2, sn3, sn4, sn5, sgD, tx_list, tx_len, tx_app, tx_cut])
section
variable {P : Program} {w : World} {K : PySem.W.Frag} {mg : Str → Option Value} {base : Heap}
abbrev R_Machine___len (K : PySem.W.Frag) : RR := fun ds Q => ∃ ls rows, ds = [mcD K ls rows] ∧ Q (.int (rows.length : Nat))
theorem ok_Machine___len (T : Txt K mg) : Dm P w K mg base (He.ga K "Machine") "__len__" 1 ["self"] (spD K (R_Machine___len K)) := by
  obtain ⟨fd, F, b, b2⟩ := q_Machine___len T
  refine ⟨_, fd, okD F sc_Machine___len (by rintro ds Q ⟨ls, rows, rfl, q⟩; rfl) (by decide) (fun cdv A outer s H hr => ⟨_, _, ⟨
      (pss_one (ps_ret (pe_callB call_len (by rfl) T.z_len boot_len (pa_cons (pe_fld (pv 0) rfl) pa_nil)))),
      (rs_ret (re_CB rc_len (ra_cons (re_fld T.cl_Machine T.na_Machine_own_rows re_var) ra_nil)))⟩, fun ds Q h => ?_⟩), T.me_Machine___len__, b, b2⟩
  obtain ⟨ls, rows, rfl, q⟩ := h
  walk_at "ev"
  exact q
abbrev R_is_place_of (K : PySem.W.Frag) : RR := fun ds Q => ∃ ls rows p, ds = [mcD K ls rows, .int ((p : Nat) : Int)] ∧ rows.length ≤ 1000 ∧ p < rows.length ∧ Q (.bl true)
theorem ok_is_place_of (T : Txt K mg) : Df P w K mg base "is_place_of" 3 ["machine", "value"] (spD K (R_is_place_of K)) := by
  obtain ⟨fd, F, b⟩ := q_is_place_of T
  refine ⟨_, fd, okD F sc_is_place_of (by rintro ds Q ⟨ls, rows, p, rfl, h0, h1, q⟩; rfl) (by decide) (fun cdv A outer s H hr => ⟨_, _, ⟨
      (pss_one (ps_ret (pe_and (pe_callD (ok_is_count T) hr (pa_cons (pv 1) pa_nil)) (pe_one (pe_cmpR op_lt (pv 1) (pe_callB (call_lenO (ok_Machine___len T) hr) (by rfl) T.z_len boot_len (pa_cons (pv 0) pa_nil)) (nomark _)))))),
      (rs_ret (re_and (re_call (ra_consA re_var ra_nil)) (re_op ro_B0 re_var (re_CB rc_lenO (ra_cons re_var ra_nil)))))⟩, fun ds Q h => ?_⟩), T.g_is_place_of, F.kp, b⟩
  obtain ⟨ls, rows, p, rfl, h0, h1, q⟩ := h
  walk_at "ev"
  refine ⟨_, rfl, ?_⟩
  walk_at "ev"
  rw [if_pos (decide_eq_true (by omega))]
  refine ⟨_, _, rfl, _, rfl, by omega, by omega, ?_⟩
  rw [decide_eq_true (by omega)]
  exact q
abbrev R_want_place (K : PySem.W.Frag) : RR := fun ds Q => ∃ ls rows p, ds = [mcD K ls rows, .int ((p : Nat) : Int)] ∧ rows.length ≤ 1000 ∧ p < rows.length ∧ Q .non
theorem ok_want_place (T : Txt K mg) : Df P w K mg base "want_place" 4 ["machine", "value"] (spD K (R_want_place K)) := by
  obtain ⟨fd, F, b⟩ := q_want_place T
  refine ⟨_, fd, okD F sc_want_place (by rintro ds Q ⟨ls, rows, p, rfl, h0, h1, q⟩; rfl) (by decide) (fun cdv A outer s H hr => ⟨_, _, ⟨
      (pss_one (ps_if (pt_not (pt_val (pe_callD (ok_is_place_of T) hr (pa_cons (pv 0) (pa_cons (pv 1) pa_nil))))) (pss_one ps_never) pss_nil)),
      (rs_if (rt_not (rt_B (re_call (ra_consA re_var (ra_consA re_var ra_nil))))) rs_never rs_next)⟩, fun ds Q h => ?_⟩), T.g_want_place, F.kp, b⟩
  obtain ⟨ls, rows, p, rfl, h0, h1, q⟩ := h
  walk_at "ev"
  refine ⟨ls, rows, p, rfl, h0, h1, ?_⟩
  walk_at "ev"
  exact q
abbrev R_is_row : RR := fun ds Q => ∃ (r : List Nat) (size many : Nat), ds = [.lst (iD (ofN r)), .int (size : Nat), .int (many : Nat)] ∧ r.length = size ∧ size ≤ 100 ∧ (∀ g ∈ r, g < many) ∧ Q (.bl true)
theorem ok_is_row (T : Txt K mg) : Df P w K mg base "is_row" 2 ["value", "size", "many"] (spD K R_is_row) := by
  obtain ⟨fd, F, b⟩ := q_is_row T
  refine ⟨_, fd, okD F sc_is_row (by rintro ds Q ⟨r, size, many, rfl, h1, h2, h3, q⟩; rfl) (by decide) (fun cdv A outer s H hr => ⟨_, _, ⟨
      (pss_cons (ps_if (PW.pt (pw_or (pt_not (pt_val (pe_callD (ok_is_list T) hr (pa_cons (pv 0) pa_nil)))) (pw_or1 (pt_cmpR op_ne (pe_callB call_len (by rfl) T.z_len boot_len (pa_cons (pv 0) pa_nil)) (pv 1) (nomark _))))) (pss_one (ps_ret pe_bl)) pss_nil)
      (pss_one (ps_ret (pe_callB (cr_all rfl) (by rfl) T.z_all boot_all (pa_cons (pe_lc (own := [("goal", 3)]) (g := gName 3) (tt := tYes) rfl sc_is_row.nd (pi_list (pv 0)) (blkOk_by (by kernel_rfl)) (fun _ _ _ _ _ => (pg_name (i := 3) sc_is_row.nd rfl (Or.inl rfl))) (fun _ _ _ _ _ => pts_nil) (fun _ _ _ _ _ => (pe_and (pe_callD (ok_is_integer T) hr (pa_cons (pv 3) pa_nil)) (pe_one (pe_chain op_le op_lt pe_int (pv 3) (pv 2)))))) pa_nil))))),
      (rs_seq (rs_if (rt_or (rt_not (rt_B (re_call (ra_consA re_var ra_nil)))) (rt_test (re_op ro_ne (re_CB rc_len (ra_cons re_var ra_nil)) re_var))) (rs_ret (re_c fun _ => .bl _)) rs_next)
      (rs_ret (re_CB rc_all (ra_cons (re_lc (ri_list re_var) (rg_name 3) rt_yes (re_and (re_call (ra_consA re_var ra_nil)) (re_chain ro_B0 ro_B0 (re_c fun _ => .int _) re_var re_var)) (by decide)) ra_nil))))⟩, fun ds Q h => ?_⟩), T.g_is_row, F.kp, b⟩
  obtain ⟨r, size, many, rfl, h1, h2, h3, q⟩ := h
  walk_at "ev"
  refine ⟨_, rfl, rfl, ?_⟩
  walk_at "ev"
  refine ⟨rfl, ?_⟩
  rw [if_neg (by simp [h1])]
  refine lc_map (xs := iD (ofN r)) (fun P h => by walk_at "ev"; exact h) rfl (by rw [iD_len, szl]; omega) (fun _ => .bl true) (fun i x k k' hx hk => ?_) ?_
  · obtain ⟨n, hn, rfl⟩ := iD_mem hx
    unfold lcB
    walk_at "ev"
    refine ⟨_, rfl, ?_⟩
    walk_at "ev"
    have := h3 n (List.mem_of_getElem? hn)
    rw [if_pos (decide_eq_true (by omega)), decide_eq_true (by omega)]
    exact hk
  · walk_at "ev"
    rw [map_bl_true]
    refine ⟨_, rfl, ?_⟩
    rw [all_map_true]
    exact q
abbrev R_want_rows : RR := fun ds Q => ∃ ls rows, ds = [.str (tx ls), .lst (lD (oN rows))] ∧ Mc ls rows ∧ Q .non
theorem ok_want_rows (T : Txt K mg) : Df P w K mg base "want_rows" 3 ["letters", "rows"] (spD K R_want_rows) := by
  obtain ⟨fd, F, b⟩ := q_want_rows T
  refine ⟨_, fd, okD F sc_want_rows (by rintro ds Q ⟨ls, rows, rfl, h1, q⟩; rfl) (by decide) (fun cdv A outer s H hr => ⟨_, _, ⟨
      (pss_cons (ps_if (pt_not (pt_val (pe_callD (ok_are_letters T) hr (pa_cons (pv 0) pa_nil)))) (pss_one ps_never) pss_nil)
      (pss_cons (ps_if (PW.pt (pw_or (pt_not (pt_val (pe_callD (ok_is_list T) hr (pa_cons (pv 1) pa_nil)))) (pw_or1 (pt_cmpR op_eq (pe_callB call_len (by rfl) T.z_len boot_len (pa_cons (pv 1) pa_nil)) pe_int (nomark _))))) (pss_one ps_never) pss_nil)
      (pss_cons (ps_for PassesOwn.never rfl (pi_enum (by rfl) T.z_enumerate (pa_cons (pv 1) pa_nil)) (pg_tup (n := 2) (by rfl) (pgs_cons (pg_name (i := 2) sc_want_rows.nd rfl (Or.inl rfl)) (pgs_cons (pg_name (i := 3) sc_want_rows.nd rfl (Or.inl rfl)) pgs_nil)))
      (pss_one (ps_if (pt_not (pt_val (pe_callD (ok_is_row T) hr (pa_cons (pv 3) (pa_cons (pe_callB call_len (by rfl) T.z_len boot_len (pa_cons (pv 0) pa_nil)) (pa_cons (pe_callB call_len (by rfl) T.z_len boot_len (pa_cons (pv 1) pa_nil)) pa_nil)))))) (pss_one ps_never) pss_nil)))
      (pss_one (ps_if (pt_cmpR op_gt (pe_callB call_len (by rfl) T.z_len boot_len (pa_cons (pv 1) pa_nil)) (ClX.pe_cval (pe_glob (v := .ref (He.ga K "Machine")) rfl T.g_Machine rfl)) (nomark _)) (pss_one ps_never) pss_nil))))),
      (rs_seq (rs_if (rt_not (rt_B (re_call (ra_consA re_var ra_nil)))) rs_never rs_next)
      (rs_seq (rs_if (rt_or (rt_not (rt_B (re_call (ra_consA re_var ra_nil)))) (rt_test (re_op ro_eq (re_CB rc_len (ra_cons re_var ra_nil)) (re_c fun _ => .int _)))) rs_never rs_next)
      (rs_seq (rs_for (ri_enum (ra_consA re_var ra_nil)) (rg_tup (n := 2) (rgs_cons (rg_name 2) (rgs_cons (rg_name 3) rgs_nil)))
      (rs_if (rt_not (rt_B (re_call (ra_consA re_var (ra_consA (re_CB rc_len (ra_cons re_var ra_nil)) (ra_consA (re_CB rc_len (ra_cons re_var ra_nil)) ra_nil)))))) rs_never rs_next))
      (rs_if (rt_test (re_op ro_B0 (re_CB rc_len (ra_cons re_var ra_nil)) (re_cval T.cr_Machine T.cv_Machine (fun _ => .int _) (re_c fun _ => .cls _)))) rs_never rs_next))))⟩, fun ds Q h => ?_⟩), T.g_want_rows, F.kp, b⟩
  obtain ⟨ls, rows, rfl, h1, q⟩ := h
  have e1 : ls.length ≤ sizeLine := by have := h1.l3; rw [szl]; omega
  have n1 := h1.n1
  have n2 := h1.n2
  walk_at "ev"
  refine ⟨ls, rfl, h1.low, h1.l1, h1.l3, h1.ris, ?_⟩
  walk_at "ev"
  refine ⟨_, rfl, rfl, ?_⟩
  walk_at "ev"
  refine ⟨rfl, ?_⟩
  rw [if_neg (by simp; intro z; rw [z] at n1; simp at n1)]
  refine for_intro (xs := enumD (lD (oN rows))) (fun P h => by walk_at "ev"; exact h) (fun i e => ∃ s t, e = [.d (.str (tx ls)), .d (.lst (lD (oN rows))), .d s, .d t] ∨ e = [.d (.str (tx ls)), .d (.lst (lD (oN rows))), .u, .u]) ⟨.non, .non, .inr rfl⟩ (fun i x e hx hI => ?_) fun e hI => ?_
  · obtain ⟨y, rfl, hy⟩ := enumD_get hx
    have hi := (List.getElem?_eq_some_iff.mp hy).1
    rw [lD_len] at hi
    rw [lD_get hi] at hy
    cases hy
    obtain ⟨s, t, rfl | rfl⟩ := hI
    all_goals
      walk_at "ev"
      simp only [if_pos e1]
      refine ⟨row rows i, _, _, rfl, h1.rl _ (row_mem hi), by have := h1.l3; omega, fun g hg => h1.rg.lt hg, ?_⟩
      walk_at "ev"
      exact ⟨_, _, .inl rfl⟩
  · obtain ⟨s, t, rfl | rfl⟩ := hI
    all_goals
      walk_at "ev"
      rw [if_neg (by simp; omega)]
      exact q
abbrev R_met_from_machines : RR := fun ds Q => ∃ rows : List (List Nat), ds = [.lst (lD (oN rows)), .int 0] ∧ 1 ≤ rows.length ∧ rows.length ≤ 120 ∧ InR rows ∧ ∀ m : List Nat, (∀ q, Reach rows 0 q ↔ q ∈ m) → Q (.lst (iD (ofN m)))
theorem ok_met_from_machines (T : Txt K mg) : Df P w K mg base "met_from_machines" 1 ["rows", "start"] (spD K R_met_from_machines) := by
  obtain ⟨fd, F, b⟩ := q_met_from_machines T
  refine ⟨_, fd, okD F sc_met_from_machines (by rintro ds Q ⟨rows, rfl, h1, h2, h3, q⟩; rfl) (by decide) (fun cdv A outer s H hr => ⟨_, _, ⟨
      (pss_cons (ps_set (i := 2) sc_met_from_machines.nd rfl (Or.inl rfl) (pe_lst (pa_cons (pv 1) pa_nil)))
      (pss_cons (ps_set (i := 3) sc_met_from_machines.nd rfl (Or.inl rfl) pe_int)
      (pss_cons (ps_while PassesOwn.never (pt_cmpR op_lt (pv 3) (pe_callB call_len (by rfl) T.z_len boot_len (pa_cons (pv 2) pa_nil)) (nomark _))
      (pss_cons (ps_for PassesOwn.never rfl (pi_list (pe_ix ix_seq (pv 0) (pe_ix ix_seq (pv 2) (pv 3) (fun _ _ => rfl)) (fun _ _ => rfl))) (pg_name (i := 4) sc_met_from_machines.nd rfl (Or.inl rfl))
      (pss_one (ps_if (pt_cmpR op_notIn_seq (pv 4) (pv 2) rfl) (pss_one (ps_expr (pe_bm PySem.F.plainAttrs_list PySem.F.slot_list_append PySem.F.type_list_append mt_append (pv 2) (pa_cons (pv 4) pa_nil)))) pss_nil)))
      (pss_one (ps_set (i := 3) sc_met_from_machines.nd rfl (Or.inl rfl) (pe_op op_add (pv 3) pe_int)))))
      (pss_one (ps_ret (pv 2)))))),
      (rs_seq (rs_set 2 (re_lst (ra_consA re_var ra_nil)))
      (rs_seq (rs_set 3 (re_c fun _ => .int _))
      (rs_seq (rs_while (rt_test (re_op ro_B0 re_var (re_CB rc_len (ra_cons re_var ra_nil))))
      (rs_seq (rs_for (ri_list (re_op ro_ix re_var (re_op ro_ix re_var re_var))) (rg_name 4)
      (rs_if (rt_test (re_op (ro_inN true) re_var re_var)) (rs_drop (re_bm rm_append re_var (ra_consA re_var ra_nil))) rs_next))
      (rs_set 3 (re_op ro_I0 re_var (re_c fun _ => .int _)))))
      (rs_ret re_var))))⟩, fun ds Q h => ?_⟩), T.g_met_from_machines, F.kp, b⟩
  obtain ⟨rows, rfl, h1, h2, h3, q⟩ := h
  walk_at "ev"
  refine ⟨by rw [szl]; omega, ?_⟩
  refine while_intro (fun m e => ∃ (found : List Nat) (at_ : Nat) (t : Sl), m + at_ = rows.length ∧ at_ ≤ found.length ∧ MetInv rows 0 found at_ ∧ (t = .u ∨ ∃ d, t = .d d) ∧ e = [.d (.lst (lD (oN rows))), .d (.int 0), .l (iD (ofN found)), .d (.int (at_ : Nat)), t]) rows.length
    ⟨[0], 0, .u, rfl, Nat.zero_le _, .start h1, .inl rfl, rfl⟩ (fun m e hI => ?_)
  obtain ⟨found, at_, t, hm, hle, J, ht, rfl⟩ := hI
  have hfl := J.len
  walk_at "ev"
  by_cases hlt : at_ < found.length
  · rw [if_pos (decide_eq_true (by simpa using hlt))]
    have hx : found[at_]? = some found[at_] := List.getElem?_eq_getElem hlt
    have hxr : found[at_] < rows.length := J.bd _ (List.getElem_mem hlt)
    refine for_intro (xs := iD (ofN (row rows found[at_]))) (e0 := [.d (.lst (lD (oN rows))), .d (.int 0), .l (iD (ofN found)), .d (.int (at_ : Nat)), t]) (fun P h => ?_)
      (fun i e => ∃ (f2 : List Nat) (t : Sl), found <+: f2 ∧ MetInv rows 0 f2 at_ ∧ (∀ j g, j < i → (row rows found[at_])[j]? = some g → g ∈ f2) ∧ (t = .u ∨ ∃ d, t = .d d) ∧ e = [.d (.lst (lD (oN rows))), .d (.int 0), .l (iD (ofN f2)), .d (.int (at_ : Nat)), t])
      ⟨found, t, List.prefix_rfl, J, fun j g hj => absurd hj (Nat.not_lt_zero _), ht, rfl⟩ (fun i x e hx2 hI => ?_) fun e hI => ?_
    · walk_at "ev"
      rw [atI_iD hx]
      walk_at "ev"
      rw [atI_row hxr]
      exact h
    · obtain ⟨f2, t, hp, J2, hc, _, rfl⟩ := hI
      obtain ⟨g, hg, rfl⟩ := iD_mem hx2
      have hle2 := hp.length_le
      have hxm : found[at_] ∈ f2 := hp.subset (List.getElem_mem hlt)
      have hf2 := J2.len
      walk_at "ev"
      refine ⟨ofN f2, rfl, ?_⟩
      rw [in_ofN]
      by_cases hgm : g ∈ f2
      · rw [if_neg (by simp [hgm])]
        refine ⟨f2, _, hp, J2, fun j g' hj hg' => ?_, .inr ⟨_, rfl⟩, rfl⟩
        by_cases e : j = i
        · subst e
          rw [hg] at hg'
          cases hg'
          exact hgm
        · exact hc j g' (by omega) hg'
      · rw [if_pos (by simp [hgm])]
        refine ⟨by (try simp only [List.length_map]); rw [szl]; omega, f2 ++ [g], _, hp.trans (List.prefix_append _ _), J2.add h3 (by omega) hxm (List.mem_of_getElem? hg) hgm, fun j g' hj hg' => ?_, .inr ⟨_, rfl⟩, by rw [iD_snoc]⟩
        by_cases e : j = i
        · subst e
          rw [hg] at hg'
          cases hg'
          exact List.mem_append_right _ (List.mem_singleton.mpr rfl)
        · exact List.mem_append_left _ (hc j g' (by omega) hg')
    · obtain ⟨f2, t, hp, J2, hc, ht2, rfl⟩ := hI
      have hle2 := hp.length_le
      walk_at "ev"
      have hf2 := J2.len
      have hx2 : f2[at_]? = some found[at_] := by
        obtain ⟨z, rfl⟩ := hp
        rw [List.getElem?_append_left hlt, hx]
      refine ⟨m - 1, by omega, f2, at_ + 1, t, by omega, by omega, J2.next hx2 fun g hg => ?_, ht2, rfl⟩
      obtain ⟨j, hj⟩ := List.getElem?_of_mem hg
      refine hc j g ?_ hj
      rw [iD_len]
      exact (List.getElem?_eq_some_iff.mp hj).1
  · rw [if_neg (by simpa using hlt)]
    walk_at "ev"
    exact q found (J.done (by omega))
abbrev R_Machine___init : RI_ := fun ds Q => ∃ ls rows, ds = [.str (tx ls), .lst (lD (oN rows))] ∧ Mc ls rows ∧ AllMet rows ∧ Q ["own_letters", "own_rows"] [.str (tx ls), .lst (lD (oN rows))]
theorem ok_Machine___init (T : Txt K mg) : Dk P w K mg base "Machine" (He.ga K "Machine") 4 ["self", "letters", "rows"] (spI K (He.ga K "Machine") R_Machine___init) := by
  obtain ⟨fd, F, b, b2⟩ := q_Machine___init T
  refine ⟨_, fd, okI F sc_Machine___init (by rintro ds Q ⟨ls, rows, rfl, h1, h2, q⟩; rfl) (by decide) (fun cdv A outer s H hr => ⟨_, _, ⟨
      (pss_cons (ps_expr (pe_callD (ok_want_rows T) hr (pa_cons (pv 1) (pa_cons (pv 2) pa_nil))))
      (pss_cons (ps_set (i := 3) sc_Machine___init.nd rfl (Or.inl rfl) (pe_callD (ok_met_from_machines T) hr (pa_cons (pv 2) (pa_cons pe_int pa_nil))))
      (pss_cons (ps_for PassesOwn.never rfl (pi_range1 (by rfl) T.z_range (pa_cons (pe_callB call_len (by rfl) T.z_len boot_len (pa_cons (pv 2) pa_nil)) pa_nil)) (pg_name (i := 4) sc_Machine___init.nd rfl (Or.inl rfl))
      (pss_one (ps_if (pt_cmpR op_notIn_seq (pv 4) (pv 3) rfl) (pss_one ps_never) pss_nil)))
      (pss_cons (ps_fld (pv 0) (pv 1) rfl)
      (pss_one (ps_fld (pv 0) (pe_lc (own := [("row_here", 5)]) (g := gName 5) (tt := tYes) rfl sc_Machine___init.nd (pi_list (pv 2)) (blkOk_by (by kernel_rfl)) (fun _ _ _ _ _ => (pg_name (i := 5) sc_Machine___init.nd rfl (Or.inl rfl))) (fun _ _ _ _ _ => pts_nil) (fun _ _ _ _ _ => (pe_callTy call_list_of (by rfl) T.z_list boot_list (pa_cons (pv 5) pa_nil)))) rfl)))))),
      (rs_seq (rs_drop (re_call (ra_consA re_var (ra_consA re_var ra_nil))))
      (rs_seq (rs_set 3 (re_call (ra_consA re_var (ra_consA (re_c fun _ => .int _) ra_nil))))
      (rs_seq (rs_for (ri_rng1 (re_CB rc_len (ra_cons re_var ra_nil))) (rg_name 4)
      (rs_if (rt_test (re_op (ro_inN true) re_var re_var)) rs_never rs_next))
      (rs_seq (rs_fldS T.cl_Machine T.na_Machine_own_letters re_var)
      (rs_fldS T.cl_Machine T.na_Machine_own_rows (re_lc (ri_list re_var) (rg_name 5) rt_yes (re_CB rc_list (ra_cons re_var ra_nil)) (by decide)))))))⟩, fun ds Q h => ?_⟩), T.mk_Machine, T.g_Machine, b, b2⟩
  obtain ⟨ls, rows, rfl, h1, h2, q⟩ := h
  have n1 := h1.n1
  have n2 := h1.n2
  walk_at "ev"
  refine ⟨ls, rows, rfl, h1, ?_⟩
  walk_at "ev"
  refine ⟨rows, rfl, h1.n1, h1.n2, h1.rg, fun m hm => ?_⟩
  walk_at "ev"
  refine for_intro (xs := rgD 0 rows.length) (fun P h => by walk_at "ev"; exact ⟨by omega, by omega, by rw [Int.toNat_natCast]; exact h⟩) (fun i e => ∃ s, (s = .u ∨ ∃ d, s = .d d) ∧ e = [Sl.self (He.ga K "Machine") [] [], .d (.str (tx ls)), .d (.lst (lD (oN rows))), .d (.lst (iD (ofN m))), s, .u]) ⟨_, .inl rfl, rfl⟩ (fun i x e hx hI => ?_) fun e hI => ?_
  · obtain ⟨s, _, rfl⟩ := hI
    obtain ⟨hi, rfl⟩ := rgD_get hx
    rw [Int.zero_add]
    walk_at "ev"
    refine ⟨ofN m, rfl, ?_⟩
    rw [in_ofN, decide_eq_true ((hm i).mp (h2 i hi))]
    exact ⟨_, .inr ⟨_, rfl⟩, rfl⟩
  · obtain ⟨s, hs, rfl⟩ := hI
    walk_at "ev"
    refine ⟨by decide, ?_⟩
    have e : ∀ Q' : RV → En → Prop, Q' (.fl (lD (oN rows))) [Sl.self (He.ga K "Machine") ["own_letters"] [.str (tx ls)], .d (.str (tx ls)), .d (.lst (lD (oN rows))), .d (.lst (iD (ofN m))), s, .u] →
        dLc (diL (dVar 2)) (dgName 5) dYes (dCB kList (dCons (dVar 5) dNil)) [5] [Sl.self (He.ga K "Machine") ["own_letters"] [.str (tx ls)], .d (.str (tx ls)), .d (.lst (lD (oN rows))), .d (.lst (iD (ofN m))), s, .u] Q' := fun Q' hq => by
      refine lc_map (xs := lD (oN rows)) (fun P h => by walk_at "ev"; exact h) rfl (by rw [lD_len, szl]; omega) (fun x => x) (fun i x k k' hx hk => ?_) (by rw [List.map_id']; exact hq)
      obtain ⟨r, hr, rfl⟩ := List.mem_map.mp (List.mem_of_getElem? hx)
      rcases hs with rfl | ⟨d, rfl⟩ <;> (unfold lcB; walk_at "ev"; exact hk)
    refine e _ ?_
    walk_at "ev"
    refine ⟨by decide, by decide, _, _, rfl, q⟩
abbrev R_Machine_letters (K : PySem.W.Frag) : RR := fun ds Q => ∃ ls rows, ds = [mcD K ls rows] ∧ Q (.str (tx ls))
theorem ok_Machine_letters (T : Txt K mg) : Dp0 P w K mg base (He.ga K "Machine") "letters" 1 ["self"] (spD K (R_Machine_letters K)) := by
  obtain ⟨fd, F, b⟩ := q_Machine_letters T
  refine ⟨_, _, fd, okD F sc_Machine_letters (by rintro ds Q ⟨ls, rows, rfl, q⟩; rfl) (by decide) (fun cdv A outer s H hr => ⟨_, _, ⟨
      (pss_one (ps_ret (pe_fld (pv 0) rfl))),
      (rs_ret (re_fld T.cl_Machine T.na_Machine_own_letters re_var))⟩, fun ds Q h => ?_⟩), T.pp_Machine_letters, b⟩
  obtain ⟨ls, rows, rfl, q⟩ := h
  walk_at "ev"
  exact q
abbrev R_Machine___eq (K : PySem.W.Frag) : RR := fun ds Q => ∃ ls rows ls' rows', ds = [mcD K ls rows, mcD K ls' rows'] ∧ Q (.bl (decide (ls = ls' ∧ rows = rows')))
theorem oN_inj {a b : List (List Nat)} : oN a = oN b ↔ a = b := by
  constructor
  · intro h
    induction a generalizing b with
    | nil =>
      cases b with
      | nil => rfl
      | cons y b => cases h
    | cons x a ih =>
      cases b with
      | nil => cases h
      | cons y b =>
        simp only [oN, List.map_cons, List.cons.injEq] at h
        rw [ofN_inj h.1, ih h.2]
  · exact fun h => h ▸ rfl
theorem ok_Machine___eq (T : Txt K mg) : Dm P w K mg base (He.ga K "Machine") "__eq__" 1 ["self", "other"] (spD K (R_Machine___eq K)) := by
  obtain ⟨fd, F, b, b2⟩ := q_Machine___eq T
  refine ⟨_, fd, okD F sc_Machine___eq (by rintro ds Q ⟨ls, rows, ls', rows', rfl, q⟩; rfl) (by decide) (fun cdv A outer s H hr => ⟨_, _, ⟨
      (pss_one (ps_ret (pe_and (pe_callB call_isi (by rfl) T.z_isinstance boot_isinstance (pa_cons (pv 1) (pa_cons (pe_glob (v := .ref (He.ga K "Machine")) rfl T.g_Machine rfl) pa_nil))) (pe_and (pe_cmpR op_eq (pe_fld (pv 0) rfl) (pe_fld (pv 1) rfl) (nomark _)) (pe_one (pe_cmpR (op_eqD hr.units) (pe_fld (pv 0) rfl) (pe_fld (pv 1) rfl) (nomark _))))))),
      (rs_ret (re_and (re_CB (rc_isi T.isi_Machine rfl) (ra_cons re_var (ra_cons (re_c fun _ => .cls _) ra_nil))) (re_and (re_op ro_eq (re_fld T.cl_Machine T.na_Machine_own_letters re_var) (re_fld T.cl_Machine T.na_Machine_own_letters re_var)) (re_op ro_eqD (re_fld T.cl_Machine T.na_Machine_own_rows re_var) (re_fld T.cl_Machine T.na_Machine_own_rows re_var)))))⟩, fun ds Q h => ?_⟩), T.me_Machine___eq__, b, b2⟩
  obtain ⟨ls, rows, ls', rows', rfl, q⟩ := h
  walk_at "ev"
  simp only [fOwn, if_true]
  refine ⟨rfl, ?_⟩
  by_cases h : ls = ls'
  · subst h
    rw [if_pos (decide_eq_true rfl)]
    refine ⟨plain_rows _, plain_rows _, shaped_lD _, shaped_lD _, ?_⟩
    rw [eqv_lD]
    have e : decide (oN rows = oN rows') = decide (ls = ls ∧ rows = rows') := by
      rw [Bool.eq_iff_iff, decide_eq_true_eq, decide_eq_true_eq]
      exact ⟨fun z => ⟨rfl, oN_inj.mp z⟩, fun z => oN_inj.mpr z.2⟩
    rw [e]
    exact q
  · have e : decide (ls = ls' ∧ rows = rows') = false := decide_eq_false (fun z => h z.1)
    rw [e] at q
    rw [if_neg (fun z => h (by
      have h2 := of_decide_eq_true z
      injection h2 with h2
      exact tx_inj h2))]
    exact q
abbrev R_Machine___repr (K : PySem.W.Frag) : RR := fun ds Q => ∃ ls rows, ds = [mcD K ls rows] ∧ Mc ls rows ∧ Q (.str (reprM ls rows))
theorem ok_Machine___repr (T : Txt K mg) : Dm P w K mg base (He.ga K "Machine") "__repr__" 1 ["self"] (spD K (R_Machine___repr K)) := by
  obtain ⟨fd, F, b, b2⟩ := q_Machine___repr T
  refine ⟨_, fd, okD F sc_Machine___repr (by rintro ds Q ⟨ls, rows, rfl, h1, q⟩; rfl) (by decide) (fun cdv A outer s H hr => ⟨_, _, ⟨
      (pss_one (ps_ret (pe_joined (PJ.cons pe_str (PJ.cons (pe_fmtR (pe_fld (pv 0) rfl)) (PJ.cons pe_str (PJ.cons (pe_fmtD hr (pe_fld (pv 0) rfl)) (PJ.cons pe_str PJ.nil)))))))),
      (rs_ret (re_joined (.cons (re_c fun _ => .str _) (.cons (re_fmtR (re_fld T.cl_Machine T.na_Machine_own_letters re_var)) (.cons (re_c fun _ => .str _) (.cons (re_fmtD (re_fld T.cl_Machine T.na_Machine_own_rows re_var)) (.cons (re_c fun _ => .str _) .nil)))))))⟩, fun ds Q h => ?_⟩), T.me_Machine___repr__, b, b2⟩
  obtain ⟨ls, rows, rfl, h1, q⟩ := h
  obtain ⟨s1, s2, s3⟩ := h1.small
  have h4 := shown_rows s1 s2 s3
  have h5 := text_len h1.low
  have h6 := h1.l3
  have e1 : (Str.empty).length = 0 := rfl
  have e2 : ("Machine(" : Str).length = 8 := rfl
  have e3 : (", " : Str).length = 2 := rfl
  have e4 : (")" : Str).length = 1 := rfl
  walk_at "ev"
  simp only [app_len, szl]
  exact ⟨by omega, by omega, by omega, by omega, ⟨_, rfl⟩, plain_rows _, rp_lD s1 s2 s3, by omega, by omega, q⟩
abbrev R_want_letter (K : PySem.W.Frag) : RR := fun ds Q => ∃ ls rows c, ds = [mcD K ls rows, .str (tx [c])] ∧ c ∈ ls ∧ Q .non
theorem ok_want_letter (T : Txt K mg) : Df P w K mg base "want_letter" 3 ["machine", "letter"] (spD K (R_want_letter K)) := by
  obtain ⟨fd, F, b⟩ := q_want_letter T
  refine ⟨_, fd, okD F sc_want_letter (by rintro ds Q ⟨ls, rows, c, rfl, h1, q⟩; rfl) (by decide) (fun cdv A outer s H hr => ⟨_, _, ⟨
      (pss_one (ps_if (PW.pt (pw_or (pt_not (pt_val (pe_callB call_isi (by rfl) T.z_isinstance boot_isinstance (pa_cons (pv 1) (pa_cons (pe_bltn (v := .ty "str") (by rfl) T.z_str boot_str rfl) pa_nil))))) (pw_or (pt_cmpR op_ne (pe_callB call_len (by rfl) T.z_len boot_len (pa_cons (pv 1) pa_nil)) pe_int (nomark _)) (pw_or1 (pt_cmpR op_notIn_sign (pv 1) (pe_propD T.cl_Machine (ok_Machine_letters T) hr (pv 0)) rfl))))) (pss_one ps_never) pss_nil)),
      (rs_if (rt_or (rt_not (rt_B (re_CB (rc_isi T.isi_str rfl) (ra_cons re_var (ra_cons (re_c fun _ => .ty _) ra_nil))))) (rt_or (rt_test (re_op ro_ne (re_CB rc_len (ra_cons re_var ra_nil)) (re_c fun _ => .int _))) (rt_test (re_op ro_notInSign re_var (re_pp re_var))))) rs_never rs_next)⟩, fun ds Q h => ?_⟩), T.g_want_letter, F.kp, b⟩
  obtain ⟨ls, rows, c, rfl, h1, q⟩ := h
  walk_at "ev"
  rw [if_pos (by rw [szl]; omega)]
  walk_at "ev"
  refine ⟨rfl, ?_⟩
  rw [if_neg (by simp)]
  refine ⟨ls, rows, rfl, ?_⟩
  walk_at "ev"
  refine ⟨c, rfl, ?_⟩
  rw [if_neg (by simp [h1])]
  exact q
abbrev R_want_word (K : PySem.W.Frag) : RR := fun ds Q => ∃ ls rows b l, ds = [mcD K ls rows, wdD K b l] ∧ Low b ∧ Low l ∧ b.length ≤ 8000 ∧ l.length ≤ 8000 ∧ (∀ c, c ∈ b ∨ c ∈ l → c ∈ ls) ∧ Q .non
theorem ok_want_word (T : Txt K mg) : Df P w K mg base "want_word" 3 ["machine", "word"] (spD K (R_want_word K)) := by
  obtain ⟨fd, F, b⟩ := q_want_word T
  refine ⟨_, fd, okD F sc_want_word (by rintro ds Q ⟨ls, rows, b0, l, rfl, h1, h2, h3, h4, h5, q⟩; rfl) (by decide) (fun cdv A outer s H hr => ⟨_, _, ⟨
      (pss_one (ps_if (PW.pt (pw_or (pt_not (pt_val (pe_callB call_isi (by rfl) T.z_isinstance boot_isinstance (pa_cons (pv 1) (pa_cons (pe_glob (v := .ref (He.ga K "Word")) rfl T.g_Word rfl) pa_nil))))) (pw_or1 (pt_not (pt_val (pe_callB (cr_all rfl) (by rfl) T.z_all boot_all (pa_cons (pe_lc (own := [("letter", 2)]) (g := gName 2) (tt := tYes) rfl sc_want_word.nd (pi_str (pe_methD0 T.cl_Word (ok_Word_coming T) hr (pv 1))) (blkOk_by (by kernel_rfl)) (fun _ _ _ _ _ => (pg_name (i := 2) sc_want_word.nd rfl (Or.inl rfl))) (fun _ _ _ _ _ => pts_nil) (fun _ _ _ _ _ => (pe_cmpR op_in_sign (pv 2) (pe_propD T.cl_Machine (ok_Machine_letters T) hr (pv 0)) rfl))) pa_nil))))))) (pss_one ps_never) pss_nil)),
      (rs_if (rt_or (rt_not (rt_B (re_CB (rc_isi T.isi_Word rfl) (ra_cons re_var (ra_cons (re_c fun _ => .cls _) ra_nil))))) (rt_not (rt_B (re_CB rc_all (ra_cons (re_lc (ri_str (re_mt re_var ra_nil)) (rg_name 2) rt_yes (re_op ro_inSign re_var (re_pp re_var)) (by decide)) ra_nil))))) rs_never rs_next)⟩, fun ds Q h => ?_⟩), T.g_want_word, F.kp, b⟩
  obtain ⟨ls, rows, b0, l, rfl, h1, h2, h3, h4, h5, q⟩ := h
  walk_at "ev"
  simp only [fOwn, if_true]
  walk_at "ev"
  refine lc_open ?_
  walk_at "ev"
  refine ⟨by decide, b0, l, rfl, h1, h2, h3, h4, fun m hm hc => ?_⟩
  walk_at "ev"
  refine lc_map_in rfl (by rw [List.length_map, szl]; omega) (fun _ => .bl true) (fun i x k k' hx hk => ?_) ?_
  · rw [List.getElem?_map, Option.map_eq_some_iff] at hx
    obtain ⟨c, hcm, rfl⟩ := hx
    unfold lcB
    walk_at "ev"
    refine ⟨ls, rows, rfl, ?_⟩
    walk_at "ev"
    refine ⟨c, rfl, ?_⟩
    rw [decide_eq_true (h5 c ((hc c).mp (List.mem_of_getElem? hcm)))]
    exact hk
  · walk_at "ev"
    rw [map_bl_true]
    refine ⟨_, rfl, ?_⟩
    rw [if_neg (by rw [all_map_true]; decide)]
    exact q
end
end RK
-- G4
set_option Elab.async false
set_option linter.all false
set_option maxRecDepth 100000
set_option maxHeartbeats 4000000
/-! G4: name = {k: v for ..}, the name a local -/
namespace RK
open PySem PySem.Spec PyProof.Rows L2
section
variable {X : Cx}
theorem sw_trueD {kx vx : Expr} {gs : List Comprehension} {scope : Scope} {pos py : Pos} {y : Str} {l : Nat} {env : Env} (hk : env.scope.kind = .function) (hy : env.scope.names.lookup y = some .local) (hl : (py.line == pos.line) = true)
    (ha : (scope.names.any fun (n, k) => n == y && (k == .local || k == .cell)) = false) : swapsWith (.DictComp kx vx gs scope pos) (some (.Name y py)) l env = pure true := by
  have ky : env.kindOf y = some .local := hy
  have hb : env.blockKind = .function := by unfold Env.blockKind; rw [hk]; rfl
  unfold swapsWith
  simp only [hb, ky, ha, Expr.pos, hl]
  rfl
theorem ps_setDc {i : Nat} {y : Str} {py : Pos} {kx vx tg iter : Expr} {ifs : List Expr} {scope : Scope} {own : List (Str × Nat)} {pos spos : Pos} {wi : TI} {g : TG} {tt : TT} {tk tv : TE} (hc : X.calm = true) (hN : X.N.Nodup) (hy : X.N[i]? = some y) (hyl : X.env.scope.names.lookup y = some .local)
    (hsw : swapsWith (.DictComp kx vx [⟨tg, iter, ifs, 0⟩] scope pos) (some (.Name y py)) spos.line X.env = pure true) (hi : PI X tg iter wi) (ok : BlkOk X.N X.env.scope scope own)
    (hg : ∀ (s : Shared) (H : Hp) (C : Addr) (cl : List (Str × Addr)) (fp : List Addr), PG (X.blk s H scope (compEnvC scope cl C X.env) fp) tg g) (ht : ∀ (s : Shared) (H : Hp) (C : Addr) (cl : List (Str × Addr)) (fp : List Addr), PTs (X.blk s H scope (compEnvC scope cl C X.env) fp) ifs tt)
    (hk : ∀ (s : Shared) (H : Hp) (C : Addr) (cl : List (Str × Addr)) (fp : List Addr), PE (X.blk s H scope (compEnvC scope cl C X.env) fp) kx tk)
    (he : ∀ (s : Shared) (H : Hp) (C : Addr) (cl : List (Str × Addr)) (fp : List Addr), PE (X.blk s H scope (compEnvC scope cl C X.env) fp) vx tv) (hs : ∀ x, foldedSetIterable iter X.env x = pure x := by intro _; rfl) :
    PS X (.Assign [.Name y py] (.DictComp kx vx [⟨tg, iter, ifs, 0⟩] scope pos) spos) (tAsg (tDc wi g tt tk tv (own.map (·.2))) (gName i)) := by
  refine ⟨fun pins s σ H D I h => ?_⟩
  rw [exec_Assign_Name_used _ _ _ _ hsw]
  refine wpAny_bind (wpAny_standAt (wpAny_bind ?_))
  show wpAny _ X.A (do let _ ← comprehension (.DictComp kx vx [⟨tg, iter, ifs, 0⟩] scope pos) scope X.env (firstIterPos [⟨tg, iter, ifs, 0⟩] pos) newDict false (eval iter X.env) (some (assign (.Name y py) X.env))) _ _ s
  have h : tDc wi g tt tk tv (own.map (·.2)) σ H (fun x H1 => gName i x σ H1 D.nx) := h
  refine wpAny_bind (thn (dc_core (Qf := fun _ s' => SP X pins D .next s') hc hN I hi ok hg ht hk he hs h fun L C s' m H' I' q hn f => ?_) fun _ s' hq => wpAny_pure (wpAny_pure hq))
  show wpAny _ _ (assign (.Name y py) X.env (.ref L)) _ _ _
  refine wpAny_assign_Name (store_ok2 (v := V.ref L) I' hN hy (.inl hyl) rfl (fun s2 I2 ⟨a, sb, ha⟩ => ?_) (.inr hyl))
  obtain ⟨f0, f1, f2, f3, f4, f5⟩ := f
  have haC : C ≠ a := by
    rcases ha with z | z
    · rw [z]; exact f1
    · exact fun e => f4 y a z e.symm
  refine ⟨m, hn.sameBut sb haC, fun h3 sb3 => ?_⟩
  exact ⟨_, H', I2.turned (t' := s2.toks) (fun b o hb e => (sb3.2 b hb).trans e) f0 f1 f3 f4 f5, q⟩
end
end RK
-- M6
set_option Elab.async false
set_option linter.all false
set_option maxRecDepth 100000
/-! M6: the search off the known, the groups one by one -/
namespace RK
open PySem
/-- the steps turned round -/
abbrev rvE (E : List (Nat × Nat)) : List (Nat × Nat) := E.map fun e => (e.2, e.1)
theorem gm_rv {E : List (Nat × Nat)} {p g : Nat} : g ∈ gm (rvE E) p ↔ (g, p) ∈ E := by
  rw [gm_mem, List.mem_map]
  constructor
  · rintro ⟨⟨a, b⟩, h, e⟩
    injection e with e1 e2
    have e1 : b = p := e1
    have e2 : a = g := e2
    subst e1 e2
    exact h
  · intro h
    exact ⟨(g, p), h, rfl⟩
structure OffInv (E : List (Nat × Nat)) (n : Nat) (k : List Nat) (s : Nat) (found : List Nat) (at_ : Nat) : Prop where
  nd : found.Nodup
  bd : ∀ x ∈ found, x < n
  re : ∀ x ∈ found, Off E k s x
  st : s ∈ found
  cl : ∀ j x, j < at_ → found[j]? = some x → ∀ g, (g, x) ∈ E → g ∈ k ∨ g ∈ found
theorem OffInv.start {E : List (Nat × Nat)} {n s : Nat} {k : List Nat} (h : s < n) : OffInv E n k s [s] 0 :=
  ⟨by simp, fun x hx => by rw [List.mem_singleton.mp hx]; exact h, fun x hx => by rw [List.mem_singleton.mp hx]; exact .refl, List.mem_singleton.mpr rfl, fun j x hj => absurd hj (Nat.not_lt_zero _)⟩
theorem OffInv.len {E : List (Nat × Nat)} {n s a : Nat} {k found : List Nat} (h : OffInv E n k s found a) : found.length ≤ n := nodup_len _ _ h.nd h.bd
theorem OffInv.add {E : List (Nat × Nat)} {n s a x g : Nat} {k found : List Nat} (h : OffInv E n k s found a) (hb : ∀ e ∈ E, e.1 < n) (ha : a ≤ found.length) (hx : x ∈ found) (hg : (g, x) ∈ E) (hk : g ∉ k) (hn : g ∉ found) : OffInv E n k s (found ++ [g]) a := by
  refine ⟨?_, fun y hy => ?_, fun y hy => ?_, List.mem_append_left _ h.st, fun j y hj hy z hz => ?_⟩
  · rw [List.nodup_append]
    refine ⟨h.nd, by simp, fun y hy z hz e => ?_⟩
    rw [List.mem_singleton.mp hz] at e
    exact hn (e ▸ hy)
  · rcases List.mem_append.mp hy with e | e
    · exact h.bd y e
    · rw [List.mem_singleton.mp e]
      exact hb _ hg
  · rcases List.mem_append.mp hy with e | e
    · exact h.re y e
    · rw [List.mem_singleton.mp e]
      exact .head hg hk (h.re x hx)
  · rw [List.getElem?_append_left (by omega)] at hy
    rcases h.cl j y hj hy z hz with e | e
    · exact .inl e
    · exact .inr (List.mem_append_left _ e)
theorem OffInv.next {E : List (Nat × Nat)} {n s a x : Nat} {k found : List Nat} (h : OffInv E n k s found a) (hx : found[a]? = some x) (hg : ∀ g, (g, x) ∈ E → g ∈ k ∨ g ∈ found) : OffInv E n k s found (a + 1) :=
  ⟨h.nd, h.bd, h.re, h.st, fun j y hj hy => by
    by_cases e : j = a
    · subst e
      rw [hx] at hy
      cases hy
      exact hg
    · exact h.cl j y (by omega) hy⟩
theorem OffInv.done {E : List (Nat × Nat)} {n s a : Nat} {k found : List Nat} (h : OffInv E n k s found a) (ha : found.length ≤ a) (p : Nat) : p ∈ found ↔ Off E k s p := by
  refine ⟨h.re p, fun hp => ?_⟩
  induction hp with
  | refl => exact h.st
  | head hg hk _ ih =>
    obtain ⟨j, hj⟩ := List.getElem?_of_mem ih
    have := (List.getElem?_eq_some_iff.mp hj).1
    rcases h.cl j _ (by omega) hj _ hg with z | z
    · exact absurd z hk
    · exact z
/-- the groups found so far -/
structure GpInv (E : List (Nat × Nat)) (n : Nat) (L k : List Nat) (gs : List (List Nat)) (i : Nat) : Prop where
  nd : k.Nodup
  bd : ∀ p ∈ k, p < n
  wh : Whole E k
  al : ∀ j x, j < i → L.reverse[j]? = some x → x ∈ k
  g1 : ∀ gr ∈ gs, ∀ p ∈ gr, ∀ q ∈ gr, Rch E p q
  g2 : ∀ p g, (p, g) ∈ E → Rch E g p → p ∈ k → ∃ gr ∈ gs, p ∈ gr ∧ g ∈ gr
  g3 : gs.length ≤ i
  g4 : ∀ gr ∈ gs, gr.length ≤ n
  g5 : ∀ gr ∈ gs, ∀ p ∈ gr, p ∈ k
  g6 : gs.Pairwise fun a b => ∀ p ∈ a, p ∉ b
theorem GpInv.start (E : List (Nat × Nat)) (n : Nat) (L : List Nat) : GpInv E n L [] [] 0 :=
  ⟨by simp, by simp, fun p q hp => by simp at hp, fun j x hj => absurd hj (Nat.not_lt_zero _), by simp, fun p g _ _ hp => by simp at hp, Nat.le_refl _, by simp, by simp, .nil⟩
theorem GpInv.skip {E : List (Nat × Nat)} {n i s : Nat} {L k : List Nat} {gs : List (List Nat)} (h : GpInv E n L k gs i) (hs : L.reverse[i]? = some s) (hk : s ∈ k) : GpInv E n L k gs (i + 1) :=
  ⟨h.nd, h.bd, h.wh, fun j x hj hx => by
    by_cases e : j = i
    · subst e
      rw [hs] at hx
      cases hx
      exact hk
    · exact h.al j x (by omega) hx, h.g1, h.g2, Nat.le_succ_of_le h.g3, h.g4, h.g5, h.g6⟩
theorem GpInv.grp {E : List (Nat × Nat)} {n i s : Nat} {L k : List Nat} {gs : List (List Nat)} (h : GpInv E n L k gs i) (hL : L.Nodup) (hLn : ∀ p, p ∈ L ↔ p < n) (hK : ∀ u ∈ L, KOk E L u) (hb : ∀ e ∈ E, e.1 < n ∧ e.2 < n) (hs : L.reverse[i]? = some s) (hk : s ∉ k) (p : Nat) : Off E k s p ↔ (Rch E p s ∧ Rch E s p) := by
  have hi := (List.getElem?_eq_some_iff.mp hs).1
  rw [List.length_reverse] at hi
  have hs' : L[L.length - 1 - i]? = some s := by rw [← List.getElem?_reverse hi]; exact hs
  refine group_is hK hL h.wh hs' hk (fun j x hj hx => ?_) (fun q hq => ?_) p
  · have hjl := (List.getElem?_eq_some_iff.mp hx).1
    refine h.al (L.length - 1 - j) x (by omega) ?_
    rw [List.getElem?_reverse (by omega), show L.length - 1 - (L.length - 1 - j) = j from by omega]
    exact hx
  · cases hq with
    | refl => exact List.mem_of_getElem? hs'
    | head hg _ _ => exact (hLn q).mpr (hb _ hg).1
theorem GpInv.step {E : List (Nat × Nat)} {n i s : Nat} {L k g : List Nat} {gs : List (List Nat)} (h : GpInv E n L k gs i) (hs : L.reverse[i]? = some s) (hk : s ∉ k) (hg : ∀ p, p ∈ g ↔ (Rch E p s ∧ Rch E s p)) (gn : g.Nodup) (gb : ∀ p ∈ g, p < n) :
    (∀ g', g'.Perm g → GpInv E n L (k ++ g) (gs ++ [g']) (i + 1)) ∧ (g.length ≤ 1 → (s, s) ∉ E → GpInv E n L (k ++ g) gs (i + 1)) := by
  have sg : s ∈ g := (hg s).mpr ⟨.refl s, .refl s⟩
  have dj : ∀ p ∈ k, p ∉ g := fun p hp hpg => hk (h.wh p s hp ((hg p).mp hpg).1 ((hg p).mp hpg).2)
  have nd : (k ++ g).Nodup := by
    rw [List.nodup_append]
    exact ⟨h.nd, gn, fun a ha b hb e => dj a ha (e ▸ hb)⟩
  have bd : ∀ p ∈ k ++ g, p < n := fun p hp => (List.mem_append.mp hp).elim (h.bd p) (gb p)
  have wh : Whole E (k ++ g) := fun p q hp h1 h2 => by
    rcases List.mem_append.mp hp with z | z
    · exact List.mem_append_left _ (h.wh p q z h1 h2)
    · obtain ⟨e1, e2⟩ := (hg p).mp z
      exact List.mem_append_right _ ((hg q).mpr ⟨h2.trans e1, e2.trans h1⟩)
  have al : ∀ j x, j < i + 1 → L.reverse[j]? = some x → x ∈ k ++ g := fun j x hj hx => by
    by_cases e : j = i
    · subst e
      rw [hs] at hx
      cases hx
      exact List.mem_append_right _ sg
    · exact List.mem_append_left _ (h.al j x (by omega) hx)
  have cl : ∀ p q, (p, q) ∈ E → Rch E q p → p ∈ g → q ∈ g := fun p q e r hp => by
    obtain ⟨e1, e2⟩ := (hg p).mp hp
    exact (hg q).mpr ⟨r.trans e1, e2.trans (Rch.one e)⟩
  have gl : g.length ≤ n := nodup_len _ _ gn gb
  constructor
  · intro g' hp
    refine ⟨nd, bd, wh, al, fun gr hgr p hpp q hq => ?_, fun p q e r hpp => ?_, by rw [List.length_append]; exact Nat.succ_le_succ h.g3, fun gr hgr => ?_, fun gr hgr p hpp => ?_, ?_⟩
    · rcases List.mem_append.mp hgr with z | z
      · exact h.g1 gr z p hpp q hq
      · rw [List.mem_singleton.mp z] at hpp hq
        exact ((hg p).mp (hp.mem_iff.mp hpp)).1.trans ((hg q).mp (hp.mem_iff.mp hq)).2
    · rcases List.mem_append.mp hpp with z | z
      · obtain ⟨gr, h1, h2⟩ := h.g2 p q e r z
        exact ⟨gr, List.mem_append_left _ h1, h2⟩
      · exact ⟨g', List.mem_append_right _ (List.mem_singleton.mpr rfl), hp.mem_iff.mpr z, hp.mem_iff.mpr (cl p q e r z)⟩
    · rcases List.mem_append.mp hgr with z | z
      · exact h.g4 gr z
      · rw [List.mem_singleton.mp z, hp.length_eq]
        exact gl
    · rcases List.mem_append.mp hgr with z | z
      · exact List.mem_append_left _ (h.g5 gr z p hpp)
      · rw [List.mem_singleton.mp z] at hpp
        exact List.mem_append_right _ (hp.mem_iff.mp hpp)
    · rw [List.pairwise_append]
      refine ⟨h.g6, by simp, fun a ha b hb p hpa hpb => ?_⟩
      rw [List.mem_singleton.mp hb] at hpb
      exact dj p (h.g5 a ha p hpa) (hp.mem_iff.mp hpb)
  · intro h1 hss
    refine ⟨nd, bd, wh, al, h.g1, fun p q e r hpp => ?_, Nat.le_succ_of_le h.g3, h.g4, fun gr hgr p hpp => List.mem_append_left _ (h.g5 gr hgr p hpp), h.g6⟩
    rcases List.mem_append.mp hpp with z | z
    · exact h.g2 p q e r z
    · have hq := cl p q e r z
      have one : ∀ x ∈ g, x = s := fun x hx => by
        match g, h1, hx, sg with
        | [a], _, hx, sg => rw [List.mem_singleton.mp hx, List.mem_singleton.mp sg]
        | a :: b :: r, h1, _, _ => simp at h1
      rw [one p z, one q hq] at e
      exact absurd e hss
theorem GpInv.done {E : List (Nat × Nat)} {n i : Nat} {L k : List Nat} {gs gs' : List (List Nat)} (h : GpInv E n L k gs i) (hi : L.length ≤ i) (hLn : ∀ p, p ∈ L ↔ p < n) (hb : ∀ e ∈ E, e.1 < n ∧ e.2 < n) (hp : gs'.Perm gs) : GoodParts E gs' := by
  refine ⟨fun gr hgr => h.g1 gr (hp.mem_iff.mp hgr), fun p g e r => ?_, (hp.symm.pairwise_iff (fun h p ha hb => h p hb ha)).mp h.g6⟩
  have hpk : p ∈ k := by
    have hpl : p ∈ L.reverse := List.mem_reverse.mpr ((hLn p).mpr (hb _ e).1)
    obtain ⟨j, hj⟩ := List.getElem?_of_mem hpl
    have := (List.getElem?_eq_some_iff.mp hj).1
    rw [List.length_reverse] at this
    exact h.al j p (by omega) hj
  obtain ⟨gr, h1, h2⟩ := h.g2 p g e r hpk
  exact ⟨gr, hp.mem_iff.mpr h1, h2⟩
end RK
-- M7
set_option Elab.async false
set_option linter.all false
set_option maxRecDepth 100000
/-! M7: runs of a machine over a word that goes for ever -/
namespace RK
open PySem
section
variable {ls : List Nat} {rows : List (List Nat)}
def stepTo (ls : List Nat) (rows : List (List Nat)) (p c : Nat) : Nat := (row rows p).getD (ls.idxOf c) 0
def fol (ls : List Nat) (rows : List (List Nat)) (p : Nat) (t : List Nat) : Nat := t.foldl (stepTo ls rows) p
/-- the places that a text leads to, the first one in front -/
def trk (ls : List Nat) (rows : List (List Nat)) : Nat → List Nat → List Nat
  | p, [] => [p]
  | p, c :: t => p :: trk ls rows (stepTo ls rows p c) t
theorem trk_len : ∀ (p : Nat) (t : List Nat), (trk ls rows p t).length = t.length + 1
  | _, [] => rfl
  | p, c :: t => by
    show (trk ls rows _ t).length + 1 = _
    rw [trk_len]
    rfl
theorem trk_get : ∀ (t : List Nat) (p i : Nat), i ≤ t.length → (trk ls rows p t)[i]? = some (fol ls rows p (t.take i))
  | [], p, 0, _ => rfl
  | c :: t, p, 0, _ => rfl
  | c :: t, p, i + 1, h => by
    show (trk ls rows (stepTo ls rows p c) t)[i]? = _
    rw [trk_get t _ i (by simpa using h)]
    rfl
theorem trk_snoc : ∀ (t : List Nat) (p c : Nat), trk ls rows p (t ++ [c]) = trk ls rows p t ++ [stepTo ls rows (fol ls rows p t) c]
  | [], p, c => rfl
  | d :: t, p, c => by
    show p :: trk ls rows _ (t ++ [c]) = _
    rw [trk_snoc t]
    rfl
theorem fol_app (p : Nat) (t u : List Nat) : fol ls rows p (t ++ u) = fol ls rows (fol ls rows p t) u := List.foldl_append
/-- where a step leads -/
theorem step_lt (M : Mc ls rows) {p c : Nat} (hp : p < rows.length) (hc : c ∈ ls) : (row rows p)[ls.idxOf c]? = some (stepTo ls rows p c) ∧ stepTo ls rows p c < rows.length := by
  have hi : ls.idxOf c < (row rows p).length := by
    rw [M.rl _ (row_mem hp)]
    exact List.idxOf_lt_length_iff.mpr hc
  have h : (row rows p)[ls.idxOf c]? = some (stepTo ls rows p c) := by
    unfold stepTo
    rw [List.getD_eq_getElem?_getD, List.getElem?_eq_getElem hi]
    rfl
  exact ⟨h, M.rg.lt (List.mem_of_getElem? h)⟩
theorem fol_lt (M : Mc ls rows) : ∀ (t : List Nat) (p : Nat), p < rows.length → (∀ c ∈ t, c ∈ ls) → fol ls rows p t < rows.length
  | [], p, h, _ => h
  | c :: t, p, h, hc => fol_lt M t _ (step_lt M h (hc c List.mem_cons_self)).2 fun d hd => hc d (List.mem_cons_of_mem _ hd)
def run (ls : List Nat) (rows : List (List Nat)) (w : Nat → Nat) : Nat → Nat
  | 0 => 0
  | i + 1 => stepTo ls rows (run ls rows w i) (w i)
/-- the step taken at i: place and number of the letter -/
def stp (ls : List Nat) (rows : List (List Nat)) (w : Nat → Nat) (i : Nat) : Nat × Nat := (run ls rows w i, ls.idxOf (w i))
/-- taken again and again -/
def InfP (ls : List Nat) (rows : List (List Nat)) (w : Nat → Nat) (x : Nat × Nat) : Prop := ∀ N, ∃ i, N ≤ i ∧ stp ls rows w i = x
theorem run_fol {w : Nat → Nat} {n : Nat} {x : List Nat} : ∀ t, t ≤ x.length → (∀ j, j < t → w (n + j) = x.getD j 0) → run ls rows w (n + t) = fol ls rows (run ls rows w n) (x.take t)
  | 0, _, _ => by simp [fol]
  | t + 1, h, hw => by
    show stepTo ls rows (run ls rows w (n + t)) (w (n + t)) = _
    rw [run_fol t (by omega) fun j hj => hw j (by omega), hw t (by omega), List.take_add_one, List.getElem?_eq_getElem (by omega), Option.toList_some, fol_app, List.getD_eq_getElem?_getD, List.getElem?_eq_getElem (by omega)]
    rfl
section
variable {b l : List Nat}
/-- the place at the k-th lap's begin -/
def ss (ls : List Nat) (rows : List (List Nat)) (b l : List Nat) (k : Nat) : Nat := run ls rows (wd b l) (b.length + k * l.length)
theorem wd_b {i : Nat} (h : i < b.length) : wd b l i = b.getD i 0 := by
  unfold wd
  rw [if_pos h]
theorem wd_l {k t : Nat} (h : t < l.length) : wd b l (b.length + k * l.length + t) = l.getD t 0 := by
  unfold wd
  rw [if_neg (by omega), show b.length + k * l.length + t - b.length = t + l.length * k from by rw [Nat.mul_comm]; omega, Nat.add_mul_mod_self_left, Nat.mod_eq_of_lt h]
theorem ss_zero : ss ls rows b l 0 = fol ls rows 0 b := by
  unfold ss
  have := run_fol (ls := ls) (rows := rows) (w := wd b l) (n := 0) (x := b) b.length (Nat.le_refl _) fun j hj => by rw [Nat.zero_add]; exact wd_b hj
  rw [List.take_length, Nat.zero_add] at this
  rw [Nat.zero_mul, Nat.add_zero]
  exact this
theorem ss_run {k t : Nat} (h : t ≤ l.length) : run ls rows (wd b l) (b.length + k * l.length + t) = fol ls rows (ss ls rows b l k) (l.take t) :=
  run_fol t h fun j hj => wd_l (by omega)
theorem ss_succ (k : Nat) : ss ls rows b l (k + 1) = fol ls rows (ss ls rows b l k) l := by
  have := ss_run (ls := ls) (rows := rows) (b := b) (l := l) (k := k) (Nat.le_refl _)
  rw [List.take_length] at this
  rw [← this]
  unfold ss
  rw [Nat.succ_mul, Nat.add_assoc]
theorem ss_lt (M : Mc ls rows) (hb : ∀ c ∈ b, c ∈ ls) (hl : ∀ c ∈ l, c ∈ ls) : ∀ k, ss ls rows b l k < rows.length
  | 0 => by rw [ss_zero]; exact fol_lt M b 0 M.n1 hb
  | k + 1 => by rw [ss_succ]; exact fol_lt M l _ (ss_lt M hb hl k) hl
/-- the t-th step of a lap that begins at p -/
def lapP (ls : List Nat) (rows : List (List Nat)) (l : List Nat) (p t : Nat) : Nat × Nat := (fol ls rows p (l.take t), ls.idxOf (l.getD t 0))
theorem stp_lap {k t : Nat} (h : t < l.length) : stp ls rows (wd b l) (b.length + k * l.length + t) = lapP ls rows l (ss ls rows b l k) t := by
  unfold stp lapP
  rw [ss_run (Nat.le_of_lt h), wd_l h]
theorem ss_per {i j : Nat} (h : ss ls rows b l i = ss ls rows b l j) (m : Nat) : ss ls rows b l (i + m) = ss ls rows b l (j + m) := by
  induction m with
  | zero => exact h
  | succ m ih => rw [← Nat.add_assoc, ← Nat.add_assoc, ss_succ, ss_succ, ih]
theorem ss_per2 {i j n : Nat} (hij : i < j) (h : ss ls rows b l i = ss ls rows b l j) (hn : i ≤ n) (q : Nat) : ss ls rows b l (n + q * (j - i)) = ss ls rows b l n := by
  induction q with
  | zero => rw [Nat.zero_mul, Nat.add_zero]
  | succ q ih =>
    rw [← ih, Nat.succ_mul]
    have := ss_per h (n - i + q * (j - i))
    rw [show i + (n - i + q * (j - i)) = n + q * (j - i) from by omega, show j + (n - i + q * (j - i)) = n + (q * (j - i) + (j - i)) from by omega] at this
    exact this.symm
theorem inf_win {i j n e : Nat} {x : Nat × Nat} (hl : l ≠ []) (hij : i < j) (h : ss ls rows b l i = ss ls rows b l j) (hn : i ≤ n) (he : n + (j - i) ≤ e) :
    InfP ls rows (wd b l) x ↔ ∃ k t, n ≤ k ∧ k < e ∧ t < l.length ∧ x = lapP ls rows l (ss ls rows b l k) t := by
  have hL : 0 < l.length := List.length_pos_iff.mpr hl
  constructor
  · intro hx
    obtain ⟨a, ha, rfl⟩ := hx (b.length + n * l.length)
    have e1 : a = b.length + (n + (a - b.length - n * l.length) / l.length) * l.length + (a - b.length - n * l.length) % l.length := by
      have := Nat.div_add_mod (a - b.length - n * l.length) l.length
      rw [Nat.add_mul]
      rw [Nat.mul_comm] at this
      omega
    have ht : (a - b.length - n * l.length) % l.length < l.length := Nat.mod_lt _ hL
    generalize (a - b.length - n * l.length) / l.length = m at e1
    generalize (a - b.length - n * l.length) % l.length = t at e1 ht
    have hd : 0 < j - i := by omega
    refine ⟨n + m % (j - i), t, by omega, by have := Nat.mod_lt m hd; omega, ht, ?_⟩
    rw [e1, stp_lap ht]
    have := ss_per2 (ls := ls) (rows := rows) hij h (show i ≤ n + m % (j - i) by omega) (m / (j - i))
    rw [show n + m % (j - i) + m / (j - i) * (j - i) = n + m from by
      have := Nat.div_add_mod m (j - i)
      rw [Nat.mul_comm] at this
      omega] at this
    rw [this]
  · rintro ⟨k, t, h1, h2, h3, rfl⟩ N
    refine ⟨b.length + (k + N * (j - i)) * l.length + t, ?_, ?_⟩
    · have h4 : N ≤ N * (j - i) := Nat.le_mul_of_pos_right N (by omega)
      have h5 : k + N * (j - i) ≤ (k + N * (j - i)) * l.length := Nat.le_mul_of_pos_right _ hL
      omega
    · rw [stp_lap h3, ss_per2 hij h (by omega)]
theorem ss_pigeon (M : Mc ls rows) (hb : ∀ c ∈ b, c ∈ ls) (hl : ∀ c ∈ l, c ∈ ls) : ∃ i j, i < j ∧ j ≤ rows.length ∧ ss ls rows b l i = ss ls rows b l j := by
  by_cases hc : ((List.range (rows.length + 1)).map (ss ls rows b l)).Nodup
  · have := nodup_len rows.length _ hc fun x hx => by
      obtain ⟨k, _, rfl⟩ := List.mem_map.mp hx
      exact ss_lt M hb hl k
    rw [List.length_map, List.length_range] at this
    omega
  · have : ¬ ∀ i j, i < rows.length + 1 → j < rows.length + 1 → i < j → ss ls rows b l i ≠ ss ls rows b l j := fun hall => hc (by
      show List.Pairwise (· ≠ ·) _
      rw [List.pairwise_map, List.pairwise_iff_getElem]
      intro i j hi hj hij
      rw [List.getElem_range, List.getElem_range]
      rw [List.length_range] at hi hj
      exact hall i j hi hj hij)
    refine Classical.byContradiction fun hn => this fun i j hi hj hij e => hn ⟨i, j, hij, by omega, e⟩
end
end
theorem trk_last {ls : List Nat} {rows : List (List Nat)} (p : Nat) (t : List Nat) : (trk ls rows p t).getLast? = some (fol ls rows p t) := by
  rw [List.getLast?_eq_getElem?, trk_len, Nat.add_sub_cancel, trk_get t p _ (Nat.le_refl _), List.take_length]
/-- the steps of a lap that begins at p -/
def lapL (ls : List Nat) (rows : List (List Nat)) (l : List Nat) (p : Nat) : List (Nat × Nat) := (List.range l.length).map (lapP ls rows l p)
theorem lapL_len {ls : List Nat} {rows : List (List Nat)} {l : List Nat} {p : Nat} : (lapL ls rows l p).length = l.length := by simp [lapL]
theorem mem_lapL {ls : List Nat} {rows : List (List Nat)} {l : List Nat} {p : Nat} {x : Nat × Nat} : x ∈ lapL ls rows l p ↔ ∃ t, t < l.length ∧ x = lapP ls rows l p t := by
  unfold lapL
  rw [List.mem_map]
  constructor
  · rintro ⟨t, h, rfl⟩
    exact ⟨t, List.mem_range.mp h, rfl⟩
  · rintro ⟨t, h, rfl⟩
    exact ⟨t, List.mem_range.mpr h, rfl⟩
theorem zip_lap {ls : List Nat} {rows : List (List Nat)} (l : List Nat) (p : Nat) : (trk ls rows p l).zip (l.map fun c => ls.idxOf c) = lapL ls rows l p := by
  apply List.ext_getElem?
  intro i
  unfold lapL
  by_cases h : i < l.length
  · rw [List.getElem?_map, List.getElem?_range h, (List.getElem?_zip_eq_some (z := (fol ls rows p (l.take i), ls.idxOf l[i]))).mpr ⟨trk_get l p i (Nat.le_of_lt h), by rw [List.getElem?_map, List.getElem?_eq_getElem h]; rfl⟩]
    show _ = some (lapP ls rows l p i)
    unfold lapP
    rw [List.getD_eq_getElem?_getD, List.getElem?_eq_getElem h]
    rfl
  · rw [List.getElem?_eq_none (by rw [List.length_zip, List.length_map]; omega), List.getElem?_eq_none (by rw [List.length_map, List.length_range]; omega)]
theorem idx_of_get {l : List Nat} (nd : l.Nodup) {i c : Nat} (h : l[i]? = some c) : i = l.idxOf c := by
  obtain ⟨hi, e⟩ := List.getElem?_eq_some_iff.mp h
  have hc : c ∈ l := e ▸ List.getElem_mem hi
  have h2 := List.idxOf_lt_length_iff.mpr hc
  have h3 : l[l.idxOf c] = c := List.getElem_idxOf h2
  have h4 := List.pairwise_iff_getElem.mp nd
  rcases Nat.lt_trichotomy i (l.idxOf c) with z | z | z
  · exact absurd (e.trans h3.symm) (h4 _ _ hi h2 z)
  · exact z
  · exact absurd (h3.trans e.symm) (h4 _ _ h2 hi z)
/-! ### the greatest of the ranks taken again and again -/
def rkOf (ranks : List (List Nat)) (x : Nat × Nat) : Nat := (row ranks x.1).getD x.2 0
def IsTop (ls : List Nat) (rows ranks : List (List Nat)) (w : Nat → Nat) (r : Nat) : Prop := (∃ x, InfP ls rows w x ∧ rkOf ranks x = r) ∧ ∀ x, InfP ls rows w x → rkOf ranks x ≤ r
theorem IsTop.uniq {ls : List Nat} {rows ranks : List (List Nat)} {w : Nat → Nat} {r r' : Nat} (h : IsTop ls rows ranks w r) (h' : IsTop ls rows ranks w r') : r = r' := by
  obtain ⟨⟨x, hx, rfl⟩, h1⟩ := h
  obtain ⟨⟨y, hy, rfl⟩, h2⟩ := h'
  exact Nat.le_antisymm (h2 x hx) (h1 y hy)
theorem InfP.congr {ls : List Nat} {rows : List (List Nat)} {w w' : Nat → Nat} (h : ∀ i, w i = w' i) : InfP ls rows w = InfP ls rows w' := by
  rw [funext h]
end RK
-- C
set_option Elab.async false
set_option linter.all false
set_option maxRecDepth 100000
set_option maxHeartbeats 4000000
namespace RK
open PySem PySem.Spec PyProof.Rows L2
local macro_rules
  | `(tactic| walk_at "ev") => `(tactic| try simp only [dVar, dC, dOp, dUn, kII, kIB, kI0, kSS, kAddS, kSign, flD, kEq, vS, onS, kIn, dasOf, dNil, dCons, dConsA, dTup, dLst, dAnd, dOr, dNot, dB, dAndT, dOrT, dNotT, dIf, dChain, kIx, dNoPart, dPart, dSlS, dSlL, dRev, dCB, k1, k2, lenD, kLen, kAll, kMax, kMM, kAbs, kInt, kList, kTuple, kSortI, kDivmod, onO, onDa, onInt, onBl, onStr, vL, onL, onT, vM, onM, toDa, dDGet, dDIn, dDGet2, dBM, dBM0, dBMS, onOwn, kAppend, kExtend, kPop, kPopAt, kClear, kIndex, kCount, kSIndex, lkF, dFld, dLR, dRg1, dRg2, dJoin, rvS, dgName, dgNil, dgCons, dgTup, diL, diT, diS, diR1, diR2, onLd, diZ, diE, diZSS, diZSL, diET, dNext, dSeq, dDrop, rtD, dRet, dRetN, dIfS, dNever, dSet, dAsg, dPar, dPar3, dFldS, dDPut, dFrz, dYes, startE, dCall, dCallM, isPot, dCallP, dMk, onObj, dMt, dPp, dCO, dRevA, kInv, kNeg, kLenO, kReprO, dFmtO, dFmtR, vD, kReprD, kReprB, dFmtD, kEqD, kCat, kCatT, clV, kIsi, kIsiT, kEqO, dCval, dCon, dJs, dJoined, diQ, diEQ, dLZ, kMulS, kSumL, dSS, kSortTs, dDisp1, fInt, fBool, fStr, fList, fSeq,
      List.map_cons, List.map_nil, List.cons_append, List.nil_append, List.length_cons, List.length_nil, List.replicate_succ, List.replicate_zero, List.append_nil, Nat.reduceAdd, Nat.reduceSub, Nat.zero_add, Nat.sub_self,
      List.getElem?_cons_zero, List.getElem?_cons_succ, List.getElem?_nil, List.set_cons_zero, List.set_cons_succ, Option.map_some, Option.map_none, List.reverse_cons, List.reverse_nil, Bool.not_true, Bool.not_false, Bool.false_eq_true, if_true, if_false, true_and, and_true, reduceCtorEq, wipeE, noOwn, Sl.own, List.all_cons, List.all_nil, Bool.and_true, Bool.true_and, Bool.and_self, List.length_map, List.not_mem_nil, not_false_eq_true, cx_K, cx_Kn, sn1, sn2, sn3, sn4, sn5, sgD, tx_list, tx_len, tx_app, tx_cut])
section
variable {P : Program} {w : World} {K : PySem.W.Frag} {mg : Str → Option Value} {base : Heap}
/-- pairs of E, with whatever behind -/
def Prs (E : List (Nat × Nat)) (ds : List Da) : Prop := ds.length = E.length ∧ ∀ (i : Nat) (e : Nat × Nat), E[i]? = some e → ∃ rest, ds[i]? = some (.tup (.int (e.1 : Int) :: .int (e.2 : Int) :: rest))
theorem Prs.at_ {E : List (Nat × Nat)} {ds : List Da} (h : Prs E ds) {i : Nat} {x : Da} (hx : ds[i]? = some x) : ∃ a b rest, E[i]? = some (a, b) ∧ x = .tup (.int (a : Int) :: .int (b : Int) :: rest) := by
  have hi := (List.getElem?_eq_some_iff.mp hx).1
  rw [h.1] at hi
  obtain ⟨rest, e⟩ := h.2 i E[i] (List.getElem?_eq_getElem hi)
  rw [hx] at e
  cases e
  exact ⟨_, _, rest, List.getElem?_eq_getElem hi, rfl⟩
abbrev R_goals_by_place : RR := fun ds Q => ∃ E ds', ds = [.lst ds'] ∧ Prs E ds' ∧ E.length ≤ 1000 ∧ ∀ kvs, IsG kvs E → Q (.dic kvs)
theorem ok_goals_by_place (T : Txt K mg) : Df P w K mg base "goals_by_place" 1 ["pairs"] (spD K R_goals_by_place) := by
  obtain ⟨fd, F, b⟩ := q_goals_by_place T
  refine ⟨_, fd, okD F sc_goals_by_place (by rintro ds Q ⟨E, ds', rfl, h1, h2, q⟩; rfl) (by decide) (fun cdv A outer s H hr => ⟨_, _, ⟨
      (pss_cons (ps_set (i := 1) sc_goals_by_place.nd rfl (Or.inl rfl) pe_dnewK)
      (pss_cons (ps_for PassesOwn.never rfl (pi_list (pv 0)) (pg_name (i := 2) sc_goals_by_place.nd rfl (Or.inl rfl))
      (pss_one (ps_dput hr.hu (pv 1) (pe_ix ix_seq (pv 2) pe_int (fun _ _ => rfl)) (pe_op op_catA (pe_dget2 hr.hu (pv 1) (pe_ix ix_seq (pv 2) pe_int (fun _ _ => rfl)) (pe_tup pa_nil) ⟨by rfl, by rfl, by rfl, by rfl⟩) (pe_tup (pa_cons (pe_ix ix_seq (pv 2) pe_int (fun _ _ => rfl)) pa_nil))) rfl)))
      (pss_one (ps_ret (pv 1))))),
      (rs_seq (rs_set 1 re_dnew)
      (rs_seq (rs_for (ri_list re_var) (rg_name 2)
      (rs_dput re_var (re_op ro_ix re_var (re_c fun _ => .int _)) (re_op ro_catT (re_dget2 re_var (re_op ro_ix re_var (re_c fun _ => .int _)) (re_tup ra_nil)) (re_tup (ra_consA (re_op ro_ix re_var (re_c fun _ => .int _)) ra_nil)))))
      (rs_ret re_var)))⟩, fun ds Q h => ?_⟩), T.g_goals_by_place, F.kp, b⟩
  obtain ⟨E, ds', rfl, h1, h2, q⟩ := h
  walk_at "ev"
  refine for_intro (xs := ds') (fun P h => by walk_at "ev"; exact h) (fun i e => ∃ kvs t, IsG kvs (E.take i) ∧ kvs.length ≤ i ∧ (t = .u ∨ ∃ d, t = .d d) ∧ e = [.d (.lst ds'), .m kvs, t]) ⟨[], .u, .nil, Nat.le_refl _, .inl rfl, rfl⟩ (fun i x e hx hI => ?_) fun e hI => ?_
  · obtain ⟨kvs, t, hG, hl, _, rfl⟩ := hI
    obtain ⟨a, b, rest, hE, rfl⟩ := h1.at_ hx
    have hi := (List.getElem?_eq_some_iff.mp hE).1
    have a0 : L2.atI (Da.int (a : Int) :: Da.int (b : Int) :: rest) 0 = some (.int (a : Int)) := atI_nat (j := 0) rfl
    have a1 : L2.atI (Da.int (a : Int) :: Da.int (b : Int) :: rest) 1 = some (.int (b : Int)) := atI_nat (j := 1) rfl
    walk_at "ev"
    simp only [a0, a1, hG.get]
    walk_at "ev"
    have hgl : (gm (E.take i) a).length ≤ 1000 := by
      unfold gm
      rw [List.length_map]
      have := List.length_filter_le (fun e : Nat × Nat => decide (e.1 = a)) (E.take i)
      rw [List.length_take] at this
      omega
    refine ⟨by rw [szl]; omega, by rw [szl]; omega, by rw [szl]; omega, by rw [szl]; omega, _, _, ?_, Nat.le_trans put_length (Nat.succ_le_succ hl), .inr ⟨_, rfl⟩, rfl⟩
    rw [List.take_add_one, hE]
    exact hG.put a b
  · obtain ⟨kvs, t, hG, hl, _, rfl⟩ := hI
    walk_at "ev"
    rw [h1.1, List.take_length] at hG
    exact q kvs hG
abbrev R_left_behind : RR := fun ds Q => ∃ E kvs sk L n s, ds = [.dic kvs, .int ((s : Nat) : Int), .dic sk] ∧ IsG kvs E ∧ Seen sk L ∧ DInv E L [] ∧ s ∉ L ∧ s < n ∧ n ≤ 1000 ∧ (∀ e ∈ E, e.2 < n) ∧
  ∀ fin : List Nat, DInv E (L ++ fin) [] → s ∈ fin → (∀ p ∈ fin, p < n) → Q (.lst (iD (ofN fin)))
theorem ok_left_behind (T : Txt K mg) : Df P w K mg base "left_behind" 1 ["goals", "start", "seen"] (spD K R_left_behind) := by
  obtain ⟨fd, F, b⟩ := q_left_behind T
  refine ⟨_, fd, okD F sc_left_behind (by rintro ds Q ⟨E, kvs, sk, L, n, s0, rfl, h1, h2, h3, h4, h5, h6, h7, q⟩; rfl) (by decide) (fun cdv A outer s H hr => ⟨_, _, ⟨
      (pss_cons (ps_set (i := 3) sc_left_behind.nd rfl (Or.inl rfl) (pe_lst (pa_cons (pv 1) pa_nil)))
      (pss_cons (ps_set (i := 4) sc_left_behind.nd rfl (Or.inl rfl) (pe_disp (pps_cons (pv 1) pe_int pps_nil) (by rfl) (by rfl) (fun z => by cases z) (by decide)))
      (pss_cons (ps_set (i := 5) sc_left_behind.nd rfl (Or.inl rfl) (pe_lst pa_nil))
      (pss_cons (ps_while PassesOwn.never (pt_cmpR (op_neD hr.units) (pv 3) (pe_lst pa_nil) (nomark _))
      (pss_cons (ps_set (i := 6) sc_left_behind.nd rfl (Or.inl rfl) (pe_dget2 hr.hu (pv 0) (pe_ix ix_seq (pv 3) (pe_un un_neg pe_int) (fun _ _ => rfl)) (pe_tup pa_nil) ⟨by rfl, by rfl, by rfl, by rfl⟩))
      (pss_cons (ps_set (i := 7) sc_left_behind.nd rfl (Or.inl rfl) (pe_dget hr.hu (pv 4) (pe_ix ix_seq (pv 3) (pe_un un_neg pe_int) (fun _ _ => rfl)) (fun _ _ => rfl)))
      (pss_one (ps_if (pt_cmpR op_eq (pv 7) (pe_callB call_len (by rfl) T.z_len boot_len (pa_cons (pv 6) pa_nil)) (nomark _)) (pss_cons (ps_expr (pe_bm PySem.F.plainAttrs_list PySem.F.slot_list_append PySem.F.type_list_append mt_append (pv 5) (pa_cons (pe_ix ix_seq (pv 3) (pe_un un_neg pe_int) (fun _ _ => rfl)) pa_nil)))
      (pss_one (ps_expr (pe_bm0 PySem.F.plainAttrs_list PySem.F.slot_list_pop PySem.F.type_list_pop mt_pop (pv 3))))) (pss_cons (ps_dput hr.hu (pv 4) (pe_ix ix_seq (pv 3) (pe_un un_neg pe_int) (fun _ _ => rfl)) (pe_op op_add (pv 7) pe_int) rfl)
      (pss_one (ps_if (PW.pt (pw_and (pt_cmp (pc_dnotin hr.hu (pe_ix ix_seq (pv 6) (pv 7) (fun _ _ => rfl)) (pv 2))) (pw_and1 (pt_cmp (pc_dnotin hr.hu (pe_ix ix_seq (pv 6) (pv 7) (fun _ _ => rfl)) (pv 4)))))) (pss_cons (ps_dput hr.hu (pv 4) (pe_ix ix_seq (pv 6) (pv 7) (fun _ _ => rfl)) pe_int rfl)
      (pss_one (ps_expr (pe_bm PySem.F.plainAttrs_list PySem.F.slot_list_append PySem.F.type_list_append mt_append (pv 3) (pa_cons (pe_ix ix_seq (pv 6) (pv 7) (fun _ _ => rfl)) pa_nil))))) pss_nil))))))))
      (pss_one (ps_ret (pv 5))))))),
      (rs_seq (rs_set 3 (re_lst (ra_consA re_var ra_nil)))
      (rs_seq (rs_set 4 (re_disp1 re_var (re_c fun _ => .int _)))
      (rs_seq (rs_set 5 (re_lst ra_nil))
      (rs_seq (rs_while (rt_test (re_op ro_neD re_var (re_lst ra_nil)))
      (rs_seq (rs_set 6 (re_dget2 re_var (re_op ro_ix re_var (re_un ru_neg (re_c fun _ => .int _))) (re_tup ra_nil)))
      (rs_seq (rs_set 7 (re_dget re_var (re_op ro_ix re_var (re_un ru_neg (re_c fun _ => .int _)))))
      (rs_if (rt_test (re_op ro_eq re_var (re_CB rc_len (ra_cons re_var ra_nil)))) (rs_seq (rs_drop (re_bm rm_append re_var (ra_consA (re_op ro_ix re_var (re_un ru_neg (re_c fun _ => .int _))) ra_nil)))
      (rs_drop (re_bm0 rm_pop re_var))) (rs_seq (rs_dput re_var (re_op ro_ix re_var (re_un ru_neg (re_c fun _ => .int _))) (re_op ro_I0 re_var (re_c fun _ => .int _)))
      (rs_if (rt_and (rt_B (re_dnotin (re_op ro_ix re_var re_var) re_var)) (rt_B (re_dnotin (re_op ro_ix re_var re_var) re_var))) (rs_seq (rs_dput re_var (re_op ro_ix re_var re_var) (re_c fun _ => .int _))
      (rs_drop (re_bm rm_append re_var (ra_consA (re_op ro_ix re_var re_var) ra_nil)))) rs_next))))))
      (rs_ret re_var)))))⟩, fun ds Q h => ?_⟩), T.g_left_behind, F.kp, b⟩
  obtain ⟨E, kvs, sk, L, n, s0, rfl, h1, h2, h3, h4, h5, h6, h7, q⟩ := h
  walk_at "ev"
  refine ⟨by rw [szl]; omega, by rw [szl]; omega, ?_⟩
  refine while_intro (fun m e => ∃ (path fin : List Nat) (cf : Nat → Nat) (ck : List (Int × Da)) (t1 t2 : Sl), LB E n L path fin cf ck ∧ (s0 ∈ path ∨ s0 ∈ fin) ∧ m = todo n E (L ++ fin) cf ∧ (t1 = .u ∨ ∃ d, t1 = .d d) ∧ (t2 = .u ∨ ∃ d, t2 = .d d) ∧
    e = [.d (.dic kvs), .d (.int (s0 : Int)), .d (.dic sk), .l (iD (ofN path)), .m ck, .l (iD (ofN fin)), t1, t2]) _ ⟨[s0], [], fun _ => 0, _, .u, .u, .start h3 h4 h5, .inl (List.mem_singleton.mpr rfl), rfl, .inl rfl, .inl rfl, rfl⟩ (fun m e hI => ?_)
  obtain ⟨path, fin, cf, ck, t1, t2, J, hs, hm, _, _, rfl⟩ := hI
  have hlen := J.len
  walk_at "ev"
  refine ⟨by rw [szl]; omega, plain_ints _, rfl, shaped_iD _, shaped_iD [], ?_⟩
  rw [show (Da.lst []) = Da.lst (iD []) from rfl, eqv_iD]
  rcases List.eq_nil_or_concat path with hp | ⟨path', t, hp⟩
  · subst hp
    rw [if_neg (by simp)]
    refine q fin J.D (hs.elim (fun z => by cases z) id) fun p hp => J.pb p (.inr hp)
  · rw [List.concat_eq_append] at hp
    subst hp
    have htp : t ∈ path' ++ [t] := List.mem_append_right _ (List.mem_singleton.mpr rfl)
    rw [if_pos (by simp [ofN])]
    walk_at "ev"
    rw [atI_lastN]
    walk_at "ev"
    simp only [h1.get, J.kk t, if_pos (show t ∈ path' ++ [t] ∨ t ∈ fin from .inl htp)]
    walk_at "ev"
    refine ⟨by rw [szl]; omega, rfl, ?_⟩
    simp only [List.length_append, List.length_singleton] at hlen
    have hsz := J.sz
    simp only [List.length_append, List.length_singleton] at hsz
    have hcl := J.cl t htp
    by_cases hc : cf t = (gm E t).length
    · rw [if_pos (decide_eq_true (by rw [hc])), iD_top, iD_drop, iD_snoc]
      obtain ⟨J2, hlt⟩ := J.pop hc
      refine ⟨by rw [szl]; omega, _, by rw [hm]; exact hlt, path', fin ++ [t], cf, ck, _, _, J2, ?_, rfl, .inr ⟨_, rfl⟩, .inr ⟨_, rfl⟩, rfl⟩
      rcases hs with z | z
      · rcases List.mem_append.mp z with y | y
        · exact .inl y
        · exact .inr (List.mem_append_right _ y)
      · exact .inr (List.mem_append_left _ z)
    · rw [if_neg (fun z => hc (by
        have z := of_decide_eq_true z
        injection z with z
        omega))]
      have hg : (gm E t)[cf t]? = some ((gm E t)[cf t]'(by omega)) := List.getElem?_eq_getElem (by omega)
      generalize (gm E t)[cf t]'(by omega) = g at hg
      rw [atI_iD hg]
      simp only [h2 g]
      refine ⟨by rw [szl]; omega, ?_⟩
      have gL : g ∈ L → _ := fun hgL => J.skip hg (.inl hgL)
      by_cases hgL : g ∈ L
      · rw [if_neg (by simp [hgL])]
        obtain ⟨J2, hlt⟩ := J.skip hg (.inl hgL)
        exact ⟨_, by rw [hm]; exact hlt, _, _, _, _, _, _, J2, hs, rfl, .inr ⟨_, rfl⟩, .inr ⟨_, rfl⟩, rfl⟩
      · rw [if_pos (by simp [hgL])]
        have hk : (lk (putD ck (t : Int) (.int ((cf t : Nat) + 1))) (g : Int)).isSome = decide (g ∈ path' ++ [t] ∨ g ∈ fin) := by
          rw [lk_put]
          by_cases e : g = t
          · subst e
            rw [if_pos rfl, decide_eq_true (.inl htp)]
            rfl
          · rw [if_neg (show ¬ ((g : Int) = (t : Int)) from fun z => e (by omega)), J.kk g]
            by_cases e2 : g ∈ path' ++ [t] ∨ g ∈ fin
            · rw [if_pos e2, decide_eq_true e2]
              rfl
            · rw [if_neg e2, decide_eq_false e2]
              rfl
        rw [hk]
        by_cases e2 : g ∈ path' ++ [t] ∨ g ∈ fin
        · rw [if_neg (by simp only [decide_eq_true e2]; decide)]
          obtain ⟨J2, hlt⟩ := J.skip hg (.inr e2)
          exact ⟨_, by rw [hm]; exact hlt, _, _, _, _, _, _, J2, hs, rfl, .inr ⟨_, rfl⟩, .inr ⟨_, rfl⟩, rfl⟩
        · rw [if_pos (by simp only [decide_eq_false e2]; decide)]
          obtain ⟨J2, hlt⟩ := J.push h7 hg hgL (fun z => e2 (.inl z)) (fun z => e2 (.inr z))
          have h8 := put_length (kvs := ck) (k := (t : Int)) (d := .int ((cf t : Nat) + 1))
          refine ⟨by rw [szl]; omega, by simp only [List.length_append, List.length_singleton]; rw [szl]; omega, _, by rw [hm]; exact hlt, _, _, _, _, _, _, J2, ?_, rfl, .inr ⟨_, rfl⟩, .inr ⟨_, rfl⟩, by rw [iD_snoc]⟩
          rcases hs with z | z
          · exact .inl (List.mem_append_left _ z)
          · exact .inr z
abbrev R_left_in_order : RR := fun ds Q => ∃ E kvs n, ds = [.int ((n : Nat) : Int), .dic kvs] ∧ IsG kvs E ∧ n ≤ 1000 ∧ (∀ e ∈ E, e.2 < n) ∧
  ∀ L : List Nat, L.Nodup → (∀ p, p ∈ L ↔ p < n) → (∀ u ∈ L, KOk E L u) → Q (.lst (iD (ofN L)))
theorem ok_left_in_order (T : Txt K mg) : Df P w K mg base "left_in_order" 2 ["many", "goals"] (spD K R_left_in_order) := by
  obtain ⟨fd, F, b⟩ := q_left_in_order T
  refine ⟨_, fd, okD F sc_left_in_order (by rintro ds Q ⟨E, kvs, n, rfl, h1, h2, h3, q⟩; rfl) (by decide) (fun cdv A outer s H hr => ⟨_, _, ⟨
      (pss_cons (ps_set (i := 2) sc_left_in_order.nd rfl (Or.inl rfl) pe_dnewK)
      (pss_cons (ps_set (i := 3) sc_left_in_order.nd rfl (Or.inl rfl) (pe_lst pa_nil))
      (pss_cons (ps_for PassesOwn.never rfl (pi_range1 (by rfl) T.z_range (pa_cons (pv 0) pa_nil)) (pg_name (i := 4) sc_left_in_order.nd rfl (Or.inl rfl))
      (pss_one (ps_if (pt_cmp (pc_dnotin hr.hu (pv 4) (pv 2))) (pss_one (ps_for PassesOwn.never rfl (pi_list (pe_callD (ok_left_behind T) hr (pa_cons (pv 1) (pa_cons (pv 4) (pa_cons (pv 2) pa_nil))))) (pg_name (i := 5) sc_left_in_order.nd rfl (Or.inl rfl))
      (pss_cons (ps_dput hr.hu (pv 2) (pv 5) pe_bl rfl)
      (pss_one (ps_expr (pe_bm PySem.F.plainAttrs_list PySem.F.slot_list_append PySem.F.type_list_append mt_append (pv 3) (pa_cons (pv 5) pa_nil))))))) pss_nil)))
      (pss_one (ps_ret (pv 3)))))),
      (rs_seq (rs_set 2 re_dnew)
      (rs_seq (rs_set 3 (re_lst ra_nil))
      (rs_seq (rs_for (ri_rng1 re_var) (rg_name 4)
      (rs_if (rt_B (re_dnotin re_var re_var)) (rs_for (ri_list (re_callM re_var re_var)) (rg_name 5)
      (rs_seq (rs_dput re_var re_var (re_c fun _ => .bl _))
      (rs_drop (re_bm rm_append re_var (ra_consA re_var ra_nil))))) rs_next))
      (rs_ret re_var))))⟩, fun ds Q h => ?_⟩), T.g_left_in_order, F.kp, b⟩
  obtain ⟨E, kvs, n, rfl, h1, h2, h3, q⟩ := h
  walk_at "ev"
  refine ⟨by rw [szl]; omega, ?_⟩
  refine for_intro (xs := rgD 0 n) (fun P h => by walk_at "ev"; exact ⟨by omega, by omega, by rw [Int.toNat_natCast]; exact h⟩)
    (fun i e => ∃ (L : List Nat) (sk : List (Int × Da)) (t1 t2 : Sl), DInv E L [] ∧ Seen sk L ∧ sk.length ≤ L.length ∧ (∀ p ∈ L, p < n) ∧ (∀ p, p < i → p ∈ L) ∧ (t1 = .u ∨ ∃ d, t1 = .d d) ∧ (t2 = .u ∨ ∃ d, t2 = .d d) ∧
      e = [.d (.int (n : Int)), .d (.dic kvs), .m sk, .l (iD (ofN L)), t1, t2]) ⟨[], [], .u, .u, .nil E, .nil, Nat.le_refl _, by simp, fun p hp => absurd hp (Nat.not_lt_zero _), .inl rfl, .inl rfl, rfl⟩ (fun i x e hx hI => ?_) fun e hI => ?_
  · obtain ⟨L, sk, t1, t2, D, S, hl, hb, ha, _, ht2, rfl⟩ := hI
    obtain ⟨hi, rfl⟩ := rgD_get hx
    have e0 : (0 : Int) + (i : Nat) = ((i : Nat) : Int) := by omega
    rw [e0]
    walk_at "ev"
    rw [S i]
    by_cases hm : i ∈ L
    · rw [decide_eq_true hm]
      walk_at "ev"
      exact ⟨L, sk, _, _, D, S, hl, hb, fun p hp => by
        by_cases e : p = i
        · rw [e]; exact hm
        · exact ha p (by omega), .inr ⟨_, rfl⟩, ht2, rfl⟩
    · rw [decide_eq_false hm]
      walk_at "ev"
      unfold dFor
      walk_at "ev"
      refine ⟨E, kvs, sk, L, n, i, rfl, h1, S, D, hm, hi, h2, h3, fun fin D2 hf hfb => ⟨ofN fin, rfl, ?_⟩⟩
      have nd2 : (L ++ fin).Nodup := by
        have := D2.nd
        rwa [List.append_nil] at this
      refine ⟨fun j e => ∃ (sk : List (Int × Da)) (t2 : Sl), Seen sk (L ++ fin.take j) ∧ sk.length ≤ (L ++ fin.take j).length ∧ (t2 = .u ∨ ∃ d, t2 = .d d) ∧ e = [.d (.int (n : Int)), .d (.dic kvs), .m sk, .l (iD (ofN (L ++ fin.take j))), .d (.int (i : Int)), t2], ⟨sk, t2, by simpa using S, by simpa using hl, ht2, by simp⟩, fun j x e hx hJ => ?_, fun e hJ => ?_⟩
      · obtain ⟨sk, t2, S3, hl3, _, rfl⟩ := hJ
        obtain ⟨g, hg, rfl⟩ := iD_mem hx
        have ht : L ++ fin.take (j + 1) = L ++ fin.take j ++ [g] := by
          rw [List.take_add_one, hg, List.append_assoc]
          rfl
        have h8 := put_length (kvs := sk) (k := (g : Int)) (d := .bl true)
        have hlen : (L ++ fin.take j).length ≤ n := nodup_len _ _ (nd2.sublist (List.Sublist.append_left (List.take_sublist _ _) _)) fun p hp => by
          rcases List.mem_append.mp hp with z | z
          · exact hb p z
          · exact hfb p (List.mem_of_mem_take z)
        walk_at "ev"
        refine ⟨by rw [szl]; omega, by rw [szl]; (try simp only [List.length_map]); omega, _, _, by rw [ht]; exact S3.put g (.bl true), by rw [ht, List.length_append]; exact Nat.le_trans h8 (Nat.succ_le_succ hl3), .inr ⟨.int (g : Int), rfl⟩, by rw [iD_snoc, ht]⟩
      · obtain ⟨sk, t2, S3, hl3, ht3, rfl⟩ := hJ
        rw [List.length_map, List.length_map, List.take_length] at S3 hl3
        rw [List.length_map, List.length_map, List.take_length]
        refine ⟨L ++ fin, sk, _, _, D2, S3, hl3, fun p hp => ?_, fun p hp => ?_, .inr ⟨_, rfl⟩, ht3, rfl⟩
        · rcases List.mem_append.mp hp with z | z
          · exact hb p z
          · exact hfb p z
        · by_cases e : p = i
          · rw [e]; exact List.mem_append_right _ hf
          · exact List.mem_append_left _ (ha p (by omega))
  · obtain ⟨L, sk, t1, t2, D, S, hl, hb, ha, _, _, rfl⟩ := hI
    walk_at "ev"
    have hn : (rgD 0 n).length = n := by simp [rgD]
    rw [hn] at ha
    have nd := D.nd
    rw [List.append_nil] at nd
    exact q L nd (fun p => ⟨hb p, ha p⟩) D.done
abbrev R_met_from_rings : RR := fun ds Q => ∃ E kvs sk k n s, ds = [.dic kvs, .int ((s : Nat) : Int), .dic sk] ∧ IsG kvs (E.map fun e => (e.2, e.1)) ∧ Seen sk k ∧ s ∉ k ∧ s < n ∧ n ≤ 1000 ∧ (∀ e ∈ E, e.1 < n) ∧
  ∀ g : List Nat, g.Nodup → (∀ p, p ∈ g ↔ Off E k s p) → (∀ p ∈ g, p < n) → Q (.lst (iD (ofN g)))
theorem ok_met_from_rings (T : Txt K mg) : Df P w K mg base "met_from_rings" 1 ["rows", "start", "known"] (spD K R_met_from_rings) := by
  obtain ⟨fd, F, b⟩ := q_met_from_rings T
  refine ⟨_, fd, okD F sc_met_from_rings (by rintro ds Q ⟨E, kvs, sk, k, n, s0, rfl, h1, h2, h3, h4, h5, h6, q⟩; rfl) (by decide) (fun cdv A outer s H hr => ⟨_, _, ⟨
      (pss_cons (ps_set (i := 3) sc_met_from_rings.nd rfl (Or.inl rfl) (pe_disp (pps_cons (pv 1) pe_bl pps_nil) (by rfl) (by rfl) (fun z => by cases z) (by decide)))
      (pss_cons (ps_set (i := 4) sc_met_from_rings.nd rfl (Or.inl rfl) (pe_lst (pa_cons (pv 1) pa_nil)))
      (pss_cons (ps_set (i := 5) sc_met_from_rings.nd rfl (Or.inl rfl) pe_int)
      (pss_cons (ps_while PassesOwn.never (pt_cmpR op_lt (pv 5) (pe_callB call_len (by rfl) T.z_len boot_len (pa_cons (pv 4) pa_nil)) (nomark _))
      (pss_cons (ps_for PassesOwn.never rfl (pi_tup (pe_dget2 hr.hu (pv 0) (pe_ix ix_seq (pv 4) (pv 5) (fun _ _ => rfl)) (pe_tup pa_nil) ⟨by rfl, by rfl, by rfl, by rfl⟩)) (pg_name (i := 6) sc_met_from_rings.nd rfl (Or.inl rfl))
      (pss_one (ps_if (PW.pt (pw_and (pt_cmp (pc_dnotin hr.hu (pv 6) (pv 2))) (pw_and1 (pt_cmp (pc_dnotin hr.hu (pv 6) (pv 3)))))) (pss_cons (ps_dput hr.hu (pv 3) (pv 6) pe_bl rfl)
      (pss_one (ps_expr (pe_bm PySem.F.plainAttrs_list PySem.F.slot_list_append PySem.F.type_list_append mt_append (pv 4) (pa_cons (pv 6) pa_nil))))) pss_nil)))
      (pss_one (ps_set (i := 5) sc_met_from_rings.nd rfl (Or.inl rfl) (pe_op op_add (pv 5) pe_int)))))
      (pss_one (ps_ret (pv 4))))))),
      (rs_seq (rs_set 3 (re_disp1 re_var (re_c fun _ => .bl _)))
      (rs_seq (rs_set 4 (re_lst (ra_consA re_var ra_nil)))
      (rs_seq (rs_set 5 (re_c fun _ => .int _))
      (rs_seq (rs_while (rt_test (re_op ro_B0 re_var (re_CB rc_len (ra_cons re_var ra_nil))))
      (rs_seq (rs_for (ri_tup (re_dget2 re_var (re_op ro_ix re_var re_var) (re_tup ra_nil))) (rg_name 6)
      (rs_if (rt_and (rt_B (re_dnotin re_var re_var)) (rt_B (re_dnotin re_var re_var))) (rs_seq (rs_dput re_var re_var (re_c fun _ => .bl _))
      (rs_drop (re_bm rm_append re_var (ra_consA re_var ra_nil)))) rs_next))
      (rs_set 5 (re_op ro_I0 re_var (re_c fun _ => .int _)))))
      (rs_ret re_var)))))⟩, fun ds Q h => ?_⟩), T.g_met_from_rings, F.kp, b⟩
  obtain ⟨E, kvs, sk, k, n, s0, rfl, h1, h2, h3, h4, h5, h6, q⟩ := h
  walk_at "ev"
  refine ⟨by rw [szl]; omega, ?_⟩
  refine while_intro (fun m e => ∃ (found : List Nat) (at_ : Nat) (hk : List (Int × Da)) (t : Sl), m + at_ = n ∧ at_ ≤ found.length ∧ OffInv E n k s0 found at_ ∧ Seen hk found ∧ hk.length ≤ found.length ∧ (t = .u ∨ ∃ d, t = .d d) ∧
    e = [.d (.dic kvs), .d (.int (s0 : Int)), .d (.dic sk), .m hk, .l (iD (ofN found)), .d (.int (at_ : Nat)), t]) n
    ⟨[s0], 0, [((s0 : Int), .bl true)], .u, rfl, Nat.zero_le _, .start h4, by exact Seen.put .nil s0 _, Nat.le_refl _, .inl rfl, rfl⟩ (fun m e hI => ?_)
  obtain ⟨found, at_, hk, t, hm, hle, J, S, hl, ht, rfl⟩ := hI
  have hfl := J.len
  walk_at "ev"
  by_cases hlt : at_ < found.length
  · rw [if_pos (decide_eq_true (by simpa using hlt))]
    have hx : found[at_]? = some found[at_] := List.getElem?_eq_getElem hlt
    refine for_intro (xs := iD (ofN (gm (rvE E) found[at_]))) (e0 := [.d (.dic kvs), .d (.int (s0 : Int)), .d (.dic sk), .m hk, .l (iD (ofN found)), .d (.int (at_ : Nat)), t]) (fun P h => ?_)
      (fun i e => ∃ (f2 : List Nat) (hk : List (Int × Da)) (t : Sl), found <+: f2 ∧ OffInv E n k s0 f2 at_ ∧ Seen hk f2 ∧ hk.length ≤ f2.length ∧ (∀ j g, j < i → (gm (rvE E) found[at_])[j]? = some g → g ∈ k ∨ g ∈ f2) ∧ (t = .u ∨ ∃ d, t = .d d) ∧
        e = [.d (.dic kvs), .d (.int (s0 : Int)), .d (.dic sk), .m hk, .l (iD (ofN f2)), .d (.int (at_ : Nat)), t])
      ⟨found, hk, t, List.prefix_rfl, J, S, hl, fun j g hj => absurd hj (Nat.not_lt_zero _), ht, rfl⟩ (fun i x e hx2 hI => ?_) fun e hI => ?_
    · walk_at "ev"
      rw [atI_iD hx]
      walk_at "ev"
      rw [h1.get]
      exact ⟨by rw [szl]; omega, h⟩
    · obtain ⟨f2, hk, t, hp, J2, S2, hl2, hc, _, rfl⟩ := hI
      obtain ⟨g, hg, rfl⟩ := iD_mem hx2
      have hle2 := hp.length_le
      have hxm : found[at_] ∈ f2 := hp.subset (List.getElem_mem hlt)
      have hf2 := J2.len
      have old : g ∈ k ∨ g ∈ f2 → ∃ (f2' : List Nat) (hk' : List (Int × Da)) (t' : Sl), found <+: f2' ∧ OffInv E n k s0 f2' at_ ∧ Seen hk' f2' ∧ hk'.length ≤ f2'.length ∧ (∀ j g, j < i + 1 → (gm (rvE E) found[at_])[j]? = some g → g ∈ k ∨ g ∈ f2') ∧ (t' = .u ∨ ∃ d, t' = .d d) ∧
          [Sl.d (.dic kvs), .d (.int (s0 : Int)), .d (.dic sk), .m hk, .l (iD (ofN f2)), .d (.int (at_ : Nat)), .d (.int (g : Int))] = [.d (.dic kvs), .d (.int (s0 : Int)), .d (.dic sk), .m hk', .l (iD (ofN f2')), .d (.int (at_ : Nat)), t'] := fun hgo =>
        ⟨f2, hk, _, hp, J2, S2, hl2, fun j g' hj hg' => by
          by_cases e : j = i
          · subst e
            rw [hg] at hg'
            cases hg'
            exact hgo
          · exact hc j g' (by omega) hg', .inr ⟨_, rfl⟩, rfl⟩
      walk_at "ev"
      rw [h2 g]
      by_cases hgk : g ∈ k
      · rw [if_neg (by simp [hgk])]
        exact old (.inl hgk)
      · rw [if_pos (by simp [hgk]), S2 g]
        by_cases hgm : g ∈ f2
        · rw [if_neg (by simp [hgm])]
          exact old (.inr hgm)
        · rw [if_pos (by simp [hgm])]
          have h8 := put_length (kvs := hk) (k := (g : Int)) (d := .bl true)
          refine ⟨by rw [szl]; omega, by rw [szl]; (try simp only [List.length_map]); omega, f2 ++ [g], _, _, hp.trans (List.prefix_append _ _), J2.add h6 (by omega) hxm (gm_rv.mp (List.mem_of_getElem? hg)) hgk hgm, S2.put g (.bl true), by rw [List.length_append]; exact Nat.le_trans h8 (Nat.succ_le_succ hl2), fun j g' hj hg' => ?_, .inr ⟨.int (g : Int), rfl⟩, by rw [iD_snoc]⟩
          by_cases e : j = i
          · subst e
            rw [hg] at hg'
            cases hg'
            exact .inr (List.mem_append_right _ (List.mem_singleton.mpr rfl))
          · rcases hc j g' (by omega) hg' with z | z
            · exact .inl z
            · exact .inr (List.mem_append_left _ z)
    · obtain ⟨f2, hk, t, hp, J2, S2, hl2, hc, ht2, rfl⟩ := hI
      have hx2 : f2[at_]? = some found[at_] := by
        obtain ⟨r, rfl⟩ := hp
        rw [List.getElem?_append_left hlt]
        exact hx
      have := hp.length_le
      have := J2.len
      walk_at "ev"
      refine ⟨n - (at_ + 1), by omega, f2, at_ + 1, hk, t, by omega, by omega, J2.next hx2 (fun g hg => ?_), S2, hl2, ht2, rfl⟩
      obtain ⟨j, hj⟩ := List.getElem?_of_mem (gm_rv.mpr hg)
      refine hc j g ?_ hj
      rw [List.length_map, List.length_map]
      exact (List.getElem?_eq_some_iff.mp hj).1
  · rw [if_neg (by simp; omega)]
    walk_at "ev"
    exact q found J.nd (fun p => J.done (by omega) p) J.bd
theorem perm_pull {α β : Type} {f : α → β} (g : β → α) (hg : ∀ x, g (f x) = x) {l : List α} {l' : List β} (h : l'.Perm (l.map f)) : ∃ l2 : List α, l' = l2.map f ∧ l2.Perm l := by
  refine ⟨l'.map g, ?_, ?_⟩
  · rw [List.map_map]
    have : ∀ y ∈ l', (f ∘ g) y = y := fun y hy => by
      obtain ⟨x, _, rfl⟩ := List.mem_map.mp (h.mem_iff.mp hy)
      show f (g (f x)) = f x
      rw [hg]
    rw [List.map_congr_left this, List.map_id']
  · have h2 := h.map g
    rw [List.map_map] at h2
    have : ∀ x ∈ l, (g ∘ f) x = x := fun x _ => hg x
    rw [List.map_congr_left this, List.map_id'] at h2
    exact h2
theorem perm_ofN {l : List Nat} {l' : List Int} (h : l'.Perm (ofN l)) : ∃ l2, l' = ofN l2 ∧ l2.Perm l := perm_pull Int.toNat (fun n => rfl) h
theorem perm_oN {l : List (List Nat)} {l' : List (List Int)} (h : l'.Perm (oN l)) : ∃ l2, l' = oN l2 ∧ l2.Perm l := perm_pull (fun y => y.map Int.toNat) (fun n => by
  rw [List.map_map]
  exact (List.map_congr_left fun x _ => rfl).trans (List.map_id' n)) h
theorem tD_snoc (gs : List (List Nat)) (g : List Nat) : tD (oN gs) ++ [.tup (iD (ofN g))] = tD (oN (gs ++ [g])) := by simp [tD, oN]
def swD : Da → Da
  | .tup (.int a :: .int b :: _) => .tup [.int b, .int a]
  | x => x
theorem Prs.rv {E : List (Nat × Nat)} {ds : List Da} (h : Prs E ds) : Prs (rvE E) (ds.map swD) := by
  refine ⟨by rw [List.length_map, List.length_map, h.1], fun i e he => ?_⟩
  rw [List.getElem?_map, Option.map_eq_some_iff] at he
  obtain ⟨e0, h0, rfl⟩ := he
  obtain ⟨rest, hr⟩ := h.2 i e0 h0
  exact ⟨[], by rw [List.getElem?_map, hr]; rfl⟩
abbrev R_joined_parts : RR := fun ds Q => ∃ E ds' n, ds = [.int ((n : Nat) : Int), .lst ds'] ∧ Prs E ds' ∧ E.length ≤ 1000 ∧ n ≤ 1000 ∧ (∀ e ∈ E, e.1 < n ∧ e.2 < n) ∧
  ∀ gs : List (List Nat), GoodParts E gs → Q (.lst (tD (oN gs)))
theorem ok_joined_parts (T : Txt K mg) : Df P w K mg base "joined_parts" 3 ["many", "links"] (spD K R_joined_parts) := by
  obtain ⟨fd, F, b⟩ := q_joined_parts T
  refine ⟨_, fd, okD F sc_joined_parts (by rintro ds Q ⟨E, ds', n, rfl, h1, h2, h3, h4, q⟩; rfl) (by decide) (fun cdv A outer s H hr => ⟨_, _, ⟨
      (pss_cons (ps_set (i := 2) sc_joined_parts.nd rfl (Or.inl rfl) (pe_callD (ok_left_in_order T) hr (pa_cons (pv 0) (pa_cons (pe_callD (ok_goals_by_place T) hr (pa_cons (pv 1) pa_nil)) pa_nil))))
      (pss_cons (ps_set (i := 3) sc_joined_parts.nd rfl (Or.inl rfl) (pe_callD (ok_goals_by_place T) hr (pa_cons (pe_lc (own := [("link", 10)]) (g := gName 10) (tt := tYes) rfl sc_joined_parts.nd (pi_list (pv 1)) (blkOk_by (by kernel_rfl)) (fun _ _ _ _ _ => (pg_name (i := 10) sc_joined_parts.nd rfl (Or.inl rfl))) (fun _ _ _ _ _ => pts_nil) (fun _ _ _ _ _ => (pe_tup (pa_cons (pe_ix ix_seq (pv 10) pe_int (fun _ _ => rfl)) (pa_cons (pe_ix ix_seq (pv 10) pe_int (fun _ _ => rfl)) pa_nil))))) pa_nil)))
      (pss_cons (ps_setDc (i := 4) (own := [("link", 10)]) (g := gName 10) rfl sc_joined_parts.nd rfl rfl (sw_trueD rfl rfl rfl (by decide +kernel)) (pi_list (pv 1)) (blkOk_by (by kernel_rfl)) (fun _ _ _ _ _ => (pg_name (i := 10) sc_joined_parts.nd rfl (Or.inl rfl))) (fun _ _ _ _ _ => pts_one (pt_cmpR op_eq (pe_ix ix_seq (pv 10) pe_int (fun _ _ => rfl)) (pe_ix ix_seq (pv 10) pe_int (fun _ _ => rfl)) (nomark _))) (fun _ _ _ _ _ => (pe_ix ix_seq (pv 10) pe_int (fun _ _ => rfl))) (fun _ _ _ _ _ => pe_bl))
      (pss_cons (ps_set (i := 5) sc_joined_parts.nd rfl (Or.inl rfl) pe_dnewK)
      (pss_cons (ps_set (i := 6) sc_joined_parts.nd rfl (Or.inl rfl) (pe_lst pa_nil))
      (pss_cons (ps_for PassesOwn.never rfl (pi_list (pe_revL (pv 2))) (pg_name (i := 7) sc_joined_parts.nd rfl (Or.inl rfl))
      (pss_one (ps_if (pt_cmp (pc_dnotin hr.hu (pv 7) (pv 5))) (pss_cons (ps_set (i := 8) sc_joined_parts.nd rfl (Or.inl rfl) (pe_callD (ok_met_from_rings T) hr (pa_cons (pv 3) (pa_cons (pv 7) (pa_cons (pv 5) pa_nil)))))
      (pss_cons (ps_for PassesOwn.never rfl (pi_list (pv 8)) (pg_name (i := 9) sc_joined_parts.nd rfl (Or.inl rfl))
      (pss_one (ps_dput hr.hu (pv 5) (pv 9) pe_bl rfl)))
      (pss_one (ps_if (PW.pt (pw_or (pt_cmpR op_gt (pe_callB call_len (by rfl) T.z_len boot_len (pa_cons (pv 8) pa_nil)) pe_int (nomark _)) (pw_or1 (pt_cmp (pc_din hr.hu (pv 7) (pv 4)))))) (pss_one (ps_expr (pe_bm PySem.F.plainAttrs_list PySem.F.slot_list_append PySem.F.type_list_append mt_append (pv 6) (pa_cons (pe_callTy call_tuple_of (by rfl) T.z_tuple boot_tuple (pa_cons (pe_callB cr_sortedI (by rfl) T.z_sorted boot_sorted (pa_cons (pv 8) pa_nil)) pa_nil)) pa_nil)))) pss_nil)))) pss_nil)))
      (pss_one (ps_ret (pe_callB call_sortedTs (by rfl) T.z_sorted boot_sorted (pa_cons (pv 6) pa_nil)))))))))),
      (rs_seq (rs_set 2 (re_call (ra_consA re_var (ra_consA (re_call (ra_consA re_var ra_nil)) ra_nil))))
      (rs_seq (rs_set 3 (re_call (ra_consA (re_lc (ri_list re_var) (rg_name 10) rt_yes (re_tup (ra_consA (re_op ro_ix re_var (re_c fun _ => .int _)) (ra_consA (re_op ro_ix re_var (re_c fun _ => .int _)) ra_nil))) (by decide)) ra_nil)))
      (rs_seq (rs_set 4 (re_dc (ri_list re_var) (rg_name 10) (rt_test (re_op ro_eq (re_op ro_ix re_var (re_c fun _ => .int _)) (re_op ro_ix re_var (re_c fun _ => .int _)))) (re_op ro_ix re_var (re_c fun _ => .int _)) (re_c fun _ => .bl _) (by decide)))
      (rs_seq (rs_set 5 re_dnew)
      (rs_seq (rs_set 6 (re_lst ra_nil))
      (rs_seq (rs_for (ri_list (re_revL re_var)) (rg_name 7)
      (rs_if (rt_B (re_dnotin re_var re_var)) (rs_seq (rs_set 8 (re_callM re_var re_var))
      (rs_seq (rs_for (ri_list re_var) (rg_name 9)
      (rs_dput re_var re_var (re_c fun _ => .bl _)))
      (rs_if (rt_or (rt_test (re_op ro_B0 (re_CB rc_len (ra_cons re_var ra_nil)) (re_c fun _ => .int _))) (rt_B (re_din re_var re_var))) (rs_drop (re_bm rm_append re_var (ra_consA (re_CB rc_tuple (ra_cons (re_CB rc_sortI (ra_cons re_var ra_nil)) ra_nil)) ra_nil))) rs_next))) rs_next))
      (rs_ret (re_CB rc_sortedTs (ra_cons re_var ra_nil)))))))))⟩, fun ds Q h => ?_⟩), T.g_joined_parts, F.kp, b⟩
  obtain ⟨E, ds', n, rfl, h1, h2, h3, h4, q⟩ := h
  walk_at "ev"
  refine ⟨E, ds', rfl, h1, h2, fun kvs hk => ?_⟩
  walk_at "ev"
  refine ⟨E, kvs, n, rfl, hk, h3, fun e he => (h4 e he).2, fun L nd hL hK => ?_⟩
  walk_at "ev"
  have hds : ds'.length < sizeLine := by rw [szl, h1.1]; omega
  refine lc_map (xs := ds') (fun P h => by walk_at "ev"; exact h) rfl hds swD (fun i x k k' hx hk => ?_) ?_
  · obtain ⟨a, b, rest, hE, rfl⟩ := h1.at_ hx
    unfold lcB
    walk_at "ev"
    have a0 : L2.atI (Da.int (a : Int) :: Da.int (b : Int) :: rest) 0 = some (.int (a : Int)) := atI_nat (j := 0) rfl
    have a1 : L2.atI (Da.int (a : Int) :: Da.int (b : Int) :: rest) 1 = some (.int (b : Int)) := atI_nat (j := 1) rfl
    walk_at "ev"
    simp only [a0, a1]
    walk_at "ev"
    exact ⟨by rw [szl]; omega, hk⟩
  walk_at "ev"
  have hds2 : (ds'.map swD).length < sizeLine := by rw [List.length_map]; exact hds
  refine ⟨rvE E, ds'.map swD, rfl, h1.rv, by rw [List.length_map]; exact h2, fun bk hbk => ?_⟩
  walk_at "ev"
  refine dc_open ?_
  walk_at "ev"
  refine ⟨rfl, hds, fun i acc => acc.length ≤ i ∧ ∀ p : Nat, (lk acc (p : Int)).isSome = decide ((p, p) ∈ E.take i), ⟨Nat.le_refl _, fun p => rfl⟩, fun i acc x hx hI => ?_, fun own hI => ?_⟩
  · obtain ⟨a, b, rest, hE, rfl⟩ := h1.at_ hx
    have a0 : L2.atI (Da.int (a : Int) :: Da.int (b : Int) :: rest) 0 = some (.int (a : Int)) := atI_nat (j := 0) rfl
    have a1 : L2.atI (Da.int (a : Int) :: Da.int (b : Int) :: rest) 1 = some (.int (b : Int)) := atI_nat (j := 1) rfl
    unfold dcB
    walk_at "ev"
    simp only [a0, a1]
    walk_at "ev"
    refine ⟨rfl, ?_⟩
    have hE2 : E.take (i + 1) = E.take i ++ [(a, b)] := by
      rw [List.take_add_one, hE]
      rfl
    by_cases hab : a = b
    · subst hab
      rw [if_pos (decide_eq_true rfl)]
      refine ⟨Nat.le_trans put_length (Nat.succ_le_succ hI.1), fun p => ?_⟩
      rw [lk_put, hE2]
      by_cases e : p = a
      · subst e
        rw [if_pos rfl]
        simp
      · rw [if_neg (show ¬ ((p : Int) = (a : Int)) from fun z => e (by omega)), hI.2 p]
        simp [e]
    · rw [if_neg (by
        rw [decide_eq_true_eq]
        intro z
        injection z with z
        omega)]
      refine ⟨Nat.le_succ_of_le hI.1, fun p => ?_⟩
      rw [hI.2 p, hE2]
      have : ¬ (p = a ∧ p = b) := fun z => hab (z.1.symm.trans z.2)
      simp [this]
  obtain ⟨hol, hown⟩ := hI
  rw [h1.1, List.take_length] at hown
  walk_at "ev"
  refine ⟨by rw [szl]; omega, ?_⟩
  have hLl : L.length ≤ n := nodup_len _ _ nd fun p hp => (hL p).mp hp
  have okt : ∀ s : Sl, (s = .u ∨ ∃ d, s = .d d) → True := fun _ _ => True.intro
  refine for_intro (xs := iD (ofN L.reverse)) (e0 := [.d (.int (n : Int)), .d (.lst ds'), .d (.lst (iD (ofN L))), .d (.dic bk), .m own, .m [], .l [], .u, .u, .u, .u]) (fun P h => ?_)
    (fun i e => ∃ (k : List Nat) (sk : List (Int × Da)) (gs : List (List Nat)) (t1 t2 t3 : Sl), GpInv E n L k gs i ∧ Seen sk k ∧ sk.length ≤ k.length ∧ (∀ gr ∈ gs, gr ≠ []) ∧ (t1 = .u ∨ ∃ d, t1 = .d d) ∧ (t2 = .u ∨ ∃ d, t2 = .d d) ∧ (t3 = .u ∨ ∃ d, t3 = .d d) ∧
      e = [.d (.int (n : Int)), .d (.lst ds'), .d (.lst (iD (ofN L))), .d (.dic bk), .m own, .m sk, .l (tD (oN gs)), t1, t2, t3, .u])
    ⟨[], [], [], .u, .u, .u, .start E n L, .nil, Nat.le_refl _, by simp, .inl rfl, .inl rfl, .inl rfl, rfl⟩ (fun i x e hx hI => ?_) fun e hI => ?_
  · walk_at "ev"
    rw [← List.map_reverse, ← List.map_reverse]
    exact h
  · obtain ⟨k, sk, gs, t1, t2, t3, J, S, hl, hne, _, ht2, ht3, rfl⟩ := hI
    obtain ⟨s0, hs, rfl⟩ := iD_mem hx
    have hkl : k.length ≤ n := nodup_len _ _ J.nd J.bd
    walk_at "ev"
    rw [S s0]
    by_cases hm : s0 ∈ k
    · rw [if_neg (by simp [hm])]
      exact ⟨k, sk, gs, _, _, _, J.skip hs hm, S, hl, hne, .inr ⟨.int (s0 : Int), rfl⟩, ht2, ht3, rfl⟩
    · rw [if_pos (by simp [hm])]
      have hsL : s0 ∈ L := List.mem_reverse.mp (List.mem_of_getElem? hs)
      refine ⟨E, bk, sk, k, n, s0, rfl, hbk, S, hm, (hL s0).mp hsL, h3, fun e he => (h4 e he).1, fun g gn gi gb => ⟨ofN g, rfl, ?_⟩⟩
      have gi2 : ∀ p, p ∈ g ↔ (Rch E p s0 ∧ Rch E s0 p) := fun p => (gi p).trans (J.grp nd hL hK h4 hs hm p)
      obtain ⟨st1, st2⟩ := J.step hs hm gi2 gn gb
      walk_at "ev"
      refine for_intro (xs := iD (ofN g)) (fun P h => by walk_at "ev"; exact h)
        (fun j e => ∃ (sk : List (Int × Da)) (t3 : Sl), Seen sk (k ++ g.take j) ∧ sk.length ≤ (k ++ g.take j).length ∧ (t3 = .u ∨ ∃ d, t3 = .d d) ∧
          e = [.d (.int (n : Int)), .d (.lst ds'), .d (.lst (iD (ofN L))), .d (.dic bk), .m own, .m sk, .l (tD (oN gs)), .d (.int (s0 : Int)), .d (.lst (iD (ofN g))), t3, .u])
        ⟨sk, t3, by simpa using S, by simpa using hl, ht3, rfl⟩ (fun j x e hx hJ => ?_) fun e hJ => ?_
      · obtain ⟨sk, t3, S3, hl3, _, rfl⟩ := hJ
        obtain ⟨y, hy, rfl⟩ := iD_mem hx
        have hyt : k ++ g.take (j + 1) = k ++ g.take j ++ [y] := by
          rw [List.take_add_one, hy, List.append_assoc]
          rfl
        have h8 := put_length (kvs := sk) (k := (y : Int)) (d := .bl true)
        have hg1 := List.length_take_le' j g
        have hg2 := nodup_len _ _ gn gb
        rw [List.length_append] at hl3
        walk_at "ev"
        refine ⟨by rw [szl]; omega, _, _, by rw [hyt]; exact S3.put y (.bl true), by rw [hyt, List.length_append, List.length_append]; exact Nat.le_trans h8 (Nat.succ_le_succ hl3), .inr ⟨.int (y : Int), rfl⟩, rfl⟩
      · obtain ⟨sk, t3, S3, hl3, ht3, rfl⟩ := hJ
        rw [List.length_map, List.length_map, List.take_length] at S3 hl3
        walk_at "ev"
        have hg2 := nodup_len _ _ gn gb
        have hg0 : g ≠ [] := fun e => by
          have := (gi s0).mpr .refl
          rw [e] at this
          cases this
        have old : g.length ≤ 1 → (s0, s0) ∉ E → _ := fun e1 e2 => st2 e1 e2
        have new : ∀ ns' : List Int, ns'.Perm (ofN g) → gs.length < sizeLine ∧ ∃ (k : List Nat) (sk_1 : List (Int × Da)) (gs_1 : List (List Nat)) (t1 t2 t3_1 : Sl), GpInv E n L k gs_1 (i + 1) ∧ Seen sk_1 k ∧ sk_1.length ≤ k.length ∧ (∀ gr ∈ gs_1, gr ≠ []) ∧ (t1 = .u ∨ ∃ d, t1 = .d d) ∧ (t2 = .u ∨ ∃ d, t2 = .d d) ∧ (t3_1 = .u ∨ ∃ d, t3_1 = .d d) ∧
            [Sl.d (.int (n : Int)), .d (.lst ds'), .d (.lst (iD (ofN L))), .d (.dic bk), .m own, .m sk, .l (tD (oN gs) ++ [.tup (iD ns')]), .d (.int (s0 : Int)), .d (.lst (iD (ofN g))), t3, .u] =
            [.d (.int (n : Int)), .d (.lst ds'), .d (.lst (iD (ofN L))), .d (.dic bk), .m own, .m sk_1, .l (tD (oN gs_1)), t1, t2, t3_1, .u] := fun ns' hp => by
          obtain ⟨g', rfl, hp'⟩ := perm_ofN hp
          have := J.g3
          have hiL := (List.getElem?_eq_some_iff.mp hs).1
          rw [List.length_reverse] at hiL
          refine ⟨by rw [szl]; omega, k ++ g, sk, gs ++ [g'], _, _, _, st1 g' hp', S3, hl3, fun gr hgr => ?_, .inr ⟨.int (s0 : Int), rfl⟩, .inr ⟨.lst (iD (ofN g)), rfl⟩, ht3, by rw [tD_snoc]⟩
          rcases List.mem_append.mp hgr with z | z
          · exact hne gr z
          · rw [List.mem_singleton.mp z]
            intro e
            rw [e] at hp'
            exact hg0 hp'.symm.eq_nil
        by_cases hg1 : 1 < g.length
        · rw [if_pos (decide_eq_true (by omega))]
          exact ⟨_, rfl, fun ns' hp _ => new ns' hp⟩
        · rw [if_neg (by rw [decide_eq_true_eq]; omega), hown s0]
          by_cases hss : (s0, s0) ∈ E
          · rw [if_pos (decide_eq_true hss)]
            exact ⟨_, rfl, fun ns' hp _ => new ns' hp⟩
          · rw [if_neg (by simp [hss])]
            exact ⟨k ++ g, sk, gs, _, _, _, st2 (by omega) hss, S3, hl3, hne, .inr ⟨.int (s0 : Int), rfl⟩, .inr ⟨.lst (iD (ofN g)), rfl⟩, ht3, rfl⟩
  · obtain ⟨k, sk, gs, t1, t2, t3, J, S, hl, hne, _, _, _, rfl⟩ := hI
    walk_at "ev"
    have := J.g3
    rw [List.length_map, List.length_map, List.length_reverse] at this
    refine ⟨_, rfl, fun t ht => ?_, by rw [List.length_map]; omega, fun ts' hp => ?_⟩
    · obtain ⟨gr, hgr, rfl⟩ := List.mem_map.mp ht
      intro e
      exact hne gr hgr (List.map_eq_nil_iff.mp e)
    · obtain ⟨gs', rfl, hp'⟩ := perm_oN hp
      exact q gs' (J.done (by rw [List.length_map, List.length_map, List.length_reverse]; exact Nat.le_refl _) (fun p => hL p) h4 hp')
end
end RK
-- CB
set_option Elab.async false
set_option linter.all false
set_option maxRecDepth 100000
set_option maxHeartbeats 4000000
namespace RK
open PySem PySem.Spec PyProof.Rows L2
local macro_rules
  | `(tactic| walk_at "ev") => `(tactic| try simp only [dVar, dC, dOp, dUn, kII, kIB, kI0, kSS, kAddS, kSign, flD, kEq, vS, onS, kIn, dasOf, dNil, dCons, dConsA, dTup, dLst, dAnd, dOr, dNot, dB, dAndT, dOrT, dNotT, dIf, dChain, kIx, dNoPart, dPart, dSlS, dSlL, dRev, dCB, k1, k2, lenD, kLen, kAll, kMax, kMM, kAbs, kInt, kList, kTuple, kSortI, kDivmod, onO, onDa, onInt, onBl, onStr, vL, onL, onT, vM, onM, toDa, dDGet, dDIn, dDGet2, dBM, dBM0, dBMS, onOwn, kAppend, kExtend, kPop, kPopAt, kClear, kIndex, kCount, kSIndex, lkF, dFld, dLR, dRg1, dRg2, dJoin, rvS, dgName, dgNil, dgCons, dgTup, diL, diT, diS, diR1, diR2, onLd, diZ, diE, diZSS, diZSL, diET, dNext, dSeq, dDrop, rtD, dRet, dRetN, dIfS, dNever, dSet, dAsg, dPar, dPar3, dFldS, dDPut, dFrz, dYes, startE, dCall, dCallM, isPot, dCallP, dMk, onObj, dMt, dPp, dCO, dRevA, kInv, kNeg, kLenO, kReprO, dFmtO, dFmtR, vD, kReprD, kReprB, dFmtD, kEqD, kCat, kCatT, clV, kIsi, kIsiT, kEqO, dCval, dCon, dJs, dJoined, diQ, diEQ, dLZ, kMulS, kSumL, dSS, kSortTs, dDisp1, fInt, fBool, fStr, fList, fSeq,
      List.map_cons, List.map_nil, List.cons_append, List.nil_append, List.length_cons, List.length_nil, List.replicate_succ, List.replicate_zero, List.append_nil, Nat.reduceAdd, Nat.reduceSub, Nat.zero_add, Nat.sub_self,
      List.getElem?_cons_zero, List.getElem?_cons_succ, List.getElem?_nil, List.set_cons_zero, List.set_cons_succ, Option.map_some, Option.map_none, List.reverse_cons, List.reverse_nil, Bool.not_true, Bool.not_false, Bool.false_eq_true, if_true, if_false, true_and, and_true, reduceCtorEq, wipeE, noOwn, Sl.own, List.all_cons, List.all_nil, Bool.and_true, Bool.true_and, Bool.and_self, List.length_map, List.not_mem_nil, not_false_eq_true, cx_K, cx_Kn, sn1, sn2, sn3, sn4, sn5, sgD, tx_list, tx_len, tx_app, tx_cut])
section
variable {P : Program} {w : World} {K : PySem.W.Frag} {mg : Str → Option Value} {base : Heap}
/-- the steps of a machine -/
def stP (rows : List (List Nat)) (k : Nat) : List (Nat × Nat) := (List.range k).flatMap fun p => (row rows p).map fun g => (p, g)
abbrev stE (rows : List (List Nat)) : List (Nat × Nat) := stP rows rows.length
abbrev R_links_within (K : PySem.W.Frag) : RR := fun ds Q => ∃ ls rows, ds = [mcD K ls rows, .lst (iD (ofN (List.range rows.length)))] ∧ Mc ls rows ∧ ∀ ds', Prs (stE rows) ds' → Q (.lst ds')
theorem Prs.snoc {E : List (Nat × Nat)} {ds : List Da} (h : Prs E ds) (a b : Nat) (rest : List Da) : Prs (E ++ [(a, b)]) (ds ++ [.tup (.int (a : Int) :: .int (b : Int) :: rest)]) := by
  refine ⟨by rw [List.length_append, List.length_append, h.1]; rfl, fun i e he => ?_⟩
  by_cases hi : i < E.length
  · rw [List.getElem?_append_left hi] at he
    obtain ⟨r, hr⟩ := h.2 i e he
    exact ⟨r, by rw [List.getElem?_append_left (by rw [h.1]; exact hi)]; exact hr⟩
  · have hl := (List.getElem?_eq_some_iff.mp he).1
    rw [List.length_append] at hl
    have e0 : i = E.length := by
      have : [(a, b)].length = 1 := rfl
      omega
    subst e0
    rw [List.getElem?_append_right (Nat.le_refl _), Nat.sub_self] at he
    cases he
    exact ⟨rest, by rw [← h.1, List.getElem?_append_right (Nat.le_refl _), Nat.sub_self]; rfl⟩
theorem stP_succ (rows : List (List Nat)) (k : Nat) : stP rows (k + 1) = stP rows k ++ (row rows k).map fun g => (k, g) := by
  unfold stP
  rw [List.range_succ, List.flatMap_append]
  simp
theorem stP_len {ls : List Nat} {rows : List (List Nat)} (M : Mc ls rows) : ∀ k, k ≤ rows.length → (stP rows k).length = k * ls.length
  | 0, _ => by simp [stP]
  | k + 1, h => by rw [stP_succ, List.length_append, List.length_map, stP_len M k (by omega), M.rl _ (row_mem (by omega)), Nat.succ_mul]
theorem stP_mem {rows : List (List Nat)} {k : Nat} {e : Nat × Nat} : e ∈ stP rows k ↔ e.1 < k ∧ e.2 ∈ row rows e.1 := by
  unfold stP
  rw [List.mem_flatMap]
  constructor
  · rintro ⟨p, hp, h⟩
    rw [List.mem_map] at h
    obtain ⟨g, hg, rfl⟩ := h
    exact ⟨List.mem_range.mp hp, hg⟩
  · rintro ⟨h1, h2⟩
    exact ⟨e.1, List.mem_range.mpr h1, List.mem_map.mpr ⟨e.2, h2, rfl⟩⟩
theorem ok_links_within (T : Txt K mg) : Df P w K mg base "links_within" 3 ["machine", "places"] (spD K (R_links_within K)) := by
  obtain ⟨fd, F, b⟩ := q_links_within T
  refine ⟨_, fd, okD F sc_links_within (by rintro ds Q ⟨ls, rows, rfl, M, q⟩; rfl) (by decide) (fun cdv A outer s H hr => ⟨_, _, ⟨
      (pss_cons (ps_setDc (i := 3) (own := [("place", 2)]) (g := gName 2) (tt := tYes) rfl sc_links_within.nd rfl rfl (sw_trueD rfl rfl rfl (by decide +kernel)) (pi_list (pv 1)) (blkOk_by (by kernel_rfl)) (fun _ _ _ _ _ => (pg_name (i := 2) sc_links_within.nd rfl (Or.inl rfl))) (fun _ _ _ _ _ => pts_nil) (fun _ _ _ _ _ => (pv 2)) (fun _ _ _ _ _ => pe_bl))
      (pss_cons (ps_set (i := 4) sc_links_within.nd rfl (Or.inl rfl) (pe_lst pa_nil))
      (pss_cons (ps_for PassesOwn.never rfl (pi_list (pv 1)) (pg_name (i := 2) sc_links_within.nd rfl (Or.inl rfl))
      (pss_one (ps_for PassesOwn.never rfl (pi_zipSL (by rfl) T.z_zip (pa_cons (pe_propD T.cl_Machine (ok_Machine_letters T) hr (pv 0)) (pa_cons (pe_ix ix_seq (pe_fld (pv 0) rfl) (pv 2) (fun _ _ => rfl)) pa_nil))) (pg_tup (n := 2) (by rfl) (pgs_cons (pg_name (i := 5) sc_links_within.nd rfl (Or.inl rfl)) (pgs_cons (pg_name (i := 6) sc_links_within.nd rfl (Or.inl rfl)) pgs_nil)))
      (pss_one (ps_if (pt_cmp (pc_din hr.hu (pv 6) (pv 3))) (pss_one (ps_expr (pe_bm PySem.F.plainAttrs_list PySem.F.slot_list_append PySem.F.type_list_append mt_append (pv 4) (pa_cons (pe_tup (pa_cons (pv 2) (pa_cons (pv 6) (pa_cons (pv 5) pa_nil)))) pa_nil)))) pss_nil)))))
      (pss_one (ps_ret (pv 4)))))),
      (rs_seq (rs_set 3 (re_dc (ri_list re_var) (rg_name 2) rt_yes re_var (re_c fun _ => .bl _) (by decide)))
      (rs_seq (rs_set 4 (re_lst ra_nil))
      (rs_seq (rs_for (ri_list re_var) (rg_name 2)
      (rs_for (ri_zipSL (ra_consA (re_pp re_var) (ra_consA (re_op ro_ix (re_fld T.cl_Machine T.na_Machine_own_rows re_var) re_var) ra_nil))) (rg_tup (n := 2) (rgs_cons (rg_name 5) (rgs_cons (rg_name 6) rgs_nil)))
      (rs_if (rt_B (re_din re_var re_var)) (rs_drop (re_bm rm_append re_var (ra_consA (re_tup (ra_consA re_var (ra_consA re_var (ra_consA re_var ra_nil)))) ra_nil))) rs_next)))
      (rs_ret re_var))))⟩, fun ds Q h => ?_⟩), T.g_links_within, F.kp, b⟩
  obtain ⟨ls, rows, rfl, M, q⟩ := h
  have hn := M.n2
  have hl3 := M.l3
  walk_at "ev"
  refine dc_open ?_
  walk_at "ev"
  refine ⟨rfl, by rw [szl, List.length_map, List.length_map, List.length_range]; omega, fun i acc => acc.length ≤ i ∧ ∀ p : Nat, p < i → (lk acc (p : Int)).isSome = true, ⟨Nat.le_refl _, fun p hp => absurd hp (Nat.not_lt_zero _)⟩, fun i acc x hx hI => ?_, fun ins hI => ?_⟩
  · obtain ⟨g, hg, rfl⟩ := iD_mem hx
    obtain ⟨hg1, hg2⟩ := List.getElem?_eq_some_iff.mp hg
    rw [List.getElem_range] at hg2
    subst hg2
    unfold dcB
    walk_at "ev"
    refine ⟨Nat.le_trans put_length (Nat.succ_le_succ hI.1), fun p hp => ?_⟩
    rw [lk_put]
    by_cases e : p = i
    · subst e
      rw [if_pos rfl]
      rfl
    · rw [if_neg (show ¬ ((p : Int) = (i : Int)) from fun z => e (by omega))]
      exact hI.2 p (by omega)
  · obtain ⟨hil, hins⟩ := hI
    rw [List.length_map, List.length_map, List.length_range] at hins
    walk_at "ev"
    refine ⟨by rw [szl]; omega, ?_⟩
    refine for_intro (xs := iD (ofN (List.range rows.length))) (fun P h => by walk_at "ev"; exact h)
      (fun i e => ∃ (ds' : List Da) (t1 t2 t3 : Sl), Prs (stP rows i) ds' ∧ (t1 = .u ∨ ∃ d, t1 = .d d) ∧ (t2 = .u ∨ ∃ d, t2 = .d d) ∧ (t3 = .u ∨ ∃ d, t3 = .d d) ∧
        e = [.d (mcD K ls rows), .d (.lst (iD (ofN (List.range rows.length)))), t1, .m ins, .l ds', t2, t3])
      ⟨[], .u, .u, .u, ⟨rfl, fun i e h => by simp [stP] at h⟩, .inl rfl, .inl rfl, .inl rfl, rfl⟩ (fun i x e hx hI => ?_) fun e hI => ?_
    · obtain ⟨ds', t1, t2, t3, hP, _, ht2, ht3, rfl⟩ := hI
      obtain ⟨g, hg, rfl⟩ := iD_mem hx
      obtain ⟨hg1, hg2⟩ := List.getElem?_eq_some_iff.mp hg
      rw [List.getElem_range] at hg2
      rw [List.length_range] at hg1
      subst hg2
      have hrl := M.rl _ (row_mem hg1)
      have hPl := stP_len M i (by omega)
      have him : i * ls.length ≤ 120 * 3 := Nat.mul_le_mul (by omega) (by omega)
      walk_at "ev"
      refine for_intro (xs := zipD (ls.map sgD) (iD (ofN (row rows i)))) (e0 := [.d (mcD K ls rows), .d (.lst (iD (ofN (List.range rows.length)))), .d (.int (i : Int)), .m ins, .l ds', t2, t3]) (fun P h => ?_)
        (fun j e => ∃ (ds' : List Da) (t2 t3 : Sl), Prs (stP rows i ++ ((row rows i).take j).map fun g => (i, g)) ds' ∧ (t2 = .u ∨ ∃ d, t2 = .d d) ∧ (t3 = .u ∨ ∃ d, t3 = .d d) ∧
          e = [.d (mcD K ls rows), .d (.lst (iD (ofN (List.range rows.length)))), .d (.int (i : Int)), .m ins, .l ds', t2, t3])
        ⟨ds', t2, t3, by simpa using hP, ht2, ht3, rfl⟩ (fun j x e hx hJ => ?_) fun e hJ => ?_
      · walk_at "ev"
        refine ⟨ls, rows, rfl, ?_⟩
        walk_at "ev"
        rw [atI_row hg1]
        exact h
      · obtain ⟨ds', t2, t3, hP, _, _, rfl⟩ := hJ
        obtain ⟨a, b, rfl, ha, hb⟩ := zipD_get hx
        obtain ⟨g, hg, rfl⟩ := iD_mem hb
        rw [List.getElem?_map, Option.map_eq_some_iff] at ha
        obtain ⟨c, hc, rfl⟩ := ha
        have hgr : g < rows.length := M.rg.lt (List.mem_of_getElem? hg)
        have hP1 := hP.1
        rw [List.length_append, List.length_map] at hP1
        have hP2 := List.length_take_le j (row rows i)
        have hP3 := List.length_take_le' j (row rows i)
        walk_at "ev"
        rw [hins g hgr]
        walk_at "ev"
        refine ⟨by rw [szl]; omega, by rw [szl]; omega, _, _, _, ?_, .inr ⟨_, rfl⟩, .inr ⟨_, rfl⟩, rfl⟩
        rw [List.take_add_one, hg, List.map_append, ← List.append_assoc]
        exact hP.snoc i g _
      · obtain ⟨ds', t2, t3, hP, ht2, ht3, rfl⟩ := hJ
        rw [zipD_len, List.length_map, List.length_map, List.length_map, hrl, Nat.min_self, ← hrl, List.take_length, ← stP_succ] at hP
        exact ⟨ds', _, t2, t3, hP, .inr ⟨.int (i : Int), rfl⟩, ht2, ht3, rfl⟩
    · obtain ⟨ds', t1, t2, t3, hP, _, _, _, rfl⟩ := hI
      rw [List.length_map, List.length_map, List.length_range] at hP
      walk_at "ev"
      exact q ds' hP
abbrev R_parts (K : PySem.W.Frag) : RR := fun ds Q => ∃ ls rows, ds = [mcD K ls rows] ∧ Mc ls rows ∧ ∀ gs : List (List Nat), GoodParts (stE rows) gs → Q (.lst (tD (oN gs)))
theorem ok_parts (T : Txt K mg) : Df P w K mg base "parts" 4 ["machine"] (spD K (R_parts K)) := by
  obtain ⟨fd, F, b⟩ := q_parts T
  refine ⟨_, fd, okD F sc_parts (by rintro ds Q ⟨ls, rows, rfl, M, q⟩; rfl) (by decide) (fun cdv A outer s H hr => ⟨_, _, ⟨
      (pss_one (ps_ret (pe_callD (ok_joined_parts T) hr (pa_cons (pe_callB (call_lenO (ok_Machine___len T) hr) (by rfl) T.z_len boot_len (pa_cons (pv 0) pa_nil)) (pa_cons (pe_callD (ok_links_within T) hr (pa_cons (pv 0) (pa_cons (pe_listRg rfl (by rfl) T.z_list (prg_1 (by rfl) T.z_range (pe_callB (call_lenO (ok_Machine___len T) hr) (by rfl) T.z_len boot_len (pa_cons (pv 0) pa_nil)))) pa_nil))) pa_nil))))),
      (rs_ret (re_call (ra_consA (re_CB rc_lenO (ra_cons re_var ra_nil)) (ra_consA (re_call (ra_consA re_var (ra_consA (re_listRg (rr_1 (re_CB rc_lenO (ra_cons re_var ra_nil)))) ra_nil))) ra_nil))))⟩, fun ds Q h => ?_⟩), T.g_parts, F.kp, b⟩
  obtain ⟨ls, rows, rfl, M, q⟩ := h
  have hn := M.n2
  have hl3 := M.l3
  have hPl := stP_len M rows.length (Nat.le_refl _)
  have him : rows.length * ls.length ≤ 120 * 3 := Nat.mul_le_mul (by omega) (by omega)
  walk_at "ev"
  refine ⟨ls, rows, rfl, _, rfl, by omega, by omega, ?_⟩
  refine ⟨ls, rows, rfl, _, rfl, by omega, by omega, ?_, ?_⟩
  · exact RgOk.of_le (by omega) (by omega) (by omega) (by omega)
  rw [show ((rows.length : Int) - 0).toNat = rows.length from by omega, show (iD ((List.range rows.length).map fun i : Nat => (0 : Int) + (i : Nat))) = iD (ofN (List.range rows.length)) from by
    congr 1
    refine List.map_congr_left fun x _ => ?_
    show (0 : Int) + (x : Nat) = (x : Nat)
    omega]
  refine ⟨ls, rows, rfl, M, fun ds' hP => ?_⟩
  refine ⟨stE rows, ds', rows.length, rfl, hP, by rw [show (stE rows).length = _ from hPl]; omega, by omega, fun e he => ?_, q⟩
  obtain ⟨h1, h2⟩ := stP_mem.mp he
  exact ⟨h1, M.rg.lt h2⟩
end
end RK
-- E
set_option Elab.async false
set_option linter.all false
set_option maxRecDepth 100000
set_option maxHeartbeats 4000000
namespace RK
open PySem PySem.Spec PyProof.Rows L2
local macro_rules
  | `(tactic| walk_at "ev") => `(tactic| try simp only [dVar, dC, dOp, dUn, kII, kIB, kI0, kSS, kAddS, kSign, flD, kEq, vS, onS, kIn, dasOf, dNil, dCons, dConsA, dTup, dLst, dAnd, dOr, dNot, dB, dAndT, dOrT, dNotT, dIf, dChain, kIx, dNoPart, dPart, dSlS, dSlL, dRev, dCB, k1, k2, lenD, kLen, kAll, kMax, kMM, kAbs, kInt, kList, kTuple, kSortI, kDivmod, onO, onDa, onInt, onBl, onStr, vL, onL, onT, vM, onM, toDa, dDGet, dDIn, dDGet2, dBM, dBM0, dBMS, onOwn, kAppend, kExtend, kPop, kPopAt, kClear, kIndex, kCount, kSIndex, lkF, dFld, dLR, dRg1, dRg2, dJoin, rvS, dgName, dgNil, dgCons, dgTup, diL, diT, diS, diR1, diR2, onLd, diZ, diE, diZSS, diZSL, diET, dNext, dSeq, dDrop, rtD, dRet, dRetN, dIfS, dNever, dSet, dAsg, dPar, dPar3, dFldS, dDPut, dFrz, dYes, startE, dCall, dCallM, isPot, dCallP, dMk, onObj, dMt, dPp, dCO, dRevA, kInv, kNeg, kLenO, kReprO, dFmtO, dFmtR, vD, kReprD, kReprB, dFmtD, kEqD, kCat, kCatT, clV, kIsi, kIsiT, kEqO, dCval, dCon, dJs, dJoined, diQ, diEQ, dLZ, kMulS, kSumL, dSS, kSortTs, dDisp1, fInt, fBool, fStr, fList, fSeq,
      List.map_cons, List.map_nil, List.cons_append, List.nil_append, List.length_cons, List.length_nil, List.replicate_succ, List.replicate_zero, List.append_nil, Nat.reduceAdd, Nat.reduceSub, Nat.zero_add, Nat.sub_self,
      List.getElem?_cons_zero, List.getElem?_cons_succ, List.getElem?_nil, List.set_cons_zero, List.set_cons_succ, Option.map_some, Option.map_none, List.reverse_cons, List.reverse_nil, Bool.not_true, Bool.not_false, Bool.false_eq_true, if_true, if_false, true_and, and_true, reduceCtorEq, wipeE, noOwn, Sl.own, List.all_cons, List.all_nil, Bool.and_true, Bool.true_and, Bool.and_self, List.length_map, List.not_mem_nil, not_false_eq_true, cx_K, cx_Kn, sn1, sn2, sn3, sn4, sn5, sgD, tx_list, tx_len, tx_app, tx_cut])
section
variable {P : Program} {w : World} {K : PySem.W.Frag} {mg : Str → Option Value} {base : Heap}
/-- a row of ranks, as a list or a tuple -/
def RowS (x : Da) (r : List Nat) : Prop := x = .lst (iD (ofN r)) ∨ x = .tup (iD (ofN r))
def RowsS (x : Da) (ranks : List (List Nat)) : Prop := ∃ xs : List Da, (x = .lst xs ∨ x = .tup xs) ∧ xs.length = ranks.length ∧ ∀ (i : Nat) (d : Da), xs[i]? = some d → ∃ r, ranks[i]? = some r ∧ RowS d r
theorem atI_m1 {l : List Nat} {n : Nat} (h : l.getLast? = some n) : L2.atI (iD (ofN l)) (-1) = some (.int (n : Int)) := by
  obtain ⟨ys, rfl⟩ := List.getLast?_eq_some_iff.mp h
  exact atI_lastN _ _
theorem count_ofN (l : List Nat) (n : Nat) : (ofN l).count (n : Int) = l.count n := by
  induction l with
  | nil => rfl
  | cons a l ih =>
    show (Int.ofNat a :: ofN l).count (n : Int) = _
    rw [List.count_cons, List.count_cons, ih]
    congr 1
    by_cases h : a = n
    · subst h; simp
    · rw [if_neg (by simp; omega), if_neg (by simpa using h)]
theorem idxOf_ofN (l : List Nat) (n : Nat) : (ofN l).idxOf (n : Int) = l.idxOf n := by
  induction l with
  | nil => rfl
  | cons a l ih =>
    show (Int.ofNat a :: ofN l).idxOf (n : Int) = _
    rw [List.idxOf_cons, List.idxOf_cons, ih]
    by_cases h : a = n
    · subst h; simp
    · rw [show (Int.ofNat a == (n : Int)) = false from by simp; omega, show (a == n) = false from by simpa using h]
def prD (e : Nat × Nat) : Da := .tup [.int (e.1 : Int), .int (e.2 : Int)]
theorem zipD_iD (xs ys : List Nat) : zipD (iD (ofN xs)) (iD (ofN ys)) = (xs.zip ys).map prD := by
  unfold zipD
  show List.map _ (List.zip (List.map _ (List.map _ xs)) (List.map _ (List.map _ ys))) = _
  rw [List.zip_map, List.zip_map, List.map_map, List.map_map]
  rfl
abbrev R_is_rank_row : RR := fun ds Q => ∃ x r, ds = [x, .int ((r.length : Nat) : Int)] ∧ RowS x r ∧ r.length ≤ 100 ∧ (∀ k ∈ r, k ≤ 12) ∧ Q (.bl true)
theorem ok_is_rank_row (T : Txt K mg) : Df P w K mg base "is_rank_row" 3 ["value", "size"] (spD K R_is_rank_row) := by
  obtain ⟨fd, F, b⟩ := q_is_rank_row T
  refine ⟨_, fd, okD F sc_is_rank_row (by rintro ds Q ⟨x, r, rfl, h1, h2, h3, q⟩; rfl) (by decide) (fun cdv A outer s H hr => ⟨_, _, ⟨
      (pss_cons (ps_if (PW.pt (pw_or (pt_not (pt_val (pe_callD (ok_is_list T) hr (pa_cons (pv 0) pa_nil)))) (pw_or1 (pt_cmpR op_ne (pe_callB call_len (by rfl) T.z_len boot_len (pa_cons (pv 0) pa_nil)) (pv 1) (nomark _))))) (pss_one (ps_ret pe_bl)) pss_nil)
      (pss_one (ps_ret (pe_callB (cr_all rfl) (by rfl) T.z_all boot_all (pa_cons (pe_lc (own := [("rank", 2)]) (g := gName 2) (tt := tYes) rfl sc_is_rank_row.nd (pi_seq (pv 0)) (blkOk_by (by kernel_rfl)) (fun _ _ _ _ _ => (pg_name (i := 2) sc_is_rank_row.nd rfl (Or.inl rfl))) (fun _ _ _ _ _ => pts_nil) (fun _ _ _ _ _ => by exact (pe_and (pe_callD (ok_is_count T) hr (pa_cons (pv 2) pa_nil)) (pe_one (pe_cmpR op_le (pv 2) (ClX.pe_cval (pe_glob (v := .ref (He.ga K "Ranked")) rfl T.g_Ranked rfl)) (nomark _)))))) pa_nil))))),
      (rs_seq (rs_if (rt_or (rt_not (rt_B (re_call (ra_consA re_var ra_nil)))) (rt_test (re_op ro_ne (re_CB rc_len (ra_cons re_var ra_nil)) re_var))) (rs_ret (re_c fun _ => .bl _)) rs_next)
      (rs_ret (re_CB rc_all (ra_cons (re_lc (ri_seq re_var) (rg_name 2) rt_yes (re_and (re_call (ra_consA re_var ra_nil)) (re_op ro_B0 re_var (re_cval T.cr_Ranked T.cv_Ranked (fun _ => .int _) (re_c fun _ => .cls _)))) (by decide)) ra_nil))))⟩, fun ds Q h => ?_⟩), T.g_is_rank_row, F.kp, b⟩
  obtain ⟨x, r, rfl, h1, h2, h3, q⟩ := h
  have key : ∀ n ∈ r, n ≤ 12 := h3
  have hsz : (iD (ofN r)).length < sizeLine := by rw [iD_len, szl]; omega
  rcases h1 with rfl | rfl
  all_goals
    walk_at "ev"
    refine ⟨_, rfl, rfl, ?_⟩
    walk_at "ev"
    refine ⟨rfl, ?_⟩
    rw [if_neg (by simp)]
    refine lc_map (xs := iD (ofN r)) (fun P h => by walk_at "ev"; exact h) rfl hsz (fun _ => .bl true) (fun i x k k' hx hk => ?_) ?_
    · obtain ⟨n, hn, rfl⟩ := iD_mem hx
      unfold lcB
      walk_at "ev"
      refine ⟨_, rfl, ?_⟩
      walk_at "ev"
      have := h3 n (List.mem_of_getElem? hn)
      rw [if_pos (decide_eq_true (by omega)), decide_eq_true (by omega)]
      exact hk
    · walk_at "ev"
      rw [map_bl_true]
      refine ⟨_, rfl, ?_⟩
      rw [all_map_true]
      exact q
abbrev R_want_ranks (K : PySem.W.Frag) : RR := fun ds Q => ∃ ls rows ranks x, ds = [mcD K ls rows, x] ∧ Mc ls rows ∧ Rk ls rows ranks ∧ RowsS x ranks ∧ Q .non
theorem ok_want_ranks (T : Txt K mg) : Df P w K mg base "want_ranks" 4 ["machine", "ranks"] (spD K (R_want_ranks K)) := by
  obtain ⟨fd, F, b⟩ := q_want_ranks T
  refine ⟨_, fd, okD F sc_want_ranks (by rintro ds Q ⟨ls, rows, ranks, x, rfl, M, R, h, q⟩; rfl) (by decide) (fun cdv A outer s H hr => ⟨_, _, ⟨
      (pss_cons (ps_if (PW.pt (pw_or (pt_not (pt_val (pe_callD (ok_is_list T) hr (pa_cons (pv 1) pa_nil)))) (pw_or1 (pt_cmpR op_ne (pe_callB call_len (by rfl) T.z_len boot_len (pa_cons (pv 1) pa_nil)) (pe_callB (call_lenO (ok_Machine___len T) hr) (by rfl) T.z_len boot_len (pa_cons (pv 0) pa_nil)) (nomark _))))) (pss_one ps_never) pss_nil)
      (pss_one (ps_for PassesOwn.never rfl (pi_enumS (by rfl) T.z_enumerate (pa_cons (pv 1) pa_nil)) (pg_tup (n := 2) (by rfl) (pgs_cons (pg_name (i := 2) sc_want_ranks.nd rfl (Or.inl rfl)) (pgs_cons (pg_name (i := 3) sc_want_ranks.nd rfl (Or.inl rfl)) pgs_nil)))
      (pss_one (ps_if (pt_not (pt_val (pe_callD (ok_is_rank_row T) hr (pa_cons (pv 3) (pa_cons (pe_callB call_len (by rfl) T.z_len boot_len (pa_cons (pe_propD T.cl_Machine (ok_Machine_letters T) hr (pv 0)) pa_nil)) pa_nil))))) (pss_one ps_never) pss_nil))))),
      (rs_seq (rs_if (rt_or (rt_not (rt_B (re_call (ra_consA re_var ra_nil)))) (rt_test (re_op ro_ne (re_CB rc_len (ra_cons re_var ra_nil)) (re_CB rc_lenO (ra_cons re_var ra_nil))))) rs_never rs_next)
      (rs_for (ri_enumS (ra_consA re_var ra_nil)) (rg_tup (n := 2) (rgs_cons (rg_name 2) (rgs_cons (rg_name 3) rgs_nil)))
      (rs_if (rt_not (rt_B (re_call (ra_consA re_var (ra_consA (re_CB rc_len (ra_cons (re_pp re_var) ra_nil)) ra_nil))))) rs_never rs_next)))⟩, fun ds Q h => ?_⟩), T.g_want_ranks, F.kp, b⟩
  obtain ⟨ls, rows, ranks, x, rfl, M, R, h, q⟩ := h
  obtain ⟨xs, hx, hxl, hxr⟩ := h
  have hn := M.n2
  have hl3 := M.l3
  have e1 : ls.length ≤ sizeLine := by rw [szl]; omega
  rcases hx with rfl | rfl
  · walk_at "ev"
    refine ⟨_, rfl, rfl, ?_⟩
    walk_at "ev"
    refine ⟨ls, rows, rfl, _, rfl, by omega, by omega, rfl, ?_⟩
    rw [if_neg (by simp [hxl, R.n])]
    refine for_intro (xs := enumD xs) (fun P h => by walk_at "ev"; exact h) (fun i e => ∃ t1 t2, (t1 = .u ∨ ∃ d, t1 = .d d) ∧ (t2 = .u ∨ ∃ d, t2 = .d d) ∧ e = [.d (mcD K ls rows), .d (.lst xs), t1, t2]) ⟨.u, .u, .inl rfl, .inl rfl, rfl⟩ (fun i x e hx hI => ?_) fun e hI => ?_
    · obtain ⟨y, rfl, hy⟩ := enumD_get hx
      obtain ⟨r, hr, hrs⟩ := hxr i y hy
      have hrm := List.mem_of_getElem? hr
      obtain ⟨t1, t2, _, _, rfl⟩ := hI
      walk_at "ev"
      refine ⟨ls, rows, rfl, ?_⟩
      walk_at "ev"
      rw [if_pos e1]
      walk_at "ev"
      refine ⟨y, r, by rw [R.rl r hrm], hrs, by rw [R.rl r hrm]; omega, R.rb r hrm, ?_⟩
      walk_at "ev"
      exact ⟨_, _, .inr ⟨_, rfl⟩, .inr ⟨_, rfl⟩, rfl⟩
    · exact q
  · walk_at "ev"
    refine ⟨_, rfl, rfl, ?_⟩
    walk_at "ev"
    refine ⟨ls, rows, rfl, _, rfl, by omega, by omega, rfl, ?_⟩
    rw [if_neg (by simp [hxl, R.n])]
    refine for_intro (xs := enumD xs) (fun P h => by walk_at "ev"; exact h) (fun i e => ∃ t1 t2, (t1 = .u ∨ ∃ d, t1 = .d d) ∧ (t2 = .u ∨ ∃ d, t2 = .d d) ∧ e = [.d (mcD K ls rows), .d (.tup xs), t1, t2]) ⟨.u, .u, .inl rfl, .inl rfl, rfl⟩ (fun i x e hx hI => ?_) fun e hI => ?_
    · obtain ⟨y, rfl, hy⟩ := enumD_get hx
      obtain ⟨r, hr, hrs⟩ := hxr i y hy
      have hrm := List.mem_of_getElem? hr
      obtain ⟨t1, t2, _, _, rfl⟩ := hI
      walk_at "ev"
      refine ⟨ls, rows, rfl, ?_⟩
      walk_at "ev"
      rw [if_pos e1]
      walk_at "ev"
      refine ⟨y, r, by rw [R.rl r hrm], hrs, by rw [R.rl r hrm]; omega, R.rb r hrm, ?_⟩
      walk_at "ev"
      exact ⟨_, _, .inr ⟨_, rfl⟩, .inr ⟨_, rfl⟩, rfl⟩
    · exact q
abbrev R_walked (K : PySem.W.Frag) : RR := fun ds Q => ∃ ls rows p t, ds = [mcD K ls rows, .int ((p : Nat) : Int), .str (tx t)] ∧ Mc ls rows ∧ p < rows.length ∧ (∀ c ∈ t, c ∈ ls) ∧ t.length ≤ 100000 ∧ Q (.lst (iD (ofN (trk ls rows p t))))
theorem ok_walked (T : Txt K mg) : Df P w K mg base "walked" 3 ["machine", "start", "text"] (spD K (R_walked K)) := by
  obtain ⟨fd, F, b⟩ := q_walked T
  refine ⟨_, fd, okD F sc_walked (by rintro ds Q ⟨ls, rows, p, t, rfl, M, hp, ht, hl, q⟩; rfl) (by decide) (fun cdv A outer s H hr => ⟨_, _, ⟨
      (pss_cons (ps_set (i := 3) sc_walked.nd rfl (Or.inl rfl) (pe_lst (pa_cons (pv 1) pa_nil)))
      (pss_cons (ps_for PassesOwn.never rfl (pi_str (pv 2)) (pg_name (i := 4) sc_walked.nd rfl (Or.inl rfl))
      (pss_one (ps_expr (pe_bm PySem.F.plainAttrs_list PySem.F.slot_list_append PySem.F.type_list_append mt_append (pv 3) (pa_cons (pe_ix ix_seq (pe_ix ix_seq (pe_fld (pv 0) rfl) (pe_ix ix_seq (pv 3) (pe_un un_neg pe_int) (fun _ _ => rfl)) (fun _ _ => rfl)) (pe_bm PySem.F.plainAttrs_str PySem.F.slot_str_index PySem.F.type_str_index mt_sindex (pe_propD T.cl_Machine (ok_Machine_letters T) hr (pv 0)) (pa_cons (pv 4) pa_nil)) (fun _ _ => rfl)) pa_nil)))))
      (pss_one (ps_ret (pv 3))))),
      (rs_seq (rs_set 3 (re_lst (ra_consA re_var ra_nil)))
      (rs_seq (rs_for (ri_str re_var) (rg_name 4)
      (rs_drop (re_bm rm_append re_var (ra_consA (re_op ro_ix (re_op ro_ix (re_fld T.cl_Machine T.na_Machine_own_rows re_var) (re_op ro_ix re_var (re_un ru_neg (re_c fun _ => .int _)))) (re_bmS rm_sindex (re_pp re_var) (ra_cons re_var ra_nil))) ra_nil))))
      (rs_ret re_var)))⟩, fun ds Q h => ?_⟩), T.g_walked, F.kp, b⟩
  obtain ⟨ls, rows, p, t, rfl, M, hp, ht, hl, q⟩ := h
  have hl1 : ls.length < sizeLine := by have := M.l3; rw [szl]; omega
  walk_at "ev"
  refine ⟨by rw [szl]; omega, ?_⟩
  refine for_intro (xs := t.map sgD) (fun P h => by walk_at "ev"; exact h)
    (fun i e => ∃ t1, (t1 = .u ∨ ∃ d, t1 = .d d) ∧ e = [.d (mcD K ls rows), .d (.int (p : Int)), .d (.str (tx t)), .l (iD (ofN (trk ls rows p (t.take i)))), t1]) ⟨.u, .inl rfl, rfl⟩ (fun i x e hx hI => ?_) fun e hI => ?_
  · obtain ⟨t1, _, rfl⟩ := hI
    rw [List.getElem?_map, Option.map_eq_some_iff] at hx
    obtain ⟨c, hc, rfl⟩ := hx
    have hi := (List.getElem?_eq_some_iff.mp hc).1
    have hcl : c ∈ ls := ht c (List.mem_of_getElem? hc)
    have hf := fol_lt M (t.take i) p hp fun d hd => ht d (List.mem_of_mem_take hd)
    obtain ⟨hs1, hs2⟩ := step_lt M hf hcl
    have hti : t.take (i + 1) = t.take i ++ [c] := by
      rw [List.take_add_one, hc]
      rfl
    walk_at "ev"
    rw [atI_m1 (trk_last p (t.take i))]
    walk_at "ev"
    rw [atI_row hf]
    walk_at "ev"
    refine ⟨ls, rows, rfl, ?_⟩
    walk_at "ev"
    refine ⟨c, rfl, hcl, fun j hj => ?_⟩
    rw [idx_of_get M.ris.nodup hj]
    rw [atI_iD hs1]
    walk_at "ev"
    refine ⟨by rw [szl, trk_len, List.length_take]; omega, _, .inr ⟨.str (tx [c]), rfl⟩, ?_⟩
    rw [hti, trk_snoc, iD_snoc]
    rfl
  · obtain ⟨t1, _, rfl⟩ := hI
    rw [List.length_map, List.take_length]
    walk_at "ev"
    exact q
abbrev R_kept_steps (K : PySem.W.Frag) : RR := fun ds Q => ∃ ls rows b l, ds = [mcD K ls rows, wdD K b l] ∧ Mc ls rows ∧ (∀ c, c ∈ b ∨ c ∈ l → c ∈ ls) ∧ b.length ≤ 8000 ∧ l.length ≤ 8000 ∧ l ≠ [] ∧
  ∀ fs : List (Nat × Nat), fs.length ≤ 2000000 → (∀ x, x ∈ fs ↔ InfP ls rows (wd b l) x) → fs ≠ [] → Q (.lst (fs.map fun e => .tup [.int (e.1 : Int), .int (e.2 : Int)]))
theorem ok_kept_steps (T : Txt K mg) : Df P w K mg base "kept_steps" 4 ["machine", "word"] (spD K (R_kept_steps K)) := by
  obtain ⟨fd, F, b⟩ := q_kept_steps T
  refine ⟨_, fd, okD F sc_kept_steps (by rintro ds Q ⟨ls, rows, b, l, rfl, M, hin, hb, hl, hl0, q⟩; rfl) (by decide) (fun cdv A outer s H hr => ⟨_, _, ⟨
      (pss_cons (ps_setLc (i := 2) (own := [("letter", 8)]) (g := gName 8) (tt := tYes) rfl sc_kept_steps.nd rfl rfl (sw_true rfl rfl rfl (by decide +kernel)) (pi_str (pe_propD T.cl_Word (ok_Word_lap T) hr (pv 1))) (blkOk_by (by kernel_rfl)) (fun _ _ _ _ _ => (pg_name (i := 8) sc_kept_steps.nd rfl (Or.inl rfl))) (fun _ _ _ _ _ => pts_nil) (fun _ _ _ _ _ => by exact (pe_bm PySem.F.plainAttrs_str PySem.F.slot_str_index PySem.F.type_str_index mt_sindex (pe_propD T.cl_Machine (ok_Machine_letters T) hr (pv 0)) (pa_cons (pv 8) pa_nil))))
      (pss_cons (ps_par (i := 3) (j := 4) (by rfl) sc_kept_steps.nd rfl rfl (by decide) rfl rfl (pa_cons (pe_lst (pa_cons (pe_ix ix_seq (pe_callD (ok_walked T) hr (pa_cons (pv 0) (pa_cons pe_int (pa_cons (pe_propD T.cl_Word (ok_Word_begin T) hr (pv 1)) pa_nil)))) (pe_un un_neg pe_int) (fun _ _ => rfl)) pa_nil)) (pa_cons (pe_lst pa_nil) pa_nil)) (by rfl))
      (pss_cons (ps_while PassesOwn.never (pt_cmpR op_eq (pe_bm PySem.F.plainAttrs_list PySem.F.slot_list_count PySem.F.type_list_count mt_lcount (pv 3) (pa_cons (pe_ix ix_seq (pv 3) (pe_un un_neg pe_int) (fun _ _ => rfl)) pa_nil)) pe_int (nomark _))
      (pss_cons (ps_set (i := 5) sc_kept_steps.nd rfl (Or.inl rfl) (pe_callD (ok_walked T) hr (pa_cons (pv 0) (pa_cons (pe_ix ix_seq (pv 3) (pe_un un_neg pe_int) (fun _ _ => rfl)) (pa_cons (pe_propD T.cl_Word (ok_Word_lap T) hr (pv 1)) pa_nil)))))
      (pss_cons (ps_expr (pe_bm PySem.F.plainAttrs_list PySem.F.slot_list_append PySem.F.type_list_append mt_append (pv 4) (pa_cons (pe_listZip rfl (by rfl) T.z_list (by rfl) T.z_zip (pv 5) (pv 2)) pa_nil)))
      (pss_one (ps_expr (pe_bm PySem.F.plainAttrs_list PySem.F.slot_list_append PySem.F.type_list_append mt_append (pv 3) (pa_cons (pe_ix ix_seq (pv 5) (pe_un un_neg pe_int) (fun _ _ => rfl)) pa_nil)))))))
      (pss_cons (ps_set (i := 6) sc_kept_steps.nd rfl (Or.inl rfl) (pe_lst pa_nil))
      (pss_cons (ps_for PassesOwn.never rfl (pi_list (pe_slice sl_list (pv 4) (po_some (pe_bm PySem.F.plainAttrs_list PySem.F.slot_list_index PySem.F.type_list_index mt_index (pv 3) (pa_cons (pe_ix ix_seq (pv 3) (pe_un un_neg pe_int) (fun _ _ => rfl)) pa_nil))) po_none)) (pg_name (i := 7) sc_kept_steps.nd rfl (Or.inl rfl))
      (pss_one (ps_expr (pe_bm PySem.F.plainAttrs_list PySem.F.slot_list_extend PySem.F.type_list_extend mt_extend (pv 6) (pa_cons (pv 7) pa_nil)))))
      (pss_one (ps_ret (pv 6)))))))),
      (rs_seq (rs_set 2 (re_lc (ri_str (re_pp re_var)) (rg_name 8) rt_yes (re_bmS rm_sindex (re_pp re_var) (ra_cons re_var ra_nil)) (by decide)))
      (rs_seq (rs_par (re_lst (ra_consA (re_op ro_ix (re_call (ra_consA re_var (ra_consA (re_c fun _ => .int _) (ra_consA (re_pp re_var) ra_nil)))) (re_un ru_neg (re_c fun _ => .int _))) ra_nil)) (re_lst ra_nil))
      (rs_seq (rs_while (rt_test (re_op ro_eq (re_bm rm_count re_var (ra_cons (re_op ro_ix re_var (re_un ru_neg (re_c fun _ => .int _))) ra_nil)) (re_c fun _ => .int _)))
      (rs_seq (rs_set 5 (re_call (ra_consA re_var (ra_consA (re_op ro_ix re_var (re_un ru_neg (re_c fun _ => .int _))) (ra_consA (re_pp re_var) ra_nil)))))
      (rs_seq (rs_drop (re_bm rm_append re_var (ra_consA (re_listZip re_var re_var) ra_nil)))
      (rs_drop (re_bm rm_append re_var (ra_consA (re_op ro_ix re_var (re_un ru_neg (re_c fun _ => .int _))) ra_nil))))))
      (rs_seq (rs_set 6 (re_lst ra_nil))
      (rs_seq (rs_frz (i := 3) (rs_frz (i := 4) (rs_for (ri_list (re_slL re_var (ro_part (re_bm rm_index re_var (ra_cons (re_op ro_ix re_var (re_un ru_neg (re_c fun _ => .int _))) ra_nil))) ro_no)) (rg_name 7)
      (rs_drop (re_bm rm_extend re_var (ra_cons re_var ra_nil))))))
      (rs_ret re_var))))))⟩, fun ds Q h => ?_⟩), T.g_kept_steps, F.kp, b⟩
  obtain ⟨ls, rows, b, l, rfl, M, hin, hb, hl, hl0, q⟩ := h
  have hbl : ∀ c ∈ b, c ∈ ls := fun c h => hin c (.inl h)
  have hll : ∀ c ∈ l, c ∈ ls := fun c h => hin c (.inr h)
  have hl1 : ls.length < sizeLine := by have := M.l3; rw [szl]; omega
  have hn := M.n2
  walk_at "ev"
  refine lc_map (xs := l.map sgD) (e0 := [.d (mcD K ls rows), .d (wdD K b l), .u, .u, .u, .u, .u, .u, .u]) (fun P h => ?_) rfl (by rw [szl, List.length_map]; omega) (fun x => match x with | .str z => .int (ls.idxOf (z.cps.toList.headD 0) : Nat) | _ => x) (fun i x k k' hx hk => ?_) ?_
  · walk_at "ev"
    refine ⟨b, l, rfl, ?_⟩
    walk_at "ev"
    exact h
  · rw [List.getElem?_map, Option.map_eq_some_iff] at hx
    obtain ⟨c, hc, rfl⟩ := hx
    unfold lcB
    walk_at "ev"
    refine ⟨ls, rows, rfl, ?_⟩
    walk_at "ev"
    refine ⟨c, rfl, hll c (List.mem_of_getElem? hc), fun j hj => ?_⟩
    rw [idx_of_get M.ris.nodup hj]
    exact hk
  have hnums : ((l.map sgD).map fun x => match x with | .str z => .int (ls.idxOf (z.cps.toList.headD 0) : Nat) | _ => x) = iD (ofN (l.map fun c => ls.idxOf c)) := by
    show List.map _ (List.map _ l) = List.map _ (List.map _ (List.map _ l))
    rw [List.map_map, List.map_map, List.map_map]
    rfl
  rw [hnums]
  walk_at "ev"
  refine ⟨b, l, rfl, ?_⟩
  walk_at "ev"
  refine ⟨ls, rows, 0, b, rfl, M, M.n1, hbl, by omega, ?_⟩
  walk_at "ev"
  rw [atI_m1 (trk_last 0 b)]
  walk_at "ev"
  refine ⟨by rw [szl]; omega, by rw [szl]; omega, ?_⟩
  have hS0 : fol ls rows 0 b = ss ls rows b l 0 := ss_zero.symm
  rw [hS0]
  refine while_intro (fun q e => ∃ (m : Nat) (t1 : Sl), q + m = 121 ∧ ((List.range m).map (ss ls rows b l)).Nodup ∧ (t1 = .u ∨ ∃ d, t1 = .d d) ∧
    e = [.d (mcD K ls rows), .d (wdD K b l), .l (iD (ofN (l.map fun c => ls.idxOf c))), .l (iD (ofN ((List.range (m + 1)).map (ss ls rows b l)))), .l ((List.range m).map fun k => .lst ((lapL ls rows l (ss ls rows b l k)).map prD)), t1, .u, .u, .u]) 121
    ⟨0, .u, rfl, by simp, .inl rfl, rfl⟩ (fun q' e hI => ?_)
  obtain ⟨m, t1, hm, nd, _, rfl⟩ := hI
  have hmn : m ≤ rows.length := by
    have := nodup_len rows.length _ nd fun x hx => by
      obtain ⟨k, _, rfl⟩ := List.mem_map.mp hx
      exact ss_lt M hbl hll k
    rwa [List.length_map, List.length_range] at this
  have hlast : ((List.range (m + 1)).map (ss ls rows b l)).getLast? = some (ss ls rows b l m) := by
    rw [List.range_succ, List.map_append]
    simp
  have hsm := ss_lt (ls := ls) (rows := rows) (b := b) (l := l) M hbl hll m
  walk_at "ev"
  rw [atI_m1 hlast]
  walk_at "ev"
  refine ⟨_, rfl, rfl, ?_⟩
  have hcnt : ((List.range (m + 1)).map (ss ls rows b l)).count (ss ls rows b l m) = ((List.range m).map (ss ls rows b l)).count (ss ls rows b l m) + 1 := by
    rw [List.range_succ, List.map_append, List.count_append]
    simp
  rw [count_ofN, hcnt]
  by_cases hc : ss ls rows b l m ∈ (List.range m).map (ss ls rows b l)
  · rw [if_neg (by
      have h1 := List.count_pos_iff.mpr hc
      simp
      omega)]
    walk_at "ev"
    refine ⟨by rw [szl]; omega, ?_⟩
    generalize hi0 : ((List.range (m + 1)).map (ss ls rows b l)).idxOf (ss ls rows b l m) = i0
    have hi1 : i0 < m ∧ ss ls rows b l i0 = ss ls rows b l m := by
      have h2 : i0 = ((List.range m).map (ss ls rows b l)).idxOf (ss ls rows b l m) := by
        rw [← hi0, List.range_succ, List.map_append, List.idxOf_append, if_pos hc]
      have h3 := List.idxOf_lt_length_iff.mpr hc
      rw [← h2, List.length_map, List.length_range] at h3
      refine ⟨h3, ?_⟩
      have h4 : ((List.range m).map (ss ls rows b l))[((List.range m).map (ss ls rows b l)).idxOf (ss ls rows b l m)]'(List.idxOf_lt_length_iff.mpr hc) = ss ls rows b l m := List.getElem_idxOf _
      simp only [← h2, List.getElem_map, List.getElem_range] at h4
      exact h4
    let LL := ((List.range m).map fun k => lapL ls rows l (ss ls rows b l k)).drop i0
    have hLm : ∀ y ∈ LL, y.length = l.length := fun y hy => by
      obtain ⟨k, _, rfl⟩ := List.mem_map.mp (List.mem_of_mem_drop hy)
      exact lapL_len
    have hLL : LL.length ≤ 121 := by
      show (List.drop i0 _).length ≤ 121
      rw [List.length_drop, List.length_map, List.length_range]
      omega
    have hfl : ∀ j, (LL.take j).flatten.length ≤ 121 * 8000 := fun j => by
      have : ∀ L : List (List (Nat × Nat)), (∀ y ∈ L, y.length = l.length) → L.flatten.length = L.length * l.length := by
        intro L
        induction L with
        | nil => intro _; simp
        | cons y L ih =>
          intro h
          rw [List.flatten_cons, List.length_append, ih fun z hz => h z (List.mem_cons_of_mem _ hz), h y List.mem_cons_self, List.length_cons, Nat.succ_mul, Nat.add_comm]
      rw [this _ fun y hy => hLm y (List.mem_of_mem_take hy)]
      refine Nat.mul_le_mul ?_ hl
      rw [List.length_take]
      omega
    refine for_intro (xs := LL.map fun y => .lst (y.map prD)) (e0 := [.d (mcD K ls rows), .d (wdD K b l), .l (iD (ofN (l.map fun c => ls.idxOf c))), .d (.lst (iD (ofN ((List.range (m + 1)).map (ss ls rows b l))))), .d (.lst ((List.range m).map fun k => .lst ((lapL ls rows l (ss ls rows b l k)).map prD))), t1, .l [], .u, .u]) (fun P h => ?_)
      (fun j e => ∃ t2 : Sl, (t2 = .u ∨ ∃ d, t2 = .d d) ∧ e = [.d (mcD K ls rows), .d (wdD K b l), .l (iD (ofN (l.map fun c => ls.idxOf c))), .d (.lst (iD (ofN ((List.range (m + 1)).map (ss ls rows b l))))), .d (.lst ((List.range m).map fun k => .lst ((lapL ls rows l (ss ls rows b l k)).map prD))), t1, .l ((LL.take j).flatten.map prD), t2, .u])
      ⟨.u, .inl rfl, rfl⟩ (fun j x e hx hI => ?_) fun e hI => ?_
    · walk_at "ev"
      rw [atI_m1 hlast]
      walk_at "ev"
      refine ⟨_, rfl, ?_, ?_⟩
      · exact mem_ofN.mpr (List.mem_map.mpr ⟨m, List.mem_range.mpr (Nat.lt_succ_self m), rfl⟩)
      · rw [idxOf_ofN, hi0, cut_drop]
        have : (((List.range m).map fun k => Da.lst ((lapL ls rows l (ss ls rows b l k)).map prD)).drop i0) = LL.map fun y => .lst (y.map prD) := by
          show _ = List.map _ (List.drop i0 _)
          rw [List.map_drop, List.map_map]
          rfl
        rw [this]
        exact h
    · obtain ⟨t2, _, rfl⟩ := hI
      rw [List.getElem?_map, Option.map_eq_some_iff] at hx
      obtain ⟨y, hy, rfl⟩ := hx
      have hyl := hLm y (List.mem_of_getElem? hy)
      have h5 := hfl j
      walk_at "ev"
      refine ⟨(fun z => nomatch z), by rw [szl]; omega, _, .inr ⟨.lst (y.map prD), rfl⟩, ?_⟩
      rw [List.take_add_one, hy, List.flatten_append, List.map_append]
      simp
    · obtain ⟨t2, _, rfl⟩ := hI
      walk_at "ev"
      rw [List.take_length]
      have hmem : ∀ x, x ∈ LL.flatten ↔ InfP ls rows (wd b l) x := fun x => by
        rw [inf_win (n := i0) (e := m) hl0 hi1.1 hi1.2 (Nat.le_refl _) (by omega), List.mem_flatten]
        constructor
        · rintro ⟨y, hy, hx⟩
          obtain ⟨k, hk⟩ := List.getElem?_of_mem hy
          rw [List.getElem?_drop, List.getElem?_map, Option.map_eq_some_iff] at hk
          obtain ⟨k', hk', rfl⟩ := hk
          obtain ⟨h6, h7⟩ := List.getElem?_eq_some_iff.mp hk'
          rw [List.getElem_range] at h7
          rw [List.length_range] at h6
          obtain ⟨t, ht, rfl⟩ := mem_lapL.mp hx
          exact ⟨k', t, by omega, by omega, ht, rfl⟩
        · rintro ⟨k, t, h6, h7, h8, rfl⟩
          refine ⟨lapL ls rows l (ss ls rows b l k), ?_, mem_lapL.mpr ⟨t, h8, rfl⟩⟩
          refine List.mem_of_getElem? (i := k - i0) ?_
          rw [List.getElem?_drop, List.getElem?_map, show i0 + (k - i0) = k from by omega, List.getElem?_range h7]
          rfl
      have h9 := hfl LL.length
      rw [List.take_length] at h9
      refine q LL.flatten (by omega) hmem fun e => ?_
      have h10 : lapP ls rows l (ss ls rows b l i0) 0 ∈ LL.flatten := (hmem _).mpr ((inf_win (n := i0) (e := m) hl0 hi1.1 hi1.2 (Nat.le_refl _) (by omega)).mpr ⟨i0, 0, Nat.le_refl _, hi1.1, List.length_pos_iff.mpr hl0, rfl⟩)
      rw [e] at h10
      cases h10
  · rw [if_pos (by
      rw [List.count_eq_zero.mpr hc]
      simp)]
    walk_at "ev"
    refine ⟨b, l, rfl, ?_⟩
    walk_at "ev"
    refine ⟨ls, rows, _, l, rfl, M, hsm, hll, by omega, ?_⟩
    walk_at "ev"
    rw [zipD_iD, zip_lap, atI_m1 (trk_last _ l)]
    walk_at "ev"
    refine ⟨by rw [szl, List.length_range]; omega, by rw [szl, List.length_range]; omega, q' - 1, by omega, m + 1, _, by omega, ?_, .inr ⟨.lst (iD (ofN (trk ls rows (ss ls rows b l m) l))), rfl⟩, ?_⟩
    · rw [List.range_succ, List.map_append, List.nodup_append]
      refine ⟨nd, by simp, fun x hx y hy e => ?_⟩
      rw [List.map_cons, List.map_nil, List.mem_singleton] at hy
      rw [e, hy] at hx
      exact hc hx
    · rw [← ss_succ, iD_snoc]
      have e1 : (List.range (m + 1)).map (ss ls rows b l) ++ [ss ls rows b l (m + 1)] = (List.range (m + 1 + 1)).map (ss ls rows b l) := by
        rw [List.range_succ (n := m + 1), List.map_append]
        rfl
      rw [e1, List.range_succ (n := m)]
      simp only [List.map_append, List.map_cons, List.map_nil]
end
end RK
-- EB
set_option Elab.async false
set_option linter.all false
set_option maxRecDepth 100000
set_option maxHeartbeats 4000000
namespace RK
open PySem PySem.Spec PyProof.Rows L2
local macro_rules
  | `(tactic| walk_at "ev") => `(tactic| try simp only [dVar, dC, dOp, dUn, kII, kIB, kI0, kSS, kAddS, kSign, flD, kEq, vS, onS, kIn, dasOf, dNil, dCons, dConsA, dTup, dLst, dAnd, dOr, dNot, dB, dAndT, dOrT, dNotT, dIf, dChain, kIx, dNoPart, dPart, dSlS, dSlL, dRev, dCB, k1, k2, lenD, kLen, kAll, kMax, kMM, kAbs, kInt, kList, kTuple, kSortI, kDivmod, onO, onDa, onInt, onBl, onStr, vL, onL, onT, vM, onM, toDa, dDGet, dDIn, dDGet2, dBM, dBM0, dBMS, onOwn, kAppend, kExtend, kPop, kPopAt, kClear, kIndex, kCount, kSIndex, lkF, dFld, dLR, dRg1, dRg2, dJoin, rvS, dgName, dgNil, dgCons, dgTup, diL, diT, diS, diR1, diR2, onLd, diZ, diE, diZSS, diZSL, diET, dNext, dSeq, dDrop, rtD, dRet, dRetN, dIfS, dNever, dSet, dAsg, dPar, dPar3, dFldS, dDPut, dFrz, dYes, startE, dCall, dCallM, isPot, dCallP, dMk, onObj, dMt, dPp, dCO, dRevA, kInv, kNeg, kLenO, kReprO, dFmtO, dFmtR, vD, kReprD, kReprB, dFmtD, kEqD, kCat, kCatT, clV, kIsi, kIsiT, kEqO, dCval, dCon, dJs, dJoined, diQ, diEQ, dLZ, kMulS, kSumL, dSS, kSortTs, dDisp1, fInt, fBool, fStr, fList, fSeq,
      List.map_cons, List.map_nil, List.cons_append, List.nil_append, List.length_cons, List.length_nil, List.replicate_succ, List.replicate_zero, List.append_nil, Nat.reduceAdd, Nat.reduceSub, Nat.zero_add, Nat.sub_self,
      List.getElem?_cons_zero, List.getElem?_cons_succ, List.getElem?_nil, List.set_cons_zero, List.set_cons_succ, Option.map_some, Option.map_none, List.reverse_cons, List.reverse_nil, Bool.not_true, Bool.not_false, Bool.false_eq_true, if_true, if_false, true_and, and_true, reduceCtorEq, wipeE, noOwn, Sl.own, List.all_cons, List.all_nil, Bool.and_true, Bool.true_and, Bool.and_self, List.length_map, List.not_mem_nil, not_false_eq_true, cx_K, cx_Kn, sn1, sn2, sn3, sn4, sn5, sgD, tx_list, tx_len, tx_app, tx_cut])
section
variable {P : Program} {w : World} {K : PySem.W.Frag} {mg : Str → Option Value} {base : Heap}
theorem Txt.ne_MR (T : Txt K mg) : He.ga K "Machine" ≠ He.ga K "Ranked" := fun e => by
  have h1 := of_decide_eq_true T.x_kit_rr
  have h2 := of_decide_eq_true T.x_kit_mr
  rw [e] at h2
  rw [h1] at h2
  cases h2
def lstOf : Da → Da
  | .tup xs => .lst xs
  | d => d
theorem rows_map {xs : List Da} {ranks : List (List Nat)} (hl : xs.length = ranks.length) (h : ∀ (i : Nat) (d : Da), xs[i]? = some d → ∃ r, ranks[i]? = some r ∧ RowS d r) : xs.map lstOf = lD (oN ranks) := by
  apply List.ext_getElem?
  intro i
  rw [List.getElem?_map, List.getElem?_map, List.getElem?_map]
  by_cases hi : i < xs.length
  · obtain ⟨r, hr, hs⟩ := h i _ (List.getElem?_eq_getElem hi)
    rw [List.getElem?_eq_getElem hi, hr]
    rcases hs with e | e <;> rw [e] <;> rfl
  · rw [List.getElem?_eq_none (by omega), List.getElem?_eq_none (by omega)]
    rfl
theorem rk_get {ls : List Nat} {rows ranks : List (List Nat)} (R : Rk ls rows ranks) {p c : Nat} (hp : p < rows.length) (hc : c < ls.length) : (row ranks p)[c]? = some (rkOf ranks (p, c)) := by
  have h1 : c < (row ranks p).length := by rw [R.rl _ (row_mem (by rw [R.n]; exact hp))]; exact hc
  unfold rkOf
  rw [List.getD_eq_getElem?_getD, List.getElem?_eq_getElem h1]
  rfl
theorem run_lt {ls : List Nat} {rows : List (List Nat)} (M : Mc ls rows) {w : Nat → Nat} (hw : ∀ i, w i ∈ ls) : ∀ i, run ls rows w i < rows.length
  | 0 => M.n1
  | i + 1 => (step_lt M (run_lt M hw i) (hw i)).2
theorem inf_lt {ls : List Nat} {rows : List (List Nat)} (M : Mc ls rows) {w : Nat → Nat} (hw : ∀ i, w i ∈ ls) {x : Nat × Nat} (h : InfP ls rows w x) : x.1 < rows.length ∧ x.2 < ls.length := by
  obtain ⟨i, _, rfl⟩ := h 0
  exact ⟨run_lt M hw i, List.idxOf_lt_length_iff.mpr (hw i)⟩
abbrev R_Ranked___init (K : PySem.W.Frag) : RI_ := fun ds Q => ∃ ls rows ranks x, ds = [mcD K ls rows, x] ∧ Mc ls rows ∧ Rk ls rows ranks ∧ RowsS x ranks ∧ Q ["own_machine", "own_letters", "own_ranks"] [mcD K ls rows, .str (tx ls), .lst (lD (oN ranks))]
theorem ok_Ranked___init (T : Txt K mg) : Dk P w K mg base "Ranked" (He.ga K "Ranked") 5 ["self", "machine", "ranks"] (spI K (He.ga K "Ranked") (R_Ranked___init K)) := by
  obtain ⟨fd, F, b, b2⟩ := q_Ranked___init T
  refine ⟨_, fd, okI F sc_Ranked___init (by rintro ds Q ⟨ls, rows, ranks, x, rfl, M, R, hx, q⟩; rfl) (by decide) (fun cdv A outer s H hr => ⟨_, _, ⟨
      (pss_cons (ps_if (pt_not (pt_val (pe_callB call_isi (by rfl) T.z_isinstance boot_isinstance (pa_cons (pv 1) (pa_cons (pe_glob (v := .ref (He.ga K "Machine")) rfl T.g_Machine rfl) pa_nil))))) (pss_one ps_never) pss_nil)
      (pss_cons (ps_expr (pe_callD (ok_want_ranks T) hr (pa_cons (pv 1) (pa_cons (pv 2) pa_nil))))
      (pss_cons (ps_fld (pv 0) (pv 1) rfl)
      (pss_cons (ps_fld (pv 0) (pe_propD T.cl_Machine (ok_Machine_letters T) hr (pv 1)) rfl)
      (pss_one (ps_fld (pv 0) (pe_lc (own := [("row_here", 3)]) (g := gName 3) (tt := tYes) rfl sc_Ranked___init.nd (pi_seq (pv 2)) (blkOk_by (by kernel_rfl)) (fun _ _ _ _ _ => (pg_name (i := 3) sc_Ranked___init.nd rfl (Or.inl rfl))) (fun _ _ _ _ _ => pts_nil) (fun _ _ _ _ _ => (pe_callTy call_list_of (by rfl) T.z_list boot_list (pa_cons (pv 3) pa_nil)))) rfl)))))),
      (rs_seq (rs_if (rt_not (rt_B (re_CB (rc_isi T.isi_Machine rfl) (ra_cons re_var (ra_cons (re_c fun _ => .cls _) ra_nil))))) rs_never rs_next)
      (rs_seq (rs_drop (re_call (ra_consA re_var (ra_consA re_var ra_nil))))
      (rs_seq (rs_fldS T.cl_Ranked T.na_Ranked_own_machine re_var)
      (rs_seq (rs_fldS T.cl_Ranked T.na_Ranked_own_letters (re_pp re_var))
      (rs_fldS T.cl_Ranked T.na_Ranked_own_ranks (re_lc (ri_seq re_var) (rg_name 3) rt_yes (re_CB rc_list (ra_cons re_var ra_nil)) (by decide)))))))⟩, fun ds Q h => ?_⟩), T.mk_Ranked, T.g_Ranked, b, b2⟩
  obtain ⟨ls, rows, ranks, x, rfl, M, R, hx, q⟩ := h
  obtain ⟨xs, hxs, hxl, hxr⟩ := hx
  have hn := M.n2
  have hRn := R.n
  have hmap := rows_map hxl hxr
  walk_at "ev"
  simp only [fOwn, if_true]
  walk_at "ev"
  refine ⟨ls, rows, ranks, x, rfl, M, R, ⟨xs, hxs, hxl, hxr⟩, ?_⟩
  walk_at "ev"
  refine ⟨by omega, ls, rows, rfl, ?_⟩
  walk_at "ev"
  refine ⟨by decide, by omega, ?_⟩
  refine lc_map (xs := xs) (e0 := [Sl.self (He.ga K "Ranked") ["own_machine", "own_letters"] [mcD K ls rows, .str (tx ls)], .d (mcD K ls rows), .d x, .u]) (fun P h => ?_) rfl (by rw [hxl, szl]; omega) lstOf (fun i d k k' hd hk => ?_) ?_
  · rcases hxs with rfl | rfl <;> (walk_at "ev"; exact h)
  · obtain ⟨r, hr, hs⟩ := hxr i d hd
    unfold lcB
    rcases hs with rfl | rfl <;> (walk_at "ev"; exact hk)
  · rw [hmap]
    walk_at "ev"
    exact ⟨by decide, by omega, _, _, rfl, q⟩
abbrev R_Ranked_machine (K : PySem.W.Frag) : RR := fun ds Q => ∃ ls rows ranks, ds = [rkD K ls rows ranks] ∧ Q (mcD K ls rows)
theorem ok_Ranked_machine (T : Txt K mg) : Dp0 P w K mg base (He.ga K "Ranked") "machine" 1 ["self"] (spD K (R_Ranked_machine K)) := by
  obtain ⟨fd, F, b⟩ := q_Ranked_machine T
  refine ⟨_, _, fd, okD F sc_Ranked_machine (by rintro ds Q ⟨ls, rows, ranks, rfl, q⟩; rfl) (by decide) (fun cdv A outer s H hr => ⟨_, _, ⟨
      (pss_one (ps_ret (pe_fld (pv 0) rfl))),
      (rs_ret (re_fld T.cl_Ranked T.na_Ranked_own_machine re_var))⟩, fun ds Q h => ?_⟩), T.pp_Ranked_machine, b⟩
  obtain ⟨ls, rows, ranks, rfl, q⟩ := h
  walk_at "ev"
  exact q
abbrev R_Ranked_letters (K : PySem.W.Frag) : RR := fun ds Q => ∃ ls rows ranks, ds = [rkD K ls rows ranks] ∧ Q (.str (tx ls))
theorem ok_Ranked_letters (T : Txt K mg) : Dp0 P w K mg base (He.ga K "Ranked") "letters" 1 ["self"] (spD K (R_Ranked_letters K)) := by
  obtain ⟨fd, F, b⟩ := q_Ranked_letters T
  refine ⟨_, _, fd, okD F sc_Ranked_letters (by rintro ds Q ⟨ls, rows, ranks, rfl, q⟩; rfl) (by decide) (fun cdv A outer s H hr => ⟨_, _, ⟨
      (pss_one (ps_ret (pe_fld (pv 0) rfl))),
      (rs_ret (re_fld T.cl_Ranked T.na_Ranked_own_letters re_var))⟩, fun ds Q h => ?_⟩), T.pp_Ranked_letters, b⟩
  obtain ⟨ls, rows, ranks, rfl, q⟩ := h
  walk_at "ev"
  exact q
abbrev R_Ranked_ranks (K : PySem.W.Frag) : RR := fun ds Q => ∃ ls rows ranks, ds = [rkD K ls rows ranks] ∧ Mc ls rows ∧ Rk ls rows ranks ∧ Q (.lst (lD (oN ranks)))
theorem ok_Ranked_ranks (T : Txt K mg) : Dm P w K mg base (He.ga K "Ranked") "ranks" 1 ["self"] (spD K (R_Ranked_ranks K)) := by
  obtain ⟨fd, F, b, b2⟩ := q_Ranked_ranks T
  refine ⟨_, fd, okD F sc_Ranked_ranks (by rintro ds Q ⟨ls, rows, ranks, rfl, M, R, q⟩; rfl) (by decide) (fun cdv A outer s H hr => ⟨_, _, ⟨
      (pss_one (ps_ret (pe_lc (own := [("row", 1)]) (g := gName 1) (tt := tYes) rfl sc_Ranked_ranks.nd (pi_list (pe_fld (pv 0) rfl)) (blkOk_by (by kernel_rfl)) (fun _ _ _ _ _ => (pg_name (i := 1) sc_Ranked_ranks.nd rfl (Or.inl rfl))) (fun _ _ _ _ _ => pts_nil) (fun _ _ _ _ _ => by exact (pe_callTy call_list_of (by rfl) T.z_list boot_list (pa_cons (pv 1) pa_nil)))))),
      (rs_ret (re_lc (ri_list (re_fld T.cl_Ranked T.na_Ranked_own_ranks re_var)) (rg_name 1) rt_yes (re_CB rc_list (ra_cons re_var ra_nil)) (by decide)))⟩, fun ds Q h => ?_⟩), T.me_Ranked_ranks, b, b2⟩
  obtain ⟨ls, rows, ranks, rfl, M, R, q⟩ := h
  have hn := M.n2
  have hRn := R.n
  walk_at "ev"
  refine lc_map (xs := lD (oN ranks)) (fun P h => by walk_at "ev"; exact h) rfl (by rw [lD_len, szl]; omega) (fun x => x) (fun i x k k' hx hk => ?_) (by rw [List.map_id']; exact q)
  obtain ⟨r, hr, rfl⟩ := List.mem_map.mp (List.mem_of_getElem? hx)
  unfold lcB
  walk_at "ev"
  exact hk
abbrev R_Ranked_rank (K : PySem.W.Frag) : RR := fun ds Q => ∃ ls rows ranks p c, ds = [rkD K ls rows ranks, .int ((p : Nat) : Int), .str (tx [c])] ∧ Mc ls rows ∧ Rk ls rows ranks ∧ p < rows.length ∧ c ∈ ls ∧ Q (.int (rkOf ranks (p, ls.idxOf c) : Nat))
theorem ok_Ranked_rank (T : Txt K mg) : Dm P w K mg base (He.ga K "Ranked") "rank" 5 ["self", "place", "letter"] (spD K (R_Ranked_rank K)) := by
  obtain ⟨fd, F, b, b2⟩ := q_Ranked_rank T
  refine ⟨_, fd, okD F sc_Ranked_rank (by rintro ds Q ⟨ls, rows, ranks, p, c, rfl, M, R, hp, hc, q⟩; rfl) (by decide) (fun cdv A outer s H hr => ⟨_, _, ⟨
      (pss_cons (ps_expr (pe_callD (ok_want_place T) hr (pa_cons (pe_fld (pv 0) rfl) (pa_cons (pv 1) pa_nil))))
      (pss_cons (ps_expr (pe_callD (ok_want_letter T) hr (pa_cons (pe_fld (pv 0) rfl) (pa_cons (pv 2) pa_nil))))
      (pss_one (ps_ret (pe_ix ix_seq (pe_ix ix_seq (pe_fld (pv 0) rfl) (pv 1) (fun _ _ => rfl)) (pe_bm PySem.F.plainAttrs_str PySem.F.slot_str_index PySem.F.type_str_index mt_sindex (pe_fld (pv 0) rfl) (pa_cons (pv 2) pa_nil)) (fun _ _ => rfl)))))),
      (rs_seq (rs_drop (re_call (ra_consA (re_fld T.cl_Ranked T.na_Ranked_own_machine re_var) (ra_consA re_var ra_nil))))
      (rs_seq (rs_drop (re_call (ra_consA (re_fld T.cl_Ranked T.na_Ranked_own_machine re_var) (ra_consA re_var ra_nil))))
      (rs_ret (re_op ro_ix (re_op ro_ix (re_fld T.cl_Ranked T.na_Ranked_own_ranks re_var) re_var) (re_bmS rm_sindex (re_fld T.cl_Ranked T.na_Ranked_own_letters re_var) (ra_cons re_var ra_nil))))))⟩, fun ds Q h => ?_⟩), T.me_Ranked_rank, b, b2⟩
  obtain ⟨ls, rows, ranks, p, c, rfl, M, R, hp, hc, q⟩ := h
  have hn := M.n2
  walk_at "ev"
  refine ⟨ls, rows, p, rfl, by omega, hp, ?_⟩
  walk_at "ev"
  refine ⟨ls, rows, c, rfl, hc, ?_⟩
  walk_at "ev"
  rw [atI_row (rows := ranks) (by rw [R.n]; exact hp)]
  walk_at "ev"
  refine ⟨c, rfl, hc, fun j hj => ?_⟩
  rw [idx_of_get M.ris.nodup hj, atI_iD (rk_get R hp (List.idxOf_lt_length_iff.mpr hc))]
  exact q
abbrev R_Ranked_greatest (K : PySem.W.Frag) : RR := fun ds Q => ∃ ls rows ranks b l, ds = [rkD K ls rows ranks, wdD K b l] ∧ Mc ls rows ∧ Rk ls rows ranks ∧ Low b ∧ Low l ∧ (∀ c, c ∈ b ∨ c ∈ l → c ∈ ls) ∧ b.length ≤ 8000 ∧ l.length ≤ 8000 ∧ l ≠ [] ∧ ∀ r : Nat, IsTop ls rows ranks (wd b l) r → Q (.int (r : Nat))
theorem ok_Ranked_greatest (T : Txt K mg) : Dm P w K mg base (He.ga K "Ranked") "greatest" 5 ["self", "word"] (spD K (R_Ranked_greatest K)) := by
  obtain ⟨fd, F, b, b2⟩ := q_Ranked_greatest T
  refine ⟨_, fd, okD F sc_Ranked_greatest (by rintro ds Q ⟨ls, rows, ranks, b, l, rfl, M, R, lb, ll, hin, hb, hl, hl0, q⟩; rfl) (by decide) (fun cdv A outer s H hr => ⟨_, _, ⟨
      (pss_cons (ps_expr (pe_callD (ok_want_word T) hr (pa_cons (pe_fld (pv 0) rfl) (pa_cons (pv 1) pa_nil))))
      (pss_one (ps_ret (pe_callB (cr_max rfl) (by rfl) T.z_max boot_max (pa_cons (pe_lc (own := [("place", 2), ("number", 3)]) (g := gTup _ 2 (gCons (gName 2) (gCons (gName 3) gNil))) (tt := tYes) rfl sc_Ranked_greatest.nd (pi_list (pe_callD (ok_kept_steps T) hr (pa_cons (pe_fld (pv 0) rfl) (pa_cons (pv 1) pa_nil)))) (blkOk_by (by kernel_rfl)) (fun _ _ _ _ _ => (pg_tup (n := 2) (by rfl) (pgs_cons (pg_name (i := 2) sc_Ranked_greatest.nd rfl (Or.inl rfl)) (pgs_cons (pg_name (i := 3) sc_Ranked_greatest.nd rfl (Or.inl rfl)) pgs_nil)))) (fun _ _ _ _ _ => pts_nil) (fun _ _ _ _ _ => by exact (pe_ix ix_seq (pe_ix ix_seq (pe_fld (pv 0) rfl) (pv 2) (fun _ _ => rfl)) (pv 3) (fun _ _ => rfl)))) pa_nil))))),
      (rs_seq (rs_drop (re_call (ra_consA (re_fld T.cl_Ranked T.na_Ranked_own_machine re_var) (ra_consA re_var ra_nil))))
      (rs_ret (re_CB rc_max (ra_cons (re_lc (ri_list (re_call (ra_consA (re_fld T.cl_Ranked T.na_Ranked_own_machine re_var) (ra_consA re_var ra_nil)))) (rg_tup (n := 2) (rgs_cons (rg_name 2) (rgs_cons (rg_name 3) rgs_nil))) rt_yes (re_op ro_ix (re_op ro_ix (re_fld T.cl_Ranked T.na_Ranked_own_ranks re_var) re_var) re_var) (by decide)) ra_nil))))⟩, fun ds Q h => ?_⟩), T.me_Ranked_greatest, b, b2⟩
  obtain ⟨ls, rows, ranks, b, l, rfl, M, R, lb, ll, hin, hb, hl, hl0, q⟩ := h
  have hw : ∀ i, wd b l i ∈ ls := fun i => (wd_mem hl0 i).elim (fun h => hin _ (.inl h)) fun h => hin _ (.inr h)
  walk_at "ev"
  refine ⟨ls, rows, b, l, rfl, lb, ll, hb, hl, hin, ?_⟩
  walk_at "ev"
  refine lc_open ?_
  walk_at "ev"
  refine ⟨ls, rows, b, l, rfl, M, hin, hb, hl, hl0, fun fs hfl hfs hne => ?_⟩
  walk_at "ev"
  refine lc_map_in rfl (by rw [List.length_map, szl]; omega) (fun x => match x with | .tup [.int a, .int c] => .int (rkOf ranks (a.toNat, c.toNat) : Nat) | x => x) (fun i x k k' hx hk => ?_) ?_
  · rw [List.getElem?_map, Option.map_eq_some_iff] at hx
    obtain ⟨e, he, rfl⟩ := hx
    obtain ⟨h1, h2⟩ := inf_lt M hw ((hfs e).mp (List.mem_of_getElem? he))
    unfold lcB
    walk_at "ev"
    rw [atI_row (rows := ranks) (by rw [R.n]; exact h1)]
    walk_at "ev"
    rw [atI_iD (rk_get R h1 h2)]
    exact hk
  · walk_at "ev"
    refine ⟨ofN (fs.map (rkOf ranks)), ?_, ?_, fun m hm hmx => ?_⟩
    · show List.map _ (List.map _ fs) = List.map _ (List.map _ (List.map _ fs))
      rw [List.map_map, List.map_map, List.map_map]
      rfl
    · rw [List.length_map, List.length_map]
      exact List.length_pos_iff.mpr hne
    · obtain ⟨m0, hm0, rfl⟩ := List.mem_map.mp hm
      obtain ⟨e, he, rfl⟩ := List.mem_map.mp hm0
      refine q (rkOf ranks e) ⟨⟨e, (hfs e).mp he, rfl⟩, fun x hx => ?_⟩
      have := hmx (Int.ofNat (rkOf ranks x)) (List.mem_map.mpr ⟨_, List.mem_map.mpr ⟨x, (hfs x).mpr hx, rfl⟩, rfl⟩)
      exact Int.ofNat_le.mp this
/-- the steps with their ranks -/
def lkD (rows ranks : List (List Nat)) (k : Nat) : List Da := (List.range k).flatMap fun p => ((row rows p).zip (row ranks p)).map fun e => Da.tup [.int (p : Int), .int (e.1 : Int), .int (e.2 : Int)]
/-- k is the rank of a step that lies in a part -/
def Usd (rows ranks : List (List Nat)) (k : Nat) : Prop := ∃ (p i g : Nat), p < rows.length ∧ (row rows p)[i]? = some g ∧ (row ranks p)[i]? = some k ∧ Rch (stE rows) g p
abbrev R_links_of (K : PySem.W.Frag) : RR := fun ds Q => ∃ ls rows ranks, ds = [rkD K ls rows ranks] ∧ Mc ls rows ∧ Rk ls rows ranks ∧ Q (.lst (lkD rows ranks rows.length))
theorem lkD_succ (rows ranks : List (List Nat)) (k : Nat) : lkD rows ranks (k + 1) = lkD rows ranks k ++ ((row rows k).zip (row ranks k)).map fun e => Da.tup [.int (k : Int), .int (e.1 : Int), .int (e.2 : Int)] := by
  unfold lkD
  rw [List.range_succ, List.flatMap_append]
  simp
theorem lkD_len {ls : List Nat} {rows ranks : List (List Nat)} (M : Mc ls rows) (R : Rk ls rows ranks) : ∀ k, k ≤ rows.length → (lkD rows ranks k).length = k * ls.length
  | 0, _ => by simp [lkD]
  | k + 1, h => by rw [lkD_succ, List.length_append, List.length_map, lkD_len M R k (by omega), List.length_zip, M.rl _ (row_mem (by omega)), R.rl _ (row_mem (by rw [R.n]; omega)), Nat.succ_mul, Nat.min_self]
theorem ok_links_of (T : Txt K mg) : Df P w K mg base "links_of" 1 ["ranked"] (spD K (R_links_of K)) := by
  obtain ⟨fd, F, b⟩ := q_links_of T
  refine ⟨_, fd, okD F sc_links_of (by rintro ds Q ⟨ls, rows, ranks, rfl, M, R, q⟩; rfl) (by decide) (fun cdv A outer s H hr => ⟨_, _, ⟨
      (pss_cons (ps_set (i := 1) sc_links_of.nd rfl (Or.inl rfl) (pe_lst pa_nil))
      (pss_cons (ps_for PassesOwn.never rfl (pi_enum (by rfl) T.z_enumerate (pa_cons (pe_fld (pe_fld (pv 0) rfl) rfl) pa_nil)) (pg_tup (n := 2) (by rfl) (pgs_cons (pg_name (i := 2) sc_links_of.nd rfl (Or.inr rfl)) (pgs_cons (pg_name (i := 3) sc_links_of.nd rfl (Or.inl rfl)) pgs_nil)))
      (pss_one (ps_expr (pe_bm PySem.F.plainAttrs_list PySem.F.slot_list_extend PySem.F.type_list_extend mt_extend (pv 1) (pa_cons (pe_lc (own := [("goal", 4), ("rank", 5)]) (g := gTup _ 2 (gCons (gName 4) (gCons (gName 5) gNil))) (tt := tYes) rfl sc_links_of.nd (pi_zip (by rfl) T.z_zip (pa_cons (pv 3) (pa_cons (pe_ix ix_seq (pe_fld (pv 0) rfl) (pv 2) (fun _ _ => rfl)) pa_nil))) (blkOk_by (by kernel_rfl)) (fun _ _ _ _ _ => (pg_tup (n := 2) (by rfl) (pgs_cons (pg_name (i := 4) sc_links_of.nd rfl (Or.inl rfl)) (pgs_cons (pg_name (i := 5) sc_links_of.nd rfl (Or.inl rfl)) pgs_nil)))) (fun _ _ _ _ _ => pts_nil) (fun _ _ _ _ _ => by exact (pe_tup (pa_cons (pv 2) (pa_cons (pv 4) (pa_cons (pv 5) pa_nil)))))) pa_nil)))))
      (pss_one (ps_ret (pv 1))))),
      (rs_seq (rs_set 1 (re_lst ra_nil))
      (rs_seq (rs_for (ri_enum (ra_consA (re_fld T.cl_Machine T.na_Machine_own_rows (re_fld T.cl_Ranked T.na_Ranked_own_machine re_var)) ra_nil)) (rg_tup (n := 2) (rgs_cons (rg_name 2) (rgs_cons (rg_name 3) rgs_nil)))
      (rs_drop (re_bm rm_extend re_var (ra_cons (re_lc (ri_zip (ra_consA re_var (ra_consA (re_op ro_ix (re_fld T.cl_Ranked T.na_Ranked_own_ranks re_var) re_var) ra_nil))) (rg_tup (n := 2) (rgs_cons (rg_name 4) (rgs_cons (rg_name 5) rgs_nil))) rt_yes (re_tup (ra_consA re_var (ra_consA re_var (ra_consA re_var ra_nil)))) (by decide)) ra_nil))))
      (rs_ret re_var)))⟩, fun ds Q h => ?_⟩), T.g_links_of, F.kp, b⟩
  obtain ⟨ls, rows, ranks, rfl, M, R, q⟩ := h
  have hn := M.n2
  have hl3 := M.l3
  walk_at "ev"
  refine ⟨by rw [szl]; omega, ?_⟩
  refine for_intro (xs := enumD (lD (oN rows))) (fun P h => by walk_at "ev"; exact h)
    (fun i e => ∃ t1 t2 : Sl, (t1 = .u ∨ ∃ d, t1 = .d d) ∧ (t2 = .u ∨ ∃ d, t2 = .d d) ∧ e = [.d (rkD K ls rows ranks), .l (lkD rows ranks i), t1, t2, .u, .u]) ⟨.u, .u, .inl rfl, .inl rfl, rfl⟩ (fun i x e hx hI => ?_) fun e hI => ?_
  · obtain ⟨y, rfl, hy⟩ := enumD_get hx
    have hi := (List.getElem?_eq_some_iff.mp hy).1
    rw [lD_len] at hi
    rw [lD_get hi] at hy
    cases hy
    obtain ⟨t1, t2, _, _, rfl⟩ := hI
    have hrl := M.rl _ (row_mem hi)
    have hkl := R.rl _ (row_mem (rows := ranks) (p := i) (by rw [R.n]; exact hi))
    have hlen := lkD_len M R i (by omega)
    have him : i * ls.length ≤ 120 * 3 := Nat.mul_le_mul (by omega) (by omega)
    walk_at "ev"
    refine lc_map (xs := zipD (iD (ofN (row rows i))) (iD (ofN (row ranks i)))) (e0 := [.d (rkD K ls rows ranks), .l (lkD rows ranks i), .d (.int (i : Nat)), .d (.lst (iD (ofN (row rows i)))), .u, .u]) (fun P h => ?_) rfl (by rw [zipD_len, List.length_map, List.length_map, szl]; omega)
      (fun x => match x with | .tup [a, b] => .tup [.int (i : Nat), a, b] | x => x) (fun j x k k' hx hk => ?_) ?_
    · walk_at "ev"
      rw [atI_row (rows := ranks) (by rw [R.n]; exact hi)]
      exact h
    · obtain ⟨a, b, rfl, ha, hb⟩ := zipD_get hx
      obtain ⟨g, hg, rfl⟩ := iD_mem ha
      obtain ⟨r, hr, rfl⟩ := iD_mem hb
      unfold lcB
      walk_at "ev"
      exact ⟨by rw [szl]; omega, hk⟩
    · rw [zipD_iD, List.map_map]
      walk_at "ev"
      refine ⟨(fun z => nomatch z), ?_, _, _, .inr ⟨.int (i : Nat), rfl⟩, .inr ⟨.lst (iD (ofN (row rows i))), rfl⟩, ?_⟩
      · rw [List.length_zip, szl]
        omega
      · rw [lkD_succ]
        rfl
  · obtain ⟨t1, t2, _, _, rfl⟩ := hI
    rw [enumD_len, lD_len]
    walk_at "ev"
    exact q
abbrev R_Ranked_used (K : PySem.W.Frag) : RR := fun ds Q => ∃ ls rows ranks, ds = [rkD K ls rows ranks] ∧ Mc ls rows ∧ Rk ls rows ranks ∧ ∀ u : List Nat, u.Pairwise (· < ·) → (∀ k, k ∈ u ↔ Usd rows ranks k) → Q (.lst (iD (ofN u)))
def lkN (rows ranks : List (List Nat)) (k : Nat) : List (Nat × Nat × Nat) := (List.range k).flatMap fun p => ((row rows p).zip (row ranks p)).map fun e => (p, e.1, e.2)
def triD (e : Nat × Nat × Nat) : Da := .tup [.int (e.1 : Int), .int (e.2.1 : Int), .int (e.2.2 : Int)]
theorem lkD_N (rows ranks : List (List Nat)) (k : Nat) : lkD rows ranks k = (lkN rows ranks k).map triD := by
  unfold lkD lkN
  rw [List.map_flatMap]
  congr 1
  funext p
  rw [List.map_map]
  rfl
theorem lkN_mem {rows ranks : List (List Nat)} {n p g k : Nat} : (p, g, k) ∈ lkN rows ranks n ↔ p < n ∧ ∃ i : Nat, (row rows p)[i]? = some g ∧ (row ranks p)[i]? = some k := by
  unfold lkN
  rw [List.mem_flatMap]
  constructor
  · rintro ⟨p', hp, h⟩
    obtain ⟨⟨a, b⟩, he, e⟩ := List.mem_map.mp h
    cases e
    obtain ⟨i, hi⟩ := List.getElem?_of_mem he
    exact ⟨List.mem_range.mp hp, i, List.getElem?_zip_eq_some.mp hi⟩
  · rintro ⟨hp, i, h1, h2⟩
    exact ⟨p, List.mem_range.mpr hp, List.mem_map.mpr ⟨(g, k), List.mem_of_getElem? (List.getElem?_zip_eq_some.mpr ⟨h1, h2⟩), rfl⟩⟩
/-- the ranks of the steps within the group -/
def grR (L : List (Nat × Nat × Nat)) (gr : List Nat) : List Nat := (L.filter fun e => decide (e.1 ∈ gr) && decide (e.2.1 ∈ gr)).map (·.2.2)
theorem grR_mem {L : List (Nat × Nat × Nat)} {gr : List Nat} {k : Nat} : k ∈ grR L gr ↔ ∃ p g, (p, g, k) ∈ L ∧ p ∈ gr ∧ g ∈ gr := by
  unfold grR
  rw [List.mem_map]
  constructor
  · rintro ⟨⟨p, g, k'⟩, h, rfl⟩
    rw [List.mem_filter, Bool.and_eq_true, decide_eq_true_eq, decide_eq_true_eq] at h
    exact ⟨p, g, h⟩
  · rintro ⟨p, g, h⟩
    exact ⟨(p, g, k), by rw [List.mem_filter, Bool.and_eq_true, decide_eq_true_eq, decide_eq_true_eq]; exact h, rfl⟩
theorem cnt_or {α : Type} {p q r : α → Bool} : ∀ {L : List α}, (∀ e, p e = true → q e = true → False) → (∀ e, p e = true → r e = true) → (∀ e, q e = true → r e = true) → L.countP p + L.countP q ≤ L.countP r
  | [], _, _, _ => Nat.le_refl _
  | e :: L, h1, h2, h3 => by
    have ih := cnt_or (L := L) h1 h2 h3
    rw [List.countP_cons, List.countP_cons, List.countP_cons]
    have a1 := h1 e
    have a2 := h2 e
    have a3 := h3 e
    cases hp : p e <;> cases hq : q e <;> cases hr : r e <;> simp_all <;> omega
theorem grR_len (L : List (Nat × Nat × Nat)) : ∀ {gs : List (List Nat)}, (gs.Pairwise fun a b => ∀ p ∈ a, p ∉ b) → (gs.flatMap (grR L)).length ≤ L.countP fun e => gs.any fun gr => decide (e.1 ∈ gr)
  | [], _ => by simp
  | gr :: gs, h => by
    rw [List.pairwise_cons] at h
    have ih := grR_len L h.2
    rw [List.flatMap_cons, List.length_append]
    have h1 : (grR L gr).length ≤ L.countP fun e => decide (e.1 ∈ gr) := by
      unfold grR
      rw [List.length_map, ← List.countP_eq_length_filter]
      refine List.countP_mono_left fun e _ he => ?_
      rw [Bool.and_eq_true] at he
      exact he.1
    refine Nat.le_trans (Nat.add_le_add h1 ih) (cnt_or (fun e ha hb => ?_) (fun e ha => ?_) fun e hb => ?_)
    · rw [List.any_eq_true] at hb
      obtain ⟨g2, h3, h4⟩ := hb
      exact h.1 g2 h3 e.1 (of_decide_eq_true ha) (of_decide_eq_true h4)
    · rw [List.any_cons, ha]
      rfl
    · rw [List.any_cons, hb, Bool.or_true]
theorem tri_f (e : Nat × Nat × Nat) (gr : List Nat) : True := True.intro
/-- the ranks found are the used ones -/
theorem used_is {rows ranks : List (List Nat)} {gs : List (List Nat)} (hg : GoodParts (stE rows) gs) (k : Nat) : k ∈ gs.flatMap (grR (lkN rows ranks rows.length)) ↔ Usd rows ranks k := by
  rw [List.mem_flatMap]
  constructor
  · rintro ⟨gr, hgr, h⟩
    obtain ⟨p, g, h1, h2, h3⟩ := grR_mem.mp h
    obtain ⟨hp, i, h4, h5⟩ := lkN_mem.mp h1
    exact ⟨p, i, g, hp, h4, h5, hg.1 gr hgr g h3 p h2⟩
  · rintro ⟨p, i, g, hp, h4, h5, h6⟩
    obtain ⟨gr, hgr, h7, h8⟩ := hg.2.1 p g (stP_mem.mpr ⟨hp, List.mem_of_getElem? h4⟩) h6
    exact ⟨gr, hgr, grR_mem.mpr ⟨p, g, lkN_mem.mpr ⟨hp, i, h4, h5⟩, h7, h8⟩⟩
theorem ok_Ranked_used (T : Txt K mg) : Dm P w K mg base (He.ga K "Ranked") "used" 5 ["self"] (spD K (R_Ranked_used K)) := by
  obtain ⟨fd, F, b, b2⟩ := q_Ranked_used T
  refine ⟨_, fd, okD F sc_Ranked_used (by rintro ds Q ⟨ls, rows, ranks, rfl, M, R, q⟩; rfl) (by decide) (fun cdv A outer s H hr => ⟨_, _, ⟨
      (pss_cons (ps_set (i := 1) sc_Ranked_used.nd rfl (Or.inl rfl) (pe_lst pa_nil))
      (pss_cons (ps_for PassesOwn.never rfl (pi_list (pe_callD (ok_parts T) hr (pa_cons (pe_fld (pv 0) rfl) pa_nil))) (pg_name (i := 2) sc_Ranked_used.nd rfl (Or.inr rfl))
      (pss_one (ps_expr (pe_bm PySem.F.plainAttrs_list PySem.F.slot_list_extend PySem.F.type_list_extend mt_extend (pv 1) (pa_cons (pe_lc (own := [("start", 3), ("goal", 4), ("rank", 5)]) (g := gTup _ 3 (gCons (gName 3) (gCons (gName 4) (gCons (gName 5) gNil)))) rfl sc_Ranked_used.nd (pi_list (pe_callD (ok_links_of T) hr (pa_cons (pv 0) pa_nil))) (blkOk_by (by kernel_rfl)) (fun _ _ _ _ _ => (pg_tup (n := 3) (by rfl) (pgs_cons (pg_name (i := 3) sc_Ranked_used.nd rfl (Or.inl rfl)) (pgs_cons (pg_name (i := 4) sc_Ranked_used.nd rfl (Or.inl rfl)) (pgs_cons (pg_name (i := 5) sc_Ranked_used.nd rfl (Or.inl rfl)) pgs_nil))))) (fun _ _ _ _ _ => pts_one (PW.pt (pw_and (pt_cmpR op_in_seq (pv 3) (pv 2) rfl) (pw_and1 (pt_cmpR op_in_seq (pv 4) (pv 2) rfl))))) (fun _ _ _ _ _ => by exact (pv 5))) pa_nil)))))
      (pss_one (ps_ret (pe_sortedSet rfl (by rfl) T.z_sorted (by rfl) T.z_set (pv 1)))))),
      (rs_seq (rs_set 1 (re_lst ra_nil))
      (rs_seq (rs_for (ri_list (re_call (ra_consA (re_fld T.cl_Ranked T.na_Ranked_own_machine re_var) ra_nil))) (rg_name 2)
      (rs_drop (re_bm rm_extend re_var (ra_cons (re_lc (ri_list (re_call (ra_consA re_var ra_nil))) (rg_tup (n := 3) (rgs_cons (rg_name 3) (rgs_cons (rg_name 4) (rgs_cons (rg_name 5) rgs_nil)))) (rt_and (rt_test (re_op (ro_inN false) re_var re_var)) (rt_test (re_op (ro_inN false) re_var re_var))) re_var (by decide)) ra_nil))))
      (rs_ret (re_sortedSet re_var))))⟩, fun ds Q h => ?_⟩), T.me_Ranked_used, b, b2⟩
  obtain ⟨ls, rows, ranks, rfl, M, R, q⟩ := h
  have hn := M.n2
  have hl3 := M.l3
  have hLl : (lkN rows ranks rows.length).length ≤ 360 := by
    have h1 := lkD_len M R rows.length (Nat.le_refl _)
    rw [lkD_N, List.length_map] at h1
    have : rows.length * ls.length ≤ 120 * 3 := Nat.mul_le_mul (by omega) (by omega)
    omega
  walk_at "ev"
  refine ⟨by rw [szl]; omega, ?_⟩
  unfold dFor
  walk_at "ev"
  refine ⟨ls, rows, rfl, M, fun gs hg => ?_⟩
  have hfl : ∀ i, ((gs.take i).flatMap (grR (lkN rows ranks rows.length))).length ≤ 360 := fun i => by
    refine Nat.le_trans (grR_len _ (List.Pairwise.sublist (List.take_sublist i gs) hg.2.2)) (Nat.le_trans (List.countP_le_length) hLl)
  refine ⟨fun i e => ∃ t1 : Sl, (t1 = .u ∨ ∃ d, t1 = .d d) ∧ e = [.d (rkD K ls rows ranks), .l (iD (ofN ((gs.take i).flatMap (grR (lkN rows ranks rows.length))))), t1, .u, .u, .u], ⟨.u, .inl rfl, rfl⟩, fun i x e hx hI => ?_, fun e hI => ?_⟩
  · obtain ⟨t1, _, rfl⟩ := hI
    rw [List.getElem?_map, List.getElem?_map, Option.map_eq_some_iff] at hx
    obtain ⟨gr0, hgr0, rfl⟩ := hx
    obtain ⟨gr, hgr, rfl⟩ := Option.map_eq_some_iff.mp hgr0
    have h6 := hfl i
    have h7 := hfl (i + 1)
    have ht : (gs.take (i + 1)).flatMap (grR (lkN rows ranks rows.length)) = (gs.take i).flatMap (grR (lkN rows ranks rows.length)) ++ grR (lkN rows ranks rows.length) gr := by
      rw [List.take_add_one, hgr, List.flatMap_append]
      simp
    rw [ht, List.length_append] at h7
    walk_at "ev"
    refine lc_open ?_
    walk_at "ev"
    refine ⟨ls, rows, ranks, rfl, M, R, ?_⟩
    rw [lkD_N]
    refine lc_fm_in rfl (by rw [List.length_map, szl]; omega) (fun x => match x with | .tup [.int a, .int b, .int c] => if decide (a.toNat ∈ gr) && decide (b.toNat ∈ gr) then some (.int c) else none | _ => none) (fun j x k k' hx hk hk' => ?_) ?_
    · obtain ⟨⟨p, g, r⟩, he, rfl⟩ := List.mem_map.mp (List.mem_of_getElem? hx)
      unfold lcB triD
      walk_at "ev"
      refine ⟨ofN gr, rfl, ?_⟩
      rw [in_ofN]
      by_cases hp : p ∈ gr
      · rw [decide_eq_true hp, if_pos rfl]
        refine ⟨ofN gr, rfl, ?_⟩
        rw [in_ofN]
        by_cases hg2 : g ∈ gr
        · rw [decide_eq_true hg2]
          walk_at "ev"
          exact hk _ (if_pos (by simp [hp, hg2]))
        · rw [decide_eq_false hg2]
          walk_at "ev"
          exact hk' (if_neg (by simp [hg2]))
      · rw [decide_eq_false hp]
        walk_at "ev"
        exact hk' (if_neg (by simp [hp]))
    · have hres : ((lkN rows ranks rows.length).map triD).filterMap (fun x => match x with | .tup [.int a, .int b, .int c] => if decide (a.toNat ∈ gr) && decide (b.toNat ∈ gr) then some (.int c) else none | _ => none) = iD (ofN (grR (lkN rows ranks rows.length) gr)) := by
        unfold grR
        generalize lkN rows ranks rows.length = L
        induction L with
        | nil => rfl
        | cons e L ih =>
          obtain ⟨p, g, r⟩ := e
          rw [List.map_cons, List.filterMap_cons, ih, List.filter_cons]
          simp only [triD, Int.toNat_natCast]
          by_cases hc : (decide (p ∈ gr) && decide (g ∈ gr)) = true
          · rw [if_pos hc, if_pos hc]
            rfl
          · rw [if_neg hc, if_neg hc]
      rw [hres]
      walk_at "ev"
      refine ⟨(fun z => nomatch z), by rw [szl]; omega, _, .inr ⟨.tup (iD (ofN gr)), rfl⟩, ?_⟩
      rw [ht]
      simp only [ofN, iD, List.map_append]
  · obtain ⟨t1, _, rfl⟩ := hI
    have h6 := hfl gs.length
    rw [List.take_length] at h6
    rw [List.length_map, List.length_map, List.take_length]
    walk_at "ev"
    refine ⟨_, rfl, by rw [List.length_map]; omega, fun l hnd hl => ?_, fun ns' hs hm => ?_⟩
    · have h8 := nodup_len 13 (l.map Int.toNat) ?_ ?_
      · rw [List.length_map] at h8
        omega
      · show List.Pairwise (· ≠ ·) _
        rw [List.pairwise_map]
        refine List.Pairwise.imp_of_mem ?_ hnd
        intro a b ha hb hab e
        obtain ⟨a', _, rfl⟩ := List.mem_map.mp (hl a ha)
        obtain ⟨b', _, rfl⟩ := List.mem_map.mp (hl b hb)
        exact hab (congrArg Int.ofNat e)
      · intro x hx
        obtain ⟨y, hy, rfl⟩ := List.mem_map.mp hx
        obtain ⟨a, ha, rfl⟩ := List.mem_map.mp (hl y hy)
        obtain ⟨p, i, g, hp, h1, h2, _⟩ := (used_is hg a).mp ha
        have := R.rb _ (row_mem (rows := ranks) (p := p) (by rw [R.n]; exact hp)) a (List.mem_of_getElem? h2)
        show (Int.ofNat a).toNat < 13
        simp
        omega
    · have hns : ns' = ofN (ns'.map Int.toNat) := by
        show ns' = List.map _ (List.map _ ns')
        rw [List.map_map]
        have : ∀ y ∈ ns', ((fun n : Nat => Int.ofNat n) ∘ Int.toNat) y = y := fun y hy => by
          obtain ⟨a, _, rfl⟩ := List.mem_map.mp ((hm y).mp hy)
          rfl
        rw [List.map_congr_left this, List.map_id']
      rw [hns]
      refine q _ ?_ fun k => ?_
      · rw [List.pairwise_map]
        refine List.Pairwise.imp_of_mem ?_ hs
        intro a b ha hb hab
        obtain ⟨a', _, rfl⟩ := List.mem_map.mp ((hm a).mp ha)
        obtain ⟨b', _, rfl⟩ := List.mem_map.mp ((hm b).mp hb)
        exact Int.ofNat_lt.mp hab
      · rw [← used_is hg k]
        have h9 := hm (k : Int)
        rw [mem_ofN] at h9
        rw [← h9]
        constructor
        · intro hk
          obtain ⟨y, hy, rfl⟩ := List.mem_map.mp hk
          obtain ⟨a, _, rfl⟩ := List.mem_map.mp ((hm y).mp hy)
          exact hy
        · intro hk
          exact List.mem_map.mpr ⟨(k : Int), hk, rfl⟩
abbrev R_Ranked___call (K : PySem.W.Frag) : RR := fun ds Q => ∃ ls rows ranks b l, ds = [rkD K ls rows ranks, wdD K b l] ∧ Mc ls rows ∧ Rk ls rows ranks ∧ Low b ∧ Low l ∧ (∀ c, c ∈ b ∨ c ∈ l → c ∈ ls) ∧ b.length ≤ 8000 ∧ l.length ≤ 8000 ∧ l ≠ [] ∧ ∀ r : Nat, IsTop ls rows ranks (wd b l) r → Q (.bl (decide (r % 2 = 0)))
theorem ok_Ranked___call (T : Txt K mg) : Dm P w K mg base (He.ga K "Ranked") "__call__" 6 ["self", "word"] (spD K (R_Ranked___call K)) := by
  obtain ⟨fd, F, b, b2⟩ := q_Ranked___call T
  refine ⟨_, fd, okD F sc_Ranked___call (by rintro ds Q ⟨ls, rows, ranks, b, l, rfl, M, R, lb, ll, hin, hb, hl, hl0, q⟩; rfl) (by decide) (fun cdv A outer s H hr => ⟨_, _, ⟨
      (pss_one (ps_ret (pe_cmpR op_eq (pe_op op_mod (pe_callTy call_int1 (by rfl) T.z_int boot_int (pa_cons (pe_methD T.cl_Ranked (ok_Ranked_greatest T) hr (pv 0) (pa_cons (pv 1) pa_nil)) pa_nil)) pe_int) pe_int (nomark _)))),
      (rs_ret (re_op ro_eq (re_op ro_I (re_CB rc_int (ra_cons (re_mt re_var (ra_consA re_var ra_nil)) ra_nil)) (re_c fun _ => .int _)) (re_c fun _ => .int _)))⟩, fun ds Q h => ?_⟩), T.me_Ranked___call__, b, b2⟩
  obtain ⟨ls, rows, ranks, b, l, rfl, M, R, lb, ll, hin, hb, hl, hl0, q⟩ := h
  walk_at "ev"
  refine ⟨by decide, ls, rows, ranks, b, l, rfl, M, R, lb, ll, hin, hb, hl, hl0, fun r hr => ?_⟩
  walk_at "ev"
  refine ⟨by omega, rfl, ?_⟩
  have e : decide (V.int ((r : Int) % 2) = V.int 0) = decide (r % 2 = 0) := by
    rw [Bool.eq_iff_iff, decide_eq_true_eq, decide_eq_true_eq]
    constructor
    · intro z
      injection z with z
      omega
    · intro z
      congr 1
      omega
  rw [e]
  exact q r hr
def upR (ranks : List (List Nat)) : List (List Nat) := ranks.map fun r => r.map (· + 1)
abbrev R_Ranked___invert (K : PySem.W.Frag) : RR := fun ds Q => ∃ ls rows ranks, ds = [rkD K ls rows ranks] ∧ Mc ls rows ∧ Rk ls rows ranks ∧ (∀ r ∈ ranks, ∀ k ∈ r, k ≤ 11) ∧ Q (rkD K ls rows (upR ranks))
theorem up_rk {ls : List Nat} {rows ranks : List (List Nat)} (R : Rk ls rows ranks) (h : ∀ r ∈ ranks, ∀ k ∈ r, k ≤ 11) : Rk ls rows (upR ranks) := by
  refine ⟨by unfold upR; rw [List.length_map]; exact R.n, fun r hr => ?_, fun r hr k hk => ?_⟩
  · obtain ⟨r0, h0, rfl⟩ := List.mem_map.mp hr
    rw [List.length_map]
    exact R.rl r0 h0
  · obtain ⟨r0, h0, rfl⟩ := List.mem_map.mp hr
    obtain ⟨k0, hk0, rfl⟩ := List.mem_map.mp hk
    have := h r0 h0 k0 hk0
    omega
theorem rowsS_lD (ranks : List (List Nat)) : RowsS (.lst (lD (oN ranks))) ranks := by
  refine ⟨_, .inl rfl, by rw [lD_len], fun i d hd => ?_⟩
  rw [List.getElem?_map, List.getElem?_map, Option.map_eq_some_iff] at hd
  obtain ⟨r0, hr0, rfl⟩ := hd
  obtain ⟨r, hr, rfl⟩ := Option.map_eq_some_iff.mp hr0
  exact ⟨r, hr, .inl rfl⟩
theorem ok_Ranked___invert (T : Txt K mg) : Dm P w K mg base (He.ga K "Ranked") "__invert__" 7 ["self"] (spD K (R_Ranked___invert K)) := by
  obtain ⟨fd, F, b, b2⟩ := q_Ranked___invert T
  refine ⟨_, fd, okD F sc_Ranked___invert (by rintro ds Q ⟨ls, rows, ranks, rfl, M, R, h11, q⟩; rfl) (by decide) (fun cdv A outer s H hr => ⟨_, _, ⟨
      (pss_cons (ps_if (pt_val (pe_callB (cr_any rfl) (by rfl) T.z_any boot_any (pa_cons (pe_lc (own := [("row_here", 1)]) (g := gName 1) (tt := tYes) rfl sc_Ranked___invert.nd (pi_list (pe_fld (pv 0) rfl)) (blkOk_by (by kernel_rfl)) (fun _ _ _ _ _ => (pg_name (i := 1) sc_Ranked___invert.nd rfl (Or.inl rfl))) (fun _ _ _ _ _ => pts_nil) (fun _ _ _ _ _ => by exact (pe_cmpR op_in_seq (ClX.pe_cval (pe_glob (v := .ref (He.ga K "Ranked")) rfl T.g_Ranked rfl)) (pv 1) rfl))) pa_nil))) (pss_one ps_never) pss_nil)
      (pss_one (ps_ret (pe_makeD (ok_Ranked___init T) hr (pa_cons (pe_fld (pv 0) rfl) (pa_cons (pe_lc (own := [("row_here", 1)]) (g := gName 1) (tt := tYes) rfl sc_Ranked___invert.nd (pi_list (pe_fld (pv 0) rfl)) (blkOk_by (by kernel_rfl)) (fun _ _ _ _ _ => (pg_name (i := 1) sc_Ranked___invert.nd rfl (Or.inl rfl))) (fun _ _ _ _ _ => pts_nil) (fun _ _ _ _ _ => by exact (pe_lc (own := [("rank", 2)]) (g := gName 2) (tt := tYes) rfl sc_Ranked___invert.nd (pi_list (pv 1)) (blkOk_by (by kernel_rfl)) (fun _ _ _ _ _ => (pg_name (i := 2) sc_Ranked___invert.nd rfl (Or.inl rfl))) (fun _ _ _ _ _ => pts_nil) (fun _ _ _ _ _ => by exact (pe_op op_add (pv 2) pe_int))))) pa_nil)))))),
      (rs_seq (rs_if (rt_B (re_CB rc_any (ra_cons (re_lc (ri_list (re_fld T.cl_Ranked T.na_Ranked_own_ranks re_var)) (rg_name 1) rt_yes (re_op (ro_inN false) (re_cval T.cr_Ranked T.cv_Ranked (fun _ => .int _) (re_c fun _ => .cls _)) re_var) (by decide)) ra_nil))) rs_never rs_next)
      (rs_ret (re_mk (ra_consA (re_fld T.cl_Ranked T.na_Ranked_own_machine re_var) (ra_consA (re_lc (ri_list (re_fld T.cl_Ranked T.na_Ranked_own_ranks re_var)) (rg_name 1) rt_yes (re_lc (ri_list re_var) (rg_name 2) rt_yes (re_op ro_I0 re_var (re_c fun _ => .int _)) (by decide)) (by decide)) ra_nil)))))⟩, fun ds Q h => ?_⟩), T.me_Ranked___invert__, b, b2⟩
  obtain ⟨ls, rows, ranks, rfl, M, R, h11, q⟩ := h
  have hn := M.n2
  have hRn := R.n
  have hl3 := M.l3
  walk_at "ev"
  refine lc_map (xs := lD (oN ranks)) (fun P h => by walk_at "ev"; exact h) rfl (by rw [lD_len, szl]; omega) (fun _ => .bl false) (fun i x k k' hx hk => ?_) ?_
  · obtain ⟨r0, hr0, rfl⟩ := List.mem_map.mp (List.mem_of_getElem? hx)
    obtain ⟨r, hr, rfl⟩ := List.mem_map.mp hr0
    unfold lcB
    walk_at "ev"
    refine ⟨ofN r, rfl, ?_⟩
    rw [show decide ((12 : Int) ∈ ofN r) = false from decide_eq_false fun z => by
      have := h11 r hr 12 (mem_ofN.mp z)
      omega]
    exact hk
  walk_at "ev"
  refine ⟨ranks.map fun _ => false, by rw [List.map_map, List.map_map, List.map_map]; rfl, ?_⟩
  rw [if_neg (by simp)]
  refine lc_map (xs := lD (oN ranks)) (e0 := [.d (rkD K ls rows ranks), .u, .u]) (fun P h => by walk_at "ev"; exact h) rfl (by rw [lD_len, szl]; omega)
    (fun x => match x with | .lst xs => .lst (xs.map fun y => match y with | .int n => .int (n + 1) | y => y) | x => x) (fun i x k k' hx hk => ?_) ?_
  · obtain ⟨r0, hr0, rfl⟩ := List.mem_map.mp (List.mem_of_getElem? hx)
    obtain ⟨r, hr, rfl⟩ := List.mem_map.mp hr0
    unfold lcB
    have hr3 := R.rl r hr
    walk_at "ev"
    refine lc_map (xs := iD (ofN r)) (fun P h => by walk_at "ev"; exact h) rfl (by rw [iD_len, szl]; omega) (fun y => match y with | .int n => .int (n + 1) | y => y) (fun i x k k' hx hk => ?_) ⟨rfl, hk⟩
    obtain ⟨n, hn, rfl⟩ := iD_mem hx
    unfold lcB
    walk_at "ev"
    exact hk
  walk_at "ev"
  have hup : ((lD (oN ranks)).map fun x => match x with | .lst xs => Da.lst (xs.map fun y => match y with | .int n => .int (n + 1) | y => y) | x => x) = lD (oN (upR ranks)) := by
    show List.map _ (List.map _ (List.map _ ranks)) = List.map _ (List.map _ (List.map _ ranks))
    rw [List.map_map, List.map_map, List.map_map, List.map_map]
    refine List.map_congr_left fun r _ => ?_
    show Da.lst (List.map _ (List.map _ (List.map _ r))) = Da.lst (List.map _ (List.map _ (List.map _ r)))
    rw [List.map_map, List.map_map, List.map_map, List.map_map]
    rfl
  rw [hup]
  exact ⟨ls, rows, upR ranks, _, rfl, M, up_rk R h11, rowsS_lD _, q⟩
abbrev R_Ranked___eq (K : PySem.W.Frag) : RR := fun ds Q => ∃ r1 d2, ds = [r1, d2] ∧ ((∃ ls rows ranks ls' rows' ranks', r1 = rkD K ls rows ranks ∧ d2 = rkD K ls' rows' ranks' ∧ Q (.bl (decide (ls = ls' ∧ rows = rows' ∧ ranks = ranks')))) ∨
  (fRk (He.ga K "Ranked") (He.ga K "Machine") d2 = some false ∧ Q (.bl false)))
theorem ok_Ranked___eq (T : Txt K mg) : Dm P w K mg base (He.ga K "Ranked") "__eq__" 2 ["self", "other"] (spD K (R_Ranked___eq K)) := by
  obtain ⟨fd, F, b, b2⟩ := q_Ranked___eq T
  refine ⟨_, fd, okD F sc_Ranked___eq (by rintro ds Q ⟨r1, d2, rfl, q⟩; rfl) (by decide) (fun cdv A outer s H hr => ⟨_, _, ⟨
      (pss_one (ps_ret (pe_and (pe_callB call_isi (by rfl) T.z_isinstance boot_isinstance (pa_cons (pv 1) (pa_cons (pe_glob (v := .ref (He.ga K "Ranked")) rfl T.g_Ranked rfl) pa_nil))) (pe_and (pe_cmpR (op_eqO (ok_Machine___eq T) hr) (pe_fld (pv 0) rfl) (pe_fld (pv 1) rfl) (nomark _)) (pe_one (pe_cmpR (op_eqD hr.units) (pe_fld (pv 0) rfl) (pe_fld (pv 1) rfl) (nomark _))))))),
      (rs_ret (re_and (re_CB (rc_isi T.isi_Ranked rfl) (ra_cons re_var (ra_cons (re_c fun _ => .cls _) ra_nil))) (re_and (re_op (ro_eqO T.nf_Machine) (re_fld T.cl_Ranked T.na_Ranked_own_machine re_var) (re_fld T.cl_Ranked T.na_Ranked_own_machine re_var)) (re_op ro_eqD (re_fld T.cl_Ranked T.na_Ranked_own_ranks re_var) (re_fld T.cl_Ranked T.na_Ranked_own_ranks re_var)))))⟩, fun ds Q h => ?_⟩), T.me_Ranked___eq__, b, b2⟩
  obtain ⟨r1, d2, rfl, q⟩ := h
  walk_at "ev"
  rcases q with ⟨ls, rows, ranks, ls', rows', ranks', rfl, rfl, q⟩ | ⟨h1, q⟩
  · have e0 : fRk (He.ga K "Ranked") (He.ga K "Machine") (rkD K ls' rows' ranks') = some true := by
      show (if _ then _ else _) = _
      rw [if_pos rfl]
    rw [e0]
    walk_at "ev"
    refine ⟨by simp [fOwn], ls, rows, ls', rows', rfl, _, rfl, ?_⟩
    by_cases h : ls = ls' ∧ rows = rows'
    · rw [if_pos (decide_eq_true h)]
      refine ⟨plain_rows _, plain_rows _, shaped_lD _, shaped_lD _, ?_⟩
      rw [eqv_lD]
      have e : decide (oN ranks = oN ranks') = decide (ls = ls' ∧ rows = rows' ∧ ranks = ranks') := by
        rw [Bool.eq_iff_iff, decide_eq_true_eq, decide_eq_true_eq]
        exact ⟨fun z => ⟨h.1, h.2, oN_inj.mp z⟩, fun z => oN_inj.mpr z.2.2⟩
      rw [e]
      exact q
    · rw [if_neg (by simpa using h)]
      have e : decide (ls = ls' ∧ rows = rows' ∧ ranks = ranks') = false := decide_eq_false fun z => h ⟨z.1, z.2.1⟩
      rw [e] at q
      exact q
  · rw [h1]
    walk_at "ev"
    exact q
abbrev R_Ranked___repr (K : PySem.W.Frag) : RR := fun ds Q => ∃ ls rows ranks, ds = [rkD K ls rows ranks] ∧ Mc ls rows ∧ Rk ls rows ranks ∧ Q (.str (reprR ls rows ranks))
theorem ok_Ranked___repr (T : Txt K mg) : Dm P w K mg base (He.ga K "Ranked") "__repr__" 2 ["self"] (spD K (R_Ranked___repr K)) := by
  obtain ⟨fd, F, b, b2⟩ := q_Ranked___repr T
  refine ⟨_, fd, okD F sc_Ranked___repr (by rintro ds Q ⟨ls, rows, ranks, rfl, M, R, q⟩; rfl) (by decide) (fun cdv A outer s H hr => ⟨_, _, ⟨
      (pss_one (ps_ret (pe_joined (PJ.cons pe_str (PJ.cons (pe_fmtO (ok_Machine___repr T) hr (pe_fld (pv 0) rfl)) (PJ.cons pe_str (PJ.cons (pe_fmtD hr (pe_fld (pv 0) rfl)) (PJ.cons pe_str PJ.nil)))))))),
      (rs_ret (re_joined (.cons (re_c fun _ => .str _) (.cons (re_fmtO (re_fld T.cl_Ranked T.na_Ranked_own_machine re_var)) (.cons (re_c fun _ => .str _) (.cons (re_fmtD (re_fld T.cl_Ranked T.na_Ranked_own_ranks re_var)) (.cons (re_c fun _ => .str _) .nil)))))))⟩, fun ds Q h => ?_⟩), T.me_Ranked___repr__, b, b2⟩
  obtain ⟨ls, rows, ranks, rfl, M, R, q⟩ := h
  obtain ⟨s1, s2, s3⟩ := M.small
  obtain ⟨r1, r2, r3⟩ := R.small M
  have h4 := reprM_len M
  have h5 := shown_rows r1 r2 r3
  have e1 : (Str.empty).length = 0 := rfl
  have e2 : ("Ranked(" : Str).length = 7 := rfl
  have e3 : (", " : Str).length = 2 := rfl
  have e4 : (")" : Str).length = 1 := rfl
  walk_at "ev"
  refine ⟨by simp only [app_len, szl]; omega, ls, rows, rfl, M, _, rfl, ?_⟩
  simp only [app_len, szl]
  exact ⟨by omega, by omega, by omega, ⟨_, rfl⟩, plain_rows _, rp_lD r1 r2 r3, by omega, by omega, q⟩
end
end RK
-- M8
set_option Elab.async false
set_option linter.all false
set_option maxRecDepth 100000
/-! M8: rows by new numbers; the flood -/
namespace RK
open PySem
/-- rows of L goals each, all places reached -/
structure GoodR (L : Nat) (rows : List (List Nat)) : Prop where
  n1 : 1 ≤ rows.length
  rg : InR rows
  rl : ∀ r ∈ rows, r.length = L
  am : AllMet rows
def renum (rows : List (List Nat)) (order : List Nat) : List (List Nat) := order.map fun s => (row rows s).map fun g => order.idxOf g
theorem renum_row {rows : List (List Nat)} {order : List Nat} {p : Nat} (hp : p ∈ order) : row (renum rows order) (order.idxOf p) = (row rows p).map fun g => order.idxOf g := by
  have h := List.idxOf_lt_length_iff.mpr hp
  unfold renum
  show List.getD _ _ _ = _
  rw [List.getD_eq_getElem?_getD, List.getElem?_map, List.getElem?_eq_getElem h, List.getElem_idxOf]
  rfl
theorem renum_good {L : Nat} {rows : List (List Nat)} {order : List Nat} (nd : order.Nodup) (h0 : order[0]? = some 0) (hp : ∀ p ∈ order, p < rows.length) (hc : ∀ p ∈ order, ∀ g ∈ row rows p, g ∈ order) (hr : ∀ p ∈ order, Reach rows 0 p) (hl : ∀ r ∈ rows, r.length = L) :
    GoodR L (renum rows order) ∧ (renum rows order).length = order.length := by
  have hlen : (renum rows order).length = order.length := by unfold renum; rw [List.length_map]
  have h0m : 0 ∈ order := List.mem_of_getElem? h0
  refine ⟨⟨?_, fun r hr g hg => ?_, fun r hr => ?_, fun i hi => ?_⟩, hlen⟩
  · rw [hlen]
    exact List.length_pos_of_mem h0m
  · obtain ⟨s, hs, rfl⟩ := List.mem_map.mp hr
    obtain ⟨g0, hg0, rfl⟩ := List.mem_map.mp hg
    rw [hlen]
    exact List.idxOf_lt_length_iff.mpr (hc s hs g0 hg0)
  · obtain ⟨s, hs, rfl⟩ := List.mem_map.mp hr
    rw [List.length_map]
    exact hl _ (row_mem (hp s hs))
  · rw [hlen] at hi
    have key : ∀ q, Reach rows 0 q → q ∈ order ∧ Reach (renum rows order) 0 (order.idxOf q) := fun q hq => by
      induction hq with
      | refl =>
        refine ⟨h0m, ?_⟩
        rw [← idx_of_get nd h0]
        exact .refl 0
      | tail _ hg ih =>
        refine ⟨hc _ ih.1 _ hg, .tail ih.2 ?_⟩
        rw [renum_row ih.1]
        exact List.mem_map.mpr ⟨_, hg, rfl⟩
    have h1 := (key order[i] (hr _ (List.getElem_mem hi))).2
    rw [← idx_of_get nd (List.getElem?_eq_getElem hi)] at h1
    exact h1
/-- the flood from s: what waits is not looked behind yet -/
structure FlInv (rows : List (List Nat)) (s : Nat) (found waiting : List Nat) (busy : Nat → Prop) : Prop where
  nd : found.Nodup
  bd : ∀ x ∈ found, x < rows.length
  re : ∀ x ∈ found, Reach rows s x
  wt : ∀ x ∈ waiting, x = s ∨ x ∈ found
  cl : ∀ x, x = s ∨ x ∈ found → x ∈ waiting ∨ busy x ∨ ∀ g ∈ row rows x, g ∈ found
theorem FlInv.start {rows : List (List Nat)} {s : Nat} : FlInv rows s [] [s] fun _ => False :=
  ⟨by simp, by simp, by simp, fun x h => .inl (List.mem_singleton.mp h), fun x h => .inl (h.elim (fun e => List.mem_singleton.mpr e) fun e => by cases e)⟩
theorem FlInv.len {rows : List (List Nat)} {s : Nat} {found waiting : List Nat} {busy : Nat → Prop} (h : FlInv rows s found waiting busy) : found.length ≤ rows.length := nodup_len _ _ h.nd h.bd
theorem FlInv.pop {rows : List (List Nat)} {s t : Nat} {found waiting : List Nat} (h : FlInv rows s found (waiting ++ [t]) fun _ => False) : FlInv rows s found waiting (fun x => x = t) ∧ (t = s ∨ t ∈ found) := by
  refine ⟨⟨h.nd, h.bd, h.re, fun x hx => h.wt x (List.mem_append_left _ hx), fun x hx => ?_⟩, h.wt t (List.mem_append_right _ (List.mem_singleton.mpr rfl))⟩
  rcases h.cl x hx with z | z | z
  · rcases List.mem_append.mp z with y | y
    · exact .inl y
    · exact .inr (.inl (List.mem_singleton.mp y))
  · exact z.elim
  · exact .inr (.inr z)
theorem FlInv.add {rows : List (List Nat)} (hr : InR rows) {s t g : Nat} {found waiting : List Nat} (h : FlInv rows s found waiting fun x => x = t) (ht : t = s ∨ t ∈ found) (hg : g ∈ row rows t) (hn : g ∉ found) : FlInv rows s (found ++ [g]) (waiting ++ [g]) fun x => x = t := by
  have hst : Reach rows s t := ht.elim (fun e => by rw [e]; exact .refl s) (h.re t)
  refine ⟨?_, fun x hx => ?_, fun x hx => ?_, fun x hx => ?_, fun x hx => ?_⟩
  · rw [List.nodup_append]
    refine ⟨h.nd, by simp, fun y hy z hz e => ?_⟩
    rw [List.mem_singleton.mp hz] at e
    exact hn (e ▸ hy)
  · rcases List.mem_append.mp hx with z | z
    · exact h.bd x z
    · rw [List.mem_singleton.mp z]
      exact hr.lt hg
  · rcases List.mem_append.mp hx with z | z
    · exact h.re x z
    · rw [List.mem_singleton.mp z]
      exact .tail hst hg
  · rcases List.mem_append.mp hx with z | z
    · exact (h.wt x z).imp id fun y => List.mem_append_left _ y
    · exact .inr (List.mem_append_right _ z)
  · have old : x = s ∨ x ∈ found → x ∈ waiting ++ [g] ∨ x = t ∨ ∀ g' ∈ row rows x, g' ∈ found ++ [g] := fun hx => by
      rcases h.cl x hx with z | z | z
      · exact .inl (List.mem_append_left _ z)
      · exact .inr (.inl z)
      · exact .inr (.inr fun g' hg' => List.mem_append_left _ (z g' hg'))
    rcases hx with z | z
    · exact old (.inl z)
    · rcases List.mem_append.mp z with y | y
      · exact old (.inr y)
      · exact .inl (List.mem_append_right _ y)
theorem FlInv.over {rows : List (List Nat)} {s t : Nat} {found waiting : List Nat} (h : FlInv rows s found waiting fun x => x = t) (hg : ∀ g ∈ row rows t, g ∈ found) : FlInv rows s found waiting fun _ => False :=
  ⟨h.nd, h.bd, h.re, h.wt, fun x hx => by
    rcases h.cl x hx with z | z | z
    · exact .inl z
    · rw [z]
      exact .inr (.inr hg)
    · exact .inr (.inr z)⟩
theorem FlInv.done {rows : List (List Nat)} {s : Nat} {found : List Nat} (h : FlInv rows s found [] fun _ => False) (q : Nat) : (q = s ∨ q ∈ found) ↔ Reach rows s q := by
  constructor
  · rintro (rfl | h1)
    · exact .refl _
    · exact h.re q h1
  · intro hq
    induction hq with
    | refl => exact .inl rfl
    | tail _ hg ih =>
      rcases h.cl _ ih with z | z | z
      · cases z
      · exact z.elim
      · exact .inr (z _ hg)
end RK
-- LD
set_option Elab.async false
set_option linter.all false
set_option maxRecDepth 100000
set_option maxHeartbeats 4000000
namespace RK
open PySem PySem.Spec PyProof.Rows L2
local macro_rules
  | `(tactic| walk_at "ev") => `(tactic| try simp only [dVar, dC, dOp, dUn, kII, kIB, kI0, kSS, kAddS, kSign, flD, kEq, vS, onS, kIn, dasOf, dNil, dCons, dConsA, dTup, dLst, dAnd, dOr, dNot, dB, dAndT, dOrT, dNotT, dIf, dChain, kIx, dNoPart, dPart, dSlS, dSlL, dRev, dCB, k1, k2, lenD, kLen, kAll, kMax, kMM, kAbs, kInt, kList, kTuple, kSortI, kDivmod, onO, onDa, onInt, onBl, onStr, vL, onL, onT, vM, onM, toDa, dDGet, dDIn, dDGet2, dBM, dBM0, dBMS, onOwn, kAppend, kExtend, kPop, kPopAt, kClear, kIndex, kCount, kSIndex, lkF, dFld, dLR, dRg1, dRg2, dJoin, rvS, dgName, dgNil, dgCons, dgTup, diL, diT, diS, diR1, diR2, onLd, diZ, diE, diZSS, diZSL, diET, dNext, dSeq, dDrop, rtD, dRet, dRetN, dIfS, dNever, dSet, dAsg, dPar, dPar3, dFldS, dDPut, dFrz, dYes, startE, dCall, dCallM, isPot, dCallP, dMk, onObj, dMt, dPp, dCO, dRevA, kInv, kNeg, kLenO, kReprO, dFmtO, dFmtR, vD, kReprD, kReprB, dFmtD, kEqD, kCat, kCatT, clV, kIsi, kIsiT, kEqO, dCval, dCon, dJs, dJoined, diQ, diEQ, dLZ, kMulS, kSumL, dSS, kSortTs, dDisp1, fInt, fBool, fStr, fList, fSeq,
      List.map_cons, List.map_nil, List.cons_append, List.nil_append, List.length_cons, List.length_nil, List.replicate_succ, List.replicate_zero, List.append_nil, Nat.reduceAdd, Nat.reduceSub, Nat.zero_add, Nat.sub_self,
      List.getElem?_cons_zero, List.getElem?_cons_succ, List.getElem?_nil, List.set_cons_zero, List.set_cons_succ, Option.map_some, Option.map_none, List.reverse_cons, List.reverse_nil, Bool.not_true, Bool.not_false, Bool.false_eq_true, if_true, if_false, true_and, and_true, reduceCtorEq, wipeE, noOwn, Sl.own, List.all_cons, List.all_nil, Bool.and_true, Bool.true_and, Bool.and_self, List.length_map, List.not_mem_nil, not_false_eq_true, cx_K, cx_Kn, sn1, sn2, sn3, sn4, sn5, sgD, tx_list, tx_len, tx_app, tx_cut])
section
variable {P : Program} {w : World} {K : PySem.W.Frag} {mg : Str → Option Value} {base : Heap}
abbrev R_law_draw : RR := fun ds Q => ∃ n : Nat, ds = [.int ((n : Nat) : Int)] ∧ 1 ≤ n ∧ n ≤ 1000 ∧ ∀ d : Nat, d < n → Q (.int ((d : Nat) : Int))
theorem ok_law_draw (T : Txt K mg) : Df P w K mg base "_law_draw" 1 ["_law_pot_here", "_law_size"] (spP K R_law_draw) := by
  obtain ⟨fd, F, b⟩ := q_law_draw T
  refine ⟨_, fd, okG F sc_law_draw (fun vs H Q ⟨p, us, G, ds, P', e, _, _, _, a, ⟨n, hd, _⟩, _⟩ => by rw [e, List.length_cons, a.length, hd]; rfl) (fun cdv A outer s H vs Q hr h => ⟨_,
      (pss_cons (ps_if (pt_cmpR op_gt (pe_ix ix_seq (pv 0) pe_int (fun _ _ => rfl)) pe_int (nomark _))
          (pss_cons (ps_asg (pe_callB call_divmodW (by rfl) T.z_divmod boot_divmod (pa_cons (pe_ix ix_seq (pv 0) pe_int (fun _ _ => rfl)) (pa_cons (pv 1) pa_nil))) (pg_tup (n := 2) (by rfl) (pgs_cons (pg_sub (pv 0) pe_int set_list) (pgs_cons (pg_name (i := 2) sc_law_draw.nd rfl (Or.inl rfl)) pgs_nil))))
          (pss_one (ps_ret (pv 2)))) pss_nil)
      (pss_cons (ps_asg (pe_op op_mod (pe_callTy call_int1 (by rfl) T.z_int boot_int (pa_cons (pe_op op_add (pe_op op_mul (pe_ix ix_seq (pv 0) pe_int (fun _ _ => rfl)) pe_int) pe_int) pa_nil)) pe_int) (pg_sub (pv 0) pe_int set_list))
      (pss_one (ps_ret (pe_op op_mod (pe_callTy call_int1 (by rfl) T.z_int boot_int (pa_cons (pe_op op_fdiv (pe_op op_mod (pe_callTy call_int1 (by rfl) T.z_int boot_int (pa_cons (pe_op op_mul (pe_ix ix_seq (pv 0) pe_int (fun _ _ => rfl)) (pe_ix ix_seq (pv 0) pe_int (fun _ _ => rfl))) pa_nil)) pe_int) pe_int) pa_nil)) (pv 1)))))), ?_⟩), T.g__law_draw, F.kp, b⟩
  obtain ⟨p, us, G, ds, P', rfl, ⟨x, y, hp, hx, hy, hy2⟩, gp, g, a, ⟨n, rfl, n1, n2, hP⟩, q⟩ := h
  cases a with
  | cons a0 t =>
    cases t
    cases a0
    have fin : ∀ (H' : Hp) (x' y' d : Int), (∀ b o, H b = some o → b ≠ p → H' b = some o) → H' p = some (.lst [.int x', .int y']) → 0 ≤ x' → 0 ≤ y' → y' < 2147483587 → 0 ≤ d → d < n → Q (.int d) H' := fun H' x' y' d hk hp' h1 h2 h3 h4 h5 =>
      q (.int d) (.int d) H' G (by
        have := hP d.toNat (by omega)
        rw [show ((d.toNat : Nat) : Int) = d from by omega] at this
        exact this) hk ⟨x', y', hp', h1, h2, h3⟩ (Same.refl G) (fun b o e => hk b o (g b o e) (fun z => by rw [z, gp] at e; cases e)) (fun _ e _ => e) (.int d)
    refine ⟨.ref p, rfl, .inl ⟨p, _, 0, .int x, rfl, rfl, .of hp, rfl, x, 0, rfl, rfl, _, rfl, ?_⟩⟩
    refine ite2 (fun hx0 => ?_) (fun hx0 => ?_)
    · have hx0 : x > 0 := of_decide_eq_true hx0
      refine ⟨.ref p, rfl, .inl ⟨p, _, 0, .int x, rfl, rfl, .of hp, rfl, .int n, rfl, x, n, rfl, ⟨by omega, PyProof.noPylong_small (by omega)⟩, fun t ht => ?_⟩⟩
      have htp : p ≠ t := ne_of_none hp ht
      refine ⟨t, _, rfl, .of upd_same, rfl, .int (x / n), _, rfl, .ref p, rfl, p, _, 0, 0, rfl, rfl, by rw [upd_ne htp]; exact hp, rfl, .int (x % n), _, rfl, rfl, .int (x % n), rfl, ?_⟩
      exact fin _ (x / n) y (x % n) (fun b o e hb => by rw [upd_ne hb, upd_ne (ne_of_none e ht)]; exact e) upd_same (Int.ediv_nonneg hx (by omega)) hy hy2 (Int.emod_nonneg _ (by omega)) (Int.emod_lt_of_pos _ (by omega))
    · clear hx0
      have m1 : 0 ≤ (y * 48271 + 15017) % 2147483587 := Int.emod_nonneg _ (by decide)
      have m2 : (y * 48271 + 15017) % 2147483587 < 2147483587 := Int.emod_lt_of_pos _ (by decide)
      refine ⟨.ref p, rfl, .inl ⟨p, _, 1, .int y, rfl, rfl, .of hp, rfl, y, 48271, rfl, rfl, .inl ⟨by omega, by omega⟩, y * 48271, 15017, rfl, rfl, .inl ⟨_, rfl, y * 48271 + 15017, 2147483587, rfl, rfl, by show (0 : Int) < 2147483587; decide, ?_⟩⟩⟩
      refine ⟨.ref p, rfl, p, _, 1, 1, rfl, rfl, hp, rfl, ?_⟩
      obtain ⟨z, hz0⟩ : ∃ z : Int, z = (y * 48271 + 15017) % 2147483587 := ⟨_, rfl⟩
      rw [← hz0] at m1 m2
      have hz : -(2 ^ 64) < z ∧ z < 2 ^ 64 := ⟨by omega, by omega⟩
      refine ⟨.ref p, rfl, .inl ⟨p, _, 1, .int z, rfl, rfl, .of upd_same, by rw [hz0]; rfl, .ref p, rfl, .inl ⟨p, _, 1, .int z, rfl, rfl, .of upd_same, by rw [hz0]; rfl, z, z, rfl, rfl, .inl hz, .inl ⟨_, rfl, z * z, 2147483549, rfl, rfl, by show (0 : Int) < 2147483549; decide, _, 17, rfl, rfl, ⟨by decide, by decide⟩, .inl ⟨_, rfl, .int n, rfl, _, n, rfl, rfl, by show (0 : Int) < n; omega, ?_⟩⟩⟩⟩⟩
      exact fin _ x z _ (fun b o e hb => by rw [upd_ne hb]; exact e) (by rw [hz0]; exact upd_same) hx m1 m2 (Int.emod_nonneg _ (by omega)) (Int.emod_lt_of_pos _ (by omega))
end
end RK
-- LA
set_option Elab.async false
set_option linter.all false
set_option maxRecDepth 100000
set_option maxHeartbeats 4000000
namespace RK
open PySem PySem.Spec PyProof.Rows L2
local macro_rules
  | `(tactic| walk_at "ev") => `(tactic| try simp only [dVar, dC, dOp, dUn, kII, kIB, kI0, kSS, kAddS, kSign, flD, kEq, vS, onS, kIn, dasOf, dNil, dCons, dConsA, dTup, dLst, dAnd, dOr, dNot, dB, dAndT, dOrT, dNotT, dIf, dChain, kIx, dNoPart, dPart, dSlS, dSlL, dRev, dCB, k1, k2, lenD, kLen, kAll, kMax, kMM, kAbs, kInt, kList, kTuple, kSortI, kDivmod, onO, onDa, onInt, onBl, onStr, vL, onL, onT, vM, onM, toDa, dDGet, dDIn, dDGet2, dBM, dBM0, dBMS, onOwn, kAppend, kExtend, kPop, kPopAt, kClear, kIndex, kCount, kSIndex, lkF, dFld, dLR, dRg1, dRg2, dJoin, rvS, dgName, dgNil, dgCons, dgTup, diL, diT, diS, diR1, diR2, onLd, diZ, diE, diZSS, diZSL, diET, dNext, dSeq, dDrop, rtD, dRet, dRetN, dIfS, dNever, dSet, dAsg, dPar, dPar3, dFldS, dDPut, dFrz, dYes, startE, dCall, dCallM, isPot, dCallP, dMk, onObj, dMt, dPp, dCO, dRevA, kInv, kNeg, kLenO, kReprO, dFmtO, dFmtR, vD, kReprD, kReprB, dFmtD, kEqD, kCat, kCatT, clV, kIsi, kIsiT, kEqO, dCval, dCon, dJs, dJoined, diQ, diEQ, dLZ, kMulS, kSumL, dSS, kSortTs, dDisp1, fInt, fBool, fStr, fList, fSeq,
      List.map_cons, List.map_nil, List.cons_append, List.nil_append, List.length_cons, List.length_nil, List.replicate_succ, List.replicate_zero, List.append_nil, Nat.reduceAdd, Nat.reduceSub, Nat.zero_add, Nat.sub_self,
      List.getElem?_cons_zero, List.getElem?_cons_succ, List.getElem?_nil, List.set_cons_zero, List.set_cons_succ, Option.map_some, Option.map_none, List.reverse_cons, List.reverse_nil, Bool.not_true, Bool.not_false, Bool.false_eq_true, if_true, if_false, true_and, and_true, reduceCtorEq, wipeE, noOwn, Sl.own, List.all_cons, List.all_nil, Bool.and_true, Bool.true_and, Bool.and_self, List.length_map, List.not_mem_nil, not_false_eq_true, cx_K, cx_Kn, sn1, sn2, sn3, sn4, sn5, sgD, tx_list, tx_len, tx_app, tx_cut])
section
variable {P : Program} {w : World} {K : PySem.W.Frag} {mg : Str → Option Value} {base : Heap}
abbrev R_law_is_even : RR := fun ds Q => ∃ r : Nat, ds = [.int ((r : Nat) : Int)] ∧ Q (.bl (decide (r % 2 = 0)))
theorem ok_law_is_even (T : Txt K mg) : Df P w K mg base "_law_is_even" 1 ["_law_number_now"] (spD K R_law_is_even) := by
  obtain ⟨fd, F, b⟩ := q_law_is_even T
  refine ⟨_, fd, okD F sc_law_is_even (by rintro ds Q ⟨r, rfl, q⟩; rfl) (by decide) (fun cdv A outer s H hr => ⟨_, _, ⟨
      (pss_one (ps_ret (pe_cmpR op_eq (pe_op op_mul (pe_op op_fdiv (pv 0) pe_int) pe_int) (pv 0) (nomark _)))),
      (rs_ret (re_op ro_eq (re_op ro_I (re_op ro_I re_var (re_c fun _ => .int _)) (re_c fun _ => .int _)) re_var))⟩, fun ds Q h => ?_⟩), T.g__law_is_even, F.kp, b⟩
  obtain ⟨r, rfl, q⟩ := h
  walk_at "ev"
  refine ⟨⟨by omega, by omega⟩, .inr ⟨by decide, by decide⟩, rfl, ?_⟩
  have e : decide (V.int ((r : Int) / 2 * 2) = V.int r) = decide (r % 2 = 0) := by
    rw [Bool.eq_iff_iff, decide_eq_true_eq, decide_eq_true_eq]
    constructor
    · intro z
      injection z with z
      omega
    · intro z
      congr 1
      omega
  rw [e]
  exact q
abbrev R_law_pick : RR := fun ds Q => ∃ d, ds = [d] ∧ ((∃ xs, d = .lst xs ∧ xs ≠ [] ∧ xs.length ≤ 1000 ∧ ∀ x ∈ xs, Q x) ∨ (∃ l, d = .str (tx l) ∧ l ≠ [] ∧ l.length ≤ 1000 ∧ ∀ c ∈ l, Q (.str (tx [c]))))
theorem ok_law_pick (T : Txt K mg) : Df P w K mg base "_law_pick" 2 ["_law_pot_here", "_law_some"] (spP K R_law_pick) := by
  obtain ⟨fd, F, b⟩ := q_law_pick T
  refine ⟨_, fd, okP F sc_law_pick (by rintro ds Q ⟨x, rfl, q⟩; rfl) (by decide) (fun cdv A outer s H hr => ⟨_, _, ⟨
      (pss_one (ps_ret (pe_ix ix_seq (pv 1) (pe_callD (ok_law_draw T) hr (pa_cons (pv 0) (pa_cons (pe_callB call_len (by rfl) T.z_len boot_len (pa_cons (pv 1) pa_nil)) pa_nil))) (fun _ _ => rfl)))),
      (rs_ret (re_op ro_ix re_var (re_callP (ra_consA (re_CB rc_len (ra_cons re_var ra_nil)) ra_nil))))⟩, fun ds Q h => ?_⟩), T.g__law_pick, F.kp, b⟩
  obtain ⟨x, rfl, q⟩ := h
  rcases q with ⟨xs, rfl, h1, h2, q⟩ | ⟨l, rfl, h1, h2, q⟩
  · walk_at "ev"
    refine ⟨xs.length, rfl, List.length_pos_iff.mpr h1, h2, fun i hi => ?_⟩
    walk_at "ev"
    rw [atI_nat (List.getElem?_eq_getElem hi)]
    exact q _ (List.getElem_mem hi)
  · walk_at "ev"
    rw [if_pos (by rw [szl]; omega)]
    refine ⟨l.length, rfl, List.length_pos_iff.mpr h1, h2, fun i hi => ?_⟩
    walk_at "ev"
    rw [atI_nat (List.getElem?_eq_getElem hi)]
    exact ⟨by rw [szl]; omega, q _ (List.getElem_mem hi)⟩
theorem idxOf_iD {l : List Nat} {n : Nat} (h : n ∈ l) : (n : Int) ∈ ofN l := mem_ofN.mpr h
/-- the comprehension that numbers anew -/
theorem renum_eq (rows : List (List Nat)) (order : List Nat) : (order.map fun s => Da.lst (iD (ofN ((row rows s).map fun g => order.idxOf g)))) = lD (oN (renum rows order)) := by
  unfold renum
  show _ = List.map _ (List.map _ (List.map _ order))
  rw [List.map_map, List.map_map]
  rfl
theorem iD_map (l : List Nat) (f : Nat → Nat) : (iD (ofN l)).map (fun y => match y with | .int n => Da.int ((f n.toNat : Nat) : Int) | y => y) = iD (ofN (l.map f)) := by
  show List.map _ (List.map _ (List.map _ l)) = List.map _ (List.map _ (List.map _ l))
  rw [List.map_map, List.map_map, List.map_map, List.map_map]
  rfl
abbrev R_law_met : RR := fun ds Q => ∃ L rows, ds = [.lst (lD (oN rows))] ∧ 1 ≤ rows.length ∧ rows.length ≤ 120 ∧ InR rows ∧ (∀ r ∈ rows, r.length = L) ∧ L ≤ 3 ∧ ∀ rows', GoodR L rows' → rows'.length ≤ rows.length → Q (.lst (lD (oN rows')))
theorem ok_law_met (T : Txt K mg) : Df P w K mg base "_law_met" 1 ["_law_rows"] (spD K R_law_met) := by
  obtain ⟨fd, F, b⟩ := q_law_met T
  refine ⟨_, fd, okD F sc_law_met (by rintro ds Q ⟨L, rows, rfl, h1, h2, h3, h4, h5, q⟩; rfl) (by decide) (fun cdv A outer s H hr => ⟨_, _, ⟨
      (pss_cons (ps_asg (pe_tup (pa_cons (pe_lst (pa_cons pe_int pa_nil)) (pa_cons pe_int pa_nil))) (pg_tup (n := 2) (by rfl) (pgs_cons (pg_name (i := 1) sc_law_met.nd rfl (Or.inr rfl)) (pgs_cons (pg_name (i := 2) sc_law_met.nd rfl (Or.inl rfl)) pgs_nil))))
      (pss_cons (ps_while PassesOwn.never (pt_cmpR op_lt (pv 2) (pe_callB call_len (by rfl) T.z_len boot_len (pa_cons (pv 1) pa_nil)) (nomark _))
      (pss_cons (ps_for PassesOwn.never rfl (pi_list (pe_ix ix_seq (pv 0) (pe_ix ix_seq (pv 1) (pv 2) (fun _ _ => rfl)) (fun _ _ => rfl))) (pg_name (i := 3) sc_law_met.nd rfl (Or.inl rfl))
      (pss_one (ps_if (pt_cmpR op_notIn_seq (pv 3) (pv 1) rfl) (pss_one (ps_expr (pe_bm PySem.F.plainAttrs_list PySem.F.slot_list_append PySem.F.type_list_append mt_append (pv 1) (pa_cons (pv 3) pa_nil)))) pss_nil)))
      (pss_one (ps_set (i := 2) sc_law_met.nd rfl (Or.inl rfl) (pe_op op_add (pv 2) pe_int)))))
      (pss_one (ps_ret (pe_lc (own := [("_law_spot", 4)]) (g := gName 4) (tt := tYes) rfl sc_law_met.nd (pi_list (pv 1)) (blkOk_by (by kernel_rfl)) (fun _ _ _ _ _ => (pg_name (i := 4) sc_law_met.nd rfl (Or.inl rfl))) (fun _ _ _ _ _ => pts_nil) (fun _ _ _ _ _ => (pe_lc (own := [("_law_goal", 3)]) (g := gName 3) (tt := tYes) rfl sc_law_met.nd (pi_list (pe_ix ix_seq (pv 0) (pv 4) (fun _ _ => rfl))) (blkOk_by (by kernel_rfl)) (fun _ _ _ _ _ => (pg_name (i := 3) sc_law_met.nd rfl (Or.inl rfl))) (fun _ _ _ _ _ => pts_nil) (fun _ _ _ _ _ => (pe_bm PySem.F.plainAttrs_list PySem.F.slot_list_index PySem.F.type_list_index mt_index (pv 1) (pa_cons (pv 3) pa_nil)))))))))),
      (rs_seq (rs_parT (re_lst (ra_consA (re_c fun _ => .int _) ra_nil)) (re_c fun _ => .int _))
      (rs_seq (rs_while (rt_test (re_op ro_B0 re_var (re_CB rc_len (ra_cons re_var ra_nil))))
      (rs_seq (rs_for (ri_list (re_op ro_ix re_var (re_op ro_ix re_var re_var))) (rg_name 3)
      (rs_if (rt_test (re_op (ro_inN true) re_var re_var)) (rs_drop (re_bm rm_append re_var (ra_consA re_var ra_nil))) rs_next))
      (rs_set 2 (re_op ro_I0 re_var (re_c fun _ => .int _)))))
      (rs_frz (i := 1) (rs_ret (re_lc (ri_list re_var) (rg_name 4) rt_yes (re_lc (ri_list (re_op ro_ix re_var re_var)) (rg_name 3) rt_yes (re_bm rm_index re_var (ra_cons re_var ra_nil)) (by decide)) (by decide))))))⟩, fun ds Q h => ?_⟩), T.g__law_met, F.kp, b⟩
  obtain ⟨L, rows, rfl, h1, h2, h3, h4, h5, q⟩ := h
  walk_at "ev"
  refine ⟨by rw [szl]; omega, ?_⟩
  refine while_intro (fun m e => ∃ (found : List Nat) (at_ : Nat) (t : Sl), m + at_ = rows.length ∧ at_ ≤ found.length ∧ MetInv rows 0 found at_ ∧ found[0]? = some 0 ∧ (t = .u ∨ ∃ d, t = .d d) ∧ e = [.d (.lst (lD (oN rows))), .l (iD (ofN found)), .d (.int (at_ : Nat)), t, .u]) rows.length
    ⟨[0], 0, .u, rfl, Nat.zero_le _, .start h1, rfl, .inl rfl, rfl⟩ (fun m e hI => ?_)
  obtain ⟨found, at_, t, hm, hle, J, h0, ht, rfl⟩ := hI
  have hfl := J.len
  walk_at "ev"
  by_cases hlt : at_ < found.length
  · rw [if_pos (decide_eq_true (by simpa using hlt))]
    have hx : found[at_]? = some found[at_] := List.getElem?_eq_getElem hlt
    have hxr : found[at_] < rows.length := J.bd _ (List.getElem_mem hlt)
    refine for_intro (xs := iD (ofN (row rows found[at_]))) (e0 := [.d (.lst (lD (oN rows))), .l (iD (ofN found)), .d (.int (at_ : Nat)), t, .u]) (fun P h => ?_)
      (fun i e => ∃ (f2 : List Nat) (t : Sl), found <+: f2 ∧ MetInv rows 0 f2 at_ ∧ (∀ j g, j < i → (row rows found[at_])[j]? = some g → g ∈ f2) ∧ (t = .u ∨ ∃ d, t = .d d) ∧ e = [.d (.lst (lD (oN rows))), .l (iD (ofN f2)), .d (.int (at_ : Nat)), t, .u])
      ⟨found, t, List.prefix_rfl, J, fun j g hj => absurd hj (Nat.not_lt_zero _), ht, rfl⟩ (fun i x e hx2 hI => ?_) fun e hI => ?_
    · walk_at "ev"
      rw [atI_iD hx]
      walk_at "ev"
      rw [atI_row hxr]
      exact h
    · obtain ⟨f2, t, hp, J2, hc, _, rfl⟩ := hI
      obtain ⟨g, hg, rfl⟩ := iD_mem hx2
      have hle2 := hp.length_le
      have hxm : found[at_] ∈ f2 := hp.subset (List.getElem_mem hlt)
      have hf2 := J2.len
      walk_at "ev"
      refine ⟨ofN f2, rfl, ?_⟩
      rw [in_ofN]
      by_cases hgm : g ∈ f2
      · rw [if_neg (by simp [hgm])]
        refine ⟨f2, _, hp, J2, fun j g' hj hg' => ?_, .inr ⟨.int (g : Int), rfl⟩, rfl⟩
        by_cases e : j = i
        · subst e
          rw [hg] at hg'
          cases hg'
          exact hgm
        · exact hc j g' (by omega) hg'
      · rw [if_pos (by simp [hgm])]
        refine ⟨by (try simp only [List.length_map]); rw [szl]; omega, f2 ++ [g], _, hp.trans (List.prefix_append _ _), J2.add h3 (by omega) hxm (List.mem_of_getElem? hg) hgm, fun j g' hj hg' => ?_, .inr ⟨.int (g : Int), rfl⟩, by rw [iD_snoc]⟩
        by_cases e : j = i
        · subst e
          rw [hg] at hg'
          cases hg'
          exact List.mem_append_right _ (List.mem_singleton.mpr rfl)
        · exact List.mem_append_left _ (hc j g' (by omega) hg')
    · obtain ⟨f2, t, hp, J2, hc, ht2, rfl⟩ := hI
      have hx2 : f2[at_]? = some found[at_] := by
        obtain ⟨r, rfl⟩ := hp
        rw [List.getElem?_append_left hlt]
        exact hx
      have h02 : f2[0]? = some 0 := by
        obtain ⟨r, rfl⟩ := hp
        rw [List.getElem?_append_left (by omega)]
        exact h0
      have := hp.length_le
      have := J2.len
      walk_at "ev"
      refine ⟨rows.length - (at_ + 1), by omega, f2, at_ + 1, t, by omega, by omega, J2.next hx2 (fun g hg => ?_), h02, ht2, rfl⟩
      obtain ⟨j, hj⟩ := List.getElem?_of_mem hg
      refine hc j g ?_ hj
      rw [List.length_map, List.length_map]
      exact (List.getElem?_eq_some_iff.mp hj).1
  · rw [if_neg (by simp; omega)]
    have hdone := J.done (by omega)
    have hcl : ∀ p ∈ found, ∀ g ∈ row rows p, g ∈ found := fun p hp g hg => (hdone g).mp (.tail ((hdone p).mpr hp) hg)
    obtain ⟨hG, hGl⟩ := renum_good J.nd h0 J.bd hcl J.re h4
    walk_at "ev"
    refine lc_map (xs := iD (ofN found)) (fun P h => by walk_at "ev"; exact h) rfl (by rw [iD_len, szl]; omega) (fun y => match y with | .int s => .lst (iD (ofN ((row rows s.toNat).map fun g => found.idxOf g))) | y => y) (fun i x k k' hx hk => ?_) ?_
    · obtain ⟨p, hp, rfl⟩ := iD_mem hx
      have hpm := List.mem_of_getElem? hp
      have hpr := J.bd p hpm
      have hrl := h4 _ (row_mem hpr)
      unfold lcB
      walk_at "ev"
      refine lc_map (xs := iD (ofN (row rows p))) (fun P h => by walk_at "ev"; rw [atI_row hpr]; exact h) (by rcases ht with rfl | ⟨d, rfl⟩ <;> rfl) (by rw [iD_len, szl]; omega) (fun y => match y with | .int n => Da.int ((found.idxOf n.toNat : Nat) : Int) | y => y) (fun i x k k' hx hk => ?_) ?_
      · obtain ⟨g, hg, rfl⟩ := iD_mem hx
        unfold lcB
        walk_at "ev"
        refine ⟨ofN found, rfl, mem_ofN.mpr (hcl p hpm g (List.mem_of_getElem? hg)), ?_⟩
        rw [idxOf_ofN]
        exact hk
      · exact ⟨rfl, Eq.mpr (congrArg (fun z => k (Da.lst z)) (iD_map (row rows p) fun n => found.idxOf n)) hk⟩
    · have e : (iD (ofN found)).map (fun y => match y with | .int s => Da.lst (iD (ofN ((row rows s.toNat).map fun g => found.idxOf g))) | y => y) = lD (oN (renum rows found)) := by
        rw [← renum_eq]
        show List.map _ (List.map _ (List.map _ found)) = _
        rw [List.map_map, List.map_map]
        rfl
      rw [e]
      walk_at "ev"
      exact q _ hG (by rw [hGl]; exact hfl)
theorem erase_perm {α : Type} : ∀ {l : List α} {i : Nat} (h : i < l.length), (l[i] :: l.eraseIdx i).Perm l
  | a :: l, 0, _ => .refl _
  | a :: l, i + 1, h => by
    rw [List.eraseIdx_cons_succ, List.getElem_cons_succ]
    exact (List.Perm.swap a _ _).trans ((erase_perm (by simpa using h)).cons a)
theorem erase_map {α β : Type} (f : α → β) : ∀ (l : List α) (i : Nat), (l.map f).eraseIdx i = (l.eraseIdx i).map f
  | [], _ => rfl
  | a :: l, 0 => rfl
  | a :: l, i + 1 => by rw [List.map_cons, List.eraseIdx_cons_succ, erase_map f l i, List.eraseIdx_cons_succ, List.map_cons]
abbrev R_law_turned : RR := fun ds Q => ∃ L rows, ds = [.lst (lD (oN rows))] ∧ GoodR L rows ∧ rows.length ≤ 120 ∧ L ≤ 3 ∧ ∀ rows', GoodR L rows' → rows'.length ≤ rows.length → Q (.lst (lD (oN rows')))
theorem ok_law_turned (T : Txt K mg) : Df P w K mg base "_law_turned" 2 ["_law_pot_here", "_law_rows"] (spP K R_law_turned) := by
  obtain ⟨fd, F, b⟩ := q_law_turned T
  refine ⟨_, fd, okP F sc_law_turned (by rintro ds Q ⟨L, rows, rfl, h1, h2, h3, q⟩; rfl) (by decide) (fun cdv A outer s H hr => ⟨_, _, ⟨
      (pss_cons (ps_asg (pe_tup (pa_cons (pe_lst (pa_cons pe_int pa_nil)) (pa_cons (pe_listRg rfl (by rfl) T.z_list (prg_2 (by rfl) T.z_range pe_int (pe_callB call_len (by rfl) T.z_len boot_len (pa_cons (pv 1) pa_nil)))) pa_nil))) (pg_tup (n := 2) (by rfl) (pgs_cons (pg_name (i := 2) sc_law_turned.nd rfl (Or.inr rfl)) (pgs_cons (pg_name (i := 3) sc_law_turned.nd rfl (Or.inl rfl)) pgs_nil))))
      (pss_cons (ps_for PassesOwn.never rfl (pi_range1 (by rfl) T.z_range (pa_cons (pe_op op_sub (pe_callB call_len (by rfl) T.z_len boot_len (pa_cons (pv 1) pa_nil)) pe_int) pa_nil)) (pg_name (i := 4) sc_law_turned.nd rfl (Or.inl rfl))
      (pss_one (ps_expr (pe_bm PySem.F.plainAttrs_list PySem.F.slot_list_append PySem.F.type_list_append mt_append (pv 2) (pa_cons (pe_bm PySem.F.plainAttrs_list PySem.F.slot_list_pop PySem.F.type_list_pop mt_popAt (pv 3) (pa_cons (pe_callD (ok_law_draw T) hr (pa_cons (pv 0) (pa_cons (pe_callB call_len (by rfl) T.z_len boot_len (pa_cons (pv 3) pa_nil)) pa_nil))) pa_nil)) pa_nil)))))
      (pss_one (ps_ret (pe_lc (own := [("_law_spot", 5)]) (g := gName 5) (tt := tYes) rfl sc_law_turned.nd (pi_list (pv 2)) (blkOk_by (by kernel_rfl)) (fun _ _ _ _ _ => (pg_name (i := 5) sc_law_turned.nd rfl (Or.inl rfl))) (fun _ _ _ _ _ => pts_nil) (fun _ _ _ _ _ => (pe_lc (own := [("_law_goal", 6)]) (g := gName 6) (tt := tYes) rfl sc_law_turned.nd (pi_list (pe_ix ix_seq (pv 1) (pv 5) (fun _ _ => rfl))) (blkOk_by (by kernel_rfl)) (fun _ _ _ _ _ => (pg_name (i := 6) sc_law_turned.nd rfl (Or.inl rfl))) (fun _ _ _ _ _ => pts_nil) (fun _ _ _ _ _ => (pe_bm PySem.F.plainAttrs_list PySem.F.slot_list_index PySem.F.type_list_index mt_index (pv 2) (pa_cons (pv 6) pa_nil)))))))))),
      (rs_seq (rs_parT (re_lst (ra_consA (re_c fun _ => .int _) ra_nil)) (re_listRg (rr_2 (re_c fun _ => .int _) (re_CB rc_len (ra_cons re_var ra_nil)))))
      (rs_seq (rs_for (ri_rng1 (re_op ro_I0 (re_CB rc_len (ra_cons re_var ra_nil)) (re_c fun _ => .int _))) (rg_name 4)
      (rs_drop (re_bm rm_append re_var (ra_consA (re_bm rm_popAt re_var (ra_cons (re_callP (ra_consA (re_CB rc_len (ra_cons re_var ra_nil)) ra_nil)) ra_nil)) ra_nil))))
      (rs_frz (i := 2) (rs_ret (re_lc (ri_list re_var) (rg_name 5) rt_yes (re_lc (ri_list (re_op ro_ix re_var re_var)) (rg_name 6) rt_yes (re_bm rm_index re_var (ra_cons re_var ra_nil)) (by decide)) (by decide))))))⟩, fun ds Q h => ?_⟩), T.g__law_turned, F.kp, b⟩
  obtain ⟨L, rows, rfl, h1, h2, h3, q⟩ := h
  have n1 := h1.n1
  walk_at "ev"
  refine ⟨by rw [szl]; omega, RgOk.of_le (by omega) (by omega) (by omega) (by omega), ?_⟩
  rw [show (iD ((List.range ((rows.length : Int) - 1).toNat).map fun i : Nat => (1 : Int) + (i : Nat))) = iD (ofN ((List.range (rows.length - 1)).map (1 + ·))) from by
    rw [show ((rows.length : Int) - 1).toNat = rows.length - 1 from by omega]
    congr 1
    show _ = List.map _ (List.map _ _)
    rw [List.map_map]
    refine List.map_congr_left fun x _ => ?_
    show (1 : Int) + (x : Nat) = Int.ofNat (1 + x)
    simp]
  have hr0 : [0] ++ (List.range (rows.length - 1)).map (1 + ·) = List.range rows.length := by
    obtain ⟨k, hk⟩ : ∃ k, rows.length = k + 1 := ⟨rows.length - 1, by omega⟩
    rw [hk, List.range_succ_eq_map, Nat.add_sub_cancel]
    show 0 :: _ = 0 :: _
    congr 1
    refine List.map_congr_left fun x _ => ?_
    show 1 + x = Nat.succ x
    omega
  refine for_intro (xs := rgD 0 (rows.length - 1)) (e0 := [.pot, .d (.lst (lD (oN rows))), .l (iD (ofN [0])), .l (iD (ofN ((List.range (rows.length - 1)).map (1 + ·)))), .u, .u, .u]) (fun P h => ?_)
    (fun i e => ∃ (order rest : List Nat) (t4 : Sl), (order ++ rest).Perm (List.range rows.length) ∧ order[0]? = some 0 ∧ order.length = i + 1 ∧ (t4 = .u ∨ ∃ d, t4 = .d d) ∧ e = [.pot, .d (.lst (lD (oN rows))), .l (iD (ofN order)), .l (iD (ofN rest)), t4, .u, .u])
    ⟨[0], _, .u, by rw [hr0], rfl, rfl, .inl rfl, rfl⟩ (fun i x e hx hI => ?_) fun e hI => ?_
  · walk_at "ev"
    refine ⟨by omega, by omega, ?_⟩
    rw [show ((rows.length : Int) - 1).toNat = rows.length - 1 from by omega]
    exact h
  · obtain ⟨order, rest, t4, hp, h0, hl, _, rfl⟩ := hI
    obtain ⟨hi, rfl⟩ := rgD_get hx
    have hlen := hp.length_eq
    rw [List.length_append, List.length_range] at hlen
    walk_at "ev"
    refine ⟨rest.length, rfl, by omega, by omega, fun d hd => ?_⟩
    walk_at "ev"
    refine ⟨d, rfl, by omega, ?_⟩
    rw [List.getElem?_map, List.getElem?_map, List.getElem?_eq_getElem hd]
    walk_at "ev"
    refine ⟨by rw [szl]; (try simp only [List.length_map]); omega, order ++ [rest[d]], rest.eraseIdx d, _, ?_, ?_, by rw [List.length_append, hl]; rfl, .inr ⟨.int (0 + (i : Nat)), rfl⟩, ?_⟩
    · rw [List.append_assoc]
      exact (List.Perm.append_left order (erase_perm hd)).trans hp
    · rw [List.getElem?_append_left (by omega)]
      exact h0
    · rw [← iD_snoc, erase_map, erase_map]
      rfl
  · obtain ⟨order, rest, t4, hp, h0, hl, ht4, rfl⟩ := hI
    rw [show (rgD 0 (rows.length - 1)).length = rows.length - 1 from by simp [rgD]] at hl
    have hlen := hp.length_eq
    rw [List.length_append, List.length_range] at hlen
    have hre : rest = [] := List.length_eq_zero_iff.mp (by omega)
    subst hre
    rw [List.append_nil] at hp
    have hmem : ∀ p, p ∈ order ↔ p < rows.length := fun p => by rw [hp.mem_iff, List.mem_range]
    have hnd : order.Nodup := hp.nodup_iff.mpr List.nodup_range
    have hcl : ∀ p ∈ order, ∀ g ∈ row rows p, g ∈ order := fun p _ g hg => (hmem g).mpr (h1.rg.lt hg)
    obtain ⟨hG, hGl⟩ := renum_good hnd h0 (fun p hp => (hmem p).mp hp) hcl (fun p hp => h1.am p ((hmem p).mp hp)) h1.rl
    walk_at "ev"
    refine lc_map (xs := iD (ofN order)) (fun P h => by walk_at "ev"; exact h) rfl (by rw [iD_len, szl]; omega) (fun y => match y with | .int s => .lst (iD (ofN ((row rows s.toNat).map fun g => order.idxOf g))) | y => y) (fun i x k k' hx hk => ?_) ?_
    · obtain ⟨p, hp, rfl⟩ := iD_mem hx
      have hpm := List.mem_of_getElem? hp
      have hpr := (hmem p).mp hpm
      have hrl := h1.rl _ (row_mem hpr)
      unfold lcB
      walk_at "ev"
      refine lc_map (xs := iD (ofN (row rows p))) (fun P h => by walk_at "ev"; rw [atI_row hpr]; exact h) (by rcases ht4 with rfl | ⟨d, rfl⟩ <;> rfl) (by rw [iD_len, szl]; omega) (fun y => match y with | .int n => Da.int ((order.idxOf n.toNat : Nat) : Int) | y => y) (fun i x k k' hx hk => ?_) ?_
      · obtain ⟨g, hg, rfl⟩ := iD_mem hx
        unfold lcB
        walk_at "ev"
        refine ⟨ofN order, rfl, mem_ofN.mpr (hcl p hpm g (List.mem_of_getElem? hg)), ?_⟩
        rw [idxOf_ofN]
        exact hk
      · exact ⟨rfl, Eq.mpr (congrArg (fun z => k (Da.lst z)) (iD_map (row rows p) fun n => order.idxOf n)) hk⟩
    · have e : (iD (ofN order)).map (fun y => match y with | .int s => Da.lst (iD (ofN ((row rows s.toNat).map fun g => order.idxOf g))) | y => y) = lD (oN (renum rows order)) := by
        rw [← renum_eq]
        show List.map _ (List.map _ (List.map _ order)) = _
        rw [List.map_map, List.map_map]
        rfl
      rw [e]
      walk_at "ev"
      exact q _ hG (by rw [hGl]; omega)
abbrev R_law_net : RR := fun ds Q => ds = [.int 6] ∧ ∀ ls rows, Mc ls rows → AllMet rows → rows.length ≤ 6 → 113 ∉ ls → Q (.tup [.str (tx ls), .lst (lD (oN rows))])
theorem pull_rows {P : List Nat → Prop} : ∀ (ys : List Da), (∀ y ∈ ys, ∃ r : List Nat, y = .lst (iD (ofN r)) ∧ P r) → ∃ rs : List (List Nat), ys = lD (oN rs) ∧ rs.length = ys.length ∧ ∀ r ∈ rs, P r
  | [], _ => ⟨[], rfl, rfl, by simp⟩
  | y :: ys, h => by
    obtain ⟨r, rfl, hr⟩ := h y List.mem_cons_self
    obtain ⟨rs, rfl, h1, h2⟩ := pull_rows ys fun z hz => h z (List.mem_cons_of_mem _ hz)
    refine ⟨r :: rs, rfl, by simp, fun z hz => ?_⟩
    rcases List.mem_cons.mp hz with e | e
    · rw [e]; exact hr
    · exact h2 z e
theorem pull_ints {P : Nat → Prop} : ∀ (ys : List Da), (∀ y ∈ ys, ∃ r : Nat, y = .int (r : Nat) ∧ P r) → ∃ rs : List Nat, ys = iD (ofN rs) ∧ rs.length = ys.length ∧ ∀ r ∈ rs, P r
  | [], _ => ⟨[], rfl, rfl, by simp⟩
  | y :: ys, h => by
    obtain ⟨r, rfl, hr⟩ := h y List.mem_cons_self
    obtain ⟨rs, rfl, h1, h2⟩ := pull_ints ys fun z hz => h z (List.mem_cons_of_mem _ hz)
    refine ⟨r :: rs, rfl, by simp, fun z hz => ?_⟩
    rcases List.mem_cons.mp hz with e | e
    · rw [e]; exact hr
    · exact h2 z e
theorem rel_all {R : Da → Prop} {xs ys : List Da} (h1 : ys.length = xs.length) (h2 : ∀ (i : Nat) (x y : Da), xs[i]? = some x → ys[i]? = some y → R y) : ∀ y ∈ ys, R y := fun y hy => by
  obtain ⟨i, hi⟩ := List.getElem?_of_mem hy
  have hl := (List.getElem?_eq_some_iff.mp hi).1
  exact h2 i _ y (List.getElem?_eq_getElem (by omega)) hi
theorem ok_law_net (T : Txt K mg) : Df P w K mg base "_law_net" 3 ["_law_pot_here", "_law_most"] (spP K R_law_net) := by
  obtain ⟨fd, F, b⟩ := q_law_net T
  refine ⟨_, fd, okP F sc_law_net (by rintro ds Q ⟨rfl, q⟩; rfl) (by decide) (fun cdv A outer s H hr => ⟨_, _, ⟨
      (pss_cons (ps_asg (pe_tup (pa_cons (pe_op op_add pe_int (pe_callD (ok_law_draw T) hr (pa_cons (pv 0) (pa_cons (pv 1) pa_nil)))) (pa_cons (pe_op op_add pe_int (pe_callD (ok_law_draw T) hr (pa_cons (pv 0) (pa_cons pe_int pa_nil)))) pa_nil))) (pg_tup (n := 2) (by rfl) (pgs_cons (pg_name (i := 2) sc_law_net.nd rfl (Or.inr rfl)) (pgs_cons (pg_name (i := 3) sc_law_net.nd rfl (Or.inl rfl)) pgs_nil))))
      (pss_cons (ps_asg (pe_tup (pa_cons (pe_slice sl_str (pe_callD (ok_law_pick T) hr (pa_cons (pv 0) (pa_cons (pe_lst (pa_cons pe_str (pa_cons pe_str (pa_cons pe_str pa_nil)))) pa_nil))) po_none (po_some (pv 3))) (pa_cons (pe_lst pa_nil) (pa_cons (pe_cmpR op_eq (pe_callD (ok_law_draw T) hr (pa_cons (pv 0) (pa_cons pe_int pa_nil))) pe_int (nomark _)) pa_nil)))) (pg_tup (n := 3) (by rfl) (pgs_cons (pg_name (i := 4) sc_law_net.nd rfl (Or.inl rfl)) (pgs_cons (pg_name (i := 5) sc_law_net.nd rfl (Or.inl rfl)) (pgs_cons (pg_name (i := 6) sc_law_net.nd rfl (Or.inr rfl)) pgs_nil)))))
      (pss_cons (ps_for PassesOwn.never rfl (pi_range1 (by rfl) T.z_range (pa_cons (pv 2) pa_nil)) (pg_name (i := 7) sc_law_net.nd rfl (Or.inr rfl))
      (pss_cons (ps_set (i := 8) sc_law_net.nd rfl (Or.inr rfl) (pe_lc (own := [("_law_far", 9)]) (g := gName 9) rfl sc_law_net.nd (pi_range1 (by rfl) T.z_range (pa_cons (pv 2) pa_nil)) (blkOk_by (by kernel_rfl)) (fun _ _ _ _ _ => (pg_name (i := 9) sc_law_net.nd rfl (Or.inl rfl))) (fun _ _ _ _ _ => pts_one (PW.pt (pw_or (pt_cmpR op_ne (pv 9) (pv 7) (nomark _)) (pw_or (pt_cmpR op_eq (pv 2) pe_int (nomark _)) (pw_or1 (pt_not (pt_val (pv 6)))))))) (fun _ _ _ _ _ => by exact (pv 9))))
      (pss_one (ps_expr (pe_bm PySem.F.plainAttrs_list PySem.F.slot_list_append PySem.F.type_list_append mt_append (pv 5) (pa_cons (pe_lc (own := [("_law_sign", 10)]) (g := gName 10) (tt := tYes) rfl sc_law_net.nd (pi_str (pv 4)) (blkOk_by (by kernel_rfl)) (fun _ _ _ _ _ => (pg_name (i := 10) sc_law_net.nd rfl (Or.inl rfl))) (fun _ _ _ _ _ => pts_nil) (fun _ _ _ _ _ => by exact (pe_callD (ok_law_pick T) hr (pa_cons (pv 0) (pa_cons (pv 8) pa_nil))))) pa_nil))))))
      (pss_one (ps_ret (pe_tup (pa_cons (pv 4) (pa_cons (pe_callD (ok_law_turned T) hr (pa_cons (pv 0) (pa_cons (pe_callD (ok_law_met T) hr (pa_cons (pv 5) pa_nil)) pa_nil))) pa_nil)))))))),
      (rs_seq (rs_parT (re_op ro_I0 (re_c fun _ => .int _) (re_callP (ra_consA re_var ra_nil))) (re_op ro_I0 (re_c fun _ => .int _) (re_callP (ra_consA (re_c fun _ => .int _) ra_nil))))
      (rs_seq (rs_par3T (re_slS (re_callP (ra_consA (re_lst (ra_consA (re_c fun _ => .str _) (ra_consA (re_c fun _ => .str _) (ra_consA (re_c fun _ => .str _) ra_nil)))) ra_nil)) ro_no (ro_part re_var)) (re_lst ra_nil) (re_op ro_eq (re_callP (ra_consA (re_c fun _ => .int _) ra_nil)) (re_c fun _ => .int _)))
      (rs_seq (rs_for (ri_rng1 re_var) (rg_name 7)
      (rs_seq (rs_set 8 (re_lc (ri_rng1 re_var) (rg_name 9) (rt_or (rt_test (re_op ro_ne re_var re_var)) (rt_or (rt_test (re_op ro_eq re_var (re_c fun _ => .int _))) (rt_not (rt_B re_var)))) re_var (by decide)))
      (rs_frz (i := 8) (rs_drop (re_bm rm_append re_var (ra_consA (re_lc (ri_str re_var) (rg_name 10) rt_yes (re_callP (ra_consA re_var ra_nil)) (by decide)) ra_nil))))))
      (rs_frz (i := 5) (rs_ret (re_tup (ra_consA re_var (ra_consA (re_callP (ra_consA (re_call (ra_consA re_var ra_nil)) ra_nil)) ra_nil))))))))⟩, fun ds Q h => ?_⟩), T.g__law_net, F.kp, b⟩
  obtain ⟨rfl, q⟩ := h
  walk_at "ev"
  refine ⟨6, rfl, by omega, by omega, fun d hd => ?_⟩
  walk_at "ev"
  refine ⟨3, rfl, by omega, by omega, fun z hz => ?_⟩
  walk_at "ev"
  refine ⟨by rw [szl]; omega, _, rfl, .inl ⟨_, rfl, by simp, by simp, fun x hx => ?_⟩⟩
  walk_at "ev"
  obtain ⟨l, rfl, hlow, hl3, hris, hnq⟩ : ∃ l, x = .str (tx l) ∧ Low l ∧ l.length = 3 ∧ Rising l ∧ 113 ∉ l := by
    rcases List.mem_cons.mp hx with rfl | hx
    · exact ⟨[97, 98, 99], rfl, by unfold Low; decide, rfl, by unfold Rising; decide, by decide⟩
    rcases List.mem_cons.mp hx with rfl | hx
    · exact ⟨[97, 109, 122], rfl, by unfold Low; decide, rfl, by unfold Rising; decide, by decide⟩
    · rw [List.mem_singleton.mp hx]
      exact ⟨[100, 120, 121], rfl, by unfold Low; decide, rfl, by unfold Rising; decide, by decide⟩
  walk_at "ev"
  refine ⟨by rw [szl]; omega, by rw [szl]; omega, 3, rfl, by omega, by omega, fun f hf => ?_⟩
  walk_at "ev"
  refine ⟨rfl, ?_⟩
  rw [show (1 : Int) + (z : Nat) = ((1 + z : Nat) : Int) from by omega, show (1 : Int) + (d : Nat) = ((1 + d : Nat) : Int) from by omega, cut_take]
  generalize decide (V.int (f : Nat) = V.int 0) = far
  have hll : (l.take (1 + z)).length = 1 + z := by rw [List.length_take]; omega
  have hlow2 : Low (l.take (1 + z)) := fun c hc => hlow c (List.mem_of_mem_take hc)
  have hris2 : Rising (l.take (1 + z)) := List.Pairwise.sublist (List.take_sublist _ _) hris
  have hnq2 : 113 ∉ l.take (1 + z) := fun h => hnq (List.mem_of_mem_take h)
  generalize l.take (1 + z) = ls at hll hlow2 hris2 hnq2
  refine for_intro (xs := rgD 0 (1 + d)) (fun P h => by walk_at "ev"; exact ⟨by omega, by omega, by rw [Int.toNat_natCast]; exact h⟩)
    (fun i e => ∃ (rws : List (List Nat)) (t7 t8 : Sl), rws.length = i ∧ (∀ r ∈ rws, r.length = ls.length ∧ ∀ g ∈ r, g < 1 + d) ∧ (t7 = .u ∨ ∃ d, t7 = .d d) ∧ (t8 = .u ∨ ∃ d, t8 = .d d) ∧
      e = [.pot, .d (.int 6), .d (.int ((1 + d : Nat) : Int)), .d (.int ((1 + z : Nat) : Int)), .d (.str (tx ls)), .l (lD (oN rws)), .d (.bl far), t7, t8, .u, .u])
    ⟨[], .u, .u, rfl, by simp, .inl rfl, .inl rfl, rfl⟩ (fun i x e hx hI => ?_) fun e hI => ?_
  · obtain ⟨rws, t7, t8, hrl, hrw, _, ht8, rfl⟩ := hI
    obtain ⟨hi, rfl⟩ := rgD_get hx
    have e0 : (0 : Int) + (i : Nat) = ((i : Nat) : Int) := by omega
    rw [e0]
    walk_at "ev"
    refine lc_fm (xs := rgD 0 (1 + d)) (e0 := [.pot, .d (.int 6), .d (.int ((1 + d : Nat) : Int)), .d (.int ((1 + z : Nat) : Int)), .d (.str (tx ls)), .l (lD (oN rws)), .d (.bl far), .d (.int (i : Int)), t8, .u, .u]) (fun P h => ?_) rfl (by rw [szl]; simp [rgD]; omega)
      (fun x => match x with | .int n => if n.toNat ≠ i ∨ d = 0 ∨ far = false then some (.int n) else none | _ => none) (fun j x k k' hx hk hk' => ?_) ?_
    · walk_at "ev"
      exact ⟨by omega, by omega, by rw [Int.toNat_natCast]; exact h⟩
    · obtain ⟨hj, rfl⟩ := rgD_get hx
      rw [show (0 : Int) + (j : Nat) = ((j : Nat) : Int) from by omega] at hk hk' ⊢
      unfold lcB
      walk_at "ev"
      refine ⟨rfl, ?_⟩
      by_cases h1 : j = i
      · rw [if_neg (by rw [h1]; simp)]
        refine ⟨rfl, ?_⟩
        by_cases h2 : d = 0
        · rw [if_pos (by rw [h2]; rfl)]
          exact hk _ (if_pos (.inr (.inl h2)))
        · rw [if_neg (fun z => h2 (by
            have z := of_decide_eq_true z
            injection z with z
            omega))]
          cases far with
          | false => exact hk _ (if_pos (.inr (.inr rfl)))
          | true => exact hk' (if_neg (by simp [h1, h2]))
      · rw [if_pos (by
          rw [Bool.not_eq_true', decide_eq_false_iff_not]
          intro z
          injection z with z
          omega)]
        exact hk _ (if_pos (.inl (by simpa using h1)))
    · have hys : ∀ y ∈ (rgD 0 (1 + d)).filterMap (fun x => match x with | .int n => if n.toNat ≠ i ∨ d = 0 ∨ far = false then some (Da.int n) else none | _ => none), ∃ g : Nat, y = .int (g : Nat) ∧ g < 1 + d := fun y hy => by
        obtain ⟨x, hx, hf⟩ := List.mem_filterMap.mp hy
        obtain ⟨j, hj⟩ := List.getElem?_of_mem hx
        obtain ⟨hj1, rfl⟩ := rgD_get hj
        simp only at hf
        split at hf
        · cases hf
          exact ⟨j, by congr 1; omega, hj1⟩
        · cases hf
      have hne : (rgD 0 (1 + d)).filterMap (fun x => match x with | .int n => if n.toNat ≠ i ∨ d = 0 ∨ far = false then some (Da.int n) else none | _ => none) ≠ [] := fun h => by
        have hmem : ∀ j : Nat, j < 1 + d → Da.int ((j : Nat) : Int) ∈ rgD 0 (1 + d) := fun j hj => List.mem_map.mpr ⟨j, List.mem_range.mpr hj, by congr 1; omega⟩
        have hno : ∀ j : Nat, j < 1 + d → ¬ (j ≠ i ∨ d = 0 ∨ far = false) := fun j hj hc => by
          have : Da.int ((j : Nat) : Int) ∈ (rgD 0 (1 + d)).filterMap (fun x => match x with | .int n => if n.toNat ≠ i ∨ d = 0 ∨ far = false then some (Da.int n) else none | _ => none) := List.mem_filterMap.mpr ⟨_, hmem j hj, if_pos (by simpa using hc)⟩
          rw [h] at this
          cases this
        by_cases hd0 : d = 0
        · exact hno 0 (by omega) (.inr (.inl hd0))
        · by_cases hi0 : i = 0
          · exact hno 1 (by omega) (.inl (by omega))
          · exact hno 0 (by omega) (.inl (by omega))
      have hyl : ((rgD 0 (1 + d)).filterMap (fun x => match x with | .int n => if n.toNat ≠ i ∨ d = 0 ∨ far = false then some (Da.int n) else none | _ => none)).length ≤ 6 := Nat.le_trans (List.length_filterMap_le _ _) (by simp [rgD]; omega)
      generalize (rgD 0 (1 + d)).filterMap (fun x => match x with | .int n => if n.toNat ≠ i ∨ d = 0 ∨ far = false then some (Da.int n) else none | _ => none) = ys at hys hne hyl
      walk_at "ev"
      refine lc_rel (xs := ls.map sgD) (fun P h => by walk_at "ev"; exact h) rfl (by rw [List.length_map, szl]; omega) (fun _ y => ∃ n : Nat, y = .int (n : Nat) ∧ n < 1 + d) (fun j x k k' hx hk => ?_) fun zs hz1 hz2 => ?_
      · obtain ⟨c, hc, rfl⟩ := List.mem_map.mp (List.mem_of_getElem? hx)
        unfold lcB
        walk_at "ev"
        exact ⟨_, rfl, .inl ⟨ys, rfl, hne, by omega, fun y hy => hk y (hys y hy)⟩⟩
      · obtain ⟨rs, rfl, h1, h2⟩ := pull_ints (P := fun n => n < 1 + d) zs (rel_all hz1 hz2)
        walk_at "ev"
        refine ⟨by rw [szl]; omega, rws ++ [rs], _, _, by rw [List.length_append, hrl]; rfl, fun r hr => ?_, .inr ⟨.int (i : Int), rfl⟩, .inr ⟨.lst ys, rfl⟩, ?_⟩
        · rcases List.mem_append.mp hr with e | e
          · exact hrw r e
          · rw [List.mem_singleton.mp e]
            exact ⟨by rw [h1, hz1, List.length_map], h2⟩
        · simp [lD, oN]
  · obtain ⟨rws, t7, t8, hrl, hrw, ht7, ht8, rfl⟩ := hI
    rw [show (rgD 0 (1 + d)).length = 1 + d from by simp [rgD]] at hrl
    walk_at "ev"
    have hin : InR rws := fun r hr g hg => by rw [hrl]; exact (hrw r hr).2 g hg
    refine ⟨ls.length, rws, rfl, by omega, by omega, hin, fun r hr => (hrw r hr).1, by omega, fun rows1 h1 h2 => ?_⟩
    refine ⟨ls.length, rows1, rfl, h1, by omega, by omega, fun rows2 h3 h4 => ⟨by rw [szl]; omega, ?_⟩⟩
    exact q ls rows2 ⟨hlow2, by omega, by omega, hris2, h3.n1, by omega, h3.rl, h3.rg⟩ h3.am (by omega) hnq2
abbrev netD (ls : List Nat) (rows : List (List Nat)) : Da := .tup [.str (tx ls), .lst (lD (oN rows))]
abbrev R_law_flood : RR := fun ds Q => ∃ rows s, ds = [.lst (lD (oN rows)), .lst (iD (ofN (List.range rows.length))), .int ((s : Nat) : Int)] ∧ rows.length ≤ 120 ∧ InR rows ∧ s < rows.length ∧ ∀ m : List Nat, (∀ q, (q = s ∨ q ∈ m) ↔ Reach rows s q) → Q (.lst (iD (ofN m)))
theorem ok_law_flood (T : Txt K mg) : Df P w K mg base "_law_flood" 1 ["_law_rows", "_law_some", "_law_spot"] (spD K R_law_flood) := by
  obtain ⟨fd, F, b⟩ := q_law_flood T
  refine ⟨_, fd, okD F sc_law_flood (by rintro ds Q ⟨rows, s0, rfl, h1, h2, h3, q⟩; rfl) (by decide) (fun cdv A outer s H hr => ⟨_, _, ⟨
      (pss_cons (ps_par (i := 3) (j := 4) (by rfl) sc_law_flood.nd rfl rfl (by decide) rfl rfl (pa_cons (pe_lst pa_nil) (pa_cons (pe_lst (pa_cons (pv 2) pa_nil)) pa_nil)) (by rfl))
      (pss_cons (ps_while PassesOwn.never (pt_cmpR (op_neD hr.units) (pv 4) (pe_lst pa_nil) (nomark _))
      (pss_one (ps_for PassesOwn.never rfl (pi_list (pe_ix ix_seq (pv 0) (pe_bm0 PySem.F.plainAttrs_list PySem.F.slot_list_pop PySem.F.type_list_pop mt_pop (pv 4)) (fun _ _ => rfl))) (pg_name (i := 5) sc_law_flood.nd rfl (Or.inl rfl))
      (pss_one (ps_if (PW.pt (pw_and (pt_cmpR op_in_seq (pv 5) (pv 1) rfl) (pw_and1 (pt_cmpR op_notIn_seq (pv 5) (pv 3) rfl)))) (pss_cons (ps_expr (pe_bm PySem.F.plainAttrs_list PySem.F.slot_list_append PySem.F.type_list_append mt_append (pv 3) (pa_cons (pv 5) pa_nil)))
      (pss_one (ps_expr (pe_bm PySem.F.plainAttrs_list PySem.F.slot_list_append PySem.F.type_list_append mt_append (pv 4) (pa_cons (pv 5) pa_nil))))) pss_nil)))))
      (pss_one (ps_ret (pv 3))))),
      (rs_seq (rs_par (re_lst ra_nil) (re_lst (ra_consA re_var ra_nil)))
      (rs_seq (rs_while (rt_test (re_op ro_neD re_var (re_lst ra_nil)))
      (rs_for (ri_list (re_op ro_ix re_var (re_bm0 rm_pop re_var))) (rg_name 5)
      (rs_if (rt_and (rt_test (re_op (ro_inN false) re_var re_var)) (rt_test (re_op (ro_inN true) re_var re_var))) (rs_seq (rs_drop (re_bm rm_append re_var (ra_consA re_var ra_nil)))
      (rs_drop (re_bm rm_append re_var (ra_consA re_var ra_nil)))) rs_next)))
      (rs_ret re_var)))⟩, fun ds Q h => ?_⟩), T.g__law_flood, F.kp, b⟩
  obtain ⟨rows, s0, rfl, h1, h2, h3, q⟩ := h
  walk_at "ev"
  refine ⟨by rw [szl]; omega, by rw [szl]; omega, ?_⟩
  refine while_intro (fun m e => ∃ (found waiting : List Nat) (t : Sl), m + found.length = rows.length + waiting.length ∧ waiting.length ≤ found.length + 1 ∧ FlInv rows s0 found waiting (fun _ => False) ∧ (t = .u ∨ ∃ d, t = .d d) ∧
    e = [.d (.lst (lD (oN rows))), .d (.lst (iD (ofN (List.range rows.length)))), .d (.int (s0 : Int)), .l (iD (ofN found)), .l (iD (ofN waiting)), t]) (rows.length + 1)
    ⟨[], [s0], .u, rfl, Nat.le_refl _, .start, .inl rfl, rfl⟩ (fun m e hI => ?_)
  obtain ⟨found, waiting, t, hm, hwl, J, ht, rfl⟩ := hI
  have hfl := J.len
  walk_at "ev"
  refine ⟨by rw [szl]; omega, plain_ints _, rfl, shaped_iD _, shaped_iD [], ?_⟩
  rw [show (Da.lst []) = Da.lst (iD []) from rfl, eqv_iD]
  rcases List.eq_nil_or_concat waiting with hp | ⟨w2, t0, hp⟩
  · subst hp
    rw [if_neg (by simp)]
    walk_at "ev"
    exact q found J.done
  · rw [List.concat_eq_append] at hp
    subst hp
    rw [if_pos (by simp [ofN])]
    obtain ⟨J1, ht0⟩ := J.pop
    have htr : t0 < rows.length := ht0.elim (fun e => by rw [e]; exact h3) (J.bd t0)
    rw [List.length_append, List.length_singleton] at hm hwl
    refine for_intro (xs := iD (ofN (row rows t0))) (e0 := [.d (.lst (lD (oN rows))), .d (.lst (iD (ofN (List.range rows.length)))), .d (.int (s0 : Int)), .l (iD (ofN found)), .l (iD (ofN w2)), t]) (fun P h => ?_)
      (fun i e => ∃ (f2 w3 : List Nat) (t : Sl), m + f2.length = rows.length + w3.length + 1 ∧ w3.length ≤ f2.length ∧ FlInv rows s0 f2 w3 (fun x => x = t0) ∧ (t0 = s0 ∨ t0 ∈ f2) ∧ (∀ j g, j < i → (row rows t0)[j]? = some g → g ∈ f2) ∧ (t = .u ∨ ∃ d, t = .d d) ∧
        e = [.d (.lst (lD (oN rows))), .d (.lst (iD (ofN (List.range rows.length)))), .d (.int (s0 : Int)), .l (iD (ofN f2)), .l (iD (ofN w3)), t])
      ⟨found, w2, t, by omega, by omega, J1, ht0, fun j g hj => absurd hj (Nat.not_lt_zero _), ht, rfl⟩ (fun i x e hx2 hI => ?_) fun e hI => ?_
    · walk_at "ev"
      rw [iD_top]
      walk_at "ev"
      rw [iD_drop, atI_row htr]
      exact h
    · obtain ⟨f2, w3, t, hm2, hwl2, J2, ht2, hc, _, rfl⟩ := hI
      obtain ⟨g, hg, rfl⟩ := iD_mem hx2
      have hf2 := J2.len
      have hgr : g < rows.length := h2.lt (List.mem_of_getElem? hg)
      walk_at "ev"
      refine ⟨_, rfl, ?_⟩
      rw [in_ofN, decide_eq_true (List.mem_range.mpr hgr)]
      walk_at "ev"
      refine ⟨ofN f2, rfl, ?_⟩
      rw [in_ofN]
      by_cases hgm : g ∈ f2
      · rw [if_neg (by simp [hgm])]
        refine ⟨f2, w3, _, hm2, hwl2, J2, ht2, fun j g' hj hg' => ?_, .inr ⟨.int (g : Int), rfl⟩, rfl⟩
        by_cases e : j = i
        · subst e
          rw [hg] at hg'
          cases hg'
          exact hgm
        · exact hc j g' (by omega) hg'
      · rw [if_pos (by simp [hgm])]
        refine ⟨by (try simp only [List.length_map]); rw [szl]; omega, by (try simp only [List.length_map]); rw [szl]; omega, f2 ++ [g], w3 ++ [g], _, by rw [List.length_append, List.length_append, List.length_singleton]; omega, by rw [List.length_append, List.length_append, List.length_singleton]; omega,
          J2.add h2 ht2 (List.mem_of_getElem? hg) hgm, ht2.imp id fun z => List.mem_append_left _ z, fun j g' hj hg' => ?_, .inr ⟨.int (g : Int), rfl⟩, by rw [iD_snoc, iD_snoc]⟩
        by_cases e : j = i
        · subst e
          rw [hg] at hg'
          cases hg'
          exact List.mem_append_right _ (List.mem_singleton.mpr rfl)
        · exact List.mem_append_left _ (hc j g' (by omega) hg')
    · obtain ⟨f2, w3, t, hm2, hwl2, J2, ht2, hc, ht3, rfl⟩ := hI
      refine ⟨m - 1, by have := J2.len; omega, f2, w3, t, by have := J2.len; omega, by omega, J2.over fun g hg => ?_, ht3, rfl⟩
      obtain ⟨j, hj⟩ := List.getElem?_of_mem hg
      refine hc j g ?_ hj
      rw [List.length_map, List.length_map]
      exact (List.getElem?_eq_some_iff.mp hj).1
abbrev R_law_marks : RR := fun ds Q => ∃ ls rows most, ds = [netD ls rows, .int ((most : Nat) : Int)] ∧ Mc ls rows ∧ most ≤ 12 ∧ ∀ ranks, Rk ls rows ranks → (∀ r ∈ ranks, ∀ k ∈ r, k ≤ most) → Q (.lst (lD (oN ranks)))
theorem ok_law_marks (T : Txt K mg) : Df P w K mg base "_law_marks" 2 ["_law_pot_here", "_law_net_here", "_law_most"] (spP K R_law_marks) := by
  obtain ⟨fd, F, b⟩ := q_law_marks T
  refine ⟨_, fd, okP F sc_law_marks (by rintro ds Q ⟨ls, rows, most, rfl, M, hm, q⟩; rfl) (by decide) (fun cdv A outer s H hr => ⟨_, _, ⟨
      (pss_one (ps_ret (pe_lc (own := [("_law_row", 3)]) (g := gName 3) (tt := tYes) rfl sc_law_marks.nd (pi_list (pe_ix ix_seq (pv 1) pe_int (fun _ _ => rfl))) (blkOk_by (by kernel_rfl)) (fun _ _ _ _ _ => (pg_name (i := 3) sc_law_marks.nd rfl (Or.inl rfl))) (fun _ _ _ _ _ => pts_nil) (fun _ _ _ _ _ => by exact (pe_lc (own := [("_law_sign", 4)]) (g := gName 4) (tt := tYes) rfl sc_law_marks.nd (pi_str (pe_ix ix_seq (pv 1) pe_int (fun _ _ => rfl))) (blkOk_by (by kernel_rfl)) (fun _ _ _ _ _ => (pg_name (i := 4) sc_law_marks.nd rfl (Or.inl rfl))) (fun _ _ _ _ _ => pts_nil) (fun _ _ _ _ _ => by exact (pe_callD (ok_law_draw T) hr (pa_cons (pv 0) (pa_cons (pe_op op_add (pv 2) pe_int) pa_nil))))))))),
      (rs_ret (re_lc (ri_list (re_op ro_ix re_var (re_c fun _ => .int _))) (rg_name 3) rt_yes (re_lc (ri_str (re_op ro_ix re_var (re_c fun _ => .int _))) (rg_name 4) rt_yes (re_callP (ra_consA (re_op ro_I0 re_var (re_c fun _ => .int _)) ra_nil)) (by decide)) (by decide)))⟩, fun ds Q h => ?_⟩), T.g__law_marks, F.kp, b⟩
  obtain ⟨ls, rows, most, rfl, M, hm, q⟩ := h
  have hn := M.n2
  have hl3 := M.l3
  have a0 : L2.atI [Da.str (tx ls), Da.lst (lD (oN rows))] 0 = some (.str (tx ls)) := atI_nat (j := 0) rfl
  have a1 : L2.atI [Da.str (tx ls), Da.lst (lD (oN rows))] 1 = some (.lst (lD (oN rows))) := atI_nat (j := 1) rfl
  walk_at "ev"
  refine lc_rel (xs := lD (oN rows)) (e0 := [.pot, .d (netD ls rows), .d (.int (most : Nat)), .u, .u]) (fun P h => ?_) rfl (by rw [lD_len, szl]; omega) (fun _ y => ∃ r : List Nat, y = .lst (iD (ofN r)) ∧ r.length = ls.length ∧ ∀ k ∈ r, k ≤ most) (fun i x k k' hx hk => ?_) fun ys hy1 hy2 => ?_
  · walk_at "ev"
    rw [a1]
    exact h
  · obtain ⟨r0, hr0, rfl⟩ := List.mem_map.mp (List.mem_of_getElem? hx)
    unfold lcB
    walk_at "ev"
    refine lc_rel (xs := ls.map sgD) (e0 := [.pot, .d (netD ls rows), .d (.int (most : Nat)), .d (.lst (iD r0)), .u]) (fun P h => ?_) rfl (by rw [List.length_map, szl]; omega) (fun _ y => ∃ n : Nat, y = .int (n : Nat) ∧ n ≤ most) (fun i x k k' hx hk => ?_) fun ys hy1 hy2 => ?_
    · walk_at "ev"
      rw [a0]
      exact h
    · obtain ⟨c, hc, rfl⟩ := List.mem_map.mp (List.mem_of_getElem? hx)
      unfold lcB
      walk_at "ev"
      refine ⟨most + 1, rfl, by omega, by omega, fun d hd => ?_⟩
      exact hk _ ⟨d, rfl, by omega⟩
    · obtain ⟨rs, rfl, h1, h2⟩ := pull_ints (P := fun n => n ≤ most) ys (rel_all hy1 hy2)
      refine ⟨rfl, hk _ ⟨rs, rfl, ?_, h2⟩⟩
      rw [h1, hy1, List.length_map]
  · obtain ⟨rs, rfl, h1, h2⟩ := pull_rows (P := fun r => r.length = ls.length ∧ ∀ k ∈ r, k ≤ most) ys (rel_all hy1 hy2)
    walk_at "ev"
    refine q rs ⟨by rw [h1, hy1, lD_len], fun r hr => (h2 r hr).1, fun r hr k hk => Nat.le_trans ((h2 r hr).2 k hk) hm⟩ fun r hr => (h2 r hr).2
abbrev R_law_behind : RR := fun ds Q => ∃ ls rows p t, ds = [netD ls rows, .int ((p : Nat) : Int), .str (tx t)] ∧ Mc ls rows ∧ p < rows.length ∧ (∀ c ∈ t, c ∈ ls) ∧ t.length ≤ 100000 ∧ Q (.int ((fol ls rows p t : Nat) : Int))
theorem ok_law_behind (T : Txt K mg) : Df P w K mg base "_law_behind" 1 ["_law_net_here", "_law_spot", "_law_term_here"] (spD K R_law_behind) := by
  obtain ⟨fd, F, b⟩ := q_law_behind T
  refine ⟨_, fd, okD F sc_law_behind (by rintro ds Q ⟨ls, rows, p, t, rfl, M, hp, ht, hl, q⟩; rfl) (by decide) (fun cdv A outer s H hr => ⟨_, _, ⟨
      (pss_cons (ps_for PassesOwn.never rfl (pi_str (pv 2)) (pg_name (i := 3) sc_law_behind.nd rfl (Or.inl rfl))
      (pss_one (ps_set (i := 1) sc_law_behind.nd rfl (Or.inl rfl) (pe_ix ix_seq (pe_ix ix_seq (pe_ix ix_seq (pv 0) pe_int (fun _ _ => rfl)) (pv 1) (fun _ _ => rfl)) (pe_bm PySem.F.plainAttrs_str PySem.F.slot_str_index PySem.F.type_str_index mt_sindex (pe_ix ix_seq (pv 0) pe_int (fun _ _ => rfl)) (pa_cons (pv 3) pa_nil)) (fun _ _ => rfl)))))
      (pss_one (ps_ret (pv 1)))),
      (rs_seq (rs_for (ri_str re_var) (rg_name 3)
      (rs_set 1 (re_op ro_ix (re_op ro_ix (re_op ro_ix re_var (re_c fun _ => .int _)) re_var) (re_bmS rm_sindex (re_op ro_ix re_var (re_c fun _ => .int _)) (ra_cons re_var ra_nil)))))
      (rs_ret re_var))⟩, fun ds Q h => ?_⟩), T.g__law_behind, F.kp, b⟩
  obtain ⟨ls, rows, p, t, rfl, M, hp, ht, hl, q⟩ := h
  have hl1 : ls.length < sizeLine := by have := M.l3; rw [szl]; omega
  have a0 : L2.atI [Da.str (tx ls), Da.lst (lD (oN rows))] 0 = some (.str (tx ls)) := atI_nat (j := 0) rfl
  have a1 : L2.atI [Da.str (tx ls), Da.lst (lD (oN rows))] 1 = some (.lst (lD (oN rows))) := atI_nat (j := 1) rfl
  walk_at "ev"
  refine for_intro (xs := t.map sgD) (fun P h => by walk_at "ev"; exact h)
    (fun i e => ∃ t1, (t1 = .u ∨ ∃ d, t1 = .d d) ∧ e = [.d (netD ls rows), .d (.int (fol ls rows p (t.take i) : Nat)), .d (.str (tx t)), t1]) ⟨.u, .inl rfl, rfl⟩ (fun i x e hx hI => ?_) fun e hI => ?_
  · obtain ⟨t1, _, rfl⟩ := hI
    rw [List.getElem?_map, Option.map_eq_some_iff] at hx
    obtain ⟨c, hc, rfl⟩ := hx
    have hcl : c ∈ ls := ht c (List.mem_of_getElem? hc)
    have hf := fol_lt M (t.take i) p hp fun d hd => ht d (List.mem_of_mem_take hd)
    obtain ⟨hs1, hs2⟩ := step_lt M hf hcl
    have hti : t.take (i + 1) = t.take i ++ [c] := by
      rw [List.take_add_one, hc]
      rfl
    walk_at "ev"
    simp only [a0, a1]
    walk_at "ev"
    rw [atI_row hf]
    walk_at "ev"
    refine ⟨c, rfl, hcl, fun j hj => ?_⟩
    rw [idx_of_get M.ris.nodup hj, atI_iD hs1]
    walk_at "ev"
    refine ⟨_, .inr ⟨.str (tx [c]), rfl⟩, ?_⟩
    rw [hti, fol_app]
    rfl
  · obtain ⟨t1, _, rfl⟩ := hI
    rw [List.length_map, List.take_length]
    walk_at "ev"
    exact q
abbrev R_law_top_by : RR := fun ds Q => ∃ ls rows ranks b l, ds = [netD ls rows, .lst (lD (oN ranks)), .str (tx b), .str (tx l)] ∧ Mc ls rows ∧ Rk ls rows ranks ∧ (∀ c, c ∈ b ∨ c ∈ l → c ∈ ls) ∧ b.length ≤ 8000 ∧ l.length ≤ 8000 ∧ l ≠ [] ∧ ∀ r : Nat, IsTop ls rows ranks (wd b l) r → Q (.int ((r : Nat) : Int))
/-- the ranks of the laps n, n + 1, .. -/
def lpR (ls : List Nat) (rows ranks : List (List Nat)) (b l : List Nat) (n k : Nat) : List Nat := (List.range k).flatMap fun j => (lapL ls rows l (ss ls rows b l (n + j))).map (rkOf ranks)
theorem lpR_succ {ls : List Nat} {rows ranks : List (List Nat)} {b l : List Nat} {n k : Nat} : lpR ls rows ranks b l n (k + 1) = lpR ls rows ranks b l n k ++ (lapL ls rows l (ss ls rows b l (n + k))).map (rkOf ranks) := by
  unfold lpR
  rw [List.range_succ, List.flatMap_append]
  simp
theorem lpR_len {ls : List Nat} {rows ranks : List (List Nat)} {b l : List Nat} {n : Nat} : ∀ k, (lpR ls rows ranks b l n k).length = k * l.length
  | 0 => by simp [lpR]
  | k + 1 => by rw [lpR_succ, List.length_append, List.length_map, lapL_len, lpR_len k, Nat.succ_mul]
theorem lpR_mem {ls : List Nat} {rows ranks : List (List Nat)} {b l : List Nat} {n k r : Nat} : r ∈ lpR ls rows ranks b l n k ↔ ∃ k' t, n ≤ k' ∧ k' < n + k ∧ t < l.length ∧ rkOf ranks (lapP ls rows l (ss ls rows b l k') t) = r := by
  unfold lpR
  rw [List.mem_flatMap]
  constructor
  · rintro ⟨j, hj, h⟩
    obtain ⟨x, hx, rfl⟩ := List.mem_map.mp h
    obtain ⟨t, ht, rfl⟩ := mem_lapL.mp hx
    have := List.mem_range.mp hj
    exact ⟨n + j, t, by omega, by omega, ht, rfl⟩
  · rintro ⟨k', t, h1, h2, h3, rfl⟩
    refine ⟨k' - n, List.mem_range.mpr (by omega), List.mem_map.mpr ⟨_, mem_lapL.mpr ⟨t, h3, ?_⟩, rfl⟩⟩
    rw [show n + (k' - n) = k' from by omega]
theorem ok_law_top_by (T : Txt K mg) : Df P w K mg base "_law_top_by" 2 ["_law_net_here", "_law_marks_here", "_law_head", "_law_tail"] (spD K R_law_top_by) := by
  obtain ⟨fd, F, b⟩ := q_law_top_by T
  refine ⟨_, fd, okD F sc_law_top_by (by rintro ds Q ⟨ls, rows, ranks, b0, l, rfl, M, R, hin, hb, hl, hl0, q⟩; rfl) (by decide) (fun cdv A outer s H hr => ⟨_, _, ⟨
      (pss_cons (ps_par (i := 4) (j := 5) (by rfl) sc_law_top_by.nd rfl rfl (by decide) rfl rfl (pa_cons (pe_callD (ok_law_behind T) hr (pa_cons (pv 0) (pa_cons pe_int (pa_cons (pv 2) pa_nil)))) (pa_cons (pe_lst pa_nil) pa_nil)) (by rfl))
      (pss_cons (ps_for PassesOwn.never rfl (pi_range1 (by rfl) T.z_range (pa_cons (pe_callB call_len (by rfl) T.z_len boot_len (pa_cons (pe_ix ix_seq (pv 0) pe_int (fun _ _ => rfl)) pa_nil)) pa_nil)) (pg_name (i := 6) sc_law_top_by.nd rfl (Or.inl rfl))
      (pss_one (ps_set (i := 4) sc_law_top_by.nd rfl (Or.inl rfl) (pe_callD (ok_law_behind T) hr (pa_cons (pv 0) (pa_cons (pv 4) (pa_cons (pv 3) pa_nil)))))))
      (pss_cons (ps_for PassesOwn.never rfl (pi_range1 (by rfl) T.z_range (pa_cons (pe_callB call_len (by rfl) T.z_len boot_len (pa_cons (pe_ix ix_seq (pv 0) pe_int (fun _ _ => rfl)) pa_nil)) pa_nil)) (pg_name (i := 6) sc_law_top_by.nd rfl (Or.inl rfl))
      (pss_one (ps_for PassesOwn.never rfl (pi_str (pv 3)) (pg_name (i := 7) sc_law_top_by.nd rfl (Or.inl rfl))
      (pss_cons (ps_expr (pe_bm PySem.F.plainAttrs_list PySem.F.slot_list_append PySem.F.type_list_append mt_append (pv 5) (pa_cons (pe_ix ix_seq (pe_ix ix_seq (pv 1) (pv 4) (fun _ _ => rfl)) (pe_bm PySem.F.plainAttrs_str PySem.F.slot_str_index PySem.F.type_str_index mt_sindex (pe_ix ix_seq (pv 0) pe_int (fun _ _ => rfl)) (pa_cons (pv 7) pa_nil)) (fun _ _ => rfl)) pa_nil)))
      (pss_one (ps_set (i := 4) sc_law_top_by.nd rfl (Or.inl rfl) (pe_ix ix_seq (pe_ix ix_seq (pe_ix ix_seq (pv 0) pe_int (fun _ _ => rfl)) (pv 4) (fun _ _ => rfl)) (pe_bm PySem.F.plainAttrs_str PySem.F.slot_str_index PySem.F.type_str_index mt_sindex (pe_ix ix_seq (pv 0) pe_int (fun _ _ => rfl)) (pa_cons (pv 7) pa_nil)) (fun _ _ => rfl))))))))
      (pss_one (ps_ret (pe_callB (cr_max rfl) (by rfl) T.z_max boot_max (pa_cons (pv 5) pa_nil))))))),
      (rs_seq (rs_par (re_call (ra_consA re_var (ra_consA (re_c fun _ => .int _) (ra_consA re_var ra_nil)))) (re_lst ra_nil))
      (rs_seq (rs_for (ri_rng1 (re_CB rc_len (ra_cons (re_op ro_ix re_var (re_c fun _ => .int _)) ra_nil))) (rg_name 6)
      (rs_set 4 (re_call (ra_consA re_var (ra_consA re_var (ra_consA re_var ra_nil))))))
      (rs_seq (rs_for (ri_rng1 (re_CB rc_len (ra_cons (re_op ro_ix re_var (re_c fun _ => .int _)) ra_nil))) (rg_name 6)
      (rs_for (ri_str re_var) (rg_name 7)
      (rs_seq (rs_drop (re_bm rm_append re_var (ra_consA (re_op ro_ix (re_op ro_ix re_var re_var) (re_bmS rm_sindex (re_op ro_ix re_var (re_c fun _ => .int _)) (ra_cons re_var ra_nil))) ra_nil)))
      (rs_set 4 (re_op ro_ix (re_op ro_ix (re_op ro_ix re_var (re_c fun _ => .int _)) re_var) (re_bmS rm_sindex (re_op ro_ix re_var (re_c fun _ => .int _)) (ra_cons re_var ra_nil)))))))
      (rs_ret (re_CB rc_max (ra_cons re_var ra_nil))))))⟩, fun ds Q h => ?_⟩), T.g__law_top_by, F.kp, b⟩
  obtain ⟨ls, rows, ranks, b0, l, rfl, M, R, hin, hb, hl, hl0, q⟩ := h
  have hbl : ∀ c ∈ b0, c ∈ ls := fun c h => hin c (.inl h)
  have hll : ∀ c ∈ l, c ∈ ls := fun c h => hin c (.inr h)
  have hl1 : ls.length < sizeLine := by have := M.l3; rw [szl]; omega
  have hn := M.n2
  have n1 := M.n1
  have a0 : L2.atI [Da.str (tx ls), Da.lst (lD (oN rows))] 0 = some (.str (tx ls)) := atI_nat (j := 0) rfl
  have a1 : L2.atI [Da.str (tx ls), Da.lst (lD (oN rows))] 1 = some (.lst (lD (oN rows))) := atI_nat (j := 1) rfl
  obtain ⟨i0, j0, hij, hjn, hss⟩ := ss_pigeon (b := b0) (l := l) M hbl hll
  have hwin : ∀ x, InfP ls rows (wd b0 l) x ↔ ∃ k t, rows.length ≤ k ∧ k < rows.length + rows.length ∧ t < l.length ∧ x = lapP ls rows l (ss ls rows b0 l k) t := fun x => inf_win hl0 hij hss (by omega) (by omega)
  walk_at "ev"
  refine ⟨ls, rows, 0, b0, rfl, M, n1, hbl, by omega, by rw [szl]; omega, ?_⟩
  rw [show fol ls rows 0 b0 = ss ls rows b0 l 0 from ss_zero.symm]
  refine for_intro (xs := rgD 0 rows.length) (fun P h => ?_)
    (fun i e => ∃ t6, (t6 = .u ∨ ∃ d, t6 = .d d) ∧ e = [.d (netD ls rows), .d (.lst (lD (oN ranks))), .d (.str (tx b0)), .d (.str (tx l)), .d (.int (ss ls rows b0 l i : Nat)), .l [], t6, .u]) ⟨.u, .inl rfl, rfl⟩ (fun i x e hx hI => ?_) fun e hI => ?_
  · walk_at "ev"
    rw [a1]
    walk_at "ev"
    exact ⟨by omega, by omega, by rw [Int.toNat_natCast]; exact h⟩
  · obtain ⟨t6, _, rfl⟩ := hI
    obtain ⟨hi, rfl⟩ := rgD_get hx
    walk_at "ev"
    refine ⟨ls, rows, _, l, rfl, M, ss_lt M hbl hll i, hll, by omega, _, .inr ⟨.int (0 + (i : Nat)), rfl⟩, ?_⟩
    rw [ss_succ]
  · obtain ⟨t6, ht6, rfl⟩ := hI
    rw [show (rgD 0 rows.length).length = rows.length from by simp [rgD]]
    walk_at "ev"
    have hlen : ∀ k, k ≤ rows.length → (lpR ls rows ranks b0 l rows.length k).length ≤ 120 * 8000 := fun k hk => by
      rw [lpR_len]
      exact Nat.mul_le_mul (by omega) hl
    refine for_intro (xs := rgD 0 rows.length) (e0 := [.d (netD ls rows), .d (.lst (lD (oN ranks))), .d (.str (tx b0)), .d (.str (tx l)), .d (.int (ss ls rows b0 l rows.length : Nat)), .l [], t6, .u]) (fun P h => ?_)
      (fun i e => ∃ t6 t7 : Sl, (t6 = .u ∨ ∃ d, t6 = .d d) ∧ (t7 = .u ∨ ∃ d, t7 = .d d) ∧ e = [.d (netD ls rows), .d (.lst (lD (oN ranks))), .d (.str (tx b0)), .d (.str (tx l)), .d (.int (ss ls rows b0 l (rows.length + i) : Nat)), .l (iD (ofN (lpR ls rows ranks b0 l rows.length i))), t6, t7]) ⟨t6, .u, ht6, .inl rfl, rfl⟩ (fun i x e hx hI => ?_) fun e hI => ?_
    · walk_at "ev"
      rw [a1]
      walk_at "ev"
      exact ⟨by omega, by omega, by rw [Int.toNat_natCast]; exact h⟩
    · obtain ⟨t6, t7, _, ht7, rfl⟩ := hI
      obtain ⟨hi, rfl⟩ := rgD_get hx
      have hsl := ss_lt (ls := ls) (rows := rows) (b := b0) (l := l) M hbl hll (rows.length + i)
      have h1 := hlen (i + 1) (by omega)
      rw [lpR_succ, List.length_append, List.length_map, lapL_len] at h1
      walk_at "ev"
      refine for_intro (xs := l.map sgD) (e0 := [.d (netD ls rows), .d (.lst (lD (oN ranks))), .d (.str (tx b0)), .d (.str (tx l)), .d (.int (ss ls rows b0 l (rows.length + i) : Nat)), .l (iD (ofN (lpR ls rows ranks b0 l rows.length i))), .d (.int (0 + (i : Nat))), t7]) (fun P h => by walk_at "ev"; exact h)
        (fun j e => ∃ t7 : Sl, (t7 = .u ∨ ∃ d, t7 = .d d) ∧ e = [.d (netD ls rows), .d (.lst (lD (oN ranks))), .d (.str (tx b0)), .d (.str (tx l)), .d (.int (fol ls rows (ss ls rows b0 l (rows.length + i)) (l.take j) : Nat)), .l (iD (ofN (lpR ls rows ranks b0 l rows.length i ++ ((lapL ls rows l (ss ls rows b0 l (rows.length + i))).take j).map (rkOf ranks)))), .d (.int (0 + (i : Nat))), t7])
        ⟨t7, ht7, by simp [fol]⟩ (fun j x e hx hJ => ?_) fun e hJ => ?_
      · obtain ⟨t7, _, rfl⟩ := hJ
        rw [List.getElem?_map, Option.map_eq_some_iff] at hx
        obtain ⟨c, hc, rfl⟩ := hx
        have hj := (List.getElem?_eq_some_iff.mp hc).1
        have hcl : c ∈ ls := hll c (List.mem_of_getElem? hc)
        have hf := fol_lt M (l.take j) _ hsl fun d hd => hll d (List.mem_of_mem_take hd)
        obtain ⟨hs1, hs2⟩ := step_lt M hf hcl
        have hti : l.take (j + 1) = l.take j ++ [c] := by
          rw [List.take_add_one, hc]
          rfl
        have hlp : lapP ls rows l (ss ls rows b0 l (rows.length + i)) j = (fol ls rows (ss ls rows b0 l (rows.length + i)) (l.take j), ls.idxOf c) := by
          unfold lapP
          rw [List.getD_eq_getElem?_getD, hc]
          rfl
        have hrk := rk_get R hf (List.idxOf_lt_length_iff.mpr hcl)
        have hll2 : ((lapL ls rows l (ss ls rows b0 l (rows.length + i))).take (j + 1)).map (rkOf ranks) = ((lapL ls rows l (ss ls rows b0 l (rows.length + i))).take j).map (rkOf ranks) ++ [rkOf ranks (fol ls rows (ss ls rows b0 l (rows.length + i)) (l.take j), ls.idxOf c)] := by
          rw [List.take_add_one, List.map_append]
          congr 1
          unfold lapL
          rw [List.getElem?_map, List.getElem?_range hj, ← hlp]
          rfl
        walk_at "ev"
        simp only [a0, a1]
        walk_at "ev"
        rw [atI_row (rows := ranks) (by rw [R.n]; exact hf)]
        walk_at "ev"
        refine ⟨c, rfl, hcl, fun j1 hj1 => ?_⟩
        rw [idx_of_get M.ris.nodup hj1, atI_iD hrk]
        walk_at "ev"
        refine ⟨?_, ?_⟩
        · (try simp only [List.length_map, List.length_append, List.length_take, lapL_len])
          rw [szl]
          omega
        · rw [atI_row hf]
          walk_at "ev"
          refine ⟨c, rfl, hcl, fun j2 hj2 => ?_⟩
          rw [idx_of_get M.ris.nodup hj2, atI_iD hs1]
          walk_at "ev"
          refine ⟨_, .inr ⟨.str (tx [c]), rfl⟩, ?_⟩
          rw [hti, fol_app, hll2, iD_snoc, List.append_assoc]
          rfl
      · obtain ⟨t7, ht7, rfl⟩ := hJ
        refine ⟨_, t7, .inr ⟨.int (0 + (i : Nat)), rfl⟩, ht7, ?_⟩
        rw [List.length_map, List.take_length, ← ss_succ, lpR_succ, List.take_of_length_le (by rw [lapL_len]; exact Nat.le_refl _)]
        rfl
    · obtain ⟨t6, t7, _, _, rfl⟩ := hI
      rw [show (rgD 0 rows.length).length = rows.length from by simp [rgD]]
      have h1 := lpR_len (ls := ls) (rows := rows) (ranks := ranks) (b := b0) (l := l) (n := rows.length) rows.length
      walk_at "ev"
      refine ⟨_, rfl, ?_, fun m hm hmx => ?_⟩
      · rw [List.length_map, h1]
        exact Nat.mul_pos n1 (List.length_pos_iff.mpr hl0)
      · obtain ⟨m0, hm0, rfl⟩ := List.mem_map.mp hm
        obtain ⟨k, t, h2, h3, h4, rfl⟩ := lpR_mem.mp hm0
        refine q _ ⟨⟨_, (hwin _).mpr ⟨k, t, h2, h3, h4, rfl⟩, rfl⟩, fun x hx => ?_⟩
        obtain ⟨k', t', h5, h6, h7, rfl⟩ := (hwin x).mp hx
        exact Int.ofNat_le.mp (hmx _ (mem_ofN.mpr (lpR_mem.mpr ⟨k', t', h5, h6, h7, rfl⟩)))
abbrev R_law_term : RR := fun ds Q => ∃ ls rows lo hi, ds = [netD ls rows, .int ((lo : Nat) : Int), .int ((hi : Nat) : Int)] ∧ Mc ls rows ∧ lo ≤ hi ∧ hi ≤ 100 ∧ ∀ t : List Nat, (∀ c ∈ t, c ∈ ls) → lo ≤ t.length → t.length ≤ hi → Q (.str (tx t))
theorem ok_law_term (T : Txt K mg) : Df P w K mg base "_law_term" 3 ["_law_pot_here", "_law_net_here", "_law_least_now", "_law_most"] (spP K R_law_term) := by
  obtain ⟨fd, F, b⟩ := q_law_term T
  refine ⟨_, fd, okP F sc_law_term (by rintro ds Q ⟨ls, rows, lo, hi, rfl, M, h1, h2, q⟩; rfl) (by decide) (fun cdv A outer s H hr => ⟨_, _, ⟨
      (pss_one (ps_ret (pe_join pe_str (pe_lc (own := [("_law_turn", 4)]) (g := gName 4) (tt := tYes) rfl sc_law_term.nd (pi_range1 (by rfl) T.z_range (pa_cons (pe_op op_add (pv 2) (pe_callD (ok_law_draw T) hr (pa_cons (pv 0) (pa_cons (pe_op op_add (pe_op op_sub (pv 3) (pv 2)) pe_int) pa_nil)))) pa_nil)) (blkOk_by (by kernel_rfl)) (fun _ _ _ _ _ => (pg_name (i := 4) sc_law_term.nd rfl (Or.inl rfl))) (fun _ _ _ _ _ => pts_nil) (fun _ _ _ _ _ => by exact (pe_callD (ok_law_pick T) hr (pa_cons (pv 0) (pa_cons (pe_ix ix_seq (pv 1) pe_int (fun _ _ => rfl)) pa_nil)))))))),
      (rs_ret (re_join (re_c fun _ => .str _) (re_lc (ri_rng1 (re_op ro_I0 re_var (re_callP (ra_consA (re_op ro_I0 (re_op ro_I0 re_var re_var) (re_c fun _ => .int _)) ra_nil)))) (rg_name 4) rt_yes (re_callP (ra_consA (re_op ro_ix re_var (re_c fun _ => .int _)) ra_nil)) (by decide))))⟩, fun ds Q h => ?_⟩), T.g__law_term, F.kp, b⟩
  obtain ⟨ls, rows, lo, hi, rfl, M, h1, h2, q⟩ := h
  have hl3 := M.l3
  have l1 := M.l1
  have a0 : L2.atI [Da.str (tx ls), Da.lst (lD (oN rows))] 0 = some (.str (tx ls)) := atI_nat (j := 0) rfl
  walk_at "ev"
  refine lc_open ?_
  walk_at "ev"
  refine ⟨hi - lo + 1, by congr 2; omega, by omega, by omega, fun d hd => ?_⟩
  walk_at "ev"
  refine ⟨by omega, by omega, ?_⟩
  rw [show ((lo : Int) + (d : Nat)).toNat = lo + d from by omega]
  refine lc_rel_in rfl (by rw [szl]; simp [rgD]; omega) (fun _ y => ∃ c : Nat, y = .str (tx [c]) ∧ c ∈ ls) (fun i x k k' hx hk => ?_) fun ys hy1 hy2 => ?_
  · obtain ⟨hi2, rfl⟩ := rgD_get hx
    unfold lcB
    walk_at "ev"
    rw [a0]
    walk_at "ev"
    exact ⟨.str (tx ls), rfl, .inr ⟨ls, rfl, fun z => by rw [z] at l1; simp at l1, by omega, fun c hc => hk _ ⟨c, rfl, hc⟩⟩⟩
  · have pull : ∀ ys : List Da, (∀ y ∈ ys, ∃ c : Nat, y = .str (tx [c]) ∧ c ∈ ls) → ∃ t : List Nat, ys = (t.map fun c => (⟨#[c]⟩ : Str)).map Da.str ∧ t.length = ys.length ∧ ∀ c ∈ t, c ∈ ls := by
      intro ys
      induction ys with
      | nil => intro _; exact ⟨[], rfl, rfl, by simp⟩
      | cons y ys ih =>
        intro h
        obtain ⟨c, rfl, hc⟩ := h y List.mem_cons_self
        obtain ⟨t, rfl, h1, h2⟩ := ih fun z hz => h z (List.mem_cons_of_mem _ hz)
        refine ⟨c :: t, rfl, by simp, fun z hz => ?_⟩
        rcases List.mem_cons.mp hz with e | e
        · rw [e]; exact hc
        · exact h2 z e
    obtain ⟨t, rfl, h3, h4⟩ := pull ys (rel_all hy1 hy2)
    have h5 : t.length = lo + d := by rw [h3, hy1]; simp [rgD]
    walk_at "ev"
    refine ⟨_, rfl, ?_, ?_⟩
    · have h6 : ((t.map fun c => (⟨#[c]⟩ : Str)).map fun x => x.length).sum = t.length := by
        rw [List.map_map]
        clear h3 h4 h5 hy1 hy2
        induction t with
        | nil => rfl
        | cons c t ih =>
          rw [List.map_cons, List.sum_cons, ih, List.length_cons]
          show 1 + t.length = _
          omega
      rw [h6, List.length_map, show ("" : Str).length = 0 from rfl]
      omega
    · rw [join_sg]
      exact q t h4 (by omega) (by omega)
abbrev R_law_used : RR := fun ds Q => ∃ ls rows ranks, ds = [netD ls rows, .lst (lD (oN ranks))] ∧ Mc ls rows ∧ Rk ls rows ranks ∧ ∀ u : List Nat, u.Pairwise (· < ·) → (∀ k, k ∈ u ↔ Usd rows ranks k) → Q (.lst (iD (ofN u)))
theorem rch_iff {rows : List (List Nat)} {a b : Nat} : Reach rows a b ↔ Rch (stE rows) a b := by
  constructor
  · intro h
    induction h with
    | refl => exact .refl _
    | tail _ hg ih =>
      refine .tail ih (stP_mem.mpr ⟨?_, hg⟩)
      refine Classical.byContradiction fun hn => ?_
      rw [row_out hn] at hg
      cases hg
  · intro h
    induction h with
    | refl => exact .refl _
    | tail _ hg ih => exact .tail ih (stP_mem.mp hg).2
/-- the ranks found so far: of the places below i, and of the first j steps of i -/
def UsI (rows ranks : List (List Nat)) (i j r : Nat) : Prop := ∃ p c g : Nat, (p < i ∨ p = i ∧ c < j) ∧ p < rows.length ∧ (row rows p)[c]? = some g ∧ (row ranks p)[c]? = some r ∧ Reach rows g p
theorem few_ints {fl : List Nat} (h : ∀ k ∈ fl, k ≤ 12) {l : List Int} (hnd : l.Nodup) (hl : ∀ k ∈ l, k ∈ ofN fl) : l.length < 64 := by
  have h8 := nodup_len 13 (l.map Int.toNat) ?_ ?_
  · rw [List.length_map] at h8
    omega
  · show List.Pairwise (· ≠ ·) _
    rw [List.pairwise_map]
    refine List.Pairwise.imp_of_mem ?_ hnd
    intro a b ha hb hab e
    obtain ⟨a', _, rfl⟩ := List.mem_map.mp (hl a ha)
    obtain ⟨b', _, rfl⟩ := List.mem_map.mp (hl b hb)
    exact hab (congrArg Int.ofNat e)
  · intro x hx
    obtain ⟨y, hy, rfl⟩ := List.mem_map.mp hx
    obtain ⟨a, ha, rfl⟩ := List.mem_map.mp (hl y hy)
    have := h a ha
    show (Int.ofNat a).toNat < 13
    simp
    omega
theorem sorted_nat {fl : List Nat} {ns' : List Int} (hs : ns'.Pairwise (· < ·)) (hm : ∀ k, k ∈ ns' ↔ k ∈ ofN fl) : ∃ u : List Nat, ns' = ofN u ∧ u.Pairwise (· < ·) ∧ ∀ k, k ∈ u ↔ k ∈ fl := by
  have hns : ns' = ofN (ns'.map Int.toNat) := by
    show ns' = List.map _ (List.map _ ns')
    rw [List.map_map]
    have : ∀ y ∈ ns', ((fun n : Nat => Int.ofNat n) ∘ Int.toNat) y = y := fun y hy => by
      obtain ⟨a, _, rfl⟩ := List.mem_map.mp ((hm y).mp hy)
      rfl
    rw [List.map_congr_left this, List.map_id']
  refine ⟨ns'.map Int.toNat, hns, ?_, fun k => ?_⟩
  · rw [List.pairwise_map]
    refine List.Pairwise.imp_of_mem ?_ hs
    intro a b ha hb hab
    obtain ⟨a', _, rfl⟩ := List.mem_map.mp ((hm a).mp ha)
    obtain ⟨b', _, rfl⟩ := List.mem_map.mp ((hm b).mp hb)
    exact Int.ofNat_lt.mp hab
  · have h9 := hm (k : Int)
    rw [mem_ofN] at h9
    rw [← h9]
    constructor
    · intro hk
      obtain ⟨y, hy, rfl⟩ := List.mem_map.mp hk
      obtain ⟨a, _, rfl⟩ := List.mem_map.mp ((hm y).mp hy)
      exact hy
    · intro hk
      exact List.mem_map.mpr ⟨(k : Int), hk, rfl⟩
theorem ok_law_used (T : Txt K mg) : Df P w K mg base "_law_used" 2 ["_law_net_here", "_law_marks_here"] (spD K R_law_used) := by
  obtain ⟨fd, F, b⟩ := q_law_used T
  refine ⟨_, fd, okD F sc_law_used (by rintro ds Q ⟨ls, rows, ranks, rfl, M, R, q⟩; rfl) (by decide) (fun cdv A outer s H hr => ⟨_, _, ⟨
      (pss_cons (ps_par (i := 2) (j := 3) (by rfl) sc_law_used.nd rfl rfl (by decide) rfl rfl (pa_cons (pe_lst pa_nil) (pa_cons (pe_listRg rfl (by rfl) T.z_list (prg_1 (by rfl) T.z_range (pe_callB call_len (by rfl) T.z_len boot_len (pa_cons (pe_ix ix_seq (pv 0) pe_int (fun _ _ => rfl)) pa_nil)))) pa_nil)) (by rfl))
      (pss_cons (ps_for PassesOwn.never rfl (pi_list (pv 3)) (pg_name (i := 4) sc_law_used.nd rfl (Or.inl rfl))
      (pss_one (ps_for PassesOwn.never rfl (pi_zip (by rfl) T.z_zip (pa_cons (pe_ix ix_seq (pe_ix ix_seq (pv 0) pe_int (fun _ _ => rfl)) (pv 4) (fun _ _ => rfl)) (pa_cons (pe_ix ix_seq (pv 1) (pv 4) (fun _ _ => rfl)) pa_nil))) (pg_tup (n := 2) (by rfl) (pgs_cons (pg_name (i := 5) sc_law_used.nd rfl (Or.inl rfl)) (pgs_cons (pg_name (i := 6) sc_law_used.nd rfl (Or.inl rfl)) pgs_nil)))
      (pss_one (ps_if (PW.pt (pw_or (pt_cmpR op_eq (pv 4) (pv 5) (nomark _)) (pw_or1 (pt_cmpR op_in_seq (pv 4) (pe_callD (ok_law_flood T) hr (pa_cons (pe_ix ix_seq (pv 0) pe_int (fun _ _ => rfl)) (pa_cons (pv 3) (pa_cons (pv 5) pa_nil)))) rfl)))) (pss_one (ps_expr (pe_bm PySem.F.plainAttrs_list PySem.F.slot_list_append PySem.F.type_list_append mt_append (pv 2) (pa_cons (pv 6) pa_nil)))) pss_nil)))))
      (pss_one (ps_ret (pe_sortedSet rfl (by rfl) T.z_sorted (by rfl) T.z_set (pv 2)))))),
      (rs_seq (rs_par (re_lst ra_nil) (re_listRg (rr_1 (re_CB rc_len (ra_cons (re_op ro_ix re_var (re_c fun _ => .int _)) ra_nil)))))
      (rs_seq (rs_frz (i := 3) (rs_for (ri_list re_var) (rg_name 4)
      (rs_for (ri_zip (ra_consA (re_op ro_ix (re_op ro_ix re_var (re_c fun _ => .int _)) re_var) (ra_consA (re_op ro_ix re_var re_var) ra_nil))) (rg_tup (n := 2) (rgs_cons (rg_name 5) (rgs_cons (rg_name 6) rgs_nil)))
      (rs_if (rt_or (rt_test (re_op ro_eq re_var re_var)) (rt_test (re_op (ro_inN false) re_var (re_call (ra_consA (re_op ro_ix re_var (re_c fun _ => .int _)) (ra_consA re_var (ra_consA re_var ra_nil))))))) (rs_drop (re_bm rm_append re_var (ra_consA re_var ra_nil))) rs_next))))
      (rs_ret (re_sortedSet re_var))))⟩, fun ds Q h => ?_⟩), T.g__law_used, F.kp, b⟩
  obtain ⟨ls, rows, ranks, rfl, M, R, q⟩ := h
  have hn := M.n2
  have hl3 := M.l3
  have a1 : L2.atI [Da.str (tx ls), Da.lst (lD (oN rows))] 1 = some (.lst (lD (oN rows))) := atI_nat (j := 1) rfl
  walk_at "ev"
  refine ⟨by rw [szl]; omega, ?_⟩
  rw [a1]
  walk_at "ev"
  refine ⟨RgOk.of_le (by omega) (by omega) (by omega) (by omega), ?_⟩
  rw [show (iD ((List.range ((rows.length : Int) - 0).toNat).map fun i : Nat => (0 : Int) + (i : Nat))) = iD (ofN (List.range rows.length)) from by
    rw [show ((rows.length : Int) - 0).toNat = rows.length from by omega]
    congr 1
    refine List.map_congr_left fun x _ => ?_
    show (0 : Int) + (x : Nat) = (x : Nat)
    omega]
  have hkn : ∀ p, p < rows.length → (row ranks p).length = ls.length := fun p hp => R.rl _ (row_mem (by rw [R.n]; exact hp))
  have hrn : ∀ p, p < rows.length → (row rows p).length = ls.length := fun p hp => M.rl _ (row_mem hp)
  refine for_intro (xs := iD (ofN (List.range rows.length))) (fun P h => by walk_at "ev"; exact h)
    (fun i e => ∃ (fl : List Nat) (t4 t5 t6 : Sl), fl.length ≤ i * ls.length ∧ (∀ r, r ∈ fl ↔ UsI rows ranks i 0 r) ∧ (t4 = .u ∨ ∃ d, t4 = .d d) ∧ (t5 = .u ∨ ∃ d, t5 = .d d) ∧ (t6 = .u ∨ ∃ d, t6 = .d d) ∧
      e = [.d (netD ls rows), .d (.lst (lD (oN ranks))), .l (iD (ofN fl)), .d (.lst (iD (ofN (List.range rows.length)))), t4, t5, t6])
    ⟨[], .u, .u, .u, by simp, fun r => ⟨fun h => (by cases h), fun ⟨p, c, g, h, _⟩ => by omega⟩, .inl rfl, .inl rfl, .inl rfl, rfl⟩ (fun i x e hx hI => ?_) fun e hI => ?_
  · obtain ⟨fl, t4, t5, t6, hfl, hm, _, ht5, ht6, rfl⟩ := hI
    obtain ⟨p, hp, rfl⟩ := iD_mem hx
    obtain ⟨hi, hpe⟩ := List.getElem?_eq_some_iff.mp hp
    rw [List.getElem_range] at hpe
    rw [List.length_range] at hi
    subst hpe
    have him : (i + 1) * ls.length ≤ 120 * 3 := Nat.mul_le_mul (by omega) (by omega)
    rw [Nat.succ_mul] at him
    walk_at "ev"
    refine for_intro (xs := zipD (iD (ofN (row rows i))) (iD (ofN (row ranks i)))) (e0 := [.d (netD ls rows), .d (.lst (lD (oN ranks))), .l (iD (ofN fl)), .d (.lst (iD (ofN (List.range rows.length)))), .d (.int (i : Int)), t5, t6]) (fun P h => ?_)
      (fun j e => ∃ (fl : List Nat) (t5 t6 : Sl), fl.length ≤ i * ls.length + j ∧ (∀ r, r ∈ fl ↔ UsI rows ranks i j r) ∧ (t5 = .u ∨ ∃ d, t5 = .d d) ∧ (t6 = .u ∨ ∃ d, t6 = .d d) ∧
        e = [.d (netD ls rows), .d (.lst (lD (oN ranks))), .l (iD (ofN fl)), .d (.lst (iD (ofN (List.range rows.length)))), .d (.int (i : Int)), t5, t6])
      ⟨fl, t5, t6, hfl, hm, ht5, ht6, rfl⟩ (fun j x e hx hJ => ?_) fun e hJ => ?_
    · walk_at "ev"
      rw [a1]
      walk_at "ev"
      rw [atI_row hi]
      walk_at "ev"
      rw [atI_row (rows := ranks) (by rw [R.n]; exact hi)]
      exact h
    · obtain ⟨fl, t5, t6, hfl, hm, _, _, rfl⟩ := hJ
      obtain ⟨a, b, rfl, ha, hb⟩ := zipD_get hx
      obtain ⟨g, hg, rfl⟩ := iD_mem ha
      obtain ⟨r, hr, rfl⟩ := iD_mem hb
      have hgr : g < rows.length := M.rg.lt (List.mem_of_getElem? hg)
      have hjl := (List.getElem?_eq_some_iff.mp hg).1
      rw [hrn i hi] at hjl
      have new : Reach rows g i → ∀ r', r' ∈ fl ++ [r] ↔ UsI rows ranks i (j + 1) r' := fun hre r' => by
        rw [List.mem_append, List.mem_singleton, hm r']
        constructor
        · rintro (⟨p, c, g', h1, h2⟩ | rfl)
          · exact ⟨p, c, g', by omega, h2⟩
          · exact ⟨i, j, g, .inr ⟨rfl, Nat.lt_succ_self j⟩, hi, hg, hr, hre⟩
        · rintro ⟨p, c, g', h1, h2, h3, h4, h5⟩
          by_cases e : p = i ∧ c = j
          · obtain ⟨rfl, rfl⟩ := e
            rw [hr] at h4
            cases h4
            exact .inr rfl
          · exact .inl ⟨p, c, g', by omega, h2, h3, h4, h5⟩
      have old : ¬ Reach rows g i → ∀ r', r' ∈ fl ↔ UsI rows ranks i (j + 1) r' := fun hre r' => by
        rw [hm r']
        constructor
        · rintro ⟨p, c, g', h1, h2⟩
          exact ⟨p, c, g', by omega, h2⟩
        · rintro ⟨p, c, g', h1, h2, h3, h4, h5⟩
          by_cases e : p = i ∧ c = j
          · obtain ⟨rfl, rfl⟩ := e
            rw [hg] at h3
            cases h3
            exact absurd h5 hre
          · exact ⟨p, c, g', by omega, h2, h3, h4, h5⟩
      walk_at "ev"
      refine ⟨rfl, ?_⟩
      by_cases hig : i = g
      · rw [if_pos (by rw [hig]; simp)]
        refine ⟨by rw [szl]; (try simp only [List.length_map]); omega, fl ++ [r], _, _, by rw [List.length_append, List.length_singleton]; omega, new (by rw [hig]; exact .refl g), .inr ⟨.int (g : Int), rfl⟩, .inr ⟨.int (r : Int), rfl⟩, by rw [iD_snoc]⟩
      · rw [if_neg (fun z => hig (by
          have z := of_decide_eq_true z
          injection z with z
          omega))]
        rw [a1]
        walk_at "ev"
        refine ⟨rows, g, rfl, hn, M.rg, hgr, fun m hmr => ?_⟩
        walk_at "ev"
        refine ⟨ofN m, rfl, ?_⟩
        rw [in_ofN]
        have hiff : i ∈ m ↔ Reach rows g i := by
          rw [← hmr i]
          exact ⟨.inr, fun z => z.elim (fun e => absurd e hig) id⟩
        by_cases him2 : i ∈ m
        · rw [if_pos (decide_eq_true him2)]
          refine ⟨by rw [szl]; (try simp only [List.length_map]); omega, fl ++ [r], _, _, by rw [List.length_append, List.length_singleton]; omega, new (hiff.mp him2), .inr ⟨.int (g : Int), rfl⟩, .inr ⟨.int (r : Int), rfl⟩, by rw [iD_snoc]⟩
        · rw [if_neg (by simpa using him2)]
          exact ⟨fl, _, _, by omega, old (fun z => him2 (hiff.mpr z)), .inr ⟨.int (g : Int), rfl⟩, .inr ⟨.int (r : Int), rfl⟩, rfl⟩
    · obtain ⟨fl, t5, t6, hfl, hm, ht5, ht6, rfl⟩ := hJ
      rw [zipD_len, List.length_map, List.length_map, List.length_map, List.length_map, hrn i hi, hkn i hi, Nat.min_self] at hfl hm
      refine ⟨fl, _, t5, t6, by rw [Nat.succ_mul]; exact hfl, fun r => ?_, .inr ⟨.int (i : Int), rfl⟩, ht5, ht6, rfl⟩
      rw [hm r]
      constructor
      · rintro ⟨p, c, g', h1, h2⟩
        exact ⟨p, c, g', by omega, h2⟩
      · rintro ⟨p, c, g', h1, h2, h3, h4, h5⟩
        have := (List.getElem?_eq_some_iff.mp h3).1
        rw [hrn p h2] at this
        exact ⟨p, c, g', by omega, h2, h3, h4, h5⟩
  · obtain ⟨fl, t4, t5, t6, hfl, hm, _, _, _, rfl⟩ := hI
    rw [List.length_map, List.length_map, List.length_range] at hfl hm
    have him : rows.length * ls.length ≤ 120 * 3 := Nat.mul_le_mul (by omega) (by omega)
    have hmU : ∀ k, k ∈ fl ↔ Usd rows ranks k := fun k => by
      rw [hm k]
      constructor
      · rintro ⟨p, c, g', h1, h2, h3, h4, h5⟩
        exact ⟨p, c, g', h2, h3, h4, rch_iff.mp h5⟩
      · rintro ⟨p, c, g', h2, h3, h4, h5⟩
        exact ⟨p, c, g', .inl h2, h2, h3, h4, rch_iff.mpr h5⟩
    have hle : ∀ k ∈ fl, k ≤ 12 := fun k hk => by
      obtain ⟨p, i, g, hp, h1, h2, _⟩ := (hmU k).mp hk
      exact R.rb _ (row_mem (rows := ranks) (p := p) (by rw [R.n]; exact hp)) k (List.mem_of_getElem? h2)
    walk_at "ev"
    refine ⟨_, rfl, by rw [List.length_map]; omega, fun l hnd hl => few_ints hle hnd hl, fun ns' hs hm' => ?_⟩
    obtain ⟨u, rfl, hu1, hu2⟩ := sorted_nat hs hm'
    exact q u hu1 fun k => (hu2 k).trans (hmU k)
end
end RK
-- M9
set_option Elab.async false
set_option linter.all false
set_option maxRecDepth 100000
/-! M9: one word told in four ways -/
namespace RK
open PySem
theorem getD_app_l {a b : List Nat} {i : Nat} (h : i < a.length) : (a ++ b).getD i 0 = a.getD i 0 := by
  rw [List.getD_eq_getElem?_getD, List.getD_eq_getElem?_getD, List.getElem?_append_left h]
theorem getD_app_r {a b : List Nat} {i : Nat} (h : a.length ≤ i) : (a ++ b).getD i 0 = b.getD (i - a.length) 0 := by
  rw [List.getD_eq_getElem?_getD, List.getD_eq_getElem?_getD, List.getElem?_append_right h]
theorem wd_lap_begin {h t : List Nat} (ht : t ≠ []) (i : Nat) : wd (h ++ t) t i = wd h t i := by
  have hL := List.length_pos_iff.mpr ht
  unfold wd
  rw [List.length_append]
  by_cases h1 : i < h.length
  · rw [if_pos (by omega), if_pos h1, getD_app_l h1]
  · rw [if_neg h1]
    by_cases h2 : i < h.length + t.length
    · rw [if_pos h2, getD_app_r (by omega), Nat.mod_eq_of_lt (by omega)]
    · rw [if_neg h2]
      congr 1
      rw [show i - h.length = (i - (h.length + t.length)) + t.length from by omega, Nat.add_mod_right]
theorem wd_twice {h t : List Nat} (ht : t ≠ []) (i : Nat) : wd h (t ++ t) i = wd h t i := by
  have hL := List.length_pos_iff.mpr ht
  unfold wd
  by_cases h1 : i < h.length
  · rw [if_pos h1, if_pos h1]
  · rw [if_neg h1, if_neg h1, List.length_append]
    generalize i - h.length = k
    have h2 : k % (t.length + t.length) % t.length = k % t.length := Nat.mod_mod_of_dvd k ⟨2, by omega⟩
    have h3 : k % (t.length + t.length) < t.length + t.length := Nat.mod_lt _ (by omega)
    rw [← h2]
    generalize k % (t.length + t.length) = r at h3
    by_cases h4 : r < t.length
    · rw [getD_app_l h4, Nat.mod_eq_of_lt h4]
    · rw [getD_app_r (by omega), Nat.mod_eq_sub_mod (by omega), Nat.mod_eq_of_lt (by omega)]
theorem wd_shift {h t : List Nat} (ht : t ≠ []) (i : Nat) : wd (h ++ t.take 1) (t.drop 1 ++ t.take 1) i = wd h t i := by
  have hL := List.length_pos_iff.mpr ht
  by_cases h0 : t.length = 1
  · rw [List.take_of_length_le (by omega), List.drop_of_length_le (by omega), List.nil_append]
    exact wd_lap_begin ht i
  · show wd (h ++ t.take 1) (rot t 1) i = _
    unfold wd
    rw [rot_len (by omega), List.length_append, List.length_take, show min 1 t.length = 1 from by omega]
    by_cases h1 : i < h.length
    · rw [if_pos (by omega), if_pos h1, getD_app_l h1]
    · rw [if_neg h1]
      by_cases h2 : i < h.length + 1
      · rw [if_pos h2, getD_app_r (by omega), show i - h.length = 0 from by omega, Nat.zero_mod, List.getD_eq_getElem?_getD, List.getD_eq_getElem?_getD, List.getElem?_take_of_lt (by omega)]
      · rw [if_neg h2, rot_get (by omega) (Nat.mod_lt _ hL), Nat.add_mod_mod]
        congr 2
        omega
end RK
-- M10
set_option Elab.async false
set_option linter.all false
set_option maxRecDepth 100000
/-! M10: the round -/
namespace RK
open PySem
def rndR (n : Nat) : List (List Nat) := (List.range n).map fun i => [(i + 1) % n, 0]
def rndK (n top : Nat) : List (List Nat) := ((List.range (n - 1)).map fun _ => [2, 3]) ++ [[top, 3]]
abbrev abL : List Nat := [97, 98]
theorem rnd_len (n : Nat) : (rndR n).length = n := by simp [rndR]
theorem rnd_row {n p : Nat} (h : p < n) : row (rndR n) p = [(p + 1) % n, 0] := by
  unfold row rndR
  rw [List.getD_eq_getElem?_getD, List.getElem?_map, List.getElem?_range h]
  rfl
theorem rndK_len {n top : Nat} (h : 1 ≤ n) : (rndK n top).length = n := by
  simp [rndK]
  omega
theorem rndK_row {n top p : Nat} (h : p < n) : row (rndK n top) p = if p = n - 1 then [top, 3] else [2, 3] := by
  unfold row rndK
  rw [List.getD_eq_getElem?_getD]
  by_cases e : p = n - 1
  · rw [if_pos e, List.getElem?_append_right (by simp; omega)]
    simp [e]
  · rw [if_neg e, List.getElem?_append_left (by simp; omega), List.getElem?_map, List.getElem?_range (by omega)]
    rfl
theorem rnd_mc {n : Nat} (h1 : 1 ≤ n) (h2 : n ≤ 120) : Mc abL (rndR n) := by
  refine ⟨by unfold Low; decide, by decide, by decide, by unfold Rising; decide, by rw [rnd_len]; exact h1, by rw [rnd_len]; exact h2, fun r hr => ?_, fun r hr g hg => ?_⟩
  · obtain ⟨i, _, rfl⟩ := List.mem_map.mp hr
    rfl
  · obtain ⟨i, _, rfl⟩ := List.mem_map.mp hr
    rw [rnd_len]
    rcases List.mem_cons.mp hg with e | e
    · rw [e]
      exact Nat.mod_lt _ h1
    · rw [List.mem_singleton.mp e]
      exact h1
theorem rnd_rk {n top : Nat} (h1 : 1 ≤ n) (ht : top ≤ 12) : Rk abL (rndR n) (rndK n top) := by
  refine ⟨by rw [rndK_len h1, rnd_len], fun r hr => ?_, fun r hr k hk => ?_⟩
  · rcases List.mem_append.mp hr with e | e
    · obtain ⟨i, _, rfl⟩ := List.mem_map.mp e
      rfl
    · rw [List.mem_singleton.mp e]
      rfl
  · rcases List.mem_append.mp hr with e | e
    · obtain ⟨i, _, rfl⟩ := List.mem_map.mp e
      rcases List.mem_cons.mp hk with e | e
      · omega
      · have := List.mem_singleton.mp e
        omega
    · rw [List.mem_singleton.mp e] at hk
      rcases List.mem_cons.mp hk with e | e
      · omega
      · have := List.mem_singleton.mp e
        omega
theorem rnd_a {n p : Nat} (h : p < n) : stepTo abL (rndR n) p 97 = (p + 1) % n := by
  unfold stepTo
  rw [rnd_row h]
  rfl
theorem rnd_b {n p : Nat} (h : p < n) : stepTo abL (rndR n) p 98 = 0 := by
  unfold stepTo
  rw [rnd_row h]
  rfl
theorem rnd_as {n : Nat} : ∀ (k p : Nat), p < n → fol abL (rndR n) p (List.replicate k 97) = (p + k) % n
  | 0, p, h => (Nat.mod_eq_of_lt h).symm
  | k + 1, p, h => by
    show fol abL (rndR n) (stepTo abL (rndR n) p 97) (List.replicate k 97) = _
    rw [rnd_a h, rnd_as k _ (Nat.mod_lt _ (by omega)), Nat.mod_add_mod]
    congr 1
    omega
theorem rk_a {n top p : Nat} (h : p < n) : rkOf (rndK n top) (p, 0) = if p = n - 1 then top else 2 := by
  unfold rkOf
  rw [rndK_row h]
  by_cases e : p = n - 1
  · rw [if_pos e, if_pos e]; rfl
  · rw [if_neg e, if_neg e]; rfl
theorem rk_b {n top p : Nat} (h : p < n) : rkOf (rndK n top) (p, 1) = 3 := by
  unfold rkOf
  rw [rndK_row h]
  by_cases e : p = n - 1
  · rw [if_pos e]; rfl
  · rw [if_neg e]; rfl
theorem take_as (n t : Nat) (h : t ≤ n) : (List.replicate n 97).take t = List.replicate t 97 := by
  rw [List.take_replicate, Nat.min_eq_left h]
/-- ('', a) -/
theorem top_a {n top : Nat} (h1 : 2 ≤ n) (ht : 3 ≤ top) : IsTop abL (rndR n) (rndK n top) (wd [] [97]) top := by
  have hs : ∀ k, ss abL (rndR n) [] [97] k = k % n := fun k => by
    induction k with
    | zero => rw [ss_zero, Nat.zero_mod]; rfl
    | succ k ih =>
      rw [ss_succ, ih]
      show stepTo abL (rndR n) (k % n) 97 = _
      rw [rnd_a (Nat.mod_lt _ (by omega)), Nat.mod_add_mod]
  have hw : ∀ x, InfP abL (rndR n) (wd [] [97]) x ↔ ∃ k t, 0 ≤ k ∧ k < n ∧ t < [97].length ∧ x = lapP abL (rndR n) [97] (ss abL (rndR n) [] [97] k) t := fun x => inf_win (by simp) (by omega : 0 < n) (by rw [hs, hs, Nat.mod_self, Nat.zero_mod]) (Nat.le_refl _) (by omega)
  have hl : ∀ k, k < n → lapP abL (rndR n) [97] (ss abL (rndR n) [] [97] k) 0 = (k, 0) := fun k hk => by
    rw [hs, Nat.mod_eq_of_lt hk]
    rfl
  refine ⟨⟨(n - 1, 0), (hw _).mpr ⟨n - 1, 0, Nat.zero_le _, by omega, by decide, (hl _ (by omega)).symm⟩, by rw [rk_a (by omega), if_pos rfl]⟩, fun x hx => ?_⟩
  obtain ⟨k, t, _, hk, htt, rfl⟩ := (hw x).mp hx
  obtain rfl : t = 0 := by simpa using htt
  rw [hl k hk, rk_a hk]
  split <;> omega
/-- (a, b) -/
theorem top_ab {n top : Nat} (h1 : 2 ≤ n) : IsTop abL (rndR n) (rndK n top) (wd [97] [98]) 3 := by
  have h0 : ss abL (rndR n) [97] [98] 0 < n := by
    rw [ss_zero]
    show stepTo abL (rndR n) 0 97 < n
    rw [rnd_a (by omega)]
    exact Nat.mod_lt _ (by omega)
  have e1 : ss abL (rndR n) [97] [98] 1 = 0 := by
    rw [ss_succ]
    exact rnd_b h0
  have e2 : ss abL (rndR n) [97] [98] 2 = 0 := by
    rw [ss_succ, e1]
    exact rnd_b (by omega)
  have hw : ∀ x, InfP abL (rndR n) (wd [97] [98]) x ↔ ∃ k t, 1 ≤ k ∧ k < 2 ∧ t < [98].length ∧ x = lapP abL (rndR n) [98] (ss abL (rndR n) [97] [98] k) t := fun x => inf_win (by simp) (by omega : 1 < 2) (by rw [e1, e2]) (Nat.le_refl _) (by omega)
  have hl : lapP abL (rndR n) [98] (ss abL (rndR n) [97] [98] 1) 0 = (0, 1) := by
    rw [e1]
    rfl
  refine ⟨⟨(0, 1), (hw _).mpr ⟨1, 0, Nat.le_refl _, by omega, by decide, hl.symm⟩, rk_b (by omega)⟩, fun x hx => ?_⟩
  obtain ⟨k, t, hk1, hk, htt, rfl⟩ := (hw x).mp hx
  obtain rfl : t = 0 := by simpa using htt
  obtain rfl : k = 1 := by omega
  rw [hl, rk_b (by omega)]
  exact Nat.le_refl _
theorem as_get {n t : Nat} (h : t < n) : (List.replicate n 97).getD t 0 = 97 := by
  rw [List.getD_eq_getElem?_getD, List.getElem?_replicate, if_pos h]
  rfl
/-- (b, a^n) -/
theorem top_b {n top : Nat} (h1 : 2 ≤ n) (ht : 3 ≤ top) : IsTop abL (rndR n) (rndK n top) (wd [98] (List.replicate n 97)) top := by
  have e0 : ss abL (rndR n) [98] (List.replicate n 97) 0 = 0 := by
    rw [ss_zero]
    exact rnd_b (by omega)
  have e1 : ss abL (rndR n) [98] (List.replicate n 97) 1 = 0 := by
    rw [ss_succ, e0, rnd_as n 0 (by omega), Nat.zero_add, Nat.mod_self]
  have hne : List.replicate n 97 ≠ [] := by
    intro e
    have := congrArg List.length e
    simp at this
    omega
  have hw : ∀ x, InfP abL (rndR n) (wd [98] (List.replicate n 97)) x ↔ ∃ k t, 0 ≤ k ∧ k < 1 ∧ t < (List.replicate n 97).length ∧ x = lapP abL (rndR n) (List.replicate n 97) (ss abL (rndR n) [98] (List.replicate n 97) k) t := fun x => inf_win hne (by omega : 0 < 1) (by rw [e0, e1]) (Nat.le_refl _) (by omega)
  have hl : ∀ t, t < n → lapP abL (rndR n) (List.replicate n 97) (ss abL (rndR n) [98] (List.replicate n 97) 0) t = (t, 0) := fun t htn => by
    unfold lapP
    rw [e0, take_as n t (by omega), rnd_as t 0 (by omega), Nat.zero_add, Nat.mod_eq_of_lt htn, as_get htn]
    rfl
  refine ⟨⟨(n - 1, 0), (hw _).mpr ⟨0, n - 1, Nat.le_refl _, by omega, by rw [List.length_replicate]; omega, (hl _ (by omega)).symm⟩, by rw [rk_a (by omega), if_pos rfl]⟩, fun x hx => ?_⟩
  obtain ⟨k, t, _, hk, htt, rfl⟩ := (hw x).mp hx
  obtain rfl : k = 0 := by omega
  rw [List.length_replicate] at htt
  rw [hl t htt, rk_a htt]
  split <;> omega
/-- ('', a^(n-1) b) -/
theorem top_asb {n top : Nat} (h1 : 2 ≤ n) : IsTop abL (rndR n) (rndK n top) (wd [] (List.replicate (n - 1) 97 ++ [98])) 3 := by
  have hlen : (List.replicate (n - 1) 97 ++ [98]).length = n := by simp; omega
  have e0 : ss abL (rndR n) [] (List.replicate (n - 1) 97 ++ [98]) 0 = 0 := by
    rw [ss_zero]
    rfl
  have e1 : ss abL (rndR n) [] (List.replicate (n - 1) 97 ++ [98]) 1 = 0 := by
    rw [ss_succ, e0, fol_app, rnd_as (n - 1) 0 (by omega)]
    exact rnd_b (Nat.mod_lt _ (by omega))
  have hw : ∀ x, InfP abL (rndR n) (wd [] (List.replicate (n - 1) 97 ++ [98])) x ↔ ∃ k t, 0 ≤ k ∧ k < 1 ∧ t < (List.replicate (n - 1) 97 ++ [98]).length ∧ x = lapP abL (rndR n) (List.replicate (n - 1) 97 ++ [98]) (ss abL (rndR n) [] (List.replicate (n - 1) 97 ++ [98]) k) t := fun x => inf_win (by simp) (by omega : 0 < 1) (by rw [e0, e1]) (Nat.le_refl _) (by omega)
  have hl : ∀ t, t < n → lapP abL (rndR n) (List.replicate (n - 1) 97 ++ [98]) (ss abL (rndR n) [] (List.replicate (n - 1) 97 ++ [98]) 0) t = (t, if t = n - 1 then 1 else 0) := fun t htn => by
    unfold lapP
    rw [e0, List.take_append_of_le_length (by simp; omega), take_as (n - 1) t (by omega), rnd_as t 0 (by omega), Nat.zero_add, Nat.mod_eq_of_lt htn]
    by_cases e : t = n - 1
    · rw [if_pos e, getD_app_r (by simp; omega)]
      simp [e]
      decide
    · rw [if_neg e, getD_app_l (by simp; omega), as_get (by omega)]
      rfl
  refine ⟨⟨(n - 1, 1), (hw _).mpr ⟨0, n - 1, Nat.le_refl _, by omega, by rw [hlen]; omega, by rw [hl _ (by omega), if_pos rfl]⟩, rk_b (by omega)⟩, fun x hx => ?_⟩
  obtain ⟨k, t, _, hk, htt, rfl⟩ := (hw x).mp hx
  obtain rfl : k = 0 := by omega
  rw [hlen] at htt
  rw [hl t htt]
  by_cases e : t = n - 1
  · rw [if_pos e, rk_b htt]
    exact Nat.le_refl _
  · rw [if_neg e, rk_a htt, if_neg e]
    omega
theorem rnd_reach {n p q : Nat} (hp : p < n) (hq : q < n) : Reach (rndR n) p q := by
  have fwd : ∀ k, k < n → Reach (rndR n) 0 k := fun k => by
    induction k with
    | zero => intro _; exact .refl 0
    | succ k ih =>
      intro h
      refine .tail (ih (by omega)) ?_
      rw [rnd_row (by omega), Nat.mod_eq_of_lt h]
      exact List.mem_cons_self
  refine Reach.head ?_ (fwd q hq)
  rw [rnd_row hp]
  exact List.mem_cons_of_mem _ List.mem_cons_self
theorem rnd_met {n : Nat} : AllMet (rndR n) := fun p hp => by
  rw [rnd_len] at hp
  exact rnd_reach (by omega) hp
theorem sorted_uniq : ∀ {a b : List Nat}, a.Pairwise (· < ·) → b.Pairwise (· < ·) → (∀ k, k ∈ a ↔ k ∈ b) → a = b
  | [], [], _, _, _ => rfl
  | [], y :: b, _, _, h => absurd ((h y).mpr List.mem_cons_self) (by simp)
  | x :: a, [], _, _, h => absurd ((h x).mp List.mem_cons_self) (by simp)
  | x :: a, y :: b, ha, hb, h => by
    rw [List.pairwise_cons] at ha hb
    have e : x = y := by
      rcases List.mem_cons.mp ((h x).mp List.mem_cons_self) with e | e
      · exact e
      · rcases List.mem_cons.mp ((h y).mpr List.mem_cons_self) with e2 | e2
        · exact e2.symm
        · have := hb.1 x e
          have := ha.1 y e2
          omega
    subst e
    rw [sorted_uniq ha.2 hb.2 fun k => ?_]
    constructor
    · intro hk
      rcases List.mem_cons.mp ((h k).mp (List.mem_cons_of_mem _ hk)) with e | e
      · have := ha.1 k hk
        omega
      · exact e
    · intro hk
      rcases List.mem_cons.mp ((h k).mpr (List.mem_cons_of_mem _ hk)) with e | e
      · have := hb.1 k hk
        omega
      · exact e
end RK
-- LB
set_option Elab.async false
set_option linter.all false
set_option maxRecDepth 100000
set_option maxHeartbeats 4000000
namespace RK
open PySem PySem.Spec PyProof.Rows L2
local macro_rules
  | `(tactic| walk_at "ev") => `(tactic| try simp only [dVar, dC, dOp, dUn, kII, kIB, kI0, kSS, kAddS, kSign, flD, kEq, vS, onS, kIn, dasOf, dNil, dCons, dConsA, dTup, dLst, dAnd, dOr, dNot, dB, dAndT, dOrT, dNotT, dIf, dChain, kIx, dNoPart, dPart, dSlS, dSlL, dRev, dCB, k1, k2, lenD, kLen, kAll, kMax, kMM, kAbs, kInt, kList, kTuple, kSortI, kDivmod, onO, onDa, onInt, onBl, onStr, vL, onL, onT, vM, onM, toDa, dDGet, dDIn, dDGet2, dBM, dBM0, dBMS, onOwn, kAppend, kExtend, kPop, kPopAt, kClear, kIndex, kCount, kSIndex, lkF, dFld, dLR, dRg1, dRg2, dJoin, rvS, dgName, dgNil, dgCons, dgTup, diL, diT, diS, diR1, diR2, onLd, diZ, diE, diZSS, diZSL, diET, dNext, dSeq, dDrop, rtD, dRet, dRetN, dIfS, dNever, dSet, dAsg, dPar, dPar3, dFldS, dDPut, dFrz, dYes, startE, dCall, dCallM, isPot, dCallP, dMk, onObj, dMt, dPp, dCO, dRevA, kInv, kNeg, kLenO, kReprO, dFmtO, dFmtR, vD, kReprD, kReprB, dFmtD, kEqD, kCat, kCatT, clV, kIsi, kIsiT, kEqO, dCval, dCon, dJs, dJoined, diQ, diEQ, dLZ, kMulS, kSumL, dSS, kSortTs, dDisp1, fInt, fBool, fStr, fList, fSeq,
      List.map_cons, List.map_nil, List.cons_append, List.nil_append, List.length_cons, List.length_nil, List.replicate_succ, List.replicate_zero, List.append_nil, Nat.reduceAdd, Nat.reduceSub, Nat.zero_add, Nat.sub_self,
      List.getElem?_cons_zero, List.getElem?_cons_succ, List.getElem?_nil, List.set_cons_zero, List.set_cons_succ, Option.map_some, Option.map_none, List.reverse_cons, List.reverse_nil, Bool.not_true, Bool.not_false, Bool.false_eq_true, if_true, if_false, true_and, and_true, reduceCtorEq, wipeE, noOwn, Sl.own, List.all_cons, List.all_nil, Bool.and_true, Bool.true_and, Bool.and_self, List.length_map, List.not_mem_nil, not_false_eq_true, cx_K, cx_Kn, sn1, sn2, sn3, sn4, sn5, sgD, tx_list, tx_len, tx_app, tx_cut])
section
variable {P : Program} {w : World} {K : PySem.W.Frag} {mg : Str → Option Value} {base : Heap}
/-- a word that may be given -/
structure WdOk (ls h t b l : List Nat) : Prop where
  lb : Low b
  ll : Low l
  nb : b.length ≤ 8000
  nl : l.length ≤ 8000
  ne : l ≠ []
  at_ : ∀ i, wd b l i = wd h t i
  inn : ∀ c, c ∈ b ∨ c ∈ l → c ∈ ls
abbrev R_law_told_so (K : PySem.W.Frag) : RR := fun ds Q => ∃ ls h t, ds = [.str (tx h), .str (tx t)] ∧ Low ls ∧ (∀ c, c ∈ h ∨ c ∈ t → c ∈ ls) ∧ t ≠ [] ∧ h.length ≤ 1000 ∧ t.length ≤ 1000 ∧ ∀ b l, WdOk ls h t b l → Q (wdD K b l)
theorem ok_law_told_so (T : Txt K mg) : Df P w K mg base "_law_told_so" 5 ["_law_pot_here", "_law_head", "_law_tail"] (spP K (R_law_told_so K)) := by
  obtain ⟨fd, F, b⟩ := q_law_told_so T
  refine ⟨_, fd, okP F sc_law_told_so (by rintro ds Q ⟨ls, h0, t, rfl, hlw, hin, hne, h1, h2, q⟩; rfl) (by decide) (fun cdv A outer s H hr => ⟨_, _, ⟨
      (pss_cons (ps_set (i := 3) sc_law_told_so.nd rfl (Or.inl rfl) (pe_lst (pa_cons (pe_makeD (ok_Word___init T) hr (pa_cons (pv 1) (pa_cons (pv 2) pa_nil))) (pa_cons (pe_makeD (ok_Word___init T) hr (pa_cons (pe_op op_add_str (pv 1) (pv 2)) (pa_cons (pv 2) pa_nil))) (pa_cons (pe_makeKw (ok_Word___init T) hr (pk_cons (pe_op op_add_str (pv 2) (pv 2)) (pk_cons (pv 1) pk_nil))) pa_nil)))))
      (pss_one (ps_ret (pe_callD (ok_law_pick T) hr (pa_cons (pv 0) (pa_cons (pe_op op_cat (pv 3) (pe_lst (pa_cons (pe_makeD (ok_Word___init T) hr (pa_cons (pe_op op_add_str (pv 1) (pe_slice sl_str (pv 2) po_none (po_some pe_int))) (pa_cons (pe_op op_add_str (pe_slice sl_str (pv 2) (po_some pe_int) po_none) (pe_slice sl_str (pv 2) po_none (po_some pe_int))) pa_nil))) pa_nil))) pa_nil)))))),
      (rs_seq (rs_set 3 (re_lst (ra_consA (re_mk (ra_consA re_var (ra_consA re_var ra_nil))) (ra_consA (re_mk (ra_consA (re_op ro_addS re_var re_var) (ra_consA re_var ra_nil))) (ra_consA (re_mk (ra_rev (ra_consA (re_op ro_addS re_var re_var) (ra_consA re_var ra_nil)))) ra_nil)))))
      (rs_ret (re_callP (ra_consA (re_op ro_cat re_var (re_lst (ra_consA (re_mk (ra_consA (re_op ro_addS re_var (re_slS re_var ro_no (ro_part (re_c fun _ => .int _)))) (ra_consA (re_op ro_addS (re_slS re_var (ro_part (re_c fun _ => .int _)) ro_no) (re_slS re_var ro_no (ro_part (re_c fun _ => .int _)))) ra_nil))) ra_nil))) ra_nil))))⟩, fun ds Q h => ?_⟩), T.g__law_told_so, F.kp, b⟩
  obtain ⟨ls, h0, t, rfl, hlw, hin, hne, h1, h2, q⟩ := h
  have lh : Low h0 := fun c hc => hlw c (hin c (.inl hc))
  have lt : Low t := fun c hc => hlw c (hin c (.inr hc))
  have ltt : Low (t ++ t) := fun c hc => (List.mem_append.mp hc).elim (lt c) (lt c)
  have lht : Low (h0 ++ t) := fun c hc => (List.mem_append.mp hc).elim (lh c) (lt c)
  have mk : ∀ h' t' : List Nat, (∀ c ∈ h', c ∈ h0 ∨ c ∈ t) → (∀ c ∈ t', c ∈ h0 ∨ c ∈ t) → (∀ i, wd h' t' i = wd h0 t i) → h'.length ≤ 8000 → t'.length ≤ 8000 → ∀ b' l' : List Nat, l' ≠ [] → b'.length ≤ h'.length → l'.length ≤ t'.length → (∀ i, wd b' l' i = wd h' t' i) → (∀ c, c ∈ b' ∨ c ∈ l' → c ∈ h' ∨ c ∈ t') → WdOk ls h0 t b' l' := fun h' t' m1 m2 m3 n1 n2 b' l' g1 g2 g3 g4 g5 =>
    have m4 : ∀ c, c ∈ b' ∨ c ∈ l' → c ∈ ls := fun c hc => hin c ((g5 c hc).elim (m1 c) (m2 c))
    ⟨fun c hc => hlw c (m4 c (.inl hc)), fun c hc => hlw c (m4 c (.inr hc)), by omega, by omega, g1, fun i => (g4 i).trans (m3 i), m4⟩
  have e1 : ∀ c ∈ t.take 1, c ∈ h0 ∨ c ∈ t := fun c hc => .inr (List.mem_of_mem_take hc)
  have e2 : ∀ c ∈ t.drop 1, c ∈ h0 ∨ c ∈ t := fun c hc => .inr (List.mem_of_mem_drop hc)
  have low : ∀ x : List Nat, (∀ c ∈ x, c ∈ h0 ∨ c ∈ t) → Low x := fun x hx c hc => hlw c (hin c (hx c hc))
  have l1 := List.length_take_le 1 t
  have l2 : (t.drop 1).length ≤ t.length := by rw [List.length_drop]; omega
  walk_at "ev"
  refine ⟨h0, t, rfl, lh, lt, hne, by omega, by omega, fun b1 t1 g1 g2 g3 g4 g5 => ?_⟩
  have w1 := mk h0 t (fun c hc => .inl hc) (fun c hc => .inr hc) (fun i => rfl) (by omega) (by omega) b1 t1 g1 g2 g3 g4 g5
  refine ⟨by rw [szl]; omega, h0 ++ t, t, rfl, lht, lt, hne, by rw [List.length_append]; omega, by omega, fun b2 t2 g1 g2 g3 g4 g5 => ?_⟩
  have w2 := mk (h0 ++ t) t (fun c hc => List.mem_append.mp hc) (fun c hc => .inr hc) (fun i => wd_lap_begin hne i) (by rw [List.length_append]; omega) (by omega) b2 t2 g1 g2 g3 g4 g5
  refine ⟨by rw [szl]; omega, h0, t ++ t, rfl, lh, ltt, by simp [hne], by omega, by rw [List.length_append]; omega, fun b3 t3 g1 g2 g3 g4 g5 => ?_⟩
  have w3 := mk h0 (t ++ t) (fun c hc => .inl hc) (fun c hc => .inr ((List.mem_append.mp hc).elim id id)) (fun i => wd_twice hne i) (by omega) (by rw [List.length_append]; omega) b3 t3 g1 g2 g3 g4 g5
  rw [show cutD t none (some 1) = t.take 1 from cut_take t 1, show cutD t (some 1) none = t.drop 1 from cut_drop t 1]
  have m1 : ∀ c ∈ h0 ++ t.take 1, c ∈ h0 ∨ c ∈ t := fun c hc => (List.mem_append.mp hc).elim .inl (e1 c)
  have m2 : ∀ c ∈ t.drop 1 ++ t.take 1, c ∈ h0 ∨ c ∈ t := fun c hc => (List.mem_append.mp hc).elim (e2 c) (e1 c)
  refine ⟨by rw [szl]; omega, by rw [szl]; omega, by rw [szl]; omega, by rw [szl]; omega, by rw [szl]; omega, by rw [szl]; omega, h0 ++ t.take 1, t.drop 1 ++ t.take 1, rfl, low _ m1, low _ m2, ?_, by rw [List.length_append]; omega, by rw [List.length_append]; omega, fun b4 t4 g1 g2 g3 g4 g5 => ?_⟩
  · intro e
    have z1 := congrArg List.length e
    rw [List.length_append, List.length_drop, List.length_take, List.length_nil] at z1
    have z2 := List.length_pos_iff.mpr hne
    clear w1 w2 w3 mk
    omega
  have w4 := mk (h0 ++ t.take 1) (t.drop 1 ++ t.take 1) m1 m2 (fun i => wd_shift hne i) (by rw [List.length_append]; omega) (by rw [List.length_append]; omega) b4 t4 g1 g2 g3 g4 g5
  refine ⟨by rw [szl]; omega, by rw [szl]; omega, _, rfl, .inl ⟨_, rfl, by simp, by simp, fun x hx => ?_⟩⟩
  rcases List.mem_cons.mp hx with rfl | hx
  · exact q _ _ w1
  rcases List.mem_cons.mp hx with rfl | hx
  · exact q _ _ w2
  rcases List.mem_cons.mp hx with rfl | hx
  · exact q _ _ w3
  · rw [List.mem_singleton.mp hx]
    exact q _ _ w4
/-- the shape of what the words are asked -/
abbrev R_law_words_right (K : PySem.W.Frag) : RR := fun ds Q => ∃ ls rows ranks, ds = [netD ls rows, .lst (lD (oN ranks)), rkD K ls rows ranks] ∧ Mc ls rows ∧ Rk ls rows ranks ∧ (∀ r ∈ ranks, ∀ k ∈ r, k ≤ 11) ∧ Q (.bl true)
/-- a word as head and tail -/
def PairOk (ls : List Nat) (y : Da) : Prop := ∃ h t, y = .tup [.str (tx h), .str (tx t)] ∧ (∀ c, c ∈ h ∨ c ∈ t → c ∈ ls) ∧ t ≠ [] ∧ h.length ≤ 6 ∧ t.length ≤ 8
theorem ex_top {ls : List Nat} {rows : List (List Nat)} (ranks : List (List Nat)) (M : Mc ls rows) {b l : List Nat} (hin : ∀ c, c ∈ b ∨ c ∈ l → c ∈ ls) (hl : l ≠ []) : ∃ r, IsTop ls rows ranks (wd b l) r := by
  obtain ⟨i0, j0, hij, hjn, hss⟩ := ss_pigeon (ls := ls) (rows := rows) (b := b) (l := l) M (fun c h => hin c (.inl h)) fun c h => hin c (.inr h)
  have hwin : ∀ x, InfP ls rows (wd b l) x ↔ ∃ k t, i0 ≤ k ∧ k < j0 ∧ t < l.length ∧ x = lapP ls rows l (ss ls rows b l k) t := fun x => inf_win hl hij hss (Nat.le_refl _) (by omega)
  have h0 : InfP ls rows (wd b l) (lapP ls rows l (ss ls rows b l i0) 0) := (hwin _).mpr ⟨i0, 0, Nat.le_refl _, hij, List.length_pos_iff.mpr hl, rfl⟩
  refine Classical.byContradiction fun hn => ?_
  have key : ∀ n, ∃ x, InfP ls rows (wd b l) x ∧ n ≤ rkOf ranks x := by
    intro n
    induction n with
    | zero => exact ⟨_, h0, Nat.zero_le _⟩
    | succ n ih =>
      obtain ⟨x, hx, hle⟩ := ih
      refine Classical.byContradiction fun hc => hn ⟨rkOf ranks x, ⟨x, hx, rfl⟩, fun y hy => ?_⟩
      refine Classical.byContradiction fun hy2 => hc ⟨y, hy, by omega⟩
  have bnd : ∀ x : Nat × Nat, rkOf ranks x ≤ ranks.flatten.sum := fun x => by
    unfold rkOf row
    rw [List.getD_eq_getElem?_getD, List.getD_eq_getElem?_getD]
    by_cases h1 : x.1 < ranks.length
    · rw [List.getElem?_eq_getElem h1]
      simp only [Option.getD_some]
      by_cases h2 : x.2 < (ranks[x.1]).length
      · rw [List.getElem?_eq_getElem h2]
        simp only [Option.getD_some]
        have hm : (ranks[x.1])[x.2] ∈ ranks.flatten := List.mem_flatten.mpr ⟨_, List.getElem_mem h1, List.getElem_mem h2⟩
        generalize ranks.flatten = L at hm
        generalize (ranks[x.1])[x.2] = v at hm
        clear key hn h0 hwin
        induction L with
        | nil => cases hm
        | cons a L ih =>
          rw [List.sum_cons]
          rcases List.mem_cons.mp hm with e | e
          · omega
          · have := ih e
            omega
      · rw [List.getElem?_eq_none (Nat.le_of_not_lt h2)]
        exact Nat.zero_le _
    · rw [List.getElem?_eq_none (l := ranks) (Nat.le_of_not_lt h1)]
      simp
  obtain ⟨x, _, hx⟩ := key (ranks.flatten.sum + 1)
  have := bnd x
  omega
theorem up_top {ls : List Nat} {rows ranks : List (List Nat)} (M : Mc ls rows) (R : Rk ls rows ranks) {w : Nat → Nat} (hw : ∀ i, w i ∈ ls) {r : Nat} (h : IsTop ls rows ranks w r) : IsTop ls rows (upR ranks) w (r + 1) := by
  have key : ∀ x, InfP ls rows w x → rkOf (upR ranks) x = rkOf ranks x + 1 := fun x hx => by
    obtain ⟨h1, h2⟩ := inf_lt M hw hx
    have h3 := rk_get R h1 h2
    have hp : x.1 < ranks.length := by rw [R.n]; exact h1
    have h4 : row (upR ranks) x.1 = (row ranks x.1).map (· + 1) := by
      unfold row upR
      rw [List.getD_eq_getElem?_getD, List.getElem?_map, List.getD_eq_getElem?_getD, List.getElem?_eq_getElem hp]
      rfl
    show (row (upR ranks) x.1).getD x.2 0 = _
    rw [h4, List.getD_eq_getElem?_getD, List.getElem?_map, h3]
    rfl
  obtain ⟨⟨x, hx, rfl⟩, h2⟩ := h
  exact ⟨⟨x, hx, key x hx⟩, fun y hy => by rw [key y hy]; exact Nat.succ_le_succ (h2 y hy)⟩
theorem ok_law_words_right (T : Txt K mg) : Df P w K mg base "_law_words_right" 8 ["_law_pot_here", "_law_net_here", "_law_marks_here", "_law_made"] (spP K (R_law_words_right K)) := by
  obtain ⟨fd, F, b⟩ := q_law_words_right T
  refine ⟨_, fd, okP F sc_law_words_right (by rintro ds Q ⟨ls, rows, ranks, rfl, M, R, h11, q⟩; rfl) (by decide) (fun cdv A outer s H hr => ⟨_, _, ⟨
      (pss_cons (ps_setLc (i := 4) (own := [("_law_sign", 10)]) (g := gName 10) (tt := tYes) rfl sc_law_words_right.nd rfl rfl (sw_true rfl rfl rfl (by decide +kernel)) (pi_str (pe_ix ix_seq (pv 1) pe_int (fun _ _ => rfl))) (blkOk_by (by kernel_rfl)) (fun _ _ _ _ _ => (pg_name (i := 10) sc_law_words_right.nd rfl (Or.inl rfl))) (fun _ _ _ _ _ => pts_nil) (fun _ _ _ _ _ => by exact (pe_tup (pa_cons pe_str (pa_cons (pv 10) pa_nil)))))
      (pss_cons (ps_expr (pe_bm PySem.F.plainAttrs_list PySem.F.slot_list_extend PySem.F.type_list_extend mt_extend (pv 4) (pa_cons (pe_lc (own := [("_law_turn", 11)]) (g := gName 11) (tt := tYes) rfl sc_law_words_right.nd (pi_range1 (by rfl) T.z_range (pa_cons pe_int pa_nil)) (blkOk_by (by kernel_rfl)) (fun _ _ _ _ _ => (pg_name (i := 11) sc_law_words_right.nd rfl (Or.inl rfl))) (fun _ _ _ _ _ => pts_nil) (fun _ _ _ _ _ => by exact (pe_tup (pa_cons (pe_callD (ok_law_term T) hr (pa_cons (pv 0) (pa_cons (pv 1) (pa_cons pe_int (pa_cons pe_int pa_nil))))) (pa_cons (pe_callD (ok_law_term T) hr (pa_cons (pv 0) (pa_cons (pv 1) (pa_cons pe_int (pa_cons pe_int pa_nil))))) pa_nil))))) pa_nil)))
      (pss_cons (ps_for PassesOwn.never rfl (pi_list (pv 4)) (pg_tup (n := 2) (by rfl) (pgs_cons (pg_name (i := 5) sc_law_words_right.nd rfl (Or.inl rfl)) (pgs_cons (pg_name (i := 6) sc_law_words_right.nd rfl (Or.inl rfl)) pgs_nil)))
      (pss_cons (ps_par (i := 7) (j := 8) (by rfl) sc_law_words_right.nd rfl rfl (by decide) rfl rfl (pa_cons (pe_callD (ok_law_top_by T) hr (pa_cons (pv 1) (pa_cons (pv 2) (pa_cons (pv 5) (pa_cons (pv 6) pa_nil))))) (pa_cons (pe_callD (ok_law_told_so T) hr (pa_cons (pv 0) (pa_cons (pv 5) (pa_cons (pv 6) pa_nil)))) pa_nil)) (by rfl))
      (pss_cons (ps_set (i := 9) sc_law_words_right.nd rfl (Or.inl rfl) (pe_lst (pa_cons (pe_methD T.cl_Ranked (ok_Ranked_greatest T) hr (pv 3) (pa_cons (pv 8) pa_nil)) (pa_cons (pe_methK T.cl_Ranked (ok_Ranked_greatest T) hr (pv 3) (pk_cons (pv 8) pk_nil)) (pa_cons (pe_callOD (ok_Ranked___call T) T.fc_Ranked hr (pv 3) (pa_cons (pv 8) pa_nil)) (pa_cons (pe_callOK (ok_Ranked___call T) T.fc_Ranked hr (pv 3) (pk_cons (pv 8) pk_nil)) pa_nil))))))
      (pss_cons (ps_if (pt_cmpR op_ne (pe_callB (call_reprD hr) (by rfl) T.z_repr boot_repr (pa_cons (pv 9) pa_nil)) (pe_callB (call_reprD hr) (by rfl) T.z_repr boot_repr (pa_cons (pe_lst (pa_cons (pv 7) (pa_cons (pv 7) (pa_cons (pe_callD (ok_law_is_even T) hr (pa_cons (pv 7) pa_nil)) (pa_cons (pe_callD (ok_law_is_even T) hr (pa_cons (pv 7) pa_nil)) pa_nil))))) pa_nil)) (nomark _)) (pss_one (ps_ret pe_bl)) pss_nil)
      (pss_one (ps_if (PW.pt (pw_or (pt_cmpR op_ne (pe_callB call_reprB (by rfl) T.z_repr boot_repr (pa_cons (pe_callOD (ok_Ranked___call T) T.fc_Ranked hr (pe_un (un_invO (ok_Ranked___invert T) hr) (pv 3)) (pa_cons (pv 8) pa_nil)) pa_nil)) (pe_callB call_reprB (by rfl) T.z_repr boot_repr (pa_cons (pe_not (pe_callD (ok_law_is_even T) hr (pa_cons (pv 7) pa_nil))) pa_nil)) (nomark _)) (pw_or1 (pt_cmpR op_ne (pe_methD T.cl_Ranked (ok_Ranked_greatest T) hr (pe_un (un_invO (ok_Ranked___invert T) hr) (pv 3)) (pa_cons (pv 8) pa_nil)) (pe_op op_add (pv 7) pe_int) (nomark _))))) (pss_one (ps_ret pe_bl)) pss_nil))))))
      (pss_one (ps_ret pe_bl))))),
      (rs_seq (rs_set 4 (re_lc (ri_str (re_op ro_ix re_var (re_c fun _ => .int _))) (rg_name 10) rt_yes (re_tup (ra_consA (re_c fun _ => .str _) (ra_consA re_var ra_nil))) (by decide)))
      (rs_seq (rs_drop (re_bm rm_extend re_var (ra_cons (re_lc (ri_rng1 (re_c fun _ => .int _)) (rg_name 11) rt_yes (re_tup (ra_consA (re_callP (ra_consA re_var (ra_consA (re_c fun _ => .int _) (ra_consA (re_c fun _ => .int _) ra_nil)))) (ra_consA (re_callP (ra_consA re_var (ra_consA (re_c fun _ => .int _) (ra_consA (re_c fun _ => .int _) ra_nil)))) ra_nil))) (by decide)) ra_nil)))
      (rs_seq (rs_frz (i := 4) (rs_for (ri_list re_var) (rg_tup (n := 2) (rgs_cons (rg_name 5) (rgs_cons (rg_name 6) rgs_nil)))
      (rs_seq (rs_par (re_call (ra_consA re_var (ra_consA re_var (ra_consA re_var (ra_consA re_var ra_nil))))) (re_callP (ra_consA re_var (ra_consA re_var ra_nil))))
      (rs_seq (rs_set 9 (re_lst (ra_consA (re_mt re_var (ra_consA re_var ra_nil)) (ra_consA (re_mt re_var (ra_rev (ra_consA re_var ra_nil))) (ra_consA (re_co re_var (ra_consA re_var ra_nil)) (ra_consA (re_co re_var (ra_rev (ra_consA re_var ra_nil))) ra_nil))))))
      (rs_seq (rs_if (rt_test (re_op ro_ne (re_CB rc_reprD (ra_cons re_var ra_nil)) (re_CB rc_reprD (ra_cons (re_lst (ra_consA re_var (ra_consA re_var (ra_consA (re_call (ra_consA re_var ra_nil)) (ra_consA (re_call (ra_consA re_var ra_nil)) ra_nil))))) ra_nil)))) (rs_ret (re_c fun _ => .bl _)) rs_next)
      (rs_if (rt_or (rt_test (re_op ro_ne (re_CB rc_reprB (ra_cons (re_co (re_un ru_inv re_var) (ra_consA re_var ra_nil)) ra_nil)) (re_CB rc_reprB (ra_cons (re_not (re_call (ra_consA re_var ra_nil))) ra_nil)))) (rt_test (re_op ro_ne (re_mt (re_un ru_inv re_var) (ra_consA re_var ra_nil)) (re_op ro_I0 re_var (re_c fun _ => .int _))))) (rs_ret (re_c fun _ => .bl _)) rs_next))))))
      (rs_ret (re_c fun _ => .bl _)))))⟩, fun ds Q h => ?_⟩), T.g__law_words_right, F.kp, b⟩
  obtain ⟨ls, rows, ranks, rfl, M, R, h11, q⟩ := h
  have l1 := M.l1
  have l3 := M.l3
  have a0 : L2.atI [Da.str (tx ls), Da.lst (lD (oN rows))] 0 = some (.str (tx ls)) := atI_nat (j := 0) rfl
  walk_at "ev"
  refine lc_rel (xs := ls.map sgD) (e0 := [.pot, .d (netD ls rows), .d (.lst (lD (oN ranks))), .d (rkD K ls rows ranks), .u, .u, .u, .u, .u, .u, .u, .u]) (fun P h => ?_) rfl (by rw [List.length_map, szl]; omega) (fun _ y => PairOk ls y) (fun i x k k' hx hk => ?_) fun ys hy1 hy2 => ?_
  · walk_at "ev"
    rw [a0]
    exact h
  · obtain ⟨c, hc, rfl⟩ := List.mem_map.mp (List.mem_of_getElem? hx)
    unfold lcB
    walk_at "ev"
    exact ⟨by rw [szl]; omega, hk _ ⟨[], [c], rfl, fun d hd => by
      rcases hd with z | z
      · cases z
      · rw [List.mem_singleton.mp z]; exact hc, by simp, by simp, by simp⟩⟩
  have hys := rel_all hy1 hy2
  have hyl : ys.length ≤ 3 := by rw [hy1, List.length_map]; exact l3
  walk_at "ev"
  refine lc_rel (xs := rgD 0 12) (fun P h => by walk_at "ev"; exact ⟨by omega, by omega, h⟩) rfl (by rw [szl]; simp [rgD]) (fun _ y => PairOk ls y) (fun i x k k' hx hk => ?_) fun zs hz1 hz2 => ?_
  · unfold lcB
    walk_at "ev"
    refine ⟨ls, rows, 0, 6, rfl, M, by omega, by omega, fun h hh _ h6 => ?_⟩
    refine ⟨ls, rows, 1, 8, rfl, M, by omega, by omega, fun t ht t1 t8 => ?_⟩
    refine ⟨by rw [szl]; omega, hk _ ⟨h, t, rfl, fun c hc => hc.elim (hh c) (ht c), fun e => by rw [e] at t1; simp at t1, h6, t8⟩⟩
  have hzs := rel_all hz1 hz2
  have hzl : zs.length = 12 := by rw [hz1]; simp [rgD]
  walk_at "ev"
  refine ⟨(fun z => nomatch z), by rw [szl]; omega, ?_⟩
  have hall : ∀ y ∈ ys ++ zs, PairOk ls y := fun y hy => (List.mem_append.mp hy).elim (hys y) (hzs y)
  generalize ys ++ zs = prs at hall
  refine for_intro (xs := prs) (fun P h => by walk_at "ev"; exact h)
    (fun i e => ∃ t5 t6 t7 t8 t9 : Sl, (t5 = .u ∨ ∃ d, t5 = .d d) ∧ (t6 = .u ∨ ∃ d, t6 = .d d) ∧ (t7 = .u ∨ ∃ d, t7 = .d d) ∧ (t8 = .u ∨ ∃ d, t8 = .d d) ∧ (t9 = .u ∨ ∃ d, t9 = .l d) ∧ e = [.pot, .d (netD ls rows), .d (.lst (lD (oN ranks))), .d (rkD K ls rows ranks), .d (.lst prs), t5, t6, t7, t8, t9, .u, .u])
    ⟨.u, .u, .u, .u, .u, .inl rfl, .inl rfl, .inl rfl, .inl rfl, .inl rfl, rfl⟩ (fun i x e hx hI => ?_) fun e hI => ?_
  · obtain ⟨t5, t6, t7, t8, t9, _, _, _, _, h9, rfl⟩ := hI
    obtain ⟨h, t, rfl, hin, hne, hh, ht⟩ := hall x (List.mem_of_getElem? hx)
    walk_at "ev"
    refine ⟨ls, rows, ranks, h, t, rfl, M, R, hin, by omega, by omega, hne, fun r hr => ?_⟩
    walk_at "ev"
    refine ⟨ls, h, t, rfl, M.low, hin, hne, by omega, by omega, fun b l W => ?_⟩
    have hw : wd b l = wd h t := funext W.at_
    have hwl : ∀ i, wd h t i ∈ ls := fun i => (wd_mem hne i).elim (fun z => hin _ (.inl z)) fun z => hin _ (.inr z)
    have gr : ∀ Q' : Da → Prop, Q' (.int (r : Nat)) → R_Ranked_greatest K [rkD K ls rows ranks, wdD K b l] Q' := fun Q' hq => ⟨ls, rows, ranks, b, l, rfl, M, R, W.lb, W.ll, W.inn, W.nb, W.nl, W.ne, fun r' hr' => by rw [hw] at hr'; rw [IsTop.uniq hr' hr]; exact hq⟩
    have ca : ∀ Q' : Da → Prop, Q' (.bl (decide (r % 2 = 0))) → R_Ranked___call K [rkD K ls rows ranks, wdD K b l] Q' := fun Q' hq => ⟨ls, rows, ranks, b, l, rfl, M, R, W.lb, W.ll, W.inn, W.nb, W.nl, W.ne, fun r' hr' => by rw [hw] at hr'; rw [IsTop.uniq hr' hr]; exact hq⟩
    have R2 := up_rk R h11
    have hr2 := up_top M R hwl hr
    have gr2 : ∀ Q' : Da → Prop, Q' (.int ((r + 1 : Nat) : Int)) → R_Ranked_greatest K [rkD K ls rows (upR ranks), wdD K b l] Q' := fun Q' hq => ⟨ls, rows, upR ranks, b, l, rfl, M, R2, W.lb, W.ll, W.inn, W.nb, W.nl, W.ne, fun r' hr' => by rw [hw] at hr'; rw [IsTop.uniq hr' hr2]; exact hq⟩
    have ca2 : ∀ Q' : Da → Prop, Q' (.bl (decide ((r + 1) % 2 = 0))) → R_Ranked___call K [rkD K ls rows (upR ranks), wdD K b l] Q' := fun Q' hq => ⟨ls, rows, upR ranks, b, l, rfl, M, R2, W.lb, W.ll, W.inn, W.nb, W.nl, W.ne, fun r' hr' => by rw [hw] at hr'; rw [IsTop.uniq hr' hr2]; exact hq⟩
    have hr12 : r ≤ 1000 := by
      obtain ⟨⟨y, hy, rfl⟩, _⟩ := hr
      obtain ⟨z1, z2⟩ := inf_lt M hwl hy
      have := R.rb _ (row_mem (rows := ranks) (p := y.1) (by rw [R.n]; exact z1)) _ (List.mem_of_getElem? (rk_get R z1 z2))
      show rkOf ranks (y.1, y.2) ≤ 1000
      omega
    have rp : RpOk (toP (Da.lst [Da.int (r : Nat), Da.int (r : Nat), Da.bl (decide (r % 2 = 0)), Da.bl (decide (r % 2 = 0))])) := (sh_list (k := 0) (b := 0) (n := 4) (fun d hd => by
      rcases List.mem_cons.mp hd with rfl | hd
      · exact sh_int hr12
      rcases List.mem_cons.mp hd with rfl | hd
      · exact sh_int hr12
      rcases List.mem_cons.mp hd with rfl | hd
      · exact sh_bl _
      · rw [List.mem_singleton.mp hd]
        exact sh_bl _) (by simp)).rp (by decide) (by decide)
    refine ⟨by decide, gr _ ⟨by decide, gr _ (ca _ (ca _ ?_))⟩⟩
    refine ⟨by rw [szl]; omega, ⟨_, .inl rfl⟩, rfl, rp, r, rfl, r, rfl, by rw [szl]; omega, ⟨_, .inl rfl⟩, rfl, rp, rfl, ?_⟩
    rw [if_neg (by simp)]
    refine ⟨ls, rows, ranks, rfl, M, R, h11, ?_⟩
    walk_at "ev"
    refine ca2 _ ?_
    walk_at "ev"
    refine ⟨r, rfl, ?_⟩
    walk_at "ev"
    have hpar : decide ((r + 1) % 2 = 0) = !decide (r % 2 = 0) := by
      rw [Bool.eq_iff_iff, Bool.not_eq_true', decide_eq_true_eq, decide_eq_false_iff_not]
      omega
    rw [hpar]
    refine ⟨rfl, ?_⟩
    rw [if_neg (by simp)]
    refine ⟨ls, rows, ranks, rfl, M, R, h11, ?_⟩
    walk_at "ev"
    refine ⟨by decide, gr2 _ ?_⟩
    walk_at "ev"
    refine ⟨rfl, ?_⟩
    rw [if_neg (by simp)]
    exact ⟨_, _, _, _, _, .inr ⟨_, rfl⟩, .inr ⟨_, rfl⟩, .inr ⟨_, rfl⟩, .inr ⟨_, rfl⟩, .inr ⟨_, rfl⟩, rfl⟩
  · obtain ⟨t5, t6, t7, t8, t9, _, _, _, _, h9, rfl⟩ := hI
    walk_at "ev"
    exact q
theorem rnd_used {n top : Nat} (h1 : 2 ≤ n) (k : Nat) : Usd (rndR n) (rndK n top) k ↔ k ∈ [2, 3, top] := by
  constructor
  · rintro ⟨p, i, g, hp, h2, h3, _⟩
    rw [rnd_len] at hp
    rw [rndK_row hp] at h3
    have := List.mem_of_getElem? h3
    split at this <;> simp at this ⊢ <;> omega
  · intro hk
    have m0 : ∀ p r, p < n → (row (rndK n top) p)[0]? = some r → Usd (rndR n) (rndK n top) r := fun p r hp hr =>
      ⟨p, 0, (p + 1) % n, by rw [rnd_len]; exact hp, by rw [rnd_row hp]; rfl, hr, rch_iff.mp (rnd_reach (Nat.mod_lt _ (by omega)) hp)⟩
    have m1 : ∀ p r, p < n → (row (rndK n top) p)[1]? = some r → Usd (rndR n) (rndK n top) r := fun p r hp hr =>
      ⟨p, 1, 0, by rw [rnd_len]; exact hp, by rw [rnd_row hp]; rfl, hr, rch_iff.mp (rnd_reach (by omega) hp)⟩
    rcases List.mem_cons.mp hk with e | hk
    · exact m0 0 k (by omega) (by rw [rndK_row (by omega), if_neg (by omega), e]; rfl)
    rcases List.mem_cons.mp hk with e | hk
    · exact m1 0 k (by omega) (by rw [rndK_row (by omega), if_neg (by omega), e]; rfl)
    · exact m0 (n - 1) k (by omega) (by rw [rndK_row (by omega), if_pos rfl, List.mem_singleton.mp hk]; rfl)
abbrev R_law_great_right : RR := fun ds Q => ds = [] ∧ Q (.bl true)
theorem ok_law_great_right (T : Txt K mg) : Df P w K mg base "_law_great_right" 7 ["_law_pot_here"] (spP K R_law_great_right) := by
  obtain ⟨fd, F, b⟩ := q_law_great_right T
  refine ⟨_, fd, okP F sc_law_great_right (by rintro ds Q ⟨rfl, q⟩; rfl) (by decide) (fun cdv A outer s H hr => ⟨_, _, ⟨
      (pss_cons (ps_asg (pe_tup (pa_cons (pe_op op_add pe_int (pe_callD (ok_law_draw T) hr (pa_cons (pv 0) (pa_cons pe_int pa_nil)))) (pa_cons (pe_callD (ok_law_pick T) hr (pa_cons (pv 0) (pa_cons (pe_lst (pa_cons pe_int (pa_cons pe_int (pa_cons pe_int pa_nil)))) pa_nil))) pa_nil))) (pg_tup (n := 2) (by rfl) (pgs_cons (pg_name (i := 1) sc_law_great_right.nd rfl (Or.inr rfl)) (pgs_cons (pg_name (i := 2) sc_law_great_right.nd rfl (Or.inl rfl)) pgs_nil))))
      (pss_cons (ps_setLc (i := 3) (own := [("_law_spot", 6)]) (g := gName 6) (tt := tYes) rfl sc_law_great_right.nd rfl rfl (sw_true rfl rfl rfl (by decide +kernel)) (pi_range1 (by rfl) T.z_range (pa_cons (pv 1) pa_nil)) (blkOk_by (by kernel_rfl)) (fun _ _ _ _ _ => (pg_name (i := 6) sc_law_great_right.nd rfl (Or.inl rfl))) (fun _ _ _ _ _ => pts_nil) (fun _ _ _ _ _ => (pe_lst (pa_cons (pe_op op_mod (pe_callTy call_int1 (by rfl) T.z_int boot_int (pa_cons (pe_op op_add (pv 6) pe_int) pa_nil)) (pv 1)) (pa_cons pe_int pa_nil)))))
      (pss_cons (ps_set (i := 4) sc_law_great_right.nd rfl (Or.inl rfl) (pe_makeD (ok_Ranked___init T) hr (pa_cons (pe_makeD (ok_Machine___init T) hr (pa_cons pe_str (pa_cons (pv 3) pa_nil))) (pa_cons (pe_op op_cat (pe_lc (own := [("_law_spot", 6)]) (g := gName 6) (tt := tYes) rfl sc_law_great_right.nd (pi_range1 (by rfl) T.z_range (pa_cons (pe_op op_sub (pv 1) pe_int) pa_nil)) (blkOk_by (by kernel_rfl)) (fun _ _ _ _ _ => (pg_name (i := 6) sc_law_great_right.nd rfl (Or.inl rfl))) (fun _ _ _ _ _ => pts_nil) (fun _ _ _ _ _ => (pe_lst (pa_cons pe_int (pa_cons pe_int pa_nil))))) (pe_lst (pa_cons (pe_lst (pa_cons (pv 2) (pa_cons pe_int pa_nil))) pa_nil))) pa_nil))))
      (pss_cons (ps_set (i := 5) sc_law_great_right.nd rfl (Or.inl rfl) (pe_lst (pa_cons (pe_methD T.cl_Ranked (ok_Ranked_greatest T) hr (pv 4) (pa_cons (pe_makeD (ok_Word___init T) hr (pa_cons pe_str (pa_cons pe_str pa_nil))) pa_nil)) (pa_cons (pe_methD T.cl_Ranked (ok_Ranked_greatest T) hr (pv 4) (pa_cons (pe_makeD (ok_Word___init T) hr (pa_cons pe_str (pa_cons pe_str pa_nil))) pa_nil)) pa_nil))))
      (pss_cons (ps_expr (pe_bm PySem.F.plainAttrs_list PySem.F.slot_list_append PySem.F.type_list_append mt_append (pv 5) (pa_cons (pe_methD T.cl_Ranked (ok_Ranked_greatest T) hr (pv 4) (pa_cons (pe_makeD (ok_Word___init T) hr (pa_cons pe_str (pa_cons (pe_op op_add_str (pe_op op_mulS pe_str (pe_op op_sub (pv 1) pe_int)) pe_str) pa_nil))) pa_nil)) pa_nil)))
      (pss_cons (ps_if (PW.pt (pw_or (pt_cmpR (op_neD hr.units) (pv 5) (pe_lst (pa_cons (pv 2) (pa_cons pe_int (pa_cons pe_int pa_nil)))) (nomark _)) (pw_or1 (pt_cmpR op_ne (pe_methD T.cl_Ranked (ok_Ranked_greatest T) hr (pv 4) (pa_cons (pe_makeD (ok_Word___init T) hr (pa_cons pe_str (pa_cons (pe_op op_mulS pe_str (pv 1)) pa_nil))) pa_nil)) (pv 2) (nomark _))))) (pss_one (ps_ret pe_bl)) pss_nil)
      (pss_cons (ps_if (PW.pt (pw_or (pt_cmpR (op_neD hr.units) (pe_methD0 T.cl_Ranked (ok_Ranked_used T) hr (pv 4)) (pe_lst (pa_cons pe_int (pa_cons pe_int (pa_cons (pv 2) pa_nil)))) (nomark _)) (pw_or1 (pt_cmpR op_ne (pe_methD T.cl_Ranked (ok_Ranked_rank T) hr (pv 4) (pa_cons (pe_op op_sub (pv 1) pe_int) (pa_cons pe_str pa_nil))) (pv 2) (nomark _))))) (pss_one (ps_ret pe_bl)) pss_nil)
      (pss_one (ps_ret (pe_cmpR op_eq (pe_callB call_reprB (by rfl) T.z_repr boot_repr (pa_cons (pe_callOD (ok_Ranked___call T) T.fc_Ranked hr (pv 4) (pa_cons (pe_makeD (ok_Word___init T) hr (pa_cons pe_str (pa_cons pe_str pa_nil))) pa_nil)) pa_nil)) (pe_callB call_reprB (by rfl) T.z_repr boot_repr (pa_cons (pe_cmpR op_ne (pv 2) pe_int (nomark _)) pa_nil)) (nomark _))))))))))),
      (rs_seq (rs_parT (re_op ro_I0 (re_c fun _ => .int _) (re_callP (ra_consA (re_c fun _ => .int _) ra_nil))) (re_callP (ra_consA (re_lst (ra_consA (re_c fun _ => .int _) (ra_consA (re_c fun _ => .int _) (ra_consA (re_c fun _ => .int _) ra_nil)))) ra_nil)))
      (rs_seq (rs_set 3 (re_lc (ri_rng1 re_var) (rg_name 6) rt_yes (re_lst (ra_consA (re_op ro_I (re_CB rc_int (ra_cons (re_op ro_I0 re_var (re_c fun _ => .int _)) ra_nil)) re_var) (ra_consA (re_c fun _ => .int _) ra_nil))) (by decide)))
      (rs_seq (rs_frz (i := 3) (rs_set 4 (re_mk (ra_consA (re_mk (ra_consA (re_c fun _ => .str _) (ra_consA re_var ra_nil))) (ra_consA (re_op ro_cat (re_lc (ri_rng1 (re_op ro_I0 re_var (re_c fun _ => .int _))) (rg_name 6) rt_yes (re_lst (ra_consA (re_c fun _ => .int _) (ra_consA (re_c fun _ => .int _) ra_nil))) (by decide)) (re_lst (ra_consA (re_lst (ra_consA re_var (ra_consA (re_c fun _ => .int _) ra_nil))) ra_nil))) ra_nil)))))
      (rs_seq (rs_set 5 (re_lst (ra_consA (re_mt re_var (ra_consA (re_mk (ra_consA (re_c fun _ => .str _) (ra_consA (re_c fun _ => .str _) ra_nil))) ra_nil)) (ra_consA (re_mt re_var (ra_consA (re_mk (ra_consA (re_c fun _ => .str _) (ra_consA (re_c fun _ => .str _) ra_nil))) ra_nil)) ra_nil))))
      (rs_seq (rs_drop (re_bm rm_append re_var (ra_consA (re_mt re_var (ra_consA (re_mk (ra_consA (re_c fun _ => .str _) (ra_consA (re_op ro_addS (re_op ro_mulS (re_c fun _ => .str _) (re_op ro_I0 re_var (re_c fun _ => .int _))) (re_c fun _ => .str _)) ra_nil))) ra_nil)) ra_nil)))
      (rs_seq (rs_if (rt_or (rt_test (re_op ro_neD re_var (re_lst (ra_consA re_var (ra_consA (re_c fun _ => .int _) (ra_consA (re_c fun _ => .int _) ra_nil)))))) (rt_test (re_op ro_ne (re_mt re_var (ra_consA (re_mk (ra_consA (re_c fun _ => .str _) (ra_consA (re_op ro_mulS (re_c fun _ => .str _) re_var) ra_nil))) ra_nil)) re_var))) (rs_ret (re_c fun _ => .bl _)) rs_next)
      (rs_seq (rs_if (rt_or (rt_test (re_op ro_neD (re_mt re_var ra_nil) (re_lst (ra_consA (re_c fun _ => .int _) (ra_consA (re_c fun _ => .int _) (ra_consA re_var ra_nil)))))) (rt_test (re_op ro_ne (re_mt re_var (ra_consA (re_op ro_I0 re_var (re_c fun _ => .int _)) (ra_consA (re_c fun _ => .str _) ra_nil))) re_var))) (rs_ret (re_c fun _ => .bl _)) rs_next)
      (rs_ret (re_op ro_eq (re_CB rc_reprB (ra_cons (re_co re_var (ra_consA (re_mk (ra_consA (re_c fun _ => .str _) (ra_consA (re_c fun _ => .str _) ra_nil))) ra_nil)) ra_nil)) (re_CB rc_reprB (ra_cons (re_op ro_ne re_var (re_c fun _ => .int _)) ra_nil)))))))))))⟩, fun ds Q h => ?_⟩), T.g__law_great_right, F.kp, b⟩
  obtain ⟨rfl, q⟩ := h
  walk_at "ev"
  refine ⟨61, rfl, by omega, by omega, fun d hd => ?_⟩
  walk_at "ev"
  refine ⟨by rw [szl]; omega, _, rfl, .inl ⟨_, rfl, by simp, by simp, fun x hx => ?_⟩⟩
  obtain ⟨top, rfl, htop⟩ : ∃ top : Nat, x = .int (top : Nat) ∧ (top = 9 ∨ top = 10 ∨ top = 12) := by
    rcases List.mem_cons.mp hx with rfl | hx
    · exact ⟨9, rfl, .inl rfl⟩
    rcases List.mem_cons.mp hx with rfl | hx
    · exact ⟨10, rfl, .inr (.inl rfl)⟩
    · rw [List.mem_singleton.mp hx]
      exact ⟨12, rfl, .inr (.inr rfl)⟩
  rw [show (60 : Int) + (d : Nat) = ((60 + d : Nat) : Int) from by omega]
  generalize hn : 60 + d = n
  have n1 : 60 ≤ n := by omega
  have n2 : n ≤ 120 := by omega
  refine lc_map (xs := rgD 0 n) (fun P h => by walk_at "ev"; exact ⟨by omega, by omega, by rw [Int.toNat_natCast]; exact h⟩) rfl (by rw [szl]; simp [rgD]; omega) (fun x => match x with | .int i => .lst (iD (ofN [(i.toNat + 1) % n, 0])) | x => x) (fun i x k k' hx hk => ?_) ?_
  · obtain ⟨hi, rfl⟩ := rgD_get hx
    rw [show (0 : Int) + (i : Nat) = ((i : Nat) : Int) from by omega] at hk ⊢
    unfold lcB
    walk_at "ev"
    exact ⟨by omega, by rw [szl]; omega, hk⟩
  have hrows : (rgD 0 n).map (fun x => match x with | .int i => Da.lst (iD (ofN [(i.toNat + 1) % n, 0])) | x => x) = lD (oN (rndR n)) := by
    unfold rgD rndR
    show List.map _ (List.map _ _) = List.map _ (List.map _ (List.map _ _))
    rw [List.map_map, List.map_map, List.map_map]
    refine List.map_congr_left fun i _ => ?_
    show Da.lst (iD (ofN [((0 + (i : Nat) : Int).toNat + 1) % n, 0])) = Da.lst (iD (ofN [(i + 1) % n, 0]))
    rw [show (0 + (i : Nat) : Int).toNat = i from by omega]
  rw [hrows]
  walk_at "ev"
  refine ⟨abL, rndR n, rfl, rnd_mc (by omega) n2, rnd_met, ?_⟩
  walk_at "ev"
  have htop12 : top ≤ 12 := by omega
  refine lc_map (xs := rgD 0 (n - 1)) (e0 := [.pot, .d (.int (n : Nat)), .d (.int (top : Nat)), .d (.lst (lD (oN (rndR n)))), .u, .u, .u]) (fun P h => ?_) rfl (by rw [szl]; simp [rgD]; omega) (fun _ => .lst (iD (ofN [2, 3]))) (fun i x k k' hx hk => ?_) ?_
  · walk_at "ev"
    refine ⟨by omega, by omega, ?_⟩
    rw [show ((n : Int) - 1).toNat = n - 1 from by omega]
    exact h
  · obtain ⟨hi, rfl⟩ := rgD_get hx
    unfold lcB
    walk_at "ev"
    exact ⟨by rw [szl]; omega, hk⟩
  walk_at "ev"
  have hK : (rgD 0 (n - 1)).map (fun _ => Da.lst (iD (ofN [2, 3]))) ++ [Da.lst [Da.int (top : Nat), Da.int 3]] = lD (oN (rndK n top)) := by
    unfold rgD rndK
    rw [List.map_map]
    simp [oN, lD, ofN, iD]
  have M := rnd_mc (n := n) (by omega) n2
  have R := rnd_rk (n := n) (top := top) (by omega) htop12
  refine ⟨by rw [szl]; omega, by rw [szl]; omega, by rw [szl]; simp [rgD]; omega, abL, rndR n, rndK n top, lD (oN (rndK n top)) |> Da.lst, by rw [← hK]; rfl, M, R, rowsS_lD _, ?_⟩
  have wg : ∀ (h t : List Nat) (r : Nat) (Q' : Da → Prop), (∀ c, c ∈ h ∨ c ∈ t → c ∈ abL) → t ≠ [] → h.length ≤ 8000 → t.length ≤ 8000 → IsTop abL (rndR n) (rndK n top) (wd h t) r → Q' (.int (r : Nat)) →
      R_Word___init K [.str (tx h), .str (tx t)] fun ns es => R_Ranked_greatest K [rkD K abL (rndR n) (rndK n top), .obj (He.ga K "Word") ns es] Q' := fun h t r Q' hin hne h1 h2 hr hq =>
    ⟨h, t, rfl, fun c hc => M.low c (hin c (.inl hc)), fun c hc => M.low c (hin c (.inr hc)), hne, h1, h2, fun b l g1 g2 g3 g4 g5 =>
      ⟨abL, rndR n, rndK n top, b, l, rfl, M, R, fun c hc => M.low c (hin c (g5 c (.inl hc))), fun c hc => M.low c (hin c (g5 c (.inr hc))), fun c hc => hin c (g5 c hc), by omega, by omega, g1, fun r' hr' => by
        rw [show wd b l = wd h t from funext g4] at hr'
        rw [IsTop.uniq hr' hr]
        exact hq⟩⟩
  refine ⟨by decide, wg [] [97] top _ (by simp) (by simp) (by simp) (by simp) (top_a (by omega) (by omega)) ⟨by decide, wg [97] [98] 3 _ (by simp) (by simp) (by simp) (by simp) (top_ab (by omega)) ?_⟩⟩
  have hrep : ∀ k, repS ("a" : Str) k = tx (List.replicate k 97) := fun k => by
    rw [show ("a" : Str) = tx [97] from rfl, rep_tx]
    congr 1
    induction k with
    | zero => rfl
    | succ k ih => rw [List.replicate_succ, List.flatten_cons, ih, List.replicate_succ]; rfl
  rw [hrep, show ((n : Int) - 1).toNat = n - 1 from by omega, show ("b" : Str) = tx [98] from rfl]
  walk_at "ev"
  have la : ("a" : Str).length = 1 := rfl
  have hasb : ∀ c, c ∈ ([] : List Nat) ∨ c ∈ List.replicate (n - 1) 97 ++ [98] → c ∈ abL := fun c hc => by
    rcases hc with z | z
    · cases z
    · rcases List.mem_append.mp z with y | y
      · rw [List.eq_of_mem_replicate y]
        decide
      · rw [List.mem_singleton.mp y]
        decide
  have hbas : ∀ c, c ∈ [98] ∨ c ∈ List.replicate n 97 → c ∈ abL := fun c hc => by
    rcases hc with z | z
    · rw [List.mem_singleton.mp z]
      decide
    · rw [List.eq_of_mem_replicate z]
      decide
  refine ⟨by rw [szl]; omega, by decide, by omega, by rw [la]; omega, by omega, by rw [List.length_replicate, szl]; omega, wg [] (List.replicate (n - 1) 97 ++ [98]) 3 _ hasb (by simp) (by simp) (by simp; omega) (top_asb (by omega)) ?_⟩
  have l3 : (Da.lst [Da.int (top : Nat), Da.int ((3 : Nat) : Int), Da.int ((3 : Nat) : Int)]) = Da.lst (iD (ofN [top, 3, 3])) := rfl
  have l4 : (Da.lst [Da.int (top : Nat), Da.int 3, Da.int 3]) = Da.lst (iD (ofN [top, 3, 3])) := rfl
  rw [l3, l4]
  refine ⟨by rw [szl]; omega, by rw [szl]; omega, plain_ints _, plain_ints _, shaped_iD _, shaped_iD _, ?_⟩
  rw [eqv_iD, if_neg (by simp)]
  rw [hrep, Int.toNat_natCast]
  refine ⟨by decide, by omega, by rw [la]; omega, by omega, wg [98] (List.replicate n 97) top _ hbas (fun e => by
    have := congrArg List.length e
    simp at this
    omega) (by simp) (by simp; omega) (top_b (by omega) (by omega)) ?_⟩
  walk_at "ev"
  refine ⟨rfl, ?_⟩
  rw [if_neg (by simp)]
  refine ⟨by decide, abL, rndR n, rndK n top, rfl, M, R, fun u hu1 hu2 => ?_⟩
  have hu : u = [2, 3, top] := sorted_uniq hu1 (by simp; omega) fun k => (hu2 k).trans (rnd_used (by omega) k)
  subst hu
  have l5 : (Da.lst [Da.int 2, Da.int 3, Da.int (top : Nat)]) = Da.lst (iD (ofN [2, 3, top])) := rfl
  rw [l5]
  refine ⟨by rw [szl]; omega, plain_ints _, plain_ints _, shaped_iD _, shaped_iD _, ?_⟩
  rw [eqv_iD, if_neg (by simp)]
  refine ⟨by decide, abL, rndR n, rndK n top, n - 1, 97, ?_, M, R, by rw [rnd_len]; omega, by decide, ?_⟩
  · rw [show ((n - 1 : Nat) : Int) = (n : Int) - 1 from by omega]
    rfl
  rw [show rkOf (rndK n top) (n - 1, abL.idxOf 97) = top from by
    rw [show abL.idxOf 97 = 0 from by decide, rk_a (by omega), if_pos rfl]]
  walk_at "ev"
  refine ⟨rfl, ?_⟩
  rw [if_neg (by simp)]
  refine ⟨[], [97], rfl, by unfold Low; decide, by unfold Low; decide, by simp, by simp, by simp, fun b' l' g1 g2 g3 g4 g5 => ?_⟩
  have hin' : ∀ c, c ∈ b' ∨ c ∈ l' → c ∈ abL := fun c hc => by
    rcases g5 c hc with z | z
    · cases z
    · rw [List.mem_singleton.mp z]
      decide
  refine ⟨abL, rndR n, rndK n top, b', l', rfl, M, R, fun c hc => M.low c (hin' c (.inl hc)), fun c hc => M.low c (hin' c (.inr hc)), hin', by rw [List.length_nil] at g2; omega, by rw [List.length_singleton] at g3; omega, g1, fun r' hr' => ?_⟩
  rw [show wd b' l' = wd [] [97] from funext g4] at hr'
  rw [IsTop.uniq hr' (top_a (by omega) (by omega))]
  walk_at "ev"
  refine ⟨rfl, by split <;> split <;> rfl, ?_⟩
  have fin : Da.bl (decide (V.str (if decide (top % 2 = 0) = true then Str.ofString "True" else Str.ofString "False") = V.str (if (!decide (V.int (top : Nat) = V.int 9)) = true then Str.ofString "True" else Str.ofString "False"))) = .bl true := by
    rcases htop with e | e | e <;> rw [e] <;> rfl
  rw [fin]
  exact q
end
end RK
-- R0
set_option Elab.async false
set_option linter.all false
set_option maxRecDepth 100000
set_option maxHeartbeats 4000000
/-! R0: new rows in a new list: what may be changed without effect on what is known -/
namespace RK
open PySem PySem.Spec PyProof.Rows L2
/-- p: a new list of the new lists qs, which hold rows -/
structure NewRows (H H' : Hp) (p : Addr) (qs : List Addr) (rows : List (List Int)) : Prop where
  same : Same H H'
  pn : H p = none
  pl : H' p = some (.lst (qs.map V.ref))
  len : qs.length = rows.length
  rw_ : ∀ (j : Nat) (q : Addr) (r : List Int), qs[j]? = some q → rows[j]? = some r → H q = none ∧ q ≠ p ∧ H' q = some (.lst (r.map V.int))
  nd : qs.Nodup
/-- the rows of a list or a tuple, as they stand -/
def RowsAt (K : PySem.W.Frag) (H : Hp) (us : List V) (rows : List (List Int)) : Prop := us.length = rows.length ∧ ∀ (j : Nat) (u : V) (r : List Int), us[j]? = some u → rows[j]? = some r → ∃ q : Addr, u = .ref q ∧ (SqL K H q (r.map V.int) ∨ SqT K H q (r.map V.int))
theorem same_seqT {K : PySem.W.Frag} {H H' : Hp} {a : Addr} {xs : List V} (e : Same H H') (h : SqT K H a xs) : SqT K H' a xs := by
  rcases h with (h | ⟨o, h⟩) | h
  · exact .inl (.inl (e _ _ h))
  · exact .inl (.inr ⟨o, e _ _ h⟩)
  · exact .inr h
theorem RowsAt.mono {K : PySem.W.Frag} {H H' : Hp} {us : List V} {rows : List (List Int)} (e : Same H H') (h : RowsAt K H us rows) : RowsAt K H' us rows :=
  ⟨h.1, fun j u r e1 e2 => by
    obtain ⟨q, h1, h2⟩ := h.2 j u r e1 e2
    exact ⟨q, h1, h2.imp e.seq (same_seqT e)⟩⟩
theorem NewRows.snoc {H H' : Hp} {D : Addr} {qs : List Addr} {rows : List (List Int)} {q : Addr} {r : List Int} (h : NewRows H H' D qs rows) (hq : H' q = none) :
    NewRows H (upd (upd H' q (.lst (r.map V.int))) D (.lst (qs.map V.ref ++ [V.ref q]))) D (qs ++ [q]) (rows ++ [r]) := by
  have hqD : q ≠ D := fun z => by
    rw [z, h.pl] at hq
    cases hq
  have hqn : H q = none := h.same.free hq
  have nq : ∀ q' ∈ qs, q' ≠ q := fun q' hm z => by
    obtain ⟨j, hj⟩ := List.getElem?_of_mem hm
    have hjl : j < rows.length := by rw [← h.len]; exact (List.getElem?_eq_some_iff.mp hj).1
    obtain ⟨_, _, h3⟩ := h.rw_ j q' _ hj (List.getElem?_eq_getElem hjl)
    rw [z, hq] at h3
    cases h3
  refine ⟨fun b o e => ?_, h.pn, ?_, by rw [List.length_append, List.length_append, h.len]; rfl, fun j q' r' e1 e2 => ?_, ?_⟩
  · rw [upd_ne (ne_of_none e h.pn), upd_ne (ne_of_none e hqn)]
    exact h.same b o e
  · rw [upd_same, List.map_append]
    rfl
  · by_cases hj : j < qs.length
    · rw [List.getElem?_append_left hj] at e1
      rw [List.getElem?_append_left (by rw [← h.len]; exact hj)] at e2
      obtain ⟨h1, h2, h3⟩ := h.rw_ j q' r' e1 e2
      refine ⟨h1, h2, ?_⟩
      rw [upd_ne h2, upd_ne (nq q' (List.mem_of_getElem? e1))]
      exact h3
    · rw [List.getElem?_append_right (by omega)] at e1
      rw [List.getElem?_append_right (by rw [← h.len]; omega), ← h.len] at e2
      cases hk : j - qs.length with
      | zero =>
        rw [hk] at e1 e2
        cases e1
        cases e2
        refine ⟨hqn, hqD, ?_⟩
        rw [upd_ne hqD, upd_same]
      | succ k =>
        rw [hk] at e1
        cases e1
  · refine List.nodup_append.mpr ⟨h.nd, by simp, fun a ha b hb z => ?_⟩
    rw [List.mem_singleton.mp hb] at z
    exact nq a ha z
theorem wipe_wipe (σ : L2.St) (vs : List Nat) : wipe (wipe σ vs) vs = wipe σ vs := by
  apply List.ext_getElem?
  intro j
  rw [wipe_get, wipe_get, wipe_length]
  by_cases hj : j ∈ vs <;> simp [hj]
/-- list(x), as call_list_of reads it -/
abbrev rLo (K : PySem.W.Frag) : List V → Hp → VK → Prop := fun xs H Q => ∃ p ys, xs = [.ref p] ∧ (SqL K H p ys ∨ SqT K H p ys) ∧ ∀ l, H l = none → Q (.ref l) (upd H l (.lst ys))
/-- [list(row) for row in X] -/
theorem cp_rows {K : PySem.W.Frag} {i : Nat} {vs : List Nat} {a : Addr} {us : List V} {rows : List (List Int)} {σ : L2.St} {H : Hp} {Q : VK} {wi : TI} (hi : i ∈ vs) (hil : i < σ.length) (hr : RowsAt K H us rows) (hn : us.length < sizeLine)
    (hw : ∀ R : It → Hp → Prop, ((SqL K H a us → R (Itl K a) H) ∧ (SqT K H a us → R (Itt K a) H)) → wi σ H R) (hs : SqL K H a us ∨ SqT K H a us)
    (hq : ∀ p qs H', NewRows H H' p qs rows → Q (.ref p) H') : tLc wi (gName i) tYes (tCB (rLo K) (tCons (tVar i) tNil)) vs σ H Q := by
  refine hw _ ?_
  have key : ∀ D, H D = none → ∀ j x H', us[j]? = some x → (∃ qs, NewRows H H' D qs (rows.take j)) → gName i x (wipe σ vs) H' fun σ2 H2 => wipe σ2 vs = wipe σ vs ∧ tYes σ2 H2 fun b H3 =>
      if b = true then tCB (rLo K) (tCons (tVar i) tNil) σ2 H3 fun y H4 => ∃ acc, H4 D = some (.lst acc) ∧ acc.length < sizeLine ∧ (∃ qs, NewRows H (upd H4 D (.lst (acc ++ [y]))) D qs (rows.take (j + 1))) else (∃ qs, NewRows H H3 D qs (rows.take (j + 1))) := by
    intro D hD j x H' hx ⟨qs, hN⟩
    have hjl : j < rows.length := by rw [← hr.1]; exact (List.getElem?_eq_some_iff.mp hx).1
    have hrj := List.getElem?_eq_getElem hjl
    obtain ⟨q, rfl, hq1⟩ := hr.2 j x _ hx hrj
    refine ⟨(wipe_set hi).trans (wipe_wipe σ vs), ?_⟩
    simp only [tYes, if_true]
    refine ⟨.ref q, by rw [List.getElem?_set_self (by rw [wipe_length]; exact hil)], q, _, rfl, hq1.imp hN.same.seq (same_seqT hN.same), fun l hl => ?_⟩
    have hlD : D ≠ l := fun z => by
      rw [← z, hN.pl] at hl
      cases hl
    refine ⟨qs.map V.ref, by rw [upd_ne hlD]; exact hN.pl, ?_, qs ++ [l], ?_⟩
    · rw [List.length_map, hN.len, List.length_take]
      have := hr.1
      omega
    · rw [List.take_add_one, hrj]
      exact hN.snoc hl
  have z0 : ∀ D, H D = none → ∃ qs, NewRows H (upd H D (.lst [])) D qs (rows.take 0) := fun D hD => ⟨[], same_upd hD, hD, upd_same, by simp, fun j q r e => by simp at e, by simp⟩
  have hd : ∀ D H', (∃ qs, NewRows H H' D qs (rows.take us.length)) → Q (.ref D) H' := fun D H' ⟨qs, hN⟩ => by
    rw [hr.1, List.take_length] at hN
    exact hq D qs H' hN
  exact ⟨fun hL D hD => lc_list (K := K) (a := a) (xs := us) (fun j H' => ∃ qs, NewRows H H' D qs (rows.take j)) (z0 D hD) (fun j H' _ ⟨qs, hN⟩ => hN.same.seq hL) (key D hD) (hd D),
    fun hT D hD => lc_tup (K := K) (a := a) (xs := us) (fun j H' => ∃ qs, NewRows H H' D qs (rows.take j)) (z0 D hD) (fun j H' _ ⟨qs, hN⟩ => same_seqT hN.same hT) (key D hD) (hd D)⟩
/-- data that are rows stand so -/
theorem rows_lD {K : PySem.W.Frag} {G H : Hp} (s : Same G H) : ∀ {us : List V} {rows : List (List Int)}, Ats K G us (lD rows) → RowsAt K H us rows
  | us, rows, h => by
    refine ⟨by rw [h.length, List.length_map], fun j u r e1 e2 => ?_⟩
    obtain ⟨v, e3, av⟩ := h.get (i := j) (d := .lst (iD r)) (by rw [List.getElem?_map, e2]; rfl)
    rw [e1] at e3
    cases e3
    cases av with
    | lst g a => exact ⟨_, rfl, .inl (.of (by rw [← a.ints]; exact s _ _ g))⟩
section
variable {P : Program} {w : World} {K : PySem.W.Frag} {mg : Str → Option Value} {base : Heap}
/-- ranks(): the rows are new -/
def spRows (K : PySem.W.Frag) : Pr := fun vs H Q => ∃ (G : Hp) (ls : List Nat) (rows ranks : List (List Nat)), Same G H ∧ Ats K G vs [rkD K ls rows ranks] ∧ ranks.length ≤ 1000 ∧ ∀ p qs H', NewRows H H' p qs (oN ranks) → Q (.ref p) H'
theorem ok_Ranked_ranksF (T : Txt K mg) : Dm P w K mg base (He.ga K "Ranked") "ranks" 1 ["self"] (spRows K) := by
  obtain ⟨fd, F, b, b2⟩ := q_Ranked_ranks T
  refine ⟨_, fd, okG F sc_Ranked_ranks (fun vs H Q ⟨G, ls, rows, ranks, _, a, _⟩ => by rw [a.length]; rfl) (fun cdv A outer s H vs Q hr h => ⟨tRet (tLc (iList K (tFld K (tVar 0) "own_ranks")) (gName 1) tYes (tCB (rLo K) (tCons (tVar 1) tNil)) [1]),
      (pss_one (ps_ret (pe_lc (own := [("row", 1)]) (g := gName 1) (tt := tYes) rfl sc_Ranked_ranks.nd (pi_list (pe_fld (pv 0) rfl)) (blkOk_by (by kernel_rfl)) (fun _ _ _ _ _ => (pg_name (i := 1) sc_Ranked_ranks.nd rfl (Or.inl rfl))) (fun _ _ _ _ _ => pts_nil) (fun _ _ _ _ _ => by exact (pe_callTy call_list_of (by rfl) T.z_list boot_list (pa_cons (pv 1) pa_nil)))))), ?_⟩), T.me_Ranked_ranks, b, b2⟩
  obtain ⟨G, ls, rows, ranks, g, a, hl, q⟩ := h
  cases a with
  | cons a0 t =>
    cases t
    cases a0 with
    | @obj x C dx fs ns ds hg hk hv =>
      obtain ⟨v, ev, av⟩ := lkF_val (f := "own_ranks") (d := .lst (lD (oN ranks))) hk hv rfl
      cases av with
      | @lst p us _ gp au =>
        have hlen : us.length = ranks.length := by rw [au.length]; simp [lD, oN]
        exact cp_rows (a := p) (us := us) (by simp) (by simp [L2.start]) (rows_lD g au) (by rw [hlen, szl]; omega)
          (fun R hR => ⟨_, rfl, _, _, _, _, _, rfl, g _ _ hg, T.cl_Ranked, T.na_Ranked_own_ranks, ev, _, rfl, ⟨_, .of (g _ _ gp)⟩, hR.1 (.of (g _ _ gp))⟩) (.inl (.of (g _ _ gp))) q
end
end RK
-- R1
set_option Elab.async false
set_option linter.all false
set_option maxRecDepth 100000
set_option maxHeartbeats 4000000
namespace RK
open PySem PySem.Spec PyProof.Rows L2
/-! R1: calls that give new lists (used) and new rows (ranks); told lists that are changed -/
section
variable {K : PySem.W.Frag} {ta : TA} {da : DAT} {te : TE} {de : DT} {t u : TS} {d e : DTS}
/-- a def that gives a new list -/
def spF (K : PySem.W.Frag) (R : RR) : Pr := fun vs H Q => ∃ (G : Hp) (ds : List Da) (P : Da → Prop), Same G H ∧ Ats K G vs ds ∧ R ds P ∧
  ∀ p us xs H' G', P (.lst xs) → Same H H' → Same G G' → Same G' H' → (∀ b, G b = none → H b ≠ none → G' b = none) → H p = none → G' p = none → H' p = some (.lst us) → Ats K G' us xs → Q (.ref p) H'
structure EndsF (K : PySem.W.Frag) (c : Ctx) (De : DEn) (D : Ends) : Prop where
  rt : ∀ p us xs G σ H env, Stt K c G σ H env → c.H0 p = none → G p = none → H p = some (.lst us) → Ats K G us xs → De.rt (.lst xs) env → D.rt (.ref p) H
def RSF (K : PySem.W.Frag) (t : TS) (d : DTS) : Prop := ∀ (c : Ctx) (G : Hp) (σ : L2.St) (H : Hp) (env : En) (De : DEn) (D : Ends), Stt K c G σ H env → d De env → EndsF K c De D → t D σ H
/-- what it gives is a new list -/
def REF (K : PySem.W.Frag) (t : TE) (d : DT) : Prop := ∀ (c : Ctx) (G : Hp) (σ : L2.St) (H : Hp) (env : En) (P : RV → En → Prop) (Q : VK), Stt K c G σ H env → d env P →
  (∀ p us xs G' H' env', Stp K c G σ H env G' H' env' → H p = none → G' p = none → H' p = some (.lst us) → Ats K G' us xs → P (.fl xs) env' → Q (.ref p) H') → t σ H Q
def dSeqF (d e : DTS) : DTS := fun De env => d { nx := e De, rt := fun _ _ => False } env
def dRetF (de : DT) : DTS := fun De env => de env fun r e1 => match r with
  | .fl xs => De.rt (.lst xs) e1
  | _ => False
theorem rsf_seq (a : RS K t d) (b : RSF K u e) : RSF K (tSeq t u) (dSeqF d e) := by
  intro c G σ H env De D S h ok
  exact a c G σ H env _ _ S h ⟨fun G1 σ1 H1 e1 S1 h1 => b c G1 σ1 H1 e1 De D S1 h1 ok, fun _ _ _ _ _ _ _ _ h => False.elim h, fun _ _ _ _ _ h => False.elim h, fun _ _ _ _ _ h => False.elim h⟩
theorem rsf_ret (a : REF K te de) : RSF K (tRet te) (dRetF de) := by
  intro c G σ H env De D S h ok
  refine a c G σ H env _ _ S h fun p us xs G1 H1 e1 T1 hn gn hp av h1 => ?_
  exact ok.rt p us xs G1 σ H1 e1 T1.st (S.h0 hn) gn hp av h1
theorem ref_sortedSet (a : RE K te de) : REF K (tSS K te) (dSS de) := by
  intro c G σ H env P Q S h post
  refine a c G σ H env _ _ S h fun v r G1 H1 e1 T1 w1 h1 => ?_
  obtain ⟨xs, ex, ns, rfl, hl, hsm, h2⟩ := onL_some h1
  obtain ⟨p, us, rfl, hp, au⟩ := vL_at T1.st w1 ex
  refine ⟨p, ns, rfl, .of (by rw [← au.ints]; exact hp), hl, hsm, fun ns' p' H' h3 h4 hs hn hp' => ?_⟩
  have hn0 : H p' = none := by
    cases z : H p' with
    | none => rfl
    | some x => exact absurd hn (T1.al p' (by rw [z]; exact nn))
  have T2 : Stp K c G1 σ H1 e1 G1 H' e1 := Stp.ext T1.st (Same.refl _) (T1.st.gh.trans hs) (fun _ _ z => z) hs
  exact post p' _ _ G1 H' e1 (T1.trans T2) hn0 (T1.st.free hn) hp' (Ats.ofInts ns') (h2 ns' h3 h4)
/-- o.m(..) that gives a new list -/
def dMtF (C : Addr) (m : Str) (R : RR) (dd : DT) (da : DAT) : DT := fun env P => dd env fun r e1 => onObj C r fun ns es => m ∉ ns ∧ da e1 fun rs e2 => onO (dasOf rs) fun ds => R (.obj C ns es :: ds) fun d => match d with
  | .lst xs => P (.fl xs) e2
  | _ => False
theorem re_mtF {R : RR} {C : Addr} {m : Str} (o : RE K te de) (a : RA K ta da) : RE K (tMt C m (spF K R) te ta) (dMtF C m R de da) := by
  intro c G σ H env P Q S h post
  refine o c G σ H env _ _ S h fun v r G1 H1 e1 T1 w1 h1 => ?_
  obtain ⟨ns, es, rfl, hm, h2⟩ := onObj_some h1
  obtain ⟨p, dx, fs, rfl, hp, hk, hv, ao⟩ := obj_at (c := c) w1
  subst hk
  refine ⟨p, dx, fs, rfl, T1.st.gh _ _ hp, lookup_none hm, ?_⟩
  refine a c G1 σ H1 e1 _ _ T1.st h2 fun vs rs G2 H2 e2 T2 w2 h3 => ?_
  obtain ⟨ds, ed, h4⟩ := onO_some h3
  refine ⟨G2, _, _, T2.st.gh, .cons (ao.mono T2.gg) (w2.dasOf ed), h4, fun q us xs H' G' hp' hh gg gh gf hn gn hq av => ?_⟩
  have T3 : Stp K c G2 σ H2 e2 G' H' e2 := Stp.ext T2.st gg gh (fun b e1 e2 => gf b e2 e1) hh
  have T := (T1.trans T2).trans T3
  have hn0 : H q = none := by
    cases z : H q with
    | none => rfl
    | some x => exact absurd hn ((T1.trans T2).al q (by rw [z]; exact nn))
  exact post _ _ G' H' e2 T (.fl hn0 gn hq av fun i w => T2.st.notOwn hn i ((T3.ow i q).mp w)) hp'
end
section
variable {P : Program} {w : World} {K : PySem.W.Frag} {mg : Str → Option Value} {base : Heap}
theorem okF {x qual : Str} {st : Stmt} {f : Addr} {fd : FuncData} {N ps : List Str} {k : Nat} {R : RR} (F : Fun K x qual st f fd) (S : FnScope N ps (defScope st)) (len : ∀ ds P, R ds P → ds.length = ps.length) (hN : ps.length ≤ N.length)
    (hbody : ∀ (cdv : Value) (A : Around) (outer : List Env) (s : Shared) (H : Hp), RG k (A.deeper (envOfC qual (defScope st) s.heap.objs.size f cdv)) →
      ∃ t d, (PSs (cxOf CX0 P w K mg base N qual (defScope st) f cdv A outer s H E0).nox (defBody st) t ∧ RSF K t d) ∧ ∀ ds Q, R ds Q → d { nx := fun _ => False, rt := fun v _ => Q v } (startE N (ds.map Sl.d))) : FnG P w K mg base (k + 1) f fd ps (spF K R) := by
  refine okG F S (fun vs H Q ⟨G, ds, P', _, a, r, _⟩ => by rw [a.length]; exact len ds P' r) fun cdv A outer s H vs Q hr ⟨G, ds, P', g, a, r, q⟩ => ?_
  obtain ⟨t, d, D, hd⟩ := hbody cdv A outer s H hr
  have hl : vs.length = (ds.map Sl.d).length := by rw [a.length, List.length_map]
  refine ⟨t, D.1, D.2 ⟨H, G, fun _ => False⟩ G (L2.start N vs) H _ _ _ (start_stt hl (by rw [List.length_map, len ds P' r]; exact hN) g rfl (fun i s' e => ?_) fun i j s' t' p e1 _ o1 _ _ _ => ?_) (hd ds P' r) ⟨fun p us xs G1 σ1 H1 e1 S1 hn gn hp av h1 => ?_⟩⟩
  · rw [List.getElem?_map, Option.map_eq_some_iff] at e
    obtain ⟨d, hd, rfl⟩ := e
    obtain ⟨v, hv, av⟩ := a.get hd
    exact ⟨v, hv, v, rfl, av⟩
  · rw [List.getElem?_map, Option.map_eq_some_iff] at e1
    obtain ⟨d, hd, rfl⟩ := e1
    cases o1
  · exact q p us xs H1 G1 h1 (fun b o e => S1.base b o e (fun z => z)) S1.g0 S1.gh S1.gf hn gn hp av
local macro_rules
  | `(tactic| walk_at "ev") => `(tactic| try simp only [dVar, dC, dOp, dUn, kII, kIB, kI0, kSS, kAddS, kSign, flD, kEq, vS, onS, kIn, dasOf, dNil, dCons, dConsA, dTup, dLst, dAnd, dOr, dNot, dB, dAndT, dOrT, dNotT, dIf, dChain, kIx, dNoPart, dPart, dSlS, dSlL, dRev, dCB, k1, k2, lenD, kLen, kAll, kMax, kMM, kAbs, kInt, kList, kTuple, kSortI, kDivmod, onO, onDa, onInt, onBl, onStr, vL, onL, onT, vM, onM, toDa, dDGet, dDIn, dDGet2, dBM, dBM0, dBMS, onOwn, kAppend, kExtend, kPop, kPopAt, kClear, kIndex, kCount, kSIndex, lkF, dFld, dLR, dRg1, dRg2, dJoin, rvS, dgName, dgNil, dgCons, dgTup, diL, diT, diS, diR1, diR2, onLd, diZ, diE, diZSS, diZSL, diET, dNext, dSeq, dDrop, rtD, dRet, dRetN, dIfS, dNever, dSet, dAsg, dPar, dPar3, dFldS, dDPut, dFrz, dYes, startE, dCall, dCallM, isPot, dCallP, dMk, onObj, dMt, dPp, dCO, dRevA, kInv, kNeg, kLenO, kReprO, dFmtO, dFmtR, vD, kReprD, kReprB, dFmtD, kEqD, kCat, kCatT, clV, kIsi, kIsiT, kEqO, dCval, dCon, dJs, dJoined, diQ, diEQ, dLZ, kMulS, kSumL, dSS, kSortTs, dDisp1, dSeqF, dRetF, dMtF, fInt, fBool, fStr, fList, fSeq,
      List.map_cons, List.map_nil, List.cons_append, List.nil_append, List.length_cons, List.length_nil, List.replicate_succ, List.replicate_zero, List.append_nil, Nat.reduceAdd, Nat.reduceSub, Nat.zero_add, Nat.sub_self,
      List.getElem?_cons_zero, List.getElem?_cons_succ, List.getElem?_nil, List.set_cons_zero, List.set_cons_succ, Option.map_some, Option.map_none, List.reverse_cons, List.reverse_nil, Bool.not_true, Bool.not_false, Bool.false_eq_true, if_true, if_false, true_and, and_true, reduceCtorEq, wipeE, noOwn, Sl.own, List.all_cons, List.all_nil, Bool.and_true, Bool.true_and, Bool.and_self, List.length_map, List.not_mem_nil, not_false_eq_true, cx_K, cx_Kn, sn1, sn2, sn3, sn4, sn5, sgD, tx_list, tx_len, tx_app, tx_cut])
theorem ok_Ranked_usedF (T : Txt K mg) : Dm P w K mg base (He.ga K "Ranked") "used" 5 ["self"] (spF K (R_Ranked_used K)) := by
  obtain ⟨fd, F, b, b2⟩ := q_Ranked_used T
  refine ⟨_, fd, okF F sc_Ranked_used (by rintro ds Q ⟨ls, rows, ranks, rfl, M, R, q⟩; rfl) (by decide) (fun cdv A outer s H hr => ⟨_, _, ⟨
      (pss_cons (ps_set (i := 1) sc_Ranked_used.nd rfl (Or.inl rfl) (pe_lst pa_nil))
      (pss_cons (ps_for PassesOwn.never rfl (pi_list (pe_callD (ok_parts T) hr (pa_cons (pe_fld (pv 0) rfl) pa_nil))) (pg_name (i := 2) sc_Ranked_used.nd rfl (Or.inr rfl))
      (pss_one (ps_expr (pe_bm PySem.F.plainAttrs_list PySem.F.slot_list_extend PySem.F.type_list_extend mt_extend (pv 1) (pa_cons (pe_lc (own := [("start", 3), ("goal", 4), ("rank", 5)]) (g := gTup _ 3 (gCons (gName 3) (gCons (gName 4) (gCons (gName 5) gNil)))) rfl sc_Ranked_used.nd (pi_list (pe_callD (ok_links_of T) hr (pa_cons (pv 0) pa_nil))) (blkOk_by (by kernel_rfl)) (fun _ _ _ _ _ => (pg_tup (n := 3) (by rfl) (pgs_cons (pg_name (i := 3) sc_Ranked_used.nd rfl (Or.inl rfl)) (pgs_cons (pg_name (i := 4) sc_Ranked_used.nd rfl (Or.inl rfl)) (pgs_cons (pg_name (i := 5) sc_Ranked_used.nd rfl (Or.inl rfl)) pgs_nil))))) (fun _ _ _ _ _ => pts_one (PW.pt (pw_and (pt_cmpR op_in_seq (pv 3) (pv 2) rfl) (pw_and1 (pt_cmpR op_in_seq (pv 4) (pv 2) rfl))))) (fun _ _ _ _ _ => by exact (pv 5))) pa_nil)))))
      (pss_one (ps_ret (pe_sortedSet rfl (by rfl) T.z_sorted (by rfl) T.z_set (pv 1)))))),
      (rsf_seq (rs_set 1 (re_lst ra_nil))
      (rsf_seq (rs_for (ri_list (re_call (ra_consA (re_fld T.cl_Ranked T.na_Ranked_own_machine re_var) ra_nil))) (rg_name 2)
      (rs_drop (re_bm rm_extend re_var (ra_cons (re_lc (ri_list (re_call (ra_consA re_var ra_nil))) (rg_tup (n := 3) (rgs_cons (rg_name 3) (rgs_cons (rg_name 4) (rgs_cons (rg_name 5) rgs_nil)))) (rt_and (rt_test (re_op (ro_inN false) re_var re_var)) (rt_test (re_op (ro_inN false) re_var re_var))) re_var (by decide)) ra_nil))))
      (rsf_ret (ref_sortedSet re_var))))⟩, fun ds Q h => ?_⟩), T.me_Ranked_used, b, b2⟩
  obtain ⟨ls, rows, ranks, rfl, M, R, q⟩ := h
  have hn := M.n2
  have hl3 := M.l3
  have hLl : (lkN rows ranks rows.length).length ≤ 360 := by
    have h1 := lkD_len M R rows.length (Nat.le_refl _)
    rw [lkD_N, List.length_map] at h1
    have : rows.length * ls.length ≤ 120 * 3 := Nat.mul_le_mul (by omega) (by omega)
    omega
  walk_at "ev"
  refine ⟨by rw [szl]; omega, ?_⟩
  unfold dFor
  walk_at "ev"
  refine ⟨ls, rows, rfl, M, fun gs hg => ?_⟩
  have hfl : ∀ i, ((gs.take i).flatMap (grR (lkN rows ranks rows.length))).length ≤ 360 := fun i => by
    refine Nat.le_trans (grR_len _ (List.Pairwise.sublist (List.take_sublist i gs) hg.2.2)) (Nat.le_trans (List.countP_le_length) hLl)
  refine ⟨fun i e => ∃ t1 : Sl, (t1 = .u ∨ ∃ d, t1 = .d d) ∧ e = [.d (rkD K ls rows ranks), .l (iD (ofN ((gs.take i).flatMap (grR (lkN rows ranks rows.length))))), t1, .u, .u, .u], ⟨.u, .inl rfl, rfl⟩, fun i x e hx hI => ?_, fun e hI => ?_⟩
  · obtain ⟨t1, _, rfl⟩ := hI
    rw [List.getElem?_map, List.getElem?_map, Option.map_eq_some_iff] at hx
    obtain ⟨gr0, hgr0, rfl⟩ := hx
    obtain ⟨gr, hgr, rfl⟩ := Option.map_eq_some_iff.mp hgr0
    have h6 := hfl i
    have h7 := hfl (i + 1)
    have ht : (gs.take (i + 1)).flatMap (grR (lkN rows ranks rows.length)) = (gs.take i).flatMap (grR (lkN rows ranks rows.length)) ++ grR (lkN rows ranks rows.length) gr := by
      rw [List.take_add_one, hgr, List.flatMap_append]
      simp
    rw [ht, List.length_append] at h7
    walk_at "ev"
    refine lc_open ?_
    walk_at "ev"
    refine ⟨ls, rows, ranks, rfl, M, R, ?_⟩
    rw [lkD_N]
    refine lc_fm_in rfl (by rw [List.length_map, szl]; omega) (fun x => match x with | .tup [.int a, .int b, .int c] => if decide (a.toNat ∈ gr) && decide (b.toNat ∈ gr) then some (.int c) else none | _ => none) (fun j x k k' hx hk hk' => ?_) ?_
    · obtain ⟨⟨p, g, r⟩, he, rfl⟩ := List.mem_map.mp (List.mem_of_getElem? hx)
      unfold lcB triD
      walk_at "ev"
      refine ⟨ofN gr, rfl, ?_⟩
      rw [in_ofN]
      by_cases hp : p ∈ gr
      · rw [decide_eq_true hp, if_pos rfl]
        refine ⟨ofN gr, rfl, ?_⟩
        rw [in_ofN]
        by_cases hg2 : g ∈ gr
        · rw [decide_eq_true hg2]
          walk_at "ev"
          exact hk _ (if_pos (by simp [hp, hg2]))
        · rw [decide_eq_false hg2]
          walk_at "ev"
          exact hk' (if_neg (by simp [hg2]))
      · rw [decide_eq_false hp]
        walk_at "ev"
        exact hk' (if_neg (by simp [hp]))
    · have hres : ((lkN rows ranks rows.length).map triD).filterMap (fun x => match x with | .tup [.int a, .int b, .int c] => if decide (a.toNat ∈ gr) && decide (b.toNat ∈ gr) then some (.int c) else none | _ => none) = iD (ofN (grR (lkN rows ranks rows.length) gr)) := by
        unfold grR
        generalize lkN rows ranks rows.length = L
        induction L with
        | nil => rfl
        | cons e L ih =>
          obtain ⟨p, g, r⟩ := e
          rw [List.map_cons, List.filterMap_cons, ih, List.filter_cons]
          simp only [triD, Int.toNat_natCast]
          by_cases hc : (decide (p ∈ gr) && decide (g ∈ gr)) = true
          · rw [if_pos hc, if_pos hc]
            rfl
          · rw [if_neg hc, if_neg hc]
      rw [hres]
      walk_at "ev"
      refine ⟨(fun z => nomatch z), by rw [szl]; omega, _, .inr ⟨.tup (iD (ofN gr)), rfl⟩, ?_⟩
      rw [ht]
      simp only [ofN, iD, List.map_append]
  · obtain ⟨t1, _, rfl⟩ := hI
    have h6 := hfl gs.length
    rw [List.take_length] at h6
    rw [List.length_map, List.length_map, List.take_length]
    walk_at "ev"
    refine ⟨_, rfl, by rw [List.length_map]; omega, fun l hnd hl => ?_, fun ns' hs hm => ?_⟩
    · have h8 := nodup_len 13 (l.map Int.toNat) ?_ ?_
      · rw [List.length_map] at h8
        omega
      · show List.Pairwise (· ≠ ·) _
        rw [List.pairwise_map]
        refine List.Pairwise.imp_of_mem ?_ hnd
        intro a b ha hb hab e
        obtain ⟨a', _, rfl⟩ := List.mem_map.mp (hl a ha)
        obtain ⟨b', _, rfl⟩ := List.mem_map.mp (hl b hb)
        exact hab (congrArg Int.ofNat e)
      · intro x hx
        obtain ⟨y, hy, rfl⟩ := List.mem_map.mp hx
        obtain ⟨a, ha, rfl⟩ := List.mem_map.mp (hl y hy)
        obtain ⟨p, i, g, hp, h1, h2, _⟩ := (used_is hg a).mp ha
        have := R.rb _ (row_mem (rows := ranks) (p := p) (by rw [R.n]; exact hp)) a (List.mem_of_getElem? h2)
        show (Int.ofNat a).toNat < 13
        simp
        omega
    · have hns : ns' = ofN (ns'.map Int.toNat) := by
        show ns' = List.map _ (List.map _ ns')
        rw [List.map_map]
        have : ∀ y ∈ ns', ((fun n : Nat => Int.ofNat n) ∘ Int.toNat) y = y := fun y hy => by
          obtain ⟨a, _, rfl⟩ := List.mem_map.mp ((hm y).mp hy)
          rfl
        rw [List.map_congr_left this, List.map_id']
      rw [hns]
      refine q _ ?_ fun k => ?_
      · rw [List.pairwise_map]
        refine List.Pairwise.imp_of_mem ?_ hs
        intro a b ha hb hab
        obtain ⟨a', _, rfl⟩ := List.mem_map.mp ((hm a).mp ha)
        obtain ⟨b', _, rfl⟩ := List.mem_map.mp ((hm b).mp hb)
        exact Int.ofNat_lt.mp hab
      · rw [← used_is hg k]
        have h9 := hm (k : Int)
        rw [mem_ofN] at h9
        rw [← h9]
        constructor
        · intro hk
          obtain ⟨y, hy, rfl⟩ := List.mem_map.mp hk
          obtain ⟨a, _, rfl⟩ := List.mem_map.mp ((hm y).mp hy)
          exact hy
        · intro hk
          exact List.mem_map.mpr ⟨(k : Int), hk, rfl⟩
end
end RK
-- R2
set_option Elab.async false
set_option linter.all false
set_option maxRecDepth 100000
set_option maxHeartbeats 4000000
/-! R2: told = o.ranks(); if ..: return; told[-1].append(0); told.append([]) -/
namespace RK
open PySem PySem.Spec PyProof.Rows L2
section
variable {K : PySem.W.Frag} {c : Ctx} {G H H' : Hp} {σ : L2.St} {env : En}
theorem Stt.reset (S : Stt K c G σ H env) (i : Nat) (no : ∀ (j : Nat) (s : Sl), j ≠ i → env[j]? = some s → s.own = false) (k : Same H H') (v : Option V) : Stt K c G (σ.set i v) H' (env.set i .u) := by
  have none_own : ∀ (j : Nat) (s : Sl), (env.set i .u)[j]? = some s → s.own = false := fun j s e => by
    by_cases hj : j = i
    · subst hj
      by_cases hl : j < env.length
      · rw [List.getElem?_set_self hl] at e
        cases e
        rfl
      · rw [List.getElem?_eq_none (by rw [List.length_set]; omega)] at e
        cases e
    · rw [List.getElem?_set_ne (Ne.symm hj)] at e
      exact no j s hj e
  refine ⟨by rw [List.length_set, List.length_set]; exact S.len, fun b o e n => k b o (S.base b o e n), fun b e => ?_, S.g0, S.gh.trans k, S.gf, fun j s e => ?_, fun j l p ⟨s, e, ho, _⟩ => ?_⟩
  · cases q : H b with
    | none => exact absurd q (S.al b e)
    | some x =>
      rw [k b x q]
      exact nn
  · have hso := none_own j s e
    by_cases hj : j = i
    · subst hj
      have hl : j < env.length := by
        have := (List.getElem?_eq_some_iff.mp e).1
        rw [List.length_set] at this
        exact this
      rw [List.getElem?_set_self hl] at e
      cases e
      exact ⟨v, by rw [List.getElem?_set_self (by rw [S.len]; exact hl)], True.intro⟩
    · rw [List.getElem?_set_ne (Ne.symm hj)] at e
      obtain ⟨o, eo, q⟩ := S.sl j s e
      refine ⟨o, by rw [List.getElem?_set_ne (Ne.symm hj)]; exact eo, q.grow (Same.refl G) (fun p x _ w => ?_) fun p _ w => ?_⟩ <;> (rw [hso] at w; cases w)
  · rw [none_own j s e] at ho
    cases ho
theorem ats_rows : ∀ {qs : List Addr} {rows : List (List Int)}, qs.length = rows.length → (∀ (j : Nat) (q : Addr) (r : List Int), qs[j]? = some q → rows[j]? = some r → G q = some (.lst (r.map V.int))) → Ats K G (qs.map V.ref) (lD rows)
  | [], [], _, _ => .nil
  | q :: qs, r :: rows, hl, h => .cons (.lst (h 0 q r rfl rfl) (Ats.ofInts r)) (ats_rows (by simpa using hl) fun j q' r' e1 e2 => h (j + 1) q' r' (by simpa using e1) (by simpa using e2))
  | [], _ :: _, hl, _ => by simp at hl
  | _ :: _, [], hl, _ => by simp at hl
/-- the frame with the new rows -/
def withRows (G H1 : Hp) (p : Addr) (qs : List Addr) : Hp := fun b => if b = p ∨ b ∈ qs then H1 b else G b
theorem NewRows.qn {p : Addr} {qs : List Addr} {rows : List (List Int)} (N : NewRows H H' p qs rows) {q : Addr} (h : q ∈ qs) : H q = none := by
  obtain ⟨j, hj⟩ := List.getElem?_of_mem h
  have hjl : j < rows.length := by rw [← N.len]; exact (List.getElem?_eq_some_iff.mp hj).1
  exact (N.rw_ j q _ hj (List.getElem?_eq_getElem hjl)).1
theorem NewRows.off {p : Addr} {qs : List Addr} {rows : List (List Int)} (N : NewRows H H' p qs rows) {b : Addr} (h : H b ≠ none) : ¬ (b = p ∨ b ∈ qs) := fun z => z.elim (fun z => h (by rw [z]; exact N.pn)) fun z => h (N.qn z)
theorem NewRows.stt {p : Addr} {qs : List Addr} {rows : List (List Int)} (N : NewRows H H' p qs rows) (S : Stt K c G σ H env) (i : Nat) :
    Stt K c (withRows G H' p qs) (σ.set i (some (.ref p))) H' (env.set i (.d (.lst (lD rows)))) ∧ Same G (withRows G H' p qs) := by
  have gg : Same G (withRows G H' p qs) := fun b o e => by
    unfold withRows
    rw [if_neg (N.off (by rw [S.gh b o e]; exact nn))]
    exact e
  have gh : Same (withRows G H' p qs) H' := fun b o e => by
    unfold withRows at e
    by_cases hb : b = p ∨ b ∈ qs
    · rw [if_pos hb] at e
      exact e
    · rw [if_neg hb] at e
      exact N.same b o (S.gh b o e)
  refine ⟨(S.ext gg gh (fun b e1 e2 => ?_) N.same).setD (.lst ?_ (ats_rows N.len fun j q r e1 e2 => ?_)) i, gg⟩
  · unfold withRows
    rw [if_neg (N.off e1)]
    exact e2
  · unfold withRows
    rw [if_pos (.inl rfl)]
    exact N.pl
  · unfold withRows
    rw [if_pos (.inr (List.mem_of_getElem? e1))]
    exact (N.rw_ j q r e1 e2).2.2
end
/-- told = o.ranks(); if t: return ..; told[-1].append(0); told.append([]); and what follows -/
def dTold (K : PySem.W.Frag) (i : Nat) (dt : DTT) (e : DTS) : DTS := fun De env => ∃ (ls : List Nat) (rows ranks : List (List Nat)), env[0]? = some (.d (rkD K ls rows ranks)) ∧ ranks ≠ [] ∧ ranks.length ≤ 1000 ∧ (∀ r ∈ ranks, r.length ≤ 1000) ∧ i ≠ 0 ∧ i < env.length ∧
  (∀ (j : Nat) (s : Sl), j ≠ i → env[j]? = some s → s.own = false) ∧ dt (env.set i (.d (.lst (lD (oN ranks))))) (fun b _ => b = false) ∧ e De (env.set i .u)
theorem rs_told {K : PySem.W.Frag} {i : Nat} {tt : TT} {tF u : TS} {dt : DTT} {e : DTS} (hb : RT K tt dt) (b : RS K u e) :
    RS K (tSeq (tAsg (tMt (He.ga K "Ranked") "ranks" (spRows K) (tVar 0) tNil) (gName i)) (tSeq (tIfS tt tF tNext)
      (tSeq (tDrop (tBM K "list" rAppend (tOp (rIx K) (tVar i) (tUn (rU fun i => .int (-i)) (tC (.int 1)))) (tCons (tC (.int 0)) tNil))) (tSeq (tDrop (tBM K "list" rAppend (tVar i) (tCons (tLst tNil) tNil))) u)))) (dTold K i dt e) := by
  intro c G σ H env De D S ⟨ls, rows, ranks, h0, hne, hl, hrl, hi0, hil, no, ht, he⟩ ok
  obtain ⟨o, eo, v, rfl, av⟩ := S.sl 0 _ h0
  have av0 := av
  cases av with
  | @obj x C dx fs ns ds hg hk hv =>
    refine ⟨.ref x, eo, x, dx, fs, rfl, S.gh _ _ hg, lookup_none (by rw [hk]; decide), ?_⟩
    refine ⟨G, ls, rows, ranks, S.gh, .cons av0 .nil, hl, fun p qs H1 N => ?_⟩
    obtain ⟨S1, g1⟩ := N.stt S i
    have hσ : i < σ.length := by rw [S.len]; exact hil
    show tIfS tt tF tNext _ (σ.set i (some (.ref p))) H1
    refine hb c _ _ H1 _ _ _ S1 ht fun bb G2 H2 e2 T2 hbb => ?_
    subst hbb
    rw [if_neg (by simp)]
    have k12 : Same H1 H2 := fun b o e => T2.kp b o e fun j ⟨s, e3, ho, _⟩ => by
      by_cases hj : j = i
      · subst hj
        rw [List.getElem?_set_self hil] at e3
        cases e3
        cases ho
      · rw [List.getElem?_set_ne (Ne.symm hj)] at e3
        rw [no j s hj e3] at ho
        cases ho
    -- the last row
    have hqne : qs ≠ [] := fun z => by
      have := N.len
      rw [z] at this
      exact hne (by simpa [oN] using this.symm)
    have hqlen : 0 < qs.length := List.length_pos_iff.mpr hqne
    have hlast : (qs.map V.ref)[qs.length - 1]? = some (.ref qs[qs.length - 1]) := by
      rw [List.getElem?_map, List.getElem?_eq_getElem (by omega)]
      rfl
    have hrw : qs.length - 1 < (oN ranks).length := by rw [← N.len]; omega
    obtain ⟨n1, n2, n3⟩ := N.rw_ (qs.length - 1) _ _ (List.getElem?_eq_getElem (by omega)) (List.getElem?_eq_getElem hrw)
    generalize hq : qs[qs.length - 1] = q at hlast n1 n2 n3
    have hpl2 := k12 _ _ N.pl
    have hql2 := k12 _ _ n3
    have hrow : ((oN ranks)[qs.length - 1]).length ≤ 1000 := by
      have : (oN ranks)[qs.length - 1] ∈ oN ranks := List.getElem_mem hrw
      obtain ⟨r, hr, e⟩ := List.mem_map.mp this
      rw [← e]
      simpa [ofN] using hrl r hr
    have hat : L2.atI (qs.map V.ref) (-1) = some (.ref q) := by
      unfold L2.atI ixN
      rw [if_neg (by decide)]
      rw [List.length_map, if_pos (by omega), Option.bind_some, show ((-1 : Int) + (qs.length : Int)).toNat = qs.length - 1 from by omega]
      exact hlast
    refine ⟨.ref p, by rw [List.getElem?_set_self hσ], 1, rfl, .inl ⟨p, _, -1, .ref q, rfl, rfl, .of hpl2, hat, ?_⟩⟩
    refine ⟨.inl ⟨rfl, _, .of hql2⟩, q, _, .int 0, rfl, rfl, hql2, by rw [List.length_map, szl]; omega, ?_⟩
    refine ⟨.ref p, by rw [List.getElem?_set_self hσ], .inl ⟨rfl, _, .of (by rw [upd_ne n2.symm]; exact hpl2)⟩, by rw [szl]; exact Nat.zero_le _, fun p2 hp2 => ?_⟩
    have hp2p : p ≠ p2 := fun z => by
      rw [← z, upd_ne n2.symm, hpl2] at hp2
      cases hp2
    refine ⟨p, _, .ref p2, rfl, rfl, by rw [upd_ne hp2p, upd_ne n2.symm]; exact hpl2, by rw [List.length_map, szl, N.len]; simp [oN]; omega, ?_⟩
    have hHp2 : H p2 = none := by
      cases z : H p2 with
      | none => rfl
      | some y =>
        have h3 := k12 _ _ (N.same _ _ z)
        have hne2 : p2 ≠ q := fun z2 => by
          rw [z2, n1] at z
          cases z
        rw [upd_ne hne2, h3] at hp2
        cases hp2
    refine b c G (σ.set i (some (.ref p))) _ (env.set i .u) De D (S.reset i no (fun b' o' e' => ?_) (some (.ref p))) he ok
    rw [upd_ne (ne_of_none e' N.pn), upd_ne (ne_of_none e' hHp2), upd_ne (ne_of_none e' n1)]
    exact k12 _ _ (N.same _ _ e')
end RK
-- LC
set_option Elab.async false
set_option linter.all false
set_option maxRecDepth 100000
set_option maxHeartbeats 4000000
namespace RK
open PySem PySem.Spec PyProof.Rows L2
local macro_rules
  | `(tactic| walk_at "ev") => `(tactic| try simp only [dVar, dC, dOp, dUn, kII, kIB, kI0, kSS, kAddS, kSign, flD, kEq, vS, onS, kIn, dasOf, dNil, dCons, dConsA, dTup, dLst, dAnd, dOr, dNot, dB, dAndT, dOrT, dNotT, dIf, dChain, kIx, dNoPart, dPart, dSlS, dSlL, dRev, dCB, k1, k2, lenD, kLen, kAll, kMax, kMM, kAbs, kInt, kList, kTuple, kSortI, kDivmod, onO, onDa, onInt, onBl, onStr, vL, onL, onT, vM, onM, toDa, dDGet, dDIn, dDGet2, dBM, dBM0, dBMS, onOwn, kAppend, kExtend, kPop, kPopAt, kClear, kIndex, kCount, kSIndex, lkF, dFld, dLR, dRg1, dRg2, dJoin, rvS, dgName, dgNil, dgCons, dgTup, diL, diT, diS, diR1, diR2, onLd, diZ, diE, diZSS, diZSL, diET, dNext, dSeq, dDrop, rtD, dRet, dRetN, dIfS, dNever, dSet, dAsg, dPar, dPar3, dFldS, dDPut, dFrz, dYes, startE, dCall, dCallM, isPot, dCallP, dMk, onObj, dMt, dPp, dCO, dRevA, kInv, kNeg, kLenO, kReprO, dFmtO, dFmtR, vD, kReprD, kReprB, dFmtD, kEqD, kCat, kCatT, clV, kIsi, kIsiT, kEqO, dCval, dCon, dJs, dJoined, diQ, diEQ, dLZ, kMulS, kSumL, dSS, kSortTs, dDisp1, dSeqF, dRetF, dMtF, dTold, fInt, fBool, fStr, fList, fSeq,
      List.map_cons, List.map_nil, List.cons_append, List.nil_append, List.length_cons, List.length_nil, List.replicate_succ, List.replicate_zero, List.append_nil, Nat.reduceAdd, Nat.reduceSub, Nat.zero_add, Nat.sub_self,
      List.getElem?_cons_zero, List.getElem?_cons_succ, List.getElem?_nil, List.set_cons_zero, List.set_cons_succ, Option.map_some, Option.map_none, List.reverse_cons, List.reverse_nil, Bool.not_true, Bool.not_false, Bool.false_eq_true, if_true, if_false, true_and, and_true, reduceCtorEq, wipeE, noOwn, Sl.own, List.all_cons, List.all_nil, Bool.and_true, Bool.true_and, Bool.and_self, List.length_map, List.not_mem_nil, not_false_eq_true, cx_K, cx_Kn, sn1, sn2, sn3, sn4, sn5, sgD, tx_list, tx_len, tx_app, tx_cut])
section
variable {P : Program} {w : World} {K : PySem.W.Frag} {mg : Str → Option Value} {base : Heap}
abbrev R_law_is (K : PySem.W.Frag) : RR := fun ds Q => ∃ ls rows ranks, ds = [rkD K ls rows ranks, mcD K ls rows, netD ls rows, .lst (lD (oN ranks))] ∧ Mc ls rows ∧ Rk ls rows ranks ∧ Q (.bl true)
theorem ok_law_is (T : Txt K mg) : Df P w K mg base "_law_is" 7 ["_law_made", "_law_frame", "_law_net_here", "_law_marks_here"] (spD K (R_law_is K)) := by
  obtain ⟨fd, F, b⟩ := q_law_is T
  refine ⟨_, fd, okD F sc_law_is (by rintro ds Q ⟨ls, rows, ranks, rfl, M, R, q⟩; rfl) (by decide) (fun cdv A outer s H hr => ⟨_, _, ⟨
      (pss_cons (ps_for PassesOwn.never rfl (pi_range1 (by rfl) T.z_range (pa_cons pe_int pa_nil)) (pg_name (i := 4) sc_law_is.nd rfl (Or.inl rfl))
      (pss_cons (ps_set (i := 5) sc_law_is.nd rfl (Or.inl rfl) (pe_methD0 T.cl_Ranked (ok_Ranked_ranksF T) hr (pv 0)))
      (pss_cons (ps_if (PW.pt (pw_or (pt_cmpR op_ne (pe_callB (call_reprD hr) (by rfl) T.z_repr boot_repr (pa_cons (pv 5) pa_nil)) (pe_callB (call_reprD hr) (by rfl) T.z_repr boot_repr (pa_cons (pv 3) pa_nil)) (nomark _)) (pw_or (pt_cmpR (op_neO (ok_Machine___eq T) T.ne_Machine T.ob_Machine hr) (pe_propD T.cl_Ranked (ok_Ranked_machine T) hr (pv 0)) (pv 1) (nomark _)) (pw_or1 (pt_cmpR op_ne (pe_propD T.cl_Ranked (ok_Ranked_letters T) hr (pv 0)) (pe_ix ix_seq (pv 2) pe_int (fun _ _ => rfl)) (nomark _)))))) (pss_one (ps_ret pe_bl)) pss_nil)
      (pss_cons (ps_expr (pe_bm PySem.F.plainAttrs_list PySem.F.slot_list_append PySem.F.type_list_append mt_append (pe_ix ix_seq (pv 5) (pe_un un_neg pe_int) (fun _ _ => rfl)) (pa_cons pe_int pa_nil)))
      (pss_cons (ps_expr (pe_bm PySem.F.plainAttrs_list PySem.F.slot_list_append PySem.F.type_list_append mt_append (pv 5) (pa_cons (pe_lst pa_nil) pa_nil)))
      (pss_cons (ps_set (i := 5) sc_law_is.nd rfl (Or.inl rfl) (pe_methD0 T.cl_Ranked (ok_Ranked_usedF T) hr (pv 0)))
      (pss_cons (ps_if (pt_cmpR op_ne (pe_callB (call_reprD hr) (by rfl) T.z_repr boot_repr (pa_cons (pv 5) pa_nil)) (pe_callB (call_reprD hr) (by rfl) T.z_repr boot_repr (pa_cons (pe_callD (ok_law_used T) hr (pa_cons (pv 2) (pa_cons (pv 3) pa_nil))) pa_nil)) (nomark _)) (pss_one (ps_ret pe_bl)) pss_nil)
      (pss_one (ps_expr (pe_bm PySem.F.plainAttrs_list PySem.F.slot_list_append PySem.F.type_list_append mt_append (pv 5) (pa_cons pe_int pa_nil)))))))))))
      (pss_cons (ps_for PassesOwn.never rfl (pi_enum (by rfl) T.z_enumerate (pa_cons (pv 3) pa_nil)) (pg_tup (n := 2) (by rfl) (pgs_cons (pg_name (i := 6) sc_law_is.nd rfl (Or.inl rfl)) (pgs_cons (pg_name (i := 7) sc_law_is.nd rfl (Or.inl rfl)) pgs_nil)))
      (pss_one (ps_for PassesOwn.never rfl (pi_zipSL (by rfl) T.z_zip (pa_cons (pe_ix ix_seq (pv 2) pe_int (fun _ _ => rfl)) (pa_cons (pv 7) pa_nil))) (pg_tup (n := 2) (by rfl) (pgs_cons (pg_name (i := 8) sc_law_is.nd rfl (Or.inl rfl)) (pgs_cons (pg_name (i := 9) sc_law_is.nd rfl (Or.inl rfl)) pgs_nil)))
      (pss_one (ps_if (pt_cmpR op_ne (pe_callB (call_reprD hr) (by rfl) T.z_repr boot_repr (pa_cons (pe_lst (pa_cons (pe_methD T.cl_Ranked (ok_Ranked_rank T) hr (pv 0) (pa_cons (pv 6) (pa_cons (pv 8) pa_nil))) (pa_cons (pe_methK T.cl_Ranked (ok_Ranked_rank T) hr (pv 0) (pk_cons (pv 8) (pk_cons (pv 6) pk_nil))) pa_nil))) pa_nil)) (pe_callB (call_reprD hr) (by rfl) T.z_repr boot_repr (pa_cons (pe_lst (pa_cons (pv 9) (pa_cons (pv 9) pa_nil))) pa_nil)) (nomark _)) (pss_one (ps_ret pe_bl)) pss_nil)))))
      (pss_one (ps_ret (pe_cmpR op_eq (pe_callB (call_reprO (ok_Ranked___repr T) hr) (by rfl) T.z_repr boot_repr (pa_cons (pv 0) pa_nil)) (pe_op op_add_str (pe_op op_add_str (pe_op op_add_str (pe_op op_add_str pe_str (pe_callB (call_reprO (ok_Machine___repr T) hr) (by rfl) T.z_repr boot_repr (pa_cons (pv 1) pa_nil))) pe_str) (pe_callB (call_reprD hr) (by rfl) T.z_repr boot_repr (pa_cons (pv 3) pa_nil))) pe_str) (nomark _)))))),
      (rs_seq (rs_for (ri_rng1 (re_c fun _ => .int _)) (rg_name 4)
      (rs_told (i := 5) (rt_or (rt_test (re_op ro_ne (re_CB rc_reprD (ra_cons re_var ra_nil)) (re_CB rc_reprD (ra_cons re_var ra_nil)))) (rt_or (rt_test (re_op (ro_neO T.nf_Machine) (re_pp re_var) re_var)) (rt_test (re_op ro_ne (re_pp re_var) (re_op ro_ix re_var (re_c fun _ => .int _))))))
      (rs_seq (rs_set 5 (re_mtF re_var ra_nil))
      (rs_seq (rs_if (rt_test (re_op ro_ne (re_CB rc_reprD (ra_cons re_var ra_nil)) (re_CB rc_reprD (ra_cons (re_call (ra_consA re_var (ra_consA re_var ra_nil))) ra_nil)))) (rs_ret (re_c fun _ => .bl _)) rs_next)
      (rs_drop (re_bm rm_append re_var (ra_consA (re_c fun _ => .int _) ra_nil)))))))
      (rs_seq (rs_for (ri_enum (ra_consA re_var ra_nil)) (rg_tup (n := 2) (rgs_cons (rg_name 6) (rgs_cons (rg_name 7) rgs_nil)))
      (rs_for (ri_zipSL (ra_consA (re_op ro_ix re_var (re_c fun _ => .int _)) (ra_consA re_var ra_nil))) (rg_tup (n := 2) (rgs_cons (rg_name 8) (rgs_cons (rg_name 9) rgs_nil)))
      (rs_if (rt_test (re_op ro_ne (re_CB rc_reprD (ra_cons (re_lst (ra_consA (re_mt re_var (ra_consA re_var (ra_consA re_var ra_nil))) (ra_consA (re_mt re_var (ra_rev (ra_consA re_var (ra_consA re_var ra_nil)))) ra_nil))) ra_nil)) (re_CB rc_reprD (ra_cons (re_lst (ra_consA re_var (ra_consA re_var ra_nil))) ra_nil)))) (rs_ret (re_c fun _ => .bl _)) rs_next)))
      (rs_ret (re_op ro_eq (re_CB rc_reprO (ra_cons re_var ra_nil)) (re_op ro_addS (re_op ro_addS (re_op ro_addS (re_op ro_addS (re_c fun _ => .str _) (re_CB rc_reprO (ra_cons re_var ra_nil))) (re_c fun _ => .str _)) (re_CB rc_reprD (ra_cons re_var ra_nil))) (re_c fun _ => .str _))))))⟩, fun ds Q h => ?_⟩), T.g__law_is, F.kp, b⟩
  obtain ⟨ls, rows, ranks, rfl, M, R, q⟩ := h
  have hn := M.n2
  have hRn := R.n
  have hRl : ∀ r ∈ ranks, r.length ≤ 1000 := fun r hr => by
    have := (R.small M).2.1 r hr
    omega
  have rp : RpOk (toP (Da.lst (lD (oN ranks)))) := rp_lD (R.small M).1 (R.small M).2.1 (R.small M).2.2
  walk_at "ev"
  refine for_intro (xs := rgD 0 2) (fun P h => by walk_at "ev"; exact ⟨by omega, by omega, h⟩)
    (fun i e => ∃ t4 t5 : Sl, (t4 = .u ∨ ∃ d, t4 = .d d) ∧ (t5 = .u ∨ ∃ d, t5 = .l d) ∧ e = [.d (rkD K ls rows ranks), .d (mcD K ls rows), .d (netD ls rows), .d (.lst (lD (oN ranks))), t4, t5, .u, .u, .u, .u])
    ⟨.u, .u, .inl rfl, .inl rfl, rfl⟩ (fun i x e hx hI => ?_) fun e hI => ?_
  · obtain ⟨t4, t5, h4, h5, rfl⟩ := hI
    walk_at "ev"
    refine ⟨ls, rows, ranks, rfl, fun z => ?_, by omega, hRl, by decide, by decide, fun j s hj e => ?_, ?_⟩
    · rw [z] at hRn
      have := M.n1
      simp at hRn
      omega
    · have hnu : ∀ (t : Sl), (t = .u ∨ ∃ d, t = .d d) → t.own = false := fun t ht => by
        rcases ht with rfl | ⟨d, rfl⟩ <;> rfl
      rcases j with _ | _ | _ | _ | _ | _ | _ | _ | _ | _ | j
      all_goals (try (simp only [List.getElem?_cons_zero, List.getElem?_cons_succ, Option.some.injEq] at e; subst e))
      all_goals (first | rfl | exact absurd rfl hj | skip)
      · simp at e
    · refine ⟨⟨⟨_, .inl rfl⟩, plain_rows _, rp, ⟨_, .inl rfl⟩, plain_rows _, rp, rfl, ?_⟩, ?_⟩
      · rw [if_neg (by simp)]
        refine ⟨ls, rows, ranks, rfl, ?_⟩
        walk_at "ev"
        refine ⟨by simp [fOwn], ls, rows, ls, rows, rfl, _, rfl, ?_⟩
        rw [if_neg (by simp)]
        refine ⟨ls, rows, ranks, rfl, ?_⟩
        walk_at "ev"
        rw [show L2.atI [Da.str (tx ls), Da.lst (lD (oN rows))] 0 = some (.str (tx ls)) from atI_nat (j := 0) rfl]
        walk_at "ev"
        exact ⟨rfl, by simp⟩
      · refine ⟨by decide, ls, rows, ranks, rfl, M, R, fun u hu1 hu2 => ?_⟩
        have hk12 : ∀ x ∈ u, x ≤ 12 := fun x hx => by
          obtain ⟨p, c, g, hp, _, h2, _⟩ := (hu2 x).mp hx
          exact R.rb _ (row_mem (rows := ranks) (p := p) (by rw [R.n]; exact hp)) x (List.mem_of_getElem? h2)
        have hul : u.length ≤ 13 := nodup_len _ _ (hu1.imp fun h => Nat.ne_of_lt h) fun x hx => Nat.lt_succ_of_le (hk12 x hx)
        have ru : RpOk (toP (Da.lst (iD (ofN u)))) := rp_iD (fun x hx => by have := hk12 x hx; omega) (by omega)
        walk_at "ev"
        refine ⟨⟨_, .inl rfl⟩, plain_ints _, ru, ls, rows, ranks, rfl, M, R, fun u' hu1' hu2' => ?_⟩
        have hue : u' = u := sorted_uniq hu1' hu1 fun k => (hu2' k).trans (hu2 k).symm
        subst hue
        refine ⟨⟨_, .inl rfl⟩, plain_ints _, ru, rfl, ?_⟩
        rw [if_neg (by simp)]
        exact ⟨by rw [szl]; omega, _, _, .inr ⟨_, rfl⟩, .inr ⟨_, rfl⟩, rfl⟩
  · obtain ⟨t4, t5, h4, h5, rfl⟩ := hI
    walk_at "ev"
    refine for_intro (xs := enumD (lD (oN ranks))) (fun P h => by walk_at "ev"; exact h)
      (fun i e => ∃ t6 t7 t8 t9 : Sl, (t6 = .u ∨ ∃ d, t6 = .d d) ∧ (t7 = .u ∨ ∃ d, t7 = .d d) ∧ (t8 = .u ∨ ∃ d, t8 = .d d) ∧ (t9 = .u ∨ ∃ d, t9 = .d d) ∧ e = [.d (rkD K ls rows ranks), .d (mcD K ls rows), .d (netD ls rows), .d (.lst (lD (oN ranks))), t4, t5, t6, t7, t8, t9])
      ⟨.u, .u, .u, .u, .inl rfl, .inl rfl, .inl rfl, .inl rfl, rfl⟩ (fun i x e hx hI => ?_) fun e hI => ?_
    · obtain ⟨t6, t7, t8, t9, _, _, h8, h9, rfl⟩ := hI
      obtain ⟨b, rfl, hb⟩ := enumD_get hx
      have hil : i < ranks.length := by
        have := (List.getElem?_eq_some_iff.mp hb).1
        simpa [lD, oN] using this
      have hbe : b = .lst (iD (ofN (row ranks i))) := by
        have h2 := lD_get (rows := ranks) hil
        rw [hb] at h2
        exact Option.some.inj h2
      subst hbe
      walk_at "ev"
      refine for_intro (xs := zipD (ls.map sgD) (iD (ofN (row ranks i)))) (e0 := [.d (rkD K ls rows ranks), .d (mcD K ls rows), .d (netD ls rows), .d (.lst (lD (oN ranks))), t4, t5, .d (.int (i : Nat)), .d (.lst (iD (ofN (row ranks i)))), t8, t9]) (fun P h => ?_)
        (fun j e => ∃ t8 t9 : Sl, (t8 = .u ∨ ∃ d, t8 = .d d) ∧ (t9 = .u ∨ ∃ d, t9 = .d d) ∧ e = [.d (rkD K ls rows ranks), .d (mcD K ls rows), .d (netD ls rows), .d (.lst (lD (oN ranks))), t4, t5, .d (.int (i : Nat)), .d (.lst (iD (ofN (row ranks i)))), t8, t9])
        ⟨t8, t9, h8, h9, rfl⟩ (fun j x e hx hJ => ?_) fun e hJ => ?_
      · walk_at "ev"
        rw [show L2.atI [Da.str (tx ls), Da.lst (lD (oN rows))] 0 = some (.str (tx ls)) from atI_nat (j := 0) rfl]
        exact h
      · obtain ⟨t8, t9, _, _, rfl⟩ := hJ
        obtain ⟨a, b, rfl, ha, hb⟩ := zipD_get hx
        obtain ⟨r, hr, rfl⟩ := iD_mem hb
        obtain ⟨ch, hc, rfl⟩ : ∃ ch, ls[j]? = some ch ∧ a = sgD ch := by
          rw [List.getElem?_map, Option.map_eq_some_iff] at ha
          obtain ⟨ch, h1, h2⟩ := ha
          exact ⟨ch, h1, h2.symm⟩
        have hcm : ch ∈ ls := List.mem_of_getElem? hc
        have hidx : rkOf ranks (i, ls.idxOf ch) = r := by
          rw [← idx_of_get M.ris.nodup hc]
          unfold rkOf
          rw [List.getD_eq_getElem?_getD, hr]
          rfl
        have hr12 : r ≤ 12 := R.rb _ (row_mem (rows := ranks) hil) r (List.mem_of_getElem? hr)
        have rr : RpOk (toP (Da.lst (iD (ofN [r, r])))) := rp_iD (fun x hx => by simp at hx; omega) (by simp)
        have hil2 : i < rows.length := by rw [← hRn]; exact hil
        have rk1 : ∀ Q' : Da → Prop, Q' (.int (r : Nat)) → R_Ranked_rank K [rkD K ls rows ranks, .int (i : Nat), .str ⟨#[ch]⟩] Q' := fun Q' hq => ⟨ls, rows, ranks, i, ch, rfl, M, R, hil2, hcm, by rw [hidx]; exact hq⟩
        walk_at "ev"
        refine ⟨by decide, rk1 _ ⟨by decide, rk1 _ ?_⟩⟩
        refine ⟨by rw [szl]; omega, ⟨_, .inl rfl⟩, rfl, rr, by rw [szl]; omega, ⟨_, .inl rfl⟩, rfl, rr, rfl, ?_⟩
        rw [if_neg (by simp)]
        exact ⟨_, _, .inr ⟨_, rfl⟩, .inr ⟨_, rfl⟩, rfl⟩
      · obtain ⟨t8, t9, h8, h9, rfl⟩ := hJ
        walk_at "ev"
        exact ⟨_, _, _, _, .inr ⟨_, rfl⟩, .inr ⟨_, rfl⟩, h8, h9, rfl⟩
    · obtain ⟨t6, t7, t8, t9, _, _, h8, h9, rfl⟩ := hI
      walk_at "ev"
      refine ⟨ls, rows, ranks, rfl, M, R, ?_⟩
      walk_at "ev"
      refine ⟨_, rfl, ls, rows, rfl, M, ?_⟩
      walk_at "ev"
      have z1 := reprM_len M
      have z2 := shown_rows (R.small M).1 (R.small M).2.1 (R.small M).2.2
      have z3 : ("Ranked(" : Str).length = 7 := rfl
      have z4 : (", " : Str).length = 2 := rfl
      have z5 : (")" : Str).length = 1 := rfl
      have ze : reprR ls rows ranks = ("Ranked(" : Str) ++ reprM ls rows ++ (", " : Str) ++ (toP (Da.lst (lD (oN ranks)))).shown ++ (")" : Str) := by
        unfold reprR
        rw [show Str.empty ++ ("Ranked(" : Str) = ("Ranked(" : Str) from rfl]
      refine ⟨_, rfl, by rw [szl, z3]; omega, by rw [szl, app_len, z3, z4]; omega, ⟨_, .inl rfl⟩, plain_rows _, rp, by rw [szl, app_len, app_len, z3, z4]; omega, by rw [szl, app_len, app_len, app_len, z3, z4, z5]; omega, rfl, ?_⟩
      rw [ze, decide_eq_true rfl]
      exact q
theorem flatL_len {α : Type} {n : Nat} : ∀ {rows : List (List α)}, (∀ r ∈ rows, r.length ≤ n) → rows.flatten.length ≤ rows.length * n
  | [], _ => by simp
  | r :: rows, h => by
    rw [List.flatten_cons, List.length_append, List.length_cons, Nat.succ_mul]
    have h1 := flatL_len (rows := rows) fun r' hr' => h r' (List.mem_cons_of_mem _ hr')
    have h2 := h r List.mem_cons_self
    omega
theorem up_map (n : Nat) (ranks : List (List Nat)) : ((lD (oN ranks)).map fun x => match x with | .lst xs => Da.lst (xs.map fun y => match y with | .int i => .int (i + (n : Nat)) | y => y) | x => x) = lD (oN (ranks.map fun r => r.map (· + n))) := by
  show List.map _ (List.map _ (List.map _ ranks)) = List.map _ (List.map _ (List.map _ ranks))
  rw [List.map_map, List.map_map, List.map_map, List.map_map]
  refine List.map_congr_left fun r _ => ?_
  show Da.lst (List.map _ (List.map _ (List.map _ r))) = Da.lst (List.map _ (List.map _ (List.map _ r)))
  rw [List.map_map, List.map_map, List.map_map, List.map_map]
  refine congrArg Da.lst (List.map_congr_left fun x _ => ?_)
  show Da.int (Int.ofNat x + (n : Nat)) = Da.int (Int.ofNat (x + n))
  rfl
abbrev R_law_about_right (K : PySem.W.Frag) : RR := fun ds Q => ∃ ls rows ranks, ds = [rkD K ls rows ranks, mcD K ls rows, netD ls rows, .lst (lD (oN ranks))] ∧ Mc ls rows ∧ Rk ls rows ranks ∧ (∀ r ∈ ranks, ∀ k ∈ r, k ≤ 11) ∧ Q (.bl true)
theorem ok_law_about_right (T : Txt K mg) : Df P w K mg base "_law_about_right" 8 ["_law_made", "_law_frame", "_law_net_here", "_law_marks_here"] (spD K (R_law_about_right K)) := by
  obtain ⟨fd, F, b⟩ := q_law_about_right T
  refine ⟨_, fd, okD F sc_law_about_right (by rintro ds Q ⟨ls, rows, ranks, rfl, M, R, h11, q⟩; rfl) (by decide) (fun cdv A outer s H hr => ⟨_, _, ⟨
      (pss_cons (ps_set (i := 4) sc_law_about_right.nd rfl (Or.inl rfl) (pe_un (un_invO (ok_Ranked___invert T) hr) (pv 0)))
      (pss_cons (ps_setLc (i := 5) (own := [("_law_row", 6)]) (g := gName 6) (tt := tYes) rfl sc_law_about_right.nd rfl rfl (sw_true rfl rfl rfl (by decide +kernel)) (pi_list (pv 3)) (blkOk_by (by kernel_rfl)) (fun _ _ _ _ _ => (pg_name (i := 6) sc_law_about_right.nd rfl (Or.inl rfl))) (fun _ _ _ _ _ => pts_nil) (fun _ _ _ _ _ => by exact (pe_lc (own := [("_law_mark", 7)]) (g := gName 7) (tt := tYes) rfl sc_law_about_right.nd (pi_list (pv 6)) (blkOk_by (by kernel_rfl)) (fun _ _ _ _ _ => (pg_name (i := 7) sc_law_about_right.nd rfl (Or.inl rfl))) (fun _ _ _ _ _ => pts_nil) (fun _ _ _ _ _ => by exact (pe_op op_add (pv 7) pe_int)))))
      (pss_cons (ps_if (PW.pt (pw_or (pt_cmpR (op_neO (ok_Ranked___eq T) T.ne_Ranked T.ob_Ranked hr) (pv 4) (pe_makeD (ok_Ranked___init T) hr (pa_cons (pv 1) (pa_cons (pv 5) pa_nil))) (nomark _)) (pw_or1 (pt_not (pt_val (pe_callD (ok_law_is T) hr (pa_cons (pv 4) (pa_cons (pv 1) (pa_cons (pv 2) (pa_cons (pv 5) pa_nil)))))))))) (pss_one (ps_ret pe_bl)) pss_nil)
      (pss_one (ps_ret (pe_or (pe_cmpR op_gt (pe_callB (cr_max rfl) (by rfl) T.z_max boot_max (pa_cons (pe_callB (call_sumL rfl) (by rfl) T.z_sum boot_sum (pa_cons (pv 5) (pa_cons (pe_lst pa_nil) pa_nil))) pa_nil)) pe_int (nomark _)) (pe_one (pe_cmpR (op_eqD hr.units) (pe_methD0 T.cl_Ranked (ok_Ranked_ranks T) hr (pe_un (un_invO (ok_Ranked___invert T) hr) (pv 4))) (pe_lc (own := [("_law_row", 6)]) (g := gName 6) (tt := tYes) rfl sc_law_about_right.nd (pi_list (pv 3)) (blkOk_by (by kernel_rfl)) (fun _ _ _ _ _ => (pg_name (i := 6) sc_law_about_right.nd rfl (Or.inl rfl))) (fun _ _ _ _ _ => pts_nil) (fun _ _ _ _ _ => by exact (pe_lc (own := [("_law_mark", 7)]) (g := gName 7) (tt := tYes) rfl sc_law_about_right.nd (pi_list (pv 6)) (blkOk_by (by kernel_rfl)) (fun _ _ _ _ _ => (pg_name (i := 7) sc_law_about_right.nd rfl (Or.inl rfl))) (fun _ _ _ _ _ => pts_nil) (fun _ _ _ _ _ => by exact (pe_op op_add (pv 7) pe_int))))) (nomark _))))))))),
      (rs_seq (rs_set 4 (re_un ru_inv re_var))
      (rs_seq (rs_set 5 (re_lc (ri_list re_var) (rg_name 6) rt_yes (re_lc (ri_list re_var) (rg_name 7) rt_yes (re_op ro_I0 re_var (re_c fun _ => .int _)) (by decide)) (by decide)))
      (rs_seq (rs_frz (i := 5) (rs_if (rt_or (rt_test (re_op (ro_neO T.nf_Ranked) re_var (re_mk (ra_consA re_var (ra_consA re_var ra_nil))))) (rt_not (rt_B (re_call (ra_consA re_var (ra_consA re_var (ra_consA re_var (ra_consA re_var ra_nil)))))))) (rs_ret (re_c fun _ => .bl _)) rs_next))
      (rs_ret (re_or (re_op ro_B0 (re_CB rc_max (ra_cons (re_CB rc_sumL (ra_cons re_var (ra_cons (re_lst ra_nil) ra_nil))) ra_nil)) (re_c fun _ => .int _)) (re_op ro_eqD (re_mt (re_un ru_inv re_var) ra_nil) (re_lc (ri_list re_var) (rg_name 6) rt_yes (re_lc (ri_list re_var) (rg_name 7) rt_yes (re_op ro_I0 re_var (re_c fun _ => .int _)) (by decide)) (by decide))))))))⟩, fun ds Q h => ?_⟩), T.g__law_about_right, F.kp, b⟩
  obtain ⟨ls, rows, ranks, rfl, M, R, h11, q⟩ := h
  have hn := M.n2
  have hRn := R.n
  have hl3 := M.l3
  have R2 := up_rk R h11
  walk_at "ev"
  refine ⟨ls, rows, ranks, rfl, M, R, h11, ?_⟩
  refine lc_map (xs := lD (oN ranks)) (fun P h => by walk_at "ev"; exact h) rfl (by rw [lD_len, szl]; omega)
    (fun x => match x with | .lst xs => .lst (xs.map fun y => match y with | .int i => .int (i + ((1 : Nat) : Int)) | y => y) | x => x) (fun i x k k' hx hk => ?_) ?_
  · obtain ⟨r0, hr0, rfl⟩ := List.mem_map.mp (List.mem_of_getElem? hx)
    obtain ⟨r, hr, rfl⟩ := List.mem_map.mp hr0
    unfold lcB
    have hr3 := R.rl r hr
    walk_at "ev"
    refine lc_map (xs := iD (ofN r)) (fun P h => by walk_at "ev"; exact h) rfl (by rw [iD_len, szl]; omega) (fun y => match y with | .int n => .int (n + 1) | y => y) (fun i x k k' hx hk => ?_) ⟨rfl, hk⟩
    obtain ⟨n, hn, rfl⟩ := iD_mem hx
    unfold lcB
    walk_at "ev"
    exact hk
  walk_at "ev"
  rw [up_map 1 ranks]
  refine ⟨ls, rows, upR ranks, _, rfl, M, R2, rowsS_lD _, ?_⟩
  refine ⟨by simp [fRk], _, _, rfl, .inl ⟨ls, rows, upR ranks, ls, rows, upR ranks, rfl, rfl, _, rfl, ?_⟩⟩
  rw [if_neg (by simp)]
  refine ⟨ls, rows, upR ranks, rfl, M, R2, ?_⟩
  walk_at "ev"
  have hlen2 : (upR ranks).length = rows.length := R2.n
  have hfl : (oN (upR ranks)).flatten.length ≤ 1000 := by
    have h1 := flatL_len (n := 3) (rows := oN (upR ranks)) fun r hr => by
      obtain ⟨r', hr', rfl⟩ := List.mem_map.mp hr
      have := R2.rl r' hr'
      simp only [ofN, List.length_map]
      omega
    have h2 : (oN (upR ranks)).length = rows.length := by rw [← hlen2]; simp [oN]
    omega
  have hmem : ∀ r ∈ upR ranks, ∀ k ∈ r, ((k : Nat) : Int) ∈ (oN (upR ranks)).flatten := fun r hr k hk => List.mem_flatten.mpr ⟨ofN r, List.mem_map.mpr ⟨r, hr, rfl⟩, mem_ofN.mpr hk⟩
  have hne : oN (upR ranks) ≠ [] := fun z => by
    have h1 := M.n1
    have h2 := congrArg List.length z
    simp only [oN, List.length_map, List.length_nil] at h2
    omega
  have hpos : 0 < (oN (upR ranks)).flatten.length := by
    have h0 : 0 < (upR ranks).length := by rw [hlen2]; exact M.n1
    have hr := List.getElem_mem h0
    have h1 := R2.rl _ hr
    have hl1 := M.l1
    have h2 : 0 < ((upR ranks)[0]).length := by omega
    exact List.length_pos_of_mem (hmem _ hr _ (List.getElem_mem h2))
  refine ⟨Nat.zero_le _, oN (upR ranks), rfl, hne, hfl, _, rfl, hpos, fun m hm hmx => ?_⟩
  by_cases h : 11 < m
  · rw [if_pos (decide_eq_true h)]
    exact q
  rw [if_neg (by rw [decide_eq_false h]; exact Bool.false_ne_true)]
  have h11b : ∀ r ∈ upR ranks, ∀ k ∈ r, k ≤ 11 := fun r hr k hk => by
    have := hmx _ (hmem r hr k hk)
    omega
  refine ⟨ls, rows, upR ranks, rfl, M, R2, h11b, ?_⟩
  walk_at "ev"
  refine ⟨by decide, ls, rows, upR (upR ranks), rfl, M, up_rk R2 h11b, ?_⟩
  refine lc_map (xs := lD (oN ranks)) (fun P h => by walk_at "ev"; exact h) rfl (by rw [lD_len, szl]; omega)
    (fun x => match x with | .lst xs => .lst (xs.map fun y => match y with | .int i => .int (i + ((2 : Nat) : Int)) | y => y) | x => x) (fun i x k k' hx hk => ?_) ?_
  · obtain ⟨r0, hr0, rfl⟩ := List.mem_map.mp (List.mem_of_getElem? hx)
    obtain ⟨r, hr, rfl⟩ := List.mem_map.mp hr0
    unfold lcB
    have hr3 := R.rl r hr
    walk_at "ev"
    refine lc_map (xs := iD (ofN r)) (fun P h => by walk_at "ev"; exact h) rfl (by rw [iD_len, szl]; omega) (fun y => match y with | .int n => .int (n + 2) | y => y) (fun i x k k' hx hk => ?_) ⟨rfl, hk⟩
    obtain ⟨n, hn, rfl⟩ := iD_mem hx
    unfold lcB
    walk_at "ev"
    exact hk
  rw [up_map 2 ranks]
  have hup2 : upR (upR ranks) = ranks.map fun r => r.map (· + 2) := by
    unfold upR
    rw [List.map_map]
    refine List.map_congr_left fun r _ => ?_
    show List.map _ (List.map _ r) = _
    rw [List.map_map]
    rfl
  rw [hup2]
  walk_at "ev"
  refine ⟨plain_rows _, plain_rows _, shaped_lD _, shaped_lD _, ?_⟩
  rw [eqv_lD, decide_eq_true rfl]
  exact q
end
end RK
-- R3
set_option Elab.async false
set_option linter.all false
set_option maxRecDepth 100000
set_option maxHeartbeats 4000000
/-! R3: far = [list(row) for row in rows]; far[-1][0] = .. -/
namespace RK
open PySem PySem.Spec PyProof.Rows L2
section
variable {K : PySem.W.Frag} {c : Ctx} {G H H' H2 : Hp} {σ : L2.St} {env : En} {p q : Addr} {qs : List Addr} {rows : List (List Int)}
theorem NewRows.mono (N : NewRows H H' p qs rows) (k : Same H' H2) : NewRows H H2 p qs rows :=
  ⟨N.same.trans k, N.pn, k _ _ N.pl, N.len, fun j q r e1 e2 => let ⟨h1, h2, h3⟩ := N.rw_ j q r e1 e2; ⟨h1, h2, k _ _ h3⟩, N.nd⟩
/-- one of the rows is written -/
theorem NewRows.put (N : NewRows H H' p qs rows) {j : Nat} (hj : qs[j]? = some q) (r' : List Int) : NewRows H (upd H' q (.lst (r'.map V.int))) p qs (rows.set j r') := by
  have hjl : j < rows.length := by rw [← N.len]; exact (List.getElem?_eq_some_iff.mp hj).1
  obtain ⟨h1, h2, h3⟩ := N.rw_ j q _ hj (List.getElem?_eq_getElem hjl)
  refine ⟨fun b o e => ?_, N.pn, by rw [upd_ne h2.symm]; exact N.pl, by rw [List.length_set]; exact N.len, fun l q' r e1 e2 => ?_, N.nd⟩
  · rw [upd_ne (ne_of_none e h1)]
    exact N.same b o e
  · by_cases hl : l = j
    · subst hl
      rw [hj] at e1
      cases e1
      rw [List.getElem?_set_self hjl] at e2
      cases e2
      exact ⟨h1, h2, upd_same⟩
    · rw [List.getElem?_set_ne (Ne.symm hl)] at e2
      obtain ⟨k1, k2, k3⟩ := N.rw_ l q' r e1 e2
      have hqq : q' ≠ q := fun z => by
        subst z
        obtain ⟨a1, a2⟩ := List.getElem?_eq_some_iff.mp e1
        obtain ⟨b1, b2⟩ := List.getElem?_eq_some_iff.mp hj
        exact hl ((List.getElem_inj N.nd).mp (a2.trans b2.symm))
      exact ⟨k1, k2, by rw [upd_ne hqq]; exact k3⟩
theorem step_same {G1 H1 : Hp} {env1 env2 : En} (T : Stp K c G1 σ H1 env1 G H env2) (no : ∀ (j : Nat) (s : Sl), env1[j]? = some s → s.own = false) : Same H1 H := fun b o e => T.kp b o e fun j ⟨s, e3, ho, _⟩ => by
  rw [no j s e3] at ho
  cases ho
theorem no_own_set {i : Nat} {x : Da} (no : ∀ (j : Nat) (s : Sl), j ≠ i → env[j]? = some s → s.own = false) : ∀ (j : Nat) (s : Sl), (env.set i (.d x))[j]? = some s → s.own = false := fun j s e => by
  by_cases hj : j = i
  · subst hj
    by_cases hl : j < env.length
    · rw [List.getElem?_set_self hl] at e
      cases e
      rfl
    · rw [List.getElem?_eq_none (by rw [List.length_set]; omega)] at e
      cases e
  · rw [List.getElem?_set_ne (Ne.symm hj)] at e
    exact no j s hj e
theorem NewRows.last (N : NewRows H H' p qs rows) (hne : rows ≠ []) : ∃ q, qs[rows.length - 1]? = some q ∧ L2.atI (qs.map V.ref) (-1) = some (.ref q) := by
  have h0 : 0 < rows.length := List.length_pos_iff.mpr hne
  have hl := N.len
  refine ⟨qs[rows.length - 1]'(by omega), List.getElem?_eq_getElem _, ?_⟩
  unfold L2.atI ixN
  rw [if_neg (by decide), List.length_map, if_pos (by omega), Option.bind_some, show ((-1 : Int) + (qs.length : Int)).toNat = rows.length - 1 from by omega, List.getElem?_map, List.getElem?_eq_getElem (by omega)]
  rfl
end
def dFar (K : PySem.W.Frag) (m i : Nat) (de : DT) (e : DTS) : DTS := fun De env => ∃ (ranks : List (List Nat)), env[m]? = some (.d (.lst (lD (oN ranks)))) ∧ ranks ≠ [] ∧ ranks.length ≤ 1000 ∧ (∀ r ∈ ranks, r ≠ [] ∧ r.length ≤ 1000) ∧ i < env.length ∧
  (∀ (j : Nat) (s : Sl), j ≠ i → env[j]? = some s → s.own = false) ∧ de (env.set i (.d (.lst (lD (oN ranks))))) (fun r _ => ∃ v : Int, r = .da (.int v) ∧ ∀ row, (oN ranks)[ranks.length - 1]? = some row → e De (env.set i (.d (.lst (lD ((oN ranks).set (ranks.length - 1) (row.set 0 v)))))))
theorem rs_far {K : PySem.W.Frag} {m i jr : Nat} {te : TE} {u : TS} {de : DT} {e : DTS} {vs : List Nat} (hv : jr ∈ vs) (a : RE K te de) (b : RS K u e) :
    RS K (tSeq (tAsg (tLc (iList K (tVar m)) (gName jr) tYes (tCB (rLo K) (tCons (tVar jr) tNil)) vs) (gName i))
      (tSeq (tAsg te (gSub (tOp (rIx K) (tVar i) (tUn (rU fun i => .int (-i)) (tC (.int 1)))) (tC (.int 0)) rSetL)) u)) (fun De env => jr < env.length ∧ dFar K m i de e De env) := by
  intro c G σ H env De D S ⟨hjl, ranks, h0, hne, hl, hrl, hil, no, he⟩ ok
  obtain ⟨o, eo, v, rfl, av⟩ := S.sl m _ h0
  cases av with
  | @lst p0 us _ gp au =>
    have hlen : us.length = ranks.length := by rw [au.length]; simp [lD, oN]
    simp only [tSeq, tAsg]
    refine cp_rows (a := p0) (us := us) hv (by rw [S.len]; exact hjl) (rows_lD S.gh au) (by rw [hlen, szl]; omega) (fun R hR => ⟨.ref p0, eo, p0, rfl, ⟨_, .of (S.gh _ _ gp)⟩, hR.1 (.of (S.gh _ _ gp))⟩) (.inl (.of (S.gh _ _ gp))) fun p qs H1 N => ?_
    obtain ⟨S1, g1⟩ := N.stt S i
    have hσ : i < σ.length := by rw [S.len]; exact hil
    show te (σ.set i (some (.ref p))) H1 _
    refine a c _ _ H1 _ _ _ S1 he fun v1 r1 G2 H2 e2 T2 w2 hx => ?_
    obtain ⟨x, rfl, hx2⟩ := hx
    cases w2.int
    have N2 := N.mono (step_same T2 (no_own_set no))
    have hone : oN ranks ≠ [] := fun z => hne (by simpa [oN] using z)
    obtain ⟨q, hq, hat⟩ := N2.last hone
    have hol : (oN ranks).length = ranks.length := by simp [oN]
    rw [hol] at hq
    have hjr2 : ranks.length - 1 < (oN ranks).length := by
      have := List.length_pos_iff.mpr hne
      omega
    obtain ⟨row, hrow⟩ : ∃ row, (oN ranks)[ranks.length - 1]? = some row := ⟨_, List.getElem?_eq_getElem hjr2⟩
    obtain ⟨k1, k2, k3⟩ := N2.rw_ _ q row hq hrow
    have hrow0 : 0 < row.length := by
      obtain ⟨r, hr, e3⟩ := List.mem_map.mp (List.mem_of_getElem? hrow)
      rw [← e3]
      simpa [ofN] using List.length_pos_iff.mpr (hrl r hr).1
    refine ⟨.ref p, by rw [List.getElem?_set_self hσ], 1, rfl, .inl ⟨p, _, -1, .ref q, rfl, rfl, .of N2.pl, hat, ?_⟩⟩
    refine ⟨q, _, 0, 0, rfl, rfl, k3, by unfold ixN; rw [List.length_map, if_pos (by omega), if_pos (by omega)]; rfl, ?_⟩
    have N3 := N2.put hq (row.set 0 x)
    rw [show (row.map V.int).set 0 (V.int x) = (row.set 0 x).map V.int from (List.map_set ..).symm]
    obtain ⟨S3, g3⟩ := N3.stt S i
    exact b c _ _ _ _ De D { S3 with g0 := S3.g0 } (hx2 row hrow) ok
end RK
-- LE
set_option Elab.async false
set_option linter.all false
set_option maxRecDepth 100000
set_option maxHeartbeats 4000000
namespace RK
open PySem PySem.Spec PyProof.Rows L2
local macro_rules
  | `(tactic| walk_at "ev") => `(tactic| try simp only [dVar, dC, dOp, dUn, kII, kIB, kI0, kSS, kAddS, kSign, flD, kEq, vS, onS, kIn, dasOf, dNil, dCons, dConsA, dTup, dLst, dAnd, dOr, dNot, dB, dAndT, dOrT, dNotT, dIf, dChain, kIx, dNoPart, dPart, dSlS, dSlL, dRev, dCB, k1, k2, lenD, kLen, kAll, kMax, kMM, kAbs, kInt, kList, kTuple, kSortI, kDivmod, onO, onDa, onInt, onBl, onStr, vL, onL, onT, vM, onM, toDa, dDGet, dDIn, dDGet2, dBM, dBM0, dBMS, onOwn, kAppend, kExtend, kPop, kPopAt, kClear, kIndex, kCount, kSIndex, lkF, dFld, dLR, dRg1, dRg2, dJoin, rvS, dgName, dgNil, dgCons, dgTup, diL, diT, diS, diR1, diR2, onLd, diZ, diE, diZSS, diZSL, diET, dNext, dSeq, dDrop, rtD, dRet, dRetN, dIfS, dNever, dSet, dAsg, dPar, dPar3, dFldS, dDPut, dFrz, dYes, startE, dCall, dCallM, isPot, dCallP, dMk, onObj, dMt, dPp, dCO, dRevA, kInv, kNeg, kLenO, kReprO, dFmtO, dFmtR, vD, kReprD, kReprB, dFmtD, kEqD, kCat, kCatT, clV, kIsi, kIsiT, kEqO, dCval, dCon, dJs, dJoined, diQ, diEQ, dLZ, kMulS, kSumL, dSS, kSortTs, dDisp1, dSeqF, dRetF, dMtF, dTold, dFar, fInt, fBool, fStr, fList, fSeq,
      List.map_cons, List.map_nil, List.cons_append, List.nil_append, List.length_cons, List.length_nil, List.replicate_succ, List.replicate_zero, List.append_nil, Nat.reduceAdd, Nat.reduceSub, Nat.zero_add, Nat.sub_self,
      List.getElem?_cons_zero, List.getElem?_cons_succ, List.getElem?_nil, List.set_cons_zero, List.set_cons_succ, Option.map_some, Option.map_none, List.reverse_cons, List.reverse_nil, Bool.not_true, Bool.not_false, Bool.false_eq_true, if_true, if_false, true_and, and_true, reduceCtorEq, wipeE, noOwn, Sl.own, List.all_cons, List.all_nil, Bool.and_true, Bool.true_and, Bool.and_self, List.length_map, List.not_mem_nil, not_false_eq_true, cx_K, cx_Kn, sn1, sn2, sn3, sn4, sn5, sgD, tx_list, tx_len, tx_app, tx_cut])
section
variable {P : Program} {w : World} {K : PySem.W.Frag} {mg : Str → Option Value} {base : Heap}
def tupOf : Da → Da
  | .lst xs => .tup xs
  | x => x
theorem rowsS_tup (ranks : List (List Nat)) : RowsS (.tup ((lD (oN ranks)).map tupOf)) ranks := by
  refine ⟨_, .inr rfl, by rw [List.length_map, lD_len], fun i d hd => ?_⟩
  rw [List.getElem?_map, List.getElem?_map, List.getElem?_map, Option.map_eq_some_iff] at hd
  obtain ⟨r0, hr0, rfl⟩ := hd
  obtain ⟨r1, hr1, rfl⟩ := Option.map_eq_some_iff.mp hr0
  obtain ⟨r, hr, rfl⟩ := Option.map_eq_some_iff.mp hr1
  exact ⟨r, hr, .inr rfl⟩
theorem ite_far {b : Bool} {x y : Int} {F : Int → Prop} (h : F (if b = true then x else y)) : if b = true then (∃ v, RV.da (Da.int x) = RV.da (Da.int v) ∧ F v) else ∃ v, RV.da (Da.int y) = RV.da (Da.int v) ∧ F v := by
  cases b
  · exact ⟨y, rfl, h⟩
  · exact ⟨x, rfl, h⟩
abbrev R_law_equal_right (K : PySem.W.Frag) : RR := fun ds Q => ∃ ls rows ranks, ds = [rkD K ls rows ranks, mcD K ls rows, netD ls rows, .lst (lD (oN ranks))] ∧ Mc ls rows ∧ AllMet rows ∧ Rk ls rows ranks ∧ 113 ∉ ls ∧ Q (.bl true)
theorem ok_law_equal_right (T : Txt K mg) : Df P w K mg base "_law_equal_right" 7 ["_law_made", "_law_frame", "_law_net_here", "_law_marks_here"] (spD K (R_law_equal_right K)) := by
  obtain ⟨fd, F, b⟩ := q_law_equal_right T
  refine ⟨_, fd, okD F sc_law_equal_right (by rintro ds Q ⟨ls, rows, ranks, rfl, M, A, R, hnq, q⟩; rfl) (by decide) (fun cdv A outer s H hr => ⟨_, _, ⟨
      (pss_cons (ps_set (i := 4) sc_law_equal_right.nd rfl (Or.inl rfl) (pe_makeKw (ok_Ranked___init T) hr (pk_cons (pe_callTy call_tuple_of (by rfl) T.z_tuple boot_tuple (pa_cons (pe_lc (own := [("_law_row", 7)]) (g := gName 7) (tt := tYes) rfl sc_law_equal_right.nd (pi_list (pv 3)) (blkOk_by (by kernel_rfl)) (fun _ _ _ _ _ => (pg_name (i := 7) sc_law_equal_right.nd rfl (Or.inl rfl))) (fun _ _ _ _ _ => pts_nil) (fun _ _ _ _ _ => by exact (pe_callTy call_tuple_of (by rfl) T.z_tuple boot_tuple (pa_cons (pv 7) pa_nil)))) pa_nil)) (pk_cons (pe_makeD (ok_Machine___init T) hr (pa_cons (pe_ix ix_seq (pv 2) pe_int (fun _ _ => rfl)) (pa_cons (pe_ix ix_seq (pv 2) pe_int (fun _ _ => rfl)) pa_nil))) pk_nil))))
      (pss_cons (ps_setLc (i := 5) (own := [("_law_row", 7)]) (g := gName 7) (tt := tYes) rfl sc_law_equal_right.nd rfl rfl (sw_true rfl rfl rfl (by decide +kernel)) (pi_list (pv 3)) (blkOk_by (by kernel_rfl)) (fun _ _ _ _ _ => (pg_name (i := 7) sc_law_equal_right.nd rfl (Or.inl rfl))) (fun _ _ _ _ _ => pts_nil) (fun _ _ _ _ _ => by exact (pe_callTy call_list_of (by rfl) T.z_list boot_list (pa_cons (pv 7) pa_nil))))
      (pss_cons (ps_asg (pe_ifExp (pt_cmpR op_lt (pe_ix ix_seq (pe_ix ix_seq (pv 5) (pe_un un_neg pe_int) (fun _ _ => rfl)) pe_int (fun _ _ => rfl)) pe_int (nomark _)) (pe_op op_add (pe_ix ix_seq (pe_ix ix_seq (pv 5) (pe_un un_neg pe_int) (fun _ _ => rfl)) pe_int (fun _ _ => rfl)) pe_int) pe_int) (pg_sub (pe_ix ix_seq (pv 5) (pe_un un_neg pe_int) (fun _ _ => rfl)) pe_int set_list))
      (pss_cons (ps_set (i := 6) sc_law_equal_right.nd rfl (Or.inl rfl) (pe_makeD (ok_Ranked___init T) hr (pa_cons (pe_makeD (ok_Machine___init T) hr (pa_cons (pe_op op_add_str pe_str (pe_slice sl_str pe_str po_none (po_some (pe_op op_sub (pe_callB call_len (by rfl) T.z_len boot_len (pa_cons (pe_ix ix_seq (pv 2) pe_int (fun _ _ => rfl)) pa_nil)) pe_int)))) (pa_cons (pe_ix ix_seq (pv 2) pe_int (fun _ _ => rfl)) pa_nil))) (pa_cons (pv 3) pa_nil))))
      (pss_cons (ps_if (PW.pt (pw_or (pt_cmpR (op_neO (ok_Ranked___eq T) T.ne_Ranked T.ob_Ranked hr) (pv 0) (pv 4) (nomark _)) (pw_or (pt_not (pt_cmpR (op_eqO (ok_Ranked___eq T) hr) (pv 0) (pv 4) (nomark _))) (pw_or (pt_cmpR (op_eqO (ok_Ranked___eq T) hr) (pv 0) (pe_makeD (ok_Ranked___init T) hr (pa_cons (pv 1) (pa_cons (pv 5) pa_nil))) (nomark _)) (pw_or1 (pt_not (pt_cmpR (op_neO (ok_Ranked___eq T) T.ne_Ranked T.ob_Ranked hr) (pv 0) (pe_makeD (ok_Ranked___init T) hr (pa_cons (pv 1) (pa_cons (pv 5) pa_nil))) (nomark _)))))))) (pss_one (ps_ret pe_bl)) pss_nil)
      (pss_one (ps_ret (pe_not (pe_callB (cr_any rfl) (by rfl) T.z_any boot_any (pa_cons (pe_lc (own := [("_law_thing", 8)]) (g := gName 8) (tt := tYes) rfl sc_law_equal_right.nd (pi_list (pe_lst (pa_cons pe_non (pa_cons pe_int (pa_cons (pv 1) (pa_cons (pv 3) (pa_cons (pe_callB (call_reprO (ok_Ranked___repr T) hr) (by rfl) T.z_repr boot_repr (pa_cons (pv 0) pa_nil)) (pa_cons (pv 6) (pa_cons (pe_tup (pa_cons (pv 1) (pa_cons (pv 3) pa_nil))) pa_nil))))))))) (blkOk_by (by kernel_rfl)) (fun _ _ _ _ _ => (pg_name (i := 8) sc_law_equal_right.nd rfl (Or.inl rfl))) (fun _ _ _ _ _ => pts_nil) (fun _ _ _ _ _ => by exact (pe_cmpR (op_eqO (ok_Ranked___eq T) hr) (pv 0) (pv 8) (nomark _)))) pa_nil)))))))))),
      (rs_seq (rs_set 4 (re_mk (ra_rev (ra_consA (re_CB rc_tuple (ra_cons (re_lc (ri_list re_var) (rg_name 7) rt_yes (re_CB rc_tuple (ra_cons re_var ra_nil)) (by decide)) ra_nil)) (ra_consA (re_mk (ra_consA (re_op ro_ix re_var (re_c fun _ => .int _)) (ra_consA (re_op ro_ix re_var (re_c fun _ => .int _)) ra_nil))) ra_nil)))))
      (rs_far (m := 3) (i := 5) (jr := 7) (by simp) (re_if (rt_test (re_op ro_B0 (re_op ro_ix (re_op ro_ix re_var (re_un ru_neg (re_c fun _ => .int _))) (re_c fun _ => .int _)) (re_c fun _ => .int _))) (re_op ro_I0 (re_op ro_ix (re_op ro_ix re_var (re_un ru_neg (re_c fun _ => .int _))) (re_c fun _ => .int _)) (re_c fun _ => .int _)) (re_c fun _ => .int _))
      (rs_seq (rs_set 6 (re_mk (ra_consA (re_mk (ra_consA (re_op ro_addS (re_c fun _ => .str _) (re_slS (re_c fun _ => .str _) ro_no (ro_part (re_op ro_I0 (re_CB rc_len (ra_cons (re_op ro_ix re_var (re_c fun _ => .int _)) ra_nil)) (re_c fun _ => .int _))))) (ra_consA (re_op ro_ix re_var (re_c fun _ => .int _)) ra_nil))) (ra_consA re_var ra_nil))))
      (rs_seq (rs_if (rt_or (rt_test (re_op (ro_neO T.nf_Ranked) re_var re_var)) (rt_or (rt_not (rt_test (re_op (ro_eqO T.nf_Ranked) re_var re_var))) (rt_or (rt_test (re_op (ro_eqO T.nf_Ranked) re_var (re_mk (ra_consA re_var (ra_consA re_var ra_nil))))) (rt_not (rt_test (re_op (ro_neO T.nf_Ranked) re_var (re_mk (ra_consA re_var (ra_consA re_var ra_nil))))))))) (rs_ret (re_c fun _ => .bl _)) rs_next)
      (rs_ret (re_not (re_CB rc_any (ra_cons (re_lc (ri_list (re_lst (ra_consA (re_c fun _ => .non) (ra_consA (re_c fun _ => .int _) (ra_consA re_var (ra_consA re_var (ra_consA (re_CB rc_reprO (ra_cons re_var ra_nil)) (ra_consA re_var (ra_consA (re_tup (ra_consA re_var (ra_consA re_var ra_nil))) ra_nil))))))))) (rg_name 8) rt_yes (re_op (ro_eqO T.nf_Ranked) re_var re_var) (by decide)) ra_nil))))))))⟩, fun ds Q h => ?_⟩), T.g__law_equal_right, F.kp, b⟩
  obtain ⟨ls, rows, ranks, rfl, M, A, R, hnq, q⟩ := h
  have hn := M.n2
  have hRn := R.n
  have hl3 := M.l3
  have hl1 := M.l1
  have a0 : L2.atI [Da.str (tx ls), Da.lst (lD (oN rows))] 0 = some (.str (tx ls)) := atI_nat (j := 0) rfl
  have a1 : L2.atI [Da.str (tx ls), Da.lst (lD (oN rows))] 1 = some (.lst (lD (oN rows))) := atI_nat (j := 1) rfl
  walk_at "ev"
  refine lc_map (xs := lD (oN ranks)) (fun P h => by walk_at "ev"; exact h) rfl (by rw [lD_len, szl]; omega) tupOf (fun i x k k' hx hk => ?_) ?_
  · obtain ⟨r, hr, rfl⟩ := List.mem_map.mp (List.mem_of_getElem? hx)
    unfold lcB
    walk_at "ev"
    exact hk
  walk_at "ev"
  rw [a0]
  walk_at "ev"
  rw [a1]
  walk_at "ev"
  refine ⟨ls, rows, rfl, M, A, ?_⟩
  refine ⟨ls, rows, ranks, _, rfl, M, R, rowsS_tup _, ?_⟩
  walk_at "ev"
  have hrl : ∀ r ∈ ranks, r ≠ [] ∧ r.length ≤ 1000 := fun r hr => by
    have := R.rl r hr
    exact ⟨fun z => by rw [z] at this; simp at this; omega, by omega⟩
  refine ⟨by decide, ranks, rfl, fun z => ?_, by omega, hrl, by decide, fun j s hj e => ?_, ?_⟩
  · rw [z] at hRn
    have := M.n1
    simp at hRn
    omega
  · rcases j with _ | _ | _ | _ | _ | _ | _ | _ | _ | j
    all_goals (try (simp only [List.getElem?_cons_zero, List.getElem?_cons_succ, Option.some.injEq] at e; subst e))
    all_goals (first | rfl | exact absurd rfl hj | skip)
    · simp at e
  have hrk0 : 0 < ranks.length := by rw [hRn]; exact M.n1
  generalize hn1 : ranks.length - 1 = n1
  have hn1l : n1 < ranks.length := by omega
  have hr0 := List.getElem?_eq_getElem hn1l
  generalize ranks[n1] = r0 at hr0
  have hr0m : r0 ∈ ranks := List.mem_of_getElem? hr0
  have hr0p : 0 < r0.length := List.length_pos_iff.mpr (hrl r0 hr0m).1
  have hk0 := List.getElem?_eq_getElem hr0p
  generalize r0[0] = k0 at hk0
  have hk12 : k0 ≤ 12 := R.rb r0 hr0m k0 (List.mem_of_getElem? hk0)
  have hro : (oN ranks)[n1]? = some (ofN r0) := by
    show (List.map _ ranks)[n1]? = _
    rw [List.getElem?_map, hr0]
    rfl
  have hA : L2.atI (lD (oN ranks)) (-1) = some (.lst (iD (ofN r0))) := by
    unfold L2.atI ixN
    rw [if_neg (by decide), lD_len, if_pos (by omega), Option.bind_some, show ((-1 : Int) + (ranks.length : Int)).toNat = n1 from by omega]
    show (List.map _ (oN ranks))[n1]? = _
    rw [List.getElem?_map, hro]
    rfl
  have hB : L2.atI (iD (ofN r0)) 0 = some (.int (k0 : Nat)) := atI_nat (j := 0) (by
    show (List.map _ (List.map _ r0))[0]? = _
    rw [List.getElem?_map, List.getElem?_map, hk0]
    rfl)
  rw [hA]
  walk_at "ev"
  rw [hB]
  walk_at "ev"
  refine ite_far ?_
  obtain ⟨v, hv, hvk, hv12⟩ : ∃ v : Nat, (if decide (((k0 : Nat) : Int) < 12) = true then ((k0 : Nat) : Int) + 1 else 0) = ((v : Nat) : Int) ∧ v ≠ k0 ∧ v ≤ 12 := by
    by_cases h : k0 < 12
    · exact ⟨k0 + 1, by rw [if_pos (decide_eq_true (by omega))]; omega, by omega, by omega⟩
    · exact ⟨0, by rw [if_neg (by rw [decide_eq_false (by omega)]; exact Bool.false_ne_true)]; rfl, by omega, by omega⟩
  rw [hv]
  intro row hrow
  rw [hro] at hrow
  obtain rfl : ofN r0 = row := Option.some.inj hrow
  have hset : (oN ranks).set n1 ((ofN r0).set 0 (v : Nat)) = oN (ranks.set n1 (r0.set 0 v)) := by
    show (List.map _ ranks).set n1 ((List.map _ r0).set 0 (Int.ofNat v)) = _
    rw [← List.map_set, ← List.map_set]
  rw [hset]
  have hfar : ranks.set n1 (r0.set 0 v) ≠ ranks := fun z => by
    have h1 := congrArg (fun l : List (List Nat) => l[n1]?) z
    simp only [List.getElem?_set_self hn1l, hr0, Option.some.injEq] at h1
    have h2 := congrArg (fun l : List Nat => l[0]?) h1
    simp only [List.getElem?_set_self hr0p, hk0, Option.some.injEq] at h2
    exact hvk h2
  have Rf : Rk ls rows (ranks.set n1 (r0.set 0 v)) := by
    refine ⟨by rw [List.length_set]; exact R.n, fun r hr => ?_, fun r hr k hk => ?_⟩
    · rcases List.mem_or_eq_of_mem_set hr with h | h
      · exact R.rl r h
      · rw [h, List.length_set]
        exact R.rl r0 hr0m
    · rcases List.mem_or_eq_of_mem_set hr with h | h
      · exact R.rb r h k hk
      · rw [h] at hk
        rcases List.mem_or_eq_of_mem_set hk with h | h
        · exact R.rb r0 hr0m k h
        · omega
  generalize ranks.set n1 (r0.set 0 v) = far at hfar Rf
  rw [if_pos (by rw [szl]; omega)]
  have hq : ("q" : Str) ++ cutS ("rs" : Str) none (some ((ls.length : Int) - 1)) = tx (113 :: [114, 115].take (ls.length - 1)) := by
    rw [show ("q" : Str) = tx [113] from rfl, show ("rs" : Str) = tx [114, 115] from rfl]
    rcases (by omega : ls.length = 1 ∨ ls.length = 2 ∨ ls.length = 3) with h | h | h <;> rw [h] <;> rfl
  have hlq : ("q" : Str).length + (cutS ("rs" : Str) none (some ((ls.length : Int) - 1))).length ≤ sizeLine := by
    rw [← app_len, hq, tx_len, szl, List.length_cons, List.length_take]
    simp
    omega
  walk_at "ev"
  refine ⟨by decide, hlq, ?_⟩
  rw [hq]
  have hl2 : (113 :: [114, 115].take (ls.length - 1)).length = ls.length := by
    rw [List.length_cons, List.length_take, List.length_cons, List.length_cons, List.length_nil]
    omega
  have M2 : Mc (113 :: [114, 115].take (ls.length - 1)) rows := by
    refine ⟨?_, by omega, by omega, ?_, M.n1, M.n2, fun r hr => by rw [hl2]; exact M.rl r hr, M.rg⟩
    · rcases (by omega : ls.length = 1 ∨ ls.length = 2 ∨ ls.length = 3) with h | h | h <;> rw [h] <;> (unfold Low; decide)
    · rcases (by omega : ls.length = 1 ∨ ls.length = 2 ∨ ls.length = 3) with h | h | h <;> rw [h] <;> (unfold Rising; decide)
  have hlne : ls ≠ 113 :: [114, 115].take (ls.length - 1) := fun z => hnq (by rw [z]; exact List.mem_cons_self)
  have R2 : Rk (113 :: [114, 115].take (ls.length - 1)) rows ranks := ⟨R.n, fun r hr => by rw [hl2]; exact R.rl r hr, R.rb⟩
  generalize 113 :: [114, 115].take (ls.length - 1) = ls2 at hl2 M2 R2 hlne
  refine ⟨ls2, rows, rfl, M2, A, ?_⟩
  refine ⟨ls2, rows, ranks, _, rfl, M2, R2, rowsS_lD _, ?_⟩
  have eq1 : ∀ (ls' : List Nat) (ranks' : List (List Nat)) (Q' : Da → Prop), Q' (.bl (decide (ls = ls' ∧ rows = rows ∧ ranks = ranks'))) → R_Ranked___eq K [rkD K ls rows ranks, rkD K ls' rows ranks'] Q' := fun ls' ranks' Q' hq' => ⟨_, _, rfl, .inl ⟨ls, rows, ranks, ls', rows, ranks', rfl, rfl, hq'⟩⟩
  have fr : ∀ (ls' : List Nat) (ranks' : List (List Nat)), (fRk (He.ga K "Ranked") (He.ga K "Machine") (rkD K ls' rows ranks')).isSome = true := fun ls' ranks' => by simp [fRk]
  walk_at "ev"
  refine ⟨fr _ _, eq1 _ _ _ ⟨_, rfl, ?_⟩⟩
  rw [if_neg (by simp)]
  refine ⟨fr _ _, eq1 _ _ _ ⟨_, rfl, ?_⟩⟩
  rw [if_neg (by simp)]
  refine ⟨ls, rows, far, _, rfl, M, Rf, rowsS_lD _, ?_⟩
  refine ⟨fr _ _, eq1 _ _ _ ⟨_, rfl, ?_⟩⟩
  rw [if_neg (by simp [Ne.symm hfar])]
  refine ⟨ls, rows, far, _, rfl, M, Rf, rowsS_lD _, ?_⟩
  refine ⟨fr _ _, eq1 _ _ _ ⟨_, rfl, ?_⟩⟩
  rw [if_neg (by simp [Ne.symm hfar])]
  have eq2 : ∀ (d : Da) (Q' : Da → Prop), fRk (He.ga K "Ranked") (He.ga K "Machine") d = some false → Q' (.bl false) → R_Ranked___eq K [rkD K ls rows ranks, d] Q' := fun d Q' hd hq' => ⟨_, _, rfl, .inr ⟨hd, hq'⟩⟩
  have fmc : fRk (He.ga K "Ranked") (He.ga K "Machine") (mcD K ls rows) = some false := by
    show (if _ then _ else _) = _
    rw [if_neg T.ne_MR]
    exact if_pos rfl
  refine lc_map (xs := [.non, .int 0, mcD K ls rows, .lst (lD (oN ranks)), .str (reprR ls rows ranks), rkD K ls2 rows ranks, .tup [mcD K ls rows, .lst (lD (oN ranks))]]) (e0 := [.d (rkD K ls rows ranks), .d (mcD K ls rows), .d (netD ls rows), .d (.lst (lD (oN ranks))), .d (rkD K ls rows ranks), .d (.lst (lD (oN far))), .d (rkD K ls2 rows ranks), .u, .u]) (fun P h => ?_) rfl (by rw [szl]; simp) (fun _ => .bl false) (fun i x k k' hx hk => ?_) ?_
  · walk_at "ev"
    refine ⟨ls, rows, ranks, rfl, M, R, ?_⟩
    walk_at "ev"
    exact ⟨_, rfl, by rw [szl]; omega, by rw [szl]; omega, h⟩
  · have hx2 := List.mem_of_getElem? hx
    unfold lcB
    simp only [List.mem_cons, List.not_mem_nil, or_false] at hx2
    rcases hx2 with rfl | rfl | rfl | rfl | rfl | rfl | rfl
    · walk_at "ev"
      exact ⟨rfl, eq2 _ _ rfl ⟨_, rfl, hk⟩⟩
    · walk_at "ev"
      exact ⟨rfl, eq2 _ _ rfl ⟨_, rfl, hk⟩⟩
    · walk_at "ev"
      exact ⟨by rw [fmc]; rfl, eq2 _ _ fmc ⟨_, rfl, hk⟩⟩
    · walk_at "ev"
      exact ⟨rfl, eq2 _ _ rfl ⟨_, rfl, hk⟩⟩
    · walk_at "ev"
      exact ⟨rfl, eq2 _ _ rfl ⟨_, rfl, hk⟩⟩
    · walk_at "ev"
      refine ⟨fr _ _, eq1 _ _ _ ⟨_, rfl, ?_⟩⟩
      rw [decide_eq_false fun z => hlne z.1]
      exact hk
    · walk_at "ev"
      exact ⟨rfl, eq2 _ _ rfl ⟨_, rfl, hk⟩⟩
  walk_at "ev"
  refine ⟨List.replicate 7 false, rfl, ?_⟩
  exact q
end
end RK
-- LP
set_option Elab.async false
set_option linter.all false
set_option maxRecDepth 100000
set_option maxHeartbeats 4000000
namespace RK
open PySem PySem.Spec PyProof.Rows L2
local macro_rules
  | `(tactic| walk_at "ev") => `(tactic| try simp only [dVar, dC, dOp, dUn, kII, kIB, kI0, kSS, kAddS, kSign, flD, kEq, vS, onS, kIn, dasOf, dNil, dCons, dConsA, dTup, dLst, dAnd, dOr, dNot, dB, dAndT, dOrT, dNotT, dIf, dChain, kIx, dNoPart, dPart, dSlS, dSlL, dRev, dCB, k1, k2, lenD, kLen, kAll, kMax, kMM, kAbs, kInt, kList, kTuple, kSortI, kDivmod, onO, onDa, onInt, onBl, onStr, vL, onL, onT, vM, onM, toDa, dDGet, dDIn, dDGet2, dBM, dBM0, dBMS, onOwn, kAppend, kExtend, kPop, kPopAt, kClear, kIndex, kCount, kSIndex, lkF, dFld, dLR, dRg1, dRg2, dJoin, rvS, dgName, dgNil, dgCons, dgTup, diL, diT, diS, diR1, diR2, onLd, diZ, diE, diZSS, diZSL, diET, dNext, dSeq, dDrop, rtD, dRet, dRetN, dIfS, dNever, dSet, dAsg, dPar, dPar3, dFldS, dDPut, dFrz, dYes, startE, dCall, dCallM, isPot, dCallP, dMk, onObj, dMt, dPp, dCO, dRevA, kInv, kNeg, kLenO, kReprO, dFmtO, dFmtR, vD, kReprD, kReprB, dFmtD, kEqD, kCat, kCatT, clV, kIsi, kIsiT, kEqO, dCval, dCon, dJs, dJoined, diQ, diEQ, dLZ, kMulS, kSumL, dSS, kSortTs, dDisp1, dSeqF, dRetF, dMtF, dTold, dFar, fInt, fBool, fStr, fList, fSeq,
      List.map_cons, List.map_nil, List.cons_append, List.nil_append, List.length_cons, List.length_nil, List.replicate_succ, List.replicate_zero, List.append_nil, Nat.reduceAdd, Nat.reduceSub, Nat.zero_add, Nat.sub_self,
      List.getElem?_cons_zero, List.getElem?_cons_succ, List.getElem?_nil, List.set_cons_zero, List.set_cons_succ, Option.map_some, Option.map_none, List.reverse_cons, List.reverse_nil, Bool.not_true, Bool.not_false, Bool.false_eq_true, if_true, if_false, true_and, and_true, reduceCtorEq, wipeE, noOwn, Sl.own, List.all_cons, List.all_nil, Bool.and_true, Bool.true_and, Bool.and_self, List.length_map, List.not_mem_nil, not_false_eq_true, cx_K, cx_Kn, sn1, sn2, sn3, sn4, sn5, sgD, tx_list, tx_len, tx_app, tx_cut])
section
variable {P : Program} {w : World} {K : PySem.W.Frag} {mg : Str → Option Value} {base : Heap}
theorem ref_lst {K : PySem.W.Frag} {ta : TA} {da : DAT} (a : RA K ta da) : REF K (tLst ta) (dLst da) := by
  intro c G σ H env P Q S h post
  refine a c G σ H env _ _ S h fun vs rs G1 H1 e1 T1 w1 h1 => ?_
  obtain ⟨xs, ex, hl, h2⟩ := onO_some h1
  have av := w1.dasOf ex
  refine ⟨by rw [av.length]; exact hl, fun p hp => ?_⟩
  have hn0 : H p = none := by
    cases z : H p with
    | none => rfl
    | some x => exact absurd hp (T1.al p (by rw [z]; exact nn))
  exact post p _ _ G1 _ e1 (T1.trans (Stp.new T1.st hp)) hn0 (T1.st.free hp) upd_same av h2
abbrev R_law_pot : RR := fun ds Q => ∃ (ns : List Int) (k : Nat), ds = [.scr ns, .int ((k : Nat) : Int)] ∧ k ≤ 3 ∧ ns.length ≤ 1000 ∧ ∀ a b : Int, 0 ≤ a → 0 ≤ b → b < 2147483587 → Q (.lst [.int a, .int b])
theorem ok_law_pot (T : Txt K mg) : Df P w K mg base "_law_pot" 1 ["_law_script", "_law_k"] (spF K R_law_pot) := by
  obtain ⟨fd, F, b⟩ := q_law_pot T
  refine ⟨_, fd, okF F sc_law_pot (by rintro ds Q ⟨ns, k, rfl, hk, hl, q⟩; rfl) (by decide) (fun cdv A outer s H hr => ⟨_, _, ⟨
      (pss_cons (ps_set (i := 2) sc_law_pot.nd rfl (Or.inl rfl) (pe_op op_add (pe_op op_mul pe_int (pv 1)) pe_int))
      (pss_cons (ps_if (pt_cmpR op_lt (pv 1) (pe_callB call_len (by rfl) T.z_len boot_len (pa_cons (pv 0) pa_nil)) (nomark _)) (pss_one (ps_set (i := 2) sc_law_pot.nd rfl (Or.inl rfl) (pe_callB call_abs (by rfl) T.z_abs boot_abs (pa_cons (pe_ix ix_seq (pv 0) (pv 1) (fun _ _ => rfl)) pa_nil)))) pss_nil)
      (pss_one (ps_ret (pe_lst (pa_cons (pe_callB (call_max2 rfl) (by rfl) T.z_max boot_max (pa_cons pe_int (pa_cons (pe_op op_sub (pv 2) (pe_op op_pow pe_int pe_int)) pa_nil))) (pa_cons (pe_op op_add (pe_op op_mod (pe_callTy call_int1 (by rfl) T.z_int boot_int (pa_cons (pe_op op_add (pe_op op_mul (pe_op op_mod (pe_callTy call_int1 (by rfl) T.z_int boot_int (pa_cons (pv 2) pa_nil)) pe_int) (pe_op op_add (pe_op op_mul pe_int (pv 1)) pe_int)) pe_int) pa_nil)) pe_int) pe_int) pa_nil))))))),
      (rsf_seq (rs_set 2 (re_op ro_I0 (re_op ro_I (re_c fun _ => .int _) re_var) (re_c fun _ => .int _)))
      (rsf_seq (rs_if (rt_test (re_op ro_B0 re_var (re_CB rc_len (ra_cons re_var ra_nil)))) (rs_set 2 (re_CB rc_abs (ra_cons (re_op ro_ix re_var re_var) ra_nil))) rs_next)
      (rsf_ret (ref_lst (ra_consA (re_CB rc_max2 (ra_cons (re_c fun _ => .int _) (ra_cons (re_op ro_I0 re_var (re_op ro_I (re_c fun _ => .int _) (re_c fun _ => .int _))) ra_nil))) (ra_consA (re_op ro_I0 (re_op ro_I (re_CB rc_int (ra_cons (re_op ro_I0 (re_op ro_I (re_op ro_I (re_CB rc_int (ra_cons re_var ra_nil)) (re_c fun _ => .int _)) (re_op ro_I0 (re_op ro_I (re_c fun _ => .int _) re_var) (re_c fun _ => .int _))) (re_c fun _ => .int _)) ra_nil)) (re_c fun _ => .int _)) (re_c fun _ => .int _)) ra_nil))))))⟩, fun ds Q h => ?_⟩), T.g__law_pot, F.kp, b⟩
  obtain ⟨ns, k, rfl, hk, hl, q⟩ := h
  walk_at "ev"
  have two : CMul 2 (k : Int) := .inl ⟨by decide, by decide⟩
  have pw : CPow 10 18 := ⟨by decide, by decide, by decide⟩
  have ml : ∀ x y : Int, CMul (x % 2147483563) y := fun x y => .inl ⟨by omega, by omega⟩
  refine ⟨.inl ⟨by decide, by decide⟩, ?_⟩
  by_cases h : (k : Int) < (ns.length : Int)
  · rw [if_pos (decide_eq_true h), atI_nat (List.getElem?_eq_getElem (by omega))]
    exact ⟨pw, by decide, two, ml _ _, by decide, by rw [szl]; omega, q _ _ (by split <;> omega) (by omega) (by omega)⟩
  · rw [if_neg (by rw [decide_eq_false h]; exact Bool.false_ne_true)]
    exact ⟨pw, by decide, two, ml _ _, by decide, by rw [szl]; omega, q _ _ (by split <;> omega) (by omega) (by omega)⟩
end
end RK
-- R4
set_option Elab.async false
set_option linter.all false
set_option maxRecDepth 100000
set_option maxHeartbeats 4000000
/-! R4: Ranked(machine, ranks): its rows are new -/
namespace RK
open PySem PySem.Spec PyProof.Rows L2
local macro_rules
  | `(tactic| walk_at "ev") => `(tactic| try simp only [dVar, dC, dOp, dUn, kII, kIB, kI0, kSS, kAddS, kSign, flD, kEq, vS, onS, kIn, dasOf, dNil, dCons, dConsA, dTup, dLst, dAnd, dOr, dNot, dB, dAndT, dOrT, dNotT, dIf, dChain, kIx, dNoPart, dPart, dSlS, dSlL, dRev, dCB, k1, k2, lenD, kLen, kAll, kMax, kMM, kAbs, kInt, kList, kTuple, kSortI, kDivmod, onO, onDa, onInt, onBl, onStr, vL, onL, onT, vM, onM, toDa, dDGet, dDIn, dDGet2, dBM, dBM0, dBMS, onOwn, kAppend, kExtend, kPop, kPopAt, kClear, kIndex, kCount, kSIndex, lkF, dFld, dLR, dRg1, dRg2, dJoin, rvS, dgName, dgNil, dgCons, dgTup, diL, diT, diS, diR1, diR2, onLd, diZ, diE, diZSS, diZSL, diET, dNext, dSeq, dDrop, rtD, dRet, dRetN, dIfS, dNever, dSet, dAsg, dPar, dPar3, dFldS, dDPut, dFrz, dYes, startE, dCall, dCallM, isPot, dCallP, dMk, onObj, dMt, dPp, dCO, dRevA, kInv, kNeg, kLenO, kReprO, dFmtO, dFmtR, vD, kReprD, kReprB, dFmtD, kEqD, kCat, kCatT, clV, kIsi, kIsiT, kEqO, dCval, dCon, dJs, dJoined, diQ, diEQ, dLZ, kMulS, kSumL, dSS, kSortTs, dDisp1, fInt, fBool, fStr, fList, fSeq,
      List.map_cons, List.map_nil, List.cons_append, List.nil_append, List.length_cons, List.length_nil, List.replicate_succ, List.replicate_zero, List.append_nil, Nat.reduceAdd, Nat.reduceSub, Nat.zero_add, Nat.sub_self,
      List.getElem?_cons_zero, List.getElem?_cons_succ, List.getElem?_nil, List.set_cons_zero, List.set_cons_succ, Option.map_some, Option.map_none, List.reverse_cons, List.reverse_nil, Bool.not_true, Bool.not_false, Bool.false_eq_true, if_true, if_false, true_and, and_true, reduceCtorEq, wipeE, noOwn, Sl.own, List.all_cons, List.all_nil, Bool.and_true, Bool.true_and, Bool.and_self, List.length_map, List.not_mem_nil, not_false_eq_true, cx_K, cx_Kn, sn1, sn2, sn3, sn4, sn5, sgD, tx_list, tx_len, tx_app, tx_cut])
/-- rows as data, in lists and tuples -/
theorem rows_gd {K : PySem.W.Frag} {G H : Hp} (s : Same G H) {v : V} {gd : Da} {ranks : List (List Nat)} (a : At K G v gd) (h : RowsS gd ranks) :
    ∃ p us, v = .ref p ∧ (G p = some (.lst us) ∨ G p = some (.tup us)) ∧ us.length = ranks.length ∧ RowsAt K H us (oN ranks) := by
  obtain ⟨xs, hx, hl, hr⟩ := h
  have key : ∀ us : List V, Ats K G us xs → us.length = ranks.length ∧ RowsAt K H us (oN ranks) := fun us au => by
    have hlen : us.length = ranks.length := by rw [au.length, hl]
    refine ⟨hlen, by rw [hlen]; simp [oN], fun j u r e1 e2 => ?_⟩
    have hj : j < xs.length := by rw [← au.length]; exact (List.getElem?_eq_some_iff.mp e1).1
    obtain ⟨v', e3, av⟩ := au.get (List.getElem?_eq_getElem hj)
    rw [e1] at e3
    cases e3
    obtain ⟨r', hr', hs⟩ := hr j _ (List.getElem?_eq_getElem hj)
    have : r = ofN r' := by
      have h1 : (List.map _ ranks)[j]? = some r := e2
      rw [List.getElem?_map, hr'] at h1
      exact (Option.some.inj h1).symm
    subst this
    rcases hs with e | e
    · rw [e] at av
      cases av with
      | lst g a => exact ⟨_, rfl, .inl (.of (by rw [← a.ints]; exact s _ _ g))⟩
    · rw [e] at av
      cases av with
      | tup g a => exact ⟨_, rfl, .inr (.of (by rw [← a.ints]; exact s _ _ g))⟩
  rcases hx with rfl | rfl
  · cases a with
    | @lst p us _ g au =>
      obtain ⟨h1, h2⟩ := key us au
      exact ⟨p, us, rfl, .inl g, h1, h2⟩
  · cases a with
    | @tup p us _ g au =>
      obtain ⟨h1, h2⟩ := key us au
      exact ⟨p, us, rfl, .inr g, h1, h2⟩
theorem pf1 (a : V) : putF "own_machine" a [] = [(("own_machine" : Str), a)] := rfl
theorem pf2 (a b : V) : putF "own_letters" b [(("own_machine" : Str), a)] = [(("own_machine" : Str), a), (("own_letters" : Str), b)] := putF_new (by show ("own_letters" : Str) ∉ (["own_machine"] : List Str); decide)
theorem pf3 (a b c : V) : putF "own_ranks" c [(("own_machine" : Str), a), (("own_letters" : Str), b)] = [(("own_machine" : Str), a), (("own_letters" : Str), b), (("own_ranks" : Str), c)] := putF_new (by show ("own_ranks" : Str) ∉ (["own_machine", "own_letters"] : List Str); decide)
def spInitF (K : PySem.W.Frag) : Pr := fun vs H Q => ∃ (x dx : Addr) (vm v2 : V) (G : Hp) (ls : List Nat) (rows ranks : List (List Nat)) (gd : Da), vs = [.ref x, vm, v2] ∧ H x = some (.ins (He.ga K "Ranked") dx []) ∧ G x = none ∧ Same G H ∧
  At K G vm (mcD K ls rows) ∧ At K G v2 gd ∧ Mc ls rows ∧ Rk ls rows ranks ∧ RowsS gd ranks ∧
  ∀ (H2 H3 : Hp) (a dx' : Addr) (qs : List Addr), (∀ b o, H b = some o → b ≠ x → H2 b = some o) → H2 x ≠ none → NewRows H2 H3 a qs (oN ranks) → Q .non (upd H3 x (.ins (He.ga K "Ranked") dx' [("own_machine", vm), ("own_letters", .str (tx ls)), ("own_ranks", .ref a)]))
section
variable {P : Program} {w : World} {K : PySem.W.Frag} {mg : Str → Option Value} {base : Heap}
theorem ok_Ranked___initF (T : Txt K mg) : Dk P w K mg base "Ranked" (He.ga K "Ranked") 5 ["self", "machine", "ranks"] (spInitF K) := by
  obtain ⟨fd, F, b, b2⟩ := q_Ranked___init T
  refine ⟨_, fd, okG F sc_Ranked___init (fun vs H Q ⟨x, dx, vm, v2, G, ls, rows, ranks, gd, e, _⟩ => by rw [e]; rfl) (fun cdv A outer s H vs Q hr h => ⟨tSeq (tIfS (tNot (tB (tCB (rIsi K) (tCons (tVar 1) (tCons (tC (.ref (He.ga K "Machine"))) tNil))))) tNever tNext)
      (tSeq (tDrop (tCl (spD K (R_want_ranks K)) (tCons (tVar 1) (tCons (tVar 2) tNil))))
      (tSeq (sFld K (tVar 0) (tVar 1) "own_machine")
      (tSeq (sFld K (tVar 0) (tPp (He.ga K "Machine") (spD K (R_Machine_letters K)) (tVar 1)) "own_letters")
      (sFld K (tVar 0) (tLc (iSeq K (tVar 2)) (gName 3) tYes (tCB (rLo K) (tCons (tVar 3) tNil)) [3]) "own_ranks")))),
      (pss_cons (ps_if (pt_not (pt_val (pe_callB call_isi (by rfl) T.z_isinstance boot_isinstance (pa_cons (pv 1) (pa_cons (pe_glob (v := .ref (He.ga K "Machine")) rfl T.g_Machine rfl) pa_nil))))) (pss_one ps_never) pss_nil)
      (pss_cons (ps_expr (pe_callD (ok_want_ranks T) hr (pa_cons (pv 1) (pa_cons (pv 2) pa_nil))))
      (pss_cons (ps_fld (pv 0) (pv 1) rfl)
      (pss_cons (ps_fld (pv 0) (pe_propD T.cl_Machine (ok_Machine_letters T) hr (pv 1)) rfl)
      (pss_one (ps_fld (pv 0) (pe_lc (own := [("row_here", 3)]) (g := gName 3) (tt := tYes) rfl sc_Ranked___init.nd (pi_seq (pv 2)) (blkOk_by (by kernel_rfl)) (fun _ _ _ _ _ => (pg_name (i := 3) sc_Ranked___init.nd rfl (Or.inl rfl))) (fun _ _ _ _ _ => pts_nil) (fun _ _ _ _ _ => by exact (pe_callTy call_list_of (by rfl) T.z_list boot_list (pa_cons (pv 3) pa_nil)))) rfl)))))), ?_⟩), T.mk_Ranked, T.g_Ranked, b, b2⟩
  obtain ⟨x, dx, vm, v2, G, ls, rows, ranks, gd, rfl, hx, gx, g, am, a2, M, R, hgd, q⟩ := h
  -- the slots at the start
  have S0 : Stt K ⟨H, G, fun b => b = x⟩ G (L2.start ["self", "machine", "ranks", "row_here"] [.ref x, vm, v2]) H [.self (He.ga K "Ranked") [] [], .d (mcD K ls rows), .d gd, .u] := by
    refine ⟨rfl, fun b o e _ => e, fun b e => e, Same.refl G, g, fun b e1 _ => e1, fun i s e => ?_, fun i j p' h1 h2 => ?_⟩
    · rcases i with _ | _ | _ | _ | i
      · cases e
        exact ⟨_, rfl, x, dx, [], rfl, gx, rfl, hx, rfl, .nil⟩
      · cases e
        exact ⟨_, rfl, vm, rfl, am⟩
      · cases e
        exact ⟨_, rfl, v2, rfl, a2⟩
      · cases e
        exact ⟨_, rfl, True.intro⟩
      · cases e
    · have own0 : ∀ i p', Own (L2.start ["self", "machine", "ranks", "row_here"] [.ref x, vm, v2]) [.self (He.ga K "Ranked") [] [], .d (mcD K ls rows), .d gd, .u] i p' → i = 0 := fun i p' ⟨s, e, ho, _⟩ => by
        rcases i with _ | _ | _ | _ | i
        · rfl
        · cases e; cases ho
        · cases e; cases ho
        · cases e; cases ho
        · cases e
      rw [own0 i p' h1, own0 j p' h2]
  generalize hσ : L2.start ["self", "machine", "ranks", "row_here"] [.ref x, vm, v2] = σ at S0
  have s0 : σ[0]? = some (some (.ref x)) := by rw [← hσ]; rfl
  have s1 : σ[1]? = some (some vm) := by rw [← hσ]; rfl
  have s2 : σ[2]? = some (some v2) := by rw [← hσ]; rfl
  have sl : 3 < σ.length := by rw [← hσ]; simp [L2.start]
  generalize henv : [Sl.self (He.ga K "Ranked") [] [], .d (mcD K ls rows), .d gd, .u] = env at S0
  simp only [tSeq, tIfS, tDrop, tNext]
  refine (rt_not (rt_B (re_CB (rc_isi T.isi_Machine rfl) (ra_cons re_var (ra_cons (re_c fun _ => .cls _) ra_nil))))) _ G σ H env (fun b e => b = false ∧ e = env) _ S0 ?_ fun bb G1 H1 e1 T1 hb => ?_
  · subst henv
    walk_at "ev"
    simp only [fOwn, if_true]
    walk_at "ev"
  obtain ⟨rfl, rfl⟩ := hb
  rw [if_neg Bool.false_ne_true]
  refine (re_call (R := R_want_ranks K) (ra_consA re_var (ra_consA re_var ra_nil))) _ G1 σ H1 e1 (fun _ e => e = e1) _ T1.st ?_ fun v r G2 H2 e2 T2 w2 hr2 => ?_
  · subst henv
    walk_at "ev"
    exact ⟨ls, rows, ranks, gd, rfl, M, R, hgd, True.intro⟩
  subst hr2
  have own0 : ∀ i b, Own σ e2 i b → b = x := fun i b ⟨s, e, ho, hs⟩ => by
    rw [← henv] at e
    rcases i with _ | _ | _ | _ | i
    · rw [s0] at hs
      cases hs
      rfl
    · cases e; cases ho
    · cases e; cases ho
    · cases e; cases ho
    · cases e
  have k2 : ∀ b o, H b = some o → b ≠ x → H2 b = some o := fun b o e hb => T2.kp b o (T1.kp b o e fun i w => hb (own0 i b w)) fun i w => hb (own0 i b w)
  obtain ⟨dx2, hx2⟩ : ∃ dx2, H2 x = some (.ins (He.ga K "Ranked") dx2 []) := by
    obtain ⟨o, eo, p', dx', fs, e3, _, _, hp', hk', _⟩ := T2.st.sl 0 (.self (He.ga K "Ranked") [] []) (by rw [← henv]; rfl)
    rw [s0] at eo
    cases eo
    cases e3
    rw [List.map_eq_nil_iff.mp hk'] at hp'
    exact ⟨dx', hp'⟩
  have am0 := am
  cases am with
  | @obj pm Cm dxm fsm nsm dsm hgm hkm hvm =>
    have pmx : pm ≠ x := fun z => by rw [z, gx] at hgm; cases hgm
    have gk : ∀ H' : Hp, (∀ b o, H b = some o → b ≠ x → H' b = some o) → Same G H' := fun H' k b o e => k b o (g b o e) (fun z => by rw [z, gx] at e; cases e)
    refine ⟨_, s1, .ref x, s0, x, _, dx2, [], rfl, hx2, T.cl_Ranked, T.na_Ranked_own_machine, by decide, ?_⟩
    have k3 : ∀ o', ∀ b o, H b = some o → b ≠ x → (upd H2 x o') b = some o := fun o' b o e hb => by rw [upd_ne hb]; exact k2 b o e hb
    refine ⟨_, s1, pm, dxm, fsm, rfl, gk _ (k3 _) _ _ hgm, G, [mcD K ls rows], fun d => d = .str (tx ls), gk _ (k3 _), .cons am0 .nil, ⟨ls, rows, rfl, rfl⟩, fun v' d H4 G4 hd hh _ _ _ av => ?_⟩
    subst hd
    cases av
    rw [pf1] at hh
    refine ⟨.ref x, s0, x, _, dx2, _, rfl, hh _ _ upd_same, T.cl_Ranked, T.na_Ranked_own_letters, by simp, ?_⟩
    have k5 : ∀ o', ∀ b o, H b = some o → b ≠ x → (upd H4 x o') b = some o := fun o' b o e hb => by rw [upd_ne hb]; exact hh _ _ (k3 _ b o e hb)
    rw [pf2]
    generalize hH5 : upd H4 x _ = H5
    have k5' : ∀ b o, H b = some o → b ≠ x → H5 b = some o := fun b o e hb => by rw [← hH5]; exact k5 _ b o e hb
    have hx5 : H5 x = some (.ins (He.ga K "Ranked") dx2 [(("own_machine" : Str), V.ref pm), (("own_letters" : Str), V.str (tx ls))]) := by rw [← hH5]; exact upd_same
    have g5 := gk H5 k5'
    obtain ⟨p2, us, rfl, hp2, hlen, hra⟩ := rows_gd g5 a2 hgd
    have hRn := R.n
    have hMn := M.n2
    show sFld K (tVar 0) (tLc (iSeq K (tVar 2)) (gName 3) tYes (tCB (rLo K) (tCons (tVar 3) tNil)) [3]) "own_ranks" { nx := fun _ H' => Q V.non H', rt := Q } σ H5
    unfold sFld
    refine cp_rows (a := p2) (us := us) (List.mem_singleton.mpr rfl) sl hra (by rw [hlen, szl]; omega) (fun R' hR => ?_) ?_ fun p qs H6 N => ?_
    · refine ⟨_, s2, p2, rfl, ?_⟩
      rcases hp2 with h | h
      · exact .inl ⟨⟨_, .of (g5 _ _ h)⟩, hR.1 (.of (g5 _ _ h))⟩
      · exact .inr ⟨⟨_, .of (g5 _ _ h)⟩, hR.2 (.of (g5 _ _ h))⟩
    · exact hp2.imp (fun h => .of (g5 _ _ h)) fun h => .of (g5 _ _ h)
    · refine ⟨.ref x, s0, x, _, dx2, _, rfl, N.same _ _ hx5, T.cl_Ranked, T.na_Ranked_own_ranks, by simp, ?_⟩
      rw [pf3]
      exact q H5 H6 p dx2 qs k5' (by rw [hx5]; exact nn) N
end
end RK
-- R5
set_option Elab.async false
set_option linter.all false
set_option maxRecDepth 100000
set_option maxHeartbeats 4000000
/-! R5: rows as drawn lists and tuples, beside the pot -/
namespace RK
open PySem PySem.Spec PyProof.Rows L2
section
variable {K : PySem.W.Frag} {c : Ctx} {G G' H H' H2 : Hp} {σ σ' : L2.St} {env : En} {pp D q : Addr} {qs : List Addr} {rows : List (List Int)}
theorem PotAt.nn (h : PotAt H pp) : H pp ≠ none := by
  obtain ⟨a, b, e, _⟩ := h
  rw [e]
  intro z
  cases z
/-- the pot turned, all else stands, the frame grew -/
theorem Stt.moveP (S : Stt K c G σ H env) (h0 : env[0]? = some .pot) (hs0 : σ[0]? = some (some (.ref pp))) (no : ∀ (j : Nat) (s : Sl), j ≠ 0 → env[j]? = some s → s.own = false)
    (keep : ∀ b o, H b = some o → b ≠ pp → H' b = some o) (pot : PotAt H' pp) (gg : Same G G') (gh : Same G' H') (gf : ∀ b, H b ≠ none → G b = none → G' b = none) : Stt K c G' σ H' env := by
  obtain ⟨o, eo, p', e1, gp, hb, hp⟩ := S.sl 0 _ h0
  rw [hs0] at eo
  cases eo
  cases e1
  refine ⟨S.len, fun b o e n => keep b o (S.base b o e n) (fun z => n (by rw [z]; exact hb)), fun b e => ?_, S.g0.trans gg, gh, fun b e1 e2 => gf b (S.al b e2) (S.gf b e1 e2), fun i s e => ?_, S.ap⟩
  · by_cases hbp : b = pp
    · rw [hbp]
      exact pot.nn
    · cases z : H b with
      | none => exact absurd z (S.al b e)
      | some x =>
        rw [keep b x z hbp]
        intro z
        cases z
  · by_cases hi : i = 0
    · subst hi
      rw [h0] at e
      cases e
      exact ⟨_, hs0, pp, rfl, gf pp hp.nn gp, hb, pot⟩
    · obtain ⟨o, eo, w⟩ := S.sl i s e
      have hso := no i s hi e
      refine ⟨o, eo, w.grow gg (fun p x _ w => ?_) fun p _ w => ?_⟩ <;> (rw [hso] at w; cases w)
/-- a slot is forgotten -/
theorem Stt.setU (S : Stt K c G σ H env) (i : Nat) (v : Option V) : Stt K c G (σ.set i v) H (env.set i .u) := by
  have back : ∀ (j : Nat) (s : Sl), (env.set i .u)[j]? = some s → s.own = true → j ≠ i ∧ env[j]? = some s := fun j s e ho => by
    by_cases hj : j = i
    · subst hj
      by_cases hl : j < env.length
      · rw [List.getElem?_set_self hl] at e
        cases e
        cases ho
      · rw [List.getElem?_eq_none (by rw [List.length_set]; omega)] at e
        cases e
    · rw [List.getElem?_set_ne (Ne.symm hj)] at e
      exact ⟨hj, e⟩
  have own : ∀ j p, Own (σ.set i v) (env.set i .u) j p → Own σ env j p := fun j p ⟨s, e, ho, hs⟩ => by
    obtain ⟨hj, e2⟩ := back j s e ho
    rw [List.getElem?_set_ne (Ne.symm hj)] at hs
    exact ⟨s, e2, ho, hs⟩
  refine ⟨by rw [List.length_set, List.length_set]; exact S.len, S.base, S.al, S.g0, S.gh, S.gf, fun j s e => ?_, fun j l p h1 h2 => S.ap j l p (own j p h1) (own l p h2)⟩
  by_cases hj : j = i
  · subst hj
    have hl : j < env.length := by
      have := (List.getElem?_eq_some_iff.mp e).1
      rw [List.length_set] at this
      exact this
    rw [List.getElem?_set_self hl] at e
    cases e
    exact ⟨v, by rw [List.getElem?_set_self (by rw [S.len]; exact hl)], True.intro⟩
  · rw [List.getElem?_set_ne (Ne.symm hj)] at e
    obtain ⟨o, eo, w⟩ := S.sl j s e
    exact ⟨o, by rw [List.getElem?_set_ne (Ne.symm hj)]; exact eo, w⟩
/-- a slot that nobody knows may hold anything -/
theorem Stt.loose (S : Stt K c G σ H env) (i : Nat) (hi : env[i]? = some .u) (hl : σ'.length = σ.length) (h : ∀ j, j ≠ i → σ'[j]? = σ[j]?) : Stt K c G σ' H env := by
  have own : ∀ j p, Own σ' env j p → Own σ env j p := fun j p ⟨s, e, ho, hs⟩ => by
    have hj : j ≠ i := fun z => by
      rw [z, hi] at e
      cases e
      cases ho
    rw [h j hj] at hs
    exact ⟨s, e, ho, hs⟩
  refine ⟨hl.trans S.len, S.base, S.al, S.g0, S.gh, S.gf, fun j s e => ?_, fun j l p h1 h2 => S.ap j l p (own j p h1) (own l p h2)⟩
  by_cases hj : j = i
  · subst hj
    rw [hi] at e
    cases e
    have : j < σ'.length := by rw [hl, S.len]; exact (List.getElem?_eq_some_iff.mp hi).1
    exact ⟨_, List.getElem?_eq_getElem this, True.intro⟩
  · obtain ⟨o, eo, w⟩ := S.sl j s e
    exact ⟨o, by rw [h j hj]; exact eo, w⟩
/-- the rows as they were drawn: new lists and tuples in a new list -/
structure Given (H H' : Hp) (pp D : Addr) (qs : List Addr) (rows : List (List Int)) : Prop where
  keep : ∀ b o, H b = some o → b ≠ pp → H' b = some o
  pot : PotAt H' pp
  dn : H D = none
  dl : H' D = some (.lst (qs.map V.ref))
  len : qs.length = rows.length
  row : ∀ (j : Nat) (q : Addr) (r : List Int), qs[j]? = some q → rows[j]? = some r → H q = none ∧ q ≠ D ∧ (H' q = some (.lst (r.map V.int)) ∨ H' q = some (.tup (r.map V.int)))
  nd : qs.Nodup
theorem Given.at_ (N : Given H H' pp D qs rows) (h : q ∈ qs) : ∃ (j : Nat) (r : List Int), qs[j]? = some q ∧ rows[j]? = some r := by
  obtain ⟨j, hj⟩ := List.getElem?_of_mem h
  have hjl : j < rows.length := by rw [← N.len]; exact (List.getElem?_eq_some_iff.mp hj).1
  exact ⟨j, _, hj, List.getElem?_eq_getElem hjl⟩
theorem Given.qn (N : Given H H' pp D qs rows) (h : q ∈ qs) : H q = none := by
  obtain ⟨j, r, h1, h2⟩ := N.at_ h
  exact (N.row j q r h1 h2).1
theorem Given.mono (N : Given H H' pp D qs rows) (hpp : H pp ≠ none) (k : ∀ b o, H' b = some o → b ≠ pp → H2 b = some o) (pot : PotAt H2 pp) : Given H H2 pp D qs rows := by
  have nD : D ≠ pp := fun z => hpp (by rw [← z]; exact N.dn)
  refine ⟨fun b o e hb => k b o (N.keep b o e hb) hb, pot, N.dn, k _ _ N.dl nD, N.len, fun j q r e1 e2 => ?_, N.nd⟩
  obtain ⟨h1, h2, h3⟩ := N.row j q r e1 e2
  have nq : q ≠ pp := fun z => hpp (by rw [← z]; exact h1)
  exact ⟨h1, h2, h3.imp (fun h => k _ _ h nq) fun h => k _ _ h nq⟩
theorem Given.snoc (N : Given H H' pp D qs rows) (hpp : H pp ≠ none) {r : List Int} (hq : H' q = none) {o : HO} (ho : o = .lst (r.map V.int) ∨ o = .tup (r.map V.int)) :
    Given H (upd (upd H' q o) D (.lst (qs.map V.ref ++ [V.ref q]))) pp D (qs ++ [q]) (rows ++ [r]) := by
  have hqD : q ≠ D := fun z => by
    rw [z, N.dl] at hq
    cases hq
  have hqp : q ≠ pp := fun z => N.pot.nn (by rw [← z]; exact hq)
  have hDp : D ≠ pp := fun z => hpp (by rw [← z]; exact N.dn)
  have hqn : H q = none := by
    cases z : H q with
    | none => rfl
    | some x => rw [N.keep q x z hqp] at hq; cases hq
  have nq : ∀ q' ∈ qs, q' ≠ q := fun q' hm z => by
    obtain ⟨j, r', h1, h2⟩ := N.at_ hm
    obtain ⟨_, _, h3⟩ := N.row j q' r' h1 h2
    rw [z, hq] at h3
    rcases h3 with h | h <;> cases h
  refine ⟨fun b o e hb => ?_, ?_, N.dn, ?_, by rw [List.length_append, List.length_append, N.len]; rfl, fun j q' r' e1 e2 => ?_, ?_⟩
  · rw [upd_ne (ne_of_none e N.dn), upd_ne (ne_of_none e hqn)]
    exact N.keep b o e hb
  · obtain ⟨a, b, e, h⟩ := N.pot
    exact ⟨a, b, by rw [upd_ne hDp.symm, upd_ne hqp.symm]; exact e, h⟩
  · rw [upd_same, List.map_append]
    rfl
  · by_cases hj : j < qs.length
    · rw [List.getElem?_append_left hj] at e1
      rw [List.getElem?_append_left (by rw [← N.len]; exact hj)] at e2
      obtain ⟨h1, h2, h3⟩ := N.row j q' r' e1 e2
      refine ⟨h1, h2, ?_⟩
      rw [upd_ne h2, upd_ne (nq q' (List.mem_of_getElem? e1))]
      exact h3
    · rw [List.getElem?_append_right (by omega)] at e1
      rw [List.getElem?_append_right (by rw [← N.len]; omega), ← N.len] at e2
      cases hk : j - qs.length with
      | zero =>
        rw [hk] at e1 e2
        cases e1
        cases e2
        refine ⟨hqn, hqD, ?_⟩
        rw [upd_ne hqD, upd_same]
        rcases ho with rfl | rfl
        · exact .inl rfl
        · exact .inr rfl
      | succ k =>
        rw [hk] at e1
        cases e1
  · refine List.nodup_append.mpr ⟨N.nd, by simp, fun a ha b hb z => ?_⟩
    rw [List.mem_singleton.mp hb] at z
    exact nq a ha z
theorem rows_lst : ∀ {us : List V} {rows : List (List Int)}, Ats K G us (lD rows) → ∀ (j : Nat) (u : V) (r : List Int), us[j]? = some u → rows[j]? = some r → ∃ q : Addr, u = .ref q ∧ G q = some (.lst (r.map V.int)) := fun {us rows} h j u r e1 e2 => by
  obtain ⟨v, e3, av⟩ := h.get (i := j) (d := .lst (iD r)) (by rw [List.getElem?_map, e2]; rfl)
  rw [e1] at e3
  cases e3
  cases av with
  | lst g a => exact ⟨_, rfl, by rw [← a.ints]; exact g⟩
/-- tuple(x), as call_tuple_of reads it -/
abbrev rTo (K : PySem.W.Frag) : List V → Hp → VK → Prop := fun xs H Q => ∃ p ys, xs = [.ref p] ∧ ((SqL K H p ys ∧ ∀ l, H l = none → Q (.ref l) (upd H l (.tup ys))) ∨ (SqT K H p ys ∧ Q (.ref p) H))
abbrev tGv (K : PySem.W.Frag) : TE := tLc (iList K (tVar 2)) (gName 4) tYes (tIf (tTest (tOp rEq (tCl (spP K R_law_draw) (tCons (tVar 0) (tCons (tC (.int 2)) tNil))) (tC (.int 0)))) (tCB (rTo K) (tCons (tVar 4) tNil)) (tCB (rLo K) (tCons (tVar 4) tNil))) [4]
theorem given_rows {us : List V} {a : Addr} {Q : VK} (s0 : σ[0]? = some (some (.ref pp))) (s2 : σ[2]? = some (some (.ref a))) (hl : 4 < σ.length) (g : Same G H) (gp : G pp = none) (pot : PotAt H pp)
    (ga : G a = some (.lst us)) (au : Ats K G us (lD rows)) (hn : rows.length < 1000) (hq : ∀ D qs H', Given H H' pp D qs rows → Q (.ref D) H') : tGv K σ H Q := by
  have hlen : us.length = rows.length := by rw [au.length, List.length_map]
  have ka : ∀ {H' : Hp}, (∀ b o, H b = some o → b ≠ pp → H' b = some o) → ∀ b o, G b = some o → H' b = some o := fun k b o e => k b o (g b o e) (fun z => by rw [z, gp] at e; cases e)
  refine ⟨.ref a, s2, a, rfl, ⟨us, .of (g _ _ ga)⟩, fun D hD => lc_list (K := K) (a := a) (xs := us) (fun j H' => ∃ qs, Given H H' pp D qs (rows.take j)) ⟨[], ?_⟩ (fun j H' _ ⟨qs, N⟩ => .of (ka N.keep _ _ ga)) (fun j x H' hx ⟨qs, N⟩ => ?_) fun H' ⟨qs, N⟩ => ?_⟩
  · have hDp : pp ≠ D := fun z => pot.nn (by rw [z]; exact hD)
    refine ⟨fun b o e _ => by rw [upd_ne (ne_of_none e hD)]; exact e, ?_, hD, upd_same, by simp, fun j q r e => by simp at e, by simp⟩
    obtain ⟨x, y, e, h⟩ := pot
    exact ⟨x, y, by rw [upd_ne hDp]; exact e, h⟩
  · have hjl : j < rows.length := by rw [← hlen]; exact (List.getElem?_eq_some_iff.mp hx).1
    have hrj := List.getElem?_eq_getElem hjl
    generalize rows[j] = r at hrj
    obtain ⟨q0, rfl, hq0⟩ := rows_lst au j x r hx hrj
    refine ⟨(wipe_set (by simp)).trans (wipe_wipe σ _), ?_⟩
    have e0 : ((wipe σ [4]).set 4 (some (V.ref q0)))[0]? = some (some (.ref pp)) := by
      rw [List.getElem?_set_ne (by decide), wipe_get, if_neg (by simp)]
      exact s0
    have e4 : ((wipe σ [4]).set 4 (some (V.ref q0)))[4]? = some (some (.ref q0)) := by rw [List.getElem?_set_self (by rw [wipe_length]; exact hl)]
    simp only [tYes, if_true]
    refine ⟨_, e0, pp, [.int 2], fun _ => none, [.int 2], fun d => ∃ n : Nat, d = .int (n : Nat), rfl, N.pot, rfl, (fun b o e => by cases e), .cons (.int 2) .nil, ⟨2, rfl, by omega, by omega, fun d hd => ⟨d, rfl⟩⟩, fun v d H2 G2 hd hk hp _ _ _ av => ?_⟩
    obtain ⟨n, rfl⟩ := hd
    cases av
    have N2 := N.mono pot.nn hk hp
    have hq2 : H2 q0 = some (.lst (r.map V.int)) := ka N2.keep _ _ hq0
    have hDn : ∀ l, H2 l = none → D ≠ l := fun l hl' z => by rw [← z, N2.dl] at hl'; cases hl'
    have hlast : ∀ (l : Addr) (o : HO), H2 l = none → o = .lst (r.map V.int) ∨ o = .tup (r.map V.int) → ∃ acc, (upd H2 l o) D = some (.lst acc) ∧ acc.length < sizeLine ∧ ∃ qs, Given H (upd (upd H2 l o) D (.lst (acc ++ [V.ref l]))) pp D qs (rows.take (j + 1)) := fun l o hl' ho => by
      refine ⟨qs.map V.ref, by rw [upd_ne (hDn l hl')]; exact N2.dl, ?_, qs ++ [l], ?_⟩
      · rw [List.length_map, N2.len, List.length_take, szl]
        omega
      · rw [List.take_add_one, hrj]
        exact N2.snoc pot.nn hl' ho
    refine ⟨rfl, _, rfl, ite2 (fun _ => ?_) fun _ => ?_⟩
    · exact ⟨_, e4, q0, _, rfl, .inl ⟨.of hq2, fun l hl' => hlast l _ hl' (.inr rfl)⟩⟩
    · exact ⟨_, e4, q0, _, rfl, .inl (.of hq2), fun l hl' => hlast l _ hl' (.inl rfl)⟩
  · rw [hlen, List.take_length] at N
    exact hq D qs H' N
end
end RK
-- R6
set_option Elab.async false
set_option linter.all false
set_option maxRecDepth 100000
set_option maxHeartbeats 4000000
/-! R6: the drawn rows: given to Ranked, asked, changed, dropped -/
namespace RK
open PySem PySem.Spec PyProof.Rows L2
theorem given_data {K : PySem.W.Frag} {G : Hp} : ∀ {qs : List Addr} {rows : List (List Int)}, qs.length = rows.length → (∀ (j : Nat) (q : Addr) (r : List Int), qs[j]? = some q → rows[j]? = some r → G q = some (.lst (r.map V.int)) ∨ G q = some (.tup (r.map V.int))) →
    ∃ xs, Ats K G (qs.map V.ref) xs ∧ xs.length = rows.length ∧ ∀ (i : Nat) (d : Da), xs[i]? = some d → ∃ r, rows[i]? = some r ∧ (d = .lst (iD r) ∨ d = .tup (iD r))
  | [], [], _, _ => ⟨[], .nil, rfl, fun i d e => by simp at e⟩
  | q :: qs, r :: rows, hl, h => by
    obtain ⟨xs, h1, h2, h3⟩ := given_data (K := K) (G := G) (qs := qs) (rows := rows) (by simpa using hl) fun j q' r' e1 e2 => h (j + 1) q' r' (by simpa using e1) (by simpa using e2)
    rcases h 0 q r rfl rfl with e | e
    · refine ⟨.lst (iD r) :: xs, .cons (.lst e (Ats.ofInts r)) h1, by simp [h2], fun i d ed => ?_⟩
      cases i with
      | zero => exact ⟨r, rfl, .inl (Option.some.inj ed).symm⟩
      | succ i => exact h3 i d (by simpa using ed)
    · refine ⟨.tup (iD r) :: xs, .cons (.tup e (Ats.ofInts r)) h1, by simp [h2], fun i d ed => ?_⟩
      cases i with
      | zero => exact ⟨r, rfl, .inr (Option.some.inj ed).symm⟩
      | succ i => exact h3 i d (by simpa using ed)
  | [], _ :: _, hl, _ => by simp at hl
  | _ :: _, [], hl, _ => by simp at hl
def dGiven (K : PySem.W.Frag) (dt : DTT) (e : DTS) : DTS := fun De env => ∃ (ls : List Nat) (rows ranks : List (List Nat)), env = [.pot, .d (.tup [.str (tx ls), .lst (lD (oN rows))]), .d (.lst (lD (oN ranks))), .d (mcD K ls rows), .u, .u, .u] ∧ Mc ls rows ∧ Rk ls rows ranks ∧
  (∀ xs, RowsS (.lst xs) ranks → dt [.pot, .d (.tup [.str (tx ls), .lst (lD (oN rows))]), .d (.lst (lD (oN ranks))), .d (mcD K ls rows), .u, .d (.lst xs), .d (rkD K ls rows ranks)] (fun b e1 => b = false ∧ e1[0]? = some .pot)) ∧
  e De [.pot, .d (.tup [.str (tx ls), .lst (lD (oN rows))]), .d (.lst (lD (oN ranks))), .d (mcD K ls rows), .u, .u, .d (rkD K ls rows ranks)]
/-- the frame with what is told by mk -/
noncomputable def withSet (G H : Hp) (mk : Addr → Prop) : Hp := fun b => open Classical in if mk b then H b else G b
theorem ws_in {G H : Hp} {mk : Addr → Prop} {b : Addr} (h : mk b) : withSet G H mk b = H b := if_pos h
theorem ws_out {G H : Hp} {mk : Addr → Prop} {b : Addr} (h : ¬ mk b) : withSet G H mk b = G b := if_neg h
abbrev tLoop (K : PySem.W.Frag) : TS := tFor (iList K (tVar 5)) (gName 4) (tIfS (tB (tCB (rIsi K) (tCons (tVar 4) (tCons (tC (.ty "list")) tNil)))) (tSeq (tDrop (tBM0 K "list" rReverse (tVar 4))) (tDrop (tBM K "list" rAppend (tVar 4) (tCons (tC (.int 12)) tNil)))) tNext)
set_option maxHeartbeats 16000000 in
theorem rs_given {K : PySem.W.Frag} {mg : Str → Option Value} (T : Txt K mg) {tt : TT} {tF u : TS} {dt : DTT} {e : DTS} (hb : RT K tt dt) (b : RS K u e) :
    RS K (tSeq (tAsg (tGv K) (gName 5)) (tSeq (tAsg (tMk (He.ga K "Ranked") (spInitF K) (tCons (tVar 3) (tCons (tVar 5) tNil))) (gName 6)) (tSeq (tIfS tt tF tNext) (tSeq (tLoop K) (tSeq (tDrop (tBM0 K "list" rClear (tVar 5))) u))))) (dGiven K dt e) := by
  intro c G σ H env De D0 S ⟨ls, rows, ranks, henv, M, R, ht, he⟩ ok
  subst henv
  have hRn := R.n
  have hMn := M.n2
  have hl3 := M.l3
  have hσ : σ.length = 7 := S.len
  obtain ⟨o0, s0, pp, rfl, gp, hB, pot⟩ := S.sl 0 _ rfl
  obtain ⟨o2, s2, v2, rfl, a2⟩ := S.sl 2 _ rfl
  obtain ⟨o3, s3, vm, rfl, am⟩ := S.sl 3 _ rfl
  have no : ∀ (j : Nat) (s : Sl), j ≠ 0 → [Sl.pot, .d (.tup [.str (tx ls), .lst (lD (oN rows))]), .d (.lst (lD (oN ranks))), .d (mcD K ls rows), .u, .u, .u][j]? = some s → s.own = false := fun j s hj e => by
    rcases j with _ | _ | _ | _ | _ | _ | _ | j
    · exact absurd rfl hj
    all_goals (first | (cases e; rfl) | cases e)
  cases a2 with
  | @lst a us _ ga au =>
    unfold tSeq tAsg
    refine given_rows s0 s2 (by omega) S.gh gp pot ga au (by simp [oN]; omega) fun D qs H1 N => ?_
    show tMk (He.ga K "Ranked") (spInitF K) (tCons (tVar 3) (tCons (tVar 5) tNil)) (σ.set 5 (some (.ref D))) H1 (fun v1 H' => gName 6 v1 (σ.set 5 (some (.ref D))) H' (tSeq (tIfS tt tF tNext) (tSeq (tLoop K) (tSeq (tDrop (tBM0 K "list" rClear (tVar 5))) u)) D0))
    have s0' : (σ.set 5 (some (V.ref D)))[0]? = some (some (.ref pp)) := by rw [List.getElem?_set_ne (by decide)]; exact s0
    have s3' : (σ.set 5 (some (V.ref D)))[3]? = some (some vm) := by rw [List.getElem?_set_ne (by decide)]; exact s3
    have s5' : (σ.set 5 (some (V.ref D)))[5]? = some (some (.ref D)) := by rw [List.getElem?_set_self (by omega)]
    have off1 : ∀ b, H b ≠ none → ¬ (b = D ∨ b ∈ qs) := fun b h z => z.elim (fun z => h (by rw [z]; exact N.dn)) fun z => h (N.qn z)
    have npp : ∀ b o, G b = some o → b ≠ pp := fun b o e z => by rw [z, gp] at e; cases e
    have gg1 : Same G (withSet G H1 fun b => b = D ∨ b ∈ qs) := fun b o e => by
      rw [ws_out (off1 b (by rw [S.gh b o e]; exact nn))]
      exact e
    have gh1 : Same (withSet G H1 fun b => b = D ∨ b ∈ qs) H1 := fun b o e => by
      by_cases h : b = D ∨ b ∈ qs
      · rw [ws_in h] at e
        exact e
      · rw [ws_out h] at e
        exact N.keep b o (S.gh b o e) (npp b o e)
    have S1' := S.moveP (H' := H1) rfl s0 no N.keep N.pot gg1 gh1 fun b e1 e2 => by
      rw [ws_out (off1 b e1)]
      exact e2
    generalize hG1 : (withSet G H1 fun b => b = D ∨ b ∈ qs) = G1 at gg1 gh1 S1'
    have hG1D : ∀ b, b = D ∨ b ∈ qs → G1 b = H1 b := fun b h => by rw [← hG1, ws_in h]
    obtain ⟨xs, hxs, hxl, hxr⟩ := given_data (K := K) (G := G1) (qs := qs) (rows := oN ranks) N.len fun j q r e1 e2 => by
      rw [hG1D q (.inr (List.mem_of_getElem? e1))]
      exact (N.row j q r e1 e2).2.2
    have hgd : RowsS (.lst xs) ranks := by
      refine ⟨xs, .inl rfl, by rw [hxl]; simp [oN], fun i d e => ?_⟩
      obtain ⟨r, h1, h2⟩ := hxr i d e
      have h1 : (List.map _ ranks)[i]? = some r := h1
      rw [List.getElem?_map, Option.map_eq_some_iff] at h1
      obtain ⟨r', h3, rfl⟩ := h1
      exact ⟨r', h3, h2⟩
    have atD : At K G1 (.ref D) (.lst xs) := .lst (by rw [hG1D D (.inl rfl)]; exact N.dl) hxs
    have S1 := S1'.setD atD 5
    refine ⟨vm, s3', .ref D, s5', fun x dx hx hdx hne => ?_⟩
    have g1x : G1 x = none := gh1.free hx
    have k1m : Same H1 (upd (upd H1 dx (.own x)) x (.ins (He.ga K "Ranked") dx [])) := fun b o e => by
      rw [upd_ne (ne_of_none e hx), upd_ne (ne_of_none e hdx)]
      exact e
    refine ⟨x, dx, vm, .ref D, G1, ls, rows, ranks, .lst xs, rfl, upd_same, g1x, gh1.trans k1m, am.mono gg1, atD, M, R, hgd, fun H2 H3 a' dx' qs2 hk2 hx2 N2 => ⟨rfl, ?_⟩⟩
    have k12 : Same H1 H2 := fun b o e => hk2 b o (k1m b o e) (ne_of_none e hx)
    have hax : a' ≠ x := fun z => hx2 (by rw [← z]; exact N2.pn)
    have hqx : ∀ q ∈ qs2, q ≠ x := fun q hq z => hx2 (by rw [← z]; exact N2.qn hq)
    generalize hHn : upd H3 x (HO.ins (He.ga K "Ranked") dx' [(("own_machine" : Str), vm), (("own_letters" : Str), V.str (tx ls)), (("own_ranks" : Str), V.ref a')]) = Hn
    have hnx : Hn x = some (.ins (He.ga K "Ranked") dx' [(("own_machine" : Str), vm), (("own_letters" : Str), V.str (tx ls)), (("own_ranks" : Str), V.ref a')]) := by rw [← hHn]; exact upd_same
    have hn3 : ∀ b, b ≠ x → Hn b = H3 b := fun b h => by rw [← hHn]; exact upd_ne h
    have k1n : Same H1 Hn := fun b o e => by
      rw [hn3 b (ne_of_none e hx)]
      exact N2.same b o (k12 b o e)
    have hmk : ∀ b, (b = x ∨ b = a' ∨ b ∈ qs2) → H1 b = none := fun b h => by
      rcases h with rfl | rfl | h
      · exact hx
      · exact k12.free N2.pn
      · exact k12.free (N2.qn h)
    have atMade : ∀ G' : Hp, (∀ b, (b = x ∨ b = a' ∨ b ∈ qs2) → G' b = Hn b) → Same G G' → At K G' (.ref x) (rkD K ls rows ranks) := fun G' h1 h2 =>
      .obj (fs := [(("own_machine" : Str), vm), (("own_letters" : Str), V.str (tx ls)), (("own_ranks" : Str), V.ref a')]) (by rw [h1 x (.inl rfl)]; exact hnx) rfl (.cons (am.mono h2) (.cons (.str _) (.cons (.lst (by rw [h1 a' (.inr (.inl rfl)), hn3 a' hax]; exact N2.pl) (ats_rows N2.len fun j q r e1 e2 => by
        rw [h1 q (.inr (.inr (List.mem_of_getElem? e1))), hn3 q (hqx q (List.mem_of_getElem? e1))]
        exact (N2.rw_ j q r e1 e2).2.2)) .nil)))
    -- the state behind the making
    have pot1 := N.pot
    have potN : PotAt Hn pp := by
      obtain ⟨p1, p2, e, h⟩ := pot1
      exact ⟨p1, p2, k1n _ _ e, h⟩
    have no1 : ∀ (j : Nat) (s : Sl), j ≠ 0 → ([Sl.pot, .d (.tup [.str (tx ls), .lst (lD (oN rows))]), .d (.lst (lD (oN ranks))), .d (mcD K ls rows), .u, .u, .u].set 5 (.d (.lst xs)))[j]? = some s → s.own = false := fun j s hj e => by
      rcases j with _ | _ | _ | _ | _ | _ | _ | j
      · exact absurd rfl hj
      all_goals (first | (cases e; rfl) | cases e)
    have offM : ∀ b, H1 b ≠ none → ¬ (b = x ∨ b = a' ∨ b ∈ qs2) := fun b h z => h (hmk b z)
    have gg5 : Same G1 (withSet G1 Hn fun b => b = x ∨ b = a' ∨ b ∈ qs2) := fun b o e => by
      rw [ws_out (offM b (by rw [gh1 b o e]; exact nn))]
      exact e
    have gh5 : Same (withSet G1 Hn fun b => b = x ∨ b = a' ∨ b ∈ qs2) Hn := fun b o e => by
      by_cases h : b = x ∨ b = a' ∨ b ∈ qs2
      · rw [ws_in h] at e
        exact e
      · rw [ws_out h] at e
        exact k1n b o (gh1 b o e)
    have S5' := S1.moveP (H' := Hn) rfl s0' no1 (fun b o e _ => k1n b o e) potN gg5 gh5 fun b e1 e2 => by
      rw [ws_out (offM b e1)]
      exact e2
    have at5 := atMade (withSet G1 Hn fun b => b = x ∨ b = a' ∨ b ∈ qs2) (fun b h => ws_in h) (gg1.trans gg5)
    have S5 := S5'.setD at5 6
    have s0'' : ((σ.set 5 (some (V.ref D))).set 6 (some (V.ref x)))[0]? = some (some (.ref pp)) := by rw [List.getElem?_set_ne (by decide)]; exact s0'
    have s5'' : ((σ.set 5 (some (V.ref D))).set 6 (some (V.ref x)))[5]? = some (some (.ref D)) := by rw [List.getElem?_set_ne (by decide)]; exact s5'
    generalize hσ5 : (σ.set 5 (some (V.ref D))).set 6 (some (V.ref x)) = σ5 at S5 s0'' s5''
    have hσ5l : σ5.length = 7 := by rw [← hσ5, List.length_set, List.length_set, hσ]
    show tSeq (tIfS tt tF tNext) (tSeq (tLoop K) (tSeq (tDrop (tBM0 K "list" rClear (tVar 5))) u)) D0 ((σ.set 5 (some (.ref D))).set 6 (some (.ref x))) Hn
    rw [hσ5]
    unfold tSeq tIfS
    refine hb c _ σ5 Hn _ (fun (b : Bool) (e1 : En) => b = false ∧ e1[0]? = some Sl.pot) _ S5 (ht xs hgd) fun bb G6 H6 e6 T6 hb6 => ?_
    obtain ⟨rfl, he6⟩ := hb6
    rw [if_neg Bool.false_ne_true]
    have k6 : ∀ b o, Hn b = some o → b ≠ pp → H6 b = some o := fun b o eb hbp => T6.kp b o eb fun i ⟨s, e1, ho, hs⟩ => by
      rcases i with _ | _ | _ | _ | _ | _ | _ | i
      · rw [s0''] at hs
        cases hs
        exact hbp rfl
      all_goals (first | (cases e1; cases ho) | cases e1)
    have pot6 : PotAt H6 pp := by
      obtain ⟨o, eo, p', e3, _, _, hp'⟩ := T6.st.sl 0 _ he6
      rw [s0''] at eo
      cases eo
      cases e3
      exact hp'
    have N6 := N.mono pot.nn (fun b o eb hbp => k6 b o (k1n b o eb) hbp) pot6
    have hDq : D ∉ qs := fun h => by
      obtain ⟨j, r, h1, h2⟩ := N6.at_ h
      exact (N6.row j D r h1 h2).2.1 rfl
    have hDn : D ≠ pp := fun z => pot.nn (by rw [← z]; exact N.dn)
    have hqn : ∀ q ∈ qs, q ≠ pp := fun q hq z => pot.nn (by rw [← z]; exact N.qn hq)
    have hloop : ∀ (D1 : Ends), (∀ σ' H', (σ'.length = σ5.length ∧ ∀ i, i ≠ 4 → σ'[i]? = σ5[i]?) → (∀ b o, H6 b = some o → b ∉ qs → H' b = some o) → D1.nx σ' H') → tLoop K D1 σ5 H6 := fun D1 hD1 => by
      refine ⟨.ref D, s5'', D, rfl, ⟨_, .of N6.dl⟩, for_list (K := K) (a := D) (xs := qs.map V.ref) (fun j σ' H' => (σ'.length = σ5.length ∧ ∀ i, i ≠ 4 → σ'[i]? = σ5[i]?) ∧ (∀ b o, H6 b = some o → b ∉ qs → H' b = some o) ∧ ∀ (j' : Nat) (q : Addr), j ≤ j' → qs[j']? = some q → H' q = H6 q)
        ⟨⟨rfl, fun _ _ => rfl⟩, fun b o e _ => e, fun _ _ _ _ => rfl⟩ (fun j σ' H' _ ⟨_, h2, _⟩ => .of (h2 _ _ N6.dl hDq)) (fun j y σ' H' hy ⟨⟨h1a, h1b⟩, h2, h3⟩ => ?_) fun σ' H' ⟨h1, h2, _⟩ => hD1 σ' H' h1 h2⟩
      rw [List.getElem?_map, Option.map_eq_some_iff] at hy
      obtain ⟨q, hq, rfl⟩ := hy
      have hqm := List.mem_of_getElem? hq
      have hjr : j < (oN ranks).length := by rw [← N6.len]; exact (List.getElem?_eq_some_iff.mp hq).1
      have hrj := List.getElem?_eq_getElem hjr
      obtain ⟨_, _, hrow⟩ := N6.row j q _ hq hrj
      have hrl : ((oN ranks)[j]).length ≤ 3 := by
        obtain ⟨r, hr, e2⟩ := List.mem_map.mp (List.getElem_mem hjr)
        rw [← e2]
        have := R.rl r hr
        simp only [ofN, List.length_map]
        omega
      generalize (oN ranks)[j] = r at hrow hrl
      have e4 : (σ'.set 4 (some (V.ref q)))[4]? = some (some (.ref q)) := by rw [List.getElem?_set_self (by omega)]
      have nx1 : ((σ'.set 4 (some (V.ref q))).length = σ5.length ∧ ∀ i, i ≠ 4 → (σ'.set 4 (some (V.ref q)))[i]? = σ5[i]?) := ⟨by rw [List.length_set]; exact h1a, fun i hi => by rw [List.getElem?_set_ne (Ne.symm hi)]; exact h1b i hi⟩
      have hne : ∀ (j' : Nat) (q' : Addr), j + 1 ≤ j' → qs[j']? = some q' → q' ≠ q := fun j' q' hj' hq' z => by
        subst z
        obtain ⟨a1, a2⟩ := List.getElem?_eq_some_iff.mp hq
        obtain ⟨b1, b2⟩ := List.getElem?_eq_some_iff.mp hq'
        have := (List.getElem_inj N6.nd).mp (a2.trans b2.symm)
        omega
      have hqH := h3 j q (Nat.le_refl _) hq
      show tIfS _ _ _ _ (σ'.set 4 (some (V.ref q))) H'
      rcases hrow with hrow | hrow
      · obtain ⟨t, htd, hkit⟩ := T.isi_list (.lst (iD r)) true rfl
        have hq2 : H' q = some (.lst (r.map V.int)) := hqH.trans hrow
        refine ⟨_, e4, .ref q, .ty "list", t, _, true, rfl, .ty _, tyx_at (Same.refl H') (.lst hq2 (Ats.ofInts r)) htd, hkit, true, rfl, iteT ?_⟩
        refine ⟨_, e4, .inl ⟨rfl, _, .of hq2⟩, q, _, rfl, rfl, hq2, ?_⟩
        refine ⟨_, e4, .inl ⟨rfl, _, .of upd_same⟩, q, _, .int 12, rfl, rfl, upd_same, by rw [List.length_reverse, List.length_map, szl]; omega, ?_⟩
        refine ⟨nx1, fun b o eb hbq => ?_, fun j' q' hj' hq' => ?_⟩
        · have hb2 : b ≠ q := fun z => hbq (by rw [z]; exact hqm)
          rw [upd_ne hb2, upd_ne hb2]
          exact h2 b o eb hbq
        · rw [upd_ne (hne j' q' hj' hq'), upd_ne (hne j' q' hj' hq')]
          exact h3 j' q' (by omega) hq'
      · obtain ⟨t, htd, hkit⟩ := T.isi_list (.tup (iD r)) false rfl
        have hq2 : H' q = some (.tup (r.map V.int)) := hqH.trans hrow
        refine ⟨_, e4, .ref q, .ty "list", t, _, false, rfl, .ty _, tyx_at (Same.refl H') (.tup hq2 (Ats.ofInts r)) htd, hkit, false, rfl, iteF ?_⟩
        exact ⟨nx1, h2, fun j' q' hj' hq' => h3 j' q' (by omega) hq'⟩
    refine hloop _ fun σ' H' hσ' hH' => ?_
    have e5 : σ'[5]? = some (some (V.ref D)) := by rw [hσ'.2 5 (by decide)]; exact s5''
    have hDl := hH' _ _ N6.dl hDq
    refine ⟨_, e5, .inl ⟨rfl, _, .of hDl⟩, D, _, rfl, rfl, hDl, ?_⟩
    -- the end
    have k8 : ∀ b o, H6 b = some o → b ∉ qs → b ≠ D → (upd H' D (.lst [])) b = some o := fun b o eb h1 h2 => by
      rw [upd_ne h2]
      exact hH' b o eb h1
    generalize upd H' D (.lst []) = H8 at k8
    have h1n : ∀ b, H b ≠ none → H1 b ≠ none := fun b h => by
      by_cases hbp : b = pp
      · rw [hbp]
        exact pot1.nn
      · cases z : H b with
        | none => exact absurd z h
        | some o =>
          rw [N.keep b o z hbp]
          exact nn
    have keep8 : ∀ b o, H b = some o → b ≠ pp → H8 b = some o := fun b o eb hbp =>
      k8 b o (k6 b o (k1n b o (N.keep b o eb hbp)) hbp) (fun h => off1 b (by rw [eb]; exact nn) (.inr h)) fun h => off1 b (by rw [eb]; exact nn) (.inl h)
    have pot8 : PotAt H8 pp := by
      obtain ⟨p1, p2, e, h⟩ := pot6
      exact ⟨p1, p2, k8 _ _ e (fun h => hqn pp h rfl) (Ne.symm hDn), h⟩
    have gg8 : Same G (withSet G Hn fun b => b = x ∨ b = a' ∨ b ∈ qs2) := fun b o e => by
      rw [ws_out (offM b (h1n b (by rw [S.gh b o e]; exact nn)))]
      exact e
    have gh8 : Same (withSet G Hn fun b => b = x ∨ b = a' ∨ b ∈ qs2) H8 := fun b o eb => by
      by_cases h : b = x ∨ b = a' ∨ b ∈ qs2
      · rw [ws_in h] at eb
        have hb1 := hmk b h
        have hbp : b ≠ pp := fun z => pot1.nn (by rw [← z]; exact hb1)
        have hbD : b ≠ D := fun z => by rw [z, N.dl] at hb1; cases hb1
        have hbq : b ∉ qs := fun hq => by
          obtain ⟨j, r, e1, e2⟩ := N.at_ hq
          rcases (N.row j b r e1 e2).2.2 with h | h <;> (rw [hb1] at h; cases h)
        exact k8 b o (k6 b o eb hbp) hbq hbD
      · rw [ws_out h] at eb
        exact keep8 b o (S.gh b o eb) (npp b o eb)
    have S8' := S.moveP (H' := H8) rfl s0 no keep8 pot8 gg8 gh8 fun b e1 e2 => by
      rw [ws_out (offM b (h1n b e1))]
      exact e2
    have at8 := atMade (withSet G Hn fun b => b = x ∨ b = a' ∨ b ∈ qs2) (fun b h => ws_in h) gg8
    have S8 := (S8'.setU 5 (some (V.ref D))).setD at8 6
    rw [hσ5] at S8
    exact b c _ σ' H8 _ De D0 (S8.loose 4 rfl hσ'.1 hσ'.2) he ok
end RK
-- LR
set_option Elab.async false
set_option linter.all false
set_option maxRecDepth 100000
set_option maxHeartbeats 4000000
namespace RK
open PySem PySem.Spec PyProof.Rows L2
local macro_rules
  | `(tactic| walk_at "ev") => `(tactic| try simp only [dVar, dC, dOp, dUn, kII, kIB, kI0, kSS, kAddS, kSign, flD, kEq, vS, onS, kIn, dasOf, dNil, dCons, dConsA, dTup, dLst, dAnd, dOr, dNot, dB, dAndT, dOrT, dNotT, dIf, dChain, kIx, dNoPart, dPart, dSlS, dSlL, dRev, dCB, k1, k2, lenD, kLen, kAll, kMax, kMM, kAbs, kInt, kList, kTuple, kSortI, kDivmod, onO, onDa, onInt, onBl, onStr, vL, onL, onT, vM, onM, toDa, dDGet, dDIn, dDGet2, dBM, dBM0, dBMS, onOwn, kAppend, kExtend, kPop, kPopAt, kClear, kIndex, kCount, kSIndex, lkF, dFld, dLR, dRg1, dRg2, dJoin, rvS, dgName, dgNil, dgCons, dgTup, diL, diT, diS, diR1, diR2, onLd, diZ, diE, diZSS, diZSL, diET, dNext, dSeq, dDrop, rtD, dRet, dRetN, dIfS, dNever, dSet, dAsg, dPar, dPar3, dFldS, dDPut, dFrz, dYes, startE, dCall, dCallM, isPot, dCallP, dMk, onObj, dMt, dPp, dCO, dRevA, kInv, kNeg, kLenO, kReprO, dFmtO, dFmtR, vD, kReprD, kReprB, dFmtD, kEqD, kCat, kCatT, clV, kIsi, kIsiT, kEqO, dCval, dCon, dJs, dJoined, diQ, diEQ, dLZ, kMulS, kSumL, dSS, kSortTs, dDisp1, dSeqF, dRetF, dMtF, dTold, dFar, dGiven, fInt, fBool, fStr, fList, fSeq,
      List.map_cons, List.map_nil, List.cons_append, List.nil_append, List.length_cons, List.length_nil, List.replicate_succ, List.replicate_zero, List.append_nil, Nat.reduceAdd, Nat.reduceSub, Nat.zero_add, Nat.sub_self,
      List.getElem?_cons_zero, List.getElem?_cons_succ, List.getElem?_nil, List.set_cons_zero, List.set_cons_succ, Option.map_some, Option.map_none, List.reverse_cons, List.reverse_nil, Bool.not_true, Bool.not_false, Bool.false_eq_true, if_true, if_false, true_and, and_true, reduceCtorEq, wipeE, noOwn, Sl.own, List.all_cons, List.all_nil, Bool.and_true, Bool.true_and, Bool.and_self, List.length_map, List.not_mem_nil, not_false_eq_true, cx_K, cx_Kn, sn1, sn2, sn3, sn4, sn5, sgD, tx_list, tx_len, tx_app, tx_cut])
section
variable {P : Program} {w : World} {K : PySem.W.Frag} {mg : Str → Option Value} {base : Heap}
abbrev R_law_right : RR := fun ds Q => ds = [] ∧ Q (.bl true)
theorem ok_law_right (T : Txt K mg) : Df P w K mg base "_law_right" 10 ["_law_pot_here"] (spP K R_law_right) := by
  obtain ⟨fd, F, b⟩ := q_law_right T
  refine ⟨_, fd, okP F sc_law_right (by rintro ds Q ⟨rfl, q⟩; rfl) (by decide) (fun cdv A outer s H hr => ⟨_, _, ⟨
      (pss_cons (ps_set (i := 1) sc_law_right.nd rfl (Or.inl rfl) (pe_callD (ok_law_net T) hr (pa_cons (pv 0) (pa_cons pe_int pa_nil))))
      (pss_cons (ps_par (i := 2) (j := 3) (by rfl) sc_law_right.nd rfl rfl (by decide) rfl rfl (pa_cons (pe_callD (ok_law_marks T) hr (pa_cons (pv 0) (pa_cons (pv 1) (pa_cons (pe_callD (ok_law_pick T) hr (pa_cons (pv 0) (pa_cons (pe_lst (pa_cons pe_int (pa_cons pe_int (pa_cons pe_int pa_nil)))) pa_nil))) pa_nil)))) (pa_cons (pe_makeD (ok_Machine___init T) hr (pa_cons (pe_ix ix_seq (pv 1) pe_int (fun _ _ => rfl)) (pa_cons (pe_ix ix_seq (pv 1) pe_int (fun _ _ => rfl)) pa_nil))) pa_nil)) (by rfl))
      (pss_cons (ps_setLc (i := 5) (own := [("_law_row", 4)]) (g := gName 4) (tt := tYes) rfl sc_law_right.nd rfl rfl (sw_true rfl rfl rfl (by decide +kernel)) (pi_list (pv 2)) (blkOk_by (by kernel_rfl)) (fun _ _ _ _ _ => (pg_name (i := 4) sc_law_right.nd rfl (Or.inl rfl))) (fun _ _ _ _ _ => pts_nil) (fun _ _ _ _ _ => by exact (pe_ifExp (pt_cmpR op_eq (pe_callD (ok_law_draw T) hr (pa_cons (pv 0) (pa_cons pe_int pa_nil))) pe_int (nomark _)) (pe_callTy call_tuple_of (by rfl) T.z_tuple boot_tuple (pa_cons (pv 4) pa_nil)) (pe_callTy call_list_of (by rfl) T.z_list boot_list (pa_cons (pv 4) pa_nil)))))
      (pss_cons (ps_set (i := 6) sc_law_right.nd rfl (Or.inl rfl) (pe_makeD (ok_Ranked___initF T) hr (pa_cons (pv 3) (pa_cons (pv 5) pa_nil))))
      (pss_cons (ps_if (pt_cmpR op_ne (pe_callB (call_reprD hr) (by rfl) T.z_repr boot_repr (pa_cons (pe_lc (own := [("_law_row", 4)]) (g := gName 4) (tt := tYes) rfl sc_law_right.nd (pi_list (pv 5)) (blkOk_by (by kernel_rfl)) (fun _ _ _ _ _ => (pg_name (i := 4) sc_law_right.nd rfl (Or.inl rfl))) (fun _ _ _ _ _ => pts_nil) (fun _ _ _ _ _ => by exact (pe_callTy call_list_of (by rfl) T.z_list boot_list (pa_cons (pv 4) pa_nil)))) pa_nil)) (pe_callB (call_reprD hr) (by rfl) T.z_repr boot_repr (pa_cons (pv 2) pa_nil)) (nomark _)) (pss_one (ps_ret pe_bl)) pss_nil)
      (pss_cons (ps_for PassesOwn.never rfl (pi_list (pv 5)) (pg_name (i := 4) sc_law_right.nd rfl (Or.inl rfl))
      (pss_one (ps_if (pt_val (pe_callB call_isi (by rfl) T.z_isinstance boot_isinstance (pa_cons (pv 4) (pa_cons (pe_bltn (v := .ty "list") (by rfl) T.z_list boot_list rfl) pa_nil)))) (pss_cons (ps_expr (pe_bm0 PySem.F.plainAttrs_list PySem.F.slot_list_reverse PySem.F.type_list_reverse mt_reverse (pv 4)))
      (pss_one (ps_expr (pe_bm PySem.F.plainAttrs_list PySem.F.slot_list_append PySem.F.type_list_append mt_append (pv 4) (pa_cons pe_int pa_nil))))) pss_nil)))
      (pss_cons (ps_expr (pe_bm0 PySem.F.plainAttrs_list PySem.F.slot_list_clear PySem.F.type_list_clear mt_clear (pv 5)))
      (pss_cons (ps_if (PW.pt (pw_or (pt_not (pt_val (pe_callD (ok_law_is T) hr (pa_cons (pv 6) (pa_cons (pv 3) (pa_cons (pv 1) (pa_cons (pv 2) pa_nil))))))) (pw_or1 (pt_not (pt_val (pe_callD (ok_law_words_right T) hr (pa_cons (pv 0) (pa_cons (pv 1) (pa_cons (pv 2) (pa_cons (pv 6) pa_nil)))))))))) (pss_one (ps_ret pe_bl)) pss_nil)
      (pss_cons (ps_if (PW.pt (pw_or (pt_not (pt_val (pe_callD (ok_law_equal_right T) hr (pa_cons (pv 6) (pa_cons (pv 3) (pa_cons (pv 1) (pa_cons (pv 2) pa_nil))))))) (pw_or1 (pt_not (pt_val (pe_callD (ok_law_about_right T) hr (pa_cons (pv 6) (pa_cons (pv 3) (pa_cons (pv 1) (pa_cons (pv 2) pa_nil)))))))))) (pss_one (ps_ret pe_bl)) pss_nil)
      (pss_cons (ps_if (PW.pt (pw_or (pt_cmpR op_ne (ClX.pe_cval (pe_glob (v := .ref (He.ga K "Ranked")) rfl T.g_Ranked rfl)) pe_int (nomark _)) (pw_or (pt_cmpR op_ne (pe_con (pv 6) rfl) pe_int (nomark _)) (pw_or1 (pt_not (pt_val (pe_callD (ok_law_great_right T) hr (pa_cons (pv 0) pa_nil)))))))) (pss_one (ps_ret pe_bl)) pss_nil)
      (pss_one (ps_ret (pe_callD (ok_law_is T) hr (pa_cons (pv 6) (pa_cons (pv 3) (pa_cons (pv 1) (pa_cons (pv 2) pa_nil))))))))))))))))),
      (rs_seq (rs_set 1 (re_callP (ra_consA (re_c fun _ => .int _) ra_nil)))
      (rs_seq (rs_par (re_callP (ra_consA re_var (ra_consA (re_callP (ra_consA (re_lst (ra_consA (re_c fun _ => .int _) (ra_consA (re_c fun _ => .int _) (ra_consA (re_c fun _ => .int _) ra_nil)))) ra_nil)) ra_nil))) (re_mk (ra_consA (re_op ro_ix re_var (re_c fun _ => .int _)) (ra_consA (re_op ro_ix re_var (re_c fun _ => .int _)) ra_nil))))
      (rs_given T (rt_test (re_op ro_ne (re_CB rc_reprD (ra_cons (re_lc (ri_list re_var) (rg_name 4) rt_yes (re_CB rc_list (ra_cons re_var ra_nil)) (by decide)) ra_nil)) (re_CB rc_reprD (ra_cons re_var ra_nil))))
      (rs_seq (rs_if (rt_or (rt_not (rt_B (re_call (ra_consA re_var (ra_consA re_var (ra_consA re_var (ra_consA re_var ra_nil))))))) (rt_not (rt_B (re_callP (ra_consA re_var (ra_consA re_var (ra_consA re_var ra_nil))))))) (rs_ret (re_c fun _ => .bl _)) rs_next)
      (rs_seq (rs_if (rt_or (rt_not (rt_B (re_call (ra_consA re_var (ra_consA re_var (ra_consA re_var (ra_consA re_var ra_nil))))))) (rt_not (rt_B (re_call (ra_consA re_var (ra_consA re_var (ra_consA re_var (ra_consA re_var ra_nil)))))))) (rs_ret (re_c fun _ => .bl _)) rs_next)
      (rs_seq (rs_if (rt_or (rt_test (re_op ro_ne (re_cval T.cr_Ranked T.cv_Ranked (fun _ => .int _) (re_c fun _ => .cls _)) (re_c fun _ => .int _))) (rt_or (rt_test (re_op ro_ne (re_con T.cl_Ranked T.con_Ranked (fun _ => .int _) re_var) (re_c fun _ => .int _))) (rt_not (rt_B (re_callP ra_nil))))) (rs_ret (re_c fun _ => .bl _)) rs_next)
      (rs_ret (re_call (ra_consA re_var (ra_consA re_var (ra_consA re_var (ra_consA re_var ra_nil))))))))))))⟩, fun ds Q h => ?_⟩), T.g__law_right, F.kp, b⟩
  obtain ⟨rfl, q⟩ := h
  walk_at "ev"
  refine ⟨rfl, fun ls rows M A hl6 hnq => ?_⟩
  have a0 : L2.atI [Da.str (tx ls), Da.lst (lD (oN rows))] 0 = some (.str (tx ls)) := atI_nat (j := 0) rfl
  have a1 : L2.atI [Da.str (tx ls), Da.lst (lD (oN rows))] 1 = some (.lst (lD (oN rows))) := atI_nat (j := 1) rfl
  refine ⟨by rw [szl]; omega, _, rfl, .inl ⟨_, rfl, by simp, by simp, fun x hx => ?_⟩⟩
  obtain ⟨most, rfl, hmost⟩ : ∃ most : Nat, x = .int (most : Nat) ∧ most ≤ 11 := by
    rcases List.mem_cons.mp hx with rfl | hx
    · exact ⟨1, rfl, by omega⟩
    rcases List.mem_cons.mp hx with rfl | hx
    · exact ⟨3, rfl, by omega⟩
    · rw [List.mem_singleton.mp hx]
      exact ⟨11, rfl, by omega⟩
  refine ⟨ls, rows, most, rfl, M, by omega, fun ranks R hb => ?_⟩
  have h11 : ∀ r ∈ ranks, ∀ k ∈ r, k ≤ 11 := fun r hr k hk => by
    have := hb r hr k hk
    omega
  walk_at "ev"
  rw [a0]
  walk_at "ev"
  rw [a1]
  walk_at "ev"
  refine ⟨ls, rows, rfl, M, A, ?_⟩
  refine ⟨ls, rows, ranks, rfl, M, R, fun xs hxs => ?_, ?_⟩
  · obtain ⟨ys, hys, hyl, hyr⟩ := hxs
    obtain rfl : ys = xs := by
      rcases hys with h | h
      · exact (Da.lst.inj h).symm
      · cases h
    have hRn := R.n
    have hmap := rows_map hyl hyr
    have rp : RpOk (toP (Da.lst (lD (oN ranks)))) := rp_lD (R.small M).1 (R.small M).2.1 (R.small M).2.2
    walk_at "ev"
    refine lc_map (xs := ys) (e0 := [.pot, .d (netD ls rows), .d (.lst (lD (oN ranks))), .d (mcD K ls rows), .u, .d (.lst ys), .d (rkD K ls rows ranks)]) (fun P h => by walk_at "ev"; exact h) rfl (by rw [hyl, szl]; omega) lstOf (fun i d k k' hd hk => ?_) ?_
    · obtain ⟨r, hr, hs⟩ := hyr i d hd
      unfold lcB
      rcases hs with rfl | rfl <;> (walk_at "ev"; exact hk)
    rw [hmap]
    walk_at "ev"
    exact ⟨⟨_, .inl rfl⟩, plain_rows _, rp, ⟨_, .inl rfl⟩, plain_rows _, rp, rfl, by simp⟩
  · have lis : ∀ Q' : Da → Prop, Q' (.bl true) → R_law_is K [rkD K ls rows ranks, mcD K ls rows, netD ls rows, .lst (lD (oN ranks))] Q' := fun Q' h => ⟨ls, rows, ranks, rfl, M, R, h⟩
    walk_at "ev"
    refine lis _ ?_
    walk_at "ev"
    refine ⟨ls, rows, ranks, rfl, M, R, h11, ?_⟩
    walk_at "ev"
    refine ⟨ls, rows, ranks, rfl, M, A, R, hnq, ?_⟩
    walk_at "ev"
    refine ⟨ls, rows, ranks, rfl, M, R, h11, ?_⟩
    walk_at "ev"
    refine ⟨rfl, ?_⟩
    rw [if_neg (by simp)]
    refine ⟨by decide, rfl, ?_⟩
    rw [if_neg (by simp)]
    refine ⟨rfl, ?_⟩
    walk_at "ev"
    exact lis _ q
end
end RK
-- LW
set_option Elab.async false
set_option linter.all false
set_option maxRecDepth 100000
set_option maxHeartbeats 4000000
/-! LW: the law, and its call behind the top -/
namespace RK
open PySem PySem.Spec PyProof.Rows L2
section
variable {P : Program} {w : World} {K : PySem.W.Frag} {mg : Str → Option Value} {base : Heap}
abbrev rMx : List V → Hp → VK → Prop := fun xs H Q => ∃ i j, xs = [V.int i, V.int j] ∧ Q (.int (if j > i then j else i)) H
abbrev rMn : List V → Hp → VK → Prop := fun xs H Q => ∃ i j, xs = [V.int i, V.int j] ∧ Q (.int (if j < i then j else i)) H
abbrev rLn (K : PySem.W.Frag) : List V → Hp → VK → Prop := fun xs H Q => ∃ x n, xs = [x] ∧ LenV K x H n ∧ Q (.int n) H
def spLaw (K : PySem.W.Frag) : Pr := fun vs H Q => ∃ (a : Addr) (ns : List Int), vs = [.ref a] ∧ SqL K H a (ns.map V.int) ∧ ns.length ≤ 63 ∧ ∀ H', Q (.bl true) H'
theorem ok_law (T : Txt K mg) : ∃ fd, Binds K fd ["_law_script"] [] ∧ ∀ (P : Program) (w : World) (base : Heap), FnG P w K mg base 11 (He.ga K "law") fd ["_law_script"] (spLaw K) := by
  obtain ⟨fd, F, b⟩ := q_law T
  refine ⟨fd, b, fun P w base => okG F sc_law (fun vs H Q ⟨a, ns, e, _⟩ => by rw [e]; rfl) (fun cdv A outer s H vs Q hr h =>
      ⟨tRet (tCB (rAll K) (tCons (tLc (iRng1 (tCons (tCB rMx (tCons (tC (.int 1)) (tCons (tCB rMn (tCons (tCB (rLn K) (tCons (tVar 0) tNil)) (tCons (tC (.int 4)) tNil))) tNil))) tNil)) (gName 1) tYes (tCl (spP K R_law_right) (tCons (tCl (spF K R_law_pot) (tCons (tVar 0) (tCons (tVar 1) tNil))) tNil)) [1]) tNil)),
      (pss_one (ps_ret (pe_callB (cr_all rfl) (by rfl) T.z_all boot_all (pa_cons (pe_lc (own := [("_law_k", 1)]) (g := gName 1) (tt := tYes) rfl sc_law.nd (pi_range1 (by rfl) T.z_range (pa_cons (pe_callB (call_max2 rfl) (by rfl) T.z_max boot_max (pa_cons pe_int (pa_cons (pe_callB (call_min2 rfl) (by rfl) T.z_min boot_min (pa_cons (pe_callB call_len (by rfl) T.z_len boot_len (pa_cons (pv 0) pa_nil)) (pa_cons pe_int pa_nil))) pa_nil))) pa_nil)) (blkOk_by (by kernel_rfl)) (fun _ _ _ _ _ => (pg_name (i := 1) sc_law.nd rfl (Or.inl rfl))) (fun _ _ _ _ _ => pts_nil)
        (fun _ _ _ _ _ => by exact (pe_callD (ok_law_right T) hr (pa_cons (pe_callD (ok_law_pot T) hr (pa_cons (pv 0) (pa_cons (pv 1) pa_nil))) pa_nil)))) pa_nil)))), ?_⟩)⟩
  obtain ⟨a, ns, rfl, hs, hl, hQ⟩ := h
  have key : ∀ m : Int, 0 ≤ m → m ≤ 4 → ∀ D, H D = none → ∃ W : Nat → Nat → Hp → Prop, (∃ m', W 0 m' (upd H D (.lst []))) ∧ ∀ i m' H', W i m' H' →
      ((Itr 0 m.toNat).stop i H' ∧ (tNil (L2.start ["_law_script", "_law_k"] [V.ref a]) H' fun xs H2 => rAll K (.ref D :: xs) H2 Q)) ∨ ((Itr 0 m.toNat).go i H' ∧ ∃ Nx : Hp → Prop, (∀ H2, Nx H2 → ∃ m2, m2 < m' ∧ W (i + 1) m2 H2) ∧ ∀ x H2, (Itr 0 m.toNat).yld i H' x H2 → gName 1 x (wipe (L2.start ["_law_script", "_law_k"] [V.ref a]) [1]) H2 fun σ2 H2 =>
        wipe σ2 [1] = wipe (L2.start ["_law_script", "_law_k"] [V.ref a]) [1] ∧ tYes σ2 H2 fun b H3 => if b = true then tCl (spP K R_law_right) (tCons (tCl (spF K R_law_pot) (tCons (tVar 0) (tCons (tVar 1) tNil))) tNil) σ2 H3 fun y H4 => ∃ acc, H4 D = some (.lst acc) ∧ acc.length < sizeLine ∧ Nx (upd H4 D (.lst (acc ++ [y]))) else Nx H3) := fun m hm0 hm4 D hD => by
    refine lc_range (lo := 0) (n := m.toNat) (fun j H' => Same H H' ∧ H' D = some (.lst ((List.replicate j true).map V.bl))) ⟨same_upd hD, upd_same⟩ (fun j H' hj ⟨h1, h2⟩ => ?_) fun H' ⟨h1, h2⟩ => ?_
    · refine ⟨(wipe_set (by simp)).trans (wipe_wipe _ _), ?_⟩
      simp only [tYes, if_true]
      refine ⟨.ref a, rfl, .int (0 + (j : Nat)), rfl, H', [.scr ns, .int (j : Nat)], fun d => ∃ x y : Int, 0 ≤ x ∧ 0 ≤ y ∧ y < 2147483587 ∧ d = .lst [.int x, .int y], Same.refl H', .cons (.scr (h1.seq hs)) (.cons (by rw [Int.zero_add]; exact .int _) .nil), ⟨ns, j, rfl, by omega, by omega, fun x y p1 p2 p3 => ⟨x, y, p1, p2, p3, rfl⟩⟩, fun p us xs H2 G2 hd hh _ _ _ hp _ hp2 av => ?_⟩
      obtain ⟨x, y, p1, p2, p3, e⟩ := hd
      cases e
      have eus : us = [V.int x, V.int y] := (show Ats K G2 us ([x, y].map Da.int) from av).ints
      subst eus
      refine ⟨p, [], fun _ => none, [], fun d => d = .bl true, rfl, ⟨x, y, hp2, p1, p2, p3⟩, rfl, (fun b o e => by cases e), .nil, ⟨rfl, rfl⟩, fun v d H3 G3 hd hk _ _ _ _ av3 => ?_⟩
      subst hd
      cases av3
      have hDp : D ≠ p := fun z => by rw [← z, h2] at hp; cases hp
      refine ⟨_, hk _ _ (hh _ _ h2) hDp, by rw [List.length_map, List.length_replicate, szl]; omega, fun b o e => ?_, ?_⟩
      · rw [upd_ne (ne_of_none e hD)]
        exact hk _ _ (hh _ _ (h1 _ _ e)) (ne_of_none (h1 _ _ e) hp)
      · rw [upd_same, List.replicate_succ']
        simp
    · refine ⟨D, _, rfl, .of h2, ?_⟩
      have : (List.replicate m.toNat true).all id = true := by simp
      rw [this]
      exact hQ H'
  have hlen : LenV K (.ref a) H ns.length := .inl ⟨_, hs, by rw [List.length_map]⟩
  refine ⟨.ref a, rfl, .ref a, ns.length, rfl, hlen, _, _, rfl, _, _, rfl, _, rfl, by split <;> (split <;> omega), by split <;> (split <;> omega), key _ (by split <;> (split <;> omega)) (by split <;> (split <;> omega))⟩
end
end RK
-- LX
set_option Elab.async false
set_option linter.all false
set_option maxRecDepth 100000
set_option maxHeartbeats 4000000
/-! LX: the law's call behind the top, for defs whose callers hold no guard -/
namespace RK
open PySem PySem.Spec PyProof.Rows L2
theorem call_law {P : Program} {w : World} {K : PySem.W.Frag} {mg mb : Str → Option Value} {k : Nat} {fa a : Addr} {fd : FuncData} {x : Str} {s₁ : Shared} {vs : List Value} {ns : List Int}
    (KX : K.In s₁.heap) (hns : s₁.heap.Ns mainGlobals mg) (hb : s₁.heap.Ns builtinsNs mb) (hbb : ∀ x : Str, x ≠ "__name__" → mb x = bootBuiltins x) (hlim : s₁.heap.NoLimit) (hg : s₁.gens = #[])
    (ha : s₁.heap.get? a = some { cls := .type "list", data := .seq vs.toArray }) (hi : IntsAre vs ns) (hl : ns.length ≤ 63) (hr : RG k callerA)
    (F : ∀ base : Heap, K.In base → base.Ns mainGlobals mg → FnG P w K mg base k fa fd [x] (spLaw K)) (hbind : Binds K fd [x] []) :
    codeAny (model P w) callerA (.call (.ref fa) ⟨[.ref a], []⟩) (fun r s' => r = .ok (.ret (.bool true)) ∧ OldK s₁.heap s'.heap ∧ s'.os = s₁.os ∧ AllBare s'.gens) s₁ := by
  have rv := vals_ints hi
  have lenV := hi.length
  have hl2 : ns.length ≤ sizeLine := by rw [szl]; omega
  have core : ∀ H : Hp, (∀ b, H b = none ∨ (b = a ∧ H b = some (.frz { cls := .type "list", data := .seq vs.toArray } (.lst (ns.map V.int))))) → SqL K H a (ns.map V.int) → HOk P w H s₁.heap → (H a ≠ none → K.lookup a = none) →
      codeAny (model P w) callerA (.call (.ref fa) ⟨[.ref a], []⟩) (fun r s' => r = .ok (.ret (.bool true)) ∧ OldK s₁.heap s'.heap ∧ s'.os = s₁.os ∧ AllBare s'.gens) s₁ := fun H hO hS hok hK => by
    have onlyA : ∀ {b : Addr} {o : Obj}, s₁.heap.get? b = some o → H b ≠ none → b = a := fun {b o} _ h => (hO b).elim (fun z => absurd z h) fun z => z.1
    have stays : ∀ {b : Addr} {o : Obj}, s₁.heap.get? b = some o → H b = none → (hidT s₁.heap H).get? b = some o := fun e n => hidT_get e n
    have dictFree : ∀ {b : Addr} {o : Obj} {es : Array DictEntry} {ep : Nat}, s₁.heap.get? b = some o → o.data = .dict es ep → H b = none := fun {b o es ep} e d => by
      rcases hO b with z | ⟨rfl, _⟩
      · exact z
      · rw [ha] at e
        cases e
        exact absurd (show Data.seq vs.toArray 0 = Data.dict es ep from d) (fun z => by cases z)
    have nsK : ∀ {b : Addr} {m : Str → Option Value}, s₁.heap.Ns b m → (hidT s₁.heap H).Ns b m := fun {b m} ⟨o, es, ep, e, d, r⟩ => ⟨o, es, ep, stays e (dictFree e d), d, r⟩
    have hKb : K.In (hidT s₁.heap H) := fun b o e => stays (KX b o e) (by
      rcases hO b with z | ⟨rfl, z⟩
      · exact z
      · rw [hK (by rw [z]; exact nn)] at e
        cases e)
    have hM : Mod K mg (hidT s₁.heap H) := ⟨hKb, nsK hns, ⟨mb, nsK hb, hbb⟩, let ⟨mc, h1, h2⟩ := hlim; ⟨mc, nsK h1, h2⟩⟩
    have e0 : Env0 P w K mg (hidT s₁.heap H) callerA [] s₁ H := ⟨rfl, hM, fun b o e => of_hidT e, Nat.le_of_eq (hidT_size _ _), trivial, fun b hb => absurd (show b ∈ ([] : List Addr) from hb) (by simp), hok, .of_eq hg⟩
    refine codeAny_mono ((F _ hKb (nsK hns)).run callerA [] s₁ H ⟨[.ref a], []⟩ [.ref a] [.ref a] (fun v _ => v = .bl true) hr e0 (hbind s₁ [.ref a] KX rfl) (.cons rfl .nil) ⟨a, ns, rfl, hS, hl, fun _ => rfl⟩) fun r s' h => ?_
    cases r with
    | error e => exact False.elim h
    | ok fl =>
      cases fl with
      | ret u =>
        obtain ⟨v, H', os, bare, un, hok', r', q⟩ := h
        obtain rfl : v = .bl true := q
        obtain rfl : u = Value.bool true := r'
        refine ⟨rfl, OldK.of_keep fun b o e => ?_, os, bare⟩
        rcases hO b with z | ⟨rfl, z⟩
        · exact un.keep b o e z (fun y => absurd (show b ∈ ([] : List Addr) from y) (by simp)) (by simp)
        · obtain ⟨e1, _⟩ := hok b _ z
          obtain ⟨e2, _⟩ := hok' b _ (un.frzs b _ _ z)
          rw [e] at e1
          cases e1
          exact e2
      | _ => exact False.elim h
  cases hk : K.lookup a with
  | some o =>
    have e := KX a o hk
    rw [ha] at e
    cases e
    exact core (fun _ => none) (fun _ => .inl rfl) (.inr ⟨_, vs.toArray, _, hk, rfl, rfl, rfl, by rw [List.size_toArray, lenV]; exact hl2, by simpa using rv⟩) (fun b u z => by cases z) fun z => absurd rfl z
  | none =>
    refine core (fun b => if b = a then some (.frz { cls := .type "list", data := .seq vs.toArray } (.lst (ns.map V.int))) else none) (fun b => ?_) (.inl (.inr ⟨{ cls := .type "list", data := .seq vs.toArray }, if_pos rfl⟩)) (fun b u z => ?_) fun _ => hk
    · by_cases hb : b = a
      · exact .inr ⟨hb, if_pos hb⟩
      · exact .inl (if_neg hb)
    · by_cases hb : b = a
      · have z' := (if_pos hb).symm.trans z
        cases z'
        subst hb
        exact ⟨ha, by rw [List.length_map]; exact hl2, vs, _, rv, ha⟩
      · have z' := (if_neg hb).symm.trans z
        cases z'
theorem walk_law {l : PySem.W.OpenLaw} {k : Nat} {q : Program} {loose : List Str} {XP : (Str → Option Value) → Heap → Prop} {YP : World → Heap → Prop} {d : DefRec} {x : Str}
    (hn : l.most = some 63) (hdf : d.params.defaults = []) (hr : RG k callerA)
    (F : ∀ (w : World) (mg : Str → Option Value) (fa : Addr) (h : Heap), YP w h → h.Ns mainGlobals mg → mg d.name = some (.ref fa) →
      ∃ (K : PySem.W.Frag) (fd : FuncData), K.In h ∧ Binds K fd [x] [] ∧ ∀ base : Heap, K.In base → base.Ns mainGlobals mg → FnG l.prog w K mg base k fa fd [x] (spLaw K)) :
    PySem.W.WalkO q loose XP YP l.row.toRowW d [] (fun f vs => PySem.call f vs) := by
  refine Att.attach_call hn hdf fun w s₀ s₁ mg mb fa o pm cd doc a vs ns G Y ho hd hcd hmg hobj hints hlen hg => ?_
  obtain ⟨K, fd, KX, hb, hF⟩ := F w mg fa _ Y G.T.g hmg
  exact call_law KX G.T.g G.T.b G.T.builtins G.T.nolimit hg hobj hints hlen hr hF hb
end RK
-- HeadE
set_option Elab.async false
set_option linter.all false
set_option maxRecDepth 100000
set_option maxHeartbeats 0
namespace RKH
open PySem PySem.Spec PyProof.Rows L2 RK
theorem ob_eq (s : PySem.W.SharedT) : ob s = hk.obs s.abs := obsR_eq (HandSHeadRun.getT_eq s)
end RKH
open PySem PySem.W PySem.Calls PyProof.Rows
theorem PySem.Challenge.cw_ringdepth_k51_whole_ranked_told_holds : PySem.Challenge.rw_ringdepth_k51_whole_ranked_told.Holds := by
  w_on; o_law
  refine HandSHeadRun.head_any (r := OpenLaw.row PySem.Challenge.rw_ringdepth_k51_whole_ranked_told) (q := view (OpenLaw.row PySem.Challenge.rw_ringdepth_k51_whole_ranked_told).prog [79]) (H := RKH.hk) (ob := RKH.ob) (M := 12000) (loose := RKH.allNames) (d := HandSHeadRun.topDef (OpenLaw.row PySem.Challenge.rw_ringdepth_k51_whole_ranked_told).prog 79) (kwd := []) RKH.ob_eq
    (by kernel_rfl) (fun s => by kernel_rfl) RKH.run (by kernel_rfl) (by kernel_rfl) (by kernel_rfl) (by rfl) (by first | assumption | decide +kernel) (by decide +kernel) ⟨rfl, rfl, rfl, rfl, rfl, by decide +kernel⟩ ?hw ?hc
  case hw => w_witness2
  case hc =>
    refine RK.walk_law (l := PySem.Challenge.rw_ringdepth_k51_whole_ranked_told) (k := 11) (x := "_law_script") rfl (by kernel_rfl) ⟨⟨rfl, by decide, by decide⟩, rfl⟩ ?F
    intro w mg fa h Y G hmg0
    obtain ⟨K, KX, cB, cF⟩ := Y
    have T : RK.Txt K mg := ⟨⟨h, KX, G⟩, cB, cF⟩
    have hmg : mg ("law" : PySem.Str) = some (.ref fa) := by
      have e : (HandSHeadRun.topDef (OpenLaw.row PySem.Challenge.rw_ringdepth_k51_whole_ranked_told).prog 79).name = ("law" : PySem.Str) := by kernel_rfl
      rw [← e]
      exact hmg0
    have e1 := hmg.symm.trans T.g_law
    cases e1
    obtain ⟨fd, hb, hF⟩ := RK.ok_law T
    exact ⟨K, fd, KX, hb, fun base _ _ => hF _ w base⟩
