import PyProof.Rows.All
import Wide.All
import OpenK.AllK
import Wide.FinOn
import HandS.ForMost
import KE.KStateDown
import HandS.Head0
import HandS.Head1
import HandS.Head2
import HandS.HeadEnd
import HandS.HeadHook1
import HandS.HeadHook2
import KE.KDictKeyed
import KE.KeyNested
import HandS.IsInst
import HandS.TupMul
import HandS.TupAny
import HandS.TupLen
import HandS.Conv
import KE.KDictDisplayH
import HandS.Zip
import KE.GoesEnum
import HandS.Comp
import HandS.SortInts
import HandS.SortRule
import KE.KDictCopyH
import KE.KDictOf
import KE.SortData
import KE.DataMinMax
import KE.KDictSum
import KE.KDictPairs
import HandS.DictComp
import HandS.NoneIn
import PyProof.SumAny
import PyProof.Rows.SumGenD
import HandS.Wide
import PySem.Challenge.RW_lastdoors_k53_whole_greatest_bills_of_sm
set_option Elab.async false
set_option linter.all false
set_option maxRecDepth 100000
/-! DLText: the text by its places. -/
namespace DL
open PySem PySem.Spec PyProof.Rows L2
def top (i : Nat) : Stmt := PySem.Challenge.pw_lastdoors_k53_whole_greatest_bills_of_sm.main.body.getD i (.Pass ⟨0, 0, 0, 0⟩)
abbrev s_BadWeb_init : Stmt := (inClass (top 5) 0)
abbrev s_TooMany_init : Stmt := (inClass (top 6) 0)
abbrev s_common : Stmt := (top 10)
abbrev s_made : Stmt := (top 11)
abbrev s_whole : Stmt := (top 12)
abbrev s_plus : Stmt := (top 13)
abbrev s_minus : Stmt := (top 14)
abbrev s_times : Stmt := (top 15)
abbrev s_over : Stmt := (top 16)
abbrev s_is_less : Stmt := (top 17)
abbrev s_total : Stmt := (top 18)
abbrev s_is_fraction : Stmt := (top 19)
abbrev s_is_number : Stmt := (top 20)
abbrev s_is_within : Stmt := (top 24)
abbrev s_is_pair : Stmt := (top 25)
abbrev s_is_triple : Stmt := (top 26)
abbrev s_is_rising : Stmt := (top 27)
abbrev s_is_house : Stmt := (top 28)
abbrev s_is_step : Stmt := (top 29)
abbrev s_is_load : Stmt := (top 30)
abbrev s_check_load : Stmt := (top 31)
abbrev s_is_price : Stmt := (top 32)
abbrev s_check_prices : Stmt := (top 33)
abbrev s_with_times : Stmt := (top 35)
abbrev s_without_noughts : Stmt := (top 36)
abbrev s_Equation_init : Stmt := (inClass (top 37) 0)
abbrev s_Equation_less : Stmt := (inClass (top 37) 1)
abbrev s_solved : Stmt := (top 38)
abbrev s_values_of : Stmt := (top 39)
abbrev s_is_standing : Stmt := (top 45)
abbrev s_is_dealer : Stmt := (top 46)
abbrev s_met_from : Stmt := (top 47)
abbrev s_is_joined : Stmt := (top 48)
abbrev s_doors_of : Stmt := (top 49)
abbrev s_check_web : Stmt := (top 50)
abbrev s_Web_init : Stmt := (inClass (top 51) 0)
abbrev s_Web___eq__ : Stmt := (inClass (top 51) 1)
abbrev s_all_steps : Stmt := (top 52)
abbrev s_door_at : Stmt := (top 53)
abbrev s_next_at : Stmt := (top 54)
abbrev s_price_of : Stmt := (top 56)
abbrev s_worth_name : Stmt := (top 57)
abbrev s_equation_of : Stmt := (top 58)
abbrev s_looked_for : Stmt := (top 59)
abbrev s_table_of : Stmt := (top 60)
abbrev s_needed_table : Stmt := (top 61)
abbrev s_told_worth : Stmt := (top 62)
abbrev s_told_leads : Stmt := (top 63)
abbrev s_behind : Stmt := (top 66)
abbrev s_moves_at : Stmt := (top 67)
abbrev s_all_triples : Stmt := (top 68)
abbrev s_is_over : Stmt := (top 69)
abbrev s_ends_in : Stmt := (top 70)
abbrev s_most_of : Stmt := (top 71)
abbrev s_law_dice : Stmt := (top 73)
abbrev s_law_draw : Stmt := (top 74)
abbrev s_law_doors : Stmt := (top 75)
abbrev s_law_dealer : Stmt := (top 76)
abbrev s_law_web : Stmt := (top 77)
abbrev s_law_steps : Stmt := (top 78)
abbrev s_law_door : Stmt := (top 79)
abbrev s_law_next : Stmt := (top 80)
abbrev s_law_fraction : Stmt := (top 81)
abbrev s_law_sum : Stmt := (top 82)
abbrev s_law_planted : Stmt := (top 83)
abbrev s_law_less : Stmt := (top 84)
abbrev s_law_load : Stmt := (top 85)
abbrev s_law_behind : Stmt := (top 86)
abbrev s_law_triples : Stmt := (top 87)
abbrev s_law_bills : Stmt := (top 88)
abbrev s_law_greatest : Stmt := (top 89)
abbrev s_law_turned_about : Stmt := (top 90)
abbrev s_law : Stmt := (top 91)
end DL
set_option Elab.async false
set_option linter.all false
set_option maxRecDepth 100000
set_option maxHeartbeats 0
/-! DLHead: the top by one run; facts by names. -/
namespace DL
open PySem PySem.Spec PyProof.Rows L2
def hfn0_0 : List He.FnD := [⟨("common", none), "common", "common", defArgs s_common, defBody s_common, defScope s_common⟩,
  ⟨("made", none), "made", "made", defArgs s_made, defBody s_made, defScope s_made⟩,
  ⟨("whole", none), "whole", "whole", defArgs s_whole, defBody s_whole, defScope s_whole⟩,
  ⟨("plus", none), "plus", "plus", defArgs s_plus, defBody s_plus, defScope s_plus⟩,
  ⟨("minus", none), "minus", "minus", defArgs s_minus, defBody s_minus, defScope s_minus⟩,
  ⟨("times", none), "times", "times", defArgs s_times, defBody s_times, defScope s_times⟩,
  ⟨("over", none), "over", "over", defArgs s_over, defBody s_over, defScope s_over⟩,
  ⟨("is_less", none), "is_less", "is_less", defArgs s_is_less, defBody s_is_less, defScope s_is_less⟩,
  ⟨("total", none), "total", "total", defArgs s_total, defBody s_total, defScope s_total⟩,
  ⟨("is_fraction", none), "is_fraction", "is_fraction", defArgs s_is_fraction, defBody s_is_fraction, defScope s_is_fraction⟩,
  ⟨("is_number", none), "is_number", "is_number", defArgs s_is_number, defBody s_is_number, defScope s_is_number⟩,
  ⟨("is_within", none), "is_within", "is_within", defArgs s_is_within, defBody s_is_within, defScope s_is_within⟩,
  ⟨("is_pair", none), "is_pair", "is_pair", defArgs s_is_pair, defBody s_is_pair, defScope s_is_pair⟩,
  ⟨("is_triple", none), "is_triple", "is_triple", defArgs s_is_triple, defBody s_is_triple, defScope s_is_triple⟩,
  ⟨("is_rising", none), "is_rising", "is_rising", defArgs s_is_rising, defBody s_is_rising, defScope s_is_rising⟩,
  ⟨("is_house", none), "is_house", "is_house", defArgs s_is_house, defBody s_is_house, defScope s_is_house⟩,
  ⟨("is_step", none), "is_step", "is_step", defArgs s_is_step, defBody s_is_step, defScope s_is_step⟩,
  ⟨("is_load", none), "is_load", "is_load", defArgs s_is_load, defBody s_is_load, defScope s_is_load⟩,
  ⟨("check_load", none), "check_load", "check_load", defArgs s_check_load, defBody s_check_load, defScope s_check_load⟩,
  ⟨("is_price", none), "is_price", "is_price", defArgs s_is_price, defBody s_is_price, defScope s_is_price⟩,
  ⟨("check_prices", none), "check_prices", "check_prices", defArgs s_check_prices, defBody s_check_prices, defScope s_check_prices⟩,
  ⟨("with_times", none), "with_times", "with_times", defArgs s_with_times, defBody s_with_times, defScope s_with_times⟩,
  ⟨("without_noughts", none), "without_noughts", "without_noughts", defArgs s_without_noughts, defBody s_without_noughts, defScope s_without_noughts⟩,
  ⟨("Equation", some "__init__"), "__init__", "Equation.__init__", defArgs s_Equation_init, defBody s_Equation_init, defScope s_Equation_init⟩]
def hfn0 : List He.FnD := hfn0_0
def hfa0_0 : List He.Fa := [.glo "common",
  .keep "common",
  .glo "made",
  .keep "made",
  .glo "whole",
  .keep "whole",
  .glo "plus",
  .keep "plus",
  .glo "minus",
  .keep "minus",
  .glo "times",
  .keep "times",
  .glo "over",
  .keep "over",
  .glo "is_less",
  .keep "is_less",
  .glo "total",
  .keep "total",
  .glo "is_fraction",
  .keep "is_fraction",
  .glo "is_number",
  .keep "is_number",
  .glo "is_within",
  .keep "is_within",
  .glo "is_pair",
  .keep "is_pair",
  .glo "is_triple",
  .keep "is_triple",
  .glo "is_rising",
  .keep "is_rising"]
def hfa0_1 : List He.Fa := [.glo "is_house",
  .keep "is_house",
  .glo "is_step",
  .keep "is_step",
  .glo "is_load",
  .keep "is_load",
  .glo "check_load",
  .keep "check_load",
  .glo "is_price",
  .keep "is_price",
  .glo "check_prices",
  .keep "check_prices",
  .glo "with_times",
  .keep "with_times",
  .glo "without_noughts",
  .keep "without_noughts",
  .glo "Web",
  .cls "Web",
  .mkr "Web",
  .meth "Web" "__init__",
  .noat "Web" "cups",
  .noat "Web" "dealers"]
def hfa0 : List He.Fa := hfa0_0 ++ hfa0_1
def hfn1_0 : List He.FnD := [⟨("Equation", some "less"), "less", "Equation.less", defArgs s_Equation_less, defBody s_Equation_less, defScope s_Equation_less⟩,
  ⟨("solved", none), "solved", "solved", defArgs s_solved, defBody s_solved, defScope s_solved⟩,
  ⟨("values_of", none), "values_of", "values_of", defArgs s_values_of, defBody s_values_of, defScope s_values_of⟩,
  ⟨("is_standing", none), "is_standing", "is_standing", defArgs s_is_standing, defBody s_is_standing, defScope s_is_standing⟩,
  ⟨("is_dealer", none), "is_dealer", "is_dealer", defArgs s_is_dealer, defBody s_is_dealer, defScope s_is_dealer⟩,
  ⟨("met_from", none), "met_from", "met_from", defArgs s_met_from, defBody s_met_from, defScope s_met_from⟩,
  ⟨("is_joined", none), "is_joined", "is_joined", defArgs s_is_joined, defBody s_is_joined, defScope s_is_joined⟩,
  ⟨("doors_of", none), "doors_of", "doors_of", defArgs s_doors_of, defBody s_doors_of, defScope s_doors_of⟩,
  ⟨("check_web", none), "check_web", "check_web", defArgs s_check_web, defBody s_check_web, defScope s_check_web⟩,
  ⟨("Web", some "__init__"), "__init__", "Web.__init__", defArgs s_Web_init, defBody s_Web_init, defScope s_Web_init⟩,
  ⟨("all_steps", none), "all_steps", "all_steps", defArgs s_all_steps, defBody s_all_steps, defScope s_all_steps⟩,
  ⟨("door_at", none), "door_at", "door_at", defArgs s_door_at, defBody s_door_at, defScope s_door_at⟩,
  ⟨("next_at", none), "next_at", "next_at", defArgs s_next_at, defBody s_next_at, defScope s_next_at⟩,
  ⟨("price_of", none), "price_of", "price_of", defArgs s_price_of, defBody s_price_of, defScope s_price_of⟩,
  ⟨("worth_name", none), "worth_name", "worth_name", defArgs s_worth_name, defBody s_worth_name, defScope s_worth_name⟩,
  ⟨("equation_of", none), "equation_of", "equation_of", defArgs s_equation_of, defBody s_equation_of, defScope s_equation_of⟩,
  ⟨("looked_for", none), "looked_for", "looked_for", defArgs s_looked_for, defBody s_looked_for, defScope s_looked_for⟩,
  ⟨("table_of", none), "table_of", "table_of", defArgs s_table_of, defBody s_table_of, defScope s_table_of⟩,
  ⟨("needed_table", none), "needed_table", "needed_table", defArgs s_needed_table, defBody s_needed_table, defScope s_needed_table⟩,
  ⟨("told_worth", none), "told_worth", "told_worth", defArgs s_told_worth, defBody s_told_worth, defScope s_told_worth⟩,
  ⟨("told_leads", none), "told_leads", "told_leads", defArgs s_told_leads, defBody s_told_leads, defScope s_told_leads⟩,
  ⟨("behind", none), "behind", "behind", defArgs s_behind, defBody s_behind, defScope s_behind⟩,
  ⟨("moves_at", none), "moves_at", "moves_at", defArgs s_moves_at, defBody s_moves_at, defScope s_moves_at⟩,
  ⟨("all_triples", none), "all_triples", "all_triples", defArgs s_all_triples, defBody s_all_triples, defScope s_all_triples⟩]
def hfn1 : List He.FnD := hfn1_0
def hfa1_0 : List He.Fa := [.glo "solved",
  .keep "solved",
  .glo "values_of",
  .keep "values_of",
  .glo "is_standing",
  .keep "is_standing",
  .glo "is_dealer",
  .keep "is_dealer",
  .glo "met_from",
  .keep "met_from",
  .glo "is_joined",
  .keep "is_joined",
  .glo "doors_of",
  .keep "doors_of",
  .glo "check_web",
  .keep "check_web",
  .glo "all_steps",
  .keep "all_steps",
  .glo "door_at",
  .keep "door_at",
  .glo "next_at",
  .keep "next_at",
  .glo "price_of",
  .keep "price_of",
  .glo "worth_name",
  .keep "worth_name",
  .glo "equation_of",
  .keep "equation_of",
  .glo "looked_for",
  .keep "looked_for"]
def hfa1_1 : List He.Fa := [.glo "table_of",
  .keep "table_of",
  .glo "needed_table",
  .keep "needed_table",
  .glo "told_worth",
  .keep "told_worth",
  .glo "told_leads",
  .keep "told_leads",
  .glo "behind",
  .keep "behind",
  .glo "moves_at",
  .keep "moves_at",
  .glo "all_triples",
  .keep "all_triples",
  .glo "Equation",
  .cls "Equation",
  .mkr "Equation",
  .meth "Equation" "__init__",
  .meth "Equation" "less",
  .noat "Equation" "row",
  .noat "Equation" "right",
  .noat "Equation" "mix"]
def hfa1 : List He.Fa := hfa1_0 ++ hfa1_1
def hfn2_0 : List He.FnD := [⟨("is_over", none), "is_over", "is_over", defArgs s_is_over, defBody s_is_over, defScope s_is_over⟩,
  ⟨("ends_in", none), "ends_in", "ends_in", defArgs s_ends_in, defBody s_ends_in, defScope s_ends_in⟩,
  ⟨("most_of", none), "most_of", "most_of", defArgs s_most_of, defBody s_most_of, defScope s_most_of⟩,
  ⟨("_law_dice", none), "_law_dice", "_law_dice", defArgs s_law_dice, defBody s_law_dice, defScope s_law_dice⟩,
  ⟨("_law_draw", none), "_law_draw", "_law_draw", defArgs s_law_draw, defBody s_law_draw, defScope s_law_draw⟩,
  ⟨("_law_doors", none), "_law_doors", "_law_doors", defArgs s_law_doors, defBody s_law_doors, defScope s_law_doors⟩,
  ⟨("_law_dealer", none), "_law_dealer", "_law_dealer", defArgs s_law_dealer, defBody s_law_dealer, defScope s_law_dealer⟩,
  ⟨("_law_web", none), "_law_web", "_law_web", defArgs s_law_web, defBody s_law_web, defScope s_law_web⟩,
  ⟨("_law_steps", none), "_law_steps", "_law_steps", defArgs s_law_steps, defBody s_law_steps, defScope s_law_steps⟩,
  ⟨("_law_door", none), "_law_door", "_law_door", defArgs s_law_door, defBody s_law_door, defScope s_law_door⟩,
  ⟨("_law_next", none), "_law_next", "_law_next", defArgs s_law_next, defBody s_law_next, defScope s_law_next⟩,
  ⟨("_law_fraction", none), "_law_fraction", "_law_fraction", defArgs s_law_fraction, defBody s_law_fraction, defScope s_law_fraction⟩,
  ⟨("_law_sum", none), "_law_sum", "_law_sum", defArgs s_law_sum, defBody s_law_sum, defScope s_law_sum⟩,
  ⟨("_law_planted", none), "_law_planted", "_law_planted", defArgs s_law_planted, defBody s_law_planted, defScope s_law_planted⟩,
  ⟨("_law_less", none), "_law_less", "_law_less", defArgs s_law_less, defBody s_law_less, defScope s_law_less⟩,
  ⟨("_law_load", none), "_law_load", "_law_load", defArgs s_law_load, defBody s_law_load, defScope s_law_load⟩,
  ⟨("_law_behind", none), "_law_behind", "_law_behind", defArgs s_law_behind, defBody s_law_behind, defScope s_law_behind⟩,
  ⟨("_law_triples", none), "_law_triples", "_law_triples", defArgs s_law_triples, defBody s_law_triples, defScope s_law_triples⟩,
  ⟨("_law_bills", none), "_law_bills", "_law_bills", defArgs s_law_bills, defBody s_law_bills, defScope s_law_bills⟩,
  ⟨("_law_greatest", none), "_law_greatest", "_law_greatest", defArgs s_law_greatest, defBody s_law_greatest, defScope s_law_greatest⟩,
  ⟨("_law_turned_about", none), "_law_turned_about", "_law_turned_about", defArgs s_law_turned_about, defBody s_law_turned_about, defScope s_law_turned_about⟩,
  ⟨("law", none), "law", "law", defArgs s_law, defBody s_law, defScope s_law⟩]
def hfn2 : List He.FnD := hfn2_0
def hfa2_0 : List He.Fa := [.glo "is_over",
  .keep "is_over",
  .glo "ends_in",
  .keep "ends_in",
  .glo "most_of",
  .keep "most_of",
  .glo "_law_dice",
  .keep "_law_dice",
  .glo "_law_draw",
  .keep "_law_draw",
  .glo "_law_doors",
  .keep "_law_doors",
  .glo "_law_dealer",
  .keep "_law_dealer",
  .glo "_law_web",
  .keep "_law_web",
  .glo "_law_steps",
  .keep "_law_steps",
  .glo "_law_door",
  .keep "_law_door",
  .glo "_law_next",
  .keep "_law_next",
  .glo "_law_fraction",
  .keep "_law_fraction",
  .glo "_law_sum",
  .keep "_law_sum",
  .glo "_law_planted",
  .keep "_law_planted",
  .glo "_law_less",
  .keep "_law_less"]
def hfa2_1 : List He.Fa := [.glo "_law_load",
  .keep "_law_load",
  .glo "_law_behind",
  .keep "_law_behind",
  .glo "_law_triples",
  .keep "_law_triples",
  .glo "_law_bills",
  .keep "_law_bills",
  .glo "_law_greatest",
  .keep "_law_greatest",
  .glo "_law_turned_about",
  .keep "_law_turned_about",
  .glo "law",
  .keep "law",
  .glo "ZERO",
  .glo "ONE",
  .int "MOST_TOP" 1000000000,
  .int "MOST_BOTTOM" 1000000,
  .int "MOST_CUPS" 6,
  .int "MOST_HOUSES" 8,
  .int "MOST_STANDINGS" 8,
  .int "MOST_STEPS" 6,
  .int "MOST_TRIPLES" 20000,
  .free "len",
  .free "abs",
  .free "int",
  .free "all",
  .free "min",
  .free "sum",
  .free "tuple"]
def hfa2_2 : List He.Fa := [.free "list",
  .free "dict",
  .free "isinstance",
  .free "sorted",
  .free "range",
  .free "enumerate",
  .free "zip",
  .free "reversed",
  .free "bool"]
def hfa2 : List He.Fa := hfa2_0 ++ hfa2_1 ++ hfa2_2
def hnames_0 : List Str := ["DoorError",
  "NoLoad",
  "NoPrices",
  "NoTable",
  "BadWeb",
  "TooMany",
  "ZERO",
  "ONE",
  "common",
  "made",
  "whole",
  "plus",
  "minus",
  "times",
  "over",
  "is_less",
  "total",
  "is_fraction",
  "is_number",
  "MOST_TOP",
  "MOST_BOTTOM",
  "is_within",
  "is_pair",
  "is_triple",
  "is_rising",
  "is_house",
  "is_step",
  "is_load",
  "check_load",
  "is_price"]
def hnames_1 : List Str := ["check_prices",
  "with_times",
  "without_noughts",
  "Equation",
  "solved",
  "values_of",
  "MOST_CUPS",
  "MOST_HOUSES",
  "MOST_STANDINGS",
  "MOST_STEPS",
  "is_standing",
  "is_dealer",
  "met_from",
  "is_joined",
  "doors_of",
  "check_web",
  "Web",
  "all_steps",
  "door_at",
  "next_at",
  "price_of",
  "worth_name",
  "equation_of",
  "looked_for",
  "table_of",
  "needed_table",
  "told_worth",
  "told_leads",
  "MOST_TRIPLES",
  "behind"]
def hnames_2 : List Str := ["moves_at",
  "all_triples",
  "is_over",
  "ends_in",
  "most_of",
  "_law_dice",
  "_law_draw",
  "_law_doors",
  "_law_dealer",
  "_law_web",
  "_law_steps",
  "_law_door",
  "_law_next",
  "_law_fraction",
  "_law_sum",
  "_law_planted",
  "_law_less",
  "_law_load",
  "_law_behind",
  "_law_triples",
  "_law_bills",
  "_law_greatest",
  "_law_turned_about"]
def hnames : List Str := hnames_0 ++ hnames_1 ++ hnames_2
abbrev hR : PySem.W.OpenRow := PySem.W.OpenLaw.row PySem.Challenge.rw_lastdoors_k53_whole_greatest_bills_of_sm
abbrev hq : Program := PySem.W.view hR.prog [91]
def tuB (K : PySem.W.Frag) : Bool := He.tupB K "ZERO" [.int 0, .int 1] && He.tupB K "ONE" [.int 1, .int 1]
/-- what is looked at: all that stands at the first addresses -/
def frX (g : Addr → Option Obj) : PySem.W.Frag := He.frG g (List.range 700)
abbrev AlX : Type := He.Al × He.Al × He.Al × Bool
def obsX (K : PySem.W.Frag) : AlX := (He.obsE hfa0 hfn0 K, He.obsE hfa1 hfn1 K, He.obsE hfa2 hfn2 K, tuB K)
def valX : AlX := (He.valE hfn0, He.valE hfn1, He.valE hfn2, true)
structure SaysX (K : PySem.W.Frag) : Prop where
  p0 : He.SaysE hfa0 hfn0 K
  p1 : He.SaysE hfa1 hfn1 K
  p2 : He.SaysE hfa2 hfn2 K
  tu : tuB K = true
theorem SaysX.mk_ {K : PySem.W.Frag} (c : obsX K = valX) : SaysX K := ⟨congrArg (fun z : AlX => z.1) c, congrArg (fun z : AlX => z.2.1) c, congrArg (fun z : AlX => z.2.2.1) c, congrArg (fun z : AlX => z.2.2.2) c⟩
def hk : PySem.W.Hook where
  α := AlX
  obs := fun s => obsX (frX s.heap.get?)
  val := fun _ => valX
  says := fun _ h => ∃ K : PySem.W.Frag, K.In h ∧ SaysX K
  of := fun _ _ e => ⟨_, He.frG_in, SaysX.mk_ e⟩
  keeps := fun _ _ _ ⟨K, hK, c⟩ k => ⟨K, PySem.W.Frag.In.keeps hK k, c⟩
def hob (s : PySem.W.SharedT) : AlX := obsX (frX (HandSHeadRun.getT s))
theorem hob_eq (s : PySem.W.SharedT) : hob s = hk.obs s.abs := by
  have e : HandSHeadRun.getT s = s.abs.heap.get? := funext (HandSHeadRun.getT_eq s)
  show obsX _ = obsX _
  rw [e]
/-- the top's end -/
noncomputable def hend (w : World) (os : OsState) : Option PySem.W.SharedT := HandSHeadRun.endF (HandSHeadRun.stepQ (HandSHeadRun.denQ HandSHeadRun.tabQ) hR.prog w) 6000 hR.prog w os
theorem hrunA (w : World) : HandSHeadRun.RunEq hR hq PySem.W.Hook.none (fun _ => ()) 6000 hnames w := by
  intro os
  kernel_rfl
theorem hrun0 (w : World) (os : OsState) : (hend w os).map (fun s => He.obsE hfa0 hfn0 (frX (HandSHeadRun.getT s))) = some (He.valE hfn0) := by
  kernel_rfl
theorem hrun1 (w : World) (os : OsState) : (hend w os).map (fun s => He.obsE hfa1 hfn1 (frX (HandSHeadRun.getT s))) = some (He.valE hfn1) := by
  kernel_rfl
theorem hrun2 (w : World) (os : OsState) : (hend w os).map (fun s => (He.obsE hfa2 hfn2 (frX (HandSHeadRun.getT s)), tuB (frX (HandSHeadRun.getT s)))) = some (He.valE hfn2, true) := by
  kernel_rfl
theorem map_two {α β γ δ : Type} {o : Option α} {f : α → β} {g : α → γ} {a : β} {b : γ} (h1 : o.map f = some a) (h2 : o.map g = some b) (k : β → γ → δ) : o.map (fun s => k (f s) (g s)) = some (k a b) := by
  cases o with
  | none => cases h1
  | some s =>
    injection h1 with h1
    injection h2 with h2
    show some (k (f s) (g s)) = _
    rw [h1, h2]
theorem hrun (w : World) : HandSHeadRun.RunEq hR hq hk hob 6000 hnames w := by
  intro os
  have a := map_two (hrunA w os) (map_two (hrun0 w os) (map_two (hrun1 w os) (hrun2 w os) fun x y => (x, y)) fun x y => (x, y)) fun x y => (x.1, x.2.1, (y.1, y.2.1, y.2.2.1, y.2.2.2))
  exact a
end DL
set_option Elab.async false
set_option linter.all false
set_option maxRecDepth 100000
/-! DLBase: values as data trees (D), how they stand in the abstract heap (Is), the relation R between a data environment and slots and heap, the judgements over data. -/
namespace DL
open PySem PySem.Spec PyProof.Rows L2
/-- a value as a tree of data -/
inductive D where
  | a (v : V) | t (xs : List D) | l (xs : List D) | d (kvs : List (NestedKey × D)) | i (C : Addr) (fs : List (Str × D)) | die | raw (x : HO) | at (p : Addr)
abbrev D.int (i : Int) : D := .a (.int i)
abbrev D.bl (b : Bool) : D := .a (.bl b)
abbrev D.non : D := .a .non
mutual
def ofKey : NestedKey → D
  | .none => .a .non
  | .num i => .a (.int i)
  | .text x => .a (.str x)
  | .tup ks => .t (ofKeys ks)
def ofKeys : List NestedKey → List D
  | [] => []
  | k :: ks => ofKey k :: ofKeys ks
end
mutual
/-- the key that a value is -/
def keyOf : D → Option NestedKey
  | .a (.int i) => some (.num i)
  | .t xs => (keysOf xs).map .tup
  | _ => none
def keysOf : List D → Option (List NestedKey)
  | [] => some []
  | x :: xs => match keyOf x, keysOf xs with
    | some k, some ks => some (k :: ks)
    | _, _ => none
end
def isAtom : V → Bool
  | .ref _ => false
  | .ty _ => false
  | _ => true
/-- the object at a is o -/
def Lit (a : Addr) (o : Obj) : Heap → Prop := fun h => h.get? a = some o
abbrev Row := NestedKey × V × V
/-- what a dict's object says: its rows (key, the key's value, the value) -/
structure DRel (w : World) (o : Obj) (rows : List Row) : Prop where
  ex : o.ExactDict
  ents : ∃ es ep, o.data = .dict es ep ∧ Paired (fun (r : Row) (e : DictEntry) => e.hash = r.1.hash w ∧ RelV r.2.1 e.key ∧ RelV r.2.2 e.val) rows es.toList
  nd : (rows.map (·.1)).Nodup
  len : rows.length ≤ sizeLine
/-- all keys are numbers, or all are tuples (of small depth) -/
def KKind (ks : List NestedKey) : Prop := (∀ k ∈ ks, ∃ i, k = .num i) ∨ (∀ k ∈ ks, (∃ l, k = .tup l) ∧ k.depth ≤ 8)
/-- a tuple of the written part -/
def KTup (K : PySem.W.Frag) (a : Addr) (xs : List V) : Prop := ∃ (o : Obj) (its : Array Value) (n : Nat), K.lookup a = some o ∧ o.cls = .type "tuple" ∧ o.data = .seq its n ∧ its.size ≤ sizeLine ∧ Vals xs its.toList
/-- the fixed things: the world, the written part, the dice's address -/
structure Fx where
  w : World
  K : PySem.W.Frag
  de : Option Addr
mutual
/-- the data d stands at the value v: none of its changeable nodes is owned (O) -/
inductive Is (F : Fx) (O : Addr → Prop) (H : Hp) : D → V → Prop
  | a {v : V} : isAtom v = true → Is F O H (.a v) v
  | t {p : Addr} {vs : List V} {ds : List D} : H p = some (.tup vs) → ¬ O p → IsL F O H ds vs → Is F O H (.t ds) (.ref p)
  | tk {p : Addr} {vs : List V} {ds : List D} : KTup F.K p vs → IsL F O H ds vs → Is F O H (.t ds) (.ref p)
  | l {p : Addr} {vs : List V} {ds : List D} : H p = some (.lst vs) → ¬ O p → IsL F O H ds vs → Is F O H (.l ds) (.ref p)
  | d {p : Addr} {o : Obj} {rows : List Row} {kvs : List (NestedKey × D)} : H p = some (.ext (Lit p o)) → ¬ O p → (p == sysModules) = false → DRel F.w o rows → KKind (rows.map (·.1)) →
      kvs.map (·.1) = rows.map (·.1) → IsL F O H (rows.map fun r => ofKey r.1) (rows.map (·.2.1)) → IsL F O H (kvs.map (·.2)) (rows.map (·.2.2)) → Is F O H (.d kvs) (.ref p)
  | i {p C dx : Addr} {fs : List (Str × V)} {ds : List (Str × D)} : H p = some (.ins C dx fs) → ¬ O p → fs.map (·.1) = ds.map (·.1) → IsL F O H (ds.map (·.2)) (fs.map (·.2)) → Is F O H (.i C ds) (.ref p)
  | die {p : Addr} : F.de = some p → Is F O H .die (.ref p)
  | raw {p : Addr} {x : HO} : H p = some x → ¬ O p → Is F O H (.raw x) (.ref p)
  | at {p : Addr} : Is F O H (.at p) (.ref p)
inductive IsL (F : Fx) (O : Addr → Prop) (H : Hp) : List D → List V → Prop
  | nil : IsL F O H [] []
  | cons {d : D} {v : V} {ds : List D} {vs : List V} : Is F O H d v → IsL F O H ds vs → IsL F O H (d :: ds) (v :: vs)
end
section
variable {F : Fx} {O O' : Addr → Prop} {H H' : Hp}
mutual
theorem Is.mono (hk : ∀ a o, H a = some o → ¬ O a → H' a = some o) (hO : ∀ a o, H a = some o → O' a → O a) : ∀ {d : D} {v : V}, Is F O H d v → Is F O' H' d v
  | _, _, .a h => .a h
  | _, _, .t h n r => .t (hk _ _ h n) (fun z => n (hO _ _ h z)) (IsL.mono hk hO r)
  | _, _, .tk h r => .tk h (IsL.mono hk hO r)
  | _, _, .l h n r => .l (hk _ _ h n) (fun z => n (hO _ _ h z)) (IsL.mono hk hO r)
  | _, _, .d h n y x kk e r1 r2 => .d (hk _ _ h n) (fun z => n (hO _ _ h z)) y x kk e (IsL.mono hk hO r1) (IsL.mono hk hO r2)
  | _, _, .i h n e r => .i (hk _ _ h n) (fun z => n (hO _ _ h z)) e (IsL.mono hk hO r)
  | _, _, .die e => .die e
  | _, _, .raw h n => .raw (hk _ _ h n) (fun z => n (hO _ _ h z))
  | _, _, .at => .at
theorem IsL.mono (hk : ∀ a o, H a = some o → ¬ O a → H' a = some o) (hO : ∀ a o, H a = some o → O' a → O a) : ∀ {d : List D} {v : List V}, IsL F O H d v → IsL F O' H' d v
  | _, _, .nil => .nil
  | _, _, .cons h t => .cons (Is.mono hk hO h) (IsL.mono hk hO t)
end
theorem IsL.length : ∀ {ds : List D} {vs : List V}, IsL F O H ds vs → ds.length = vs.length
  | _, _, .nil => rfl
  | _, _, .cons _ t => by rw [List.length_cons, List.length_cons, t.length]
theorem IsL.append : ∀ {ds es : List D} {vs us : List V}, IsL F O H ds vs → IsL F O H es us → IsL F O H (ds ++ es) (vs ++ us)
  | _, _, _, _, .nil, s => s
  | _, _, _, _, .cons h t, s => .cons h (t.append s)
theorem IsL.get : ∀ {ds : List D} {vs : List V} {i : Nat} {d : D}, IsL F O H ds vs → ds[i]? = some d → ∃ v, vs[i]? = some v ∧ Is F O H d v
  | _, _, _, _, .nil, e => by simp at e
  | _, _, 0, _, .cons h _, e => by simp at e; subst e; exact ⟨_, rfl, h⟩
  | _, _, i + 1, d, .cons _ t, e => by
    obtain ⟨v, h1, h2⟩ := t.get (i := i) (d := d) (by simpa using e)
    exact ⟨v, by simpa using h1, h2⟩
theorem IsL.getV : ∀ {ds : List D} {vs : List V} {i : Nat} {v : V}, IsL F O H ds vs → vs[i]? = some v → ∃ d, ds[i]? = some d ∧ Is F O H d v
  | _, _, _, _, .nil, e => by simp at e
  | _, _, 0, _, .cons h _, e => by simp at e; subst e; exact ⟨_, rfl, h⟩
  | _, _, i + 1, v, .cons _ t, e => by
    obtain ⟨d, h1, h2⟩ := t.getV (i := i) (v := v) (by simpa using e)
    exact ⟨d, by simpa using h1, h2⟩
theorem IsL.set : ∀ {ds : List D} {vs : List V} (i : Nat) {d : D} {v : V}, IsL F O H ds vs → Is F O H d v → IsL F O H (ds.set i d) (vs.set i v)
  | _, _, _, _, _, .nil, _ => .nil
  | _, _, 0, _, _, .cons _ t, h => .cons h t
  | _, _, i + 1, _, _, .cons q t, h => .cons q (t.set i h)
theorem IsL.take : ∀ {ds : List D} {vs : List V} (n : Nat), IsL F O H ds vs → IsL F O H (ds.take n) (vs.take n)
  | _, _, 0, _ => by simp only [List.take_zero]; exact .nil
  | _, _, _ + 1, .nil => .nil
  | _, _, n + 1, .cons h t => .cons h (t.take n)
theorem IsL.drop : ∀ {ds : List D} {vs : List V} (n : Nat), IsL F O H ds vs → IsL F O H (ds.drop n) (vs.drop n)
  | _, _, 0, r => r
  | _, _, _ + 1, .nil => .nil
  | _, _, n + 1, .cons _ t => t.drop n
theorem IsL.eraseIdx : ∀ {ds : List D} {vs : List V} (n : Nat), IsL F O H ds vs → IsL F O H (ds.eraseIdx n) (vs.eraseIdx n)
  | _, _, _, .nil => .nil
  | _, _, 0, .cons _ t => t
  | _, _, n + 1, .cons h t => .cons h (t.eraseIdx n)
theorem IsL.reverse {ds : List D} {vs : List V} (r : IsL F O H ds vs) : IsL F O H ds.reverse vs.reverse := by
  have go : ∀ {ds : List D} {vs : List V}, IsL F O H ds vs → IsL F O H ds.reverse vs.reverse := by
    intro ds
    induction ds with
    | nil => intro vs r; cases r; exact .nil
    | cons d ds ih =>
      intro vs r
      cases r with
      | cons h t => rw [List.reverse_cons, List.reverse_cons]; exact (ih t).append (.cons h .nil)
  exact go r
theorem IsL.ints : ∀ {ns : List Int}, IsL F O H (ns.map D.int) (ns.map V.int)
  | [] => .nil
  | _ :: _ => .cons (.a rfl) IsL.ints
theorem IsL.of_ints : ∀ {ns : List Int} {vs : List V}, IsL F O H (ns.map D.int) vs → vs = ns.map V.int
  | [], _, .nil => rfl
  | n :: ns, _, .cons h t => by
    cases h
    rw [IsL.of_ints (ns := ns) t]
    rfl
end
/-- the data d stands at a, changeable: a is not asked to be free of owners -/
def Root (F : Fx) (O : Addr → Prop) (H : Hp) : D → Addr → Prop
  | .l ds, p => ∃ vs, H p = some (.lst vs) ∧ IsL F O H ds vs
  | .d kvs, p => ∃ o rows, H p = some (.ext (Lit p o)) ∧ (p == sysModules) = false ∧ DRel F.w o rows ∧ KKind (rows.map (·.1)) ∧ kvs.map (·.1) = rows.map (·.1) ∧
      IsL F O H (rows.map fun r => ofKey r.1) (rows.map (·.2.1)) ∧ IsL F O H (kvs.map (·.2)) (rows.map (·.2.2))
  | _, _ => False
theorem Root.mono {F : Fx} {O O' : Addr → Prop} {H H' : Hp} {d : D} {p : Addr} (hp : ∀ o, H p = some o → H' p = some o) (hk : ∀ a o, H a = some o → ¬ O a → H' a = some o) (hO : ∀ a o, H a = some o → O' a → O a) (r : Root F O H d p) : Root F O' H' d p := by
  cases d with
  | l ds => obtain ⟨vs, e, r⟩ := r; exact ⟨vs, hp _ e, r.mono hk hO⟩
  | d kvs => obtain ⟨o, rows, e, y, x, kk, z, r1, r2⟩ := r; exact ⟨o, rows, hp _ e, y, x, kk, z, r1.mono hk hO, r2.mono hk hO⟩
  | _ => exact r.elim
theorem Root.is {F : Fx} {O : Addr → Prop} {H : Hp} {d : D} {p : Addr} (r : Root F O H d p) (n : ¬ O p) : Is F O H d (.ref p) := by
  cases d with
  | l ds => obtain ⟨vs, e, r⟩ := r; exact .l e n r
  | d kvs => obtain ⟨o, rows, e, y, x, kk, z, r1, r2⟩ := r; exact .d e n y x kk z r1 r2
  | _ => exact r.elim
theorem Root.there {F : Fx} {O : Addr → Prop} {H : Hp} {d : D} {p : Addr} (r : Root F O H d p) : ∃ o, H p = some o := by
  cases d with
  | l ds => obtain ⟨vs, e, _⟩ := r; exact ⟨_, e⟩
  | d kvs => obtain ⟨o, rows, e, _⟩ := r; exact ⟨_, e⟩
  | _ => exact r.elim
/-- the dice: its list at a -/
def DiceOk (F : Fx) (O : Addr → Prop) (H : Hp) (a : Addr) : Prop := ∃ (c : Addr) (ns : List Int) (at_ big st cnt : Int), H a = some (.lst [.ref c, .int at_, .int big, .int st, .int cnt]) ∧
  Is F O H (.l (ns.map D.int)) (.ref c) ∧ (∀ n ∈ ns, 0 ≤ n) ∧ 0 ≤ at_ ∧ 0 ≤ big ∧ 0 ≤ st ∧ 0 ≤ cnt
/-- a slot: unset, shared data, an owned list or dict -/
inductive Slot where
  | un | sh (d : D) | ow (d : D) | hid (v : V)
abbrev DEnv := List Slot
/-- where a body began: its heap, what is owned ahead of it -/
structure Bas where
  H0 : Hp
  O0 : Addr → Prop
  /-- lists and dicts that stand still meanwhile -/
  rs : List (D × Addr)
def own (B : Bas) (E : DEnv) (σ : L2.St) : Addr → Prop := fun a => B.O0 a ∨ ∃ (i : Nat) (d : D), E[i]? = some (.ow d) ∧ σ[i]? = some (some (.ref a))
/-- E tells the slots -/
structure R (F : Fx) (B : Bas) (ps : List (D × V)) (E : DEnv) (σ : L2.St) (H : Hp) : Prop where
  len : E.length = σ.length
  kept : ∀ a o, B.H0 a = some o → F.de ≠ some a → H a = some o
  o0 : ∀ a, B.O0 a → ∃ o, H a = some o
  dice : ∀ a, F.de = some a → B.O0 a ∧ DiceOk F (own B E σ) H a
  sh : ∀ (i : Nat) (d : D), E[i]? = some (.sh d) → ∃ v, σ[i]? = some (some v) ∧ Is F (own B E σ) H d v
  ow : ∀ (i : Nat) (d : D), E[i]? = some (.ow d) → ∃ a, σ[i]? = some (some (.ref a)) ∧ Root F (own B E σ) H d a ∧ B.H0 a = none ∧ ¬ B.O0 a
  inj : ∀ (i j : Nat) (d d' : D) (a : Addr), E[i]? = some (.ow d) → E[j]? = some (.ow d') → σ[i]? = some (some (.ref a)) → σ[j]? = some (some (.ref a)) → i = j
  hid : ∀ (i : Nat) (v : V), E[i]? = some (.hid v) → σ[i]? = some (some v)
  rts : ∀ p ∈ B.rs, B.O0 p.2 ∧ F.de ≠ some p.2 ∧ Root F (own B E σ) H p.1 p.2
  pins : ∀ p ∈ ps, Is F (own B E σ) H p.1 p.2
def Bas.plus (B : Bas) (a : Addr) : Bas := { B with O0 := fun b => B.O0 b ∨ b = a }
theorem own_plus {B : Bas} {E : DEnv} {σ : L2.St} {a b : Addr} : own (B.plus a) E σ b ↔ own B E σ b ∨ b = a := by
  unfold own Bas.plus
  constructor
  · rintro ((h | h) | h)
    · exact .inl (.inl h)
    · exact .inr h
    · exact .inl (.inr h)
  · rintro ((h | h) | h)
    · exact .inl (.inl h)
    · exact .inr h
    · exact .inl (.inr h)
/-- the kind of a value that an expression gives: shared, new (nobody else holds it), the owned one of a slot -/
inductive Fl where
  | sh | fr | ow (i : Nat)
def Fl.ok : Fl → Bool
  | .ow _ => false
  | _ => true
def Post (F : Fx) (B : Bas) (ps : List (D × V)) (E : DEnv) (σ : L2.St) (d : D) : Fl → V → Hp → Prop
  | .sh, v, H => R F B ps E σ H ∧ Is F (own B E σ) H d v
  | .fr, v, H => ∃ a, v = .ref a ∧ R F (B.plus a) ps E σ H ∧ Root F (own (B.plus a) E σ) H d a ∧ B.H0 a = none ∧ ¬ own B E σ a ∧ F.de ≠ some a ∧ ∀ p ∈ B.rs, B.O0 p.2
  | .ow i, v, H => R F B ps E σ H ∧ E[i]? = some (.ow d) ∧ σ[i]? = some (some v)
section
variable {F : Fx} {B : Bas} {ps ps' : List (D × V)} {E : DEnv} {σ : L2.St} {H H' : Hp} {d : D} {v : V} {a : Addr}
theorem R.own_there (r : R F B ps E σ H) {a : Addr} (h : own B E σ a) : ∃ o, H a = some o := by
  rcases h with h | ⟨i, d, e1, e2⟩
  · exact r.o0 a h
  · obtain ⟨b, e3, rt, _⟩ := r.ow i d e1
    rw [e2] at e3
    cases e3
    exact rt.there
theorem R.de_own (r : R F B ps E σ H) {a : Addr} (h : F.de = some a) : own B E σ a := .inl (r.dice a h).1
theorem DiceOk.mono {O O' : Addr → Prop} (ha : ∀ o, H a = some o → H' a = some o) (hk : ∀ a o, H a = some o → ¬ O a → H' a = some o) (hO : ∀ a o, H a = some o → O' a → O a) (h : DiceOk F O H a) : DiceOk F O' H' a := by
  obtain ⟨c, ns, a1, a2, a3, a4, h1, h2, h3⟩ := h
  exact ⟨c, ns, a1, a2, a3, a4, ha _ h1, h2.mono hk hO, h3⟩
/-- the heap changes: what is not the dice's list stays -/
theorem R.step (r : R F B ps E σ H) (hk : ∀ a o, H a = some o → F.de ≠ some a → H' a = some o) (hd : ∀ a, F.de = some a → DiceOk F (own B E σ) H' a) (ht : ∀ a o, H a = some o → ∃ o', H' a = some o') : R F B ps E σ H' := by
  have hk' : ∀ a o, H a = some o → ¬ own B E σ a → H' a = some o := fun a o e n => hk a o e fun z => n (r.de_own z)
  refine ⟨r.len, fun a o e n => hk a o (r.kept a o e n) n, fun a h => ?_, fun a h => ⟨(r.dice a h).1, hd a h⟩, fun i d e => ?_, fun i d e => ?_, r.inj, r.hid, fun p hp => ⟨(r.rts p hp).1, (r.rts p hp).2.1, (r.rts p hp).2.2.mono (fun o q => hk _ o q (r.rts p hp).2.1) hk' fun _ _ _ z => z⟩, fun p hp => (r.pins p hp).mono hk' fun _ _ _ z => z⟩
  · obtain ⟨o, e⟩ := r.o0 a h
    exact ht a o e
  · obtain ⟨v, e1, h⟩ := r.sh i d e
    exact ⟨v, e1, h.mono hk' fun _ _ _ z => z⟩
  · obtain ⟨b, e1, rt, n1, n2⟩ := r.ow i d e
    have nb : F.de ≠ some b := fun z => n2 (r.dice b z).1
    exact ⟨b, e1, rt.mono (fun o q => hk b o q nb) hk' fun _ _ _ z => z, n1, n2⟩
theorem R.grow (r : R F B ps E σ H) (hk : ∀ a o, H a = some o → H' a = some o) : R F B ps E σ H' :=
  r.step (fun a o e _ => hk a o e) (fun a h => (r.dice a h).2.mono (hk a) (fun a o e _ => hk a o e) fun _ _ _ z => z) fun a o e => ⟨o, hk a o e⟩
theorem upd_keeps {H : Hp} {p : Addr} {o : HO} (hp : H p = none) : ∀ a x, H a = some x → upd H p o a = some x := fun a x e => by rw [upd_ne (ne_of_none e hp)]; exact e
theorem R.mem_pins (r : R F B ps E σ H) (h : ∀ p ∈ ps', Is F (own B E σ) H p.1 p.2) : R F B ps' E σ H := ⟨r.len, r.kept, r.o0, r.dice, r.sh, r.ow, r.inj, r.hid, r.rts, h⟩
theorem R.pin (r : R F B ps E σ H) (h : Is F (own B E σ) H d v) : R F B ((d, v) :: ps) E σ H := r.mem_pins fun p hp => by
  rcases List.mem_cons.mp hp with e | hp
  · subst e; exact h
  · exact r.pins p hp
theorem R.unpin {p : D × V} (r : R F B (p :: ps) E σ H) : R F B ps E σ H ∧ Is F (own B E σ) H p.1 p.2 := ⟨r.mem_pins fun q hq => r.pins q (List.mem_cons_of_mem _ hq), r.pins p List.mem_cons_self⟩
theorem IsL.zip_pins {O : Addr → Prop} : ∀ {ds : List D} {vs : List V}, ds.length = vs.length → ((∀ p ∈ ds.zip vs, Is F O H p.1 p.2) ↔ IsL F O H ds vs)
  | [], [], _ => ⟨fun _ => .nil, fun _ p hp => by simp at hp⟩
  | [], _ :: _, e => by simp at e
  | _ :: _, [], e => by simp at e
  | d :: ds, v :: vs, e => by
    have ih := IsL.zip_pins (O := O) (ds := ds) (vs := vs) (by simpa using e)
    constructor
    · intro h
      exact .cons (h (d, v) (by simp)) (ih.mp fun p hp => h p (by simp [hp]))
    · intro h p hp
      cases h with
      | cons h t =>
        rw [List.zip_cons_cons] at hp
        rcases List.mem_cons.mp hp with e | hp
        · subst e; exact h
        · exact ih.mpr t p hp
theorem R.pinL {ds : List D} {vs : List V} (r : R F B ps E σ H) (h : IsL F (own B E σ) H ds vs) : R F B (ds.zip vs ++ ps) E σ H := r.mem_pins fun p hp => by
  rcases List.mem_append.mp hp with hp | hp
  · exact (IsL.zip_pins h.length).mpr h p hp
  · exact r.pins p hp
theorem R.unpinL {ds : List D} {vs : List V} (e : ds.length = vs.length) (r : R F B (ds.zip vs ++ ps) E σ H) : R F B ps E σ H ∧ IsL F (own B E σ) H ds vs :=
  ⟨r.mem_pins fun q hq => r.pins q (List.mem_append_right _ hq), (IsL.zip_pins e).mp fun p hp => r.pins p (List.mem_append_left _ hp)⟩
/-- fewer are owned ahead -/
theorem R.minus (r : R F (B.plus a) ps E σ H) (hd : F.de ≠ some a ∨ B.O0 a) (hr : ∀ p ∈ B.rs, B.O0 p.2) : R F B ps E σ H := by
  have hO : ∀ b (o : HO), H b = some o → own B E σ b → own (B.plus a) E σ b := fun b _ _ h => own_plus.mpr (.inl h)
  refine ⟨r.len, r.kept, fun b h => r.o0 b (.inl h), fun b h => ⟨?_, (r.dice b h).2.mono (fun _ z => z) (fun _ _ z _ => z) hO⟩, fun i d e => ?_, fun i d e => ?_, r.inj, r.hid, fun p hp => ⟨hr p hp, (r.rts p hp).2.1, (r.rts p hp).2.2.mono (fun _ z => z) (fun _ _ z _ => z) hO⟩, fun p hp => (r.pins p hp).mono (fun _ _ z _ => z) hO⟩
  · rcases (r.dice b h).1 with z | z
    · exact z
    · subst z
      rcases hd with q | q
      · exact absurd h q
      · exact q
  · obtain ⟨v, e1, h⟩ := r.sh i d e
    exact ⟨v, e1, h.mono (fun _ _ z _ => z) hO⟩
  · obtain ⟨b, e1, rt, n1, n2⟩ := r.ow i d e
    exact ⟨b, e1, rt.mono (fun _ z => z) (fun _ _ z _ => z) hO, n1, fun z => n2 (.inl z)⟩
/-- a value as shared -/
theorem Post.sh {f : Fl} (p : Post F B ps E σ d f v H) (h : f.ok = true) : R F B ps E σ H ∧ Is F (own B E σ) H d v := by
  cases f with
  | sh => exact p
  | ow i => cases h
  | fr =>
    obtain ⟨a, rfl, r, rt, n1, n2, nd, hr⟩ := p
    exact ⟨r.minus (.inl nd) hr, (rt.mono (fun _ z => z) (fun _ _ z _ => z) fun b _ _ h => own_plus.mpr (.inl h)).is n2⟩
/-! ### slots stored -/
theorem own_set {s : Slot} {x : Option V} {i : Nat} (h : own B (E.set i s) (σ.set i x) a) : own B E σ a ∨ ∃ d, s = .ow d ∧ x = some (.ref a) := by
  rcases h with h | ⟨j, d, e1, e2⟩
  · exact .inl (.inl h)
  · by_cases hj : i = j
    · subst hj
      by_cases hi : i < E.length
      · rw [List.getElem?_set_self hi] at e1
        by_cases hs : i < σ.length
        · rw [List.getElem?_set_self hs] at e2
          exact .inr ⟨d, Option.some.inj e1, Option.some.inj e2⟩
        · rw [List.getElem?_eq_none (by simpa using hs)] at e2; cases e2
      · rw [List.getElem?_eq_none (by simpa using hi)] at e1; cases e1
    · rw [List.getElem?_set_ne hj] at e1 e2
      exact .inl (.inr ⟨j, d, e1, e2⟩)
theorem get_set {α : Type} {l : List α} {i j : Nat} {x y : α} (e : (l.set i x)[j]? = some y) : (i = j ∧ x = y ∧ i < l.length) ∨ (i ≠ j ∧ l[j]? = some y) := by
  by_cases hj : i = j
  · subst hj
    by_cases hi : i < l.length
    · rw [List.getElem?_set_self hi] at e
      exact .inl ⟨rfl, Option.some.inj e, hi⟩
    · rw [List.getElem?_eq_none (by simpa using hi)] at e; cases e
  · rw [List.getElem?_set_ne hj] at e
    exact .inr ⟨hj, e⟩
/-- a slot is stored: what it holds is told by s -/
theorem R.put {s : Slot} {x : Option V} {i : Nat} (r : R F B ps E σ H) (h1 : ∀ d, s = .sh d → ∃ v, x = some v ∧ Is F (own B E σ) H d v) (h2 : ∀ d, s ≠ .ow d) (h3 : ∀ v, s = .hid v → x = some v) : R F B ps (E.set i s) (σ.set i x) H := by
  have hO : ∀ b (o : HO), H b = some o → own B (E.set i s) (σ.set i x) b → own B E σ b := fun b _ _ h => by
    rcases own_set h with h | ⟨d, e, _⟩
    · exact h
    · exact absurd e (h2 d)
  have st : ∀ {d v}, Is F (own B E σ) H d v → Is F (own B (E.set i s) (σ.set i x)) H d v := fun h => h.mono (fun _ _ z _ => z) hO
  have rt : ∀ {d a}, Root F (own B E σ) H d a → Root F (own B (E.set i s) (σ.set i x)) H d a := fun h => h.mono (fun _ z => z) (fun _ _ z _ => z) hO
  have hl := r.len
  refine ⟨by simpa using hl, r.kept, r.o0, fun b h => ⟨(r.dice b h).1, (r.dice b h).2.mono (fun _ z => z) (fun _ _ z _ => z) hO⟩, fun j d e => ?_, fun j d e => ?_, fun j k d d' b e1 e2 e3 e4 => ?_, fun j v e => ?_, fun p hp => ⟨(r.rts p hp).1, (r.rts p hp).2.1, rt (r.rts p hp).2.2⟩, fun p hp => st (r.pins p hp)⟩
  · rcases get_set e with ⟨rfl, e, hi⟩ | ⟨hj, e⟩
    · obtain ⟨v, rfl, h⟩ := h1 d e
      exact ⟨v, List.getElem?_set_self (by omega), st h⟩
    · obtain ⟨v, e1, h⟩ := r.sh j d e
      exact ⟨v, by rw [List.getElem?_set_ne hj]; exact e1, st h⟩
  · rcases get_set e with ⟨rfl, e, hi⟩ | ⟨hj, e⟩
    · exact absurd e (h2 d)
    · obtain ⟨b, e1, h, n1, n2⟩ := r.ow j d e
      exact ⟨b, by rw [List.getElem?_set_ne hj]; exact e1, rt h, n1, n2⟩
  · rcases get_set e1 with ⟨_, e1, _⟩ | ⟨hj, e1⟩
    · exact absurd e1 (h2 d)
    · rcases get_set e2 with ⟨_, e2, _⟩ | ⟨hk, e2⟩
      · exact absurd e2 (h2 d')
      · rw [List.getElem?_set_ne hj] at e3
        rw [List.getElem?_set_ne hk] at e4
        exact r.inj j k d d' b e1 e2 e3 e4
  · rcases get_set e with ⟨rfl, e, hi⟩ | ⟨hj, e⟩
    · rw [h3 v e]; exact List.getElem?_set_self (by omega)
    · rw [List.getElem?_set_ne hj]; exact r.hid j v e
theorem R.put_sh {i : Nat} (r : R F B ps E σ H) (h : Is F (own B E σ) H d v) : R F B ps (E.set i (.sh d)) (σ.set i (some v)) H :=
  r.put (fun d' e => by cases e; exact ⟨v, rfl, h⟩) (fun _ e => by cases e) fun _ e => by cases e
theorem R.put_un {i : Nat} {x : Option V} (r : R F B ps E σ H) : R F B ps (E.set i .un) (σ.set i x) H := r.put (fun _ e => by cases e) (fun _ e => by cases e) fun _ e => by cases e
/-- a new list or dict is stored: the slot owns it -/
theorem R.put_fr {i : Nat} (r : R F (B.plus a) ps E σ H) (rt : Root F (own (B.plus a) E σ) H d a) (n1 : B.H0 a = none) (n2 : ¬ own B E σ a) (nd : F.de ≠ some a) (hr : ∀ p ∈ B.rs, B.O0 p.2) : R F B ps (E.set i (.ow d)) (σ.set i (some (.ref a))) H := by
  have hO : ∀ b (o : HO), H b = some o → own B (E.set i (.ow d)) (σ.set i (some (.ref a))) b → own (B.plus a) E σ b := fun b _ _ h => by
    rcases own_set h with h | ⟨d', _, e⟩
    · exact own_plus.mpr (.inl h)
    · cases e; exact own_plus.mpr (.inr rfl)
  have st : ∀ {d' v}, Is F (own (B.plus a) E σ) H d' v → Is F (own B (E.set i (.ow d)) (σ.set i (some (.ref a)))) H d' v := fun h => h.mono (fun _ _ z _ => z) hO
  have rs : ∀ {d' b}, Root F (own (B.plus a) E σ) H d' b → Root F (own B (E.set i (.ow d)) (σ.set i (some (.ref a)))) H d' b := fun h => h.mono (fun _ z => z) (fun _ _ z _ => z) hO
  have hl := r.len
  refine ⟨by simpa using hl, r.kept, fun b h => r.o0 b (.inl h), fun b h => ⟨?_, (r.dice b h).2.mono (fun _ z => z) (fun _ _ z _ => z) hO⟩, fun j d' e => ?_, fun j d' e => ?_, fun j k d1 d2 b e1 e2 e3 e4 => ?_, fun j v e => ?_, fun p hp => ⟨hr p hp, (r.rts p hp).2.1, rs (r.rts p hp).2.2⟩, fun p hp => st (r.pins p hp)⟩
  · rcases (r.dice b h).1 with z | z
    · exact z
    · subst z; exact absurd h nd
  · rcases get_set e with ⟨rfl, e, hi⟩ | ⟨hj, e⟩
    · cases e
    · obtain ⟨v, e1, h⟩ := r.sh j d' e
      exact ⟨v, by rw [List.getElem?_set_ne hj]; exact e1, st h⟩
  · rcases get_set e with ⟨rfl, e, hi⟩ | ⟨hj, e⟩
    · cases e
      exact ⟨a, List.getElem?_set_self (by omega), rs rt, n1, fun z => n2 (.inl z)⟩
    · obtain ⟨b, e1, h, m1, m2⟩ := r.ow j d' e
      exact ⟨b, by rw [List.getElem?_set_ne hj]; exact e1, rs h, m1, fun z => m2 (.inl z)⟩
  · rcases get_set e1 with ⟨rfl, e1, _⟩ | ⟨hj, e1⟩
    · rcases get_set e2 with ⟨rfl, e2, _⟩ | ⟨hk, e2⟩
      · rfl
      · rcases get_set e3 with ⟨_, e3, _⟩ | ⟨q, _⟩
        · cases e3
          rw [List.getElem?_set_ne hk] at e4
          exact absurd (.inr ⟨k, d2, e2, e4⟩) n2
        · exact absurd rfl q
    · rw [List.getElem?_set_ne hj] at e3
      rcases get_set e2 with ⟨rfl, e2, _⟩ | ⟨hk, e2⟩
      · rcases get_set e4 with ⟨_, e4, _⟩ | ⟨q, _⟩
        · cases e4
          exact absurd (.inr ⟨j, d1, e1, e3⟩) n2
        · exact absurd rfl q
      · rw [List.getElem?_set_ne hk] at e4
        exact r.inj j k d1 d2 b e1 e2 e3 e4
  · rcases get_set e with ⟨rfl, e, hi⟩ | ⟨hj, e⟩
    · cases e
    · rw [List.getElem?_set_ne hj]; exact r.hid j v e
/-- an owned thing that no slot holds changes -/
theorem R.writeO {p : Addr} {o : HO} (r : R F B ps E σ H) (hp : B.O0 p) (n0 : B.H0 p = none) (nd : F.de ≠ some p) (ns : ∀ (i : Nat) (d : D), E[i]? = some (.ow d) → σ[i]? ≠ some (some (.ref p))) (nr : ∀ q ∈ B.rs, q.2 ≠ p) : R F B ps E σ (upd H p o) := by
  have hk' : ∀ a x, H a = some x → ¬ own B E σ a → upd H p o a = some x := fun a x e n => by rw [upd_ne (fun z => n (by rw [z]; exact .inl hp))]; exact e
  have ne : ∀ a x, H a = some x → a ≠ p → upd H p o a = some x := fun a x e n => by rw [upd_ne n]; exact e
  have st : ∀ {d v}, Is F (own B E σ) H d v → Is F (own B E σ) (upd H p o) d v := fun h => h.mono hk' fun _ _ _ z => z
  refine ⟨r.len, fun a x e n => ?_, fun a h => ?_, fun a h => ⟨(r.dice a h).1, (r.dice a h).2.mono (fun x e => ne a x e ?_) hk' fun _ _ _ z => z⟩, fun i d e => ?_, fun i d e => ?_, r.inj, r.hid, fun q hq => ⟨(r.rts q hq).1, (r.rts q hq).2.1, (r.rts q hq).2.2.mono (fun x e => ne _ x e (nr q hq)) hk' fun _ _ _ z => z⟩, fun q hq => st (r.pins q hq)⟩
  · refine ne a x (r.kept a x e n) fun z => ?_
    rw [z, n0] at e; cases e
  · obtain ⟨x, e⟩ := r.o0 a h
    by_cases z : a = p
    · exact ⟨o, by rw [z]; exact upd_same⟩
    · exact ⟨x, ne a x e z⟩
  · rintro rfl; exact nd h
  · obtain ⟨v, e1, h⟩ := r.sh i d e
    exact ⟨v, e1, st h⟩
  · obtain ⟨b, e1, h, n1, n2⟩ := r.ow i d e
    refine ⟨b, e1, h.mono (fun x q => ne b x q ?_) hk' (fun _ _ _ z => z), n1, n2⟩
    rintro rfl; exact ns i d e e1
/-- the owned list or dict of slot i changes -/
theorem R.write {p : Addr} {o : HO} {i : Nat} {d d' : D} (r : R F B ps E σ H) (e : E[i]? = some (.ow d)) (es : σ[i]? = some (some (.ref p))) (rt : Root F (own B E σ) (upd H p o) d' p) : R F B ps (E.set i (.ow d')) σ (upd H p o) := by
  obtain ⟨b, eb, rb, n0, n1⟩ := r.ow i d e
  rw [es] at eb; cases eb
  have hi : i < E.length := (List.getElem?_eq_some_iff.mp e).1
  have hp : own B E σ p := .inr ⟨i, d, e, es⟩
  have nd : F.de ≠ some p := fun z => n1 (r.dice p z).1
  have hO : ∀ b (x : HO), H b = some x → own B (E.set i (.ow d')) σ b → own B E σ b := fun b x _ h => by
    rcases h with h | ⟨j, d2, e1, e2⟩
    · exact .inl h
    · rcases get_set e1 with ⟨rfl, _, _⟩ | ⟨_, e1⟩
      · exact .inr ⟨i, d, e, e2⟩
      · exact .inr ⟨j, d2, e1, e2⟩
  have hO' : ∀ b (x : HO), upd H p o b = some x → own B (E.set i (.ow d')) σ b → own B E σ b := fun b x _ h => by
    rcases h with h | ⟨j, d2, e1, e2⟩
    · exact .inl h
    · rcases get_set e1 with ⟨rfl, _, _⟩ | ⟨_, e1⟩
      · exact .inr ⟨i, d, e, e2⟩
      · exact .inr ⟨j, d2, e1, e2⟩
  have hk' : ∀ a x, H a = some x → ¬ own B E σ a → upd H p o a = some x := fun a x e n => by rw [upd_ne (fun z => n (by rw [z]; exact hp))]; exact e
  have ne : ∀ a x, H a = some x → a ≠ p → upd H p o a = some x := fun a x e n => by rw [upd_ne n]; exact e
  have st : ∀ {d v}, Is F (own B E σ) H d v → Is F (own B (E.set i (.ow d')) σ) (upd H p o) d v := fun h => h.mono hk' hO
  refine ⟨by simpa using r.len, fun a x e n => ?_, fun a h => ?_, fun a h => ⟨(r.dice a h).1, (r.dice a h).2.mono (fun x e => ne a x e ?_) hk' hO⟩, fun j d2 e2 => ?_, fun j d2 e2 => ?_, fun j k d1 d2 b e1 e2 e3 e4 => ?_, fun j v e2 => ?_, fun q hq => ⟨(r.rts q hq).1, (r.rts q hq).2.1, (r.rts q hq).2.2.mono (fun x e => ne _ x e ?_) hk' hO⟩, fun q hq => st (r.pins q hq)⟩
  · refine ne a x (r.kept a x e n) fun z => ?_
    rw [z, n0] at e; cases e
  · obtain ⟨x, e⟩ := r.o0 a h
    exact ⟨x, ne a x e fun z => n1 (z ▸ h)⟩
  · rintro rfl; exact nd h
  · rcases get_set e2 with ⟨_, e2, _⟩ | ⟨_, e2⟩
    · cases e2
    · obtain ⟨v, e1, h⟩ := r.sh j d2 e2
      exact ⟨v, e1, st h⟩
  · rcases get_set e2 with ⟨rfl, e2, _⟩ | ⟨hj, e2⟩
    · cases e2
      exact ⟨p, es, rt.mono (fun _ z => z) (fun _ _ z _ => z) hO', n0, n1⟩
    · obtain ⟨b, e1, h, m1, m2⟩ := r.ow j d2 e2
      refine ⟨b, e1, h.mono (fun x q => ne b x q ?_) hk' hO, m1, m2⟩
      rintro rfl
      exact hj (r.inj i j d d2 b e e2 es e1)
  · have a1 : ∃ d, E[j]? = some (.ow d) := by
      rcases get_set e1 with ⟨rfl, _, _⟩ | ⟨_, e1⟩
      · exact ⟨d, e⟩
      · exact ⟨_, e1⟩
    have a2 : ∃ d, E[k]? = some (.ow d) := by
      rcases get_set e2 with ⟨rfl, _, _⟩ | ⟨_, e2⟩
      · exact ⟨d, e⟩
      · exact ⟨_, e2⟩
    obtain ⟨_, a1⟩ := a1
    obtain ⟨_, a2⟩ := a2
    exact r.inj j k _ _ b a1 a2 e3 e4
  · rcases get_set e2 with ⟨_, e2, _⟩ | ⟨_, e2⟩
    · cases e2
    · exact r.hid j v e2
  · rintro rfl; exact n1 (r.rts q hq).1
/-- slot i is no owner any more: what it holds is shared -/
theorem R.share {i : Nat} (r : R F B ps E σ H) (e : E[i]? = some (.ow d)) : R F B ps (E.set i (.sh d)) σ H := by
  obtain ⟨p, es, rb, n0, n1⟩ := r.ow i d e
  have hs : σ.set i (some (.ref p)) = σ := by
    apply List.ext_getElem?
    intro j
    by_cases hj : i = j
    · subst hj; rw [List.getElem?_set_self (List.getElem?_eq_some_iff.mp es).1, es]
    · rw [List.getElem?_set_ne hj]
  -- first the slot is forgotten, then stored as shared
  have r1 : R F B ps (E.set i .un) (σ.set i (some (.ref p))) H := r.put_un
  rw [hs] at r1
  have rt : Root F (own B (E.set i .un) σ) H d p := rb.mono (fun _ z => z) (fun _ _ z _ => z) fun b _ _ h => by
    have h' : own B (E.set i .un) (σ.set i (some (.ref p))) b := by rw [hs]; exact h
    rcases own_set h' with h | ⟨_, e, _⟩
    · exact h
    · cases e
  have np : ¬ own B (E.set i .un) σ p := by
    rintro (h | ⟨j, d2, e1, e2⟩)
    · exact n1 h
    · rcases get_set e1 with ⟨_, e1, _⟩ | ⟨hj, e1⟩
      · cases e1
      · exact hj (r.inj i j d d2 p e e1 es e2)
  have r2 := r1.put_sh (i := i) (rt.is np)
  rw [hs, List.set_set] at r2
  exact r2
/-- slot i's list or dict stands still for a while: hidden, and a root of the base -/
def Bas.root (B : Bas) (d : D) (p : Addr) : Bas := { H0 := B.H0, O0 := fun b => B.O0 b ∨ b = p, rs := (d, p) :: B.rs }
theorem own_root {p b : Addr} : own (B.root d p) E σ b ↔ own B E σ b ∨ b = p := own_plus (B := B) (a := p)
theorem R.hide {i : Nat} {p : Addr} (r : R F B ps E σ H) (e : E[i]? = some (.ow d)) (es : σ[i]? = some (some (.ref p))) : R F (B.root d p) ps (E.set i (.hid (.ref p))) σ H := by
  obtain ⟨b, eb, rb, n0, n1⟩ := r.ow i d e
  rw [es] at eb; cases eb
  have hO : ∀ b (x : HO), H b = some x → own (B.root d p) (E.set i (.hid (.ref p))) σ b → own B E σ b := fun b x _ h => by
    rcases own_root.mp h with h | h
    · rcases h with h | ⟨j, d2, e1, e2⟩
      · exact .inl h
      · rcases get_set e1 with ⟨_, e1, _⟩ | ⟨_, e1⟩
        · cases e1
        · exact .inr ⟨j, d2, e1, e2⟩
    · subst h; exact .inr ⟨i, d, e, es⟩
  have st : ∀ {d' v}, Is F (own B E σ) H d' v → Is F (own (B.root d p) (E.set i (.hid (.ref p))) σ) H d' v := fun h => h.mono (fun _ _ z _ => z) hO
  have rt : ∀ {d' a}, Root F (own B E σ) H d' a → Root F (own (B.root d p) (E.set i (.hid (.ref p))) σ) H d' a := fun h => h.mono (fun _ z => z) (fun _ _ z _ => z) hO
  refine ⟨by simpa using r.len, r.kept, fun b h => ?_, fun b h => ⟨.inl (r.dice b h).1, (r.dice b h).2.mono (fun _ z => z) (fun _ _ z _ => z) hO⟩, fun j d' e1 => ?_, fun j d' e1 => ?_, fun j k d1 d2 b e1 e2 e3 e4 => ?_, fun j v e1 => ?_, fun q hq => ?_, fun q hq => st (r.pins q hq)⟩
  · rcases h with h | h
    · exact r.o0 b h
    · subst h; exact rb.there
  · rcases get_set e1 with ⟨_, e1, _⟩ | ⟨_, e1⟩
    · cases e1
    · obtain ⟨v, e2, h⟩ := r.sh j d' e1
      exact ⟨v, e2, st h⟩
  · rcases get_set e1 with ⟨_, q1, _⟩ | ⟨hj, q1⟩
    · cases q1
    · obtain ⟨b, e2, h, m1, m2⟩ := r.ow j d' q1
      refine ⟨b, e2, rt h, m1, fun z => ?_⟩
      rcases z with z | z
      · exact m2 z
      · subst z; exact hj (r.inj i j d d' b e q1 es e2)
  · rcases get_set e1 with ⟨_, e1, _⟩ | ⟨_, e1⟩
    · cases e1
    · rcases get_set e2 with ⟨_, e2, _⟩ | ⟨_, e2⟩
      · cases e2
      · exact r.inj j k d1 d2 b e1 e2 e3 e4
  · rcases get_set e1 with ⟨rfl, e1, _⟩ | ⟨_, e1⟩
    · cases e1; exact es
    · exact r.hid j v e1
  · rcases List.mem_cons.mp hq with z | hq
    · subst z
      exact ⟨.inr rfl, fun z => n1 (r.dice p z).1, rt rb⟩
    · exact ⟨.inl (r.rts q hq).1, (r.rts q hq).2.1, rt (r.rts q hq).2.2⟩
/-- .. and is the slot's again -/
theorem R.unhide {i : Nat} {p : Addr} (r : R F (B.root d p) ps E σ H) (e : E[i]? = some (.hid (.ref p))) (n0 : B.H0 p = none) (n1 : ¬ B.O0 p) (hr : ∀ q ∈ B.rs, B.O0 q.2) : R F B ps (E.set i (.ow d)) σ H := by
  have es := r.hid i _ e
  obtain ⟨_, nd, rb⟩ := r.rts (d, p) List.mem_cons_self
  have hs : σ.set i (some (.ref p)) = σ := by
    apply List.ext_getElem?
    intro j
    by_cases hj : i = j
    · subst hj; rw [List.getElem?_set_self (List.getElem?_eq_some_iff.mp es).1, es]
    · rw [List.getElem?_set_ne hj]
  have r' : R F (B.plus p) ps E σ H := ⟨r.len, r.kept, r.o0, r.dice, r.sh, r.ow, r.inj, r.hid, fun q hq => r.rts q (List.mem_cons_of_mem _ hq), r.pins⟩
  have nn : ¬ own B E σ p := by
    rintro (h | ⟨j, d2, e1, e2⟩)
    · exact n1 h
    · obtain ⟨b, e3, _, _, m2⟩ := r.ow j d2 e1
      rw [e2] at e3; cases e3
      exact m2 (.inr rfl)
  have r2 := r'.put_fr (i := i) rb n0 nn nd hr
  rw [hs] at r2
  exact r2
/-- a new object is laid: a new list or dict -/
theorem R.laid {p : Addr} {o : HO} (r : R F B ps E σ H) (hp : H p = none) (rt : Root F (own (B.plus p) E σ) (upd H p o) d p) : Post F B ps E σ d .fr (.ref p) (upd H p o) := by
  have g := r.grow (upd_keeps (o := o) hp)
  have nn : ¬ own B E σ p := fun z => by
    obtain ⟨x, e⟩ := r.own_there z
    rw [hp] at e; cases e
  have nd : F.de ≠ some p := fun z => nn (r.de_own z)
  have n0 : B.H0 p = none := by
    cases q : B.H0 p with
    | none => rfl
    | some x => have := r.kept p x q nd; rw [hp] at this; cases this
  have hO : ∀ b (x : HO), H b = some x → own (B.plus p) E σ b → own B E σ b := fun b x e h => by
    rcases own_plus.mp h with h | h
    · exact h
    · subst h; rw [hp] at e; cases e
  have hk : ∀ a x, H a = some x → upd H p o a = some x := upd_keeps hp
  refine ⟨p, rfl, ⟨r.len, g.kept, fun b h => ?_, fun b h => ⟨.inl (r.dice b h).1, (r.dice b h).2.mono (hk b) (fun a x e _ => hk a x e) hO⟩, fun j d' e => ?_, fun j d' e => ?_, r.inj, r.hid, fun q hq => ⟨.inl (r.rts q hq).1, (r.rts q hq).2.1, (r.rts q hq).2.2.mono (hk _) (fun a x e _ => hk a x e) hO⟩, fun q hq => (r.pins q hq).mono (fun a x e _ => hk a x e) hO⟩, rt, n0, nn, nd, fun q hq => (r.rts q hq).1⟩
  · rcases h with h | h
    · exact g.o0 b h
    · subst h; exact ⟨o, upd_same⟩
  · obtain ⟨v, e1, h⟩ := r.sh j d' e
    exact ⟨v, e1, h.mono (fun a x e _ => hk a x e) hO⟩
  · obtain ⟨b, e1, h, m1, m2⟩ := r.ow j d' e
    refine ⟨b, e1, h.mono (hk b) (fun a x e _ => hk a x e) hO, m1, fun z => ?_⟩
    rcases z with z | z
    · exact m2 z
    · subst z
      obtain ⟨x, q⟩ := h.there
      rw [hp] at q; cases q
/-- data that stood ahead of a new object, with it among the owned -/
theorem Is.laid {p : Addr} {o : HO} (hp : H p = none) (h : Is F (own B E σ) H d v) : Is F (own (B.plus p) E σ) (upd H p o) d v := h.mono (fun a x e _ => upd_keeps hp a x e) fun b x e z => by
  rcases own_plus.mp z with z | z
  · exact z
  · subst z; rw [hp] at e; cases e
theorem IsL.laid {p : Addr} {o : HO} {ds : List D} {vs : List V} (hp : H p = none) (h : IsL F (own B E σ) H ds vs) : IsL F (own (B.plus p) E σ) (upd H p o) ds vs := h.mono (fun a x e _ => upd_keeps hp a x e) fun b x e z => by
  rcases own_plus.mp z with z | z
  · exact z
  · subst z; rw [hp] at e; cases e
/-- a new tuple -/
theorem R.laidT {p : Addr} {vs : List V} {ds : List D} (r : R F B ps E σ H) (hp : H p = none) (h : IsL F (own B E σ) H ds vs) : Post F B ps E σ (.t ds) .sh (.ref p) (upd H p (.tup vs)) := by
  refine ⟨r.grow (upd_keeps hp), .t upd_same (fun z => ?_) (h.mono (fun a x e _ => upd_keeps hp a x e) fun _ _ _ z => z)⟩
  obtain ⟨x, e⟩ := r.own_there z
  rw [hp] at e; cases e
end
end DL
set_option Elab.async false
set_option linter.all false
set_option maxRecDepth 100000
/-! DLExp: judgements over data; expressions. -/
namespace DL
open PySem PySem.Spec PyProof.Rows L2
def Run (X : Cx) (e : Expr) (σ : L2.St) (H : Hp) (Q : VK) : Prop := ∀ (pins : List (Addr × Obj)) (s : Shared), Inv X pins σ H s → wpAny (model X.prog X.w) X.A (eval e X.env) (EP X pins σ Q) X.xe s
def RunT (X : Cx) (e : Expr) (σ : L2.St) (H : Hp) (Q : Bool → Hp → Prop) : Prop := ∀ (pins : List (Addr × Obj)) (s : Shared), Inv X pins σ H s → wpAny (model X.prog X.w) X.A (isTrue e X.env (eval e X.env)) (TP X pins σ Q) X.xe s
def RunW (X : Cx) (e : Expr) (σ : L2.St) (H : Hp) (Q : Bool → Hp → Prop) : Prop := ∀ (whole : Sem Value) (pins : List (Addr × Obj)) (s : Shared), Inv X pins σ H s → wpAny (model X.prog X.w) X.A (isTrue e X.env whole) (TP X pins σ Q) X.xe s
def RunA (X : Cx) (es : List Expr) (σ : L2.St) (H : Hp) (Q : List V → Hp → Prop) : Prop := ∀ (pos : Pos) (pins : List (Addr × Obj)) (s : Shared), Inv X pins σ H s → wpAny (model X.prog X.w) X.A (spliced (backTo pos (starEach es X.env))) (AP X pins σ Q) X.xe s
theorem peR {X : Cx} {e : Expr} : PE X e (fun σ H Q => Run X e σ H Q) := ⟨fun pins s σ H Q I h => h pins s I⟩
theorem ptR {X : Cx} {e : Expr} : PT X e (fun σ H Q => RunT X e σ H Q) := ⟨fun pins s σ H Q I h => h pins s I⟩
theorem pwR {X : Cx} {e : Expr} : PW X e (fun σ H Q => RunW X e σ H Q) := ⟨fun wh pins s σ H Q I h => h wh pins s I⟩
theorem paR {X : Cx} {es : List Expr} : PA X es (fun σ H Q => RunA X es σ H Q) := ⟨fun pos pins s σ H Q I h => h pos pins s I⟩
theorem Run.of {X : Cx} {e : Expr} {t : TE} {σ : L2.St} {H : Hp} {Q : VK} (h : PE X e t) (q : t σ H Q) : Run X e σ H Q := fun pins s I => h.run pins s σ H Q I q
theorem RunT.of {X : Cx} {e : Expr} {t : TT} {σ : L2.St} {H : Hp} {Q : Bool → Hp → Prop} (h : PT X e t) (q : t σ H Q) : RunT X e σ H Q := fun pins s I => h.run pins s σ H Q I q
theorem RunW.of {X : Cx} {e : Expr} {t : TT} {σ : L2.St} {H : Hp} {Q : Bool → Hp → Prop} (h : PW X e t) (q : t σ H Q) : RunW X e σ H Q := fun wh pins s I => h.run wh pins s σ H Q I q
theorem RunA.of {X : Cx} {es : List Expr} {t : TA} {σ : L2.St} {H : Hp} {Q : List V → Hp → Prop} (h : PA X es t) (q : t σ H Q) : RunA X es σ H Q := fun pos pins s I => h.run pos pins s σ H Q I q
structure FOk (X : Cx) (F : Fx) : Prop where
  w : F.w = X.w
  K : F.K = X.K
/-! ### values held while other things are evaluated -/
def Val (F : Fx) (B : Bas) (E : DEnv) (σ : L2.St) (H : Hp) (d : D) : Fl → V → Prop
  | .ow i, v => E[i]? = some (.ow d) ∧ σ[i]? = some (some v)
  | _, v => Is F (own B E σ) H d v
def ValL (F : Fx) (B : Bas) (E : DEnv) (σ : L2.St) (H : Hp) : List (D × Fl) → List V → Prop := Paired fun df v => Val F B E σ H df.1 df.2 v
section
variable {F : Fx} {B : Bas} {ps : List (D × V)} {E : DEnv} {σ : L2.St} {H H' : Hp} {d : D} {f : Fl} {v : V} {a : Addr}
theorem Post.val (p : Post F B ps E σ d f v H) : R F B ps E σ H ∧ Val F B E σ H d f v := by
  cases f with
  | sh => exact p
  | fr => exact p.sh rfl
  | ow i => exact ⟨p.1, p.2⟩
theorem Val.is (h : Val F B E σ H d f v) (ok : f.ok = true) : Is F (own B E σ) H d v := by
  cases f with
  | ow i => cases ok
  | _ => exact h
def pinOf (d : D) : Fl → V → List (D × V)
  | .ow _, _ => []
  | _, v => [(d, v)]
theorem R.pinV (r : R F B ps E σ H) (h : Val F B E σ H d f v) : R F B (pinOf d f v ++ ps) E σ H := by
  cases f with
  | ow i => exact r
  | _ => exact r.pin h
theorem R.unpinV (r : R F B (pinOf d f v ++ ps) E σ H') (h : Val F B E σ H d f v) : R F B ps E σ H' ∧ Val F B E σ H' d f v := by
  cases f with
  | ow i => exact ⟨r, h⟩
  | _ => exact r.unpin
/-- what stands at the value: its address and root -/
theorem Val.lst {ds : List D} (r : R F B ps E σ H) (h : Val F B E σ H (.l ds) f v) : ∃ a vs, v = .ref a ∧ H a = some (.lst vs) ∧ IsL F (own B E σ) H ds vs := by
  have go : Is F (own B E σ) H (.l ds) v → ∃ a vs, v = .ref a ∧ H a = some (.lst vs) ∧ IsL F (own B E σ) H ds vs := fun h => by
    cases h with
    | l h1 _ h2 => exact ⟨_, _, rfl, h1, h2⟩
  cases f with
  | ow i =>
    obtain ⟨b, e, rt, _⟩ := r.ow i _ h.1
    rw [h.2] at e
    cases e
    obtain ⟨vs, e, q⟩ := rt
    exact ⟨b, vs, rfl, e, q⟩
  | _ => exact go h
theorem Val.tup {ds : List D} {K : PySem.W.Frag} (hK : F.K = K) (r : R F B ps E σ H) (h : Val F B E σ H (.t ds) f v) : ∃ a vs, v = .ref a ∧ SqT K H a vs ∧ IsL F (own B E σ) H ds vs := by
  have go : Is F (own B E σ) H (.t ds) v → ∃ a vs, v = .ref a ∧ SqT K H a vs ∧ IsL F (own B E σ) H ds vs := fun h => by
    cases h with
    | t h1 _ h2 => exact ⟨_, _, rfl, .inl (.inl h1), h2⟩
    | tk h1 h2 => exact ⟨_, _, rfl, .inr (hK ▸ h1), h2⟩
  cases f with
  | ow i =>
    obtain ⟨b, e, rt, _⟩ := r.ow i _ h.1
    exact rt.elim
  | _ => exact go h
theorem Val.dic {kvs : List (NestedKey × D)} (r : R F B ps E σ H) (h : Val F B E σ H (.d kvs) f v) : ∃ a o rows, v = .ref a ∧ H a = some (.ext (Lit a o)) ∧ (a == sysModules) = false ∧ DRel F.w o rows ∧ KKind (rows.map (·.1)) ∧
    kvs.map (·.1) = rows.map (·.1) ∧ IsL F (own B E σ) H (rows.map fun r => ofKey r.1) (rows.map (·.2.1)) ∧ IsL F (own B E σ) H (kvs.map (·.2)) (rows.map (·.2.2)) := by
  have go : Is F (own B E σ) H (.d kvs) v → ∃ a o rows, v = .ref a ∧ H a = some (.ext (Lit a o)) ∧ (a == sysModules) = false ∧ DRel F.w o rows ∧ KKind (rows.map (·.1)) ∧
    kvs.map (·.1) = rows.map (·.1) ∧ IsL F (own B E σ) H (rows.map fun r => ofKey r.1) (rows.map (·.2.1)) ∧ IsL F (own B E σ) H (kvs.map (·.2)) (rows.map (·.2.2)) := fun h => by
    cases h with
    | d h1 _ h2 h3 h4 h5 h6 h7 => exact ⟨_, _, _, rfl, h1, h2, h3, h4, h5, h6, h7⟩
  cases f with
  | ow i =>
    obtain ⟨b, e, rt, _⟩ := r.ow i _ h.1
    rw [h.2] at e
    cases e
    obtain ⟨o, rows, h1, h2, h3, h4, h5, h6, h7⟩ := rt
    exact ⟨b, o, rows, rfl, h1, h2, h3, h4, h5, h6, h7⟩
  | _ => exact go h
theorem Val.ins {C : Addr} {ds : List (Str × D)} (r : R F B ps E σ H) (h : Val F B E σ H (.i C ds) f v) : ∃ a dx fs, v = .ref a ∧ H a = some (.ins C dx fs) ∧ fs.map (·.1) = ds.map (·.1) ∧ IsL F (own B E σ) H (ds.map (·.2)) (fs.map (·.2)) := by
  have go : Is F (own B E σ) H (.i C ds) v → ∃ a dx fs, v = .ref a ∧ H a = some (.ins C dx fs) ∧ fs.map (·.1) = ds.map (·.1) ∧ IsL F (own B E σ) H (ds.map (·.2)) (fs.map (·.2)) := fun h => by
    cases h with
    | i h1 _ h2 h3 => exact ⟨_, _, _, rfl, h1, h2, h3⟩
  cases f with
  | ow i =>
    obtain ⟨b, e, rt, _⟩ := r.ow i _ h.1
    exact rt.elim
  | _ => exact go h
theorem Val.atm {x : V} (r : R F B ps E σ H) (h : Val F B E σ H (.a x) f v) : v = x ∧ isAtom x = true := by
  have go : Is F (own B E σ) H (.a x) v → v = x ∧ isAtom x = true := fun h => by
    cases h with
    | a h => exact ⟨rfl, h⟩
  cases f with
  | ow i =>
    obtain ⟨b, e, rt, _⟩ := r.ow i _ h.1
    exact rt.elim
  | _ => exact go h
theorem ValL.is {dfs : List (D × Fl)} {vs : List V} (h : ValL F B E σ H dfs vs) (ok : dfs.all (fun x => x.2.ok) = true) : IsL F (own B E σ) H (dfs.map (·.1)) vs := by
  induction h with
  | nil => exact .nil
  | @cons p q ps qs h t ih =>
    rw [List.all_cons, Bool.and_eq_true] at ok
    exact .cons (h.is ok.1) (ih ok.2)
end
/-! ### the judgements -/
abbrev TDE := DEnv → (D → Fl → Prop) → Prop
abbrev TDT := DEnv → (Bool → Prop) → Prop
abbrev TDA := DEnv → (List (D × Fl) → Prop) → Prop
structure DE (X : Cx) (e : Expr) (t : TDE) : Prop where
  run : ∀ (F : Fx) (B : Bas) (ps : List (D × V)) (E : DEnv) (σ : L2.St) (H : Hp) (Qd : D → Fl → Prop) (Q : VK), FOk X F → R F B ps E σ H → t E Qd →
    (∀ d f v H', Qd d f → Post F B ps E σ d f v H' → Q v H') → Run X e σ H Q
structure DT (X : Cx) (e : Expr) (t : TDT) : Prop where
  run : ∀ (F : Fx) (B : Bas) (ps : List (D × V)) (E : DEnv) (σ : L2.St) (H : Hp) (Qd : Bool → Prop) (Q : Bool → Hp → Prop), FOk X F → R F B ps E σ H → t E Qd →
    (∀ b H', Qd b → R F B ps E σ H' → Q b H') → RunT X e σ H Q
structure DW (X : Cx) (e : Expr) (t : TDT) : Prop where
  run : ∀ (F : Fx) (B : Bas) (ps : List (D × V)) (E : DEnv) (σ : L2.St) (H : Hp) (Qd : Bool → Prop) (Q : Bool → Hp → Prop), FOk X F → R F B ps E σ H → t E Qd →
    (∀ b H', Qd b → R F B ps E σ H' → Q b H') → RunW X e σ H Q
structure DA (X : Cx) (es : List Expr) (t : TDA) : Prop where
  run : ∀ (F : Fx) (B : Bas) (ps : List (D × V)) (E : DEnv) (σ : L2.St) (H : Hp) (Qd : List (D × Fl) → Prop) (Q : List V → Hp → Prop), FOk X F → R F B ps E σ H → t E Qd →
    (∀ dfs vs H', Qd dfs → R F B ps E σ H' → ValL F B E σ H' dfs vs → Q vs H') → RunA X es σ H Q
section
variable {X : Cx} {e a b c : Expr} {es : List Expr} {ta tb tc : TDE} {pos : Pos}
/-! ### names, constants -/
def tdVar (i : Nat) : TDE := fun E Q => match E[i]? with
  | some (.sh d) => Q d .sh
  | some (.ow d) => Q d (.ow i)
  | _ => False
theorem de_var {i : Nat} {x : Str} (h : PE X (.Name x pos) (tVar i)) : DE X (.Name x pos) (tdVar i) := by
  refine ⟨fun F B ps E σ H Qd Q hF r t k => Run.of h ?_⟩
  unfold tdVar at t
  split at t
  · rename_i d e
    obtain ⟨v, e1, q⟩ := r.sh i d e
    exact ⟨v, e1, k d .sh v H t ⟨r, q⟩⟩
  · rename_i d e
    obtain ⟨b, e1, _⟩ := r.ow i d e
    exact ⟨_, e1, k d (.ow i) _ H t ⟨r, e, e1⟩⟩
  · exact t.elim
theorem dv (i : Nat) {x : Str} (hN : X.N[i]? = some x := by rfl) (hv : Vis X.env.scope x := by first | exact Or.inl rfl | exact Or.inr (Or.inl rfl) | exact Or.inr (Or.inr rfl)) (hd : (x == ("__debug__" : Str)) = false := by decide)
    (hcd : (x == ("__classdict__" : Str)) = false := by decide) : DE X (.Name x pos) (tdVar i) := de_var (pe_var hN hv hd hcd)
def tdC (d : D) : TDE := fun _ Q => Q d .sh
theorem de_atom {v : V} (h : PE X e (tC v)) (hv : isAtom v = true) : DE X e (tdC (.a v)) := ⟨fun F B ps E σ H Qd Q hF r t k => Run.of h (k _ .sh v H t ⟨r, .a hv⟩)⟩
theorem de_int {i : Int} {j : Nat} : DE X (.Constant (.int i) j pos) (tdC (.a (.int i))) := de_atom pe_int rfl
theorem de_bl {b : Bool} {j : Nat} : DE X (.Constant (.bool b) j pos) (tdC (.a (.bl b))) := de_atom pe_bl rfl
theorem de_non {j : Nat} : DE X (.Constant .none j pos) (tdC (.a .non)) := de_atom pe_non rfl
theorem de_str {x : Str} {j : Nat} : DE X (.Constant (.str x) j pos) (tdC (.a (.str x))) := de_atom pe_str rfl
/-- a module's constant -/
theorem de_glob {x : Str} {v : V} {u : Value} (hg : Gl X x) (hm : X.mg x = some u) (rl : RelV v u) (hv : isAtom v = true) (hd : (x == ("__debug__" : Str)) = false := by decide) : DE X (.Name x pos) (tdC (.a v)) := de_atom (pe_glob hg hm rl hd) hv
/-- a module's constant tuple of ints -/
theorem de_globT {x : Str} {p : Addr} {ns : List Int} (hg : Gl X x) (hm : X.mg x = some (.ref p)) (ht : KTup X.K p (ns.map V.int)) (hd : (x == ("__debug__" : Str)) = false := by decide) : DE X (.Name x pos) (tdC (.t (ns.map D.int))) :=
  ⟨fun F B ps E σ H Qd Q hF r t k => Run.of (pe_glob (v := .ref p) hg hm rfl hd) (k _ .sh (.ref p) H t ⟨r, .tk (by rw [hF.K]; exact ht) .ints⟩)⟩
/-! ### two operands -/
theorem two {F : Fx} {B : Bas} {ps : List (D × V)} {E : DEnv} {σ : L2.St} {H : Hp} {C : D → Fl → D → Fl → Prop} {Q2 : V → V → Hp → Prop} (ha : DE X a ta) (hb : DE X b tb) (hF : FOk X F) (r : R F B ps E σ H)
    (h : ta E fun d1 f1 => tb E fun d2 f2 => C d1 f1 d2 f2)
    (k : ∀ d1 f1 d2 f2 v1 v2 H', C d1 f1 d2 f2 → R F B ps E σ H' → Val F B E σ H' d1 f1 v1 → Val F B E σ H' d2 f2 v2 → Q2 v1 v2 H') : Run X a σ H fun v1 H1 => Run X b σ H1 fun v2 H2 => Q2 v1 v2 H2 := by
  refine ha.run F B ps E σ H _ _ hF r h fun d1 f1 v1 H1 q1 p1 => ?_
  obtain ⟨r1, w1⟩ := p1.val
  refine hb.run F B _ E σ H1 _ _ hF (r1.pinV w1) q1 fun d2 f2 v2 H2 q2 p2 => ?_
  obtain ⟨r2, w2⟩ := p2.val
  obtain ⟨r3, w1'⟩ := r2.unpinV w1
  exact k d1 f1 d2 f2 v1 v2 H2 q2 r3 w1' w2
/-- what an operator by values means over data -/
def OpL (X : Cx) (r : R2) (rd : D → D → (D → Fl → Prop) → Prop) : Prop := ∀ (F : Fx) (B : Bas) (ps : List (D × V)) (E : DEnv) (σ : L2.St) (H : Hp) (d1 : D) (f1 : Fl) (d2 : D) (f2 : Fl) (v1 v2 : V) (Qd : D → Fl → Prop) (Q : VK), FOk X F → R F B ps E σ H →
  Val F B E σ H d1 f1 v1 → Val F B E σ H d2 f2 v2 → rd d1 d2 Qd → (∀ d f v H', Qd d f → Post F B ps E σ d f v H' → Q v H') → r v1 v2 H Q
def tdOp (rd : D → D → (D → Fl → Prop) → Prop) (ta tb : TDE) : TDE := fun E Q => ta E fun d1 _ => tb E fun d2 _ => rd d1 d2 Q
theorem de_op {op : Operator} {r : R2} {rd : D → D → (D → Fl → Prop) → Prop} (ho : OpR X (binaryOp op) r) (hl : OpL X r rd) (ha : DE X a ta) (hb : DE X b tb) : DE X (.BinOp a op b pos) (tdOp rd ta tb) :=
  ⟨fun F B ps E σ H Qd Q hF r t k => Run.of (pe_op ho peR peR) (two (C := fun d1 _ d2 _ => rd d1 d2 Qd) ha hb hF r t fun d1 f1 d2 f2 v1 v2 H' q r' w1 w2 => hl F B ps E σ H' d1 f1 d2 f2 v1 v2 Qd Q hF r' w1 w2 q k)⟩
theorem de_cmp {op : CmpOp} {r : R2} {rd : D → D → (D → Fl → Prop) → Prop} (ho : OpR X (compareOp op) r) (hl : OpL X r rd) (ha : DE X a ta) (hb : DE X b tb) (hm : behindInMarks op b = false) : DE X (.Compare a [op] [b] pos) (tdOp rd ta tb) :=
  ⟨fun F B ps E σ H Qd Q hF r t k => Run.of (pe_cmpR ho peR peR hm) (two (C := fun d1 _ d2 _ => rd d1 d2 Qd) ha hb hF r t fun d1 f1 d2 f2 v1 v2 H' q r' w1 w2 => hl F B ps E σ H' d1 f1 d2 f2 v1 v2 Qd Q hF r' w1 w2 q k)⟩
/-- the value is True or False -/
def asB (Q : Bool → Prop) : D → Fl → Prop := fun d _ => match d with
  | .a (.bl b) => Q b
  | _ => False
theorem asB.of {Q : Bool → Prop} {d : D} {f : Fl} (h : asB Q d f) : ∃ b, d = .a (.bl b) ∧ Q b := by
  unfold asB at h
  split at h
  · exact ⟨_, rfl, h⟩
  · exact h.elim
def tdB (t : TDE) : TDT := fun E Q => t E (asB Q)
theorem dt_cmp {op : CmpOp} {r : R2} {rd : D → D → (D → Fl → Prop) → Prop} (ho : OpR X (compareOp op) r) (hl : OpL X r rd) (ha : DE X a ta) (hb : DE X b tb) (hm : behindInMarks op b = false) : DT X (.Compare a [op] [b] pos) (tdB (tdOp rd ta tb)) :=
  ⟨fun F B ps E σ H Qd Q hF r t k => RunT.of (pt_cmpR ho peR peR hm) (two (C := fun d1 _ d2 _ => rd d1 d2 (asB Qd)) ha hb hF r t fun d1 f1 d2 f2 v1 v2 H' q r' w1 w2 => hl F B ps E σ H' d1 f1 d2 f2 v1 v2 (asB Qd) _ hF r' w1 w2 q fun d f v H2 q2 p2 => by
    obtain ⟨b, rfl, q3⟩ := asB.of q2
    obtain ⟨r2, w2⟩ := p2.val
    obtain ⟨rfl, _⟩ := w2.atm r2
    exact ⟨b, rfl, k b H2 q3 r2⟩)⟩
theorem dt_val (h : DE X e ta) (he : ∀ whole, isTrue e X.env whole = (do let v ← whole; standAt e.pos; holding [v] (truthy v)) := by intro _; rfl) : DT X e (tdB ta) :=
  ⟨fun F B ps E σ H Qd Q hF r t k => RunT.of (pt_val peR he) (h.run F B ps E σ H _ _ hF r t fun d f v H2 q2 p2 => by
    obtain ⟨b, rfl, q3⟩ := asB.of q2
    obtain ⟨r2, w2⟩ := p2.val
    obtain ⟨rfl, _⟩ := w2.atm r2
    exact ⟨b, rfl, k b H2 q3 r2⟩)⟩
/-! ### the operators over data -/
def rdI (C : Int → Int → Prop) (g : Int → Int → V) : D → D → (D → Fl → Prop) → Prop := fun d1 d2 Q => match d1, d2 with
  | .a (.int i), .a (.int j) => C i j ∧ Q (.a (g i j)) .sh
  | _, _ => False
theorem opl_I {C : Int → Int → Prop} {g : Int → Int → V} (hg : ∀ i j, isAtom (g i j) = true) : OpL X (rI C g) (rdI C g) := by
  intro F B ps E σ H d1 f1 d2 f2 v1 v2 Qd Q hF r w1 w2 q k
  unfold rdI at q
  split at q
  · rename_i i j
    obtain ⟨rfl, _⟩ := w1.atm r
    obtain ⟨rfl, _⟩ := w2.atm r
    exact ⟨i, j, rfl, rfl, q.1, k _ .sh _ H q.2 ⟨r, .a (hg i j)⟩⟩
  · exact q.elim
def rdI0 (g : Int → Int → V) : D → D → (D → Fl → Prop) → Prop := fun d1 d2 Q => match d1, d2 with
  | .a (.int i), .a (.int j) => Q (.a (g i j)) .sh
  | _, _ => False
theorem opl_I0 {g : Int → Int → V} (hg : ∀ i j, isAtom (g i j) = true) : OpL X (rI0 g) (rdI0 g) := by
  intro F B ps E σ H d1 f1 d2 f2 v1 v2 Qd Q hF r w1 w2 q k
  unfold rdI0 at q
  split at q
  · rename_i i j
    obtain ⟨rfl, _⟩ := w1.atm r
    obtain ⟨rfl, _⟩ := w2.atm r
    exact ⟨i, j, rfl, rfl, k _ .sh _ H q ⟨r, .a (hg i j)⟩⟩
  · exact q.elim
theorem de_add (ha : DE X a ta) (hb : DE X b tb) : DE X (.BinOp a .Add b pos) (tdOp (rdI0 fun i j => .int (i + j)) ta tb) := de_op op_add (opl_I0 fun _ _ => rfl) ha hb
theorem de_sub (ha : DE X a ta) (hb : DE X b tb) : DE X (.BinOp a .Sub b pos) (tdOp (rdI0 fun i j => .int (i - j)) ta tb) := de_op op_sub (opl_I0 fun _ _ => rfl) ha hb
theorem op_mulD : OpR X (binaryOp .Mult) (rI IntMulOk fun i j => .int (i * j)) := opI fun _ _ _ _ _ _ _ hc q => mul_int q hc
theorem de_mul (ha : DE X a ta) (hb : DE X b tb) : DE X (.BinOp a .Mult b pos) (tdOp (rdI IntMulOk fun i j => .int (i * j)) ta tb) := de_op op_mulD (opl_I fun _ _ => rfl) ha hb
/-- the divisor is not 0 and has less than 9000 bits -/
def DivOk (_ j : Int) : Prop := j ≠ 0 ∧ j.natAbs.log2 < 9000
theorem op_fdivD : OpR X (binaryOp .FloorDiv) (rI DivOk fun i j => .int (i.fdiv j)) := opI fun i j _ _ _ _ _ hc q => floordiv_int hc.1 q (.inl (PyProof.noPylong_of_log2 hc.2))
theorem de_fdiv (ha : DE X a ta) (hb : DE X b tb) : DE X (.BinOp a .FloorDiv b pos) (tdOp (rdI DivOk fun i j => .int (i.fdiv j)) ta tb) := de_op op_fdivD (opl_I fun _ _ => rfl) ha hb
theorem de_mod (ha : DE X a ta) (hb : DE X b tb) : DE X (.BinOp a .Mod b pos) (tdOp (rdI (fun _ j => j ≠ 0) fun i j => .int (i.fmod j)) ta tb) := de_op op_modN (opl_I fun _ _ => rfl) ha hb
theorem de_pow (ha : DE X a ta) (hb : DE X b tb) : DE X (.BinOp a .Pow b pos) (tdOp (rdI CPow fun i j => .int (i ^ j.toNat)) ta tb) := de_op op_pow (opl_I fun _ _ => rfl) ha hb
def tdUn (g : Int → V) (ta : TDE) : TDE := fun E Q => ta E fun d _ => match d with
  | .a (.int i) => Q (.a (g i)) .sh
  | _ => False
theorem de_neg (ha : DE X a ta) : DE X (.UnaryOp .USub a pos) (tdUn (fun i => .int (-i)) ta) :=
  ⟨fun F B ps E σ H Qd Q hF r t k => Run.of (pe_un un_neg peR) (ha.run F B ps E σ H _ _ hF r t fun d f v H2 q2 p2 => by
    obtain ⟨r2, w2⟩ := p2.val
    split at q2
    · rename_i i
      obtain ⟨rfl, _⟩ := w2.atm r2
      exact ⟨i, rfl, k _ .sh _ H2 q2 ⟨r2, .a rfl⟩⟩
    · exact q2.elim)⟩
/-- the ints of a list of data -/
def intsOf : List D → Option (List Int)
  | [] => some []
  | .a (.int i) :: r => (intsOf r).map (i :: ·)
  | _ => none
theorem intsOf_eq : ∀ {ds : List D} {ns : List Int}, intsOf ds = some ns → ds = ns.map D.int
  | [], ns, h => by cases h; rfl
  | .a (.int i) :: r, ns, h => by
    unfold intsOf at h
    cases e : intsOf r with
    | none => rw [e] at h; cases h
    | some ms =>
      rw [e] at h
      cases h
      rw [List.map_cons, ← intsOf_eq e]
theorem intsOf_map : ∀ ns : List Int, intsOf (ns.map D.int) = some ns
  | [] => rfl
  | n :: ns => by
    show (intsOf (ns.map D.int)).map (n :: ·) = _
    rw [intsOf_map ns]; rfl
/-- == of scalars, of tuples of ints -/
def rdEq (g : Bool → Bool) : D → D → (D → Fl → Prop) → Prop := fun d1 d2 Q => match d1, d2 with
  | .a x, .a y => scal x y = true ∧ Q (.a (.bl (g (decide (x = y))))) .sh
  | .t xs, .t ys => match intsOf xs, intsOf ys with
    | some ns, some ms => Q (.a (.bl (g (decide (ns = ms))))) .sh
    | _, _ => False
  | _, _ => False
theorem dp_ints {K : PySem.W.Frag} {H : Hp} : ∀ {ns : List Int}, DpAll K H (ns.map V.int) (ns.map PyData.int)
  | [] => .nil
  | n :: ns => .cons (.int n) dp_ints
theorem eqv_ints : ∀ (ns ms : List Int), PyData.eqv (.tuple (ns.map PyData.int)) (.tuple (ms.map PyData.int)) = decide (ns = ms) := by
  have go : ∀ (ns ms : List Int), PyData.eqvAll (ns.map PyData.int) (ms.map PyData.int) = decide (ns = ms) := by
    intro ns
    induction ns with
    | nil => intro ms; cases ms <;> simp [PyData.eqvAll]
    | cons n ns ih =>
      intro ms
      cases ms with
      | nil => simp [PyData.eqvAll]
      | cons m ms =>
        simp only [List.map_cons, PyData.eqvAll, PyData.eqv, ih, List.cons.injEq]
        by_cases h : n = m <;> simp [h]
  intro ns ms
  show PyData.eqv _ _ = _
  simp only [PyData.eqv]
  exact go ns ms
theorem shaped_ints (ns : List Int) : SeqAt.shaped (.tuple (ns.map PyData.int)) = true := by
  have h1 : ∀ ns : List Int, PyData.canLayAll0 (ns.map PyData.int) = true := by
    intro ns
    induction ns with
    | nil => rfl
    | cons n ns ih => simp only [List.map_cons, PyData.canLayAll0, PyData.canLay0, ih, Bool.and_self]
  have h2 : ∀ ns : List Int, PyData.depthAll (ns.map PyData.int) ≤ 1 := by
    intro ns
    induction ns with
    | nil => simp [PyData.depthAll]
    | cons n ns ih => simp only [List.map_cons, PyData.depthAll, PyData.depth]; omega
  unfold SeqAt.shaped
  rw [Bool.and_eq_true]
  refine ⟨by simp only [PyData.canLay0]; exact h1 ns, decide_eq_true ?_⟩
  simp only [PyData.depth]
  have := h2 ns
  omega
end
end DL
set_option Elab.async false
set_option linter.all false
set_option maxRecDepth 100000
/-! DLExp2: comparisons of data, chains, tests, displays, items, calls. -/
namespace DL
open PySem PySem.Spec PyProof.Rows L2
section
variable {X : Cx} {e a b c : Expr} {es : List Expr} {ta tb tc : TDE} {pos : Pos}
theorem opl_eqD (hu : X.A.units + 64 < cLine) (g : Bool → Bool) {op : CmpOp} {r1 r2 : R2} (h1 : ∀ x y H (Q : VK), scal x y = true → Q (.bl (g (decide (x = y)))) H → r1 x y H Q)
    (h2 : ∀ x y H (Q : VK) d e, Dp X.K H x d → Dp X.K H y e → SeqAt.shaped d = true → SeqAt.shaped e = true → Q (.bl (g (PyData.eqv d e))) H → r2 x y H Q) : OpL X (fun x y H Q => r1 x y H Q ∨ r2 x y H Q) (rdEq g) := by
  intro F B ps E σ H d1 f1 d2 f2 v1 v2 Qd Q hF r w1 w2 q k
  unfold rdEq at q
  split at q
  · rename_i x y
    obtain ⟨rfl, _⟩ := w1.atm r
    obtain ⟨rfl, _⟩ := w2.atm r
    exact .inl (h1 _ _ _ _ q.1 (k _ .sh _ H q.2 ⟨r, .a rfl⟩))
  · rename_i xs ys
    split at q
    · rename_i ns ms e1 e2
      obtain ⟨p1, vs1, rfl, t1, l1⟩ := w1.tup hF.K r
      obtain ⟨p2, vs2, rfl, t2, l2⟩ := w2.tup hF.K r
      rw [intsOf_eq e1] at l1
      rw [intsOf_eq e2] at l2
      rw [l1.of_ints] at t1
      rw [l2.of_ints] at t2
      refine .inr (h2 _ _ _ _ _ _ (.tup t1 dp_ints) (.tup t2 dp_ints) (shaped_ints ns) (shaped_ints ms) ?_)
      rw [eqv_ints]
      exact k _ .sh _ H q ⟨r, .a rfl⟩
    · exact q.elim
  · exact q.elim
theorem opr_eq (hu : X.A.units + 64 < cLine) : OpR X (compareOp .Eq) (fun x y H Q => rEq x y H Q ∨ rEqD X.K x y H Q) := op_eq.or (op_eqD hu)
theorem opr_ne (hu : X.A.units + 64 < cLine) : OpR X (compareOp .NotEq) (fun x y H Q => rNe x y H Q ∨ rNeD X.K x y H Q) := op_ne.or (op_neD hu)
theorem opl_eq (hu : X.A.units + 64 < cLine) : OpL X (fun x y H Q => rEq x y H Q ∨ rEqD X.K x y H Q) (rdEq id) :=
  opl_eqD hu id (op := .Eq) (fun x y H Q h q => ⟨h, q⟩) fun x y H Q d e a b c f q => ⟨d, e, a, b, c, f, q⟩
theorem opl_ne (hu : X.A.units + 64 < cLine) : OpL X (fun x y H Q => rNe x y H Q ∨ rNeD X.K x y H Q) (rdEq not) :=
  opl_eqD hu not (op := .NotEq) (fun x y H Q h q => ⟨h, q⟩) fun x y H Q d e a b c f q => ⟨d, e, a, b, c, f, q⟩
/-- < of ints, of tuples of ints -/
def rdLt : D → D → (D → Fl → Prop) → Prop := fun d1 d2 Q => match d1, d2 with
  | .a (.int i), .a (.int j) => Q (.a (.bl (decide (i < j)))) .sh
  | .t xs, .t ys => match intsOf xs, intsOf ys with
    | some ns, some ms => Q (.a (.bl (HT.lexLt ns ms))) .sh
    | _, _ => False
  | _, _ => False
theorem opr_lt (hu : X.A.units < cLine) : OpR X (compareOp .Lt) (fun x y H Q => rI0 (fun i j => .bl (decide (i < j))) x y H Q ∨ rLtT X.K x y H Q) := op_lt.or (op_ltT hu)
theorem opl_lt : OpL X (fun x y H Q => rI0 (fun i j => .bl (decide (i < j))) x y H Q ∨ rLtT X.K x y H Q) rdLt := by
  intro F B ps E σ H d1 f1 d2 f2 v1 v2 Qd Q hF r w1 w2 q k
  unfold rdLt at q
  split at q
  · rename_i x y
    obtain ⟨rfl, _⟩ := w1.atm r
    obtain ⟨rfl, _⟩ := w2.atm r
    exact .inl ⟨_, _, rfl, rfl, k _ .sh _ H q ⟨r, .a rfl⟩⟩
  · rename_i xs ys
    split at q
    · rename_i ns ms e1 e2
      obtain ⟨p1, vs1, rfl, t1, l1⟩ := w1.tup hF.K r
      obtain ⟨p2, vs2, rfl, t2, l2⟩ := w2.tup hF.K r
      rw [intsOf_eq e1] at l1
      rw [intsOf_eq e2] at l2
      rw [l1.of_ints] at t1
      rw [l2.of_ints] at t2
      exact .inr ⟨_, _, ns, ms, rfl, rfl, t1, t2, k _ .sh _ H q ⟨r, .a rfl⟩⟩
    · exact q.elim
  · exact q.elim
theorem opl_le : OpL X (rI0 fun i j => .bl (decide (i ≤ j))) (rdI0 fun i j => .bl (decide (i ≤ j))) := opl_I0 fun _ _ => rfl
theorem opl_gt : OpL X (rI0 fun i j => .bl (decide (j < i))) (rdI0 fun i j => .bl (decide (j < i))) := opl_I0 fun _ _ => rfl
theorem opl_ge : OpL X (rI0 fun i j => .bl (decide (j ≤ i))) (rdI0 fun i j => .bl (decide (j ≤ i))) := opl_I0 fun _ _ => rfl
/-- is None, is not None (the right side a value none) -/
def rdIs (g : Bool → Bool) : D → D → (D → Fl → Prop) → Prop := fun d1 d2 Q => match d1, d2 with
  | .a x, .a .non => Q (.a (.bl (g (decide (x = .non))))) .sh
  | .i _ _, .a .non => Q (.a (.bl (g false))) .sh
  | .t _, .a .non => Q (.a (.bl (g false))) .sh
  | .d _, .a .non => Q (.a (.bl (g false))) .sh
  | .l _, .a .non => Q (.a (.bl (g false))) .sh
  | _, _ => False
theorem opl_isG (g : Bool → Bool) {r1 : R2} (h1 : ∀ x y H (Q : VK), y = .non → Q (.bl (g (decide (x = .non)))) H → r1 x y H Q) : OpL X r1 (rdIs g) := by
  intro F B ps E σ H d1 f1 d2 f2 v1 v2 Qd Q hF r w1 w2 q k
  have rf : ∀ {p : Addr}, decide (V.ref p = V.non) = false := fun {p} => decide_eq_false (fun z => nomatch z)
  unfold rdIs at q
  split at q
  · obtain ⟨rfl, _⟩ := w1.atm r
    obtain ⟨rfl, _⟩ := w2.atm r
    exact h1 _ _ _ _ rfl (k _ .sh _ H q ⟨r, .a rfl⟩)
  · obtain ⟨p, _, _, rfl, _⟩ := w1.ins r
    obtain ⟨rfl, _⟩ := w2.atm r
    exact h1 _ _ _ _ rfl (by rw [rf]; exact k _ .sh _ H q ⟨r, .a rfl⟩)
  · obtain ⟨p, _, rfl, _⟩ := w1.tup hF.K r
    obtain ⟨rfl, _⟩ := w2.atm r
    exact h1 _ _ _ _ rfl (by rw [rf]; exact k _ .sh _ H q ⟨r, .a rfl⟩)
  · obtain ⟨p, _, _, rfl, _⟩ := w1.dic r
    obtain ⟨rfl, _⟩ := w2.atm r
    exact h1 _ _ _ _ rfl (by rw [rf]; exact k _ .sh _ H q ⟨r, .a rfl⟩)
  · obtain ⟨p, _, rfl, _⟩ := w1.lst r
    obtain ⟨rfl, _⟩ := w2.atm r
    exact h1 _ _ _ _ rfl (by rw [rf]; exact k _ .sh _ H q ⟨r, .a rfl⟩)
  · exact q.elim
theorem opl_is : OpL X (fun x y H Q => y = .non ∧ Q (.bl (decide (x = .non))) H) (rdIs id) := opl_isG id fun x y H Q e q => ⟨e, q⟩
theorem opl_isNot : OpL X (fun x y H Q => y = .non ∧ Q (.bl (!decide (x = .non))) H) (rdIs not) := opl_isG not fun x y H Q e q => ⟨e, q⟩
/-! ### chains -/
def tdChain (rd rd' : D → D → (D → Fl → Prop) → Prop) (ta tb tc : TDE) : TDE := fun E Q => ta E fun d1 _ => tb E fun d2 _ => rd d1 d2 (asB fun k => if k = true then tc E fun d3 _ => rd' d2 d3 Q else Q (.a (.bl false)) .sh)
theorem chain3 {F : Fx} {B : Bas} {ps : List (D × V)} {E : DEnv} {σ : L2.St} {H : Hp} {r r' : R2} {rd rd' : D → D → (D → Fl → Prop) → Prop} {Qd : D → Fl → Prop} {Q : VK} (hl : OpL X r rd) (hl' : OpL X r' rd') (ha : DE X a ta) (hb : DE X b tb) (hc : DE X c tc)
    (hF : FOk X F) (rr : R F B ps E σ H) (t : tdChain rd rd' ta tb tc E Qd) (k : ∀ d f v H', Qd d f → Post F B ps E σ d f v H' → Q v H') : tChain r r' (fun σ H Q => Run X a σ H Q) (fun σ H Q => Run X b σ H Q) (fun σ H Q => Run X c σ H Q) σ H Q := by
  show Run X a σ H fun x H1 => Run X b σ H1 fun y H2 => r x y H2 fun z H3 => _
  refine two (C := fun d1 _ d2 _ => rd d1 d2 (asB fun k => if k = true then tc E fun d3 _ => rd' d2 d3 Qd else Qd (.a (.bl false)) .sh)) ha hb hF rr t fun d1 f1 d2 f2 v1 v2 H2 q r2 w1 w2 => ?_
  have r2' := r2.pinV w2
  have w1' : Val F B E σ H2 d1 f1 v1 := w1
  refine hl F B _ E σ H2 d1 f1 d2 f2 v1 v2 _ _ hF r2' w1 w2 q fun d f v H3 q3 p3 => ?_
  obtain ⟨kk, rfl, q3'⟩ := asB.of q3
  obtain ⟨r3, w3⟩ := p3.val
  obtain ⟨rfl, _⟩ := w3.atm r3
  refine ⟨kk, rfl, ?_⟩
  obtain ⟨r4, w2'⟩ := r3.unpinV w2
  cases kk with
  | true =>
    rw [if_pos rfl] at q3' ⊢
    refine hc.run F B _ E σ H3 _ _ hF (r4.pinV w2') q3' fun d3 f3 v3 H4 q4 p4 => ?_
    obtain ⟨r5, w4⟩ := p4.val
    obtain ⟨r6, w5⟩ := r5.unpinV w2'
    exact hl' F B ps E σ H4 d2 f2 d3 f3 v2 v3 Qd Q hF r6 w5 w4 q4 k
  | false =>
    rw [if_neg Bool.false_ne_true] at q3' ⊢
    exact k _ .sh _ H3 q3' ⟨r4, .a rfl⟩
theorem de_chain {op op' : CmpOp} {r r' : R2} {rd rd' : D → D → (D → Fl → Prop) → Prop} (ho : OpR X (compareOp op) r) (ho' : OpR X (compareOp op') r') (hl : OpL X r rd) (hl' : OpL X r' rd') (ha : DE X a ta) (hb : DE X b tb) (hc : DE X c tc)
    (hm : lastMarks [op, op'] [b, c] = false := by with_unfolding_all rfl) : DE X (.Compare a [op, op'] [b, c] pos) (tdChain rd rd' ta tb tc) :=
  ⟨fun F B ps E σ H Qd Q hF rr t k => Run.of (pe_chain ho ho' peR peR peR hm) (chain3 hl hl' ha hb hc hF rr t k)⟩
theorem dt_chain {op op' : CmpOp} {r r' : R2} {rd rd' : D → D → (D → Fl → Prop) → Prop} (ho : OpR X (compareOp op) r) (ho' : OpR X (compareOp op') r') (hl : OpL X r rd) (hl' : OpL X r' rd') (ha : DE X a ta) (hb : DE X b tb) (hc : DE X c tc)
    (hm : lastMarks [op, op'] [b, c] = false := by with_unfolding_all rfl) : DT X (.Compare a [op, op'] [b, c] pos) (tdB (tdChain rd rd' ta tb tc)) :=
  ⟨fun F B ps E σ H Qd Q hF rr t k => RunT.of (pt_chain ho ho' peR peR peR hm) (chain3 (Qd := asB Qd) hl hl' ha hb hc hF rr t fun d f v H2 q2 p2 => by
    obtain ⟨b, rfl, q3⟩ := asB.of q2
    obtain ⟨r2, w2⟩ := p2.val
    obtain ⟨rfl, _⟩ := w2.atm r2
    exact ⟨b, rfl, k b H2 q3 r2⟩)⟩
/-! ### and, or, not; if-else -/
variable {tA tB' : TDT} {rest : List Expr}
def tdAnd (t u : TDT) : TDT := fun E Q => t E fun c => if c = true then u E Q else Q false
def tdOr (t u : TDT) : TDT := fun E Q => t E fun c => if c = true then Q true else u E Q
def tdNot (t : TDT) : TDT := fun E Q => t E fun c => Q (!c)
theorem dw_and1 (ha : DT X a tA) : DW X (.BoolOp .And [a] pos) tA := ⟨fun F B ps E σ H Qd Q hF r t k => RunW.of (pw_and1 ptR) (ha.run F B ps E σ H Qd Q hF r t k)⟩
theorem dw_or1 (ha : DT X a tA) : DW X (.BoolOp .Or [a] pos) tA := ⟨fun F B ps E σ H Qd Q hF r t k => RunW.of (pw_or1 ptR) (ha.run F B ps E σ H Qd Q hF r t k)⟩
theorem dw_and (ha : DT X a tA) (hb : DW X (.BoolOp .And (b :: rest) pos) tB') : DW X (.BoolOp .And (a :: b :: rest) pos) (tdAnd tA tB') :=
  ⟨fun F B ps E σ H Qd Q hF r t k => RunW.of (pw_and ptR pwR) (ha.run F B ps E σ H _ _ hF r t fun c H1 q r1 => by
    cases c with
    | true => rw [if_pos rfl] at q ⊢; exact hb.run F B ps E σ H1 Qd Q hF r1 q k
    | false => rw [if_neg Bool.false_ne_true] at q ⊢; exact k _ _ q r1)⟩
theorem dw_or (ha : DT X a tA) (hb : DW X (.BoolOp .Or (b :: rest) pos) tB') : DW X (.BoolOp .Or (a :: b :: rest) pos) (tdOr tA tB') :=
  ⟨fun F B ps E σ H Qd Q hF r t k => RunW.of (pw_or ptR pwR) (ha.run F B ps E σ H _ _ hF r t fun c H1 q r1 => by
    cases c with
    | false => rw [if_neg Bool.false_ne_true] at q ⊢; exact hb.run F B ps E σ H1 Qd Q hF r1 q k
    | true => rw [if_pos rfl] at q ⊢; exact k _ _ q r1)⟩
theorem DW.dt (h : DW X e tA) : DT X e tA := ⟨fun F B ps E σ H Qd Q hF r t k => fun pins s I => h.run F B ps E σ H Qd Q hF r t k _ pins s I⟩
theorem dt_not (ha : DT X a tA) : DT X (.UnaryOp .Not a pos) (tdNot tA) :=
  ⟨fun F B ps E σ H Qd Q hF r t k => RunT.of (pt_not ptR) (ha.run F B ps E σ H _ _ hF r t fun c H1 q r1 => k _ _ q r1)⟩
def tdAndV (ta tb : TDE) : TDE := fun E Q => ta E (asB fun c => if c = true then tb E Q else Q (.a (.bl false)) .sh)
theorem de_one {op} (h : DE X a ta) : DE X (.BoolOp op [a] pos) ta := ⟨fun F B ps E σ H Qd Q hF r t k => Run.of (pe_one peR) (h.run F B ps E σ H Qd Q hF r t k)⟩
theorem de_and (ha : DE X a ta) (hb : DE X (.BoolOp .And (b :: rest) pos) tb) : DE X (.BoolOp .And (a :: b :: rest) pos) (tdAndV ta tb) :=
  ⟨fun F B ps E σ H Qd Q hF r t k => Run.of (pe_and peR peR) (ha.run F B ps E σ H _ _ hF r t fun d f v H1 q p => by
    obtain ⟨c, rfl, q'⟩ := asB.of q
    clear q
    have q := q'
    clear q'
    obtain ⟨r1, w1⟩ := p.val
    obtain ⟨rfl, _⟩ := w1.atm r1
    refine ⟨c, rfl, ?_⟩
    cases c with
    | true => rw [if_pos rfl] at q ⊢; exact hb.run F B ps E σ H1 Qd Q hF r1 q k
    | false => rw [if_neg Bool.false_ne_true] at q ⊢; exact k _ .sh _ _ q ⟨r1, .a rfl⟩)⟩
def tdNotV (ta : TDE) : TDE := fun E Q => ta E (asB fun c => Q (.a (.bl (!c))) .sh)
theorem de_not (ha : DE X a ta) : DE X (.UnaryOp .Not a pos) (tdNotV ta) :=
  ⟨fun F B ps E σ H Qd Q hF r t k => Run.of (pe_not peR) (ha.run F B ps E σ H _ _ hF r t fun d f v H1 q p => by
    obtain ⟨c, rfl, q'⟩ := asB.of q
    clear q
    have q := q'
    clear q'
    obtain ⟨r1, w1⟩ := p.val
    obtain ⟨rfl, _⟩ := w1.atm r1
    exact ⟨c, rfl, k _ .sh _ _ q ⟨r1, .a rfl⟩⟩)⟩
def tdIf (t : TDT) (ta tb : TDE) : TDE := fun E Q => t E fun c => if c = true then ta E Q else tb E Q
theorem de_ifExp (hc : DT X c tA) (ha : DE X a ta) (hb : DE X b tb) : DE X (.IfExp c a b pos) (tdIf tA ta tb) :=
  ⟨fun F B ps E σ H Qd Q hF r t k => Run.of (pe_ifExp ptR peR peR) (hc.run F B ps E σ H _ _ hF r t fun d H1 q r1 => by
    cases d with
    | true => rw [if_pos rfl] at q ⊢; exact ha.run F B ps E σ H1 Qd Q hF r1 q k
    | false => rw [if_neg Bool.false_ne_true] at q ⊢; exact hb.run F B ps E σ H1 Qd Q hF r1 q k)⟩
/-! ### arguments, displays -/
def tdNil : TDA := fun _ Q => Q []
def tdCons (ta : TDE) (tr : TDA) : TDA := fun E Q => ta E fun d f => tr E fun dfs => Q ((d, f) :: dfs)
theorem da_nil : DA X [] tdNil := ⟨fun F B ps E σ H Qd Q hF r t k => RunA.of pa_nil (k [] [] H t r .nil)⟩
theorem da_cons {tr : TDA} (ha : DE X e ta) (hr : DA X es tr) (hs : starEach (e :: es) X.env = (false, eval e X.env) :: starEach es X.env := by rfl) : DA X (e :: es) (tdCons ta tr) :=
  ⟨fun F B ps E σ H Qd Q hF r t k => RunA.of (pa_cons peR paR hs) (ha.run F B ps E σ H _ _ hF r t fun d f v H1 q p => by
    obtain ⟨r1, w1⟩ := p.val
    refine hr.run F B _ E σ H1 _ _ hF (r1.pinV w1) q fun dfs vs H2 q2 r2 w2 => ?_
    obtain ⟨r3, w1'⟩ := r2.unpinV w1
    exact k _ _ H2 q2 r3 (.cons w1' w2))⟩
def allOk (dfs : List (D × Fl)) : Bool := dfs.all (fun x => x.2.ok)
def tdTup (t : TDA) : TDE := fun E Q => t E fun dfs => allOk dfs = true ∧ dfs.length ≤ sizeLine ∧ Q (.t (dfs.map (·.1))) .sh
def tdLst (t : TDA) : TDE := fun E Q => t E fun dfs => allOk dfs = true ∧ dfs.length ≤ sizeLine ∧ Q (.l (dfs.map (·.1))) .fr
theorem ValL.length {F : Fx} {B : Bas} {E : DEnv} {σ : L2.St} {H : Hp} {dfs : List (D × Fl)} {vs : List V} (h : ValL F B E σ H dfs vs) : dfs.length = vs.length := Paired.length h
theorem de_tup {t : TDA} {x1} (h : DA X es t) : DE X (.Tuple es x1 pos) (tdTup t) :=
  ⟨fun F B ps E σ H Qd Q hF r t k => Run.of (pe_tup paR) (h.run F B ps E σ H _ _ hF r t fun dfs vs H1 ⟨q1, q2, q3⟩ r1 w => ⟨by rw [← w.length]; exact q2, fun p hp => k _ .sh _ _ q3 (r1.laidT hp (w.is q1))⟩)⟩
theorem de_lst {t : TDA} (h : DA X es t) : DE X (.List es pos) (tdLst t) :=
  ⟨fun F B ps E σ H Qd Q hF r t k => Run.of (pe_lst paR) (h.run F B ps E σ H _ _ hF r t fun dfs vs H1 ⟨q1, q2, q3⟩ r1 w => ⟨by rw [← w.length]; exact q2, fun p hp => k _ .fr _ _ q3 (r1.laid (d := .l _) hp ⟨_, upd_same, (w.is q1).laid hp⟩)⟩)⟩
/-! ### items -/
def IxL (X : Cx) (r : R2) (rd : D → D → (D → Fl → Prop) → Prop) : Prop := OpL X r rd
theorem de_ixG {r : R2} {rd : D → D → (D → Fl → Prop) → Prop} (hr : IxR X r) (hl : OpL X r rd) (ha : DE X a ta) (hb : DE X b tb) (hs : PlainIx b) : DE X (.Subscript a b pos) (tdOp rd ta tb) :=
  ⟨fun F B ps E σ H Qd Q hF r t k => Run.of (pe_ix hr peR peR hs) (two (C := fun d1 _ d2 _ => rd d1 d2 Qd) ha hb hF r t fun d1 f1 d2 f2 v1 v2 H' q r' w1 w2 => hl F B ps E σ H' d1 f1 d2 f2 v1 v2 Qd Q hF r' w1 w2 q k)⟩
theorem atI_is {F : Fx} {O : Addr → Prop} {H : Hp} {ds : List D} {vs : List V} {i : Int} {d : D} (l : IsL F O H ds vs) (e : atI ds i = some d) : ∃ v, atI vs i = some v ∧ Is F O H d v := by
  unfold atI at e ⊢
  rw [← l.length]
  cases q : ixN ds.length i with
  | none => rw [q] at e; cases e
  | some j =>
    rw [q] at e
    exact l.get e
def rdIx : D → D → (D → Fl → Prop) → Prop := fun d1 d2 Q => match d1, d2 with
  | .l xs, .a (.int i) => ∃ y, atI xs i = some y ∧ Q y .sh
  | .t xs, .a (.int i) => ∃ y, atI xs i = some y ∧ Q y .sh
  | _, _ => False
theorem opl_ix : OpL X (fun x y H Q => rIxL X.K x y H Q ∨ rIxT X.K x y H Q) rdIx := by
  intro F B ps E σ H d1 f1 d2 f2 v1 v2 Qd Q hF r w1 w2 q k
  unfold rdIx at q
  split at q
  · rename_i xs i
    obtain ⟨y, e, q⟩ := q
    obtain ⟨p, vs, rfl, h, l⟩ := w1.lst r
    obtain ⟨rfl, _⟩ := w2.atm r
    obtain ⟨v, e2, w⟩ := atI_is l e
    exact .inl ⟨p, vs, i, v, rfl, rfl, SqL.of h, e2, k _ .sh _ H q ⟨r, w⟩⟩
  · rename_i xs i
    obtain ⟨y, e, q⟩ := q
    obtain ⟨p, vs, rfl, h, l⟩ := w1.tup hF.K r
    obtain ⟨rfl, _⟩ := w2.atm r
    obtain ⟨v, e2, w⟩ := atI_is l e
    exact .inr ⟨p, vs, i, v, rfl, rfl, h, e2, k _ .sh _ H q ⟨r, w⟩⟩
  · exact q.elim
theorem ixr_seq : IxR X (fun x y H Q => rIxL X.K x y H Q ∨ rIxT X.K x y H Q) := ix_list.or ix_tup
theorem de_ix (ha : DE X a ta) (hb : DE X b tb) (hs : PlainIx b) : DE X (.Subscript a b pos) (tdOp rdIx ta tb) := de_ixG ixr_seq opl_ix ha hb hs
/-! ### slices: a[k:] -/
def cutD (xs : List D) (lo hi : Option Int) : List D := (xs.drop (HT.sIx xs.length 0 lo)).take (HT.sIx xs.length xs.length hi - HT.sIx xs.length 0 lo)
theorem cutD_is {F : Fx} {O : Addr → Prop} {H : Hp} {ds : List D} {vs : List V} {lo hi : Option Int} (l : IsL F O H ds vs) : IsL F O H (cutD ds lo hi) (cutV vs lo hi) := by
  unfold cutD cutV
  rw [l.length]
  exact (l.drop _).take _
def tdCut (lo : Int) (ta : TDE) : TDE := fun E Q => ta E fun d _ => match d with
  | .l xs => Q (.l (cutD xs (some lo) none)) .fr
  | .t xs => (0 < HT.sIx xs.length 0 (some lo)) ∧ Q (.t (cutD xs (some lo) none)) .sh
  | _ => False
end
end DL
set_option Elab.async false
set_option linter.all false
set_option maxRecDepth 100000
/-! DLStm: statements over data, loops, defs and their calls. -/
namespace DL
open PySem PySem.Spec PyProof.Rows L2
def RunS (X : Cx) (st : Stmt) (σ : L2.St) (H : Hp) (D : Ends) : Prop := ∀ (pins : List (Addr × Obj)) (s : Shared), Inv X pins σ H s → wpAny (model X.prog X.w) X.A (exec st X.env) (SP X pins D) X.xe s
def RunSs (X : Cx) (st : List Stmt) (σ : L2.St) (H : Hp) (D : Ends) : Prop := ∀ (pins : List (Addr × Obj)) (s : Shared), Inv X pins σ H s → wpAny (model X.prog X.w) X.A (execs st X.env) (SP X pins D) X.xe s
def RunI (X : Cx) (tg iter : Expr) (σ : L2.St) (H : Hp) (Rk : It → Hp → Prop) : Prop := ∀ (pins : List (Addr × Obj)) (s : Shared), Inv X pins σ H s →
  wpAny (model X.prog X.w) X.A (eval iter X.env) (fun v s1 => wpAny (model X.prog X.w) X.A (pyIter v) (PIE X pins σ tg Rk) X.xe s1) X.xe s
theorem psR {X : Cx} {st : Stmt} : PS X st (fun D σ H => RunS X st σ H D) := ⟨fun pins s σ H D I h => h pins s I⟩
theorem pssR {X : Cx} {st : List Stmt} : PSs X st (fun D σ H => RunSs X st σ H D) := ⟨fun pins s σ H D I h => h pins s I⟩
theorem piR {X : Cx} {tg iter : Expr} : PI X tg iter (fun σ H Rk => RunI X tg iter σ H Rk) := ⟨fun pins s σ H Rk I h => h pins s I⟩
theorem RunS.of {X : Cx} {e : Stmt} {t : TS} {σ : L2.St} {H : Hp} {D : Ends} (h : PS X e t) (q : t D σ H) : RunS X e σ H D := fun pins s I => h.run pins s σ H D I q
theorem RunSs.of {X : Cx} {e : List Stmt} {t : TS} {σ : L2.St} {H : Hp} {D : Ends} (h : PSs X e t) (q : t D σ H) : RunSs X e σ H D := fun pins s I => h.run pins s σ H D I q
theorem RunI.of {X : Cx} {tg e : Expr} {t : TI} {σ : L2.St} {H : Hp} {Rk : It → Hp → Prop} (h : PI X tg e t) (q : t σ H Rk) : RunI X tg e σ H Rk := fun pins s I => h.run pins s σ H Rk I q
structure DEnds where
  nx : DEnv → Prop
  rt : D → Prop
  bk : DEnv → Prop := fun _ => False
  ct : DEnv → Prop := fun _ => False
abbrev TDS := DEnds → DEnv → Prop
/-- a result leaves the def -/
def Ret (F : Fx) (B : Bas) (H : Hp) (d : D) (v : V) : Prop := (∀ a o, B.H0 a = some o → F.de ≠ some a → H a = some o) ∧ (∀ a, F.de = some a → DiceOk F B.O0 H a) ∧ Is F B.O0 H d v
structure Links (F : Fx) (B : Bas) (ps : List (D × V)) (Dd : DEnds) (D' : Ends) : Prop where
  nx : ∀ E σ H, Dd.nx E → R F B ps E σ H → D'.nx σ H
  rt : ∀ d v H, Dd.rt d → Ret F B H d v → D'.rt v H
  bk : ∀ E σ H, Dd.bk E → R F B ps E σ H → D'.bk σ H
  ct : ∀ E σ H, Dd.ct E → R F B ps E σ H → D'.ct σ H
structure DS (X : Cx) (st : Stmt) (t : TDS) : Prop where
  run : ∀ (F : Fx) (B : Bas) (ps : List (D × V)) (E : DEnv) (σ : L2.St) (H : Hp) (Dd : DEnds) (D' : Ends), FOk X F → R F B ps E σ H → t Dd E → Links F B ps Dd D' → RunS X st σ H D'
structure DSs (X : Cx) (st : List Stmt) (t : TDS) : Prop where
  run : ∀ (F : Fx) (B : Bas) (ps : List (D × V)) (E : DEnv) (σ : L2.St) (H : Hp) (Dd : DEnds) (D' : Ends), FOk X F → R F B ps E σ H → t Dd E → Links F B ps Dd D' → RunSs X st σ H D'
theorem own_O0 {B : Bas} {E : DEnv} {σ : L2.St} {a : Addr} (h : B.O0 a) : own B E σ a := .inl h
theorem Post.ret {F : Fx} {B : Bas} {ps : List (D × V)} {E : DEnv} {σ : L2.St} {H : Hp} {d : D} {f : Fl} {v : V} (p : Post F B ps E σ d f v H) : Ret F B H d v := by
  have fin : R F B ps E σ H → Is F B.O0 H d v → Ret F B H d v := fun r h => ⟨r.kept, fun a e => (r.dice a e).2.mono (fun _ z => z) (fun _ _ z _ => z) fun _ _ _ z => own_O0 z, h⟩
  cases f with
  | ow i =>
    obtain ⟨r, e1, e2⟩ := p
    obtain ⟨b, e3, rt, _, n⟩ := r.ow i d e1
    rw [e2] at e3; cases e3
    exact fin r ((rt.mono (fun _ z => z) (fun _ _ z _ => z) fun _ _ _ z => own_O0 z).is n)
  | _ =>
    obtain ⟨r, h⟩ := p.sh rfl
    exact fin r (h.mono (fun _ _ z _ => z) fun _ _ _ z => own_O0 z)
section
variable {X : Cx} {st : Stmt} {rest sts : List Stmt} {t u : TDS} {e : Expr} {te : TDE} {pos : Pos}
def tdNext : TDS := fun Dd E => Dd.nx E
def tdSeq (t u : TDS) : TDS := fun Dd E => t { Dd with nx := u Dd } E
theorem dss_nil : DSs X [] tdNext := ⟨fun F B ps E σ H Dd D' hF r t l => RunSs.of pss_nil (l.nx E σ H t r)⟩
theorem dss_cons (h1 : DS X st t) (h2 : DSs X rest u) : DSs X (st :: rest) (tdSeq t u) :=
  ⟨fun F B ps E σ H Dd D' hF r t l => RunSs.of (pss_cons psR pssR) (h1.run F B ps E σ H _ _ hF r t ⟨fun E' σ' H' q r' => h2.run F B ps E' σ' H' Dd D' hF r' q l, l.rt, l.bk, l.ct⟩)⟩
theorem dss_one (h1 : DS X st t) : DSs X [st] t := ⟨fun F B ps E σ H Dd D' hF r t l => RunSs.of (pss_one psR) (h1.run F B ps E σ H _ _ hF r t l)⟩
theorem ds_pass : DS X (.Pass pos) tdNext := ⟨fun F B ps E σ H Dd D' hF r t l => RunS.of ps_pass (l.nx E σ H t r)⟩
def tdNever : TDS := fun _ _ => False
theorem ds_never : DS X st tdNever := ⟨fun F B ps E σ H Dd D' hF r t l => t.elim⟩
def tdRet (te : TDE) : TDS := fun Dd E => te E fun d _ => Dd.rt d
theorem ds_ret (he : DE X e te) : DS X (.Return (some e) pos) (tdRet te) :=
  ⟨fun F B ps E σ H Dd D' hF r t l => RunS.of (ps_ret peR) (he.run F B ps E σ H _ _ hF r t fun d f v H' q p => l.rt d v H' q p.ret)⟩
def tdIfS (c : TDT) (t u : TDS) : TDS := fun Dd E => c E fun b => if b = true then t Dd E else u Dd E
theorem ds_if {c : Expr} {a b : List Stmt} {tc : TDT} (hc : DT X c tc) (ha : DSs X a t) (hb : DSs X b u) : DS X (.If c a b pos) (tdIfS tc t u) :=
  ⟨fun F B ps E σ H Dd D' hF r t l => RunS.of (ps_if ptR pssR pssR) (hc.run F B ps E σ H _ _ hF r t fun d H1 q r1 => by
    cases d with
    | true => rw [if_pos rfl] at q ⊢; exact ha.run F B ps E σ H1 Dd D' hF r1 q l
    | false => rw [if_neg Bool.false_ne_true] at q ⊢; exact hb.run F B ps E σ H1 Dd D' hF r1 q l)⟩
def tdDrop (te : TDE) : TDS := fun Dd E => te E fun _ f => f.ok = true ∧ Dd.nx E
theorem ds_expr (he : DE X e te) (hs : swapsWith e none pos.line X.env = pure false := by rfl) : DS X (.Expr e pos) (tdDrop te) :=
  ⟨fun F B ps E σ H Dd D' hF r t l => RunS.of (ps_expr peR hs) (he.run F B ps E σ H _ _ hF r t fun d f v H' q p => l.nx E σ H' q.2 p.val.1)⟩
/-- a name stored: a new list or dict is owned -/
def setSl (E : DEnv) (i : Nat) (d : D) : Fl → DEnv
  | .fr => E.set i (.ow d)
  | _ => E.set i (.sh d)
theorem Post.put {F : Fx} {B : Bas} {ps : List (D × V)} {E : DEnv} {σ : L2.St} {H : Hp} {d : D} {f : Fl} {v : V} {i : Nat} (p : Post F B ps E σ d f v H) (ok : f.ok = true) : R F B ps (setSl E i d f) (σ.set i (some v)) H := by
  cases f with
  | ow j => cases ok
  | sh => exact p.1.put_sh p.2
  | fr =>
    obtain ⟨a, rfl, r, rt, n1, n2, nd, hr⟩ := p
    exact r.put_fr rt n1 n2 nd hr
def tdSet (i : Nat) (te : TDE) : TDS := fun Dd E => te E fun d f => f.ok = true ∧ Dd.nx (setSl E i d f)
theorem ds_set {i : Nat} {x : Str} {pos' : Pos} (hN : X.N.Nodup) (hi : X.N[i]? = some x) (hx : Loc X.env.scope x) (he : DE X e te) (hs : swapsWith e (some (.Name x pos')) pos.line X.env = pure false := by rfl) (hf : X.fn x = true ∨ X.env.scope.names.lookup x = some .local := by first | exact .inl rfl | exact .inr rfl | assumption) :
    DS X (.Assign [.Name x pos'] e pos) (tdSet i te) :=
  ⟨fun F B ps E σ H Dd D' hF r t l => RunS.of (ps_set hN hi hx peR hs hf) (he.run F B ps E σ H _ _ hF r t fun d f v H' q p => l.nx _ _ H' q.2 (p.put q.1))⟩
/-- from here on slot i is no owner -/
def tdShare (i : Nat) (t : TDS) : TDS := fun Dd E => match E[i]? with
  | some (.ow d) => t Dd (E.set i (.sh d))
  | _ => t Dd E
theorem dss_share (i : Nat) (h : DSs X sts t) : DSs X sts (tdShare i t) :=
  ⟨fun F B ps E σ H Dd D' hF r t l => by
    unfold tdShare at t
    split at t
    · rename_i d e
      exact h.run F B ps _ σ H Dd D' hF (r.share e) t l
    · exact h.run F B ps E σ H Dd D' hF r t l⟩
/-! ### targets -/
abbrev TDG := D → DEnv → (DEnv → Prop) → Prop
abbrev TDGs := List D → DEnv → (DEnv → Prop) → Prop
def wipeE (E : DEnv) : List Nat → DEnv
  | [] => E
  | v :: vs => (wipeE E vs).set v .un
theorem wipeE_get {E : DEnv} {i : Nat} : ∀ {vs : List Nat}, (wipeE E vs)[i]? = if i ∈ vs then (if i < E.length then some .un else none) else E[i]?
  | [] => by simp [wipeE]
  | v :: vs => by
    have ih := wipeE_get (E := E) (i := i) (vs := vs)
    have hl : ∀ vs : List Nat, (wipeE E vs).length = E.length := by
      intro vs
      induction vs with
      | nil => rfl
      | cons v vs ih => show ((wipeE E vs).set v .un).length = _; rw [List.length_set, ih]
    show ((wipeE E vs).set v .un)[i]? = _
    by_cases h : v = i
    · subst h
      rw [if_pos List.mem_cons_self]
      by_cases hv : v < E.length
      · rw [List.getElem?_set_self (by rw [hl]; exact hv), if_pos hv]
      · rw [List.getElem?_eq_none (by rw [List.length_set, hl]; omega), if_neg hv]
    · rw [List.getElem?_set_ne h, ih]
      by_cases hm : i ∈ vs
      · rw [if_pos hm, if_pos (List.mem_cons_of_mem _ hm)]
      · rw [if_neg hm, if_neg (fun z => (List.mem_cons.mp z).elim (fun e => h e.symm) hm)]
theorem wipe_get {σ : L2.St} {i : Nat} : ∀ {vs : List Nat}, (L2.wipe σ vs)[i]? = if i ∈ vs then (if i < σ.length then some none else none) else σ[i]?
  | [] => by simp [L2.wipe]
  | v :: vs => by
    have ih := wipe_get (σ := σ) (i := i) (vs := vs)
    show ((L2.wipe σ vs).set v none)[i]? = _
    by_cases h : v = i
    · subst h
      rw [if_pos List.mem_cons_self]
      by_cases hv : v < σ.length
      · rw [List.getElem?_set_self (by rw [L2.wipe_length]; exact hv), if_pos hv]
      · rw [List.getElem?_eq_none (by rw [List.length_set, L2.wipe_length]; omega), if_neg hv]
    · rw [List.getElem?_set_ne h, ih]
      by_cases hm : i ∈ vs
      · rw [if_pos hm, if_pos (List.mem_cons_of_mem _ hm)]
      · rw [if_neg hm, if_neg (fun z => (List.mem_cons.mp z).elim (fun e => h e.symm) hm)]
/-- nothing but the slots sl has changed -/
structure Only' (sl : List Nat) (E E' : DEnv) (σ σ' : L2.St) : Prop where
  len : E'.length = E.length
  lenS : σ'.length = σ.length
  env : ∀ i, i ∉ sl → E'[i]? = E[i]?
  st : ∀ i, i ∉ sl → σ'[i]? = σ[i]?
theorem Only'.wipe {sl vs : List Nat} {E E' : DEnv} {σ σ' : L2.St} (h : Only' sl E E' σ σ') (hs : ∀ i ∈ sl, i ∈ vs) : wipeE E' vs = wipeE E vs ∧ L2.wipe σ' vs = L2.wipe σ vs := by
  constructor
  · apply List.ext_getElem?
    intro i
    rw [wipeE_get, wipeE_get, h.len]
    by_cases hm : i ∈ vs
    · rw [if_pos hm, if_pos hm]
    · rw [if_neg hm, if_neg hm, h.env i fun z => hm (hs i z)]
  · apply List.ext_getElem?
    intro i
    rw [wipe_get, wipe_get, h.lenS]
    by_cases hm : i ∈ vs
    · rw [if_pos hm, if_pos hm]
    · rw [if_neg hm, if_neg hm, h.st i fun z => hm (hs i z)]
theorem Only'.refl {sl : List Nat} {E : DEnv} {σ : L2.St} : Only' sl E E σ σ := ⟨rfl, rfl, fun _ _ => rfl, fun _ _ => rfl⟩
theorem Only'.trans {s1 s2 : List Nat} {E E1 E2 : DEnv} {σ σ1 σ2 : L2.St} (a : Only' s1 E E1 σ σ1) (b : Only' s2 E1 E2 σ1 σ2) : Only' (s1 ++ s2) E E2 σ σ2 :=
  ⟨b.len.trans a.len, b.lenS.trans a.lenS, fun i h => (b.env i fun z => h (List.mem_append_right _ z)).trans (a.env i fun z => h (List.mem_append_left _ z)),
    fun i h => (b.st i fun z => h (List.mem_append_right _ z)).trans (a.st i fun z => h (List.mem_append_left _ z))⟩
theorem Only'.one {i : Nat} {E : DEnv} {σ : L2.St} {s : Slot} {x : Option V} : Only' [i] E (E.set i s) σ (σ.set i x) :=
  ⟨by simp, by simp, fun j h => List.getElem?_set_ne fun e => h (by simp [e]), fun j h => List.getElem?_set_ne fun e => h (by simp [e])⟩
abbrev GLink (X : Cx) (g : TG) (sl : List Nat) (t : TDG) : Prop := ∀ (F : Fx) (B : Bas) (ps : List (D × V)) (E : DEnv) (σ : L2.St) (H : Hp) (d : D) (v : V) (Qd : DEnv → Prop) (Q : L2.St → Hp → Prop), FOk X F → R F B ps E σ H → Is F (own B E σ) H d v → t d E Qd →
    (∀ E' σ', Qd E' → R F B ps E' σ' H → Only' sl E E' σ σ' → Q σ' H) → g v σ H Q
structure DG (X : Cx) (tg : Expr) (g : TG) (sl : List Nat) (t : TDG) : Prop where
  pg : PG X tg g
  ln : GLink X g sl t
structure DGs (X : Cx) (tgs : List Expr) (g : TGs) (sl : List Nat) (t : TDGs) : Prop where
  pg : PGs X tgs g
  ln : ∀ (F : Fx) (B : Bas) (ps : List (D × V)) (E : DEnv) (σ : L2.St) (H : Hp) (ds : List D) (vs : List V) (Qd : DEnv → Prop) (Q : L2.St → Hp → Prop), FOk X F → R F B ps E σ H → IsL F (own B E σ) H ds vs → t ds E Qd →
    (∀ E' σ', Qd E' → R F B ps E' σ' H → Only' sl E E' σ σ' → Q σ' H) → g vs σ H Q
def tgName (i : Nat) : TDG := fun d E Q => Q (E.set i (.sh d))
theorem dg_name {i : Nat} {x : Str} (hN : X.N.Nodup) (hi : X.N[i]? = some x) (hx : Loc X.env.scope x) (hf : X.fn x = true ∨ X.env.scope.names.lookup x = some .local := by first | exact .inl rfl | exact .inr rfl | assumption) : DG X (.Name x pos) (gName i) [i] (tgName i) :=
  ⟨pg_name hN hi hx hf, fun F B ps E σ H d v Qd Q hF r h t k => k _ _ t (r.put_sh h) .one⟩
def tgNil : TDGs := fun ds E Q => ds = [] ∧ Q E
def tgCons (t : TDG) (u : TDGs) : TDGs := fun ds E Q => match ds with
  | d :: r => t d E fun E' => u r E' Q
  | [] => False
theorem dgs_nil : DGs X [] gNil [] tgNil := ⟨pgs_nil, fun F B ps E σ H ds vs Qd Q hF r h t k => by
  obtain ⟨rfl, t⟩ := t
  cases h
  exact ⟨rfl, k _ _ t r .refl⟩⟩
theorem dgs_cons {tg : Expr} {tgs : List Expr} {g : TG} {g2 : TGs} {s1 s2 : List Nat} {t : TDG} {u : TDGs} (h1 : DG X tg g s1 t) (h2 : DGs X tgs g2 s2 u) (hs : (assignEach (tg :: tgs) X.env).map (·.2) = assign tg X.env :: (assignEach tgs X.env).map (·.2) := by rfl) : DGs X (tg :: tgs) (gCons g g2) (s1 ++ s2) (tgCons t u) := by
  refine ⟨pgs_cons h1.pg h2.pg hs, fun F B ps E σ H ds vs Qd Q hF r h t k => ?_⟩
  cases h with
  | nil => exact t.elim
  | cons h hr =>
    refine ⟨_, _, rfl, h1.ln F B _ E σ H _ _ _ _ hF (r.pinL hr) h t fun E' σ' q r' o1 => ?_⟩
    obtain ⟨r2, hr2⟩ := R.unpinL hr.length r'
    exact h2.ln F B ps E' σ' H _ _ _ _ hF r2 hr2 q fun E'' σ'' q' r'' o2 => k E'' σ'' q' r'' (o1.trans o2)
def tgTup (n : Nat) (u : TDGs) : TDG := fun d E Q => match d with
  | .t ds => ds.length = n ∧ u ds E Q
  | _ => False
theorem dg_tup {es : List Expr} {k : Nat} {g : TGs} {sl : List Nat} {u : TDGs} {n : Nat} (hc : X.calm = true) (h : DGs X es g sl u) (hn : (assignEach es X.env).length = n := by rfl) (hst : (assignEach es X.env).findIdx? (·.1) = none := by rfl) : DG X (.Tuple es k pos) (gTup X.K n g) sl (tgTup n u) := by
  refine ⟨pg_tup hc h.pg hn hst, fun F B ps E σ H d v Qd Q hF r w t k => ?_⟩
  unfold tgTup at t
  split at t
  · rename_i ds
    have w : Val F B E σ H (.t ds) .sh v := w
    obtain ⟨a, vs, rfl, hT, hl⟩ := w.tup hF.K r
    exact ⟨a, vs, rfl, hT, by rw [← hl.length]; exact t.1, h.ln F B ps E σ H ds vs Qd Q hF r hl t.2 k⟩
  · exact t.elim
/-- target = e, the target names or a tuple of names: shared -/
def tdAsg (te : TDE) (g : TDG) : TDS := fun Dd E => te E fun d f => f.ok = true ∧ g d E Dd.nx
theorem ds_asg {tg : Expr} {g' : TG} {sl : List Nat} {g : TDG} (he : DE X e te) (hg : DG X tg g' sl g) (hs : swapsWithSole [tg] e pos.line X.env = pure false := by rfl) (hw : swappedStores [tg] e X.env = pure none := by rfl)
    (h1 : (assignEach [tg] X.env).map (·.2) = [assign tg X.env] := by rfl) : DS X (.Assign [tg] e pos) (tdAsg te g) := by
  exact ⟨fun F B ps E σ H Dd D' hF r t l => RunS.of (ps_asg peR hg.pg hs hw h1) (he.run F B ps E σ H _ _ hF r t fun d f v H' q p => by
    obtain ⟨r', w⟩ := p.sh q.1
    exact hg.ln F B ps E σ H' d v _ _ hF r' w q.2 fun E' σ' q' r2 _ => l.nx E' σ' H' q' r2)⟩
/-- a, b = x, y -/
def tdPar (i j : Nat) (ta : TDA) : TDS := fun Dd E => ta E fun dfs => match dfs with
  | [(d1, f1), (d2, f2)] => f1.ok = true ∧ f2.ok = true ∧ Dd.nx ((E.set i (.sh d1)).set j (.sh d2))
  | _ => False
theorem ds_par {i j : Nat} {x y : Str} {a b : Expr} {ta : TDA} {px py pt : Pos} {kt k2 pt2} (hc : X.calm = true) (hN : X.N.Nodup) (hi : X.N[i]? = some x) (hj : X.N[j]? = some y) (hij : i ≠ j)
    (hx : X.env.scope.names.lookup x = some .local) (hy : X.env.scope.names.lookup y = some .local) (ha : DA X [a, b] ta)
    (hw : swappedStores [.Tuple [.Name x px, .Name y py] kt pt] (.Tuple [a, b] k2 pt2) X.env = pure (some [x, y]))
    (hs : swapsWithSole [.Tuple [.Name x px, .Name y py] kt pt] (.Tuple [a, b] k2 pt2) pos.line X.env = pure false := by rfl) :
    DS X (.Assign [.Tuple [.Name x px, .Name y py] kt pt] (.Tuple [a, b] k2 pt2) pos) (tdPar i j ta) :=
  ⟨fun F B ps E σ H Dd D' hF r t l => RunS.of (ps_par hc hN hi hj hij hx hy paR hw hs) (ha.run F B ps E σ H _ _ hF r t fun dfs vs H' q r' w => by
    split at q
    · rename_i d1 f1 d2 f2
      cases w with
      | cons w1 w =>
        cases w with
        | cons w2 w =>
          cases w
          refine ⟨_, _, rfl, ?_⟩
          have w2' := w2.is q.2.1
          have r2 := (r'.pin w2').put_sh (i := i) (w1.is q.1)
          obtain ⟨r3, w3⟩ := r2.unpin
          exact l.nx _ _ H' q.2.2 (r3.put_sh w3)
    · exact q.elim)⟩
/-- name += e, ints -/
def tdAug (i : Nat) (te : TDE) (g : Int → Int → Int) : TDS := fun Dd E => match E[i]? with
  | some (.sh (.a (.int x))) => te E fun d _ => match d with
    | .a (.int y) => Dd.nx (E.set i (.sh (.a (.int (g x y)))))
    | _ => False
  | _ => False
theorem ds_augI {i : Nat} {x : Str} {op : Operator} {g : Int → Int → Int} {pos' : Pos} (hN : X.N.Nodup) (hi : X.N[i]? = some x) (hx : Loc X.env.scope x) (he : DE X e te) (ho : PIp X op (ipI g)) (hf : X.fn x = true ∨ X.env.scope.names.lookup x = some .local := by first | exact .inl rfl | exact .inr rfl | assumption) :
    DS X (.AugAssign (.Name x pos') op e pos) (tdAug i te g) :=
  ⟨fun F B ps E σ H Dd D' hF r t l => RunS.of (ps_aug hN hi hx peR ho hf) (by
    unfold tdAug at t
    split at t
    · rename_i z e1
      obtain ⟨v, e2, h⟩ := r.sh i _ e1
      cases h
      refine ⟨_, e2, he.run F B ps E σ H _ _ hF r t fun d f v H' q p => ?_⟩
      obtain ⟨r', w⟩ := p.val
      split at q
      · rename_i y
        obtain ⟨rfl, _⟩ := w.atm r'
        exact ⟨_, _, rfl, rfl, l.nx _ _ H' q (r'.put_sh (.a rfl))⟩
      · exact q.elim
    · exact t.elim)⟩
/-! ### while -/
def tdWhile (c : TDT) (tb : TDS) : TDS := fun Dd E => ∃ W : Nat → DEnv → Prop, (∃ m, W m E) ∧ ∀ m E, W m E →
  c E fun b => if b = true then tb { nx := fun E' => ∃ m', m' < m ∧ W m' E', ct := fun E' => ∃ m', m' < m ∧ W m' E', bk := Dd.nx, rt := Dd.rt } E else Dd.nx E
theorem ds_while {c : Expr} {body : List Stmt} {tc : TDT} {tb : TDS} (hp : PassesOwn (model X.prog X.w) X.A X.env X.xe) (hc : DT X c tc) (hb : DSs X body tb) : DS X (.While c body [] pos) (tdWhile tc tb) :=
  ⟨fun F B ps E σ H Dd D' hF r t l => RunS.of (ps_while hp ptR pssR) (by
    obtain ⟨W, ⟨m0, w0⟩, turn⟩ := t
    refine ⟨fun m σ H => ∃ E, R F B ps E σ H ∧ W m E, ⟨m0, E, r, w0⟩, ?_⟩
    rintro m σ1 H1 ⟨E1, r1, w1⟩
    refine hc.run F B ps E1 σ1 H1 _ _ hF r1 (turn m E1 w1) fun b H2 q r2 => ?_
    cases b with
    | true =>
      rw [if_pos rfl] at q ⊢
      refine ⟨fun σ' H' => ∃ E', R F B ps E' σ' H' ∧ ∃ m', m' < m ∧ W m' E', fun σ' H' ⟨E', r', m', hm, w'⟩ => ⟨m', hm, E', r', w'⟩, ?_⟩
      exact hb.run F B ps E1 σ1 H2 _ _ hF r2 q ⟨fun E' σ' H' q' r' => ⟨E', r', q'⟩, l.rt, l.nx, fun E' σ' H' q' r' => ⟨E', r', q'⟩⟩
    | false =>
      rw [if_neg Bool.false_ne_true] at q ⊢
      exact l.nx E1 σ1 H2 q r2)⟩
/-! ### what is walked -/
abbrev TDI := DEnv → (List D → Prop) → Prop
/-- the iterator J yields the data xs, one by one, while Src stands -/
def Walks (F : Fx) (J : It) (xs : List D) (Src : (Addr → Prop) → Hp → Prop) : Prop := ∀ (i : Nat) (H' : Hp) (O : Addr → Prop), Src O H' → (∀ a, O a → ∃ o, H' a = some o) →
  (xs.length ≤ i → J.stop i H') ∧ ∀ x, xs[i]? = some x → J.go i H' ∧ ∀ v H'', J.yld i H' v H'' → (∀ a o, H' a = some o → H'' a = some o) ∧ Is F O H'' x v
def Pinned (F : Fx) (ps1 : List (D × V)) : (Addr → Prop) → Hp → Prop := fun O H => ∀ p ∈ ps1, Is F O H p.1 p.2
structure DI (X : Cx) (tg iter : Expr) (t : TDI) : Prop where
  run : ∀ (F : Fx) (B : Bas) (ps : List (D × V)) (E : DEnv) (σ : L2.St) (H : Hp) (Qd : List D → Prop) (Rk : It → Hp → Prop), FOk X F → R F B ps E σ H → t E Qd →
    (∀ xs J H1 ps1, Qd xs → R F B (ps1 ++ ps) E σ H1 → Walks F J xs (Pinned F ps1) → Rk J H1) → RunI X tg iter σ H Rk
/-- the loop over data -/
def tdForL (g : TDG) (tb : TDS) : List D → DEnds → DEnv → Prop
  | [], Dd, E => Dd.nx E
  | x :: xs, Dd, E => g x E fun E' => tb { nx := fun E2 => tdForL g tb xs Dd E2, ct := fun E2 => tdForL g tb xs Dd E2, bk := Dd.nx, rt := Dd.rt } E'
def tdFor (ti : TDI) (g : TDG) (tb : TDS) : TDS := fun Dd E => ti E fun xs => tdForL g tb xs Dd E
theorem R.drop_pins {F : Fx} {B : Bas} {ps ps1 : List (D × V)} {E : DEnv} {σ : L2.St} {H : Hp} (r : R F B (ps1 ++ ps) E σ H) : R F B ps E σ H := r.mem_pins fun p hp => r.pins p (List.mem_append_right _ hp)
theorem for_core {F : Fx} {B : Bas} {ps' : List (D × V)} {E : DEnv} {σ : L2.St} {H1 : Hp} {J : It} {xs : List D} {Src : (Addr → Prop) → Hp → Prop} {g : TDG} {tb : TDS} {g' : TG} {body : List Stmt} {Dd : DEnds} {D' : Ends} (hF : FOk X F) (r1 : R F B ps' E σ H1)
    (hsrc : ∀ E' σ' H', R F B ps' E' σ' H' → Src (own B E' σ') H') (hw : Walks F J xs Src)
    {sl : List Nat} (hg : GLink X g' sl g)
    (hb : DSs X body tb) (q : tdForL g tb xs Dd E) (l : Links F B ps' Dd D') :
    ∃ W : Nat → Nat → L2.St → Hp → Prop, (∃ m, W 0 m σ H1) ∧ ∀ i m σ H, W i m σ H →
      (J.stop i H ∧ D'.nx σ H) ∨ (J.go i H ∧ ∃ N : L2.St → Hp → Prop, (∀ σ' H', N σ' H' → ∃ m', m' < m ∧ W (i + 1) m' σ' H') ∧ ∀ x H', J.yld i H x H' → g' x σ H' fun σ2 H2 => RunSs X body σ2 H2 { D' with nx := N, ct := N, bk := D'.nx }) := by
  refine ⟨fun i m σ H => m = xs.length - i ∧ i ≤ xs.length ∧ ∃ E, R F B ps' E σ H ∧ tdForL g tb (xs.drop i) Dd E, ⟨_, rfl, Nat.zero_le _, E, r1, q⟩, ?_⟩
  rintro i m σ2 H2 ⟨rfl, hi, E2, r2, q2⟩
  obtain ⟨hstop, hgo⟩ := hw i H2 _ (hsrc E2 σ2 H2 r2) fun a h => r2.own_there h
  by_cases hlt : i < xs.length
  · obtain ⟨go, yl⟩ := hgo xs[i] (List.getElem?_eq_getElem hlt)
    rw [List.drop_eq_getElem_cons hlt] at q2
    refine .inr ⟨go, fun σ' H' => ∃ E', R F B ps' E' σ' H' ∧ tdForL g tb (xs.drop (i + 1)) Dd E', fun σ' H' ⟨E', r', q'⟩ => ⟨xs.length - (i + 1), by omega, rfl, hlt, E', r', q'⟩, fun x H' y => ?_⟩
    obtain ⟨hk, hx⟩ := yl x H' y
    refine hg F B ps' E2 σ2 H' xs[i] x _ _ hF (r2.grow hk) hx q2 fun E' σ' q3 r3 _ => ?_
    exact hb.run F B ps' E' σ' H' _ _ hF r3 q3 ⟨fun E4 σ4 H4 q4 r4 => ⟨E4, r4, q4⟩, l.rt, l.nx, fun E4 σ4 H4 q4 r4 => ⟨E4, r4, q4⟩⟩
  · have e : i = xs.length := by omega
    subst e
    rw [List.drop_length] at q2
    exact .inl ⟨hstop (Nat.le_refl _), l.nx _ _ _ q2 r2⟩
theorem ds_for {tg iter : Expr} {body : List Stmt} {ti : TDI} {g' : TG} {sl : List Nat} {g : TDG} {tb : TDS} (hp : PassesOwn (model X.prog X.w) X.A X.env X.xe) (hc : X.calm = true) (hi : DI X tg iter ti) (hg : DG X tg g' sl g) (hb : DSs X body tb)
    (hs : ∀ x, foldedSetIterable iter X.env x = pure x := by intro _; rfl) : DS X (.For tg iter body [] pos) (tdFor ti g tb) := by
  refine ⟨fun F B ps E σ H Dd D' hF r t l => RunS.of (ps_for hp hc piR hg.pg pssR hs) (hi.run F B ps E σ H _ _ hF r t fun xs J H1 ps1 q r1 w => ?_)⟩
  exact for_core hF r1 (fun E' σ' H' r' p hp => r'.pins p (List.mem_append_left _ hp)) w hg.ln hb q ⟨fun E σ H q r => l.nx E σ H q r.drop_pins, l.rt, fun E σ H q r => l.bk E σ H q r.drop_pins, fun E σ H q r => l.ct E σ H q r.drop_pins⟩
/-! sources -/
def tdiSeq (te : TDE) : TDI := fun E Q => te E fun d f => f.ok = true ∧ match d with
  | .l xs => Q xs
  | .t xs => Q xs
  | _ => False
theorem Is.lst {F : Fx} {O : Addr → Prop} {H : Hp} {ds : List D} {v : V} (h : Is F O H (.l ds) v) : ∃ a vs, v = .ref a ∧ H a = some (.lst vs) ∧ ¬ O a ∧ IsL F O H ds vs := by
  cases h with
  | l h1 h2 h3 => exact ⟨_, _, rfl, h1, h2, h3⟩
theorem Is.tup {F : Fx} {O : Addr → Prop} {H : Hp} {ds : List D} {v : V} {K : PySem.W.Frag} (hK : F.K = K) (h : Is F O H (.t ds) v) : ∃ a vs, v = .ref a ∧ SqT K H a vs ∧ IsL F O H ds vs := by
  cases h with
  | t h1 _ h2 => exact ⟨_, _, rfl, .inl (.inl h1), h2⟩
  | tk h1 h2 => exact ⟨_, _, rfl, .inr (hK ▸ h1), h2⟩
theorem pinned_one {F : Fx} {d : D} {v : V} {O : Addr → Prop} {H : Hp} (h : Pinned F [(d, v)] O H) : Is F O H d v := h (d, v) (by simp)
theorem walks_list {F : Fx} {K : PySem.W.Frag} {a : Addr} {xs : List D} : Walks F (Itl K a) xs (Pinned F [(.l xs, .ref a)]) := by
  intro i H' O hp hO
  obtain ⟨b, vs, e, h, _, hl⟩ := (pinned_one hp).lst
  cases e
  refine ⟨fun hi => ⟨vs, SqL.of h, by rw [← hl.length]; exact hi⟩, fun x e => ?_⟩
  obtain ⟨v, ev, hv⟩ := hl.get e
  refine ⟨⟨vs, v, SqL.of h, ev⟩, fun y H'' ⟨e1, e2⟩ => ?_⟩
  subst e1
  refine ⟨fun _ _ z => z, ?_⟩
  have := e2 vs (SqL.of h)
  rw [ev] at this
  cases this
  exact hv
theorem walks_tup {F : Fx} {a : Addr} {xs : List D} : Walks F (Itt F.K a) xs (Pinned F [(.t xs, .ref a)]) := by
  intro i H' O hp hO
  obtain ⟨b, vs, e, h, hl⟩ := (pinned_one hp).tup rfl
  cases e
  refine ⟨fun hi => ⟨vs, h, by rw [← hl.length]; exact hi⟩, fun x e => ?_⟩
  obtain ⟨v, ev, hv⟩ := hl.get e
  refine ⟨⟨vs, v, h, ev⟩, fun y H'' ⟨e1, e2⟩ => ?_⟩
  subst e1
  refine ⟨fun _ _ z => z, ?_⟩
  have := e2 vs h
  rw [ev] at this
  cases this
  exact hv
/-- a list or a tuple, as the value is -/
theorem di_list {tg l : Expr} (hl : DE X l te) : DI X tg l (fun E Q => te E fun d f => f.ok = true ∧ match d with | .l xs => Q xs | _ => False) := by
  refine ⟨fun F B ps E σ H Qd Rk hF r t k => RunI.of (pi_list peR) (hl.run F B ps E σ H _ _ hF r t fun d f v H1 q p => ?_)⟩
  obtain ⟨r1, h⟩ := p.sh q.1
  obtain ⟨_, q⟩ := q
  split at q
  · rename_i xs
    obtain ⟨a, vs, rfl, ha, _, hv⟩ := h.lst
    exact ⟨a, rfl, ⟨vs, SqL.of ha⟩, k xs _ H1 [(.l xs, .ref a)] q (r1.pin h) walks_list⟩
  · exact q.elim
theorem di_tup {tg l : Expr} (hl : DE X l te) : DI X tg l (fun E Q => te E fun d f => f.ok = true ∧ match d with | .t xs => Q xs | _ => False) := by
  refine ⟨fun F B ps E σ H Qd Rk hF r t k => RunI.of (pi_tup peR) (hl.run F B ps E σ H _ _ hF r t fun d f v H1 q p => ?_)⟩
  obtain ⟨r1, h⟩ := p.sh q.1
  obtain ⟨_, q⟩ := q
  split at q
  · rename_i xs
    obtain ⟨a, vs, rfl, ha, hv⟩ := h.tup hF.K
    exact ⟨a, rfl, ⟨vs, ha⟩, k xs _ H1 [(.t xs, .ref a)] q (r1.pin h) (hF.K ▸ walks_tup)⟩
  · exact q.elim
/-- lo, lo + 1, .. -/
def ups (lo : Int) : Nat → List D
  | 0 => []
  | n + 1 => .a (.int lo) :: ups (lo + 1) n
theorem ups_length : ∀ (n : Nat) (lo : Int), (ups lo n).length = n
  | 0, _ => rfl
  | n + 1, lo => by show (ups (lo + 1) n).length + 1 = n + 1; rw [ups_length n]
theorem ups_get : ∀ (n : Nat) (lo : Int) (i : Nat), i < n → (ups lo n)[i]? = some (.a (.int (lo + i)))
  | 0, _, _, h => by omega
  | n + 1, lo, 0, _ => by show some _ = _; simp
  | n + 1, lo, i + 1, h => by
    show (ups (lo + 1) n)[i]? = _
    rw [ups_get n (lo + 1) i (by omega)]
    congr 3
    omega
theorem walks_range {F : Fx} {lo : Int} {n : Nat} : Walks F (Itr lo n) (ups lo n) (Pinned F []) := by
  intro i H' O hp hO
  rw [ups_length]
  refine ⟨fun h => h, fun x e => ?_⟩
  have hi : i < n := by
    have := (List.getElem?_eq_some_iff.mp e).1
    rw [ups_length] at this
    exact this
  rw [ups_get n lo i hi] at e
  cases e
  refine ⟨hi, fun v H'' ⟨e1, e2⟩ => ?_⟩
  subst e1 e2
  exact ⟨fun _ _ z => z, .a rfl⟩
def tdiRng1 (ta : TDA) : TDI := fun E Q => ta E fun dfs => match dfs with
  | [(.a (.int j), _)] => -(2 ^ 62) ≤ j ∧ j < 2 ^ 62 ∧ Q (ups 0 j.toNat)
  | _ => False
def tdiRng2 (ta : TDA) : TDI := fun E Q => ta E fun dfs => match dfs with
  | [(.a (.int i), _), (.a (.int j), _)] => (-(2 ^ 62) ≤ i ∧ i < 2 ^ 62 ∧ -(2 ^ 62) ≤ j ∧ j < 2 ^ 62) ∧ Q (ups i (j - i).toNat)
  | _ => False
theorem di_range1 {a tg : Expr} {ta : TDA} {p : Pos} (hg : Gl X "range") (hm : X.mg "range" = none) (ha : DA X [a] ta) (hs : starEach [a] X.env = [(false, eval a X.env)] := by rfl) : DI X tg (.Call (.Name "range" p) [a] [] pos) (tdiRng1 ta) :=
  ⟨fun F B ps E σ H Qd Rk hF r t k => RunI.of (pi_range1 hg hm paR hs) (ha.run F B ps E σ H _ _ hF r t fun dfs vs H1 q r1 w => by
    split at q
    · cases w with
      | cons w1 w =>
        cases w
        obtain ⟨e, _⟩ := Val.atm r1 w1
        exact ⟨_, by rw [e], q.1, q.2.1, k _ _ H1 [] q.2.2 r1 walks_range⟩
    · exact q.elim)⟩
theorem di_range2 {a b tg : Expr} {ta : TDA} {p : Pos} (hg : Gl X "range") (hm : X.mg "range" = none) (ha : DA X [a, b] ta) (hs : starEach [a, b] X.env = [(false, eval a X.env), (false, eval b X.env)] := by rfl) (hs2 : starEach [b] X.env = [(false, eval b X.env)] := by rfl) : DI X tg (.Call (.Name "range" p) [a, b] [] pos) (tdiRng2 ta) :=
  ⟨fun F B ps E σ H Qd Rk hF r t k => RunI.of (pi_range2 hg hm paR hs hs2) (ha.run F B ps E σ H _ _ hF r t fun dfs vs H1 q r1 w => by
    split at q
    · cases w with
      | cons w1 w =>
        cases w with
        | cons w2 w =>
          cases w
          obtain ⟨e, _⟩ := Val.atm r1 w1
          obtain ⟨e2, _⟩ := Val.atm r1 w2
          exact ⟨_, _, by rw [e, e2], q.1, k _ _ H1 [] q.2 r1 walks_range⟩
    · exact q.elim)⟩
end
/-! ### defs -/
/-- what a def promises over data: pp says what is asked of the arguments so that the result is as Qd wants -/
abbrev PP := List D → (D → Prop) → Prop
def spD (w : World) (K : PySem.W.Frag) (pp : PP) : Sp := fun vs H Q _ => ∃ (de : Option Addr) (O : Addr → Prop) (ds : List D) (Qd : D → Prop), (∀ a, O a → ∃ o, H a = some o) ∧ (∀ a, de = some a → O a ∧ DiceOk ⟨w, K, de⟩ O H a) ∧
  IsL ⟨w, K, de⟩ O H ds vs ∧ pp ds Qd ∧ ∀ d v H', Qd d → (∀ a o, H a = some o → de ≠ some a → H' a = some o) → (∀ a, de = some a → DiceOk ⟨w, K, de⟩ O H' a) → Is ⟨w, K, de⟩ O H' d v → Q v H'
def env0 (n : Nat) (ds : List D) : DEnv := ds.map .sh ++ List.replicate (n - ds.length) .un
theorem R_start {F : Fx} {O : Addr → Prop} {ds : List D} {vs : List V} {H : Hp} {N : List Str} (hO : ∀ a, O a → ∃ o, H a = some o) (hd : ∀ a, F.de = some a → O a ∧ DiceOk F O H a) (hl : IsL F O H ds vs) (hn : vs.length ≤ N.length) :
    R F ⟨H, O, []⟩ [] (env0 N.length ds) (start N vs) H := by
  have len := hl.length
  have no : ∀ (i : Nat) (d : D), (env0 N.length ds)[i]? ≠ some (.ow d) := fun i d e => by
    unfold env0 at e
    by_cases hi : i < ds.length
    · rw [List.getElem?_append_left (by simpa using hi), List.getElem?_map] at e
      cases q : ds[i]? with
      | none => rw [q] at e; cases e
      | some z => rw [q] at e; cases e
    · rw [List.getElem?_append_right (by simp; omega)] at e
      have := List.mem_of_getElem? e
      rw [List.mem_replicate] at this
      cases this.2
  have ow : ∀ b, own ⟨H, O, []⟩ (env0 N.length ds) (start N vs) b → O b := fun b h => by
    rcases h with h | ⟨i, d, e, _⟩
    · exact h
    · exact absurd e (no i d)
  refine ⟨by unfold env0 L2.start; simp [len], fun a o e _ => e, hO, fun a h => ⟨(hd a h).1, (hd a h).2.mono (fun _ z => z) (fun _ _ z _ => z) fun b _ _ z => ow b z⟩, fun i d e => ?_, fun i d e => absurd e (no i d), fun i j d d' a e => absurd e (no i d), fun i v e => ?_, fun p hp => absurd hp (by simp), fun p hp => absurd hp (by simp)⟩
  · unfold env0 at e
    by_cases hi : i < ds.length
    · rw [List.getElem?_append_left (by simpa using hi), List.getElem?_map] at e
      cases q : ds[i]? with
      | none => rw [q] at e; cases e
      | some z =>
        rw [q] at e
        cases e
        obtain ⟨v, e2, h⟩ := hl.get q
        refine ⟨v, ?_, h.mono (fun _ _ z _ => z) fun b _ _ z => ow b z⟩
        unfold L2.start
        rw [List.getElem?_append_left (by rw [List.length_map]; omega), List.getElem?_map, e2]
        rfl
    · rw [List.getElem?_append_right (by simp; omega)] at e
      have := List.mem_of_getElem? e
      rw [List.mem_replicate] at this
      cases this.2
  · unfold env0 at e
    by_cases hi : i < ds.length
    · rw [List.getElem?_append_left (by simpa using hi), List.getElem?_map] at e
      cases q : ds[i]? with
      | none => rw [q] at e; cases e
      | some z => rw [q] at e; cases e
    · rw [List.getElem?_append_right (by simp; omega)] at e
      have := List.mem_of_getElem? e
      rw [List.mem_replicate] at this
      cases this.2
section
variable {P : Program} {w : World} {K : PySem.W.Frag} {mg : Str → Option Value} {base : Heap}
/-- THE RULE for a def -/
theorem ok_of {x qual : Str} {st : Stmt} {f : Addr} {fd : FuncData} {N ps : List Str} {k : Nat} {pp : PP} {t : TDS} (Fn : Fun K x qual st f fd) (S : FnScope N ps (defScope st)) (hps : ps.length ≤ N.length) (len : ∀ ds Qd, pp ds Qd → ds.length = ps.length)
    (hbody : ∀ (cdv : Value) (A : Around) (outer : List Env) (s : Shared) (H : Hp) (E : XK), Room k (A.deeper (envOfC qual (defScope st) s.heap.objs.size f cdv)) → DSs (cxOf CX0 P w K mg base N qual (defScope st) f cdv A outer s H E).nox (defBody st) t)
    (hpp : ∀ ds (Qd : D → Prop), pp ds Qd → t { nx := fun _ => Qd (.a .non), rt := Qd } (env0 N.length ds)) : FnOk P w K mg base CX0 (k + 1) f fd ps (spD w K pp) := by
  refine Fn.ok S (fun vs H Q E h => ?_) (fun cdv A outer s H vs Q E hr h => ?_)
  · obtain ⟨de, O, ds, Qd, _, _, hl, hp, _⟩ := h
    rw [← hl.length]
    exact len _ _ hp
  · obtain ⟨de, O, ds, Qd, hO, hd, hl, hp, k⟩ := h
    refine ⟨_, pssR, ?_⟩
    have r := R_start (F := ⟨w, K, de⟩) (N := N) hO hd hl (by rw [← hl.length, len _ _ hp]; exact hps)
    refine (hbody cdv A outer s H E hr).run ⟨w, K, de⟩ _ _ _ _ H _ _ ⟨rfl, rfl⟩ r (hpp ds Qd hp) ⟨fun E' σ' H' q r' => ?_, fun d v H' q h => k d v H' q h.1 h.2.1 h.2.2, fun _ _ _ q _ => q.elim, fun _ _ _ q _ => q.elim⟩
    exact k _ .non H' q r'.kept (fun a e => (r'.dice a e).2.mono (fun _ z => z) (fun _ _ z _ => z) fun _ _ _ z => own_O0 z) (.a rfl)
end
section
variable {X : Cx} {e o : Expr} {es : List Expr} {te to : TDE} {ta : TDA} {pos p apos : Pos} {k : Nat} {f C : Addr} {fd : FuncData} {ps : List Str} {pp : PP} {x m : Str}
def tdCall (pp : PP) (ta : TDA) : TDE := fun E Q => ta E fun dfs => allOk dfs = true ∧ pp (dfs.map (·.1)) fun d => Q d .sh
theorem R.called {F : Fx} {B : Bas} {ps : List (D × V)} {E : DEnv} {σ : L2.St} {H H' : Hp} (r : R F B ps E σ H) (h1 : ∀ a o, H a = some o → F.de ≠ some a → H' a = some o) (h2 : ∀ a, F.de = some a → DiceOk F (own B E σ) H' a) : R F B ps E σ H' :=
  r.step h1 h2 fun a o e => by
    by_cases h : F.de = some a
    · obtain ⟨c, ns, a1, a2, a3, a4, e, _⟩ := h2 a h
      exact ⟨_, e⟩
    · exact ⟨o, h1 a o e h⟩
theorem spD.call {F : Fx} {B : Bas} {ps : List (D × V)} {E : DEnv} {σ : L2.St} {H : Hp} {ds : List D} {vs : List V} {Qd : D → Prop} {Q : VK} {Ex : XK} (hF : FOk X F) (r : R F B ps E σ H) (hl : IsL F (own B E σ) H ds vs) (hp : pp ds Qd)
    (k : ∀ d v H', Qd d → R F B ps E σ H' → Is F (own B E σ) H' d v → Q v H') : spD X.w X.K pp vs H Q Ex := by
  obtain ⟨w, K, de⟩ := F
  obtain ⟨e1, e2⟩ := hF
  have e1 : w = X.w := e1
  have e2 : K = X.K := e2
  subst e1 e2
  exact ⟨de, own B E σ, ds, Qd, fun a h => r.own_there h, fun a h => ⟨r.de_own h, (r.dice a h).2⟩, hl, hp, fun d v H' q h1 h2 h3 => k d v H' q (r.called h1 h2) h3⟩
theorem de_call (G : FnOk X.prog X.w X.K X.mg X.base CX0 k f fd ps (spD X.w X.K pp)) (hr : Room k X.A) (hg : Gl X x) (hm : X.mg x = some (.ref f)) (hk : PySem.W.keepIn X.K (.ref f) = true) (hb : Binds X.K fd ps []) (ha : DA X (e :: es) ta)
    (hdb : (x == ("__debug__" : Str)) = false := by decide) (he : starEach (e :: es) X.env = (false, eval e X.env) :: starEach es X.env := by rfl) (hpl : (backTo pos (starEach es X.env)).any (·.1) = false := by rfl) : DE X (.Call (.Name x p) (e :: es) [] pos) (tdCall pp ta) :=
  ⟨fun F B ps E σ H Qd Q hF r t kk => Run.of (pe_call G hr hg hm hk hb .nil pass0 paR hdb he hpl) (ha.run F B ps E σ H _ _ hF r t fun dfs vs H1 q r1 w => by
    rw [List.append_nil]
    exact spD.call hF r1 (w.is q.1) q.2 fun d v H' q' r' h => kk d .sh v H' q' ⟨r', h⟩)⟩
/-- o.f -/
def tdFld (C : Addr) (f : Str) (te : TDE) : TDE := fun E Q => te E fun d _ => match d with
  | .i C' fs => C' = C ∧ ∃ y, fs.lookup f = some y ∧ Q y .sh
  | _ => False
theorem lookup_is {F : Fx} {O : Addr → Prop} {H : Hp} {f : Str} {y : D} : ∀ {ds : List (Str × D)} {fs : List (Str × V)}, fs.map (·.1) = ds.map (·.1) → IsL F O H (ds.map (·.2)) (fs.map (·.2)) → ds.lookup f = some y → ∃ v, fs.lookup f = some v ∧ Is F O H y v
  | [], _, _, _, e => by cases e
  | (n, d) :: ds, [], h, _, _ => by cases h
  | (n, d) :: ds, (n', v) :: fs, h, l, e => by
    rw [List.map_cons, List.map_cons] at h
    injection h with h1 h2
    have h1 : n' = n := h1
    subst h1
    rw [List.map_cons, List.map_cons] at l
    cases l with
    | cons l1 l2 =>
      rw [List.lookup_cons] at e ⊢
      cases q : f == n' with
      | true => rw [q] at e; cases e; exact ⟨v, rfl, l1⟩
      | false => rw [q] at e; exact lookup_is h2 l2 e
theorem de_fld {f : Str} (he : DE X e te) (c : Cls X.K C) (n : NoAttr X.K C f) (hb : attributeBase e f X.env (eval e X.env) = eval e X.env) : DE X (.Attribute e f pos) (tdFld C f te) :=
  ⟨fun F B ps E σ H Qd Q hF r t k => Run.of (pe_fld peR hb) (he.run F B ps E σ H _ _ hF r t fun d fl v H1 q p => by
    obtain ⟨r1, w⟩ := p.val
    split at q
    · rename_i C' fs
      obtain ⟨rfl, y, el, q⟩ := q
      obtain ⟨a, dx, fv, rfl, h, e1, l⟩ := w.ins r1
      obtain ⟨z, e2, hz⟩ := lookup_is e1 l el
      exact ⟨a, _, dx, fv, z, rfl, h, c, n, e2, k y .sh z H1 q ⟨r1, hz⟩⟩
    · exact q.elim)⟩
theorem lookup_none {f : Str} : ∀ {ds : List (Str × D)} {fs : List (Str × V)}, fs.map (·.1) = ds.map (·.1) → ds.lookup f = none → fs.lookup f = none
  | [], [], _, _ => rfl
  | [], _ :: _, h, _ => by cases h
  | _ :: _, [], h, _ => by cases h
  | (n, d) :: ds, (n', v) :: fs, h, e => by
    rw [List.map_cons, List.map_cons] at h
    injection h with h1 h2
    have h1 : n' = n := h1
    subst h1
    rw [List.lookup_cons] at e ⊢
    cases q : f == n' with
    | true => rw [q] at e; cases e
    | false => rw [q] at e; exact lookup_none h2 e
/-- o.m(..) -/
def tdMeth (C : Addr) (m : Str) (pp : PP) (to : TDE) (ta : TDA) : TDE := fun E Q => to E fun d0 f0 => match d0 with
  | .i C' fs => C' = C ∧ fs.lookup m = none ∧ f0.ok = true ∧ ta E fun dfs => allOk dfs = true ∧ pp (.i C' fs :: dfs.map (·.1)) fun d => Q d .sh
  | _ => False
theorem de_meth {pl : Sem Bool} (ho : DE X o to) (c : Cls X.K C) (hm : Meth X.K C m f) (G : FnOk X.prog X.w X.K X.mg X.base CX0 k f fd ps (spD X.w X.K pp)) (hr : Room k X.A) (hb : Binds X.K fd ps []) (ha : DA X (e :: es) ta)
    (hst : starEach (e :: es) X.env = (false, eval e X.env) :: starEach es X.env := by rfl) (hpl : (backTo pos (starEach es X.env)).any (·.1) = false := by rfl)
    (ht : eval (.Call (.Attribute o m apos) (e :: es) [] pos) X.env = (do
      let ov ← eval o X.env
      standAt apos.atName
      let (f, first) ← holding [ov] (getMethod ov m pl)
      callWith pos f first (backTo pos (starEach (e :: es) X.env)) (backToKw pos (keywordEach [] X.env))) := by rfl) : DE X (.Call (.Attribute o m apos) (e :: es) [] pos) (tdMeth C m pp to ta) :=
  ⟨fun F B ps E σ H Qd Q hF r t kk => Run.of (pe_meth (pl := pl) peR c hm G hr hb .nil pass0 paR hst hpl ht) (ho.run F B ps E σ H _ _ hF r t fun d0 f0 v0 H1 q p => by
    split at q
    · rename_i C' fs
      obtain ⟨rfl, el, ok, q⟩ := q
      obtain ⟨r1, h0⟩ := p.sh ok
      have w0 : Val F B E σ H1 (.i C' fs) .sh v0 := h0
      obtain ⟨a, dx, fv, rfl, h, e1, l⟩ := w0.ins r1
      refine ⟨a, dx, fv, rfl, h, lookup_none e1 el, ha.run F B _ E σ H1 _ _ hF (r1.pin h0) q fun dfs vs H2 q2 r2 w => ?_⟩
      obtain ⟨r3, h3⟩ := r2.unpin
      rw [List.append_nil]
      exact spD.call hF r3 (.cons h3 (w.is q2.1)) q2.2 fun d v H' q' r' h => kk d .sh v H' q' ⟨r', h⟩
    · exact q.elim)⟩
/-- a new instance: what an __init__ promises that stores its arguments under the names -/
def spMk (w : World) (K : PySem.W.Frag) (C : Addr) (names : List Str) (pp : PP) : Sp := fun vs H Q _ => ∃ (x dx : Addr) (us : List V) (de : Option Addr) (O : Addr → Prop) (ds : List D) (Qd : D → Prop), vs = .ref x :: us ∧ us.length = names.length ∧ H x = some (.ins C dx []) ∧
  ¬ O x ∧ de ≠ some x ∧ (∀ a, O a → ∃ o, H a = some o) ∧ (∀ a, de = some a → O a ∧ DiceOk ⟨w, K, de⟩ O H a) ∧ IsL ⟨w, K, de⟩ (fun a => O a ∨ a = x) H ds us ∧ pp ds Qd ∧
  ∀ H' us', Qd (.a .non) → (∀ a o, H a = some o → a ≠ x → de ≠ some a → H' a = some o) → (∀ a, de = some a → DiceOk ⟨w, K, de⟩ O H' a) → IsL ⟨w, K, de⟩ O H' ds us' → us'.length = names.length → H' x = some (.ins C dx (names.zip us')) → Q .non H'
def tdMake (C : Addr) (names : List Str) (pp : PP) (ta : TDA) : TDE := fun E Q => ta E fun dfs => allOk dfs = true ∧ dfs.length = names.length ∧ pp (dfs.map (·.1)) fun _ => Q (.i C (names.zip (dfs.map (·.1)))) .sh
theorem zip_fst {α β : Type} : ∀ {xs : List α} {ys : List β}, xs.length = ys.length → (xs.zip ys).map (·.1) = xs
  | [], [], _ => rfl
  | [], _ :: _, h => by cases h
  | _ :: _, [], h => by cases h
  | x :: xs, y :: ys, h => by
    rw [List.zip_cons_cons, List.map_cons, zip_fst (xs := xs) (ys := ys) (by simpa using h)]
theorem zip_snd {α β : Type} : ∀ {xs : List α} {ys : List β}, xs.length = ys.length → (xs.zip ys).map (·.2) = ys
  | [], [], _ => rfl
  | [], _ :: _, h => by cases h
  | _ :: _, [], h => by cases h
  | x :: xs, y :: ys, h => by
    rw [List.zip_cons_cons, List.map_cons, zip_snd (xs := xs) (ys := ys) (by simpa using h)]
theorem de_make {names : List Str} (M : Mk X.K C f) (G : FnOk X.prog X.w X.K X.mg X.base CX0 k f fd ps (spMk X.w X.K C names pp)) (hr : Room (k + 1) X.A) (hg : Gl X x) (hm : X.mg x = some (.ref C)) (hb : Binds X.K fd ps []) (ha : DA X (e :: es) ta)
    (hdb : (x == ("__debug__" : Str)) = false := by decide) (he : starEach (e :: es) X.env = (false, eval e X.env) :: starEach es X.env := by rfl) (hpl : (backTo pos (starEach es X.env)).any (·.1) = false := by rfl) : DE X (.Call (.Name x p) (e :: es) [] pos) (tdMake C names pp ta) :=
  ⟨fun F B ps E σ H Qd Q hF r t kk => Run.of (pe_make M G hr hg hm hb .nil pass0 paR hdb he hpl) (ha.run F B ps E σ H _ _ hF r t fun dfs vs H1 q r1 w => by
    obtain ⟨w0, K0, de⟩ := F
    obtain ⟨e1, e2⟩ := hF
    have e1 : w0 = X.w := e1
    have e2 : K0 = X.K := e2
    subst e1 e2
    obtain ⟨ok, hlen, q⟩ := q
    have hl := w.is ok
    have hlv : (dfs.map (·.1)).length = vs.length := hl.length
    rw [List.length_map] at hlv
    intro x dx nx ndx nex
    have kp : ∀ a o, H1 a = some o → (upd (upd H1 dx (.own x)) x (.ins C dx [])) a = some o := fun a o e => by rw [upd_ne (ne_of_none e nx), upd_ne (ne_of_none e ndx)]; exact e
    have nO : ¬ own B E σ x := fun z => by
      obtain ⟨o, e⟩ := r1.own_there z
      rw [nx] at e; cases e
    have nd : de ≠ some x := fun z => nO (r1.de_own z)
    have r2 := r1.grow kp
    refine ⟨x, dx, vs, de, own B E σ, dfs.map (·.1), _, by rw [List.append_nil], by omega, upd_same, nO, nd, fun a h => r2.own_there h, fun a h => ⟨r2.de_own h, (r2.dice a h).2⟩, hl.mono (fun a o e _ => kp a o e) (fun a o e z => z.elim id fun z => by rw [z, nx] at e; cases e), q, fun H' us' q' h1 h2 hl' hlen' h3 => ⟨rfl, ?_⟩⟩
    have kp2 : ∀ a o, H1 a = some o → de ≠ some a → H' a = some o := fun a o e n => h1 a o (kp a o e) (ne_of_none e nx) n
    have r3 := r1.called kp2 h2
    refine kk _ .sh _ H' q' ⟨r3, .i h3 nO ?_ ?_⟩
    · rw [zip_fst (show names.length = us'.length by omega), zip_fst (show names.length = (dfs.map (·.1)).length by rw [List.length_map]; omega)]
    · rw [zip_snd (show names.length = us'.length by omega), zip_snd (show names.length = (dfs.map (·.1)).length by rw [List.length_map]; omega)]
      exact hl')⟩
end
end DL
set_option Elab.async false
set_option linter.all false
set_option maxRecDepth 100000
/-! DLDict: dicts over data (keys all numbers, or all tuples). -/
namespace DL
open PySem PySem.Spec PyProof.Rows L2
/-! ### tables -/
section
variable {α : Type}
def aget (kvs : List (NestedKey × α)) (k : NestedKey) : Option α := (kvs.find? fun kv => decide (kv.1 = k)).map (·.2)
def aput (kvs : List (NestedKey × α)) (k : NestedKey) (v : α) : List (NestedKey × α) := if (aget kvs k).isSome = true then kvs.map (fun kv => if kv.1 = k then (kv.1, v) else kv) else kvs ++ [(k, v)]
def adrop (kvs : List (NestedKey × α)) (k : NestedKey) : List (NestedKey × α) := kvs.filter fun kv => decide (kv.1 ≠ k)
theorem aget_nil {k : NestedKey} : aget ([] : List (NestedKey × α)) k = none := rfl
theorem aget_cons {p : NestedKey × α} {r : List (NestedKey × α)} {k : NestedKey} : aget (p :: r) k = if p.1 = k then some p.2 else aget r k := by
  unfold aget
  rw [List.find?_cons]
  by_cases e : p.1 = k
  · simp [e]
  · simp [e]
end
def rput (rows : List Row) (k : NestedKey) (kv v : V) : List Row := if (aget rows k).isSome = true then rows.map (fun r => if r.1 = k then (r.1, r.2.1, v) else r) else rows ++ [(k, kv, v)]
/-! rows and the library's entries -/
abbrev PInt : List Row → List (Int × Value) → Prop := Paired fun (r : Row) (q : Int × Value) => r.1 = .num q.1 ∧ r.2.1 = .int q.1 ∧ RelV r.2.2 q.2
abbrev PTup : List Row → List (NestedKey × Addr × Value) → Prop := Paired fun (r : Row) (q : NestedKey × Addr × Value) => r.1 = q.1 ∧ r.2.1 = .ref q.2.1 ∧ RelV r.2.2 q.2.2
theorem num_inj {i j : Int} : (NestedKey.num i = NestedKey.num j) ↔ i = j := ⟨fun e => by injection e, fun e => by rw [e]⟩
theorem PInt.get {rows : List Row} {vs : List (Int × Value)} (h : PInt rows vs) (i : Int) : RelO ((aget rows (.num i)).map (·.2)) (valueAt vs i) := by
  unfold PInt at h
  induction h with
  | nil => exact True.intro
  | @cons p q ps qs h t ih =>
    obtain ⟨h1, h2, h3⟩ := h
    rw [aget_cons]
    by_cases e : q.1 = i
    · have b : valueAt (q :: qs) i = some q.2 := by simp [valueAt, List.find?_cons, e]
      rw [if_pos (by rw [h1, e]), b]
      exact h3
    · have b : valueAt (q :: qs) i = valueAt qs i := by simp [valueAt, List.find?_cons, e]
      rw [if_neg (by rw [h1, num_inj]; exact e), b]
      exact ih
theorem any_value {K : Type} [DecidableEq K] (vs : List (K × Value)) (k : K) : (vs.any fun kv => decide (kv.1 = k)) = (valueAt vs k).isSome := by
  induction vs with
  | nil => rfl
  | cons p r ih =>
    rw [List.any_cons, ih]
    by_cases e : p.1 = k
    · simp [valueAt, List.find?_cons, e]
    · simp [valueAt, List.find?_cons, e]
theorem PInt.put {rows : List Row} {vs : List (Int × Value)} (h : PInt rows vs) (i : Int) {v : V} {u : Value} (rv : RelV v u) : PInt (rput rows (.num i) (.int i) v) (stored vs i u) := by
  have e : (aget rows (.num i)).isSome = (vs.any fun kv => decide (kv.1 = i)) := by
    rw [any_value, ← (h.get i).isSome_eq, Option.isSome_map]
  unfold rput stored
  rw [e]
  by_cases q : (vs.any fun kv => decide (kv.1 = i)) = true
  · rw [if_pos q, if_pos q]
    unfold PInt at h ⊢
    clear e q
    induction h with
    | nil => exact .nil
    | @cons p q ps qs h t ih =>
      rw [List.map_cons, List.map_cons]
      refine .cons ?_ ih
      obtain ⟨h1, h2, h3⟩ := h
      by_cases e : q.1 = i
      · rw [if_pos (by rw [h1, e]), if_pos e]; exact ⟨h1, h2, rv⟩
      · rw [if_neg (by rw [h1, num_inj]; exact e), if_neg e]; exact ⟨h1, h2, h3⟩
  · rw [if_neg q, if_neg q]
    exact Paired.snoc h ⟨rfl, rfl, rv⟩
theorem PInt.drop {rows : List Row} {vs : List (Int × Value)} (h : PInt rows vs) (i : Int) : PInt (adrop rows (.num i)) (without vs i) := by
  unfold PInt at h ⊢
  unfold adrop without
  induction h with
  | nil => exact .nil
  | @cons p q ps qs h t ih =>
    obtain ⟨h1, h2, h3⟩ := h
    rw [List.filter_cons, List.filter_cons]
    by_cases e : q.1 = i
    · rw [if_neg (by simp [h1, e]), if_neg (by simp [e])]; exact ih
    · rw [if_pos (by simp [h1, num_inj, e]), if_pos (by simp [e])]; exact .cons ⟨h1, h2, h3⟩ ih
theorem PTup.get {rows : List Row} {xs : List (NestedKey × Addr × Value)} (h : PTup rows xs) (k : NestedKey) : RelO ((aget rows k).map (·.2)) ((atKey xs k).map (·.2)) := by
  unfold PTup at h
  induction h with
  | nil => exact True.intro
  | @cons p q ps qs h t ih =>
    obtain ⟨h1, h2, h3⟩ := h
    rw [aget_cons]
    by_cases e : q.1 = k
    · have b : atKey (q :: qs) k = some q.2 := by simp [atKey, List.find?_cons, e]
      rw [if_pos (by rw [h1, e]), b]
      exact h3
    · have b : atKey (q :: qs) k = atKey qs k := by simp [atKey, List.find?_cons, e]
      rw [if_neg (by rw [h1]; exact e), b]
      exact ih
theorem PTup.put {rows : List Row} {xs : List (NestedKey × Addr × Value)} (h : PTup rows xs) (k : NestedKey) {a : Addr} {v : V} {u : Value} (rv : RelV v u) : PTup (rput rows k (.ref a) v) (storedH xs k a u) := by
  have e : (aget rows k).isSome = (atKey xs k).isSome := by
    have := (h.get k).isSome_eq
    rw [Option.isSome_map, Option.isSome_map] at this
    exact this
  unfold rput storedH
  rw [e]
  by_cases q : (atKey xs k).isSome = true
  · rw [if_pos q, if_pos q]
    unfold PTup at h ⊢
    clear e q
    induction h with
    | nil => exact .nil
    | @cons p q ps qs h t ih =>
      rw [List.map_cons, List.map_cons]
      refine .cons ?_ ih
      obtain ⟨h1, h2, h3⟩ := h
      unfold putAt
      by_cases e : q.1 = k
      · rw [if_pos (by rw [h1, e]), if_pos e]; exact ⟨h1, h2, rv⟩
      · rw [if_neg (by rw [h1]; exact e), if_neg e]; exact ⟨h1, h2, h3⟩
  · rw [if_neg q, if_neg q]
    exact Paired.snoc h ⟨rfl, rfl, rv⟩
theorem PTup.drop {rows : List Row} {xs : List (NestedKey × Addr × Value)} (h : PTup rows xs) (k : NestedKey) : PTup (adrop rows k) (withoutH xs k) := by
  unfold PTup at h ⊢
  unfold adrop withoutH
  induction h with
  | nil => exact .nil
  | @cons p q ps qs h t ih =>
    obtain ⟨h1, h2, h3⟩ := h
    rw [List.filter_cons, List.filter_cons]
    by_cases e : q.1 = k
    · rw [if_neg (by simp [h1, e]), if_neg (by simp [e])]; exact ih
    · rw [if_pos (by simp [h1, e]), if_pos (by simp [e])]; exact .cons ⟨h1, h2, h3⟩ ih
/-! rows and data -/
abbrev PD (F : Fx) (O : Addr → Prop) (H : Hp) : List (NestedKey × D) → List Row → Prop := Paired fun (a : NestedKey × D) (r : Row) => a.1 = r.1 ∧ Is F O H (ofKey a.1) r.2.1 ∧ Is F O H a.2 r.2.2
section
variable {F : Fx} {O O' : Addr → Prop} {H H' : Hp}
theorem PD.of : ∀ {kvs : List (NestedKey × D)} {rows : List Row}, kvs.map (·.1) = rows.map (·.1) → IsL F O H (rows.map fun r => ofKey r.1) (rows.map (·.2.1)) → IsL F O H (kvs.map (·.2)) (rows.map (·.2.2)) → PD F O H kvs rows
  | [], [], _, _, _ => .nil
  | [], _ :: _, h, _, _ => by cases h
  | _ :: _, [], h, _, _ => by cases h
  | a :: kvs, r :: rows, h, h1, h2 => by
    rw [List.map_cons, List.map_cons] at h h1 h2
    injection h with ha hb
    cases h1 with
    | cons x1 y1 =>
      cases h2 with
      | cons x2 y2 => exact .cons ⟨ha, by rw [ha]; exact x1, x2⟩ (PD.of hb y1 y2)
theorem PD.to {kvs : List (NestedKey × D)} {rows : List Row} (h : PD F O H kvs rows) : kvs.map (·.1) = rows.map (·.1) ∧ IsL F O H (rows.map fun r => ofKey r.1) (rows.map (·.2.1)) ∧ IsL F O H (kvs.map (·.2)) (rows.map (·.2.2)) := by
  unfold PD at h
  induction h with
  | nil => exact ⟨rfl, .nil, .nil⟩
  | @cons p q ps qs h t ih =>
    obtain ⟨h1, h2, h3⟩ := h
    obtain ⟨i1, i2, i3⟩ := ih
    refine ⟨by rw [List.map_cons, List.map_cons, h1, i1], ?_, ?_⟩
    · rw [List.map_cons, List.map_cons]; exact .cons (by rw [← h1]; exact h2) i2
    · rw [List.map_cons, List.map_cons]; exact .cons h3 i3
theorem PD.mono {kvs : List (NestedKey × D)} {rows : List Row} (hk : ∀ a o, H a = some o → ¬ O a → H' a = some o) (hO : ∀ a o, H a = some o → O' a → O a) (h : PD F O H kvs rows) : PD F O' H' kvs rows :=
  Paired.mapP h fun _ _ z => ⟨z.1, z.2.1.mono hk hO, z.2.2.mono hk hO⟩
theorem PD.get {kvs : List (NestedKey × D)} {rows : List Row} (h : PD F O H kvs rows) (k : NestedKey) : match aget kvs k with
    | some d => ∃ q, aget rows k = some q ∧ Is F O H d q.2
    | none => aget rows k = none := by
  unfold PD at h
  induction h with
  | nil => rfl
  | @cons p q ps qs h t ih =>
    obtain ⟨h1, h2, h3⟩ := h
    rw [aget_cons, aget_cons, ← h1]
    by_cases e : p.1 = k
    · rw [if_pos e, if_pos e]; exact ⟨_, rfl, h3⟩
    · rw [if_neg e, if_neg e]; exact ih
theorem PD.some {kvs : List (NestedKey × D)} {rows : List Row} (h : PD F O H kvs rows) {k : NestedKey} {d : D} (e : aget kvs k = some d) : ∃ q, aget rows k = some q ∧ Is F O H d q.2 := by
  have := h.get k
  rw [e] at this
  exact this
theorem PD.none {kvs : List (NestedKey × D)} {rows : List Row} (h : PD F O H kvs rows) {k : NestedKey} (e : aget kvs k = .none) : aget rows k = .none := by
  have := h.get k
  rw [e] at this
  exact this
theorem PD.isSome {kvs : List (NestedKey × D)} {rows : List Row} (h : PD F O H kvs rows) (k : NestedKey) : (aget rows k).isSome = (aget kvs k).isSome := by
  cases e : aget kvs k with
  | none => rw [h.none e]; rfl
  | some d => obtain ⟨q, e2, _⟩ := h.some e; rw [e2]; rfl
theorem PD.put {kvs : List (NestedKey × D)} {rows : List Row} (h : PD F O H kvs rows) {k : NestedKey} {d : D} {kv v : V} (hk : Is F O H (ofKey k) kv) (hv : Is F O H d v) : PD F O H (aput kvs k d) (rput rows k kv v) := by
  unfold aput rput
  rw [h.isSome k]
  by_cases q : (aget kvs k).isSome = true
  · rw [if_pos q, if_pos q]
    unfold PD at h ⊢
    clear q
    induction h with
    | nil => exact .nil
    | @cons p q ps qs h t ih =>
      rw [List.map_cons, List.map_cons]
      refine .cons ?_ ih
      obtain ⟨h1, h2, h3⟩ := h
      by_cases e : p.1 = k
      · rw [if_pos e, if_pos (by rw [← h1]; exact e)]; exact ⟨h1, h2, hv⟩
      · rw [if_neg e, if_neg (by rw [← h1]; exact e)]; exact ⟨h1, h2, h3⟩
  · rw [if_neg q, if_neg q]
    exact Paired.snoc h ⟨rfl, hk, hv⟩
theorem PD.drop {kvs : List (NestedKey × D)} {rows : List Row} (h : PD F O H kvs rows) (k : NestedKey) : PD F O H (adrop kvs k) (adrop rows k) := by
  unfold PD at h ⊢
  unfold adrop
  induction h with
  | nil => exact .nil
  | @cons p q ps qs h t ih =>
    obtain ⟨h1, h2, h3⟩ := h
    rw [List.filter_cons, List.filter_cons]
    by_cases e : p.1 = k
    · rw [if_neg (by simp [e]), if_neg (by simp [← h1, e])]; exact ih
    · rw [if_pos (by simp [e]), if_pos (by simp [← h1, e])]; exact .cons ⟨h1, h2, h3⟩ ih
theorem PD.length {kvs : List (NestedKey × D)} {rows : List Row} (h : PD F O H kvs rows) : kvs.length = rows.length := Paired.length h
end
/-- the dict at p: its object, its rows, its data -/
structure DAt (F : Fx) (O : Addr → Prop) (H : Hp) (p : Addr) (o : Obj) (rows : List Row) (kvs : List (NestedKey × D)) : Prop where
  at_ : H p = some (.ext (Lit p o))
  sys : (p == sysModules) = false
  rel : DRel F.w o rows
  kind : KKind (kvs.map (·.1))
  pd : PD F O H kvs rows
section
variable {F : Fx} {O O' : Addr → Prop} {H H' : Hp} {p : Addr} {o : Obj} {rows : List Row} {kvs : List (NestedKey × D)}
theorem DAt.kindR (h : DAt F O H p o rows kvs) : KKind (rows.map (·.1)) := by rw [← h.pd.to.1]; exact h.kind
theorem DAt.root (h : DAt F O H p o rows kvs) : Root F O H (.d kvs) p := ⟨o, rows, h.at_, h.sys, h.rel, h.kindR, h.pd.to⟩
theorem Val.dat {B : Bas} {ps : List (D × V)} {E : DEnv} {σ : L2.St} {f : Fl} {v : V} (r : R F B ps E σ H) (h : Val F B E σ H (.d kvs) f v) : ∃ a o rows, v = .ref a ∧ DAt F (own B E σ) H a o rows kvs := by
  obtain ⟨a, o, rows, e, h1, h2, h3, h4, h5, h6, h7⟩ := h.dic r
  exact ⟨a, o, rows, e, h1, h2, h3, by rw [h5]; exact h4, PD.of h5 h6 h7⟩
theorem Root.dat {p : Addr} (h : Root F O H (.d kvs) p) : ∃ o rows, DAt F O H p o rows kvs := by
  obtain ⟨o, rows, h1, h2, h3, h4, h5, h6, h7⟩ := h
  exact ⟨o, rows, h1, h2, h3, by rw [h5]; exact h4, PD.of h5 h6 h7⟩
end
/-! ### a key in the heap -/
section
variable {X : Cx} {pins : List (Addr × Obj)} {σ : L2.St} {H : Hp} {s : Shared} {F : Fx} {O : Addr → Prop}
mutual
theorem is_nested (I : Inv X pins σ H s) (hF : F.K = X.K) : ∀ (k : NestedKey) (v : V) (u : Value), Is F O H (ofKey k) v → RelV v u → NestedIs s.heap k u
  | .none, v, u, h, r => by
    have h : Is F O H (.a .non) v := h
    cases h
    cases r
    exact .none
  | .num i, v, u, h, r => by
    have h : Is F O H (.a (.int i)) v := h
    cases h
    obtain ⟨t, rfl⟩ := r
    exact .int i t
  | .text x, v, u, h, r => by
    have h : Is F O H (.a (.str x)) v := h
    cases h
    obtain ⟨t, rfl⟩ := r
    exact .text x t
  | .tup ks, v, u, h, r => by
    have h : Is F O H (.t (ofKeys ks)) v := h
    cases h with
    | t h1 _ h2 =>
      cases r
      obtain ⟨_, its, rv, ob, e1, e2, n, e3⟩ := I.hok _ _ h1
      exact .tup e1 e2 e3 (by simpa using is_nestedL I hF ks _ its h2 rv)
    | tk h1 h2 =>
      cases r
      obtain ⟨ob, its, n, e1, e2, e3, _, rv⟩ := h1
      rw [hF] at e1
      exact .tup (I.kIn _ _ e1) e2 e3 (is_nestedL I hF ks _ its.toList h2 rv)
theorem is_nestedL (I : Inv X pins σ H s) (hF : F.K = X.K) : ∀ (ks : List NestedKey) (vs : List V) (us : List Value), IsL F O H (ofKeys ks) vs → Vals vs us → NestedAll s.heap ks us
  | [], vs, us, h, r => by
    have h : IsL F O H [] vs := h
    cases h
    cases r
    exact .nil
  | k :: ks, vs, us, h, r => by
    have h : IsL F O H (ofKey k :: ofKeys ks) vs := h
    cases h with
    | cons h1 h2 =>
      cases r with
      | cons r1 r2 => exact .cons (is_nested I hF k _ _ h1 r1) (is_nestedL I hF ks _ _ h2 r2)
end
theorem inv_lit (I : Inv X pins σ H s) {p : Addr} {o : Obj} (h : H p = some (.ext (Lit p o))) : s.heap.get? p = some o := (I.hok _ _ h).1
/-- the dict by the library's words: its keys numbers -/
theorem DAt.int {p : Addr} {o : Obj} {rows : List Row} {kvs : List (NestedKey × D)} (I : Inv X pins σ H s) (hF : FOk X F) (h : DAt F O H p o rows kvs) (hk : ∀ k ∈ kvs.map (·.1), ∃ i, k = .num i) : ∃ vs, PInt rows vs ∧ s.heap.DictOf (intKind X.prog X.w) p vs := by
  obtain ⟨es, ep, e1, e2⟩ := h.rel.ents
  have hk' : ∀ k ∈ rows.map (·.1), ∃ i, k = .num i := by rw [← h.pd.to.1]; exact hk
  have hg := inv_lit I h.at_
  have go : ∀ {rows : List Row} {es : List DictEntry}, (∀ k ∈ rows.map (·.1), ∃ i, k = .num i) → IsL F O H (rows.map fun r => ofKey r.1) (rows.map (·.2.1)) → Paired (fun (r : Row) (e : DictEntry) => e.hash = r.1.hash F.w ∧ RelV r.2.1 e.key ∧ RelV r.2.2 e.val) rows es →
      ∃ vs, PInt rows vs ∧ Pairs (intKind X.prog X.w) es vs ∧ (∀ e ∈ es, ∃ k, (intKind X.prog X.w).is k e.key = true ∧ e.hash = (intKind X.prog X.w).hash k) ∧ vs.map (fun q => NestedKey.num q.1) = rows.map (·.1) := by
    intro rows es hk hi h
    induction h with
    | nil => exact ⟨[], .nil, .nil, fun e he => absurd he (by simp), rfl⟩
    | @cons r e rs es h t ih =>
      obtain ⟨h1, h2, h3⟩ := h
      rw [List.map_cons, List.map_cons] at hi
      cases hi with
      | cons hi1 hi2 =>
        obtain ⟨vs, p1, p2, p3, p4⟩ := ih (fun k hk' => hk k (by rw [List.map_cons]; exact List.mem_cons_of_mem _ hk')) hi2
        obtain ⟨i, ei⟩ := hk r.1 (by simp)
        rw [ei] at hi1
        have hi1 : Is F O H (.a (.int i)) r.2.1 := hi1
        generalize hr21 : r.2.1 = z at *
        cases hi1
        obtain ⟨t', et⟩ := h2
        have isk : (intKind X.prog X.w).is i e.key = true := by rw [et]; show Value.isInt i (.int i t') = true; simp [Value.isInt]
        refine ⟨(i, e.val) :: vs, .cons ⟨ei, hr21, h3⟩ p1, .cons isk rfl p2, fun e' he => ?_, by rw [List.map_cons, List.map_cons, p4, ei]⟩
        rcases List.mem_cons.mp he with q | q
        · subst q
          exact ⟨i, isk, by rw [h1, ei]; rfl⟩
        · exact p3 e' q
  obtain ⟨vs, p1, p2, p3, p4⟩ := go hk' h.pd.to.2.1 e2
  refine ⟨vs, p1, o, es, ep, hg, h.rel.ex, e1, fun e he => p3 e (by simpa using he), p2, ?_⟩
  have nd := h.rel.nd
  rw [← p4] at nd
  have : (vs.map fun q => NestedKey.num q.1) = (vs.map (·.1)).map NestedKey.num := by rw [List.map_map]; rfl
  rw [this] at nd
  exact (List.pairwise_map.mp nd).imp fun h e => h (congrArg NestedKey.num e)
/-- .. its keys tuples -/
theorem DAt.tup {p : Addr} {o : Obj} {rows : List Row} {kvs : List (NestedKey × D)} (I : Inv X pins σ H s) (hF : FOk X F) (h : DAt F O H p o rows kvs) (hk : ∀ k ∈ kvs.map (·.1), (∃ l, k = .tup l) ∧ k.depth ≤ 8) : ∃ xs, PTup rows xs ∧ s.heap.DictOfH (nestedKind X.prog X.w) p xs := by
  obtain ⟨es, ep, e1, e2⟩ := h.rel.ents
  have hk' : ∀ k ∈ rows.map (·.1), (∃ l, k = .tup l) ∧ k.depth ≤ 8 := by rw [← h.pd.to.1]; exact hk
  have hg := inv_lit I h.at_
  have go : ∀ {rows : List Row} {es : List DictEntry}, (∀ k ∈ rows.map (·.1), (∃ l, k = .tup l) ∧ k.depth ≤ 8) → IsL F O H (rows.map fun r => ofKey r.1) (rows.map (·.2.1)) → Paired (fun (r : Row) (e : DictEntry) => e.hash = r.1.hash F.w ∧ RelV r.2.1 e.key ∧ RelV r.2.2 e.val) rows es →
      ∃ xs : List (NestedKey × Addr × Value), PTup rows xs ∧ es = xs.map (entryOfKey (nestedKind X.prog X.w)) ∧ (∀ x ∈ xs, (nestedKind X.prog X.w).is s.heap x.1 x.2.1) ∧ xs.map (·.1) = rows.map (·.1) := by
    intro rows es hk hi h
    induction h with
    | nil => exact ⟨[], .nil, rfl, fun e he => absurd he (by simp), rfl⟩
    | @cons r e rs es h t ih =>
      obtain ⟨h1, h2, h3⟩ := h
      rw [List.map_cons, List.map_cons] at hi
      cases hi with
      | cons hi1 hi2 =>
        obtain ⟨xs, p1, p2, p3, p4⟩ := ih (fun k hk' => hk k (by rw [List.map_cons]; exact List.mem_cons_of_mem _ hk')) hi2
        obtain ⟨⟨l, el⟩, hdep⟩ := hk r.1 (by simp)
        have nn := is_nested I hF.K _ _ _ hi1 h2
        have ⟨a, ea⟩ : ∃ a, r.2.1 = .ref a := by
          have hi1' := hi1
          rw [el] at hi1'
          have hi1' : Is F O H (.t (ofKeys l)) r.2.1 := hi1'
          generalize r.2.1 = z at *
          cases hi1' with
          | t _ _ _ => exact ⟨_, rfl⟩
          | tk _ _ => exact ⟨_, rfl⟩
        have eu : e.key = .ref a := by rw [ea] at h2; exact h2
        rw [eu] at nn
        refine ⟨(r.1, a, e.val) :: xs, .cons ⟨rfl, ea, h3⟩ p1, ?_, fun x hx => ?_, by rw [List.map_cons, List.map_cons, p4]⟩
        · rw [List.map_cons, ← p2]
          congr 1
          obtain ⟨eh, ek, ev⟩ := e
          have h1 : eh = r.1.hash F.w := h1
          have eu : ek = .ref a := eu
          subst h1 eu
          show (⟨_, _, _⟩ : DictEntry) = ⟨r.1.hash X.w, .ref a, ev⟩
          rw [hF.w]
        · rcases List.mem_cons.mp hx with q | q
          · subst q; exact ⟨nn, hdep⟩
          · exact p3 x q
  obtain ⟨xs, p1, p2, p3, p4⟩ := go hk' h.pd.to.2.1 e2
  exact ⟨xs, p1, o, es, ep, hg, h.rel.ex, e1, p2, p3, by rw [p4]; exact h.rel.nd⟩
/-- back: an object by the library's words -/
theorem rel_int {h : Heap} {p : Addr} {rows : List Row} {vs : List (Int × Value)} (hw : F.w = X.w) (hr : PInt rows vs) (hz : rows.length ≤ sizeLine) (hd : h.DictOf (intKind X.prog X.w) p vs) : ∃ o, h.get? p = some o ∧ DRel F.w o rows := by
  obtain ⟨o, es, ep, h1, h2, h3, h4, h5, h6⟩ := hd
  have h4' : ∀ e ∈ es.toList, ∃ k, (intKind X.prog X.w).is k e.key = true ∧ e.hash = (intKind X.prog X.w).hash k := fun e he => h4 e (by simpa using he)
  have go : ∀ {rows : List Row} {es : List DictEntry} {vs : List (Int × Value)}, PInt rows vs → Pairs (intKind X.prog X.w) es vs → (∀ e ∈ es, ∃ k, (intKind X.prog X.w).is k e.key = true ∧ e.hash = (intKind X.prog X.w).hash k) →
      Paired (fun (r : Row) (e : DictEntry) => e.hash = r.1.hash F.w ∧ RelV r.2.1 e.key ∧ RelV r.2.2 e.val) rows es ∧ rows.map (·.1) = vs.map (fun q => NestedKey.num q.1) := by
    intro rows es vs hr hp
    induction hp generalizing rows with
    | nil => intro _; cases hr; exact ⟨.nil, rfl⟩
    | @cons e kv es kvs a1 a2 a3 ih =>
      intro hh
      cases hr with
      | @cons r q rs qs b1 b2 =>
        obtain ⟨i1, i2⟩ := ih b2 (fun e he => hh e (List.mem_cons_of_mem _ he))
        obtain ⟨c1, c2, c3⟩ := b1
        obtain ⟨k, hk1, hk2⟩ := hh e List.mem_cons_self
        have ek : k = kv.1 := (intKind X.prog X.w).inj _ _ _ hk1 a1
        obtain ⟨t, et⟩ := Value.isInt_shape a1
        refine ⟨.cons ⟨?_, ?_, ?_⟩ i1, by rw [List.map_cons, List.map_cons, i2, c1]⟩
        · rw [hk2, ek, c1]; rfl
        · rw [c2, et]; exact ⟨t, rfl⟩
        · rw [a2]; exact c3
  obtain ⟨g1, g2⟩ := go hr h5 h4'
  refine ⟨o, h1, h2, ⟨es, ep, h3, g1⟩, ?_, hz⟩
  rw [g2]
  have : (vs.map fun q => NestedKey.num q.1) = (vs.map (·.1)).map NestedKey.num := by rw [List.map_map]; rfl
  rw [this]
  exact List.Pairwise.map _ (fun a b hab e => hab (num_inj.mp e)) h6
theorem rel_tup {h : Heap} {p : Addr} {rows : List Row} {xs : List (NestedKey × Addr × Value)} (hw : F.w = X.w) (hr : PTup rows xs) (hz : rows.length ≤ sizeLine) (hd : h.DictOfH (nestedKind X.prog X.w) p xs) : ∃ o, h.get? p = some o ∧ DRel F.w o rows := by
  obtain ⟨o, es, ep, h1, h2, h3, h4, h5, h6⟩ := hd
  have go : ∀ {rows : List Row} {xs : List (NestedKey × Addr × Value)}, PTup rows xs →
      Paired (fun (r : Row) (e : DictEntry) => e.hash = r.1.hash F.w ∧ RelV r.2.1 e.key ∧ RelV r.2.2 e.val) rows (xs.map (entryOfKey (nestedKind X.prog X.w))) ∧ rows.map (·.1) = xs.map (·.1) := by
    intro rows xs hr
    induction hr with
    | nil => exact ⟨.nil, rfl⟩
    | @cons r q rs qs b1 b2 ih =>
      obtain ⟨i1, i2⟩ := ih
      obtain ⟨c1, c2, c3⟩ := b1
      refine ⟨.cons ⟨?_, ?_, c3⟩ i1, by rw [List.map_cons, List.map_cons, i2, c1]⟩
      · show q.1.hash X.w = r.1.hash F.w
        rw [c1, hw]
      · show RelV r.2.1 (.ref q.2.1)
        rw [c2]; exact rfl
  obtain ⟨g1, g2⟩ := go hr
  exact ⟨o, h1, h2, ⟨es, ep, h3, by rw [h4]; exact g1⟩, by rw [g2]; exact h6, hz⟩
end
end DL
set_option Elab.async false
set_option linter.all false
set_option maxRecDepth 100000
/-! DLDict2: what is done with dicts, over data. -/
namespace DL
open PySem PySem.Spec PyProof.Rows L2
mutual
theorem keyOf_eq : ∀ (d : D) (k : NestedKey), keyOf d = some k → d = ofKey k
  | .a v, k, h => by
    cases v <;> first | (cases h; rfl) | cases h
  | .t xs, k, h => by
    unfold keyOf at h
    cases e : keysOf xs with
    | none => rw [e] at h; cases h
    | some ks =>
      rw [e] at h
      cases h
      show D.t xs = .t (ofKeys ks)
      rw [keysOf_eq xs ks e]
  | .l _, k, h => by cases h
  | .d _, k, h => by cases h
  | .i _ _, k, h => by cases h
  | .die, k, h => by cases h
  | .raw _, k, h => by cases h
  | .at _, k, h => by cases h
theorem keysOf_eq : ∀ (ds : List D) (ks : List NestedKey), keysOf ds = some ks → ds = ofKeys ks
  | [], ks, h => by cases h; rfl
  | d :: ds, ks, h => by
    unfold keysOf at h
    cases e1 : keyOf d with
    | none => rw [e1] at h; cases h
    | some k =>
      cases e2 : keysOf ds with
      | none => rw [e1, e2] at h; cases h
      | some ks' =>
        rw [e1, e2] at h
        cases h
        show d :: ds = ofKey k :: ofKeys ks'
        rw [keyOf_eq d k e1, keysOf_eq ds ks' e2]
end
theorem RelO.some_ofD {v : V} {o : Option Value} (r : RelO (some v) o) : ∃ u, o = some u ∧ RelV v u := by
  cases o with
  | none => exact (show False from r).elim
  | some u => exact ⟨u, rfl, r⟩
theorem RelO.none_ofD {o : Option Value} (r : RelO none o) : o = none := by
  cases o with
  | none => rfl
  | some u => exact (show False from r).elim
section
variable {X : Cx} {pins : List (Addr × Obj)} {σ : L2.St} {H : Hp} {s : Shared} {F : Fx} {O : Addr → Prop} {p : Addr} {o : Obj} {rows : List Row} {kvs : List (NestedKey × D)} {k : NestedKey} {y v : V} {u r : Value} {A : Around} {E : Value → Shared → Prop}
theorem DAt.typeIs (I : Inv X pins σ H s) (h : DAt F O H p o rows kvs) : s.TypeIs (.ref p) "dict" := ⟨o, inv_lit I h.at_, h.rel.ex.1⟩
theorem DAt.noDict (I : Inv X pins σ H s) (h : DAt F O H p o rows kvs) : ∀ b, Value.ref p = .ref b → ∃ ob, s.heap.get? b = some ob ∧ ob.dict = none := fun b q => by
  cases q
  exact ⟨o, inv_lit I h.at_, h.rel.ex.2.1⟩
theorem kk_num {i : Int} {ks : List NestedKey} (h : KKind (.num i :: ks)) : ∀ k ∈ ks, ∃ i, k = .num i := by
  rcases h with h | h
  · exact fun k hk => h k (List.mem_cons_of_mem _ hk)
  · obtain ⟨⟨l, e⟩, _⟩ := h (.num i) List.mem_cons_self
    cases e
theorem kk_tup {l : List NestedKey} {ks : List NestedKey} (h : KKind (.tup l :: ks)) : (NestedKey.tup l).depth ≤ 8 ∧ ∀ k ∈ ks, (∃ l, k = .tup l) ∧ k.depth ≤ 8 := by
  rcases h with h | h
  · obtain ⟨i, e⟩ := h (.tup l) List.mem_cons_self
    cases e
  · exact ⟨(h (.tup l) List.mem_cons_self).2, fun k hk => h k (List.mem_cons_of_mem _ hk)⟩
/-- the two kinds of a key -/
theorem kk_cases {ks : List NestedKey} (h : KKind (k :: ks)) : (∃ i, k = .num i) ∨ ∃ l, k = .tup l := by
  rcases h with h | h
  · exact .inl (h k List.mem_cons_self)
  · exact .inr (h k List.mem_cons_self).1
theorem is_num {i : Int} (h : Is F O H (ofKey (.num i)) y) : y = .int i := by
  have h : Is F O H (.a (.int i)) y := h
  cases h
  rfl
theorem is_tupA {l : List NestedKey} (h : Is F O H (ofKey (.tup l)) y) : ∃ a, y = .ref a := by
  have h : Is F O H (.t (ofKeys l)) y := h
  cases h with
  | t _ _ _ => exact ⟨_, rfl⟩
  | tk _ _ => exact ⟨_, rfl⟩
theorem int_is {i : Int} {t : Tok} : (intKind X.prog X.w).is i (.int i t) = true := by show Value.isInt i (.int i t) = true; simp [Value.isInt]
theorem aget_map2 {q : V × V} (e : aget rows k = some q) : (aget rows k).map (·.2) = some q.2 := by rw [e]; rfl
/-- d[k] -/
theorem dd_get (hu : A.units + 9 < cLine) (I : Inv X pins σ H s) (hF : FOk X F) (h : DAt F O H p o rows kvs) (hk : Is F O H (ofKey k) y) (kk : KKind (k :: kvs.map (·.1))) (ry : RelV y u) {d : D} (e : aget kvs k = some d) {Q : Value → Shared → Prop}
    (K : ∀ v w' s', Inv X pins σ H s' → Is F O H d v → RelV v w' → Q w' s') : wpAny (model X.prog X.w) A (getItem (.ref p) u) Q E s := by
  obtain ⟨q, eq, hq⟩ := h.pd.some e
  rcases kk_cases kk with ⟨i, rfl⟩ | ⟨l, rfl⟩
  · obtain ⟨vs, pv, hd⟩ := h.int I hF (kk_num kk)
    have := pv.get i
    rw [aget_map2 eq] at this
    obtain ⟨w', ew, rw'⟩ := RelO.some_ofD this
    rw [is_num hk] at ry
    obtain ⟨t, rfl⟩ := ry
    exact wpAny_getItem_of int_is hd.mapOf ew (K q.2 w' _ (I.tok _) hq rw')
  · obtain ⟨xs, px, hd⟩ := h.tup I hF (kk_tup kk).2
    have := px.get (.tup l)
    rw [aget_map2 eq] at this
    obtain ⟨w', ew, rw'⟩ := RelO.some_ofD this
    obtain ⟨a, rfl⟩ := is_tupA hk
    cases ry
    obtain ⟨pp, hp, hp2⟩ := Option.map_eq_some_iff.mp ew
    refine wpAny_getItem_heap (knd := nestedKind X.prog X.w) (show A.in1.units + 8 < cLine by show A.units + 1 + 8 < cLine; omega) ⟨is_nested I hF.K _ _ _ hk rfl, (kk_tup kk).1⟩ hd hp ?_
    rw [hp2]
    exact K q.2 w' _ (I.tok _) hq rw'
theorem dd_isSome (h : DAt F O H p o rows kvs) : ((aget rows k).map (·.2)).isSome = (aget kvs k).isSome := by rw [Option.isSome_map, h.pd.isSome]
theorem dd_in (hu : A.units + 9 < cLine) (I : Inv X pins σ H s) (hF : FOk X F) (h : DAt F O H p o rows kvs) (hk : Is F O H (ofKey k) y) (kk : KKind (k :: kvs.map (·.1))) (ry : RelV y u) {Q : Value → Shared → Prop}
    (K : ∀ s', Inv X pins σ H s' → Q (.bool (aget kvs k).isSome) s') : wpAny (model X.prog X.w) A (compareOp .In u (.ref p)) Q E s := by
  rcases kk_cases kk with ⟨i, rfl⟩ | ⟨l, rfl⟩
  · obtain ⟨vs, pv, hd⟩ := h.int I hF (kk_num kk)
    have e := (pv.get i).isSome_eq
    rw [dd_isSome h] at e
    rw [is_num hk] at ry
    obtain ⟨t, rfl⟩ := ry
    refine wpAny_in_of int_is h.sys hd.mapOf ?_
    rw [← e]
    exact K _ (I.tok _)
  · obtain ⟨xs, px, hd⟩ := h.tup I hF (kk_tup kk).2
    have e := (px.get (.tup l)).isSome_eq
    rw [dd_isSome h, Option.isSome_map] at e
    obtain ⟨a, rfl⟩ := is_tupA hk
    cases ry
    refine wpAny_in_heap (knd := nestedKind X.prog X.w) (show A.in1.units + 8 < cLine by show A.units + 1 + 8 < cLine; omega) ⟨is_nested I hF.K _ _ _ hk rfl, (kk_tup kk).1⟩ h.sys hd ?_
    rw [← e]
    exact K _ (I.tok _)
theorem dd_notIn (hu : A.units + 9 < cLine) (I : Inv X pins σ H s) (hF : FOk X F) (h : DAt F O H p o rows kvs) (hk : Is F O H (ofKey k) y) (kk : KKind (k :: kvs.map (·.1))) (ry : RelV y u) {Q : Value → Shared → Prop}
    (K : ∀ s', Inv X pins σ H s' → Q (.bool (!(aget kvs k).isSome)) s') : wpAny (model X.prog X.w) A (compareOp .NotIn u (.ref p)) Q E s := by
  rcases kk_cases kk with ⟨i, rfl⟩ | ⟨l, rfl⟩
  · obtain ⟨vs, pv, hd⟩ := h.int I hF (kk_num kk)
    have e := (pv.get i).isSome_eq
    rw [dd_isSome h] at e
    rw [is_num hk] at ry
    obtain ⟨t, rfl⟩ := ry
    refine wpAny_notIn_of int_is h.sys hd.mapOf ?_
    rw [← e]
    exact K _ (I.tok _)
  · obtain ⟨xs, px, hd⟩ := h.tup I hF (kk_tup kk).2
    have e := (px.get (.tup l)).isSome_eq
    rw [dd_isSome h, Option.isSome_map] at e
    obtain ⟨a, rfl⟩ := is_tupA hk
    cases ry
    refine wpAny_notIn_heap (knd := nestedKind X.prog X.w) (show A.in1.units + 8 < cLine by show A.units + 1 + 8 < cLine; omega) ⟨is_nested I hF.K _ _ _ hk rfl, (kk_tup kk).1⟩ h.sys hd ?_
    rw [← e]
    exact K _ (I.tok _)
/-- d.get(k, x) -/
theorem dd_getOr (hu : A.units + 9 < cLine) (I : Inv X pins σ H s) (hF : FOk X F) (h : DAt F O H p o rows kvs) (hk : Is F O H (ofKey k) y) (kk : KKind (k :: kvs.map (·.1))) (ry : RelV y u) {dx : D} {x : V} (hx : Is F O H dx x) (rx : RelV x r) {Q : Value → Shared → Prop}
    (K : ∀ v w' s', Inv X pins σ H s' → Is F O H ((aget kvs k).getD dx) v → RelV v w' → Q w' s') : wpAny (model X.prog X.w) A (call (.builtin "dict.get") [.ref p, u, r]) Q E s := by
  have key : ∃ v, Is F O H ((aget kvs k).getD dx) v ∧ (((aget rows k).map (·.2)).getD x = v) := by
    cases e : aget kvs k with
    | none => rw [h.pd.none e]; exact ⟨x, hx, rfl⟩
    | some d => obtain ⟨q, eq, hq⟩ := h.pd.some e; rw [eq]; exact ⟨q.2, hq, rfl⟩
  obtain ⟨v, hv, ev⟩ := key
  rcases kk_cases kk with ⟨i, rfl⟩ | ⟨l, rfl⟩
  · obtain ⟨vs, pv, hd⟩ := h.int I hF (kk_num kk)
    have e := (pv.get i).getD (d := x) (d' := r) rx
    rw [is_num hk] at ry
    obtain ⟨t, rfl⟩ := ry
    refine call_meetsIn PySem.F.slot_dict_get hd.typeIs PySem.F.entry_dict_get (PySem.F.args_dict_get_3 _ _ _) (meets_dict_get_default (intKind X.prog X.w) p int_is h.sys r) ⟨_, hd.mapOf, K v _ _ (I.tok _) hv ?_⟩
    rw [← ev]
    exact e
  · obtain ⟨xs, px, hd⟩ := h.tup I hF (kk_tup kk).2
    have e := (px.get (.tup l)).getD (d := x) (d' := r) rx
    obtain ⟨a, rfl⟩ := is_tupA hk
    cases ry
    refine call_meetsIn PySem.F.slot_dict_get hd.typeIs PySem.F.entry_dict_get (PySem.F.args_dict_get_3 _ _ _) (meetsH_dict_get_default (nestedKind X.prog X.w) p a h.sys r) ⟨show A.in1.units + 8 < cLine by show A.units + 1 + 8 < cLine; omega, .tup l, xs, ⟨is_nested I hF.K _ _ _ hk rfl, (kk_tup kk).1⟩, hd, K v _ _ (I.tok _) hv ?_⟩
    rw [← ev]
    exact e
theorem rput_length (rows : List Row) (k : NestedKey) (a b : V) : (rput rows k a b).length ≤ rows.length + 1 := by
  unfold rput
  split
  · rw [List.length_map]; omega
  · rw [List.length_append]; exact Nat.le_refl _
theorem inv_lay {ob : Obj} {h' : Heap} {t' : Nat} (I : Inv X pins σ H s) (e : H p = some (.ext (Lit p o))) (hs : Heap.SameBut p s.heap h') (hg : h'.get? p = some ob) : Inv X pins σ (upd H p (.ext (Lit p ob))) { s with heap := h', toks := t' } :=
  d_write I (by rw [e]; exact True.intro) hs ⟨ob, hg⟩ ⟨hg, ⟨ob, hg⟩, fun h1 h2 q1 q2 => q2 _ q1⟩
/-- d[k] = v -/
theorem dd_set (hu : A.units + 9 < cLine) (I : Inv X pins σ H s) (hF : FOk X F) (h : DAt F O H p o rows kvs) (hk : Is F O H (ofKey k) y) (kk : KKind (k :: kvs.map (·.1))) (ry : RelV y u) (rv : RelV v r) (hz : kvs.length < sizeLine) {Q : Unit → Shared → Prop}
    (K : ∀ o' s', Inv X pins σ (upd H p (.ext (Lit p o'))) s' → DRel F.w o' (rput rows k y v) → Q () s') : wpAny (model X.prog X.w) A (setItem (.ref p) u r) Q E s := by
  have hz' : rows.length < sizeLine := by rw [← h.pd.length]; exact hz
  have hl := rput_length rows k y v
  rcases kk_cases kk with ⟨i, rfl⟩ | ⟨l, rfl⟩
  · obtain ⟨vs, pv, hd⟩ := h.int I hF (kk_num kk)
    have ey := is_num hk
    subst ey
    obtain ⟨t, rfl⟩ := ry
    refine wpAny_setItem_pairs (hsz := by rw [← Paired.length pv]; omega) int_is hd fun h' hd' hs => ?_
    obtain ⟨o', hg, hr⟩ := rel_int (X := X) hF.w (pv.put i rv) (by omega) hd'
    exact K o' _ (inv_lay I h.at_ hs hg) hr
  · obtain ⟨xs, px, hd⟩ := h.tup I hF (kk_tup kk).2
    obtain ⟨a, rfl⟩ := is_tupA hk
    cases ry
    refine wpAny_setItem_heap (knd := nestedKind X.prog X.w) (hsz := by rw [← Paired.length px]; omega) (show A.in1.units + 8 < cLine by show A.units + 1 + 8 < cLine; omega) ⟨is_nested I hF.K _ _ _ hk rfl, (kk_tup kk).1⟩ hd fun h' hd' hs => ?_
    obtain ⟨o', hg, hr⟩ := rel_tup (X := X) hF.w (px.put (.tup l) rv) (by omega) hd'
    exact K o' _ (inv_lay I h.at_ hs hg) hr
/-- d.pop(k, x) -/
theorem dd_pop (hu : A.units + 9 < cLine) (I : Inv X pins σ H s) (hF : FOk X F) (h : DAt F O H p o rows kvs) (hk : Is F O H (ofKey k) y) (kk : KKind (k :: kvs.map (·.1))) (ry : RelV y u) {x : V} (rx : RelV x r) {Q : Value → Shared → Prop}
    (K1 : (aget kvs k).isSome = true → ∀ o' v w' s', Inv X pins σ (upd H p (.ext (Lit p o'))) s' → DRel F.w o' (adrop rows k) → RelV v w' → Q w' s')
    (K2 : aget kvs k = none → ∀ s', Inv X pins σ H s' → Q r s') : wpAny (model X.prog X.w) A (call (.builtin "dict.pop") [.ref p, u, r]) Q E s := by
  have hl : (adrop rows k).length ≤ rows.length := List.length_filter_le _ _
  have hz := h.rel.len
  rcases kk_cases kk with ⟨i, rfl⟩ | ⟨l, rfl⟩
  · obtain ⟨vs, pv, hd⟩ := h.int I hF (kk_num kk)
    rw [is_num hk] at ry
    obtain ⟨t, rfl⟩ := ry
    cases e : aget kvs (.num i) with
    | some d =>
      obtain ⟨q, eq, hq⟩ := h.pd.some e
      have := pv.get i
      rw [aget_map2 eq] at this
      obtain ⟨w', ew, rw'⟩ := RelO.some_ofD this
      refine call_meetsIn PySem.F.slot_dict_pop hd.typeIs PySem.F.entry_dict_pop (PySem.F.args_dict_pop_3 _ _ _) (meets_dict_pop_there (intKind X.prog X.w) p int_is [r] (.inr ⟨r, rfl⟩) rfl) ⟨vs, w', hd, by rw [← Paired.length pv]; omega, ew, fun h' hd' hs => ?_⟩
      obtain ⟨o', hg, hr⟩ := rel_int (X := X) hF.w (pv.drop i) (by omega) hd'
      exact K1 (by rw [e]; rfl) o' q.2 w' _ (inv_lay I h.at_ hs hg) hr rw'
    | none =>
      have := pv.get i
      rw [h.pd.none e] at this
      have hn := RelO.none_ofD (show RelO none (valueAt vs i) from this)
      exact call_meetsIn PySem.F.slot_dict_pop hd.typeIs PySem.F.entry_dict_pop (PySem.F.args_dict_pop_3 _ _ _) (meets_dict_pop_default (intKind X.prog X.w) p int_is h.sys rfl r) ⟨vs, hd, hn, K2 e _ (I.tok _)⟩
  · obtain ⟨xs, px, hd⟩ := h.tup I hF (kk_tup kk).2
    obtain ⟨a, rfl⟩ := is_tupA hk
    cases ry
    refine call_meetsIn PySem.F.slot_dict_pop hd.typeIs PySem.F.entry_dict_pop (PySem.F.args_dict_pop_3 _ _ _) (meetsH_dict_pop (nestedKind X.prog X.w) p a h.sys [r] (.inr ⟨r, rfl⟩))
      ⟨show A.in1.units + 8 < cLine by show A.units + 1 + 8 < cLine; omega, .tup l, xs, ⟨is_nested I hF.K _ _ _ hk rfl, (kk_tup kk).1⟩, hd, by rw [← Paired.length px]; omega, fun pp hp h' hd' hs => ?_, fun hn tk => ⟨fun dflt ed => ?_, fun z => by cases z⟩⟩
    · obtain ⟨o', hg, hr⟩ := rel_tup (X := X) hF.w (px.drop (.tup l)) (by omega) hd'
      have g := px.get (.tup l)
      rw [hp] at g
      cases e : aget rows (.tup l) with
      | none => rw [e] at g; exact (show False from g).elim
      | some q =>
        rw [e] at g
        refine K1 (by rw [← h.pd.isSome, e]; rfl) o' q.2 pp.2 _ (inv_lay I h.at_ hs hg) hr g
    · cases ed
      refine K2 ?_ _ (I.tok _)
      have g := (px.get (.tup l)).isSome_eq
      rw [hn, dd_isSome h] at g
      cases e : aget kvs (.tup l) with
      | none => rfl
      | some d => rw [e] at g; cases g
/-- len(d) -/
theorem dd_len (I : Inv X pins σ H s) (h : DAt F O H p o rows kvs) {Q : Value → Shared → Prop} (hF : FOk X F) (K : ∀ t s', Inv X pins σ H s' → Q (.int kvs.length t) s') : wpAny (model X.prog X.w) A (call (.builtin "len") [.ref p]) Q E s := by
  have hz := h.rel.len
  have hs := sizeLine_eq
  rcases h.kind with kk | kk
  · obtain ⟨vs, pv, hd⟩ := h.int I hF kk
    have e : vs.length = kvs.length := by rw [← Paired.length pv, h.pd.length]
    have e2 : rows.length = kvs.length := h.pd.length.symm
    refine call_len_dict h.sys hd (by omega) ?_
    rw [e]
    exact K _ _ (I.tok _)
  · obtain ⟨xs, px, hd⟩ := h.tup I hF kk
    have e : xs.length = kvs.length := by rw [← Paired.length px, h.pd.length]
    have e2 : rows.length = kvs.length := h.pd.length.symm
    refine call_len_dictH h.sys hd (by omega) ?_
    rw [e]
    exact K _ _ (I.tok _)
end
end DL
set_option Elab.async false
set_option linter.all false
set_option maxRecDepth 100000
/-! DLDict3: rules over data for dicts and for built-ins. -/
namespace DL
open PySem PySem.Spec PyProof.Rows L2
/-! ### items of lists, tuples and dicts -/
/-- the dict at x, asked by the key at y -/
def DAsk (X : Cx) (x y : V) (H : Hp) (C : Fx → (Addr → Prop) → Addr → List Row → List (NestedKey × D) → NestedKey → Prop) : Prop := ∃ (a : Addr) (F : Fx) (O : Addr → Prop) (o : Obj) (rows : List Row) (kvs : List (NestedKey × D)) (k : NestedKey),
  x = .ref a ∧ FOk X F ∧ DAt F O H a o rows kvs ∧ Is F O H (ofKey k) y ∧ KKind (k :: kvs.map (·.1)) ∧ C F O a rows kvs k
def rIxD (X : Cx) : R2 := fun x y H Q => DAsk X x y H fun F O _ _ kvs k => ∃ d, aget kvs k = some d ∧ ∀ v, Is F O H d v → Q v H
section
variable {X : Cx} {a b c e i value : Expr} {es : List Expr} {ta tb tc te : TDE} {pos pos' apos cpos p : Pos}
theorem ixr_dict (hu : X.A.units + 9 < cLine) : IxR X (rIxD X) := by
  intro value slice pins s σ H x y v u Q I rx ry h hs
  obtain ⟨a, F, O, o, rows, kvs, k, rfl, hF, hd, hk, kk, d, e, q⟩ := h
  cases rx
  have hT := hd.typeIs I
  unfold subscriptTail
  refine wpAny_bind ?_
  rw [getitemInPython_of_ne hT.not_modules]
  refine wpAny_bind (wpAny_specialOf hT PySem.F.slot_dict_getitem.lookup ?_)
  have fin : wpAny (model X.prog X.w) X.A (subscripted slice false (.ref a) u) (fun r s₃ => wpAny (model X.prog X.w) X.A (letTemporaryGo value (.ref a) r >>= fun _ => pure r) (EP X pins σ Q) X.xe s₃) X.xe s := by
    rw [hs]
    exact wpAny_operating (wpAny_mono (dd_get (Q := EP X pins σ Q) hu I hF hd hk kk ry e fun v w' s3 I3 hv rv => ⟨v, H, I3, rv, q v hv⟩) (fun r s₃ h₃ => wpAny_bind (wpAny_letTemporaryGo (wpAny_pure h₃))) fun _ _ x => x)
  first
    | exact wpAny_pure (wpAny_bind fin)
    | exact wpAny_bind (wpAny_pure (wpAny_bind fin))
    | exact wpAny_bind fin
/-- a key over data -/
def asKey (d : D) (ks : List NestedKey) (C : NestedKey → Prop) : Prop := ∃ k, keyOf d = some k ∧ KKind (k :: ks) ∧ C k
def rdIxA : D → D → (D → Fl → Prop) → Prop := fun d1 d2 Q => match d1 with
  | .d kvs => asKey d2 (kvs.map (·.1)) fun k => ∃ y, aget kvs k = some y ∧ Q y .sh
  | d1 => rdIx d1 d2 Q
theorem Val.isAny {F : Fx} {B : Bas} {ps : List (D × V)} {E : DEnv} {σ : L2.St} {H : Hp} {d : D} {f : Fl} {v : V} {k : NestedKey} (r : R F B ps E σ H) (h : Val F B E σ H d f v) (e : keyOf d = some k) : Is F (own B E σ) H (ofKey k) v := by
  rw [keyOf_eq d k e] at h
  cases f with
  | ow i =>
    obtain ⟨b, _, rt, _⟩ := r.ow i _ h.1
    cases k <;> exact rt.elim
  | _ => exact h
theorem opl_ixA : OpL X (fun x y H Q => (rIxL X.K x y H Q ∨ rIxT X.K x y H Q) ∨ rIxD X x y H Q) rdIxA := by
  intro F B ps E σ H d1 f1 d2 f2 v1 v2 Qd Q hF r w1 w2 q k
  unfold rdIxA at q
  split at q
  · rename_i kvs
    obtain ⟨kk, e1, e2, y, e3, q⟩ := q
    obtain ⟨a, o, rows, rfl, hd⟩ := w1.dat r
    exact .inr ⟨a, F, _, o, rows, kvs, kk, rfl, hF, hd, w2.isAny r e1, e2, y, e3, fun v hv => k y .sh v H q ⟨r, hv⟩⟩
  · exact .inl (opl_ix F B ps E σ H d1 f1 d2 f2 v1 v2 Qd Q hF r w1 w2 q k)
theorem de_item (hu : X.A.units + 9 < cLine) (ha : DE X a ta) (hb : DE X b tb) (hs : PlainIx b := by exact fun _ _ => rfl) : DE X (.Subscript a b pos) (tdOp rdIxA ta tb) := de_ixG (ixr_seq.or (ixr_dict hu)) opl_ixA ha hb hs
/-! ### in, not in -/
def rInD (X : Cx) (g : Bool → Bool) : R2 := fun x y H Q => DAsk X y x H fun _ _ _ _ kvs k => Q (.bl (g (aget kvs k).isSome)) H
theorem opr_in (hu : X.A.units + 9 < cLine) : OpR X (compareOp .In) (rInD X id) := by
  intro pins s σ H x y v u Q I rx ry h
  obtain ⟨a, F, O, o, rows, kvs, k, rfl, hF, hd, hk, kk, q⟩ := h
  cases ry
  exact dd_in hu I hF hd hk kk rx fun s' I' => ⟨.bl _, H, I', rfl, q⟩
theorem opr_notIn (hu : X.A.units + 9 < cLine) : OpR X (compareOp .NotIn) (rInD X not) := by
  intro pins s σ H x y v u Q I rx ry h
  obtain ⟨a, F, O, o, rows, kvs, k, rfl, hF, hd, hk, kk, q⟩ := h
  cases ry
  exact dd_notIn hu I hF hd hk kk rx fun s' I' => ⟨.bl _, H, I', rfl, q⟩
def rdIn (g : Bool → Bool) : D → D → (D → Fl → Prop) → Prop := fun d1 d2 Q => match d2 with
  | .d kvs => asKey d1 (kvs.map (·.1)) fun k => Q (.a (.bl (g (aget kvs k).isSome))) .sh
  | _ => False
theorem opl_in {g : Bool → Bool} : OpL X (rInD X g) (rdIn g) := by
  intro F B ps E σ H d1 f1 d2 f2 v1 v2 Qd Q hF r w1 w2 q k
  unfold rdIn at q
  split at q
  · rename_i kvs
    obtain ⟨kk, e1, e2, q⟩ := q
    obtain ⟨a, o, rows, rfl, hd⟩ := w2.dat r
    exact ⟨a, F, _, o, rows, kvs, kk, rfl, hF, hd, w1.isAny r e1, e2, k _ .sh _ H q ⟨r, .a rfl⟩⟩
  · exact q.elim
/-! ### d.get(k, x) -/
def tDGetX (X : Cx) (td ty tx : TE) : TE := fun σ H Q => td σ H fun x H1 => ∃ a o, x = .ref a ∧ H1 a = some (.ext (Lit a o)) ∧ o.ExactDict ∧ ty σ H1 fun y H2 => tx σ H2 fun z H3 => DAsk X x y H3 fun F O _ _ kvs k => ∃ dz, Is F O H3 dz z ∧ ∀ v, Is F O H3 ((aget kvs k).getD dz) v → Q v H3
theorem pe_getX {o f : Expr} {td ty tx : TE} (hu : X.A.units + 9 < cLine) (ho : PE X o td) (he : PE X e ty) (hf : PE X f tx) (m : M2 X o "get" apos e f cpos) : PE X (.Call (.Attribute o "get" apos) [e, f] [] cpos) (tDGetX X td ty tx) := by
  refine ⟨fun pins s σ H Q I h => ?_⟩
  refine wpAny_Call_method m.base m.few m.line PySem.F.plainAttrs_dict PySem.F.slot_dict_get PySem.F.type_dict_get (thn (ho.run pins s σ H _ I h) fun u s1 ⟨x, H1, I1, rx, a, ob, ex, ha, hx, q1⟩ => ?_)
  subst ex
  obtain rfl : u = Value.ref a := rx
  have hg := inv_lit I1 ha
  refine ⟨⟨ob, hg, hx.1⟩, fun b q => by cases q; exact ⟨ob, hg, hx.2.1⟩, ?_⟩
  rw [m.trees]
  refine Calls.callWith_builtin rfl (Calls.evalArgs_plain (Calls.spliced_cons (thn (he.run pins s1 σ H1 _ I1 q1) fun iv s2 ⟨y, H2, I2, ry, q2⟩ =>
    Calls.spliced_cons (thn (hf.run pins s2 σ H2 _ I2 q2) fun fv s3 ⟨z, H3, I3, rz, q3⟩ => Calls.spliced_nil ?_))))
  obtain ⟨a', F, O, ob', rows, kvs, k, ea, hF, hd, hk, kk, dz, hz, q⟩ := q3
  cases ea
  exact dd_getOr hu I3 hF hd hk kk ry hz rz fun v w' s4 I4 hv rv => ⟨v, H3, I4, rv, q v hv⟩
def tdGetX (td ty tx : TDE) : TDE := fun E Q => td E fun d _ => match d with
  | .d kvs => ty E fun dk _ => tx E fun dx fx => asKey dk (kvs.map (·.1)) fun k => fx.ok = true ∧ Q ((aget kvs k).getD dx) .sh
  | _ => False
theorem de_getX {o f : Expr} {td ty tx : TDE} (hu : X.A.units + 9 < cLine) (ho : DE X o td) (he : DE X e ty) (hf : DE X f tx) (m : M2 X o "get" apos e f cpos) : DE X (.Call (.Attribute o "get" apos) [e, f] [] cpos) (tdGetX td ty tx) := by
  refine ⟨fun F B ps E σ H Qd Q hF r t k => Run.of (pe_getX hu peR peR peR m) (ho.run F B ps E σ H _ _ hF r t fun d1 f1 v1 H1 q1 p1 => ?_)⟩
  split at q1
  · rename_i kvs
    obtain ⟨r1, w1⟩ := p1.val
    obtain ⟨a, o, rows, ea, hd⟩ := w1.dat r1
    refine ⟨a, o, ea, hd.at_, hd.rel.ex, ?_⟩
    refine two (C := fun dk _ dx fx => asKey dk (kvs.map (·.1)) fun k => fx.ok = true ∧ Qd ((aget kvs k).getD dx) .sh) he hf hF (r1.pinV w1) q1 fun d2 f2 d3 f3 v2 v3 H3 q3 r3 w2 w3 => ?_
    obtain ⟨r4, w1'⟩ := r3.unpinV w1
    obtain ⟨kk, e1, e2, ok, q3⟩ := q3
    obtain ⟨a', o', rows', ea', hd'⟩ := w1'.dat r4
    rw [ea] at ea'
    cases ea'
    exact ⟨a, F, _, o', rows', kvs, kk, ea, hF, hd', w2.isAny r4 e1, e2, d3, w3.is ok, fun v hv => k _ .sh v H3 q3 ⟨r4, hv⟩⟩
  · exact q1.elim
/-! ### built-ins -/
def CallL (X : Cx) (r : List V → Hp → VK → Prop) (rd : List (D × Fl) → (D → Fl → Prop) → Prop) : Prop := ∀ (F : Fx) (B : Bas) (ps : List (D × V)) (E : DEnv) (σ : L2.St) (H : Hp) (dfs : List (D × Fl)) (vs : List V) (Qd : D → Fl → Prop) (Q : VK), FOk X F → R F B ps E σ H →
  ValL F B E σ H dfs vs → rd dfs Qd → (∀ d f v H', Qd d f → Post F B ps E σ d f v H' → Q v H') → r vs H Q
def tdCB (rd : List (D × Fl) → (D → Fl → Prop) → Prop) (ta : TDA) : TDE := fun E Q => ta E fun dfs => rd dfs Q
theorem de_callB {x : Str} {id : String} {r : List V → Hp → VK → Prop} {rd : List (D × Fl) → (D → Fl → Prop) → Prop} {ta : TDA} (hc : CallR X (.builtin id) r) (hl : CallL X r rd) (hg : Gl X x) (hm : X.mg x = none) (hv : bootBuiltins x = some (.builtin id)) (ha : DA X (e :: es) ta) (hn : x ≠ "__name__" := by decide) (hdb : (x == ("__debug__" : Str)) = false := by decide)
    (he : starEach (e :: es) X.env = (false, eval e X.env) :: starEach es X.env := by rfl) (hpl : (backTo pos (starEach es X.env)).any (·.1) = false := by rfl) : DE X (.Call (.Name x p) (e :: es) [] pos) (tdCB rd ta) :=
  ⟨fun F B ps E σ H Qd Q hF r' t k => Run.of (pe_callB hc hg hm hv paR hn hdb he hpl) (ha.run F B ps E σ H _ _ hF r' t fun dfs vs H1 q r1 w => hl F B ps E σ H1 dfs vs Qd Q hF r1 w q k)⟩
theorem de_callTy {x : Str} {T : String} {r : List V → Hp → VK → Prop} {rd : List (D × Fl) → (D → Fl → Prop) → Prop} {ta : TDA} (hc : CallR X (.type T) r) (hl : CallL X r rd) (hg : Gl X x) (hm : X.mg x = none) (hv : bootBuiltins x = some (.type T)) (ha : DA X (e :: es) ta) (hn : x ≠ "__name__" := by decide) (hdb : (x == ("__debug__" : Str)) = false := by decide)
    (he : starEach (e :: es) X.env = (false, eval e X.env) :: starEach es X.env := by rfl) (hpl : (backTo pos (starEach es X.env)).any (·.1) = false := by rfl) : DE X (.Call (.Name x p) (e :: es) [] pos) (tdCB rd ta) :=
  ⟨fun F B ps E σ H Qd Q hF r' t k => Run.of (pe_callTy hc hg hm hv paR hn hdb he hpl) (ha.run F B ps E σ H _ _ hF r' t fun dfs vs H1 q r1 w => hl F B ps E σ H1 dfs vs Qd Q hF r1 w q k)⟩
/-- one argument -/
theorem ValL.one {F : Fx} {B : Bas} {E : DEnv} {σ : L2.St} {H : Hp} {d : D} {f : Fl} {vs : List V} (h : ValL F B E σ H [(d, f)] vs) : ∃ v, vs = [v] ∧ Val F B E σ H d f v := by
  cases h with
  | cons h t => cases t; exact ⟨_, rfl, h⟩
def rd1 (g : D → Fl → (D → Fl → Prop) → Prop) : List (D × Fl) → (D → Fl → Prop) → Prop := fun dfs Q => match dfs with
  | [(d, f)] => g d f Q
  | _ => False
def rLenD (X : Cx) : List V → Hp → VK → Prop := fun xs H Q => ∃ (a : Addr) (F : Fx) (O : Addr → Prop) (o : Obj) (rows : List Row) (kvs : List (NestedKey × D)), xs = [.ref a] ∧ FOk X F ∧ DAt F O H a o rows kvs ∧ Q (.int kvs.length) H
theorem call_lenDD : CallR X (.builtin "len") (rLenD X) := by
  intro pins s σ H xs us Q I r h
  obtain ⟨a, F, O, o, rows, kvs, rfl, hF, hd, q⟩ := h
  obtain ⟨u, rfl, rx⟩ := vals1 r
  cases rx
  exact dd_len I hd hF fun t s' I' => ⟨.int _, H, I', ⟨_, rfl⟩, q⟩
def rdLen : List (D × Fl) → (D → Fl → Prop) → Prop := rd1 fun d _ Q => match d with
  | .l xs => Q (.a (.int xs.length)) .sh
  | .t xs => Q (.a (.int xs.length)) .sh
  | .d kvs => Q (.a (.int kvs.length)) .sh
  | _ => False
theorem callr_len : CallR X (.builtin "len") (fun xs H Q => (∃ p ys, xs = [.ref p] ∧ (SqL X.K H p ys ∨ SqT X.K H p ys) ∧ Q (.int ys.length) H) ∨ rLenD X xs H Q) := call_len_seq.or call_lenDD
theorem rd1_of {g : D → Fl → (D → Fl → Prop) → Prop} {dfs : List (D × Fl)} {Q : D → Fl → Prop} (h : rd1 g dfs Q) : ∃ d f, dfs = [(d, f)] ∧ g d f Q := by
  unfold rd1 at h
  split at h
  · exact ⟨_, _, rfl, h⟩
  · exact h.elim
theorem calll_len : CallL X (fun xs H Q => (∃ p ys, xs = [.ref p] ∧ (SqL X.K H p ys ∨ SqT X.K H p ys) ∧ Q (.int ys.length) H) ∨ rLenD X xs H Q) rdLen := by
  intro F B ps E σ H dfs vs Qd Q hF r w q k
  obtain ⟨d, f, e0, q0⟩ := rd1_of q
  subst e0
  clear q
  have q := q0
  clear q0
  obtain ⟨v, e0, w0⟩ := w.one
  subst e0
  clear w
  have w := w0
  clear w0
  split at q
  · obtain ⟨a, us, rfl, h, l⟩ := w.lst r
    exact .inl ⟨a, us, rfl, .inl (SqL.of h), by rw [← l.length]; exact k _ .sh _ H q ⟨r, .a rfl⟩⟩
  · obtain ⟨a, us, rfl, h, l⟩ := w.tup hF.K r
    exact .inl ⟨a, us, rfl, .inr h, by rw [← l.length]; exact k _ .sh _ H q ⟨r, .a rfl⟩⟩
  · obtain ⟨a, o, rows, rfl, hd⟩ := w.dat r
    exact .inr ⟨a, F, _, o, rows, _, rfl, hF, hd, k _ .sh _ H q ⟨r, .a rfl⟩⟩
  · exact q.elim
def rdAbs : List (D × Fl) → (D → Fl → Prop) → Prop := rd1 fun d _ Q => match d with
  | .a (.int i) => Q (.a (.int (if i < 0 then -i else i))) .sh
  | _ => False
theorem calll_abs : CallL X (fun xs H Q => ∃ i, xs = [.int i] ∧ Q (.int (if i < 0 then -i else i)) H) rdAbs := by
  intro F B ps E σ H dfs vs Qd Q hF r w q k
  obtain ⟨d, f, e0, q0⟩ := rd1_of q
  subst e0
  clear q
  have q := q0
  clear q0
  obtain ⟨v, e0, w0⟩ := w.one
  subst e0
  clear w
  have w := w0
  clear w0
  split at q
  · obtain ⟨rfl, _⟩ := w.atm r
    exact ⟨_, rfl, k _ .sh _ H q ⟨r, .a rfl⟩⟩
  · exact q.elim
def rdInt : List (D × Fl) → (D → Fl → Prop) → Prop := rd1 fun d _ Q => match d with
  | .a (.int i) => Q (.a (.int i)) .sh
  | _ => False
theorem calll_int : CallL X (fun xs H Q => (∃ i, xs = [.int i] ∧ Q (.int i) H) ∨ ∃ k, xs = [.bl k] ∧ Q (.int (if k then 1 else 0)) H) rdInt := by
  intro F B ps E σ H dfs vs Qd Q hF r w q k
  obtain ⟨d, f, e0, q0⟩ := rd1_of q
  subst e0
  clear q
  have q := q0
  clear q0
  obtain ⟨v, e0, w0⟩ := w.one
  subst e0
  clear w
  have w := w0
  clear w0
  split at q
  · obtain ⟨rfl, _⟩ := w.atm r
    exact .inl ⟨_, rfl, k _ .sh _ H q ⟨r, .a rfl⟩⟩
  · exact q.elim
def boolsOf : List D → Option (List Bool)
  | [] => some []
  | .a (.bl i) :: r => (boolsOf r).map (i :: ·)
  | _ => none
theorem boolsOf_is {F : Fx} {O : Addr → Prop} {H : Hp} : ∀ {ds : List D} {bs : List Bool} {vs : List V}, boolsOf ds = some bs → IsL F O H ds vs → vs = bs.map V.bl
  | [], bs, vs, h, l => by cases h; cases l; rfl
  | .a (.bl i) :: r, bs, vs, h, l => by
    unfold boolsOf at h
    cases e : boolsOf r with
    | none => rw [e] at h; cases h
    | some ms =>
      rw [e] at h
      cases h
      cases l with
      | cons l1 l2 =>
        cases l1
        rw [boolsOf_is e l2]
        rfl
def rdAll : List (D × Fl) → (D → Fl → Prop) → Prop := rd1 fun d _ Q => match d with
  | .l xs => ∃ bs, boolsOf xs = some bs ∧ Q (.a (.bl (bs.all id))) .sh
  | _ => False
theorem calll_all : CallL X (rAll X.K) rdAll := by
  intro F B ps E σ H dfs vs Qd Q hF r w q k
  obtain ⟨d, f, e0, q0⟩ := rd1_of q
  subst e0
  clear q
  have q := q0
  clear q0
  obtain ⟨v, e0, w0⟩ := w.one
  subst e0
  clear w
  have w := w0
  clear w0
  split at q
  · obtain ⟨bs, e, q⟩ := q
    obtain ⟨a, us, rfl, h, l⟩ := w.lst r
    rw [boolsOf_is e l] at h
    exact ⟨a, bs, rfl, SqL.of h, k _ .sh _ H q ⟨r, .a rfl⟩⟩
  · exact q.elim
theorem intsOf_is {F : Fx} {O : Addr → Prop} {H : Hp} {ds : List D} {ns : List Int} {vs : List V} (e : intsOf ds = some ns) (l : IsL F O H ds vs) : vs = ns.map V.int := by
  rw [intsOf_eq e] at l
  exact l.of_ints
def rdMin : List (D × Fl) → (D → Fl → Prop) → Prop := rd1 fun d _ Q => match d with
  | .l xs => ∃ ns, intsOf xs = some ns ∧ 0 < ns.length ∧ ∀ m, m ∈ ns → (∀ y, y ∈ ns → m ≤ y) → Q (.a (.int m)) .sh
  | _ => False
theorem calll_min : CallL X (rMin X.K) rdMin := by
  intro F B ps E σ H dfs vs Qd Q hF r w q k
  obtain ⟨d, f, e0, q0⟩ := rd1_of q
  subst e0
  clear q
  have q := q0
  clear q0
  obtain ⟨v, e0, w0⟩ := w.one
  subst e0
  clear w
  have w := w0
  clear w0
  split at q
  · obtain ⟨ns, e, h0, q⟩ := q
    obtain ⟨a, us, rfl, h, l⟩ := w.lst r
    rw [intsOf_is e l] at h
    exact ⟨a, ns, rfl, SqL.of h, h0, fun m h1 h2 => k _ .sh _ H (q m h1 h2) ⟨r, .a rfl⟩⟩
  · exact q.elim
/-- sum of a list of ints -/
def rdSum : List (D × Fl) → (D → Fl → Prop) → Prop := rd1 fun d _ Q => match d with
  | .l xs => ∃ ns, intsOf xs = some ns ∧ Q (.a (.int ns.sum)) .sh
  | _ => False
theorem calll_sum : CallL X (rSum X.K) rdSum := by
  intro F B ps E σ H dfs vs Qd Q hF r w q k
  obtain ⟨d, f, e0, q0⟩ := rd1_of q
  subst e0
  clear q
  have q := q0
  clear q0
  obtain ⟨v, e0, w0⟩ := w.one
  subst e0
  clear w
  have w := w0
  clear w0
  split at q
  · obtain ⟨ns, e, q⟩ := q
    obtain ⟨a, us, rfl, h, l⟩ := w.lst r
    rw [intsOf_is e l] at h
    exact ⟨a, ns, rfl, SqL.of h, k _ .sh _ H q ⟨r, .a rfl⟩⟩
  · exact q.elim
def rdTuple : List (D × Fl) → (D → Fl → Prop) → Prop := rd1 fun d _ Q => match d with
  | .l xs => Q (.t xs) .sh
  | .t xs => Q (.t xs) .sh
  | _ => False
theorem calll_tuple : CallL X (fun xs H Q => ∃ p ys, xs = [.ref p] ∧ ((SqL X.K H p ys ∧ ∀ l, H l = none → Q (.ref l) (upd H l (.tup ys))) ∨ (SqT X.K H p ys ∧ Q (.ref p) H))) rdTuple := by
  intro F B ps E σ H dfs vs Qd Q hF r w q k
  obtain ⟨d, f, e0, q0⟩ := rd1_of q
  subst e0
  clear q
  have q := q0
  clear q0
  obtain ⟨v, e0, w0⟩ := w.one
  subst e0
  clear w
  have w := w0
  clear w0
  split at q
  · obtain ⟨a, us, rfl, h, l⟩ := w.lst r
    exact ⟨a, us, rfl, .inl ⟨SqL.of h, fun p hp => k _ .sh _ _ q (r.laidT hp l)⟩⟩
  · rename_i xs
    obtain ⟨a, us, ea, h, l⟩ := w.tup hF.K r
    refine ⟨a, us, by rw [ea], .inr ⟨h, k _ .sh _ H q ⟨r, ?_⟩⟩⟩
    subst ea
    cases f with
    | ow i =>
      obtain ⟨b, _, rt, _⟩ := r.ow i _ w.1
      exact rt.elim
    | _ => exact w
  · exact q.elim
/-- list(x) of a list or a tuple -/
def rdList : List (D × Fl) → (D → Fl → Prop) → Prop := rd1 fun d _ Q => match d with
  | .l xs => Q (.l xs) .fr
  | .t xs => Q (.l xs) .fr
  | .d kvs => Q (.l (kvs.map fun kv => ofKey kv.1)) .fr
  | _ => False
def rListKeys (X : Cx) : List V → Hp → VK → Prop := fun xs H Q => ∃ (a : Addr) (F : Fx) (O : Addr → Prop) (o : Obj) (rows : List Row) (kvs : List (NestedKey × D)), xs = [.ref a] ∧ FOk X F ∧ DAt F O H a o rows kvs ∧ ∀ l, H l = none → Q (.ref l) (upd H l (.lst (rows.map (·.2.1))))
theorem rows_get {rows : List Row} {es : List DictEntry} {w : World} (h : Paired (fun (r : Row) (e : DictEntry) => e.hash = r.1.hash w ∧ RelV r.2.1 e.key ∧ RelV r.2.2 e.val) rows es) : ∀ {i : Nat} {r : Row}, rows[i]? = some r → ∃ e, es[i]? = some e ∧ RelV r.2.1 e.key := by
  induction h with
  | nil => intro i r e; simp at e
  | @cons p q ps qs h t ih =>
    intro i r e
    cases i with
    | zero => simp at e; subst e; exact ⟨q, rfl, h.2.1⟩
    | succ i =>
      obtain ⟨e', h1, h2⟩ := ih (i := i) (r := r) (by simpa using e)
      exact ⟨e', by simpa using h1, h2⟩
theorem call_listKeys (hc : X.calm = true) : CallR X (.type "list") (rListKeys X) := by
  intro pins s σ H xs us Q I r h
  obtain ⟨a, F, O, o, rows, kvs, rfl, hF, hd, q⟩ := h
  obtain ⟨u, rfl, rx⟩ := vals1 r
  cases rx
  obtain ⟨es, ep, e1, pr⟩ := hd.rel.ents
  have hz := hd.rel.len
  have l1 : rows.length = es.size := by rw [Paired.length pr, Array.length_toList]
  refine PySem.W.kdl_call (PySem.KdlSrc.rawDict (prog := X.prog) (w := X.w) (es := es) (ep := ep) hd.sys) (I.ok.hd hc) ⟨o, inv_lit I hd.at_, hd.rel.ex, e1⟩ (by omega) fun h' tk acc' c' kp e it => ?_
  have rv : Vals (rows.map (·.2.1)) acc'.toList := by
    have hl : acc'.toList.length = es.size := by rw [Array.length_toList, it.1]
    have go : ∀ (rs : List Row) (vs : List Value), rs.length = vs.length → (∀ (j : Nat) (rr : Row) (v : Value), rs[j]? = some rr → vs[j]? = some v → RelV rr.2.1 v) → Vals (rs.map (·.2.1)) vs := by
      intro rs
      induction rs with
      | nil => intro vs e _; cases vs with | nil => exact .nil | cons _ _ => cases e
      | cons rr rs ih =>
        intro vs e hh
        cases vs with
        | nil => cases e
        | cons v vs => exact .cons (hh 0 rr v rfl rfl) (ih vs (by simpa using e) fun j r2 v2 a b => hh (j + 1) r2 v2 (by simpa using a) (by simpa using b))
    refine go rows _ (by omega) fun j rr v h1 h2 => ?_
    obtain ⟨en, h3, h4⟩ := rows_get pr h1
    obtain ⟨hi, h5⟩ := it.2 j v (by rw [← Array.getElem?_toList]; exact h2)
    rw [Array.getElem?_toList, Array.getElem?_eq_getElem hi] at h3
    cases h3
    rw [h5]
    exact h4
  refine ⟨.ref s.heap.objs.size, _, I.laid (t' := tk) (o := .lst (rows.map (·.2.1))) kp (Nat.le_refl _) ?_, rfl, q _ (I.hok.fresh (Nat.le_refl _))⟩
  exact ⟨by rw [List.length_map]; exact hz, acc'.toList, c', rv, by rw [Array.toArray_toList]; exact e⟩
theorem keys_is {F : Fx} {O : Addr → Prop} {H : Hp} {kvs : List (NestedKey × D)} {rows : List Row} (h : PD F O H kvs rows) : IsL F O H (kvs.map fun kv => ofKey kv.1) (rows.map (·.2.1)) := by
  unfold PD at h
  induction h with
  | nil => exact .nil
  | cons h t ih => exact .cons h.2.1 ih
theorem callr_list (hc : X.calm = true) : CallR X (.type "list") (fun xs H Q => (∃ p ys, xs = [.ref p] ∧ (SqL X.K H p ys ∨ SqT X.K H p ys) ∧ ∀ l, H l = none → Q (.ref l) (upd H l (.lst ys))) ∨ rListKeys X xs H Q) := call_list_of.or (call_listKeys hc)
theorem calll_list : CallL X (fun xs H Q => (∃ p ys, xs = [.ref p] ∧ (SqL X.K H p ys ∨ SqT X.K H p ys) ∧ ∀ l, H l = none → Q (.ref l) (upd H l (.lst ys))) ∨ rListKeys X xs H Q) rdList := by
  intro F B ps E σ H dfs vs Qd Q hF r w q k
  obtain ⟨d, f, e0, q0⟩ := rd1_of q
  subst e0
  clear q
  have q := q0
  clear q0
  obtain ⟨v, e0, w0⟩ := w.one
  subst e0
  clear w
  have w := w0
  clear w0
  split at q
  · obtain ⟨a, us, rfl, h, l⟩ := w.lst r
    exact .inl ⟨a, us, rfl, .inl (SqL.of h), fun p hp => k _ .fr _ _ q (r.laid (d := .l _) hp ⟨_, upd_same, l.laid hp⟩)⟩
  · obtain ⟨a, us, rfl, h, l⟩ := w.tup hF.K r
    exact .inl ⟨a, us, rfl, .inr h, fun p hp => k _ .fr _ _ q (r.laid (d := .l _) hp ⟨_, upd_same, l.laid hp⟩)⟩
  · obtain ⟨a, o, rows, rfl, hd⟩ := w.dat r
    exact .inr ⟨a, F, _, o, rows, _, rfl, hF, hd, fun p hp => k _ .fr _ _ q (r.laid (d := .l _) hp ⟨_, upd_same, (keys_is hd.pd).laid hp⟩)⟩
  · exact q.elim
end
end DL
set_option Elab.async false
set_option linter.all false
set_option maxRecDepth 100000
/-! DLMut: what changes a list or a dict that a slot owns; new dicts. -/
namespace DL
open PySem PySem.Spec PyProof.Rows L2
section
variable {X : Cx} {a b c e o ik value : Expr} {es : List Expr} {te tk tv : TDE} {pos pos' tpos apos cpos : Pos} {i j : Nat}
/-- the slot's owned list -/
theorem R.owL {F : Fx} {B : Bas} {ps : List (D × V)} {E : DEnv} {σ : L2.St} {H : Hp} {xs : List D} (r : R F B ps E σ H) (e : E[i]? = some (.ow (.l xs))) : ∃ p vs, σ[i]? = some (some (.ref p)) ∧ H p = some (.lst vs) ∧ IsL F (own B E σ) H xs vs ∧ own B E σ p := by
  obtain ⟨p, e1, ⟨vs, h, l⟩, _⟩ := r.ow i _ e
  exact ⟨p, vs, e1, h, l, .inr ⟨i, _, e, e1⟩⟩
theorem R.owD {F : Fx} {B : Bas} {ps : List (D × V)} {E : DEnv} {σ : L2.St} {H : Hp} {kvs : List (NestedKey × D)} (r : R F B ps E σ H) (e : E[i]? = some (.ow (.d kvs))) : ∃ p o rows, σ[i]? = some (some (.ref p)) ∧ DAt F (own B E σ) H p o rows kvs ∧ own B E σ p := by
  obtain ⟨p, e1, rt, _⟩ := r.ow i _ e
  obtain ⟨o, rows, h⟩ := rt.dat
  exact ⟨p, o, rows, e1, h, .inr ⟨i, _, e, e1⟩⟩
theorem Is.upd {F : Fx} {O : Addr → Prop} {H : Hp} {p : Addr} {x : HO} {d : D} {v : V} (h : Is F O H d v) (hp : O p) : Is F O (upd H p x) d v := h.mono (fun a y e n => by rw [upd_ne (fun z => n (by rw [z]; exact hp))]; exact e) fun _ _ _ z => z
theorem IsL.upd {F : Fx} {O : Addr → Prop} {H : Hp} {p : Addr} {x : HO} {d : List D} {v : List V} (h : IsL F O H d v) (hp : O p) : IsL F O (upd H p x) d v := h.mono (fun a y e n => by rw [upd_ne (fun z => n (by rw [z]; exact hp))]; exact e) fun _ _ _ z => z
theorem PD.upd {F : Fx} {O : Addr → Prop} {H : Hp} {p : Addr} {x : HO} {kvs : List (NestedKey × D)} {rows : List Row} (h : PD F O H kvs rows) (hp : O p) : PD F O (upd H p x) kvs rows := h.mono (fun a y e n => by rw [upd_ne (fun z => n (by rw [z]; exact hp))]; exact e) fun _ _ _ z => z
/-- the owned list of slot i becomes ys -/
theorem R.setL {F : Fx} {B : Bas} {ps : List (D × V)} {E : DEnv} {σ : L2.St} {H : Hp} {xs ys : List D} {p : Addr} {us : List V} (r : R F B ps E σ H) (e : E[i]? = some (.ow (.l xs))) (es : σ[i]? = some (some (.ref p))) (h : IsL F (own B E σ) H ys us) : R F B ps (E.set i (.ow (.l ys))) σ (upd H p (.lst us)) :=
  r.write e es ⟨us, upd_same, h.upd (.inr ⟨i, _, e, es⟩)⟩
/-! ### lists -/
theorem pvR {pins : List (Addr × Obj)} {σ : L2.St} {H : Hp} {s : Shared} {x : Str} {pos : Pos} {v : V} {Q : VK} (h : PE X (.Name x pos) (tVar i)) (e : σ[i]? = some (some v)) (q : Q v H) : tVar i σ H Q := ⟨v, e, q⟩
/-- one-argument method calls of built-ins: what must be seen of the text -/
structure MB1 (X : Cx) (o : Expr) (m : Str) (apos : Pos) (e : Expr) (cpos : Pos) : Prop where
  base : attributeBase o m X.env (eval o X.env) = eval o X.env
  few : ((backTo cpos (starEach [e] X.env)).all (fun x => !x.1) && (backToKw cpos (keywordEach [] X.env)).all (fun x => x.1.isSome) && decide (([e] : List Expr).length + ([] : List Keyword).length + (if ([] : List Keyword).isEmpty then 0 else 1) < 30)) = true
  line : (apos.endLine == cpos.line) = true
  st : starEach (e :: []) X.env = (false, eval e X.env) :: starEach [] X.env
  plain : (backTo cpos (starEach [] X.env)).any (·.1) = false
def tdAppend (i : Nat) (te : TDE) : TDS := fun Dd E => match E[i]? with
  | some (.ow (.l xs)) => te E fun d f => f.ok = true ∧ xs.length < sizeLine ∧ Dd.nx (E.set i (.ow (.l (xs ++ [d]))))
  | _ => False
theorem ds_append (hp : PE X o (tVar i)) (he : DE X e te) (m : MB1 X o "append" apos e cpos)
    (hs : swapsWith (.Call (.Attribute o "append" apos) [e] [] cpos) none pos.line X.env = pure false := by rfl) : DS X (.Expr (.Call (.Attribute o "append" apos) [e] [] cpos) pos) (tdAppend i te) :=
  ⟨fun F B ps E σ H Dd D' hF r t l => RunS.of (ps_expr (pe_bm PySem.F.plainAttrs_list PySem.F.slot_list_append PySem.F.type_list_append mt_append hp (pa_cons peR pa_nil m.st) m.base m.few m.line m.st m.plain) hs) (by
    unfold tdAppend at t
    split at t
    · rename_i xs ex
      obtain ⟨p, vs, e1, h1, l1, _⟩ := r.owL ex
      refine ⟨.ref p, e1, .inl ⟨rfl, vs, SqL.of h1⟩, he.run F B ps E σ H _ _ hF r t fun d f v H' q pp => ?_⟩
      obtain ⟨r', hd⟩ := pp.sh q.1
      obtain ⟨p', vs', e1', h1', l1', _⟩ := r'.owL ex
      rw [e1] at e1'; cases e1'
      exact ⟨p, vs', v, rfl, rfl, h1', by rw [← l1'.length]; exact q.2.1, l.nx _ _ _ q.2.2 (r'.setL ex e1 (l1'.append (.cons hd .nil)))⟩
    · exact t.elim)⟩
def tdExtend (i : Nat) (te : TDE) : TDS := fun Dd E => match E[i]? with
  | some (.ow (.l xs)) => te E fun d f => f.ok = true ∧ match d with
    | .l ys => xs.length + ys.length ≤ sizeLine ∧ Dd.nx (E.set i (.ow (.l (xs ++ ys))))
    | _ => False
  | _ => False
theorem ds_extend (hp : PE X o (tVar i)) (he : DE X e te) (m : MB1 X o "extend" apos e cpos)
    (hs : swapsWith (.Call (.Attribute o "extend" apos) [e] [] cpos) none pos.line X.env = pure false := by rfl) : DS X (.Expr (.Call (.Attribute o "extend" apos) [e] [] cpos) pos) (tdExtend i te) :=
  ⟨fun F B ps E σ H Dd D' hF r t l => RunS.of (ps_expr (pe_bm PySem.F.plainAttrs_list PySem.F.slot_list_extend PySem.F.type_list_extend mt_extend hp (pa_cons peR pa_nil m.st) m.base m.few m.line m.st m.plain) hs) (by
    unfold tdExtend at t
    split at t
    · rename_i xs ex
      obtain ⟨p, vs, e1, h1, l1, _⟩ := r.owL ex
      refine ⟨.ref p, e1, .inl ⟨rfl, vs, SqL.of h1⟩, he.run F B ps E σ H _ _ hF r t fun d f v H' q pp => ?_⟩
      obtain ⟨r', hd⟩ := pp.sh q.1
      obtain ⟨_, q⟩ := q
      split at q
      · rename_i ys
        obtain ⟨p', vs', e1', h1', l1', _⟩ := r'.owL ex
        rw [e1] at e1'; cases e1'
        obtain ⟨b, us, rfl, hb, _, lb⟩ := hd.lst
        exact ⟨p, b, vs', us, rfl, rfl, h1', hb, by rw [← l1'.length, ← lb.length]; exact q.1, l.nx _ _ _ q.2 (r'.setL ex e1 (l1'.append lb))⟩
      · exact q.elim
    · exact t.elim)⟩
theorem IsL.dropLast {F : Fx} {O : Addr → Prop} {H : Hp} {ds : List D} {vs : List V} (h : IsL F O H ds vs) : IsL F O H ds.dropLast vs.dropLast := by
  rw [List.dropLast_eq_take, List.dropLast_eq_take, h.length]
  exact h.take _
/-- y = x.pop() -/
def tdSetPop (i j : Nat) : TDS := fun Dd E => match E[i]? with
  | some (.ow (.l xs)) => ∃ y, xs[xs.length - 1]? = some y ∧ Dd.nx ((E.set i (.ow (.l xs.dropLast))).set j (.sh y))
  | _ => False
theorem ds_setPop {x : Str} {px : Pos} (hN : X.N.Nodup) (hi : X.N[j]? = some x) (hx : Loc X.env.scope x) (hp : PE X o (tVar i)) (hij : i ≠ j) (hbase : attributeBase o "pop" X.env (eval o X.env) = eval o X.env := by rfl) (hline : (apos.endLine == cpos.line) = true := by rfl)
    (hs : swapsWith (.Call (.Attribute o "pop" apos) [] [] cpos) (some (.Name x px)) pos.line X.env = pure false := by rfl) (hf : X.fn x = true ∨ X.env.scope.names.lookup x = some .local := by first | exact .inl rfl | exact .inr rfl | assumption) :
    DS X (.Assign [.Name x px] (.Call (.Attribute o "pop" apos) [] [] cpos) pos) (tdSetPop i j) :=
  ⟨fun F B ps E σ H Dd D' hF r t l => RunS.of (ps_set hN hi hx (pe_bm0 PySem.F.plainAttrs_list PySem.F.slot_list_pop PySem.F.type_list_pop mt_pop hp hbase hline) hs hf) (by
    unfold tdSetPop at t
    split at t
    · rename_i xs ex
      obtain ⟨y, ey, q⟩ := t
      obtain ⟨p, vs, e1, h1, l1, op⟩ := r.owL ex
      obtain ⟨v, ev, hv⟩ := l1.get ey
      rw [l1.length] at ev
      refine ⟨.ref p, e1, .inl ⟨rfl, vs, SqL.of h1⟩, p, vs, v, rfl, rfl, h1, ev, ?_⟩
      have r2 := r.setL ex e1 l1.dropLast
      refine l.nx _ _ _ q (r2.put_sh ((hv.upd op).mono (fun _ _ z _ => z) fun b x e z => ?_))
      rcases z with z | ⟨k, d, e2, e3⟩
      · exact .inl z
      · rcases get_set e2 with ⟨rfl, _, _⟩ | ⟨_, e2⟩
        · exact .inr ⟨i, _, ex, e3⟩
        · exact .inr ⟨k, d, e2, e3⟩
    · exact t.elim)⟩
/-- y.append(x.pop(e)) -/
def tdAppPop (i j : Nat) (te : TDE) : TDS := fun Dd E => match E[i]?, E[j]? with
  | some (.ow (.l xs)), some (.ow (.l ys)) => te E fun d _ => match d with
    | .a (.int k) => 0 ≤ k ∧ k < xs.length ∧ xs.length < 2 ^ 62 ∧ ys.length < sizeLine ∧ ∀ z, xs[k.toNat]? = some z → Dd.nx ((E.set i (.ow (.l (xs.eraseIdx k.toNat)))).set j (.ow (.l (ys ++ [z]))))
    | _ => False
  | _, _ => False
theorem ds_appPop {o2 : Expr} {apos2 cpos2 : Pos} (hij : i ≠ j) (hp2 : PE X o2 (tVar j)) (hp : PE X o (tVar i)) (he : DE X e te) (m2 : MB1 X o2 "append" apos2 (.Call (.Attribute o "pop" apos) [e] [] cpos) cpos2) (m : MB1 X o "pop" apos e cpos)
    (hs : swapsWith (.Call (.Attribute o2 "append" apos2) [.Call (.Attribute o "pop" apos) [e] [] cpos] [] cpos2) none pos.line X.env = pure false := by rfl) :
    DS X (.Expr (.Call (.Attribute o2 "append" apos2) [.Call (.Attribute o "pop" apos) [e] [] cpos] [] cpos2) pos) (tdAppPop i j te) :=
  ⟨fun F B ps E σ H Dd D' hF r t l => RunS.of (ps_expr (pe_bm PySem.F.plainAttrs_list PySem.F.slot_list_append PySem.F.type_list_append mt_append hp2 (pa_cons (pe_bm PySem.F.plainAttrs_list PySem.F.slot_list_pop PySem.F.type_list_pop mt_popAt hp (pa_cons peR pa_nil m.st) m.base m.few m.line m.st m.plain) pa_nil m2.st) m2.base m2.few m2.line m2.st m2.plain) hs) (by
    unfold tdAppPop at t
    split at t
    · rename_i xs ys ex ey
      obtain ⟨p2, vs2, e2, h2, l2, o2'⟩ := r.owL ey
      obtain ⟨p, vs, e1, h1, l1, o1'⟩ := r.owL ex
      refine ⟨.ref p2, e2, .inl ⟨rfl, vs2, SqL.of h2⟩, .ref p, e1, .inl ⟨rfl, vs, SqL.of h1⟩, he.run F B ps E σ H _ _ hF r t fun d f v H' q pp => ?_⟩
      obtain ⟨r', w⟩ := pp.val
      split at q
      · rename_i k
        obtain ⟨rfl, _⟩ := w.atm r'
        obtain ⟨q0, q1, qz, q2, q3⟩ := q
        obtain ⟨p', us, e1', h1', l1', o1⟩ := r'.owL ex
        rw [e1] at e1'; cases e1'
        obtain ⟨z, ez⟩ : ∃ z, xs[k.toNat]? = some z := ⟨_, List.getElem?_eq_getElem (by omega)⟩
        obtain ⟨vz, evz, hz⟩ := l1'.get ez
        have hlen := l1'.length
        refine ⟨p, us, k, k.toNat, vz, rfl, rfl, h1', by omega, by omega, seqIndex_of q0 (by omega), evz, ?_⟩
        have r2 := r'.setL ex e1 (l1'.eraseIdx k.toNat)
        have ey2 : (E.set i (.ow (.l (xs.eraseIdx k.toNat))))[j]? = some (.ow (.l ys)) := by rw [List.getElem?_set_ne hij]; exact ey
        obtain ⟨p2', us2, e2', h2', l2', o2⟩ := r2.owL ey2
        rw [e2] at e2'; cases e2'
        refine ⟨p2, us2, vz, rfl, rfl, h2', by rw [← l2'.length]; exact q2, l.nx _ _ _ (q3 z ez) (r2.setL ey2 e2 (l2'.append (.cons ?_ .nil)))⟩
        refine (hz.upd o1).mono (fun _ _ z _ => z) fun b x e z => ?_
        rcases z with z | ⟨k', d', e3, e4⟩
        · exact .inl z
        · rcases get_set e3 with ⟨rfl, _, _⟩ | ⟨_, e3⟩
          · exact .inr ⟨i, _, ex, e4⟩
          · exact .inr ⟨k', d', e3, e4⟩
      · exact q.elim
    · exact t.elim)⟩
/-- x[k] = v, x an owned list -/
def tdLSet (i : Nat) (tv tk : TDE) : TDS := fun Dd E => tv E fun dv fv => fv.ok = true ∧ match E[i]? with
  | some (.ow (.l xs)) => tk E fun dk _ => match dk with
    | .a (.int k) => ∃ j, ixN xs.length k = some j ∧ Dd.nx (E.set i (.ow (.l (xs.set j dv))))
    | _ => False
  | _ => False
theorem ds_lset (hp : PE X o (tVar i)) (hk : DE X ik tk) (hv : DE X value tv) (ha : ∀ v, assign (.Subscript o ik pos') X.env v = (do
      let ov ← holding [v] (eval o X.env)
      let iv ← holding [v, ov] (eval ik X.env)
      standAt pos'
      holding [v, ov, iv] (setItem ov iv v)
      release [v, ov, iv] []) := by intro _; rfl) (hs : swapsWithSole [.Subscript o ik pos'] value pos.line X.env = pure false := by rfl) (hw : swappedStores [.Subscript o ik pos'] value X.env = pure none := by rfl)
    (h1 : (assignEach [.Subscript o ik pos'] X.env).map (·.2) = [assign (.Subscript o ik pos') X.env] := by rfl) : DS X (.Assign [.Subscript o ik pos'] value pos) (tdLSet i tv tk) :=
  ⟨fun F B ps E σ H Dd D' hF r t l => RunS.of (ps_asg peR (pg_sub hp peR set_list ha) hs hw h1) (hv.run F B ps E σ H _ _ hF r t fun dv fv v H1 q pp => by
    obtain ⟨r1, hdv⟩ := pp.sh q.1
    obtain ⟨_, q⟩ := q
    split at q
    · rename_i xs ex
      obtain ⟨p, vs, e1, h1, l1, _⟩ := r1.owL ex
      refine ⟨.ref p, e1, hk.run F B _ E σ H1 _ _ hF (r1.pin hdv) q fun dk fk k H2 q2 p2 => ?_⟩
      obtain ⟨r2, w2⟩ := p2.val
      obtain ⟨r3, hdv'⟩ := r2.unpin
      split at q2
      · rename_i kk
        obtain ⟨ek, _⟩ := w2.atm r2
        obtain ⟨j, ej, q2⟩ := q2
        obtain ⟨p', us, e1', h1', l1', _⟩ := r3.owL ex
        rw [e1] at e1'; cases e1'
        exact ⟨p, us, kk, j, rfl, ek, h1', by rw [← l1'.length]; exact ej, l.nx _ _ _ q2 (r3.setL ex e1 (l1'.set j hdv'))⟩
      · exact q2.elim
    · exact q.elim)⟩
/-- x[k] op= e, x an owned list of ints -/
theorem pget_list : PGet X (rIxL X.K) := by
  intro pins s σ H x y v u Q I rx ry h
  obtain ⟨p, xs, i, z, rfl, rfl, hq, he, q⟩ := h
  cases rx
  obtain ⟨t, rfl⟩ := ry
  obtain ⟨its, r, pl, hz⟩ := I.list hq
  obtain ⟨j, h1, h2, h3, h4, h5⟩ := atI_get he
  obtain ⟨w, ew, rw'⟩ := r.get h2
  have hl := r.length
  have hn := line63
  have fin : EP X pins σ Q w s := ⟨z, H, I, rw', q⟩
  by_cases h0 : 0 ≤ i
  · have hj : i.toNat = j := by
      rw [seqIndex_of h0 h5] at h1
      exact Option.some.inj h1
    exact wpAny_getItem_list pl.isList h0 (by omega) (by rw [hj]; simpa using ew) fin
  · have hj : (i + (its.toArray.size : Int)).toNat = j := by
      rw [seqIndex_neg (by omega) h4] at h1
      rw [List.size_toArray, ← hl]
      exact Option.some.inj h1
    exact wpAny_getItem_list_neg pl.isList (by omega) (by rw [List.size_toArray] <;> omega) (by omega) (by rw [hj]; simpa using ew) fin
def tdLAug (i : Nat) (tk te : TDE) (g : Int → Int → Int) : TDS := fun Dd E => match E[i]? with
  | some (.ow (.l xs)) => tk E fun dk _ => match dk with
    | .a (.int k) => ∃ j y, ixN xs.length k = some j ∧ xs[j]? = some (.a (.int y)) ∧ te E fun de _ => match de with
      | .a (.int z) => Dd.nx (E.set i (.ow (.l (xs.set j (.a (.int (g y z)))))))
      | _ => False
    | _ => False
  | _ => False
theorem ds_laug {op : Operator} {g : Int → Int → Int} (hp : PE X o (tVar i)) (hk : DE X ik tk) (he : DE X e te) (ho : PIp X op (ipI g)) (ha : ∀ ov iv new, augStore ik ov iv new = (do holding [new, ov, iv] (setItem ov iv new); release [new, ov, iv] []; pure .next) := by intros; rfl) :
    DS X (.AugAssign (.Subscript o ik tpos) op e pos) (tdLAug i tk te g) :=
  ⟨fun F B ps E σ H Dd D' hF r t l => RunS.of (ps_augS hp peR pget_list peR ho set_list ha) (by
    unfold tdLAug at t
    split at t
    · rename_i xs ex
      obtain ⟨p, vs, e1, h1, l1, _⟩ := r.owL ex
      refine ⟨.ref p, e1, hk.run F B ps E σ H _ _ hF r t fun dk fk k H2 q2 p2 => ?_⟩
      obtain ⟨r2, w2⟩ := p2.val
      split at q2
      · rename_i kk
        obtain ⟨ek, _⟩ := w2.atm r2
        obtain ⟨j, y, ej, ey, q2⟩ := q2
        obtain ⟨p', us, e1', h1', l1', _⟩ := r2.owL ex
        rw [e1] at e1'; cases e1'
        obtain ⟨vy, evy, hy⟩ := l1'.get ey
        cases hy
        have eat : atI us kk = some (.int y) := by
          unfold atI
          rw [← l1'.length, ej]
          exact evy
        refine ⟨p, us, kk, .int y, rfl, ek, SqL.of h1', eat, he.run F B ps E σ H2 _ _ hF r2 q2 fun de fe ve H3 q3 p3 => ?_⟩
        obtain ⟨r3, w3⟩ := p3.val
        split at q3
        · rename_i z
          obtain ⟨ez, _⟩ := w3.atm r3
          obtain ⟨p'', us3, e1'', h1'', l1'', _⟩ := r3.owL ex
          rw [e1] at e1''; cases e1''
          exact ⟨y, z, rfl, ez, p, us3, kk, j, rfl, ek, h1'', by rw [← l1''.length]; exact ej, l.nx _ _ _ q3 (r3.setL ex e1 (l1''.set j (.a rfl)))⟩
        · exact q3.elim
      · exact q2.elim
    · exact t.elim)⟩
end
end DL
set_option Elab.async false
set_option linter.all false
set_option maxRecDepth 100000
/-! DLMut2: dicts changed and made. -/
namespace DL
open PySem PySem.Spec PyProof.Rows L2
theorem keys_aput {α : Type} {kvs : List (NestedKey × α)} {k : NestedKey} {v : α} : ∀ x ∈ (aput kvs k v).map (·.1), x = k ∨ x ∈ kvs.map (·.1) := by
  intro x hx
  unfold aput at hx
  split at hx
  · rw [List.map_map] at hx
    obtain ⟨q, hq, e⟩ := List.mem_map.mp hx
    refine .inr (List.mem_map.mpr ⟨q, hq, ?_⟩)
    rw [← e]
    simp only [Function.comp_apply]
    split <;> rfl
  · rw [List.map_append, List.mem_append] at hx
    rcases hx with hx | hx
    · exact .inr hx
    · exact .inl (by simpa using hx)
theorem KKind.sub {ks ks' : List NestedKey} (h : KKind ks) (s : ∀ x ∈ ks', x ∈ ks) : KKind ks' := by
  rcases h with h | h
  · exact .inl fun k hk => h k (s k hk)
  · exact .inr fun k hk => h k (s k hk)
theorem KKind.put {α : Type} {kvs : List (NestedKey × α)} {k : NestedKey} {v : α} (h : KKind (k :: kvs.map (·.1))) : KKind ((aput kvs k v).map (·.1)) := h.sub fun x hx => by
  rcases keys_aput x hx with e | e
  · rw [e]; exact List.mem_cons_self
  · exact List.mem_cons_of_mem _ e
theorem KKind.drop {α : Type} {kvs : List (NestedKey × α)} {k : NestedKey} (h : KKind (kvs.map (·.1))) : KKind ((adrop kvs k).map (·.1)) := h.sub fun x hx => by
  obtain ⟨q, hq, e⟩ := List.mem_map.mp hx
  exact List.mem_map.mpr ⟨q, (List.mem_filter.mp hq).1, e⟩
/-- x[k] = v by values, x a dict -/
def rSetD (X : Cx) : V → V → V → Hp → (Hp → Prop) → Prop := fun x y v H Q => DAsk X x y H fun F O a rows kvs k => kvs.length < sizeLine ∧ ∀ o', DRel F.w o' (rput rows k y v) → Q (upd H a (.ext (Lit a o')))
section
variable {X : Cx} {a b c e o ik value f : Expr} {es : List Expr} {te tk tv tx : TDE} {pos pos' tpos apos cpos : Pos} {i j : Nat}
theorem ps_dsetX {td ty tv : TE} (hu : X.A.units + 9 < cLine) (ho : PE X o td) (hi : PE X ik ty) (hv : PE X value tv) (hs : swapsWith value (some (.Subscript o ik pos')) pos.line X.env = pure false) :
    PS X (.Assign [.Subscript o ik pos'] value pos) (fun D σ H => tv σ H fun v H1 => td σ H1 fun x H2 => ty σ H2 fun y H3 => rSetD X x y v H3 fun H4 => D.nx σ H4) := by
  refine ⟨fun pins s σ H D I h => ?_⟩
  refine wpAny_Assign_Subscript (thn (hv.run pins s σ H _ I h) fun r s1 ⟨v, H1, I1, rv, q1⟩ => thn (ho.run pins s1 σ H1 _ I1 q1) fun u s2 ⟨x, H2, I2, rx, q2⟩ => thn (hi.run pins s2 σ H2 _ I2 q2) fun iv s3 ⟨y, H3, I3, ry, q3⟩ => ?_) hs
  obtain ⟨a, F, O, o', rows, kvs, k, rfl, hF, hd, hk, kk, hz, q⟩ := q3
  obtain rfl : u = Value.ref a := rx
  exact dd_set hu I3 hF hd hk kk ry rv hz fun o2 s4 I4 hr => ⟨σ, _, I4, q o2 hr⟩
def tdDSet (i : Nat) (tv tk : TDE) : TDS := fun Dd E => tv E fun dv fv => fv.ok = true ∧ match E[i]? with
  | some (.ow (.d kvs)) => tk E fun dk _ => asKey dk (kvs.map (·.1)) fun k => kvs.length < sizeLine ∧ Dd.nx (E.set i (.ow (.d (aput kvs k dv))))
  | _ => False
theorem DAt.put {F : Fx} {O : Addr → Prop} {H : Hp} {p : Addr} {o o' : Obj} {rows : List Row} {kvs : List (NestedKey × D)} {k : NestedKey} {y v : V} {d : D} (h : DAt F O H p o rows kvs) (hp : O p) (hk : Is F O H (ofKey k) y) (kk : KKind (k :: kvs.map (·.1))) (hv : Is F O H d v) (hr : DRel F.w o' (rput rows k y v)) :
    DAt F O (upd H p (.ext (Lit p o'))) p o' (rput rows k y v) (aput kvs k d) := ⟨upd_same, h.sys, hr, kk.put, (h.pd.put hk hv).upd hp⟩
theorem DAt.drop {F : Fx} {O : Addr → Prop} {H : Hp} {p : Addr} {o o' : Obj} {rows : List Row} {kvs : List (NestedKey × D)} {k : NestedKey} (h : DAt F O H p o rows kvs) (hp : O p) (hr : DRel F.w o' (adrop rows k)) :
    DAt F O (upd H p (.ext (Lit p o'))) p o' (adrop rows k) (adrop kvs k) := ⟨upd_same, h.sys, hr, h.kind.drop, (h.pd.drop k).upd hp⟩
theorem ds_dset (hu : X.A.units + 9 < cLine) (hp : PE X o (tVar i)) (hk : DE X ik tk) (hv : DE X value tv) (hs : swapsWith value (some (.Subscript o ik pos')) pos.line X.env = pure false := by rfl) : DS X (.Assign [.Subscript o ik pos'] value pos) (tdDSet i tv tk) :=
  ⟨fun F B ps E σ H Dd D' hF r t l => RunS.of (ps_dsetX hu hp peR peR hs) (hv.run F B ps E σ H _ _ hF r t fun dv fv v H1 q pp => by
    obtain ⟨r1, hdv⟩ := pp.sh q.1
    obtain ⟨_, q⟩ := q
    split at q
    · rename_i kvs ex
      obtain ⟨p, o1, rows1, e1, _, _⟩ := r1.owD ex
      refine ⟨.ref p, e1, hk.run F B _ E σ H1 _ _ hF (r1.pin hdv) q fun dk fk y H2 q2 p2 => ?_⟩
      obtain ⟨r2, w2⟩ := p2.val
      obtain ⟨r3, hdv'⟩ := r2.unpin
      obtain ⟨k, ek, kk, hz, q2⟩ := q2
      obtain ⟨p', o2, rows, e1', hd, op⟩ := r3.owD ex
      rw [e1] at e1'; cases e1'
      have hk' := Val.isAny r3 w2 ek
      exact ⟨p, F, _, o2, rows, kvs, k, rfl, hF, hd, hk', kk, hz, fun o3 hr => l.nx _ _ _ q2 (r3.write ex e1 (hd.put op hk' kk hdv' hr).root)⟩
    · exact q.elim)⟩
/-- x.pop(k, d) as a statement -/
theorem pe_popX {td ty tx : TE} (hu : X.A.units + 9 < cLine) (ho : PE X o td) (he : PE X e ty) (hf : PE X f tx) (m : M2 X o "pop" apos e f cpos) : PE X (.Call (.Attribute o "pop" apos) [e, f] [] cpos)
    (fun σ H Q => td σ H fun x H1 => ∃ a ob, x = .ref a ∧ H1 a = some (.ext (Lit a ob)) ∧ ob.ExactDict ∧ ty σ H1 fun y H2 => tx σ H2 fun z H3 => DAsk X x y H3 fun F O a rows kvs k =>
      ((aget kvs k).isSome = true → ∀ o' v, DRel F.w o' (adrop rows k) → Q v (upd H3 a (.ext (Lit a o')))) ∧ (aget kvs k = none → Q z H3)) := by
  refine ⟨fun pins s σ H Q I h => ?_⟩
  refine wpAny_Call_method m.base m.few m.line PySem.F.plainAttrs_dict PySem.F.slot_dict_pop PySem.F.type_dict_pop (thn (ho.run pins s σ H _ I h) fun u s1 ⟨x, H1, I1, rx, a, ob, ex, ha, hx, q1⟩ => ?_)
  subst ex
  obtain rfl : u = Value.ref a := rx
  have hg := inv_lit I1 ha
  refine ⟨⟨ob, hg, hx.1⟩, fun b q => by cases q; exact ⟨ob, hg, hx.2.1⟩, ?_⟩
  rw [m.trees]
  refine Calls.callWith_builtin rfl (Calls.evalArgs_plain (Calls.spliced_cons (thn (he.run pins s1 σ H1 _ I1 q1) fun iv s2 ⟨y, H2, I2, ry, q2⟩ =>
    Calls.spliced_cons (thn (hf.run pins s2 σ H2 _ I2 q2) fun fv s3 ⟨z, H3, I3, rz, q3⟩ => Calls.spliced_nil ?_))))
  obtain ⟨a', F, O, ob', rows, kvs, k, ea, hF, hd, hk, kk, q4, q5⟩ := q3
  cases ea
  exact dd_pop hu I3 hF hd hk kk ry rz (fun e o' v w' s4 I4 hr rv => ⟨v, _, I4, rv, q4 e o' v hr⟩) fun e s4 I4 => ⟨z, H3, I4, rz, q5 e⟩
def tdDPop (i : Nat) (tk tx : TDE) : TDS := fun Dd E => match E[i]? with
  | some (.ow (.d kvs)) => tk E fun dk _ => tx E fun _ _ => asKey dk (kvs.map (·.1)) fun k => Dd.nx (E.set i (.ow (.d (adrop kvs k))))
  | _ => False
theorem adrop_none {kvs : List (NestedKey × D)} {k : NestedKey} (h : aget kvs k = none) : adrop kvs k = kvs := by
  unfold adrop
  induction kvs with
  | nil => rfl
  | cons q r ih =>
    rw [aget_cons] at h
    by_cases e : q.1 = k
    · rw [if_pos e] at h; cases h
    · rw [if_neg e] at h
      rw [List.filter_cons, if_pos (by simp [e]), ih h]
theorem setEq {E : DEnv} {s : Slot} (h : E[i]? = some s) : E.set i s = E := by
  apply List.ext_getElem?
  intro j
  by_cases hj : i = j
  · subst hj; rw [List.getElem?_set_self (List.getElem?_eq_some_iff.mp h).1, h]
  · rw [List.getElem?_set_ne hj]
theorem ds_dpop (hu : X.A.units + 9 < cLine) (hp : PE X o (tVar i)) (hk : DE X e tk) (hx : DE X f tx) (m : M2 X o "pop" apos e f cpos) (hs : swapsWith (.Call (.Attribute o "pop" apos) [e, f] [] cpos) none pos.line X.env = pure false := by rfl) : DS X (.Expr (.Call (.Attribute o "pop" apos) [e, f] [] cpos) pos) (tdDPop i tk tx) :=
  ⟨fun F B ps E σ H Dd D' hF r t l => RunS.of (ps_expr (pe_popX hu hp peR peR m) hs) (by
    unfold tdDPop at t
    split at t
    · rename_i kvs ex
      obtain ⟨p, o1, rows1, e1, hd1, _⟩ := r.owD ex
      refine ⟨.ref p, e1, p, o1, rfl, hd1.at_, hd1.rel.ex, ?_⟩
      refine two (C := fun dk _ _ _ => asKey dk (kvs.map (·.1)) fun k => Dd.nx (E.set i (.ow (.d (adrop kvs k))))) hk hx hF r t fun d2 f2 d3 f3 v2 v3 H3 q3 r3 w2 w3 => ?_
      obtain ⟨k, ek, kk, q3⟩ := q3
      obtain ⟨p', o2, rows, e1', hd, op⟩ := r3.owD ex
      rw [e1] at e1'; cases e1'
      refine ⟨p, F, _, o2, rows, kvs, k, rfl, hF, hd, w2.isAny r3 ek, kk, fun _ o3 v hr => l.nx _ _ _ q3 (r3.write ex e1 (hd.drop op hr).root), fun e => l.nx _ _ _ q3 ?_⟩
      rw [adrop_none e, setEq ex]
      exact r3
    · exact t.elim)⟩
/-! ### new dicts -/
def emptyD : Obj := { cls := .type "dict", data := .dict #[] }
theorem drel_empty {w : World} : DRel w emptyD [] := ⟨⟨rfl, rfl, rfl⟩, ⟨#[], 0, rfl, .nil⟩, List.nodup_nil, Nat.zero_le _⟩
theorem datE {F : Fx} {O : Addr → Prop} {H : Hp} {p : Addr} (h : H p = some (.ext (Lit p emptyD))) (hp : (p == sysModules) = false) : DAt F O H p emptyD [] [] := ⟨h, hp, drel_empty, .inl fun k hk => absurd hk (by simp), .nil⟩
theorem obj_lit {P : Program} {w : World} {H : Hp} {h : Heap} {p : Addr} {o : Obj} (e : h.get? p = some o) : ObjOk P w H h p (.ext (Lit p o)) := ⟨e, ⟨o, e⟩, fun _ _ q1 q2 => q2 _ q1⟩
theorem pe_dnewX : PE X (.Dict [] [] pos) (fun σ H Q => ∀ p, H p = none → (p == sysModules) = false → Q (.ref p) (upd H p (.ext (Lit p emptyD)))) := ⟨fun pins s σ H Q I h =>
  wpAny_Dict_empty ⟨.ref s.heap.objs.size, _, I.laid (a := s.heap.objs.size) (o := .ext (Lit s.heap.objs.size emptyD)) (t' := s.toks) (fun _ _ q => Heap.get?_push_of_some _ q) (Nat.le_refl _) (obj_lit (Heap.get?_push_size _ rfl)), rfl,
    h _ (I.hok.fresh (Nat.le_refl _)) (beq_eq_false_iff_ne.mpr (Ne.symm (Nat.ne_of_lt I.big)))⟩⟩
theorem de_dnew : DE X (.Dict [] [] pos) (fun _ Q => Q (.d []) .fr) :=
  ⟨fun F B ps E σ H Qd Q hF r t k => Run.of pe_dnewX fun p hp hs => k _ .fr _ _ t (r.laid hp (datE upd_same hs).root)⟩
theorem R.toRoot {F : Fx} {B : Bas} {ps : List (D × V)} {E : DEnv} {σ : L2.St} {H : Hp} {d : D} {p : Addr} (r : R F (B.plus p) ps E σ H) (rt : Root F (own (B.plus p) E σ) H d p) (nd : F.de ≠ some p) : R F (B.root d p) ps E σ H :=
  ⟨r.len, r.kept, r.o0, r.dice, r.sh, r.ow, r.inj, r.hid, fun q hq => by
    rcases List.mem_cons.mp hq with e | hq
    · subst e; exact ⟨.inr rfl, nd, rt⟩
    · exact r.rts q hq, r.pins⟩
theorem R.ofRoot {F : Fx} {B : Bas} {ps : List (D × V)} {E : DEnv} {σ : L2.St} {H : Hp} {d : D} {p : Addr} (r : R F (B.root d p) ps E σ H) : R F (B.plus p) ps E σ H ∧ Root F (own (B.plus p) E σ) H d p :=
  ⟨⟨r.len, r.kept, r.o0, r.dice, r.sh, r.ow, r.inj, r.hid, fun q hq => r.rts q (List.mem_cons_of_mem _ hq), r.pins⟩, (r.rts (d, p) List.mem_cons_self).2.2⟩
/-- the facts of a new thing that is being made at p -/
structure Fresh (F : Fx) (B : Bas) (E : DEnv) (σ : L2.St) (p : Addr) : Prop where
  h0 : B.H0 p = none
  no : ¬ own B E σ p
  de : F.de ≠ some p
  rs : ∀ q ∈ B.rs, B.O0 q.2
theorem Post.fresh {F : Fx} {B : Bas} {ps : List (D × V)} {E : DEnv} {σ : L2.St} {H : Hp} {d : D} {p : Addr} (h : Post F B ps E σ d .fr (.ref p) H) : R F (B.root d p) ps E σ H ∧ Fresh F B E σ p := by
  obtain ⟨a, e, r, rt, n1, n2, nd, hr⟩ := h
  cases e
  exact ⟨r.toRoot rt nd, n1, n2, nd, hr⟩
theorem Fresh.post {F : Fx} {B : Bas} {ps : List (D × V)} {E : DEnv} {σ : L2.St} {H : Hp} {d : D} {p : Addr} (f : Fresh F B E σ p) (r : R F (B.root d p) ps E σ H) : Post F B ps E σ d .fr (.ref p) H :=
  ⟨p, rfl, r.ofRoot.1, r.ofRoot.2, f.h0, f.no, f.de, f.rs⟩
/-- what is being made is written -/
theorem Fresh.write {F : Fx} {B : Bas} {ps : List (D × V)} {E : DEnv} {σ : L2.St} {H : Hp} {d d' : D} {p : Addr} {o : HO} (f : Fresh F B E σ p) (r : R F (B.root d p) ps E σ H) (rt : Root F (own (B.plus p) E σ) (upd H p o) d' p) : R F (B.root d' p) ps E σ (upd H p o) := by
  refine (r.ofRoot.1.writeO (.inr rfl) f.h0 f.de (fun i d e es => ?_) fun q hq e => ?_).toRoot rt f.de
  · obtain ⟨b, e1, _, _, n⟩ := r.ow i d e
    rw [es] at e1; cases e1
    exact n (.inr rfl)
  · exact f.no (.inl (e ▸ f.rs q hq))
theorem owned_root {B : Bas} {E : DEnv} {σ : L2.St} {p : Addr} (d : D) : own (B.root d p) E σ p := .inl (.inr rfl)
/-! {k: v}: one pair -/
def tDisp1 (X : Cx) (tk tv : TE) (C : NestedKey → Prop) : TE := fun σ H Q => ∀ p, H p = none → (p == sysModules) = false → tk σ (upd H p (.ext (Lit p emptyD))) fun y H1 => tv σ H1 fun v H2 => DAsk X (.ref p) y H2 fun F O a rows kvs k => kvs = [] ∧ C k ∧ ∀ o', DRel F.w o' [(k, y, v)] → Q (.ref a) (upd H2 a (.ext (Lit a o')))
theorem one_len {k : NestedKey} {y v : V} : [((k, y, v) : Row)].length ≤ sizeLine := by rw [sizeLine_eq]; show 1 ≤ 16777216; omega
theorem pe_dispT {ke ve : Expr} {tk tv : TE} (hu : X.A.units + 9 < cLine) (hk : PE X ke tk) (hv : PE X ve tv) : PE X (.Dict [some ke] [ve] pos) (tDisp1 X tk tv fun k => ∃ l, k = .tup l) := by
  refine ⟨fun pins s σ H Q I h => ?_⟩
  have hn := I.hok.fresh (Nat.le_refl s.heap.objs.size)
  have I1 := I.laid (a := s.heap.objs.size) (o := .ext (Lit s.heap.objs.size emptyD)) (h' := s.heap.push { cls := .type "dict", data := .dict #[] }) (t' := s.toks) (fun _ _ q => Heap.get?_push_of_some _ q) (Nat.le_refl _) (obj_lit (Heap.get?_push_size _ rfl))
  have hq := h _ hn (beq_eq_false_iff_ne.mpr (Ne.symm (Nat.ne_of_lt I.big)))
  rw [arm_eval_Dict, zip_pairTrees [some ke] [ve] X.env pos rfl rfl, dictDisplay_pairs (pairTrees [some ke] [ve] X.env pos) (by intro z; cases z) (by show 1 < 17; omega)]
  refine wpAny_bind (wpAny_standAt (wpAny_bind (wpAny_subDictH (knd := nestedKind X.prog X.w) (Q := fun d s' => wpAny (model X.prog X.w) X.A (pure (Value.ref d)) (EP X pins σ Q) X.xe s') (show X.A.units + 8 < cLine by omega) (by show 1 ≤ 15; omega) ?_)))
  refine pairTrees_cons_walk (thn (hk.run pins _ σ _ _ I1 hq) fun u s1 ⟨y, H1, I1', ry, q1⟩ => thn (hv.run pins s1 σ H1 _ I1' q1) fun w2 s2 ⟨v, H2, I2, rv, q2⟩ => pairTrees_nil_walk ?_)
  obtain ⟨a, F, O, o, rows, kvs, k, ea, hF, hd, hkk, kk, rfl, ⟨l, rfl⟩, q⟩ := q2
  cases ea
  obtain ⟨b, rfl⟩ := is_tupA hkk
  cases ry
  obtain ⟨xs, px, hdo⟩ := hd.tup I2 hF (fun k hk => absurd hk (by simp))
  have hrows : rows = [] := by
    have := hd.pd
    cases this
    rfl
  subst hrows
  cases px
  have nk : (nestedKind X.prog X.w).is s2.heap (.tup l) b := ⟨is_nested I2 hF.K _ _ _ hkk rfl, (kk_tup kk).1⟩
  refine ⟨[(.tup l, b, w2)], ⟨rfl, rfl, nk, trivial⟩, hdo, fun h' tk' hdk hs => wpAny_pure ?_⟩
  have hdk : h'.DictOfH (nestedKind X.prog X.w) s.heap.objs.size [(.tup l, b, w2)] := hdk
  obtain ⟨o', hg, hr⟩ := rel_tup (X := X) (rows := [(.tup l, .ref b, v)]) hF.w (.cons ⟨rfl, rfl, rv⟩ .nil) one_len hdk
  exact ⟨.ref s.heap.objs.size, _, inv_lay I2 hd.at_ hs hg, rfl, q o' hr⟩
theorem pe_dispI {ke ve : Expr} {tk tv : TE} (hk : PE X ke tk) (hv : PE X ve tv) : PE X (.Dict [some ke] [ve] pos) (tDisp1 X tk tv fun k => ∃ i, k = .num i) := by
  refine ⟨fun pins s σ H Q I h => ?_⟩
  have hn := I.hok.fresh (Nat.le_refl s.heap.objs.size)
  have I1 := I.laid (a := s.heap.objs.size) (o := .ext (Lit s.heap.objs.size emptyD)) (h' := s.heap.push { cls := .type "dict", data := .dict #[] }) (t' := s.toks) (fun _ _ q => Heap.get?_push_of_some _ q) (Nat.le_refl _) (obj_lit (Heap.get?_push_size _ rfl))
  have hq := h _ hn (beq_eq_false_iff_ne.mpr (Ne.symm (Nat.ne_of_lt I.big)))
  refine wpAny_Dict_walk (knd := intKind X.prog X.w) rfl rfl (by intro z; cases z) (by show 1 ≤ 15; omega) ?_
  refine pairTrees_cons_walk (thn (hk.run pins _ σ _ _ I1 hq) fun u s1 ⟨y, H1, I1', ry, q1⟩ => thn (hv.run pins s1 σ H1 _ I1' q1) fun w2 s2 ⟨v, H2, I2, rv, q2⟩ => pairTrees_nil_walk ?_)
  obtain ⟨a, F, O, o, rows, kvs, k, ea, hF, hd, hkk, kk, rfl, ⟨i, rfl⟩, q⟩ := q2
  cases ea
  have ey := is_num hkk
  subst ey
  obtain ⟨t, rfl⟩ := ry
  obtain ⟨vs, px, hdo⟩ := hd.int I2 hF (fun k hk => absurd hk (by simp))
  have hrows : rows = [] := by
    have := hd.pd
    cases this
    rfl
  subst hrows
  cases px
  refine ⟨[(i, w2)], ⟨int_is, rfl, trivial⟩, hdo, fun h' hdk hs => ?_⟩
  have hdk : h'.DictOf (intKind X.prog X.w) s.heap.objs.size [(i, w2)] := hdk
  obtain ⟨o', hg, hr⟩ := rel_int (X := X) (rows := [(.num i, .int i, v)]) hF.w (.cons ⟨rfl, rfl, rv⟩ .nil) one_len hdk
  exact ⟨.ref s.heap.objs.size, _, inv_lay I2 hd.at_ hs hg, rfl, q o' hr⟩
def tdDisp1 (C : NestedKey → Prop) (tk tv : TDE) : TDE := fun E Q => tk E fun dk _ => tv E fun dv fv => fv.ok = true ∧ asKey dk [] fun k => C k ∧ Q (.d [(k, dv)]) .fr
theorem disp_of {ke ve : Expr} {C : NestedKey → Prop} {F : Fx} {B : Bas} {ps : List (D × V)} {E : DEnv} {σ : L2.St} {H : Hp} {Qd : D → Fl → Prop} {Q : VK} (hk : DE X ke tk) (hv : DE X ve tv) (hF : FOk X F) (r : R F B ps E σ H) (t : tdDisp1 C tk tv E Qd) (k : ∀ d f v H', Qd d f → Post F B ps E σ d f v H' → Q v H') :
    tDisp1 X (fun σ H Q => Run X ke σ H Q) (fun σ H Q => Run X ve σ H Q) C σ H Q := by
  intro p hp hs
  obtain ⟨r1, fr⟩ := (r.laid (d := .d []) (o := .ext (Lit p emptyD)) hp (datE upd_same hs).root).fresh
  refine two (C := fun dk _ dv fv => fv.ok = true ∧ asKey dk [] fun k => C k ∧ Qd (.d [(k, dv)]) .fr) hk hv hF r1 t fun d1 f1 d2 f2 v1 v2 H2 q r2 w1 w2 => ?_
  obtain ⟨ok, kk, e1, e2, hc, q⟩ := q
  obtain ⟨o, rows, hd⟩ := (r2.rts (.d [], p) List.mem_cons_self).2.2.dat
  have hdv := w2.is ok
  have hk1 := w1.isAny r2 e1
  have hrows : rows = [] := by
    have := hd.pd
    cases this
    rfl
  subst hrows
  refine ⟨p, F, _, o, [], [], kk, rfl, hF, hd, hk1, e2, rfl, hc, fun o' hr => ?_⟩
  have hda := hd.put (d := d2) (v := v2) (y := v1) (owned_root (.d [])) hk1 e2 hdv hr
  exact k _ .fr _ _ q (fr.post (fr.write r2 hda.root))
theorem de_dispT {ke ve : Expr} (hu : X.A.units + 9 < cLine) (hk : DE X ke tk) (hv : DE X ve tv) : DE X (.Dict [some ke] [ve] pos) (tdDisp1 (fun k => ∃ l, k = .tup l) tk tv) :=
  ⟨fun F B ps E σ H Qd Q hF r t k => Run.of (pe_dispT hu peR peR) (disp_of hk hv hF r t k)⟩
theorem de_dispI {ke ve : Expr} (hk : DE X ke tk) (hv : DE X ve tv) : DE X (.Dict [some ke] [ve] pos) (tdDisp1 (fun k => ∃ i, k = .num i) tk tv) :=
  ⟨fun F B ps E σ H Qd Q hF r t k => Run.of (pe_dispI peR peR) (disp_of hk hv hF r t k)⟩
end
end DL
set_option Elab.async false
set_option linter.all false
set_option maxRecDepth 100000
/-! DLIter: walks over dicts, enumerate, zip, reversed. -/
namespace DL
open PySem PySem.Spec PyProof.Rows L2
/-! ### a dict's keys -/
def Itkk (p : Addr) (o : Obj) (rows : List Row) : It := ⟨fun i H => H p = some (.ext (Lit p o)) ∧ i < rows.length, fun i H x H' => H' = H ∧ ∃ r, rows[i]? = some r ∧ x = r.2.1, fun i H => H p = some (.ext (Lit p o)) ∧ rows.length ≤ i⟩
theorem turn_kk {P : Program} {w w0 : World} {K : PySem.W.Frag} {tg : Expr} {p : Addr} {o : Obj} {rows : List Row} {es : Array DictEntry} {ep : Nat} (it : Addr) (hx : o.ExactDict) (hod : o.data = .dict es ep)
    (pr : Paired (fun (r : Row) (e : DictEntry) => e.hash = r.1.hash w0 ∧ RelV r.2.1 e.key ∧ RelV r.2.2 e.val) rows es.toList) : Turn P w K tg (Itkk p o rows) [it] it (fun i h => h.IsKeyIter it p i es.size ep) where
  mem := List.mem_cons_self
  obj := fun i h st b hb => by
    cases List.mem_singleton.mp hb
    obtain ⟨oi, h1, _, h2⟩ := st
    exact ⟨oi, h1, fun v z => by rw [h2] at z; cases z⟩
  keep := fun i h h' st k => st.at fun oi e => k it List.mem_cons_self oi e
  item := by
    intro X hP hw hK hc i pins s σ H E I hf st hg
    subst hP hw hK
    obtain ⟨hd, hi⟩ := hg
    obtain ⟨f0, f1, f2, f3, f4, f5⟩ := hf it List.mem_cons_self
    have lr : rows.length = es.size := by rw [Paired.length pr, Array.length_toList]
    have hi' : i < es.size := by omega
    obtain ⟨r, er⟩ : ∃ r, rows[i]? = some r := ⟨_, List.getElem?_eq_getElem hi⟩
    obtain ⟨en, h3, h4⟩ := rows_get pr er
    rw [Array.getElem?_toList, Array.getElem?_eq_getElem hi'] at h3
    cases h3
    refine wpAny_pyNext_keys_item_raw st ⟨o, inv_lit I hd, hx, hod⟩ hi' fun h' st' sb => ?_
    have I1 : Inv X pins σ H { s with heap := h' } := I.turned (t' := s.toks) (fun b ob hb e => (sb.2 b hb).trans e) f0 f1 f3 f4 f5
    obtain ⟨oi, e1, e2, e3⟩ := id st'
    exact ⟨_, rfl, go_of (s := { s with heap := h' }) e1 e2 e3 (by decide) ⟨r.2.1, H, I1, h4, ⟨rfl, r, er, rfl⟩, st', fun b hb => (hf b hb).1⟩⟩
  done := by
    intro X hP hw hK hc i pins s σ H E I hf st hg
    subst hP hw hK
    obtain ⟨hd, hi⟩ := hg
    obtain ⟨f0, f1, f2, f3, f4, f5⟩ := hf it List.mem_cons_self
    have lr : rows.length = es.size := by rw [Paired.length pr, Array.length_toList]
    exact wpAny_pyNext_keys_end_raw (I.ok.hd hc) st ⟨o, inv_lit I hd, hx, hod⟩ (by omega) fun h' eb => ⟨rfl, I.turned (t' := s.toks) (fun b ob hb e => eb b ob hb e) f0 f1 f3 f4 f5⟩
  self := fun A i s Q E st h => wpAny_pyIter_keyiter st h
section
variable {X : Cx} {tg e e2 l : Expr} {te : TDE} {ta : TDA} {pos p tpos : Pos} {elts : List Expr} {kk : Nat}
theorem pi_kk {td : TE} (he : PE X e td) : PI X tg e (fun σ H Rk => td σ H fun x H1 => ∃ (a : Addr) (F : Fx) (O : Addr → Prop) (o : Obj) (rows : List Row) (kvs : List (NestedKey × D)), x = .ref a ∧ DAt F O H1 a o rows kvs ∧ Rk (Itkk a o rows) H1) := by
  refine ⟨fun pins s σ H Rk I h => thn (he.run pins s σ H _ I h) fun u s1 ⟨x, H1, I1, rx, a, F, O, o, rows, kvs, ex, hd, q⟩ => ?_⟩
  subst ex
  cases (show u = Value.ref a from rx)
  obtain ⟨es, ep, e1, pr⟩ := hd.rel.ents
  refine wpAny_pyIter_dict_raw hd.sys ⟨o, inv_lit I1 hd.at_, hd.rel.ex, e1⟩ (pi_one (tk := s1.toks) I1 _ (turn_kk _ hd.rel.ex e1 pr) ⟨_, Heap.get?_push_size _ rfl, rfl, rfl⟩ q)
theorem Is.dat {F : Fx} {O : Addr → Prop} {H : Hp} {kvs : List (NestedKey × D)} {v : V} (h : Is F O H (.d kvs) v) : ∃ a o rows, v = .ref a ∧ DAt F O H a o rows kvs := by
  cases h with
  | d h1 _ h2 h3 h4 h5 h6 h7 => exact ⟨_, _, _, rfl, h1, h2, h3, by rw [h5]; exact h4, PD.of h5 h6 h7⟩
theorem pd_rowKey {F : Fx} {O : Addr → Prop} {H : Hp} {kvs : List (NestedKey × D)} {rows : List Row} (h : PD F O H kvs rows) : ∀ {i : Nat} {r : Row}, rows[i]? = some r → ∃ q, kvs[i]? = some q ∧ Is F O H (ofKey q.1) r.2.1 := by
  unfold PD at h
  induction h with
  | nil => intro i r e; simp at e
  | @cons p q ps qs h t ih =>
    intro i r e
    cases i with
    | zero => simp at e; subst e; exact ⟨p, rfl, h.2.1⟩
    | succ i =>
      obtain ⟨q', h1, h2⟩ := ih (i := i) (r := r) (by simpa using e)
      exact ⟨q', by simpa using h1, h2⟩
theorem pinned_cons {F : Fx} {d : D} {v : V} {ps : List (D × V)} {O : Addr → Prop} {H : Hp} (h : Pinned F ((d, v) :: ps) O H) : Is F O H d v ∧ Pinned F ps O H := ⟨h (d, v) List.mem_cons_self, fun p hp => h p (List.mem_cons_of_mem _ hp)⟩
theorem ofKeys_map : ∀ ks : List NestedKey, ofKeys ks = ks.map ofKey
  | [] => rfl
  | k :: ks => by show ofKey k :: ofKeys ks = _; rw [ofKeys_map ks]; rfl
theorem is_lst {F : Fx} {O : Addr → Prop} {H : Hp} {ds : List D} {v : V} (h : Is F O H (.l ds) v) : ∃ vs, IsL F O H ds vs ∧ ∃ a, v = .ref a ∧ H a = some (.lst vs) := by
  obtain ⟨a, vs, e, h1, _, h2⟩ := h.lst
  exact ⟨vs, h2, a, e, h1⟩
/-- the keys' values are pinned as they stand: the dict's object by its address, its keys one by one -/
theorem walks_kk {F : Fx} {a : Addr} {o : Obj} {rows : List Row} {ks : List D} {vs : List V} (hv : vs = rows.map (·.2.1)) (hl : ks.length = vs.length) : Walks F (Itkk a o rows) ks (Pinned F ((.raw (.ext (Lit a o)), .ref a) :: ks.zip vs)) := by
  subst hv
  intro i H' O hp hO
  obtain ⟨h0, hp⟩ := pinned_cons hp
  have hks := (IsL.zip_pins hl).mp hp
  rw [List.length_map] at hl
  have hat : H' a = some (.ext (Lit a o)) := by
    cases h0 with
    | raw h _ => exact h
  refine ⟨fun hi => ⟨hat, by omega⟩, fun x e => ?_⟩
  have hi : i < ks.length := (List.getElem?_eq_some_iff.mp e).1
  obtain ⟨v0, ev0, hv0⟩ := hks.get e
  refine ⟨⟨hat, by omega⟩, fun v H'' ⟨e1, r, er, ev⟩ => ?_⟩
  subst e1 ev
  refine ⟨fun _ _ z => z, ?_⟩
  rw [List.getElem?_map, er] at ev0
  cases ev0
  exact hv0
def tdiKeys (te : TDE) : TDI := fun E Q => te E fun d f => f.ok = true ∧ match d with
  | .d kvs => Q (kvs.map fun kv => ofKey kv.1)
  | _ => False
theorem di_keys (hl : DE X l te) : DI X tg l (tdiKeys te) :=
  ⟨fun F B ps E σ H Qd Rk hF r t k => RunI.of (pi_kk peR) (hl.run F B ps E σ H _ _ hF r t fun d f v H1 q p => by
    obtain ⟨r1, h⟩ := p.sh q.1
    obtain ⟨_, q⟩ := q
    split at q
    · rename_i kvs
      obtain ⟨a, o, rows, ea, hd⟩ := Is.dat h
      have hk := keys_is hd.pd
      have no : ¬ own B E σ a := by
        subst ea
        cases h with
        | d _ n _ _ _ _ _ _ => exact n
      have r2 := (r1.pinL hk).pin (d := .raw (.ext (Lit a o))) (v := .ref a) (.raw hd.at_ no)
      exact ⟨a, F, _, o, rows, kvs, ea, hd, k _ _ H1 ((D.raw (.ext (Lit a o)), V.ref a) :: (kvs.map fun (kv : NestedKey × D) => ofKey kv.1).zip (rows.map fun (r : Row) => r.2.1)) q r2 (walks_kk rfl hk.length)⟩
    · exact q.elim)⟩
/-! ### enumerate over a tuple -/
theorem enum_new1 {v : Value} {o : Obj} {C : Heap → Prop} (B : Begins v o C) : Meets (Builtin.«enumerate.__new__» ⟨[.type "enumerate", v], []⟩) (fun _ R s => C s.heap ∧
    R (.ok (.ret (.ref (s.heap.push o).objs.size))) { s with heap := (s.heap.push o).push { cls := .type "enumerate", data := .fields #[.none, .bool false, .ref s.heap.objs.size, rawInt 0, .none, .none] } }) :=
  .of_wp fun prog w A R s h => by
    obtain ⟨hp, g, d, tk, os⟩ := s
    obtain ⟨h1, h⟩ := h
    have hsub := sub_enumerate
    have q1 : ∀ {A' : Around} {E : Value → Shared → Prop} {Q : Value → Shared → Prop}, Q (.ref hp.objs.size) ⟨hp.push o, g, d, tk, os⟩ → wpAny (model prog w) A' (pyIter v) Q E ⟨hp, g, d, tk, os⟩ := fun q => B.iter prog w _ _ ⟨hp, g, d, tk, os⟩ _ h1 q
    wp_walk using q1
    refine wpAny_stack_any fun st => wpAny_pure ?_
    split
    · rename_i c _ _ _ _ _
      cases (c == Value.type "enumerate") <;> (wp_walk using q1; exact ⟨_, rfl, h⟩)
    · wp_walk using q1
      exact ⟨_, rfl, h⟩
theorem call_enum1 {prog : Program} {w : World} {A : Around} {E : Value → Shared → Prop} {s : Shared} {v : Value} {o : Obj} {C : Heap → Prop} {Q : Value → Shared → Prop} (B : Begins v o C) (h1 : C s.heap)
    (h : ∀ h', IsEnum h' (s.heap.objs.size + 1) s.heap.objs.size 0 .none → h'.get? s.heap.objs.size = some o → (∀ b x, s.heap.get? b = some x → h'.get? b = some x) → Q (.ref (s.heap.objs.size + 1)) { s with heap := h' }) :
    wpAny (model prog w) A (call (.type "enumerate") [v]) Q E s := by
  refine callType_new F.called_enumerate (by decide) (F.typeCall_enumerate_1 _) (F.newCall_enumerate_1 _) (fun obj => F.args_object_init_2 obj _) F.entry_enumerate_new (enum_new1 B) ⟨h1, ?_⟩
  have hz : (s.heap.push o).objs.size = s.heap.objs.size + 1 := Heap.size_push ..
  rw [hz]
  have he : IsEnum ((s.heap.push o).push { cls := .type "enumerate", data := .fields #[.none, .bool false, .ref s.heap.objs.size, rawInt 0, .none, .none] }) (s.heap.objs.size + 1) s.heap.objs.size 0 .none := by
    have := Heap.get?_push_size (s.heap.push o) (o := { cls := .type "enumerate", data := .fields #[.none, .bool false, .ref s.heap.objs.size, rawInt 0, .none, .none] }) rfl
    rw [hz] at this
    exact this
  exact ⟨⟨_, he, rfl⟩, h _ he (Heap.get?_push_of_some _ (Heap.get?_push_size _ B.free)) fun b x e => Heap.get?_push_of_some _ (Heap.get?_push_of_some _ e)⟩
end
/-- the tuple at a, each item in a new pair with its number -/
def Itet (K : PySem.W.Frag) (a : Addr) : It :=
  ⟨fun i H => ∃ (xs : List V) (x : V), SqT K H a xs ∧ xs[i]? = some x, fun i H v H' => ∃ T x, v = .ref T ∧ H T = none ∧ H' = upd H T (.tup [.int (i : Nat), x]) ∧ ∀ xs, SqT K H a xs → xs[i]? = some x, fun i H => ∃ xs : List V, SqT K H a xs ∧ xs.length ≤ i⟩
theorem turn_enumT {P : Program} {w : World} {K : PySem.W.Frag} {elts : List Expr} {kk : Nat} {tpos : Pos} (a e it : Addr) :
    Turn P w K (.Tuple elts kk tpos) (Itet K a) [e, it] e (fun i h => (∃ old, IsEnum h e it ((i : Nat) : Int) old) ∧ h.IsTupleIter it a i ∧ e ≠ it ∧ e ≠ a ∧ a ≠ it) where
  mem := List.mem_cons_self
  obj := fun i h st b hb => by
    obtain ⟨⟨old, he⟩, ⟨o, ho, hc, hd⟩, _⟩ := st
    rcases List.mem_cons.mp hb with z | z
    · exact z ▸ ⟨_, he, fun v q => nomatch q⟩
    · exact (List.mem_singleton.mp z) ▸ ⟨o, ho, fun v q => by rw [hd] at q; cases q⟩
  keep := fun i h h' st k => ⟨⟨st.1.choose, k e List.mem_cons_self _ st.1.choose_spec⟩, st.2.1.at fun o q => k it (List.mem_cons_of_mem _ List.mem_cons_self) o q, st.2.2⟩
  item := by
    intro X hP hw hK hc i pins s σ H E I hf st hg
    subst hP hw hK
    obtain ⟨⟨old, he⟩, hit, hne, hea, hai⟩ := st
    obtain ⟨xs, x, hq, hx⟩ := hg
    obtain ⟨its, rv, p, hz⟩ := I.tuple hq
    obtain ⟨u, hu, ru⟩ := rv.get hx
    have hi : i < its.toArray.size := by
      have := (List.getElem?_eq_some_iff.mp hu).1
      rw [List.size_toArray]; exact this
    have hel : e < s.heap.objs.size := Heap.lt_size he
    have hil : it < s.heap.objs.size := let ⟨_, q, _⟩ := hit; Heap.lt_size q
    have hnot : e ∉ [it, a] := fun z => by
      rcases List.mem_cons.mp z with z | z
      · exact hne z
      · exact hea (List.mem_singleton.mp z)
    refine wpAny_pyNext_enum_itemC (Draws.tuple (prog := X.prog) (w := X.w) (A := X.A.in1) (show X.A.in1.handled = none from I.ok.hd hc) it a hai its.toArray) he ⟨hit, p⟩ hi hne hnot fun y h' tk hy ho hit' hT hsz hk => ?_
    have ey : y = u := by
      rw [List.getElem?_toArray, hu] at hy
      exact (Option.some.inj hy).symm
    subst ey
    refine ⟨_, rfl, wpAny_letOwnedTupleGo_enum (s := { s with heap := h', toks := tk + 1 }) ho fun h'' he' sb => ?_⟩
    have hT2 : h''.get? s.heap.objs.size = some { cls := .type "tuple", data := .seq #[.int i tk, y] } := (sb.2 _ (Nat.ne_of_gt hel)).trans hT
    have new : ObjOk X.prog X.w (upd H s.heap.objs.size (.tup [.int (i : Nat), x])) h'' s.heap.objs.size (.tup [.int (i : Nat), x]) :=
      ⟨(by rw [sizeLine_eq]; decide : 2 ≤ sizeLine), [.int i tk, y], .cons ⟨tk, rfl⟩ (.cons ru .nil), ⟨_, hT2, rfl, _, rfl⟩⟩
    have I1 : Inv X pins σ (upd H s.heap.objs.size (.tup [.int (i : Nat), x])) { s with heap := h'', toks := tk + 1 } :=
      I.turnedNew (ch := [e, it]) (fun b ob hb q => (sb.2 b fun z => hb (z ▸ List.mem_cons_self)).trans (hk b ob (fun z => hb (z ▸ List.mem_cons_self)) (fun z => hb (z ▸ List.mem_cons_of_mem _ List.mem_cons_self)) q)) hf (Nat.le_refl _) new
    refine ⟨.ref s.heap.objs.size, _, I1, rfl, ⟨_, x, rfl, I.hok.fresh (Nat.le_refl _), rfl, fun ys hy => by rw [I.tuple_inj hy hq]; exact hx⟩, ⟨⟨y, ?_⟩, hit'.1.at fun o q => (sb.2 it (Ne.symm hne)).trans q, hne, hea, hai⟩, fun b hb => ?_⟩
    · have e1 : ((i + 1 : Nat) : Int) = (i : Int) + 1 := by omega
      exact e1 ▸ he'
    · have hb' : b < s.heap.objs.size := by
        rcases List.mem_cons.mp hb with z | z
        · exact z ▸ hel
        · exact (List.mem_singleton.mp z) ▸ hil
      rw [upd_ne (Nat.ne_of_lt hb')]
      exact (hf b hb).1
  done := by
    intro X hP hw hK hc i pins s σ H E I hf st hg
    subst hP hw hK
    obtain ⟨⟨old, he⟩, hit, hne, hea, hai⟩ := st
    obtain ⟨xs, hq, hx⟩ := hg
    obtain ⟨its, rv, p, hz⟩ := I.tuple hq
    have hl := rv.length
    obtain ⟨f0, f1, f2, f3, f4, f5⟩ := hf it (List.mem_cons_of_mem _ List.mem_cons_self)
    have hT : s.TypeIs (.ref e) "enumerate" := ⟨_, he, rfl⟩
    unfold pyNext
    refine wpAny_bind (wpAny_attempt (wpAny_callSpecial?_slot (name := Str.ofString "__next__") hT F.slot_enumerate_next
      (wpAny_call_entry F.slot_enumerate_next hT F.entry_enumerate_next ?_ (F.args_enumerate_next_1 _))))
    show wpAny _ _ (field (.ref e) 2 >>= _) _ _ _
    refine wpAny_bind (wpAny_field he rfl (x := .ref it) rfl ?_)
    refine wpAny_bind (wpAny_nextOf_tuple_end (I.ok.hd hc) hit p (by rw [List.getElem?_toArray]; exact List.getElem?_eq_none (by omega)) fun h' x he' hx' => ?_)
    obtain ⟨o, ho, hc'⟩ := hx'
    refine wpAny_bind (wpAny_isInstance (T := "StopIteration") (b := true) ⟨o, ho, hc'⟩ isSubtype_stop ?_)
    exact wpAny_pure ⟨rfl, I.turned (t' := s.toks) (fun b o hb q => he' b o hb q) f0 f1 f3 f4 f5⟩
  self := fun A i s Q E st h => let ⟨⟨_, he⟩, _⟩ := st; wpAny_pyIter_enum he h
section
variable {X : Cx} {tg e e2 l : Expr} {te : TDE} {ta : TDA} {pos p tpos : Pos} {elts : List Expr} {kk : Nat}
def iEnumT (K : PySem.W.Frag) (ta : TA) : TI := fun σ H R => ta σ H fun vs H1 => ∃ a xs, vs = [.ref a] ∧ ((SqL K H1 a xs ∧ R (Ite K a) H1) ∨ (SqT K H1 a xs ∧ R (Itet K a) H1))
theorem pi_enumA {ta : TA} (hg : Gl X "enumerate") (hm : X.mg "enumerate" = none) (ha : PA X [e] ta) (hs : starEach [e] X.env = [(false, eval e X.env)] := by rfl) :
    PI X (.Tuple elts kk tpos) (.Call (.Name "enumerate" p) [e] [] pos) (iEnumT X.K ta) := by
  refine ⟨fun pins s σ H R I h => ?_⟩
  refine Call_ (ld_blt I hg hm boot_enumerate (PyProof.Rows.callWith_type1 (thn (ha.run pos pins s σ H _ I h) fun us s1 ⟨vs, H1, I1, r1, q1⟩ => ?_) hs rfl))
  obtain ⟨a, xs, ex, q⟩ := q1
  subst ex
  cases r1 with
  | cons r rr =>
    cases rr
    cases r
    have fresh : ∀ b, b ∈ [s1.heap.objs.size + 1, s1.heap.objs.size] → FpOk X pins H1 b := fun b hb => by
      have hle : s1.heap.objs.size ≤ b := by
        rcases List.mem_cons.mp hb with z | z
        · rw [z]; exact Nat.le_succ _
        · rw [List.mem_singleton.mp z]; exact Nat.le_refl _
      exact I1.fpOk hle (I1.hok.fresh hle)
    rcases q with ⟨hq, q⟩ | ⟨hq, q⟩
    · obtain ⟨its, rv, p', hz⟩ := I1.list hq
      refine call_enumerate_list p'.isList fun h' he hit hsz hk => wpAny_pyIter_enum he ?_
      have I2 : Inv X pins σ H1 { s1 with heap := h' } := I1.kept (t' := s1.toks) hk
      exact ⟨s1.heap.objs.size + 1, [s1.heap.objs.size + 1, s1.heap.objs.size], _, _, H1, rfl, I2, turn_enum a (s1.heap.objs.size + 1) s1.heap.objs.size, ⟨⟨.none, he⟩, hit, Nat.succ_ne_self _⟩, fresh, q⟩
    · obtain ⟨its, rv, p', hz⟩ := I1.tuple hq
      have hal : a < s1.heap.objs.size := let ⟨_, z, _⟩ := id p'; Heap.lt_size z
      refine call_enum1 (begins_tuple a its.toArray) p' fun h' he ho hk => wpAny_pyIter_enum he ?_
      have I2 : Inv X pins σ H1 { s1 with heap := h' } := I1.kept (t' := s1.toks) hk
      exact ⟨s1.heap.objs.size + 1, [s1.heap.objs.size + 1, s1.heap.objs.size], _, _, H1, rfl, I2, turn_enumT a (s1.heap.objs.size + 1) s1.heap.objs.size, ⟨⟨.none, he⟩, ⟨_, ho, rfl, rfl⟩, Nat.succ_ne_self _, Nat.ne_of_gt (Nat.lt_succ_of_lt hal), Nat.ne_of_lt hal⟩, fresh, q⟩
/-- (0, x0), (1, x1), .. -/
def numbered (n : Int) : List D → List D
  | [] => []
  | x :: xs => .t [.a (.int n), x] :: numbered (n + 1) xs
theorem numbered_get : ∀ {xs : List D} {n : Int} {i : Nat} {y : D}, (numbered n xs)[i]? = some y → ∃ x, xs[i]? = some x ∧ y = .t [.a (.int (n + i)), x]
  | [], n, i, y, e => by simp [numbered] at e
  | x :: xs, n, 0, y, e => by
    simp [numbered] at e
    subst e
    exact ⟨x, rfl, by simp⟩
  | x :: xs, n, i + 1, y, e => by
    obtain ⟨z, h1, h2⟩ := numbered_get (xs := xs) (n := n + 1) (i := i) (y := y) (by simpa [numbered] using e)
    refine ⟨z, by simpa using h1, ?_⟩
    rw [h2]
    congr 4
    omega
theorem numbered_length : ∀ {xs : List D} {n : Int}, (numbered n xs).length = xs.length
  | [], _ => rfl
  | x :: xs, n => by show (numbered (n + 1) xs).length + 1 = _; rw [numbered_length]; rfl
theorem pair_is {F : Fx} {O : Addr → Prop} {H : Hp} {T : Addr} {d1 d2 : D} {v1 v2 : V} (hT : H T = none) (hO : ∀ a, O a → ∃ o, H a = some o) (h1 : Is F O H d1 v1) (h2 : Is F O H d2 v2) : Is F O (upd H T (.tup [v1, v2])) (.t [d1, d2]) (.ref T) := by
  have k : ∀ {d v}, Is F O H d v → Is F O (upd H T (.tup [v1, v2])) d v := fun h => h.mono (fun a o e _ => upd_keeps hT a o e) fun _ _ _ z => z
  refine .t upd_same (fun z => ?_) (.cons (k h1) (.cons (k h2) .nil))
  obtain ⟨o, e⟩ := hO T z
  rw [hT] at e; cases e
theorem walks_enum {F : Fx} {K : PySem.W.Frag} {a : Addr} {xs : List D} : Walks F (Ite K a) (numbered 0 xs) (Pinned F [(.l xs, .ref a)]) := by
  intro i H' O hp hO
  obtain ⟨b, vs, e, h, _, hl⟩ := (pinned_one hp).lst
  cases e
  rw [numbered_length]
  refine ⟨fun hi => ⟨vs, SqL.of h, by rw [← hl.length]; exact hi⟩, fun y e => ?_⟩
  obtain ⟨x, ex, rfl⟩ := numbered_get e
  obtain ⟨v, ev, hv⟩ := hl.get ex
  refine ⟨⟨vs, v, SqL.of h, ev⟩, fun y H'' ⟨T, z, e1, hT, e2, e3⟩ => ?_⟩
  subst e1 e2
  have := e3 vs (SqL.of h)
  rw [ev] at this
  cases this
  refine ⟨fun a o q => upd_keeps hT a o q, ?_⟩
  exact pair_is hT hO (by rw [Int.zero_add]; exact .a rfl) hv
theorem walks_enumT {F : Fx} {a : Addr} {xs : List D} : Walks F (Itet F.K a) (numbered 0 xs) (Pinned F [(.t xs, .ref a)]) := by
  intro i H' O hp hO
  obtain ⟨b, vs, e, h, hl⟩ := (pinned_one hp).tup rfl
  cases e
  rw [numbered_length]
  refine ⟨fun hi => ⟨vs, h, by rw [← hl.length]; exact hi⟩, fun y e => ?_⟩
  obtain ⟨x, ex, rfl⟩ := numbered_get e
  obtain ⟨v, ev, hv⟩ := hl.get ex
  refine ⟨⟨vs, v, h, ev⟩, fun y H'' ⟨T, z, e1, hT, e2, e3⟩ => ?_⟩
  subst e1 e2
  have := e3 vs h
  rw [ev] at this
  cases this
  refine ⟨fun a o q => upd_keeps hT a o q, ?_⟩
  exact pair_is hT hO (by rw [Int.zero_add]; exact .a rfl) hv
def tdiEnum (ta : TDA) : TDI := fun E Q => ta E fun dfs => match dfs with
  | [(.l xs, f)] => f.ok = true ∧ Q (numbered 0 xs)
  | [(.t xs, f)] => f.ok = true ∧ Q (numbered 0 xs)
  | _ => False
theorem di_enum (hg : Gl X "enumerate") (hm : X.mg "enumerate" = none) (ha : DA X [e] ta) (hs : starEach [e] X.env = [(false, eval e X.env)] := by rfl) : DI X (.Tuple elts kk tpos) (.Call (.Name "enumerate" p) [e] [] pos) (tdiEnum ta) :=
  ⟨fun F B ps E σ H Qd Rk hF r t k => RunI.of (pi_enumA hg hm paR hs) (ha.run F B ps E σ H _ _ hF r t fun dfs vs H1 q r1 w => by
    split at q
    · obtain ⟨v, e0, w0⟩ := w.one
      subst e0
      have h := w0.is q.1
      obtain ⟨a, us, rfl, ha, _, hv⟩ := h.lst
      exact ⟨a, us, rfl, .inl ⟨SqL.of ha, k _ _ H1 [(.l _, .ref a)] q.2 (r1.pin h) walks_enum⟩⟩
    · obtain ⟨v, e0, w0⟩ := w.one
      subst e0
      have h := w0.is q.1
      obtain ⟨a, us, rfl, ha, hv⟩ := h.tup hF.K
      exact ⟨a, us, rfl, .inr ⟨ha, k _ _ H1 [(.t _, .ref a)] q.2 (r1.pin h) (hF.K ▸ walks_enumT)⟩⟩
    · exact q.elim)⟩
/-! ### zip of two tuples -/
def zipD : List D → List D → List D
  | x :: xs, y :: ys => .t [x, y] :: zipD xs ys
  | _, _ => []
theorem zipD_get : ∀ {xs ys : List D} {i : Nat} {z : D}, (zipD xs ys)[i]? = some z → ∃ x y, xs[i]? = some x ∧ ys[i]? = some y ∧ z = .t [x, y]
  | x :: xs, y :: ys, 0, z, e => by simp [zipD] at e; subst e; exact ⟨x, y, rfl, rfl, rfl⟩
  | x :: xs, y :: ys, i + 1, z, e => by
    obtain ⟨a, b, h1, h2, h3⟩ := zipD_get (xs := xs) (ys := ys) (i := i) (z := z) (by simpa [zipD] using e)
    exact ⟨a, b, by simpa using h1, by simpa using h2, h3⟩
  | [], ys, i, z, e => by cases ys <;> simp [zipD] at e
  | _ :: _, [], i, z, e => by simp [zipD] at e
theorem zipD_le : ∀ {xs ys : List D} {i : Nat}, (zipD xs ys).length ≤ i → xs.length ≤ i ∨ ys.length ≤ i
  | [], _, i, _ => .inl (Nat.zero_le _)
  | _ :: _, [], i, _ => .inr (Nat.zero_le _)
  | x :: xs, y :: ys, i, h => by
    have h' : (zipD xs ys).length + 1 ≤ i := by simpa [zipD] using h
    obtain ⟨j, rfl⟩ : ∃ j, i = j + 1 := ⟨i - 1, by omega⟩
    rcases zipD_le (xs := xs) (ys := ys) (i := j) (by omega) with q | q
    · exact .inl (by rw [List.length_cons]; omega)
    · exact .inr (by rw [List.length_cons]; omega)
theorem walks_zip {F : Fx} {a b : Addr} {xs ys : List D} : Walks F (RZ.ItzT F.K a b) (zipD xs ys) (Pinned F [(.t xs, .ref a), (.t ys, .ref b)]) := by
  intro i H' O hp hO
  obtain ⟨h0, hp⟩ := pinned_cons hp
  obtain ⟨a', vs, e, h, hl⟩ := h0.tup rfl
  cases e
  obtain ⟨b', us, e, g, gl⟩ := (pinned_one hp).tup rfl
  cases e
  refine ⟨fun hi => ⟨vs, us, h, g, by rw [← hl.length, ← gl.length]; exact zipD_le hi⟩, fun y e => ?_⟩
  obtain ⟨x, y', ex, ey, rfl⟩ := zipD_get e
  obtain ⟨v, ev, hv⟩ := hl.get ex
  obtain ⟨u, eu, hu⟩ := gl.get ey
  refine ⟨⟨vs, us, v, u, h, g, ev, eu⟩, fun y H'' ⟨T, z1, z2, e1, hT, e2, e3, e4⟩ => ?_⟩
  subst e1 e2
  have t1 := e3 vs h
  have t2 := e4 us g
  rw [ev] at t1
  rw [eu] at t2
  cases t1
  cases t2
  exact ⟨fun a o q => upd_keeps hT a o q, pair_is hT hO hv hu⟩
def tdiZip (ta : TDA) : TDI := fun E Q => ta E fun dfs => match dfs with
  | [(.t xs, f1), (.t ys, f2)] => f1.ok = true ∧ f2.ok = true ∧ Q (zipD xs ys)
  | _ => False
theorem di_zip (hg : Gl X "zip") (hm : X.mg "zip" = none) (ha : DA X [e, e2] ta) (hs : starEach [e, e2] X.env = (false, eval e X.env) :: starEach [e2] X.env := by rfl) (hpl : (backTo pos (starEach [e2] X.env)).any (·.1) = false := by rfl) : DI X (.Tuple elts kk tpos) (.Call (.Name "zip" p) [e, e2] [] pos) (tdiZip ta) :=
  ⟨fun F B ps E σ H Qd Rk hF r t k => RunI.of (RZ.pi_zipA hg hm paR hs hpl) (ha.run F B ps E σ H _ _ hF r t fun dfs vs H1 q r1 w => by
    split at q
    · cases w with
      | cons w1 w =>
        cases w with
        | cons w2 w =>
          cases w
          have h1 := Val.is w1 q.1
          have h2 := Val.is w2 q.2.1
          obtain ⟨a, us, rfl, ha, hv⟩ := h1.tup hF.K
          obtain ⟨b, us2, rfl, hb, hv2⟩ := h2.tup hF.K
          exact ⟨a, b, us, us2, rfl, .inr ⟨ha, hb, k _ _ H1 [(.t _, .ref a), (.t _, .ref b)] q.2.2 ((r1.pin h2).pin h1) (hF.K ▸ walks_zip)⟩⟩
    · exact q.elim)⟩
/-! ### reversed(list) -/
theorem walks_rev {F : Fx} {K : PySem.W.Frag} {a : Addr} {xs : List D} {n : Nat} (hn : n = xs.length) : Walks F (Itv K a n) xs.reverse (Pinned F [(.l xs, .ref a)]) := by
  subst hn
  intro i H' O hp hO
  obtain ⟨b, vs, e, h, _, hl⟩ := (pinned_one hp).lst
  cases e
  rw [List.length_reverse]
  refine ⟨fun hi => hi, fun y e => ?_⟩
  have hi : i < xs.length := by
    have := (List.getElem?_eq_some_iff.mp e).1
    rw [List.length_reverse] at this
    exact this
  rw [List.getElem?_reverse hi] at e
  obtain ⟨v, ev, hv⟩ := hl.get e
  refine ⟨⟨hi, vs, v, SqL.of h, ev⟩, fun y H'' ⟨e1, e2⟩ => ?_⟩
  subst e1
  have := e2 vs (SqL.of h)
  rw [ev] at this
  cases this
  exact ⟨fun _ _ q => q, hv⟩
def tdiRev (ta : TDA) : TDI := fun E Q => ta E fun dfs => match dfs with
  | [(.l xs, f)] => f.ok = true ∧ Q xs.reverse
  | _ => False
theorem di_rev (hg : Gl X "reversed") (hm : X.mg "reversed" = none) (ha : DA X [e] ta) (hs : starEach [e] X.env = [(false, eval e X.env)] := by rfl) : DI X tg (.Call (.Name "reversed" p) [e] [] pos) (tdiRev ta) :=
  ⟨fun F B ps E σ H Qd Rk hF r t k => RunI.of (pi_reversed hg hm paR hs) (ha.run F B ps E σ H _ _ hF r t fun dfs vs H1 q r1 w => by
    split at q
    · obtain ⟨v, e0, w0⟩ := w.one
      subst e0
      have h := w0.is q.1
      obtain ⟨a, us, rfl, ha, _, hv⟩ := h.lst
      exact ⟨a, us, rfl, SqL.of ha, k _ _ H1 [(.l _, .ref a)] q.2 (r1.pin h) (walks_rev hv.length.symm)⟩
    · exact q.elim)⟩
end
end DL
set_option Elab.async false
set_option linter.all false
set_option maxRecDepth 100000
/-! DLComp: list comprehensions over data. -/
namespace DL
open PySem PySem.Spec PyProof.Rows L2
/-- slots forgotten: E knows less than E' -/
theorem R.back {F : Fx} {B : Bas} {ps : List (D × V)} {E E' : DEnv} {σ σ' : L2.St} {H : Hp} (r : R F B ps E' σ' H) (hl : E.length = E'.length) (hs : σ.length = σ'.length) (h : ∀ (i : Nat) (s : Slot), E[i]? = some s → s ≠ .un → E'[i]? = some s ∧ σ'[i]? = σ[i]?) : R F B ps E σ H := by
  have ho : ∀ a, own B E σ a → own B E' σ' a := fun a z => by
    rcases z with z | ⟨i, d, e1, e2⟩
    · exact .inl z
    · obtain ⟨h1, h2⟩ := h i _ e1 (fun z => by cases z)
      exact .inr ⟨i, d, h1, by rw [h2]; exact e2⟩
  have st : ∀ {d v}, Is F (own B E' σ') H d v → Is F (own B E σ) H d v := fun q => q.mono (fun _ _ z _ => z) fun a _ _ z => ho a z
  have rs : ∀ {d p}, Root F (own B E' σ') H d p → Root F (own B E σ) H d p := fun q => q.mono (fun _ z => z) (fun _ _ z _ => z) fun a _ _ z => ho a z
  refine ⟨by rw [hl, hs]; exact r.len, r.kept, r.o0, fun a e => ⟨(r.dice a e).1, (r.dice a e).2.mono (fun _ z => z) (fun _ _ z _ => z) fun a _ _ z => ho a z⟩, fun i d e => ?_, fun i d e => ?_, fun i j d d' a e1 e2 e3 e4 => ?_, fun i v e => ?_, fun q hq => ⟨(r.rts q hq).1, (r.rts q hq).2.1, rs (r.rts q hq).2.2⟩, fun q hq => st (r.pins q hq)⟩
  · obtain ⟨h1, h2⟩ := h i _ e (fun z => by cases z)
    obtain ⟨v, e1, q⟩ := r.sh i d h1
    exact ⟨v, by rw [← h2]; exact e1, st q⟩
  · obtain ⟨h1, h2⟩ := h i _ e (fun z => by cases z)
    obtain ⟨a, e1, q, n⟩ := r.ow i d h1
    exact ⟨a, by rw [← h2]; exact e1, rs q, n⟩
  · obtain ⟨a1, a2⟩ := h i _ e1 (fun z => by cases z)
    obtain ⟨b1, b2⟩ := h j _ e2 (fun z => by cases z)
    exact r.inj i j d d' a a1 b1 (by rw [a2]; exact e3) (by rw [b2]; exact e4)
  · obtain ⟨h1, h2⟩ := h i _ e (fun z => by cases z)
    rw [← h2]
    exact r.hid i v h1
/-- the facts of a new thing, whatever the slots -/
structure New (F : Fx) (B : Bas) (p : Addr) : Prop where
  h0 : B.H0 p = none
  o0 : ¬ B.O0 p
  de : F.de ≠ some p
  rs : ∀ q ∈ B.rs, B.O0 q.2
theorem Fresh.new {F : Fx} {B : Bas} {E : DEnv} {σ : L2.St} {p : Addr} (f : Fresh F B E σ p) : New F B p := ⟨f.h0, fun z => f.no (.inl z), f.de, f.rs⟩
theorem New.fresh {F : Fx} {B : Bas} {ps : List (D × V)} {E : DEnv} {σ : L2.St} {H : Hp} {d : D} {p : Addr} (n : New F B p) (r : R F (B.root d p) ps E σ H) : Fresh F B E σ p :=
  ⟨n.h0, fun z => by
    rcases z with z | ⟨i, d', e1, e2⟩
    · exact n.o0 z
    · obtain ⟨b, e3, _, _, m⟩ := r.ow i d' e1
      rw [e2] at e3; cases e3
      exact m (.inr rfl), n.de, n.rs⟩
/-! ### the block's own slots -/
def unAt (E : DEnv) (vs : List Nat) : Prop := ∀ i ∈ vs, E[i]? = some .un
theorem unAt_nil {E : DEnv} : unAt E [] := fun i h => absurd h (by simp)
theorem wiped {F : Fx} {B : Bas} {ps : List (D × V)} {E : DEnv} {σ : L2.St} {H : Hp} {vs : List Nat} (u : unAt E vs) (r : R F B ps E σ H) : R F B ps E (L2.wipe σ vs) H :=
  r.back rfl (wipe_length _ _) fun i s e n => ⟨e, by
    rw [wipe_get, if_neg]
    intro z
    have := u i z
    rw [e] at this
    cases this
    exact n rfl⟩
theorem unwiped {F : Fx} {B : Bas} {ps : List (D × V)} {E E' : DEnv} {σ σ' : L2.St} {H : Hp} {vs sl : List Nat} (u : unAt E vs) (o : Only' sl E E' (L2.wipe σ vs) σ') (hs : ∀ i ∈ sl, i ∈ vs) (r : R F B ps E' σ' H) : R F B ps E σ H :=
  r.back o.len.symm (by rw [o.lenS, wipe_length]) fun i s e n => by
    have hv : i ∉ vs := fun z => by
      have := u i z
      rw [e] at this
      cases this
      exact n rfl
    have hi : i ∉ sl := fun z => hv (hs i z)
    exact ⟨by rw [o.env i hi]; exact e, by rw [o.st i hi, wipe_get, if_neg hv]⟩
/-! ### a clause's tests -/
def RunTs (X : Cx) (ifs : List Expr) (σ : L2.St) (H : Hp) (Q : Bool → Hp → Prop) : Prop := ∀ (pins : List (Addr × Obj)) (s : Shared), Inv X pins σ H s →
    wpAny (model X.prog X.w) X.A (forIn ifs true fun c r => if r = true then do let ok ← isTrue c X.env (eval c X.env); pure (ForInStep.yield ok) else pure (ForInStep.yield r)) (TP X pins σ Q) X.xe s
theorem ptsR {X : Cx} {ifs : List Expr} : PTs X ifs (fun σ H Q => RunTs X ifs σ H Q) := ⟨fun pins s σ H Q I h => h pins s I⟩
structure DTs (X : Cx) (ifs : List Expr) (t : TDT) : Prop where
  run : ∀ (F : Fx) (B : Bas) (ps : List (D × V)) (E : DEnv) (σ : L2.St) (H : Hp) (Qd : Bool → Prop) (Q : Bool → Hp → Prop), FOk X F → R F B ps E σ H → t E Qd →
    (∀ b H', Qd b → R F B ps E σ H' → Q b H') → RunTs X ifs σ H Q
def tdYes : TDT := fun _ Q => Q true
section
variable {X : Cx} {c elt kx vx tg iter : Expr} {ifs : List Expr} {scope : Scope} {own' : List (Str × Nat)} {te tk tv : TDE} {tt : TDT} {ti : TDI} {g' : TG} {g : TDG} {sl : List Nat} {pos spos py : Pos}
theorem dts_nil : DTs X [] tdYes := ⟨fun F B ps E σ H Qd Q hF r t k pins s I => pts_nil.run pins s σ H Q I (k _ _ t r)⟩
theorem dts_one (h : DT X c tt) : DTs X [c] tt := ⟨fun F B ps E σ H Qd Q hF r t k pins s I => (pts_one ptR).run pins s σ H Q I (h.run F B ps E σ H Qd Q hF r t k)⟩
/-- in the block, whatever its context -/
abbrev InBlk (X : Cx) (scope : Scope) (P : Cx → Prop) : Prop := ∀ (s : Shared) (H : Hp) (C : Addr) (cl : List (Str × Addr)) (fp : List Addr), P (X.blk s H scope (compEnvC scope cl C X.env) fp)
theorem fOk_blk {s : Shared} {H : Hp} {cenv : Env} {fp : List Addr} {F : Fx} (h : FOk X F) : FOk (X.blk s H scope cenv fp) F := ⟨h.w, h.K⟩
/-- the loop of a list comprehension over data -/
def tdLcL (g : TDG) (tt : TDT) (te : TDE) (E : DEnv) : List D → List D → (List D → Prop) → Prop
  | [], acc, Q => Q acc
  | x :: xs, acc, Q => g x E fun E' => tt E' fun b => if b = true then te E' fun d f => f.ok = true ∧ acc.length < sizeLine ∧ tdLcL g tt te E xs (acc ++ [d]) Q else tdLcL g tt te E xs acc Q
def tdLc (ti : TDI) (g : TDG) (tt : TDT) (te : TDE) (vs : List Nat) : TDE := fun E Q => unAt E vs ∧ ti E fun xs => tdLcL g tt te E xs [] fun ys => Q (.l ys) .fr
abbrev teB (X : Cx) (scope : Scope) (e : Expr) : TE := fun σ H Q => InBlk X scope fun Y => Run Y e σ H Q
abbrev ttB (X : Cx) (scope : Scope) (ifs : List Expr) : TT := fun σ H Q => InBlk X scope fun Y => RunTs Y ifs σ H Q
theorem peB : InBlk X scope fun Y => PE Y elt (teB X scope elt) := fun s0 H0 C cl fp => ⟨fun pins s σ H Q I h => h s0 H0 C cl fp pins s I⟩
theorem ptsB : InBlk X scope fun Y => PTs Y ifs (ttB X scope ifs) := fun s0 H0 C cl fp => ⟨fun pins s σ H Q I h => h s0 H0 C cl fp pins s I⟩
theorem glB {s : Shared} {H : Hp} {cenv : Env} {fp : List Addr} (h : GLink (X.blk s H scope cenv fp) g' sl g) : GLink X g' sl g := fun F B ps E σ H d v Qd Q hF r i t k => h F B ps E σ H d v Qd Q (fOk_blk hF) r i t k
theorem glAny (hg : InBlk X scope fun Y => DG Y tg g' sl g) : GLink X g' sl g := glB (hg ({} : Shared) (fun _ => none) 0 [] []).ln
/-- what a list under way is -/
theorem R.topL {F : Fx} {B : Bas} {ps : List (D × V)} {E : DEnv} {σ : L2.St} {H : Hp} {xs : List D} {p : Addr} (r : R F (B.root (.l xs) p) ps E σ H) : ∃ vs, H p = some (.lst vs) ∧ IsL F (own (B.root (.l xs) p) E σ) H xs vs := (r.rts (.l xs, p) List.mem_cons_self).2.2
theorem rootL {F : Fx} {B : Bas} {E : DEnv} {σ : L2.St} {H : Hp} {xs ys : List D} {p : Addr} {us : List V} (h : IsL F (own (B.root (.l xs) p) E σ) H ys us) : Root F (own (B.plus p) E σ) (upd H p (.lst us)) (.l ys) p := ⟨us, upd_same, IsL.upd (h.mono (fun _ _ z _ => z) fun _ _ _ z => z) (.inl (.inr rfl))⟩
theorem lc_link {F : Fx} {B : Bas} {ps : List (D × V)} {E : DEnv} {σ : L2.St} {H : Hp} {Qd : D → Fl → Prop} {Q : VK} {vs : List Nat} (hi : DI X tg iter ti) (hg : GLink X g' sl g) (ht : InBlk X scope fun Y => DTs Y ifs tt) (he : InBlk X scope fun Y => DE Y elt te) (hsl : ∀ i ∈ sl, i ∈ vs) (hF : FOk X F) (r : R F B ps E σ H) (t : tdLc ti g tt te vs E Qd)
    (k : ∀ d f v H', Qd d f → Post F B ps E σ d f v H' → Q v H') : tLc (fun σ H Rk => RunI X tg iter σ H Rk) g' (ttB X scope ifs) (teB X scope elt) vs σ H Q := by
  obtain ⟨un, t⟩ := t
  refine hi.run F B ps E σ H _ _ hF r t fun xs J H1 ps1 q r1 w p hp => ?_
  obtain ⟨r2, f2⟩ := (r1.laid (d := .l []) (o := .lst []) hp ⟨[], upd_same, .nil⟩).fresh
  have nw := f2.new
  refine ⟨fun i m H => m = xs.length - i ∧ i ≤ xs.length ∧ ∃ acc, R F (B.root (.l acc) p) (ps1 ++ ps) E σ H ∧ tdLcL g tt te E (xs.drop i) acc fun ys => Qd (.l ys) .fr, ⟨_, rfl, Nat.zero_le _, [], r2, q⟩, ?_⟩
  rintro i m H3 ⟨rfl, hi, acc, r3, q3⟩
  obtain ⟨hstop, hgo⟩ := w i H3 _ (fun z hz => r3.pins z (List.mem_append_left _ hz)) fun a h => r3.own_there h
  by_cases hlt : i < xs.length
  · obtain ⟨go, yl⟩ := hgo xs[i] (List.getElem?_eq_getElem hlt)
    rw [List.drop_eq_getElem_cons hlt] at q3
    refine .inr ⟨go, fun H' => ∃ acc, R F (B.root (.l acc) p) (ps1 ++ ps) E σ H' ∧ tdLcL g tt te E (xs.drop (i + 1)) acc fun ys => Qd (.l ys) .fr, fun H' ⟨a, r', q'⟩ => ⟨xs.length - (i + 1), by omega, rfl, hlt, a, r', q'⟩, fun x H' y => ?_⟩
    obtain ⟨hk, hx⟩ := yl x H' y
    have r4 := r3.grow hk
    have r5 := wiped (vs := vs) un r4
    have hx' : Is F (own (B.root (.l acc) p) E (L2.wipe σ vs)) H' xs[i] x := hx.mono (fun _ _ z _ => z) fun a _ _ z => by
      rcases z with z | ⟨j, d, e1, e2⟩
      · exact .inl z
      · have : j ∉ vs := fun z => by
          have := un j z
          rw [e1] at this; cases this
        rw [wipe_get, if_neg this] at e2
        exact .inr ⟨j, d, e1, e2⟩
    refine hg F _ _ E _ H' _ x _ _ hF r5 hx' q3 fun E' σ' q5 r6 o6 => ⟨?_, fun s0 H0 C cl fp => ?_⟩
    · have := (o6.wipe hsl).2
      rw [this]
      apply List.ext_getElem?
      intro j
      rw [wipe_get, wipe_get, wipe_length]
      by_cases hj : j ∈ vs
      · rw [if_pos hj, if_pos hj]
      · rw [if_neg hj, if_neg hj]
    · refine (ht s0 H0 C cl fp).run F _ _ E' σ' H' _ _ (fOk_blk hF) r6 q5 fun b H4 q6 r7 => ?_
      cases b with
      | false =>
        rw [if_neg Bool.false_ne_true] at q6 ⊢
        exact ⟨acc, unwiped un o6 hsl r7, q6⟩
      | true =>
        rw [if_pos rfl] at q6 ⊢
        intro s0 H0 C cl fp
        refine (he s0 H0 C cl fp).run F _ _ E' σ' H4 _ _ (fOk_blk hF) r7 q6 fun d f v H5 q7 pp => ?_
        obtain ⟨r8, hd⟩ := pp.sh q7.1
        obtain ⟨us, h9, l9⟩ := r8.topL
        refine ⟨us, h9, by rw [← l9.length]; exact q7.2.1, acc ++ [d], ?_, q7.2.2⟩
        exact unwiped un o6 hsl ((nw.fresh r8).write r8 (rootL (l9.append (.cons hd .nil))))
  · have e : i = xs.length := by omega
    subst e
    rw [List.drop_length] at q3
    exact .inl ⟨hstop (Nat.le_refl _), k _ .fr _ _ q3 ((nw.fresh r3).post (r3.mem_pins fun z hz => r3.pins z (List.mem_append_right _ hz)))⟩
/-- [elt for tg in iter if ..] -/
theorem de_lc (hc : X.calm = true) (hN : X.N.Nodup) (ok : BlkOk X.N X.env.scope scope own') (hi : DI X tg iter ti) (hg : InBlk X scope fun Y => DG Y tg g' sl g) (ht : InBlk X scope fun Y => DTs Y ifs tt) (he : InBlk X scope fun Y => DE Y elt te) (hsl : ∀ i ∈ sl, i ∈ own'.map (·.2)) (hs : ∀ x, foldedSetIterable iter X.env x = pure x := by intro _; rfl) :
    DE X (.ListComp elt [⟨tg, iter, ifs, 0⟩] scope pos) (tdLc ti g tt te (own'.map (·.2))) :=
  ⟨fun F B ps E σ H Qd Q hF r t k => Run.of (pe_lc hc hN piR ok (fun s H C cl fp => (hg s H C cl fp).pg) ptsB peB hs) (lc_link hi (glAny hg) ht he hsl hF r t k)⟩
/-- name = [..] on one row -/
theorem ds_setLc {i : Nat} {y : Str} (hc : X.calm = true) (hN : X.N.Nodup) (hy : X.N[i]? = some y) (hyl : X.env.scope.names.lookup y = some .local) (hsw : swapsWith (.ListComp elt [⟨tg, iter, ifs, 0⟩] scope pos) (some (.Name y py)) spos.line X.env = pure true) (ok : BlkOk X.N X.env.scope scope own') (hi : DI X tg iter ti) (hg : InBlk X scope fun Y => DG Y tg g' sl g) (ht : InBlk X scope fun Y => DTs Y ifs tt) (he : InBlk X scope fun Y => DE Y elt te) (hsl : ∀ i ∈ sl, i ∈ own'.map (·.2)) (hs : ∀ x, foldedSetIterable iter X.env x = pure x := by intro _; rfl) :
    DS X (.Assign [.Name y py] (.ListComp elt [⟨tg, iter, ifs, 0⟩] scope pos) spos) (tdSet i (tdLc ti g tt te (own'.map (·.2)))) :=
  ⟨fun F B ps E σ H Dd D' hF r t l => RunS.of (ps_setLc hc hN hy hyl hsw piR ok (fun s H C cl fp => (hg s H C cl fp).pg) ptsB peB hs) (lc_link (Q := fun x H1 => gName i x σ H1 D'.nx) hi (glAny hg) ht he hsl hF r t fun d f v H' q p => l.nx _ _ H' q.2 (p.put q.1))⟩
end
end DL
set_option Elab.async false
set_option linter.all false
set_option maxRecDepth 100000
/-! DLMore: further rules over data. -/
namespace DL
open PySem PySem.Spec PyProof.Rows L2
section
variable {X : Cx} {e a b : Expr} {es : List Expr} {te ta tb : TDE} {pos p p2 q2 : Pos}
/-! ### isinstance -/
theorem pe_tyN {x : Str} {T : String} (hg : Gl X x) (hm : X.mg x = none) (hv : bootBuiltins x = some (.type T)) (hn : x ≠ "__name__" := by decide) (hd : (x == ("__debug__" : Str)) = false := by decide) : PE X (.Name x pos) (tC (.ty T)) := ⟨fun pins s σ H Q I h => ld_blt I hg hm hv ⟨.ty T, H, I, rfl, h⟩ hn hd⟩
def rIsiD : List V → Hp → VK → Prop := fun xs H Q => ∃ (a : Addr) (o : Obj), xs = [.ref a, .ty "dict"] ∧ H a = some (.ext (Lit a o)) ∧ o.cls = .type "dict" ∧ Q (.bl true) H
theorem call_isiDict : CallR X (.builtin "isinstance") rIsiD := by
  intro pins s σ H xs us Q I r h
  obtain ⟨a, o, rfl, ha, hx, q⟩ := h
  obtain ⟨u1, u2, rfl, r1, r2⟩ := vals2 r
  cases (show u1 = Value.ref a from r1)
  cases (show u2 = Value.type "dict" from r2)
  exact PySem.W.kia_one (K := X.K) PySem.W.kitx_dict I.kIn ⟨o, inv_lit I ha, hx⟩ (kit_ty (a := "dict") (b := "dict") (r := true) (by decide +kernel)) (fun z => nomatch z) fun tk => ⟨.bl true, H, I.tok tk, rfl, q⟩
/-- what isinstance(x, T) says of data -/
def isTuple : D → Option Bool
  | .t _ => some true
  | _ => none
def isInt : D → Option Bool
  | .a (.int _) => some true
  | _ => none
def isBool : D → Option Bool
  | .a (.int _) => some false
  | _ => none
def isDict : D → Option Bool
  | .d _ => some true
  | _ => none
def tdIsi (g : D → Option Bool) (te : TDE) : TDE := fun E Q => te E fun d _ => ∃ k, g d = some k ∧ Q (D.bl k) .sh
theorem pe_isi {t : TE} {T : String} {x : Str} (hg : Gl X "isinstance") (hm : X.mg "isinstance" = none) (he : PE X e t) (ht : PE X (.Name x p2) (tC (.ty T))) (h1 : starEach [e, .Name x p2] X.env = (false, eval e X.env) :: starEach [.Name x p2] X.env) (h2 : starEach [.Name x p2] X.env = (false, eval (.Name x p2) X.env) :: starEach [] X.env) (h3 : (backTo pos (starEach [.Name x p2] X.env)).any (·.1) = false) : PE X (.Call (.Name "isinstance" p) [e, .Name x p2] [] pos) (tCB (fun xs H Q => rIsi X.K xs H Q ∨ rIsiD xs H Q) (tCons t (tCons (tC (.ty T)) tNil))) :=
  pe_callB (call_isi.or call_isiDict) hg hm boot_isinstance (pa_cons he (pa_cons ht pa_nil h2) h1) (by decide) (by decide) h1 h3
theorem de_isiG {x : Str} {T : String} {g : D → Option Bool} (hg : Gl X "isinstance") (hm : X.mg "isinstance" = none) (ht : PE X (.Name x p2) (tC (.ty T))) (he : DE X e te) (h1 : starEach [e, .Name x p2] X.env = (false, eval e X.env) :: starEach [.Name x p2] X.env) (h2 : starEach [.Name x p2] X.env = (false, eval (.Name x p2) X.env) :: starEach [] X.env) (h3 : (backTo pos (starEach [.Name x p2] X.env)).any (·.1) = false)
    (hgd : ∀ (F : Fx) (B : Bas) (ps : List (D × V)) (E : DEnv) (σ : L2.St) (H : Hp) (d : D) (f : Fl) (v : V) (k : Bool) (Q : VK), FOk X F → R F B ps E σ H → Val F B E σ H d f v → g d = some k → Q (.bl k) H → rIsi X.K [v, .ty T] H Q ∨ rIsiD [v, .ty T] H Q) : DE X (.Call (.Name "isinstance" p) [e, .Name x p2] [] pos) (tdIsi g te) :=
  ⟨fun F B ps E σ H Qd Q hF r t k => Run.of (pe_isi hg hm peR ht h1 h2 h3) (he.run F B ps E σ H _ _ hF r t fun d f v H1 q p => by
    obtain ⟨kk, e1, q⟩ := q
    obtain ⟨r1, w⟩ := p.val
    exact hgd F B ps E σ H1 d f v kk Q hF r1 w e1 (k _ .sh _ H1 q ⟨r1, .a rfl⟩))⟩
theorem tyX_tup {F : Fx} {O : Addr → Prop} {H : Hp} {ds : List D} {v : V} (hF : FOk X F) (h : Is F O H (.t ds) v) : TyX X.K H v (.type "tuple") := by
  cases h with
  | t h1 _ _ => exact .base (.tup h1)
  | tk h1 _ =>
    obtain ⟨o, its, n, e, c, _⟩ := h1
    rw [hF.K] at e
    exact .kTuple e c
theorem val_tup {F : Fx} {B : Bas} {ps : List (D × V)} {E : DEnv} {σ : L2.St} {H : Hp} {ds : List D} {f : Fl} {v : V} (r : R F B ps E σ H) (w : Val F B E σ H (.t ds) f v) : Is F (own B E σ) H (.t ds) v := by
  cases f with
  | ow i =>
    obtain ⟨b, _, rt, _⟩ := r.ow i _ w.1
    exact rt.elim
  | _ => exact w
theorem de_isiTuple (hg : Gl X "isinstance") (hm : X.mg "isinstance" = none) (hg2 : Gl X "tuple") (hm2 : X.mg "tuple" = none) (he : DE X e te) (h1 : starEach [e, .Name "tuple" p2] X.env = (false, eval e X.env) :: starEach [.Name "tuple" p2] X.env := by rfl) (h2 : starEach [.Name "tuple" p2] X.env = (false, eval (.Name "tuple" p2) X.env) :: starEach [] X.env := by rfl) (h3 : (backTo pos (starEach [.Name "tuple" p2] X.env)).any (·.1) = false := by rfl) : DE X (.Call (.Name "isinstance" p) [e, .Name "tuple" p2] [] pos) (tdIsi isTuple te) :=
  de_isiG hg hm (pe_tyN hg2 hm2 boot_tuple) he h1 h2 h3 fun F B ps E σ H d f v k Q hF r w e1 q => by
    unfold isTuple at e1
    split at e1
    · cases e1
      exact .inl ⟨v, .ty "tuple", .type "tuple", .type "tuple", true, rfl, .ty _, tyX_tup hF (val_tup r w), kit_ty (by decide +kernel), q⟩
    · cases e1
theorem de_isiInt (hg : Gl X "isinstance") (hm : X.mg "isinstance" = none) (hg2 : Gl X "int") (hm2 : X.mg "int" = none) (he : DE X e te) (h1 : starEach [e, .Name "int" p2] X.env = (false, eval e X.env) :: starEach [.Name "int" p2] X.env := by rfl) (h2 : starEach [.Name "int" p2] X.env = (false, eval (.Name "int" p2) X.env) :: starEach [] X.env := by rfl) (h3 : (backTo pos (starEach [.Name "int" p2] X.env)).any (·.1) = false := by rfl) : DE X (.Call (.Name "isinstance" p) [e, .Name "int" p2] [] pos) (tdIsi isInt te) :=
  de_isiG hg hm (pe_tyN hg2 hm2 boot_int) he h1 h2 h3 fun F B ps E σ H d f v k Q hF r w e1 q => by
    unfold isInt at e1
    split at e1
    · cases e1
      obtain ⟨rfl, _⟩ := w.atm r
      exact .inl ⟨_, .ty "int", .type "int", .type "int", true, rfl, .ty _, .base (.int _), kit_ty (by decide +kernel), q⟩
    · cases e1
theorem de_isiBool (hg : Gl X "isinstance") (hm : X.mg "isinstance" = none) (hg2 : Gl X "bool") (hm2 : X.mg "bool" = none) (he : DE X e te) (h1 : starEach [e, .Name "bool" p2] X.env = (false, eval e X.env) :: starEach [.Name "bool" p2] X.env := by rfl) (h2 : starEach [.Name "bool" p2] X.env = (false, eval (.Name "bool" p2) X.env) :: starEach [] X.env := by rfl) (h3 : (backTo pos (starEach [.Name "bool" p2] X.env)).any (·.1) = false := by rfl) : DE X (.Call (.Name "isinstance" p) [e, .Name "bool" p2] [] pos) (tdIsi isBool te) :=
  de_isiG hg hm (pe_tyN hg2 hm2 boot_bool) he h1 h2 h3 fun F B ps E σ H d f v k Q hF r w e1 q => by
    unfold isBool at e1
    split at e1
    · cases e1
      obtain ⟨rfl, _⟩ := w.atm r
      exact .inl ⟨_, .ty "bool", .type "int", .type "bool", false, rfl, .ty _, .base (.int _), kit_ty (by decide +kernel), q⟩
    · cases e1
theorem de_isiDict (hg : Gl X "isinstance") (hm : X.mg "isinstance" = none) (hg2 : Gl X "dict") (hm2 : X.mg "dict" = none) (he : DE X e te) (h1 : starEach [e, .Name "dict" p2] X.env = (false, eval e X.env) :: starEach [.Name "dict" p2] X.env := by rfl) (h2 : starEach [.Name "dict" p2] X.env = (false, eval (.Name "dict" p2) X.env) :: starEach [] X.env := by rfl) (h3 : (backTo pos (starEach [.Name "dict" p2] X.env)).any (·.1) = false := by rfl) : DE X (.Call (.Name "isinstance" p) [e, .Name "dict" p2] [] pos) (tdIsi isDict te) :=
  de_isiG hg hm (pe_tyN hg2 hm2 boot_dict) he h1 h2 h3 fun F B ps E σ H d f v k Q hF r w e1 q => by
    unfold isDict at e1
    split at e1
    · cases e1
      obtain ⟨a, o, rows, rfl, hd⟩ := w.dat r
      exact .inr ⟨a, o, rfl, hd.at_, hd.rel.ex.1, q⟩
    · cases e1
/-! ### slices -/
theorem pe_from {lo : Int} {j : Nat} (he : PE X e t) : PE X (.Subscript e (.Slice (some (.Constant (.int lo) j p2)) none none q2) pos) (tSl (fun x l u H Q => rSlL X.K x l u H Q ∨ rSlA X.K x l u H Q) t (tPart (tC (.int lo))) tNoPart) := pe_slice (sl_list.or sl_tupA) he (po_some pe_int) po_none
theorem pe_upto {hi : Int} {j : Nat} (he : PE X e t) : PE X (.Subscript e (.Slice none (some (.Constant (.int hi) j p2)) none q2) pos) (tSl (fun x l u H Q => rSlL X.K x l u H Q ∨ rSlA X.K x l u H Q) t tNoPart (tPart (tC (.int hi)))) := pe_slice (sl_list.or sl_tupA) he po_none (po_some pe_int)
theorem cut_whole {α : Type} {xs : List α} {lo hi : Option Int} (h : HT.sIx xs.length 0 lo = 0 ∧ HT.sIx xs.length xs.length hi = xs.length) : (xs.drop (HT.sIx xs.length 0 lo)).take (HT.sIx xs.length xs.length hi - HT.sIx xs.length 0 lo) = xs := by
  rw [h.1, h.2, List.drop_zero, Nat.sub_zero, List.take_length]
def rdCut (lo hi : Option Int) : D → (D → Fl → Prop) → Prop := fun d Q => match d with
  | .l xs => Q (.l (cutD xs lo hi)) .fr
  | .t xs => Q (.t (cutD xs lo hi)) .sh
  | _ => False
theorem cut_of {F : Fx} {B : Bas} {ps : List (D × V)} {E : DEnv} {σ : L2.St} {H : Hp} {d : D} {f : Fl} {v : V} {lo hi : Option Int} {Qd : D → Fl → Prop} {Q : VK} (hF : FOk X F) (r : R F B ps E σ H) (w : Val F B E σ H d f v) (q : rdCut lo hi d Qd) (k : ∀ d f v H', Qd d f → Post F B ps E σ d f v H' → Q v H') : rSlL X.K v lo hi H Q ∨ rSlA X.K v lo hi H Q := by
  unfold rdCut at q
  split at q
  · rename_i xs
    obtain ⟨a, vs, rfl, h, l⟩ := w.lst r
    exact .inl ⟨a, vs, rfl, SqL.of h, fun p hp => k _ .fr _ _ q (r.laid (d := .l _) hp ⟨_, upd_same, (cutD_is l).laid hp⟩)⟩
  · rename_i xs
    have wi := val_tup r w
    obtain ⟨a, vs, rfl, h, l⟩ := w.tup hF.K r
    refine .inr ⟨a, vs, rfl, h, fun c => ?_, fun _ p hp => k _ .sh _ _ q (r.laidT hp (cutD_is l))⟩
    have e1 : cutD xs lo hi = xs := cut_whole (by rw [l.length]; exact c)
    rw [e1] at q
    exact k _ .sh _ H q ⟨r, wi⟩
  · exact q.elim
def tdFrom (lo : Int) (te : TDE) : TDE := fun E Q => te E fun d _ => rdCut (some lo) none d Q
def tdUpto (hi : Int) (te : TDE) : TDE := fun E Q => te E fun d _ => rdCut none (some hi) d Q
theorem de_from {lo : Int} {j : Nat} (he : DE X e te) : DE X (.Subscript e (.Slice (some (.Constant (.int lo) j p2)) none none q2) pos) (tdFrom lo te) :=
  ⟨fun F B ps E σ H Qd Q hF r t k => Run.of (pe_from peR) (he.run F B ps E σ H _ _ hF r t fun d f v H1 q p => by
    obtain ⟨r1, w⟩ := p.val
    exact ⟨lo, rfl, cut_of hF r1 w q k⟩)⟩
theorem de_upto {hi : Int} {j : Nat} (he : DE X e te) : DE X (.Subscript e (.Slice none (some (.Constant (.int hi) j p2)) none q2) pos) (tdUpto hi te) :=
  ⟨fun F B ps E σ H Qd Q hF r t k => Run.of (pe_upto peR) (he.run F B ps E σ H _ _ hF r t fun d f v H1 q p => by
    obtain ⟨r1, w⟩ := p.val
    exact ⟨hi, rfl, cut_of hF r1 w q k⟩)⟩
/-! ### list + list -/
def rdCat : D → D → (D → Fl → Prop) → Prop := fun d1 d2 Q => match d1, d2 with
  | .l xs, .l ys => xs.length + ys.length ≤ sizeLine ∧ Q (.l (xs ++ ys)) .fr
  | _, _ => False
theorem opl_cat : OpL X rCat rdCat := by
  intro F B ps E σ H d1 f1 d2 f2 v1 v2 Qd Q hF r w1 w2 q k
  unfold rdCat at q
  split at q
  · rename_i xs ys
    obtain ⟨p1, vs1, rfl, h1, l1⟩ := w1.lst r
    obtain ⟨p2, vs2, rfl, h2, l2⟩ := w2.lst r
    exact ⟨p1, p2, vs1, vs2, rfl, rfl, h1, h2, by rw [← l1.length, ← l2.length]; exact q.1, fun p hp => k _ .fr _ _ q.2 (r.laid (d := .l _) hp ⟨_, upd_same, (l1.append l2).laid hp⟩)⟩
  · exact q.elim
theorem de_cat (ha : DE X a ta) (hb : DE X b tb) : DE X (.BinOp a .Add b pos) (tdOp rdCat ta tb) := de_op op_cat opl_cat ha hb
/-! ### sorted lists of ints; list(range(n)) -/
def rdSortedI : List (D × Fl) → (D → Fl → Prop) → Prop := rd1 fun d _ Q => match d with
  | .l xs => ∃ ns, intsOf xs = some ns ∧ ∀ ns' : List Int, ns'.Perm ns → ns'.Pairwise (· ≤ ·) → Q (.l (ns'.map D.int)) .fr
  | _ => False
theorem calll_sortedI : CallL X (rSortedI X.K) rdSortedI := by
  intro F B ps E σ H dfs vs Qd Q hF r w q k
  obtain ⟨d, f, e0, q0⟩ := rd1_of q
  subst e0
  clear q
  obtain ⟨v, e0, w0⟩ := w.one
  subst e0
  split at q0
  · obtain ⟨ns, e, q⟩ := q0
    obtain ⟨a, us, rfl, h, l⟩ := w0.lst r
    rw [intsOf_is e l] at h
    exact ⟨a, ns, rfl, SqL.of h, fun ns' p h1 h2 hp => k _ .fr _ _ (q ns' h1 h2) (r.laid (d := .l _) hp ⟨_, upd_same, .ints⟩)⟩
  · exact q0.elim
theorem de_sortedI {ta : TDA} (hg : Gl X "sorted") (hm : X.mg "sorted" = none) (ha : DA X [e] ta) (he : starEach (e :: []) X.env = (false, eval e X.env) :: starEach [] X.env := by rfl) (hpl : (backTo pos (starEach [] X.env)).any (·.1) = false := by rfl) : DE X (.Call (.Name "sorted" p) [e] [] pos) (tdCB rdSortedI ta) :=
  de_callB cr_sortedI calll_sortedI hg hm boot_sorted ha (by decide) (by decide) he hpl
def rdListRange : List (D × Fl) → (D → Fl → Prop) → Prop := rd1 fun d _ Q => match d with
  | .a (.int n) => 0 ≤ n ∧ n ≤ 1000 ∧ Q (.l (ups 0 n.toNat)) .fr
  | _ => False
theorem rgV_ups {F : Fx} {O : Addr → Prop} {H : Hp} (n : Nat) : ∀ lo : Int, IsL F O H (ups lo n) (rgV lo (lo + n)) := by
  intro lo
  have e : rgV lo (lo + n) = (List.range n).map fun i => V.int (lo + (i : Nat)) := by
    unfold rgV
    rw [show (lo + (n : Int) - lo).toNat = n by omega]
  rw [e]
  clear e
  induction n generalizing lo with
  | zero => exact .nil
  | succ n ih =>
    rw [List.range_succ_eq_map, List.map_cons, List.map_map]
    refine .cons ?_ ?_
    · rw [show lo + ((0 : Nat) : Int) = lo by omega]; exact .a rfl
    · have := ih (lo + 1)
      have e2 : ((fun i : Nat => V.int (lo + (i : Int))) ∘ Nat.succ) = fun i : Nat => V.int (lo + 1 + (i : Int)) := by
        funext i
        show V.int (lo + ((i + 1 : Nat) : Int)) = _
        congr 1
        omega
      rw [e2]
      exact this
theorem de_listRange {ta : TDE} (hg : Gl X "list") (hm : X.mg "list" = none) (hg2 : Gl X "range") (hm2 : X.mg "range" = none) (hc : X.calm = true) (ha : DE X e ta)
    (na : starEach [e] X.env = (false, eval e X.env) :: starEach [] X.env := by rfl) (nb : starEach [.Call (.Name "range" p2) [e] [] q2] X.env = (false, eval (.Call (.Name "range" p2) [e] [] q2) X.env) :: starEach [] X.env := by rfl) : DE X (.Call (.Name "list" p) [.Call (.Name "range" p2) [e] [] q2] [] pos) (fun E Q => ta E fun d f => rdListRange [(d, f)] Q) :=
  ⟨fun F B ps E σ H Qd Q hF r t k => Run.of (pe_listRg hc hg hm (prg_1 hg2 hm2 peR na) nb) (ha.run F B ps E σ H _ _ hF r t fun d f v H1 q p => by
    obtain ⟨r1, w⟩ := p.val
    obtain ⟨d', f', e0, q0⟩ := rd1_of q
    cases e0
    clear q
    split at q0
    · rename_i n
      obtain ⟨rfl, _⟩ := w.atm r1
      obtain ⟨h0, h1, q⟩ := q0
      refine ⟨n, rfl, .of_le (by omega) (by omega) (by omega) (by omega), fun p hp => k _ .fr _ _ q (r1.laid (d := .l _) hp ⟨_, upd_same, ?_⟩)⟩
      have := rgV_ups (F := F) (O := own (B.plus p) E σ) (H := upd H1 p (.lst (rgV 0 n))) n.toNat 0
      rw [show (0 : Int) + (n.toNat : Nat) = n by omega] at this
      exact this
    · exact q0.elim)⟩
end
end DL
set_option Elab.async false
set_option linter.all false
set_option maxRecDepth 100000
/-! DLRep: a tuple times a number. -/
namespace DL
open PySem PySem.Spec PyProof.Rows L2
theorem tuple_mul1 (l : Addr) (items : Array Value) (n : Nat) (dd : Option Addr) (sl : Array (Option Value)) (u : Tok) :
    Meets (Builtin.«tuple.__mul__» ⟨[.ref l, .int 1 u], []⟩) (fun _ R s => s.heap.get? l = some ⟨.type "tuple", dd, .seq items n, sl⟩ ∧ R (.ok (.ret (Value.ref l))) s) :=
  .of_wp fun prog w A R s h => by
    obtain ⟨hp, g, d, tk, os⟩ := s
    obtain ⟨hl, h⟩ := h
    have f1 := AutoSeq1.idx_int
    wp_walk using wpAny_loadPart' hl
    all_goals exact ⟨_, rfl, h⟩
def rRep1 (K : PySem.W.Frag) : R2 := fun x y H Q => ∃ (l : Addr) (xs : List V), x = .ref l ∧ y = .int 1 ∧ SqT K H l xs ∧ Q (.ref l) H
section
variable {X : Cx} {a b : Expr} {ta tb : TDE} {pos : Pos}
theorem op_rep1 : OpR X (binaryOp .Mult) (rRep1 X.K) := by
  intro pins s σ H x y v u Q I rx ry h
  obtain ⟨l, xs, rfl, rfl, hT, q⟩ := h
  cases rx
  obtain ⟨t, rfl⟩ := ry
  obtain ⟨its, r, ⟨o, ho, hc, n, hd⟩, hs⟩ := I.tuple hT
  obtain ⟨cls, dd, data, sl⟩ := o
  have hc : cls = .type "tuple" := hc
  have hd : data = .seq its.toArray n := hd
  subst hc hd
  have ht : s.TypeIs (.ref l) "tuple" := ⟨_, ho, rfl⟩
  exact wpAny_binaryOp_repeat_ref (T := "tuple") (U := "int") (by decide) ht (fun s' => typeIs_int s' 1 t) noFill_tuple_mul F.fills_int_mul F.slot_int_rmul repeat_tuple F.slot_int_index.lookup
    (call_meets F.slot_int_rmul (typeIs_int s 1 t) F.entry_int_rmul (F.args_int_rmul_2 _ _) (int_rmul_tuple 1 t l its.toArray n dd sl) ⟨ho, rfl, ht, call_meets F.slot_tuple_mul ht F.entry_tuple_mul (F.args_tuple_mul_2 _ _) (tuple_mul1 l its.toArray n dd sl t) ⟨ho, .ref l, H, I, rfl, q⟩⟩)
def rdRep : D → D → (D → Fl → Prop) → Prop := fun d1 d2 Q => match d1, d2 with
  | .t xs, .a (.int k) => xs ≠ [] ∧ 1 ≤ k ∧ k ≤ 1000 ∧ xs.length ≤ 1000 ∧ Q (.t (List.replicate k.toNat xs).flatten) .sh
  | _, _ => False
theorem IsL.rep {F : Fx} {O : Addr → Prop} {H : Hp} {ds : List D} {vs : List V} (h : IsL F O H ds vs) : ∀ n : Nat, IsL F O H (List.replicate n ds).flatten (List.replicate n vs).flatten
  | 0 => .nil
  | n + 1 => by
    rw [List.replicate_succ, List.replicate_succ, List.flatten_cons, List.flatten_cons]
    exact h.append (h.rep n)
theorem opl_rep : OpL X (fun x y H Q => rRepT X.K x y H Q ∨ rRep1 X.K x y H Q) rdRep := by
  intro F B ps E σ H d1 f1 d2 f2 v1 v2 Qd Q hF r w1 w2 q k
  unfold rdRep at q
  split at q
  · rename_i xs n
    obtain ⟨q0, q1, q2, q3, q⟩ := q
    have wi := val_tup r w1
    obtain ⟨p1, vs1, rfl, h1, l1⟩ := w1.tup hF.K r
    obtain ⟨rfl, _⟩ := w2.atm r
    by_cases hn : n = 1
    · subst hn
      have e : (List.replicate (1 : Int).toNat xs).flatten = xs := by simp
      rw [e] at q
      exact .inr ⟨p1, vs1, rfl, rfl, h1, k _ .sh _ H q ⟨r, wi⟩⟩
    · refine .inl ⟨p1, n, vs1, rfl, rfl, h1, fun z => q0 (List.eq_nil_of_length_eq_zero (by rw [l1.length, z]; rfl)), by omega, q2, by rw [← l1.length]; exact q3, fun p hp => k _ .sh _ _ q (r.laidT hp (l1.rep _))⟩
  · exact q.elim
theorem de_rep (ha : DE X a ta) (hb : DE X b tb) : DE X (.BinOp a .Mult b pos) (tdOp rdRep ta tb) := de_op (op_repT.or op_rep1) opl_rep ha hb
end
end DL
set_option Elab.async false
set_option linter.all false
set_option maxRecDepth 100000
/-! DLSort: sorted and min over data. -/
namespace DL
open PySem PySem.Spec PyProof.Rows L2
mutual
/-- ints and tuples of them, as the kit's data -/
def pyD : D → PyData
  | .a (.int i) => .int i
  | .t xs => .tuple (pyDs xs)
  | _ => .none
def pyDs : List D → List PyData
  | [] => []
  | x :: xs => pyD x :: pyDs xs
end
mutual
def okD : D → Bool
  | .a (.int _) => true
  | .t xs => okDs xs
  | _ => false
def okDs : List D → Bool
  | [] => true
  | x :: xs => okD x && okDs xs
end
mutual
theorem dp_of {F : Fx} {O : Addr → Prop} {H : Hp} {K : PySem.W.Frag} (hK : F.K = K) : ∀ {d : D} {v : V}, Is F O H d v → okD d = true → Dp K H v (pyD d)
  | .a (.int i), _, .a _, _ => .int i
  | .a .non, _, .a _, h => by cases h
  | .a (.bl _), _, .a _, h => by cases h
  | .a (.str _), _, .a _, h => by cases h
  | .t xs, _, .t h1 h2 h3, h => .tup (.inl (.inl h1)) (dp_ofs hK h3 h)
  | .t xs, _, .tk h1 h3, h => .tup (.inr (hK ▸ h1)) (dp_ofs hK h3 h)
theorem dp_ofs {F : Fx} {O : Addr → Prop} {H : Hp} {K : PySem.W.Frag} (hK : F.K = K) : ∀ {ds : List D} {vs : List V}, IsL F O H ds vs → okDs ds = true → DpAll K H vs (pyDs ds)
  | [], _, .nil, _ => .nil
  | x :: xs, _, .cons h1 h2, h => by
    have h : (okD x && okDs xs) = true := h
    rw [Bool.and_eq_true] at h
    exact .cons (dp_of hK h1 h.1) (dp_ofs hK h2 h.2)
end
theorem okDs_mem : ∀ {xs : List D}, okDs xs = true → ∀ d ∈ xs, okD d = true
  | [], _, d, h => absurd h (by simp)
  | x :: xs, h, d, hd => by
    have h : (okD x && okDs xs) = true := h
    rw [Bool.and_eq_true] at h
    rcases List.mem_cons.mp hd with e | e
    · rw [e]; exact h.1
    · exact okDs_mem h.2 d e
theorem pyDs_eq : ∀ xs : List D, pyDs xs = xs.map pyD
  | [] => rfl
  | x :: xs => by show pyD x :: pyDs xs = _; rw [pyDs_eq xs]; rfl
/-- these can be sorted -/
structure CanSort (xs : List D) : Prop where
  ok : okDs xs = true
  al : PySem.W.AllAlike (xs.map pyD)
  so : PySem.W.Sortable (xs.map pyD)
  dp : ∀ d ∈ xs, (pyD d).depth ≤ 8
  ln : xs.length ≤ sizeLine
section
variable {X : Cx} {pins : List (Addr × Obj)} {σ : L2.St} {H : Hp} {s : Shared} {F : Fx} {O : Addr → Prop}
/-- a value that stands for the data d -/
def StandsFor (F : Fx) (O : Addr → Prop) (H : Hp) (v : Value) (d : D) : Prop := ∃ y, RelV y v ∧ Is F O H d y
theorem each_of : ∀ {ds : List D} {vs : List V} {us : List Value}, IsL F O H ds vs → Vals vs us → PySem.W.EachIs (StandsFor F O H) us ds
  | _, _, _, .nil, .nil => .nil
  | _, _, _, .cons h1 h2, .cons r1 r2 => .cons ⟨_, r1, h1⟩ (each_of h2 r2)
theorem each_back : ∀ {ds : List D} {us : List Value}, PySem.W.EachIs (StandsFor F O H) us ds → ∃ vs, IsL F O H ds vs ∧ Vals vs us
  | _, _, .nil => ⟨[], .nil, .nil⟩
  | _, _, .cons ⟨y, r, h⟩ t => let ⟨vs, h2, r2⟩ := each_back t; ⟨y :: vs, .cons h h2, .cons r r2⟩
theorem each_reads (I : Inv X pins σ H s) (hK : F.K = X.K) : ∀ {ds : List D} {us : List Value}, PySem.W.EachIs (StandsFor F O H) us ds → okDs ds = true → PySem.W.EachIs (fun v b => ∃ as, Reads s.heap v (pyD b) as) us ds
  | _, _, .nil, _ => .nil
  | d :: ds, _, .cons ⟨y, r, h⟩ t, ok => by
    have ok : (okD d && okDs ds) = true := ok
    rw [Bool.and_eq_true] at ok
    exact .cons (Dp.reads I _ _ _ (dp_of hK h ok.1) r) (each_reads I hK t ok.2)
/-- the sorted list -/
def srtD (xs : List D) : List D := xs.mergeSort (PySem.W.dataLe false pyD)
def rSortD (X : Cx) : List V → Hp → VK → Prop := fun vs H Q => ∃ (a : Addr) (F : Fx) (O : Addr → Prop) (xs : List D) (us : List V), vs = [.ref a] ∧ FOk X F ∧ H a = some (.lst us) ∧ IsL F O H xs us ∧ CanSort xs ∧ ∀ ys p, IsL F O H (srtD xs) ys → H p = none → Q (.ref p) (upd H p (.lst ys))
theorem cr_sortD (hu : X.A.units + 64 < cLine) : CallR X (.builtin "sorted") (rSortD X) := by
  intro pins s σ H vs us Q I r h
  obtain ⟨a, F, O, xs, ws, rfl, hF, ha, hl, cs, q⟩ := h
  obtain ⟨u, rfl, ru⟩ := vals1 r
  obtain rfl : u = Value.ref a := ru
  obtain ⟨its, rv, p, hz⟩ := I.list (SqL.of ha)
  have e1 := each_of hl rv
  refine PySem.W.sorted_data (enc := pyD) (R := StandsFor F O H) p.isList e1 (each_reads I hF.K e1 cs.ok) cs.al cs.so cs.ln (fun b hb => by have := cs.dp b hb; omega) fun out hlen he => ?_
  obtain ⟨ys, h1, h2⟩ := each_back he
  refine ⟨.ref (s.heap.objs.size + 1), upd H (s.heap.objs.size + 1) (.lst ys), I.laid (t' := s.toks) (fun b o e => PyProof.Rows.sortedAll_old e) (Nat.le_succ _) ?_, rfl, q ys _ h1 (I.hok.fresh (Nat.le_succ _))⟩
  obtain ⟨c, hc⟩ := PyProof.Rows.sortedAll_at s.heap its out.toArray
  refine ⟨?_, out, c, h2, hc⟩
  have l1 := h2.length
  rw [l1, hlen]
  exact cs.ln
def rdSortL : List (D × Fl) → (D → Fl → Prop) → Prop := rd1 fun d _ Q => match d with
  | .l xs => CanSort xs ∧ Q (.l (srtD xs)) .fr
  | _ => False
theorem calll_sortD : CallL X (rSortD X) rdSortL := by
  intro F B ps E σ H dfs vs Qd Q hF r w q k
  obtain ⟨d, f, e0, q0⟩ := rd1_of q
  subst e0
  clear q
  obtain ⟨v, e0, w0⟩ := w.one
  subst e0
  split at q0
  · rename_i xs
    obtain ⟨a, us, rfl, h, l⟩ := w0.lst r
    exact ⟨a, F, _, xs, us, rfl, hF, h, l, q0.1, fun ys p hy hp => k _ .fr _ _ q0.2 (r.laid (d := .l _) hp ⟨_, upd_same, hy.laid hp⟩)⟩
  · exact q0.elim
theorem de_sortL {e : Expr} {ta : TDA} {p pos : Pos} (hu : X.A.units + 64 < cLine) (hg : Gl X "sorted") (hm : X.mg "sorted" = none) (ha : DA X [e] ta) (he : starEach (e :: []) X.env = (false, eval e X.env) :: starEach [] X.env := by rfl) (hpl : (backTo pos (starEach [] X.env)).any (·.1) = false := by rfl) : DE X (.Call (.Name "sorted" p) [e] [] pos) (tdCB rdSortL ta) :=
  de_callB (cr_sortD hu) calll_sortD hg hm boot_sorted ha (by decide) (by decide) he hpl
/-! ### sorted(dict): the keys, ints -/
theorem keyVals {rows : List Row} {es : List DictEntry} {w : World} (h : Paired (fun (r : Row) (e : DictEntry) => e.hash = r.1.hash w ∧ RelV r.2.1 e.key ∧ RelV r.2.2 e.val) rows es) : Vals (rows.map (·.2.1)) (es.map (·.key)) := by
  induction h with
  | nil => exact .nil
  | cons h _ ih => exact .cons h.2.1 ih
theorem items_keys {es : Array DictEntry} {acc : Array Value} (h : ItemsOf (fun i v => ∃ hi : i < es.size, v = es[i].key) acc es.size) : acc.toList = es.toList.map (·.key) := by
  apply List.ext_getElem?
  intro i
  by_cases hi : i < es.size
  · have h1 : i < acc.size := by rw [h.1]; exact hi
    have e1 : acc.toList[i]? = some acc[i] := by rw [Array.getElem?_toList, Array.getElem?_eq_getElem h1]
    obtain ⟨_, e2⟩ := h.2 i acc[i] (Array.getElem?_eq_getElem h1)
    rw [e1, e2, List.getElem?_map, Array.getElem?_toList, Array.getElem?_eq_getElem hi]
    rfl
  · rw [List.getElem?_eq_none (by rw [Array.length_toList, h.1]; omega), List.getElem?_eq_none (by rw [List.length_map, Array.length_toList]; omega)]
def rSortKeys (X : Cx) : List V → Hp → VK → Prop := fun vs H Q => ∃ (a : Addr) (F : Fx) (O : Addr → Prop) (o : Obj) (rows : List Row) (kvs : List (NestedKey × D)) (ns : List Int), vs = [.ref a] ∧ FOk X F ∧ DAt F O H a o rows kvs ∧ kvs.map (·.1) = ns.map NestedKey.num ∧
  ∀ (ns' : List Int) p, ns'.Perm ns → H p = none → Q (.ref p) (upd H p (.lst (ns'.map V.int)))
theorem each_ints : ∀ {ns : List Int} {us : List Value}, Vals (ns.map V.int) us → PySem.W.EachIs (fun v n => ∃ t, v = .int n t) us ns
  | [], _, .nil => .nil
  | _ :: _, _, .cons h t => .cons h (each_ints t)
theorem ints_back : ∀ {ns : List Int} {us : List Value}, PySem.W.EachIs (fun v n => ∃ t, v = .int n t) us ns → Vals (ns.map V.int) us
  | _, _, .nil => .nil
  | _, _, .cons h t => .cons h (ints_back t)
theorem each_rd {h : Heap} {a : Addr} : ∀ {ns : List Int} {us : List Value}, PySem.W.EachIs (fun v n => ∃ t, v = .int n t) us ns → PySem.W.EachIs (fun v n => ∃ as, Reads h v (PyData.int n) as ∧ a ∉ as) us ns
  | _, _, .nil => .nil
  | _, _, .cons ⟨t, e⟩ r => .cons ⟨[], e ▸ Reads.int _ t, fun z => nomatch z⟩ (each_rd r)
theorem cr_sortKeys (hc : X.calm = true) (hu : X.A.units + 64 < cLine) : CallR X (.builtin "sorted") (rSortKeys X) := by
  intro pins s σ H vs us Q I r h
  obtain ⟨a, F, O, o, rows, kvs, ns, rfl, hF, hd, hk, q⟩ := h
  obtain ⟨u, rfl, ru⟩ := vals1 r
  obtain rfl : u = Value.ref a := ru
  obtain ⟨es, ep, e1, pr⟩ := hd.rel.ents
  have hz := hd.rel.len
  have l1 : rows.length = es.size := by rw [Paired.length pr, Array.length_toList]
  have lk : kvs.length = rows.length := hd.pd.length
  have ln : ns.length = kvs.length := by rw [← List.length_map (f := NestedKey.num), ← hk, List.length_map]
  have kv : Vals (ns.map V.int) (es.toList.map (·.key)) := by
    have hv := keyVals pr
    have hks := keys_is hd.pd
    have e2 : (kvs.map fun kv => ofKey kv.1) = ns.map D.int := by
      have : (kvs.map fun kv => ofKey kv.1) = (kvs.map (·.1)).map ofKey := by rw [List.map_map]; rfl
      rw [this, hk, List.map_map]
      rfl
    rw [e2] at hks
    rw [hks.of_ints] at hv
    exact hv
  refine Calls.call_function_entry kind_sorted plain_sorted entry_sorted (args_sorted1 _) ?_
  unfold Builtin.«sorted»
  refine wpAny_bind (m := checkCount "sorted" 1 1 _) (wpAny_pure ?_)
  refine wpAny_bind (PySem.W.kdu_collect (A := X.A.in1) (PySem.KdlSrc.rawDict (prog := X.prog) (w := X.w) (es := es) (ep := ep) hd.sys) (I.ok.hd hc) ⟨o, inv_lit I hd.at_, hd.rel.ex, e1⟩ (by omega) fun h' tk acc hk' it => ?_)
  have ea := items_keys it
  have la : acc.toList.length ≤ sizeLine := by rw [Array.length_toList, it.1]; omega
  refine wpAny_bind (wpAny_newList ?_ la)
  have ev := each_ints (ea ▸ kv)
  have old : ∀ b ob, s.heap.get? b = some ob → b < h'.objs.size := fun b ob e => Heap.lt_size (hk' b ob e)
  refine wpAny_bind (wpAny_holding (wpAny_mono (PySem.W.list_sort_data (β := Int) (enc := PyData.int) (R := fun v n => ∃ t, v = .int n t) (vs := acc.toList) (bs := ns) (n := 0) (a := h'.objs.size) (Heap.get?_push_size _ rfl) ev (each_rd ev) (.of fun _ _ => rfl) (.others fun b => ⟨fun z => (nomatch z), fun _ z => (nomatch z)⟩) (by omega) (fun b hb => by show X.A.units + 1 + 1 + 0 < cLine; omega) (Q := fun _ s' => EP X pins σ Q (Value.ref h'.objs.size) s') fun out hlen he => ?_) (fun _ s' x => ?_) fun _ _ e => e))
  · obtain ⟨c, hcc⟩ := PyProof.Rows.sortedHeap_at (n := 0) (out := out.toArray) (show (h'.push { cls := .type "list", data := .seq acc.toList.toArray }).get? h'.objs.size = some (seqObj "list" acc.toList.toArray 0) from Heap.get?_push_size _ rfl)
    have hp := List.mergeSort_perm ns (PySem.W.dataLe false PyData.int)
    have rv := ints_back he
    have I2 : Inv X pins σ H { s with heap := h', toks := tk } := I.kept (t' := tk) hk'
    refine ⟨.ref h'.objs.size, upd H h'.objs.size (.lst ((ns.mergeSort (PySem.W.dataLe false PyData.int)).map V.int)), I2.laid (t' := tk) (fun b ob e => ?_) (Nat.le_refl _) ⟨?_, out, c, rv, hcc⟩, rfl, q _ _ hp (I2.hok.fresh (Nat.le_refl _))⟩
    · have h2 := Heap.lt_size e
      rw [PyProof.Rows.sortedHeap_old (Nat.ne_of_lt h2) (by rw [Heap.size_push]; exact Nat.lt_succ_of_lt h2)]
      exact Heap.get?_push_of_some _ e
    · rw [List.length_map, hp.length_eq]; omega
  · exact wpAny_pure ⟨_, rfl, x⟩
def rdSortedD : List (D × Fl) → (D → Fl → Prop) → Prop := rd1 fun d _ Q => match d with
  | .d kvs => ∃ ns : List Int, kvs.map (·.1) = ns.map NestedKey.num ∧ ∀ ns' : List Int, ns'.Perm ns → Q (.l (ns'.map D.int)) .fr
  | _ => False
theorem calll_sortedD : CallL X (rSortKeys X) rdSortedD := by
  intro F B ps E σ H dfs vs Qd Q hF r w q k
  obtain ⟨d, f, e0, q0⟩ := rd1_of q
  subst e0
  clear q
  obtain ⟨v, e0, w0⟩ := w.one
  subst e0
  split at q0
  · obtain ⟨ns, e, q⟩ := q0
    obtain ⟨a, o, rows, rfl, hd⟩ := w0.dat r
    exact ⟨a, F, _, o, rows, _, ns, rfl, hF, hd, e, fun ns' p h1 hp => k _ .fr _ _ (q ns' h1) (r.laid (d := .l _) hp ⟨_, upd_same, .ints⟩)⟩
  · exact q0.elim
theorem de_sortedD {e : Expr} {ta : TDA} {p pos : Pos} (hc : X.calm = true) (hu : X.A.units + 64 < cLine) (hg : Gl X "sorted") (hm : X.mg "sorted" = none) (ha : DA X [e] ta) (he : starEach (e :: []) X.env = (false, eval e X.env) :: starEach [] X.env := by rfl) (hpl : (backTo pos (starEach [] X.env)).any (·.1) = false := by rfl) : DE X (.Call (.Name "sorted" p) [e] [] pos) (tdCB rdSortedD ta) :=
  de_callB (cr_sortKeys hc hu) calll_sortedD hg hm boot_sorted ha (by decide) (by decide) he hpl
/-! ### min(dict): some key -/
def rMinKeys (X : Cx) : List V → Hp → VK → Prop := fun vs H Q => ∃ (a : Addr) (F : Fx) (O : Addr → Prop) (o : Obj) (rows : List Row) (kvs : List (NestedKey × D)), vs = [.ref a] ∧ FOk X F ∧ DAt F O H a o rows kvs ∧ 0 < kvs.length ∧ okDs (kvs.map fun kv => ofKey kv.1) = true ∧ PySem.W.AlikeAll (pyDs (kvs.map fun kv => ofKey kv.1)) ∧ PyData.depthAll (pyDs (kvs.map fun kv => ofKey kv.1)) ≤ 8 ∧
  ∀ kv ∈ kvs, ∀ y, Is F O H (ofKey kv.1) y → Q y H
theorem cr_minKeys (hc : X.calm = true) (hu : X.A.units + 64 < cLine) : CallR X (.builtin "min") (rMinKeys X) := by
  intro pins s σ H vs us Q I r h
  obtain ⟨a, F, O, o, rows, kvs, rfl, hF, hd, h0, ok, al, dp, q⟩ := h
  obtain ⟨u, rfl, ru⟩ := vals1 r
  obtain rfl : u = Value.ref a := ru
  obtain ⟨es, ep, e1, pr⟩ := hd.rel.ents
  have l1 : rows.length = es.size := by rw [Paired.length pr, Array.length_toList]
  have lk : kvs.length = rows.length := hd.pd.length
  have hraw : s.heap.DictRaw a es ep := ⟨o, inv_lit I hd.at_, hd.rel.ex, e1⟩
  have kv := keyVals pr
  have hks := keys_is hd.pd
  obtain ⟨as, hr⟩ := Dp.readsAll I _ _ _ (dp_ofs hF.K hks ok) kv
  have hr : ReadsAll s.heap (es.map (·.key)).toList (pyDs (kvs.map fun kv => ofKey kv.1)) as := by rw [Array.toList_map]; exact hr
  have halt : a < s.heap.objs.size := Heap.lt_size (inv_lit I hd.at_)
  have hh : X.A.in1.handled = none := I.ok.hd hc
  have W := (Walks.rawKeys (prog := X.prog) (w := X.w) (A := X.A.in1) hh s.heap.objs.size a (Nat.ne_of_lt halt) es ep).toS
  have cm := PySem.W.cmpIn_lt (prog := X.prog) (w := X.w) (A := X.A.in1) hr al (by show X.A.units + 1 + _ < _; omega)
  refine PySem.call_min_walkH (wpAny_pyIter_dict_raw hd.sys hraw ?_)
  refine ⟨_, _, _, _, es.size, _, _, s.heap, fun i j => PySem.W.dataLt ((pyDs (kvs.map fun kv => ofKey kv.1)).getD i .none) ((pyDs (kvs.map fun kv => ofKey kv.1)).getD j .none), rfl, W, ?_, ?_, by omega, ?_, ?_, fun i j vi vj s' Q E hk hi hj hq => cm i j vi vj s' Q E hk ?_ ?_ hq, fun v s' hP m => ?_⟩
  · exact ⟨⟨_, Heap.get?_push_size _ rfl, rfl, rfl⟩, hraw.push _⟩
  · intro b hb
    rw [Heap.size_push]
    rcases List.mem_cons.mp hb with e | e
    · rw [e]; exact Nat.lt_succ_self _
    · rw [List.mem_singleton.mp e]; exact Nat.lt_succ_of_lt halt
  · exact fun b o e hb => absurd (Heap.lt_size e) (by rw [List.mem_singleton.mp hb]; exact Nat.lt_irrefl _)
  · exact fun b o e => Heap.get?_push_of_some _ e
  · obtain ⟨h1, h2⟩ := hi
    rw [Array.getElem?_map, Array.getElem?_eq_getElem h1, h2]
    rfl
  · obtain ⟨h1, h2⟩ := hj
    rw [Array.getElem?_map, Array.getElem?_eq_getElem h1, h2]
    rfl
  · obtain ⟨h', tk, rfl, hk'⟩ := PySem.W.moved_old rfl rfl m
    obtain ⟨h1, h2⟩ := hP
    have I2 : Inv X pins σ H { s with heap := h', toks := tk } := I.kept (t' := tk) hk'
    obtain ⟨kvx, hkx⟩ : ∃ kvx, kvs[PySem.argBest (fun i j => PySem.W.dataLt ((pyDs (kvs.map fun kv => ofKey kv.1)).getD i .none) ((pyDs (kvs.map fun kv => ofKey kv.1)).getD j .none)) (es.size - 1)]? = some kvx := ⟨_, List.getElem?_eq_getElem (by omega)⟩
    obtain ⟨y, ey, hy⟩ := hks.get (d := ofKey kvx.1) (by rw [List.getElem?_map, hkx]; rfl)
    obtain ⟨w', ew, rw'⟩ := kv.get ey
    rw [List.getElem?_map, Array.getElem?_toList, Array.getElem?_eq_getElem h1] at ew
    have ew := Option.some.inj ew
    rw [h2]
    subst ew
    exact ⟨y, H, I2, rw', q kvx (List.mem_of_getElem? hkx) y hy⟩
def rdMinD : List (D × Fl) → (D → Fl → Prop) → Prop := rd1 fun d _ Q => match d with
  | .d kvs => 0 < kvs.length ∧ okDs (kvs.map fun kv => ofKey kv.1) = true ∧ PySem.W.AlikeAll (pyDs (kvs.map fun kv => ofKey kv.1)) ∧ PyData.depthAll (pyDs (kvs.map fun kv => ofKey kv.1)) ≤ 8 ∧ ∀ kv ∈ kvs, Q (ofKey kv.1) .sh
  | _ => False
theorem calll_minD : CallL X (rMinKeys X) rdMinD := by
  intro F B ps E σ H dfs vs Qd Q hF r w q k
  obtain ⟨d, f, e0, q0⟩ := rd1_of q
  subst e0
  clear q
  obtain ⟨v, e0, w0⟩ := w.one
  subst e0
  split at q0
  · obtain ⟨h0, h1, h2, h3, q⟩ := q0
    obtain ⟨a, o, rows, rfl, hd⟩ := w0.dat r
    exact ⟨a, F, _, o, rows, _, rfl, hF, hd, h0, h1, h2, h3, fun kv hkv y hy => k _ .sh _ _ (q kv hkv) ⟨r, hy⟩⟩
  · exact q0.elim
theorem de_minD {e : Expr} {ta : TDA} {p pos : Pos} (hc : X.calm = true) (hu : X.A.units + 64 < cLine) (hg : Gl X "min") (hm : X.mg "min" = none) (ha : DA X [e] ta) (he : starEach (e :: []) X.env = (false, eval e X.env) :: starEach [] X.env := by rfl) (hpl : (backTo pos (starEach [] X.env)).any (·.1) = false := by rfl) : DE X (.Call (.Name "min" p) [e] [] pos) (tdCB rdMinD ta) :=
  de_callB (cr_minKeys hc hu) calll_minD hg hm boot_min ha (by decide) (by decide) he hpl
end
end DL
set_option Elab.async false
set_option linter.all false
set_option maxRecDepth 100000
/-! DLDictMk: dict(d), dict(list of pairs). -/
namespace DL
open PySem PySem.Spec PyProof.Rows L2
/-- no two keys have one hash, whatever the world -/
def Apart (ks : List NestedKey) : Prop := (∀ k ∈ ks, ∃ i, k = .num i) ∨ ∀ w : World, (ks.map fun k => k.hash w).Nodup
theorem ptup_keys {rows : List Row} {xs : List (NestedKey × Addr × Value)} (h : PTup rows xs) : xs.map (fun x => x.1) = rows.map (·.1) := by
  unfold PTup at h
  induction h with
  | nil => rfl
  | cons h _ ih => rw [List.map_cons, List.map_cons, ih, h.1]
theorem ptup_mem {rows : List Row} {xs : List (NestedKey × Addr × Value)} (h : PTup rows xs) : ∀ x ∈ xs, ∃ r ∈ rows, x.1 = r.1 := by
  intro x hx
  have e := ptup_keys h
  have : x.1 ∈ rows.map (·.1) := by rw [← e]; exact List.mem_map.mpr ⟨x, hx, rfl⟩
  obtain ⟨r, hr, e⟩ := List.mem_map.mp this
  exact ⟨r, hr, e.symm⟩
section
variable {X : Cx} {e : Expr} {p pos : Pos} {ta : TDA}
theorem call_dictH {prog : Program} {w : World} {A : Around} {E : Value → Shared → Prop} {s : Shared} {K : Type} [DecidableEq K] {knd : HeapKind prog w K} {o : Addr} {more : List (K × Addr × Value)} {Q : Value → Shared → Prop} (hu : knd.room A.in1.in1) (hoS : (o == sysModules) = false) (ho : s.heap.DictOfH knd o more)
    (hst : (s.heap.push { cls := .type "dict", data := .dict #[] }).DictOfH knd o more) (hty : ∀ x ∈ more, s.TypeIs (.ref x.2.1) "tuple") (hap : (more.map fun x => knd.hash x.1).Nodup) (hsz : more.length ≤ sizeLine)
    (h : ∀ h', h'.DictOfH knd s.heap.objs.size more → Heap.SameBut s.heap.objs.size (s.heap.push { cls := .type "dict", data := .dict #[] }) h' → Q (.ref s.heap.objs.size) { s with heap := h' }) : wpAny (model prog w) A (call (.type "dict") [.ref o]) Q E s := by
  refine callType_codes (Q₁ := fun obj s₁ => obj = .ref s.heap.objs.size ∧ s₁ = { s with heap := s.heap.push { cls := .type "dict", data := .dict #[] } }) F.kt_called_dict (F.kt_typeCall_dict_1 _) F.entry_dict_init (kt_code_dict_new _ ⟨rfl, rfl⟩) fun obj s₁ hs => ?_
  obtain ⟨rfl, rfl⟩ := hs
  have hnew := Heap.DictOfH.new (knd := knd) s.heap
  have hne : s.heap.objs.size ≠ o := fun e => by
    obtain ⟨_, _, _, hg, _⟩ := ho
    have hlt := Heap.lt_size hg
    rw [e] at hlt
    exact Nat.lt_irrefl _ hlt
  refine ⟨hnew.typeIs, F.args_dict_init_2 _ _, ?_⟩
  unfold Builtin.«dict.__init__»
  refine wpAny_bind ?_
  unfold Builtin.Dict.selfAndRest
  refine wpAny_bind (wpAny_notOrdered_dict hnew.typeIs ?_)
  show wpAny _ _ (pure (s.heap.objs.size, [Value.ref o])) _ _ _
  refine wpAny_pure ?_
  show wpAny _ _ (Builtin.Dict.updateFrom "dict.__init__" s.heap.objs.size (.ref o) [] .none) _ _ _
  refine updateFrom_dictH (A := A.in1) .none hu hne hoS hnew hst (.inr ⟨fun x hx => ?_, hap⟩) (by simpa using hsz) fun h' hd' _ hs' => ?_
  · obtain ⟨ob, h1, h2⟩ := hty x hx
    exact ⟨ob, Heap.get?_push_of_some _ h1, h2⟩
  · rw [storedAllH_nil_of_nodup more ho.nodup] at hd'
    exact ⟨rfl, h h' hd' hs'⟩
def rDictCopy (X : Cx) : List V → Hp → VK → Prop := fun xs H Q => ∃ (a : Addr) (F : Fx) (O : Addr → Prop) (o : Obj) (rows : List Row) (kvs : List (NestedKey × D)), xs = [.ref a] ∧ FOk X F ∧ DAt F O H a o rows kvs ∧ Apart (kvs.map (·.1)) ∧
  ∀ (q : Addr) (o' : Obj), DRel F.w o' rows → H q = none → (q == sysModules) = false → Q (.ref q) (upd H q (.ext (Lit q o')))
theorem cr_dictCopy (hu : X.A.units + 64 < cLine) : CallR X (.type "dict") (rDictCopy X) := by
  intro pins s σ H xs us Q I r h
  obtain ⟨a, F, O, o, rows, kvs, rfl, hF, hd, ap, q⟩ := h
  obtain ⟨u, rfl, ru⟩ := vals1 r
  obtain rfl : u = Value.ref a := ru
  have hz := hd.rel.len
  have hsys : (s.heap.objs.size == sysModules) = false := beq_eq_false_iff_ne.mpr (Ne.symm (Nat.ne_of_lt I.big))
  have lk : kvs.length = rows.length := hd.pd.length
  have fin : ∀ {h' : Heap} {o' : Obj}, Heap.SameBut s.heap.objs.size (s.heap.push { cls := .type "dict", data := .dict #[] }) h' → h'.get? s.heap.objs.size = some o' → DRel F.w o' rows → EP X pins σ Q (.ref s.heap.objs.size) { s with heap := h' } := fun {h' o'} hs hg hr =>
    ⟨.ref s.heap.objs.size, _, I.laid (t' := s.toks) (o := .ext (Lit s.heap.objs.size o')) (fun b ob e => (hs.2 b (Nat.ne_of_lt (Heap.lt_size e))).trans (Heap.get?_push_of_some _ e)) (Nat.le_refl _) (obj_lit hg), rfl, q _ o' hr (I.hok.fresh (Nat.le_refl _)) hsys⟩
  have int_case : (∀ k ∈ kvs.map (·.1), ∃ i, k = .num i) → wpAny (model X.prog X.w) X.A (call (.type "dict") [.ref a]) (EP X pins σ Q) X.xe s := fun kk => by
    obtain ⟨vs, pv, hdo⟩ := hd.int I hF kk
    refine kt_call_dict hd.sys hdo (by rw [← Paired.length pv]; exact hz) fun h' hd' hs => ?_
    obtain ⟨o', hg, hr⟩ := rel_int (X := X) hF.w pv hz hd'
    exact fin hs hg hr
  rcases hd.kind with kk | kk
  · exact int_case kk
  · rcases ap with ap | ap
    · exact int_case ap
    · obtain ⟨ys, py, hdo⟩ := hd.tup I hF kk
      obtain ⟨ob, es, ep, g1, g2, g3, g4, g5, g6⟩ := id hdo
      refine call_dictH (by show X.A.in1.in1.units + 8 < cLine; show X.A.units + 1 + 1 + 8 < cLine; omega) hd.sys hdo ?_ ?_ ?_ (by rw [← Paired.length py]; exact hz) fun h' hd' hs => ?_
      · exact ⟨ob, es, ep, Heap.get?_push_of_some _ g1, g2, g3, g4, fun x hx => ⟨NestedIs.at (fun b oo vs n hb _ => Heap.get?_push_of_some _ hb) _ _ (g5 x hx).1, (g5 x hx).2⟩, g6⟩
      · intro x hx
        have hk := (g5 x hx).1
        obtain ⟨r, hr, hxr⟩ := ptup_mem py x hx
        have := kk x.1 (by rw [hd.pd.to.1, hxr]; exact List.mem_map.mpr ⟨r, hr, rfl⟩)
        obtain ⟨⟨l, el⟩, _⟩ := this
        rw [el] at hk
        cases hk with
        | tup h1 h2 _ _ => exact ⟨_, h1, h2⟩
      · have e1 : ys.map (fun x => x.1) = kvs.map (·.1) := by rw [ptup_keys py, hd.pd.to.1]
        have e2 : (ys.map fun x => (nestedKind X.prog X.w).hash x.1) = (ys.map fun x => x.1).map fun k => k.hash X.w := by rw [List.map_map]; rfl
        rw [e2, e1]
        exact ap X.w
      · obtain ⟨o', hg, hr⟩ := rel_tup (X := X) hF.w py hz hd'
        exact fin hs hg hr
def rdDictCopy : List (D × Fl) → (D → Fl → Prop) → Prop := rd1 fun d _ Q => match d with
  | .d kvs => Apart (kvs.map (·.1)) ∧ Q (.d kvs) .fr
  | _ => False
theorem DAt.laid {F : Fx} {B : Bas} {E : DEnv} {σ : L2.St} {H : Hp} {a q : Addr} {o o' : Obj} {rows : List Row} {kvs : List (NestedKey × D)} (h : DAt F (own B E σ) H a o rows kvs) (hq : H q = none) (hs : (q == sysModules) = false) (hr : DRel F.w o' rows) : DAt F (own (B.plus q) E σ) (upd H q (.ext (Lit q o'))) q o' rows kvs :=
  ⟨upd_same, hs, hr, h.kind, h.pd.mono (fun a x e _ => upd_keeps hq a x e) fun b x e z => by
    rcases own_plus.mp z with z | z
    · exact z
    · subst z; rw [hq] at e; cases e⟩
theorem calll_dictCopy : CallL X (rDictCopy X) rdDictCopy := by
  intro F B ps E σ H dfs vs Qd Q hF r w q k
  obtain ⟨d, f, e0, q0⟩ := rd1_of q
  subst e0
  clear q
  obtain ⟨v, e0, w0⟩ := w.one
  subst e0
  split at q0
  · obtain ⟨ap, q⟩ := q0
    obtain ⟨a, o, rows, rfl, hd⟩ := w0.dat r
    exact ⟨a, F, _, o, rows, _, rfl, hF, hd, ap, fun p o' hr hp hs => k _ .fr _ _ q (r.laid (d := .d _) hp (hd.laid hp hs hr).root)⟩
  · exact q0.elim
theorem de_dictCopy (hu : X.A.units + 64 < cLine) (hg : Gl X "dict") (hm : X.mg "dict" = none) (ha : DA X [e] ta) (he : starEach (e :: []) X.env = (false, eval e X.env) :: starEach [] X.env := by rfl) (hpl : (backTo pos (starEach [] X.env)).any (·.1) = false := by rfl) : DE X (.Call (.Name "dict" p) [e] [] pos) (tdCB rdDictCopy ta) :=
  de_callTy (cr_dictCopy hu) calll_dictCopy hg hm boot_dict ha (by decide) (by decide) he hpl
/-! ### dict(list of pairs), the keys tuples, no key twice -/
def rDictOf (X : Cx) : List V → Hp → VK → Prop := fun xs H Q => ∃ (a : Addr) (F : Fx) (O : Addr → Prop) (us : List V) (kvs : List (NestedKey × D)), xs = [.ref a] ∧ FOk X F ∧ H a = some (.lst us) ∧ IsL F O H (kvs.map fun kv => D.t [ofKey kv.1, kv.2]) us ∧ (∀ k ∈ kvs.map (·.1), (∃ l, k = .tup l) ∧ k.depth ≤ 8) ∧ (kvs.map (·.1)).Nodup ∧ kvs.length ≤ sizeLine ∧
  ∀ (q : Addr) (o' : Obj) (rows : List Row), DRel F.w o' rows → PD F O H kvs rows → H q = none → (q == sysModules) = false → Q (.ref q) (upd H q (.ext (Lit q o')))
theorem Paired.at_ {α β : Type} {R : α → β → Prop} {xs : List α} {ys : List β} (h : Paired R xs ys) : ∀ {i : Nat} {x : α} {y : β}, xs[i]? = some x → ys[i]? = some y → R x y := by
  induction h with
  | nil => intro i x y h; simp at h
  | cons h t ih =>
    intro i x y h1 h2
    cases i with
    | zero => simp at h1 h2; subst h1 h2; exact h
    | succ i => exact ih (by simpa using h1) (by simpa using h2)
/-- the pairs as rows: the tuples' addresses, keys and values -/
theorem pairs_rows {pins : List (Addr × Obj)} {σ : L2.St} {H : Hp} {s : Shared} {F : Fx} {O : Addr → Prop} (I : Inv X pins σ H s) (hF : FOk X F) : ∀ {kvs : List (NestedKey × D)} {us : List V} {ws : List Value}, IsL F O H (kvs.map fun kv => D.t [ofKey kv.1, kv.2]) us → Vals us ws → (∀ k ∈ kvs.map (·.1), (∃ l, k = .tup l) ∧ k.depth ≤ 8) →
    ∃ (rows : List Row) (xs : List (NestedKey × Addr × Value)) (Ts : List Addr), PD F O H kvs rows ∧ PTup rows xs ∧ (∀ x ∈ xs, (nestedKind X.prog X.w).is s.heap x.1 x.2.1) ∧ ws = Ts.map Value.ref ∧ Paired (fun (T : Addr) (x : NestedKey × Addr × Value) => s.heap.IsTuple T #[.ref x.2.1, x.2.2]) Ts xs
  | [], _, _, .nil, .nil, _ => ⟨[], [], [], .nil, .nil, fun x hx => absurd hx (by simp), rfl, .nil⟩
  | kv :: kvs, _, _, .cons h1 h2, .cons r1 r2, hk => by
    obtain ⟨rows, xs, Ts, p1, p2, p3, p4, p5⟩ := pairs_rows I hF h2 r2 fun k hk' => hk k (List.mem_cons_of_mem _ hk')
    obtain ⟨a, vs, rfl, hT, hl⟩ := h1.tup hF.K
    cases r1
    cases hl with
    | @cons _ y _ _ l1 l2 =>
      cases l2 with
      | @cons _ v _ _ l2 l3 =>
        cases l3
        obtain ⟨its, rv, it, _⟩ := I.tuple hT
        obtain ⟨yw, vw, rfl, ry, rw'⟩ := vals2 rv
        obtain ⟨⟨l, el⟩, hdep⟩ := hk kv.1 (by simp)
        have l1' := l1
        rw [el] at l1'
        obtain ⟨b, rfl⟩ := is_tupA l1'
        have nn := is_nested I hF.K _ _ _ l1 ry
        cases ry
        refine ⟨(kv.1, .ref b, v) :: rows, (kv.1, b, vw) :: xs, a :: Ts, .cons ⟨rfl, l1, l2⟩ p1, .cons ⟨rfl, rfl, rw'⟩ p2, fun x hx => ?_, by rw [p4]; rfl, .cons it p5⟩
        rcases List.mem_cons.mp hx with q | q
        · subst q; exact ⟨nn, hdep⟩
        · exact p3 x q
theorem cr_dictOf (hc : X.calm = true) (hu : X.A.units + 64 < cLine) : CallR X (.type "dict") (rDictOf X) := by
  intro pins s σ H xs us Q I r h
  obtain ⟨a, F, O, vs, kvs, rfl, hF, ha, hl, hk, nd, hz, q⟩ := h
  obtain ⟨u, rfl, ru⟩ := vals1 r
  obtain rfl : u = Value.ref a := ru
  obtain ⟨_, its, n, rv, hit⟩ := (show ObjOk X.prog X.w H s.heap a (.lst vs) from I.hok a _ ha)
  obtain ⟨rows, ys, Ts, p1, p2, p3, p4, p5⟩ := pairs_rows I hF hl rv hk
  have lT : Ts.length = ys.length := Paired.length p5
  have lr : kvs.length = rows.length := Paired.length p1
  have ly : rows.length = ys.length := Paired.length p2
  have hsys : (s.heap.objs.size == sysModules) = false := beq_eq_false_iff_ne.mpr (Ne.symm (Nat.ne_of_lt I.big))
  have hnd : (ys.map (·.1)).Nodup := by
    have : ys.map (·.1) = kvs.map (·.1) := by rw [show ys.map (·.1) = rows.map (·.1) from ptup_keys p2, p1.to.1]
    rw [this]; exact nd
  refine call_dict_pairsH (knd := nestedKind X.prog X.w) (ps := ys) (PairArg.list a its.toArray (fun j => Ts.getD j 0) (ys.map fun x => (Value.ref x.2.1, x.2.2))) (I.ok.hd hc) (by show X.A.in1.in1.units + 8 < cLine; show X.A.units + 1 + 1 + 8 < cLine; omega) ⟨⟨_, _, hit, rfl, rfl, rfl⟩, ?_, ?_⟩ ⟨?_, ?_⟩ ?_ (by rw [List.length_map]; omega) fun h' tk hd' hkp => ?_
  · rw [List.length_map, List.size_toArray, p4, List.length_map]; exact lT
  · intro j k v hj
    rw [List.getElem?_map] at hj
    obtain ⟨x, hx, ex⟩ := Option.map_eq_some_iff.mp hj
    have hjl : j < Ts.length := by rw [lT]; exact (List.getElem?_eq_some_iff.mp hx).1
    have hT := Paired.at_ p5 (List.getElem?_eq_getElem hjl) hx
    cases ex
    have eT : (fun j => Ts.getD j 0) j = Ts[j] := by show Ts.getD j 0 = _; rw [List.getD_eq_getElem?_getD, List.getElem?_eq_getElem hjl]; rfl
    rw [eT]
    refine ⟨?_, .inl hT⟩
    rw [List.getElem?_toArray, p4, List.getElem?_map, List.getElem?_eq_getElem hjl]
    rfl
  · rw [List.length_map]
  · intro i key v hr
    have hr : (ys.map fun x => (Value.ref x.2.1, x.2.2))[i]? = some (key, v) := hr
    rw [List.getElem?_map] at hr
    obtain ⟨x, hx, ex⟩ := Option.map_eq_some_iff.mp hr
    cases ex
    exact ⟨x.1, x.2.1, hx, rfl⟩
  · intro h' hk' x hx
    exact ⟨NestedIs.at (fun b oo vs n hb _ => hk' b oo (Nat.ne_of_lt (Heap.lt_size hb)) (fun z => by cases z) hb) _ _ (p3 x hx).1, (p3 x hx).2⟩
  · rw [storedAllH_nil_of_nodup ys hnd] at hd'
    obtain ⟨o', hg, hr⟩ := rel_tup (X := X) hF.w p2 (by omega) hd'
    exact ⟨.ref s.heap.objs.size, _, I.laid (t' := tk) (o := .ext (Lit s.heap.objs.size o')) (fun b ob e => hkp b ob (fun z => by cases z) e) (Nat.le_refl _) (obj_lit hg), rfl, q _ o' rows hr p1 (I.hok.fresh (Nat.le_refl _)) hsys⟩
def rdDictOf : List (D × Fl) → (D → Fl → Prop) → Prop := rd1 fun d _ Q => match d with
  | .l xs => ∃ kvs : List (NestedKey × D), xs = kvs.map (fun kv => D.t [ofKey kv.1, kv.2]) ∧ (∀ k ∈ kvs.map (·.1), (∃ l, k = .tup l) ∧ k.depth ≤ 8) ∧ (kvs.map (·.1)).Nodup ∧ kvs.length ≤ sizeLine ∧ Q (.d kvs) .fr
  | _ => False
theorem calll_dictOf : CallL X (rDictOf X) rdDictOf := by
  intro F B ps E σ H dfs vs Qd Q hF r w q k
  obtain ⟨d, f, e0, q0⟩ := rd1_of q
  subst e0
  clear q
  obtain ⟨v, e0, w0⟩ := w.one
  subst e0
  split at q0
  · obtain ⟨kvs, e, hk, nd, hz, q⟩ := q0
    obtain ⟨a, us, rfl, h, l⟩ := w0.lst r
    rw [e] at l
    refine ⟨a, F, _, us, kvs, rfl, hF, h, l, hk, nd, hz, fun p o' rows hr hp hpn hs => k _ .fr _ _ q (r.laid (d := .d _) hpn (DAt.root (o := o') (rows := rows) ⟨upd_same, hs, hr, .inr hk, hp.mono (fun a x e _ => upd_keeps hpn a x e) fun b x e z => ?_⟩))⟩
    rcases own_plus.mp z with z | z
    · exact z
    · subst z; rw [hpn] at e; cases e
  · exact q0.elim
theorem de_dictOf (hc : X.calm = true) (hu : X.A.units + 64 < cLine) (hg : Gl X "dict") (hm : X.mg "dict" = none) (ha : DA X [e] ta) (he : starEach (e :: []) X.env = (false, eval e X.env) :: starEach [] X.env := by rfl) (hpl : (backTo pos (starEach [] X.env)).any (·.1) = false := by rfl) : DE X (.Call (.Name "dict" p) [e] [] pos) (tdCB rdDictOf ta) :=
  de_callTy (cr_dictOf hc hu) calll_dictOf hg hm boot_dict ha (by decide) (by decide) he hpl
end
end DL
set_option Elab.async false
set_option linter.all false
set_option maxRecDepth 100000
/-! DLDComp: dict comprehensions over data. -/
namespace DL
open PySem PySem.Spec PyProof.Rows L2
section
variable {X : Cx} {pins : List (Addr × Obj)} {σ : L2.St} {H : Hp} {s : Shared} {kx vx tg iter tg1 iter1 : Expr} {ifs ifs1 : List Expr} {gs : List Comprehension} {scope : Scope} {own' : List (Str × Nat)} {pos : Pos}
/-- how a dict comprehension goes in: what its loop has to reach -/
theorem dcomp_in {Q : VK} {wi : TI} {P : It → Addr → Hp → Prop} (hc : X.calm = true) (hN : X.N.Nodup) (I : Inv X pins σ H s) (hi : PI X tg iter wi) (ok : BlkOk X.N X.env.scope scope own') (hs : ∀ x, foldedSetIterable iter X.env x = pure x)
    (h : wi σ H fun J H1 => ∀ D, H1 D = none → (D == sysModules) = false → P J D (upd H1 D (.ext (Lit D emptyD))))
    (loop : ∀ (it D C : Addr) (fp : List Addr) (tn : Nat → Heap → Prop) (J : It) (s3 s4 : Shared) (H3 : Hp) (cl : List (Str × Addr)) (fin : Shared → Prop), Turn X.prog X.w X.K tg J fp it tn → P J D H3 →
      Inv (X.blk s3 H3 scope (compEnvC scope cl C X.env) fp) [] (L2.wipe σ (own'.map (·.2))) H3 s4 → tn 0 s4.heap → (∀ b ∈ fp, H3 b = none) →
      (∀ H5 s6, Inv (X.blk s3 H3 scope (compEnvC scope cl C X.env) fp) [] (L2.wipe σ (own'.map (·.2))) H5 s6 → Q (.ref D) H5 → fin s6) →
      codeAny (model X.prog X.w) X.A (.compLoop (.DictComp kx vx (⟨tg, iter, ifs, 0⟩ :: gs) scope pos) 0 (.ref it) (.ref D) (compEnvC scope cl C X.env)) (fun r s' => r = .ok .next ∧ fin s') s4) :
    wpAny (model X.prog X.w) X.A (eval (.DictComp kx vx (⟨tg, iter, ifs, 0⟩ :: gs) scope pos) X.env) (EP X pins σ Q) X.xe s := by
  have frees : ∀ y ∈ scope.names, y.2 = .free → ∃ c, X.env.cells.lookup y.1 = some c := fun y hy e => (ok.free y hy e).elim (fun k => I.ok.has _ (.inl k)) fun k => I.ok.has _ (.inr k)
  rw [arm_eval_DictComp]
  refine wpAny_comprehension_free (use := none) rfl hs (closure_ok frees) ok.kind (fun y hy e => (ok.uniq y hy).trans (congrArg some e)) (thn (hi.run pins s σ H _ I h) fun _ _ g1 => thn g1 fun itv s2 g2 => ?_)
  obtain ⟨it, fp, tn, J, H2, rfl, I2, T, st2, f2, q⟩ := g2
  refine wpAny_newObj_type (newEnv_comp ?_)
  -- the new dict
  have hsys : (s2.heap.objs.size == sysModules) = false := beq_eq_false_iff_ne.mpr (Ne.symm (Nat.ne_of_lt I2.big))
  have hP := q s2.heap.objs.size (I2.hok.fresh (Nat.le_refl _)) hsys
  have J3 := I2.laid (a := s2.heap.objs.size) (o := .ext (Lit s2.heap.objs.size emptyD)) (h' := s2.heap.push { cls := .type "dict", data := .dict #[] }) (t' := s2.toks) (fun _ _ z => Heap.get?_push_of_some _ z) (Nat.le_refl _) (obj_lit (Heap.get?_push_size _ rfl))
  generalize hH3 : upd H2 s2.heap.objs.size (.ext (Lit s2.heap.objs.size emptyD)) = H3 at J3 hP
  have old3 : ∀ b ∈ fp, b < s2.heap.objs.size := fun b hb => (T.obj 0 _ st2 b hb).elim fun _ z => Heap.lt_size z.1
  have size3 : (s2.heap.push { cls := .type "dict", data := .dict #[] }).objs.size = s2.heap.objs.size + 1 := Heap.size_push ..
  have f3 : ∀ b ∈ fp, FpOk X pins H3 b ∧ b < (s2.heap.push { cls := .type "dict", data := .dict #[] }).objs.size := fun b hb => ⟨⟨by rw [← hH3, upd_ne (Nat.ne_of_lt (old3 b hb))]; exact (f2 b hb).1, (f2 b hb).2⟩, by rw [size3]; exact Nat.lt_succ_of_lt (old3 b hb)⟩
  have st3 : tn 0 (s2.heap.push { cls := .type "dict", data := .dict #[] }) := T.keep _ _ _ st2 fun _ _ _ z => Heap.get?_push_of_some _ z
  generalize hs3 : ({ s2 with heap := s2.heap.push { cls := .type "dict", data := .dict #[] }, toks := s2.toks } : Shared) = s3 at J3
  have f3 : ∀ b ∈ fp, FpOk X pins H3 b ∧ b < s3.heap.objs.size := by rw [← hs3]; exact f3
  have st3 : tn 0 s3.heap := by rw [← hs3]; exact st3
  have J4 := block_start J3 ok hN f3
  have st4 : tn 0 (pushCells (s3.heap.push { cls := .type "dict", data := .dict #[] }) scope.names) := T.keep _ _ _ st3 fun _ _ _ z => pushCells_keeps _ _ _ _ (Heap.get?_push_of_some _ z)
  have go := loop it s2.heap.objs.size s3.heap.objs.size fp tn J s3 _ H3 _ (fun s' => compPost (model X.prog X.w) X.A X.xe none (EP X pins σ Q) (.ref s2.heap.objs.size) s3.heap.objs.size (.ok .next) s') T hP J4 st4 (fun b hb => (f3 b hb).1.1) fun H5 s6 I6 qq => ?_
  · have go' := codeAny_mono go (R' := fun r s' => compPost (model X.prog X.w) X.A X.xe none (EP X pins σ Q) (.ref s2.heap.objs.size) s3.heap.objs.size r s') fun r s' z => z.1 ▸ z.2
    subst hs3
    exact codeAny_compStart_dict go' (T.self X.A 0 _ _ _ st4 go')
  · have I7 : Inv X pins σ H5 s6 := J3.call' (ch := fp) I6.os I6.base I6.hok I6.bare fun b hb => let z := (f3 b hb).1.2; ⟨z.2.2.1, z.1, z.2.2.2.1, z.2.2.2.2⟩
    have nC : H5 s3.heap.objs.size = none := I6.free
    obtain ⟨m, hm, _⟩ := I6.loc
    refine ⟨m, hm, fun h'' sb => ?_⟩
    obtain ⟨a1, a2, _, a3, a4, a5⟩ := J3.fpOk (Nat.le_refl _) nC
    exact ⟨.ref s2.heap.objs.size, H5, I7.turned (t' := s6.toks) (fun b ob hb z => (sb.2 b hb).trans z) a1 a2 a3 a4 a5, rfl, qq⟩
/-- a comprehension sets a key -/
theorem dd_dictSet {F : Fx} {O : Addr → Prop} {p : Addr} {o : Obj} {rows : List Row} {kvs : List (NestedKey × D)} {k : NestedKey} {y v : V} {u r : Value} {E : Value → Shared → Prop} (hu : X.A.units + 9 < cLine) (I : Inv X pins σ H s) (hF : FOk X F) (h : DAt F O H p o rows kvs) (hk : Is F O H (ofKey k) y) (kk : KKind (k :: kvs.map (·.1))) (ry : RelV y u) (rv : RelV v r) (hz : kvs.length < sizeLine) {Q : Unit → Shared → Prop}
    (K : ∀ o' s', Inv X pins σ (upd H p (.ext (Lit p o'))) s' → DRel F.w o' (rput rows k y v) → Q () s') : wpAny (model X.prog X.w) X.A (dictSet p u r) Q E s := by
  have hz' : rows.length < sizeLine := by rw [← h.pd.length]; exact hz
  have hl := rput_length rows k y v
  rcases kk_cases kk with ⟨i, rfl⟩ | ⟨l, rfl⟩
  · obtain ⟨vs, pv, hd⟩ := h.int I hF (kk_num kk)
    have ey := is_num hk
    subst ey
    obtain ⟨t, rfl⟩ := ry
    refine wpAny_dictSet_pairs (hsz := by rw [← Paired.length pv]; omega) int_is hd fun h' hd' hs => ?_
    obtain ⟨o', hg, hr⟩ := rel_int (X := X) hF.w (pv.put i rv) (by omega) hd'
    exact K o' _ (inv_lay I h.at_ hs hg) hr
  · obtain ⟨xs, px, hd⟩ := h.tup I hF (kk_tup kk).2
    obtain ⟨a, rfl⟩ := is_tupA hk
    cases ry
    refine wpAny_dictSet_heap (knd := nestedKind X.prog X.w) (hsz := by rw [← Paired.length px]; omega) (show X.A.units + 8 < cLine by omega) ⟨is_nested I hF.K _ _ _ hk rfl, (kk_tup kk).1⟩ hd fun h' hd' hs => ?_
    obtain ⟨o', hg, hr⟩ := rel_tup (X := X) hF.w (px.put (.tup l) rv) (by omega) hd'
    exact K o' _ (inv_lay I h.at_ hs hg) hr
/-- what a turn of the loop has to reach: by the turn and a measure -/
def DcW (X : Cx) (g : TG) (tt : TT) (tk tv : TE) (vs : List Nat) (σ : L2.St) (Q : VK) (J : It) (D : Addr) (H0 : Hp) : Prop := ∃ W : Nat → Nat → Hp → Prop, (∃ m, W 0 m H0) ∧ ∀ i m H, W i m H →
  (J.stop i H ∧ Q (.ref D) H) ∨ (J.go i H ∧ ∃ Nx : Hp → Prop, (∀ H', Nx H' → ∃ m', m' < m ∧ W (i + 1) m' H') ∧ ∀ x H', J.yld i H x H' → g x (L2.wipe σ vs) H' fun σ2 H2 => L2.wipe σ2 vs = L2.wipe σ vs ∧ tt σ2 H2 fun b H3 =>
    if b = true then tk σ2 H3 fun y H4 => tv σ2 H4 fun z H5 => DAsk X (.ref D) y H5 fun F _ a rows kvs k => kvs.length < sizeLine ∧ ∀ o', DRel F.w o' (rput rows k y z) → Nx (upd H5 a (.ext (Lit a o'))) else Nx H3)
def tDcX (X : Cx) (wi : TI) (g : TG) (tt : TT) (tk tv : TE) (vs : List Nat) : TE := fun σ H Q => wi σ H fun J H1 => ∀ D, H1 D = none → (D == sysModules) = false → DcW X g tt tk tv vs σ Q J D (upd H1 D (.ext (Lit D emptyD)))
theorem pe_dcX {wi : TI} {g : TG} {tt : TT} {tk tv : TE} (hu : X.A.units + 9 < cLine) (hc : X.calm = true) (hN : X.N.Nodup) (hi : PI X tg iter wi) (ok : BlkOk X.N X.env.scope scope own') (hg : InBlk X scope fun Y => PG Y tg g) (ht : InBlk X scope fun Y => PTs Y ifs tt) (hk : InBlk X scope fun Y => PE Y kx tk) (he : InBlk X scope fun Y => PE Y vx tv) (hs : ∀ x, foldedSetIterable iter X.env x = pure x) :
    PE X (.DictComp kx vx [⟨tg, iter, ifs, 0⟩] scope pos) (tDcX X wi g tt tk tv (own'.map (·.2))) := by
  refine ⟨fun pins s σ H Q I h => dcomp_in (P := DcW X g tt tk tv (List.map (fun z : Str × Nat => z.2) own') σ Q) hc hN I hi ok hs h fun it D C fp tn J s3 s4 H3 cl fin T hP I4 st4 n4 done => ?_⟩
  obtain ⟨W, ⟨m0, w0⟩, turn⟩ := hP
  have pg := hg s3 H3 C cl fp
  have pt := ht s3 H3 C cl fp
  have pk := hk s3 H3 C cl fp
  have pe := he s3 H3 C cl fp
  have hF : ∀ {F : Fx}, FOk X F → FOk (X.blk s3 H3 scope (compEnvC scope cl C X.env) fp) F := fun q => ⟨q.w, q.K⟩
  generalize compEnvC scope cl C X.env = ce at *
  have stat : ∀ {σ' : L2.St} {H' : Hp} {s' : Shared}, Inv (X.blk s3 H3 scope ce fp) [] σ' H' s' → (∀ b ∈ fp, H' b = none) → ∀ b ∈ fp, FpOk (X.blk s3 H3 scope ce fp) [] H' b := fun I' hn b hb => ⟨hn b hb, (I'.ok.exf b hb).1, I'.ok.exfs b hb, .inl hb, fun x c e => (I'.ok.exf b hb).2 x c e, fun p hp => by cases hp⟩
  refine compLoop_anyD (fun n s' => ∃ i H', Inv (X.blk s3 H3 scope ce fp) [] (L2.wipe σ (own'.map (·.2))) H' s' ∧ tn i s'.heap ∧ (∀ b ∈ fp, H' b = none) ∧ W i n H') (fun n s5 ⟨i, H5, I5, st5, n5, w5⟩ => ?_) m0 ⟨0, H3, I4, st4, n4, w0⟩
  rcases turn i n H5 w5 with ⟨stop, qq⟩ | ⟨go, Nx, hNx, step⟩
  · exact thnF (T.done (X.blk s3 H3 scope ce fp) rfl rfl rfl hc i [] s5 _ H5 (fun _ _ => False) I5 (stat I5 n5) st5 stop) fun r s6 ⟨hr, I6⟩ => by
      subst hr
      exact ⟨rfl, done H5 s6 I6 qq⟩
  · refine thnF (T.item (X.blk s3 H3 scope ce fp) rfl rfl rfl hc i [] s5 _ H5 (fun _ _ => False) I5 (stat I5 n5) st5 go) fun r s6 ⟨u, hr, h6⟩ => ?_
    subst hr
    refine thnF h6 fun _ s7 ⟨x, H7, I7, r7, y7, st7, n7⟩ => thnF (pg.run _ s7 _ H7 x u _ (I7.pinned (stat I7 n7) (T.obj _ _ st7)) r7 (step x H7 y7)) fun _ s8 ⟨σ8, H8, I8, hw8, q8⟩ => thnF (pt.run _ s8 σ8 H8 _ I8 q8) fun b s9 ⟨H9, I9, q9⟩ => ?_
    have fin : ∀ {s' : Shared} {H' : Hp}, Inv (X.blk s3 H3 scope ce fp) ([] ++ pinsAt fp s7.heap) σ8 H' s' → Nx H' → ∃ m, m < n ∧ ∃ i H', Inv (X.blk s3 H3 scope ce fp) [] (L2.wipe σ (own'.map (·.2))) H' s' ∧ tn i s'.heap ∧ (∀ b ∈ fp, H' b = none) ∧ W i m H' := fun {s' H'} I' nx => by
      obtain ⟨m', hm, w'⟩ := hNx H' nx
      have stay : ∀ b ∈ fp, ∀ ob, s7.heap.get? b = some ob → s'.heap.get? b = some ob ∧ H' b = none := fun b hb ob e => let z := I'.pin (b, ob) (List.mem_append_right _ (List.mem_append_right _ (mem_pinsAt hb e))); ⟨z.1, z.2.1⟩
      refine ⟨m', hm, i + 1, H', (I'.unpinned (pins := [])).weak (by rw [← hw8, wipe_length]) (fun j v e => ?_), T.keep _ _ _ st7 fun b hb ob e => (stay b hb ob e).1, fun b hb => (T.obj _ _ st7 b hb).elim fun ob z => (stay b hb ob z.1).2, w'⟩
      rw [← hw8] at e
      exact (wipe_some e).1
    cases b with
    | false => exact fin I9 q9
    | true =>
      refine thnF (pk.run _ s9 σ8 H9 _ I9 q9) fun z s10 ⟨yk, H10, I10, r10, q10⟩ => thnF (pe.run _ s10 σ8 H10 _ I10 q10) fun z2 s11 ⟨yv, H11, I11, r11, q11⟩ => ?_
      obtain ⟨a, F, O, o, rows, kvs, k, ea, fo, hd, hkk, kk, hz, nx⟩ := q11
      cases ea
      exact dd_dictSet (X := X.blk s3 H3 scope ce fp) hu I11 (hF fo) hd hkk kk r10 r11 hz fun o' s12 I12 hr => fin I12 (nx o' hr)
end
/-! ### two clauses -/
abbrev dc2 (kx vx t0 i0 t1 i1 : Expr) (a b : List Expr) (scope : Scope) (pos : Pos) : Expr := .DictComp kx vx [⟨t0, i0, a, 0⟩, ⟨t1, i1, b, 0⟩] scope pos
theorem turn_out (kx vx t0 i0 t1 i1 : Expr) (a b : List Expr) (scope : Scope) (pos : Pos) (it : Value) (D : Addr) (env : Env) : compTurn (dc2 kx vx t0 i0 t1 i1 a b scope pos) 0 it (.ref D) env = (do
      standAt i0.pos
      let r ← pyNext it
      match r with
      | none => pure (.done .next)
      | some v => do
        letOwnedTupleGo t0 it v
        assign t0 env v
        let mut good := true
        for c in a do
          if good then good ← isTrue c env (eval c env)
        if good then
          let x ← eval i1 env
          standAt i1.pos
          let y ← foldedSetIterable i1 env x
          let z ← holding [y] (pyIter y)
          let _ ← runOwn (.compStart (dc2 kx vx t0 i0 t1 i1 a b scope pos) 1 z (.ref D) env) env
        again (.compLoop (dc2 kx vx t0 i0 t1 i1 a b scope pos) 0 it (.ref D) env)) := by rfl
theorem turn_in (kx vx t0 i0 t1 i1 : Expr) (a b : List Expr) (scope : Scope) (pos : Pos) (it : Value) (D : Addr) (env : Env) : compTurn (dc2 kx vx t0 i0 t1 i1 a b scope pos) 1 it (.ref D) env = (do
      standAt i1.pos
      let r ← pyNext it
      match r with
      | none => pure (.done .next)
      | some v => do
        letOwnedTupleGo t1 it v
        assign t1 env v
        let mut good := true
        for c in b do
          if good then good ← isTrue c env (eval c env)
        if good then
          (do let kv ← eval kx env
              let vv ← holding [kv] (eval vx env)
              standAt { kx.pos with endLine := vx.pos.endLine, endCol := vx.pos.endCol }
              holding [kv, vv] (dictSet D kv vv))
        again (.compLoop (dc2 kx vx t0 i0 t1 i1 a b scope pos) 1 it (.ref D) env)) := by rfl
section
variable {prog : Program} {w : World} {A : Around} {R : Result → Shared → Prop} {s : Shared} {kx vx t0 i0 t1 i1 : Expr} {a b : List Expr} {scope : Scope} {pos : Pos} {it : Value} {D : Addr} {env : Env}
theorem loop_out (hs : ∀ x, foldedSetIterable i1 env x = pure x) (I : Nat → Shared → Prop)
    (turn : ∀ n s, I n s → wpAny (model prog w) A (pyNext it) (fun r s1 => match r with
      | none => R (.ok .next) s1
      | some v => wpAny (model prog w) A (letOwnedTupleGo t0 it v) (fun _ s2 => wpAny (model prog w) A (assign t0 env v) (fun _ s3 => wpAny (model prog w) A (forIn a true fun c r => if r = true then do let ok ← isTrue c env (eval c env); pure (ForInStep.yield ok) else pure (ForInStep.yield r)) (fun good s4 =>
            if good = true then wpAny (model prog w) A (eval i1 env) (fun x s5 => wpAny (model prog w) A (pyIter x) (fun z s6 => codeAny (model prog w) A (.compStart (dc2 kx vx t0 i0 t1 i1 a b scope pos) 1 z (.ref D) env) (fun r s' => match r with
                | .ok _ => ∃ m, m < n ∧ I m s'
                | .error _ => False) s6) (fun _ _ => False) s5) (fun _ _ => False) s4
            else ∃ m, m < n ∧ I m s4) (fun _ _ => False) s3) (fun _ _ => False) s2) (fun _ _ => False) s1) (fun _ _ => False) s)
    (n : Nat) (h : I n s) : codeAny (model prog w) A (.compLoop (dc2 kx vx t0 i0 t1 i1 a b scope pos) 0 it (.ref D) env) R s := by
  refine codeAny_loop rfl I (fun n s hI => ?_) n h
  show wpAny _ A ((compTurn (dc2 kx vx t0 i0 t1 i1 a b scope pos) 0 it (.ref D) env).onRaise (fun x => do noteFrame x env; theTreesLotGoes x)) _ _ s
  refine wpAny_noted ?_
  rw [turn_out]
  have no : ∀ {P : Value → Shared → Prop} e s', (fun (_ : Value) (_ : Shared) => False) e s' → P e s' := fun _ _ z => z.elim
  refine wpAny_bind (wpAny_standAt (wpAny_bind (wpAny_mono (turn n s hI) (fun r s1 h1 => ?_) no)))
  cases r with
  | none => exact wpAny_pure h1
  | some v =>
    refine wpAny_bind (wpAny_mono h1 (fun _ s2 h2 => wpAny_bind (wpAny_mono h2 (fun _ s3 h3 => wpAny_bind (wpAny_mono h3 (fun good s4 h4 => ?_) no)) no)) no)
    cases good with
    | false => exact wpAny_pure ⟨rfl, h4⟩
    | true =>
      refine wpAny_bind (wpAny_mono h4 (fun x s5 h5 => wpAny_bind (wpAny_standAt (wpAny_bind (wpAny_of_eq (hs x) (wpAny_bind (wpAny_holding (wpAny_mono h5 (fun z s6 h6 => ?_) no))))))) no)
      refine wpAny_bind (wpAny_runOwn ?_)
      rw [Around.mark_none]
      refine codeAny_mono h6 fun r s' hr => ?_
      cases r with
      | ok f => first | exact wpAny_pure ⟨rfl, hr⟩ | exact wpAny_bind (wpAny_pure (wpAny_pure ⟨rfl, hr⟩))
      | error e => exact hr.elim
theorem loop_in (I : Nat → Shared → Prop)
    (turn : ∀ n s, I n s → wpAny (model prog w) A (pyNext it) (fun r s1 => match r with
      | none => R (.ok .next) s1
      | some v => wpAny (model prog w) A (letOwnedTupleGo t1 it v) (fun _ s2 => wpAny (model prog w) A (assign t1 env v) (fun _ s3 => wpAny (model prog w) A (forIn b true fun c r => if r = true then do let ok ← isTrue c env (eval c env); pure (ForInStep.yield ok) else pure (ForInStep.yield r)) (fun good s4 =>
            if good = true then wpAny (model prog w) A (eval kx env) (fun kv s5 => wpAny (model prog w) A (eval vx env) (fun vv s6 => wpAny (model prog w) A (dictSet D kv vv) (fun _ s7 => ∃ m, m < n ∧ I m s7) (fun _ _ => False) s6) (fun _ _ => False) s5) (fun _ _ => False) s4
            else ∃ m, m < n ∧ I m s4) (fun _ _ => False) s3) (fun _ _ => False) s2) (fun _ _ => False) s1) (fun _ _ => False) s)
    (n : Nat) (h : I n s) : codeAny (model prog w) A (.compLoop (dc2 kx vx t0 i0 t1 i1 a b scope pos) 1 it (.ref D) env) R s := by
  refine codeAny_loop rfl I (fun n s hI => ?_) n h
  show wpAny _ A ((compTurn (dc2 kx vx t0 i0 t1 i1 a b scope pos) 1 it (.ref D) env).onRaise (fun x => do noteFrame x env; theTreesLotGoes x)) _ _ s
  refine wpAny_noted ?_
  rw [turn_in]
  have no : ∀ {P : Value → Shared → Prop} e s', (fun (_ : Value) (_ : Shared) => False) e s' → P e s' := fun _ _ z => z.elim
  refine wpAny_bind (wpAny_standAt (wpAny_bind (wpAny_mono (turn n s hI) (fun r s1 h1 => ?_) no)))
  cases r with
  | none => exact wpAny_pure h1
  | some v =>
    refine wpAny_bind (wpAny_mono h1 (fun _ s2 h2 => wpAny_bind (wpAny_mono h2 (fun _ s3 h3 => wpAny_bind (wpAny_mono h3 (fun good s4 h4 => ?_) no)) no)) no)
    cases good with
    | false => exact wpAny_pure ⟨rfl, h4⟩
    | true =>
      exact wpAny_bind (wpAny_bind (wpAny_mono h4 (fun kv s5 h5 => wpAny_bind (wpAny_holding (wpAny_mono h5 (fun vv s6 h6 => wpAny_bind (wpAny_standAt (wpAny_holding (wpAny_mono h6 (fun _ s7 h7 => wpAny_pure ⟨rfl, h7⟩) no)))) no))) no))
theorem start1 (h0 : codeAny (model prog w) A (.compLoop (dc2 kx vx t0 i0 t1 i1 a b scope pos) 1 it (.ref D) env) R s)
    (h : wpAny (model prog w) A (pyIter it) (fun it' s' => codeAny (model prog w) A (.compLoop (dc2 kx vx t0 i0 t1 i1 a b scope pos) 1 it' (.ref D) env) R s') (fun _ _ => False) s) : codeAny (model prog w) A (.compStart (dc2 kx vx t0 i0 t1 i1 a b scope pos) 1 it (.ref D) env) R s := by
  refine codeAny_of_tree ?_
  show wpAny _ _ ((compStart (dc2 kx vx t0 i0 t1 i1 a b scope pos) 1 it (.ref D) env).onRaise (fun x => do noteFrame x env; standAt theWindowsPlace)) _ _ s
  refine wpAny_notedAt ?_
  unfold compStart
  show wpAny _ _ (ask >>= _) _ _ s
  refine wpAny_bind (wpAny_askSetting (wpAny_ite ?_))
  have h' := wpAny_mono h (fun it' s' z => z) (Q' := fun it' s' => codeAny (model prog w) A (.compLoop (dc2 kx vx t0 i0 t1 i1 a b scope pos) 1 it' (.ref D) env) R s') (E' := notedBy (model prog w) A env fun x s' => R (.error x) s') fun _ _ z => z.elim
  split
  · first | exact wpAny_bind (wpAny_pure (wpAny_pure (And.intro rfl h0))) | exact wpAny_pure (And.intro rfl h0)
  · first
      | exact wpAny_bind (wpAny_rule (wpAny_bind (wpAny_standAt (wpAny_bind (wpAny_mono h' (fun it' s' z => wpAny_pure (And.intro rfl z)) fun _ _ x => x)))))
      | (refine wpAny_bind (wpAny_rule ?_); show wpAny _ _ (standAt i1.pos >>= _) _ _ s; exact wpAny_bind (wpAny_standAt (wpAny_bind (wpAny_mono h' (fun it' s' z => wpAny_pure (And.intro rfl z)) fun _ _ x => x))))
end
end DL
set_option Elab.async false
set_option linter.all false
set_option maxRecDepth 100000
/-! DLDComp2: dict comprehensions: two clauses in their block; the rules over data. -/
namespace DL
open PySem PySem.Spec PyProof.Rows L2
section
variable {X : Cx} {pins : List (Addr × Obj)} {σ : L2.St} {H : Hp} {s : Shared} {kx vx tg iter tg1 iter1 : Expr} {ifs ifs1 : List Expr} {gs : List Comprehension} {scope : Scope} {own' : List (Str × Nat)} {vs1 : List Nat} {pos : Pos}
def DcW2 (X : Cx) (g : TG) (tt : TT) (wi1 : TI) (g1 : TG) (tt1 : TT) (tk tv : TE) (vs vs1 : List Nat) (σ : L2.St) (Q : VK) (J : It) (D : Addr) (H0 : Hp) : Prop := ∃ W : Nat → Nat → Hp → Prop, (∃ m, W 0 m H0) ∧ ∀ i m H, W i m H →
  (J.stop i H ∧ Q (.ref D) H) ∨ (J.go i H ∧ ∃ Nx : Hp → Prop, (∀ H', Nx H' → ∃ m', m' < m ∧ W (i + 1) m' H') ∧ ∀ x H', J.yld i H x H' → g x (L2.wipe σ vs) H' fun σ2 H2 => L2.wipe σ2 vs = L2.wipe σ vs ∧ tt σ2 H2 fun b H3 =>
    if b = true then wi1 σ2 H3 fun J1 H4 => ∃ W1 : Nat → Nat → Hp → Prop, (∃ m, W1 0 m H4) ∧ ∀ j k H, W1 j k H →
      (J1.stop j H ∧ Nx H) ∨ (J1.go j H ∧ ∃ Nx1 : Hp → Prop, (∀ H', Nx1 H' → ∃ k', k' < k ∧ W1 (j + 1) k' H') ∧ ∀ x H', J1.yld j H x H' → g1 x (L2.wipe σ2 vs1) H' fun σ3 H5 => L2.wipe σ3 vs1 = L2.wipe σ2 vs1 ∧ tt1 σ3 H5 fun b H6 =>
        if b = true then tk σ3 H6 fun y H7 => tv σ3 H7 fun z H8 => DAsk X (.ref D) y H8 fun F _ a rows kvs k => kvs.length < sizeLine ∧ ∀ o', DRel F.w o' (rput rows k y z) → Nx1 (upd H8 a (.ext (Lit a o'))) else Nx1 H6)
    else Nx H3)
def tDcX2 (X : Cx) (wi : TI) (g : TG) (tt : TT) (wi1 : TI) (g1 : TG) (tt1 : TT) (tk tv : TE) (vs vs1 : List Nat) : TE := fun σ H Q => wi σ H fun J H1 => ∀ D, H1 D = none → (D == sysModules) = false → DcW2 X g tt wi1 g1 tt1 tk tv vs vs1 σ Q J D (upd H1 D (.ext (Lit D emptyD)))
theorem pe_dcX2 {wi wi1 : TI} {g g1 : TG} {tt tt1 : TT} {tk tv : TE} (hu : X.A.units + 9 < cLine) (hc : X.calm = true) (hN : X.N.Nodup) (hi : PI X tg iter wi) (ok : BlkOk X.N X.env.scope scope own') (hv : ∀ i ∈ vs1, i ∈ own'.map (·.2)) (hg : InBlk X scope fun Y => PG Y tg g) (ht : InBlk X scope fun Y => PTs Y ifs tt)
    (hi1 : InBlk X scope fun Y => PI Y tg1 iter1 wi1) (hg1 : InBlk X scope fun Y => PG Y tg1 g1) (ht1 : InBlk X scope fun Y => PTs Y ifs1 tt1) (hk : InBlk X scope fun Y => PE Y kx tk) (he : InBlk X scope fun Y => PE Y vx tv) (hs : ∀ x, foldedSetIterable iter X.env x = pure x) (hs1 : ∀ env x, foldedSetIterable iter1 env x = pure x) :
    PE X (.DictComp kx vx [⟨tg, iter, ifs, 0⟩, ⟨tg1, iter1, ifs1, 0⟩] scope pos) (tDcX2 X wi g tt wi1 g1 tt1 tk tv (own'.map (·.2)) vs1) := by
  refine ⟨fun pins s σ H Q I h => dcomp_in (P := DcW2 X g tt wi1 g1 tt1 tk tv (List.map (fun z : Str × Nat => z.2) own') vs1 σ Q) hc hN I hi ok hs h fun it D C fp tn J s3 s4 H3 cl fin T hP I4 st4 n4 done => ?_⟩
  obtain ⟨W, ⟨m0, w0⟩, turn⟩ := hP
  have pg := hg s3 H3 C cl fp
  have pt := ht s3 H3 C cl fp
  have pk := hk s3 H3 C cl fp
  have pe := he s3 H3 C cl fp
  have pi1 := hi1 s3 H3 C cl fp
  have pg1 := hg1 s3 H3 C cl fp
  have pt1 := ht1 s3 H3 C cl fp
  have hF : ∀ {F : Fx}, FOk X F → FOk (X.blk s3 H3 scope (compEnvC scope cl C X.env) fp) F := fun q => ⟨q.w, q.K⟩
  generalize compEnvC scope cl C X.env = ce at *
  have stat : ∀ {σ' : L2.St} {H' : Hp} {s' : Shared}, Inv (X.blk s3 H3 scope ce fp) [] σ' H' s' → (∀ b ∈ fp, H' b = none) → ∀ b ∈ fp, FpOk (X.blk s3 H3 scope ce fp) [] H' b := fun I' hn b hb => ⟨hn b hb, (I'.ok.exf b hb).1, I'.ok.exfs b hb, .inl hb, fun x c e => (I'.ok.exf b hb).2 x c e, fun p hp => by cases hp⟩
  refine loop_out (hs1 ce) (fun n s' => ∃ i H', Inv (X.blk s3 H3 scope ce fp) [] (L2.wipe σ (own'.map (·.2))) H' s' ∧ tn i s'.heap ∧ (∀ b ∈ fp, H' b = none) ∧ W i n H') (fun n s5 ⟨i, H5, I5, st5, n5, w5⟩ => ?_) m0 ⟨0, H3, I4, st4, n4, w0⟩
  rcases turn i n H5 w5 with ⟨stop, qq⟩ | ⟨go, Nx, hNx, step⟩
  · exact thnF (T.done (X.blk s3 H3 scope ce fp) rfl rfl rfl hc i [] s5 _ H5 (fun _ _ => False) I5 (stat I5 n5) st5 stop) fun r s6 ⟨hr, I6⟩ => by
      subst hr
      exact ⟨rfl, done H5 s6 I6 qq⟩
  · refine thnF (T.item (X.blk s3 H3 scope ce fp) rfl rfl rfl hc i [] s5 _ H5 (fun _ _ => False) I5 (stat I5 n5) st5 go) fun r s6 ⟨u, hr, h6⟩ => ?_
    subst hr
    refine thnF h6 fun _ s7 ⟨x, H7, I7, r7, y7, st7, n7⟩ => thnF (pg.run _ s7 _ H7 x u _ (I7.pinned (stat I7 n7) (T.obj _ _ st7)) r7 (step x H7 y7)) fun _ s8 ⟨σ8, H8, I8, hw8, q8⟩ => thnF (pt.run _ s8 σ8 H8 _ I8 q8) fun b s9 ⟨H9, I9, q9⟩ => ?_
    have ends : ∀ {σ9 : L2.St} {s' : Shared} {H' : Hp}, Inv (X.blk s3 H3 scope ce fp) ([] ++ pinsAt fp s7.heap) σ9 H' s' → (L2.wipe σ (own'.map (·.2))).length = σ9.length → (∀ (j : Nat) v, (L2.wipe σ (own'.map (·.2)))[j]? = some (some v) → σ9[j]? = some (some v)) → Nx H' → ∃ m, m < n ∧ ∃ i H', Inv (X.blk s3 H3 scope ce fp) [] (L2.wipe σ (own'.map (·.2))) H' s' ∧ tn i s'.heap ∧ (∀ b ∈ fp, H' b = none) ∧ W i m H' := fun {σ9 s' H'} I' hl hw nx => by
      obtain ⟨m', hm, w'⟩ := hNx H' nx
      have stay : ∀ b ∈ fp, ∀ ob, s7.heap.get? b = some ob → s'.heap.get? b = some ob ∧ H' b = none := fun b hb ob e => let z := I'.pin (b, ob) (List.mem_append_right _ (List.mem_append_right _ (mem_pinsAt hb e))); ⟨z.1, z.2.1⟩
      exact ⟨m', hm, i + 1, H', (I'.unpinned (pins := [])).weak hl hw, T.keep _ _ _ st7 fun b hb ob e => (stay b hb ob e).1, fun b hb => (T.obj _ _ st7 b hb).elim fun ob z => (stay b hb ob z.1).2, w'⟩
    have hl8 : (L2.wipe σ (own'.map (·.2))).length = σ8.length := by rw [← hw8, wipe_length]
    have hk8 : ∀ (j : Nat) v, (L2.wipe σ (own'.map (·.2)))[j]? = some (some v) → σ8[j]? = some (some v) ∧ j ∉ own'.map (·.2) := fun j v e => by rw [← hw8] at e; exact wipe_some e
    cases b with
    | false => exact ends I9 hl8 (fun j v e => (hk8 j v e).1) q9
    | true =>
      refine thnF (pi1.run _ s9 σ8 H9 _ I9 q9) fun xv s10 hx => thnF hx fun itv s11 h11 => ?_
      obtain ⟨it1, fp1, tn1, J1, H11, rfl, I11, T1, st11, f11, W1, ⟨m1, w1⟩, turn1⟩ := h11
      have stat1 : ∀ {H' : Hp}, (∀ b ∈ fp1, H' b = none) → ∀ b ∈ fp1, FpOk (X.blk s3 H3 scope ce fp) ([] ++ pinsAt fp s7.heap) H' b := fun hn b hb => ⟨hn b hb, (f11 b hb).2⟩
      have inner : codeAny (model X.prog X.w) X.A (.compLoop (dc2 kx vx tg iter tg1 iter1 ifs ifs1 scope pos) 1 (.ref it1) (.ref D) ce) (fun r s' => match r with
          | .ok _ => ∃ m, m < n ∧ ∃ i H', Inv (X.blk s3 H3 scope ce fp) [] (L2.wipe σ (own'.map (·.2))) H' s' ∧ tn i s'.heap ∧ (∀ b ∈ fp, H' b = none) ∧ W i m H'
          | .error _ => False) s11 := by
        refine loop_in (fun k s' => ∃ j H', Inv (X.blk s3 H3 scope ce fp) ([] ++ pinsAt fp s7.heap) (L2.wipe σ8 vs1) H' s' ∧ tn1 j s'.heap ∧ (∀ b ∈ fp1, H' b = none) ∧ W1 j k H') (fun k s12 ⟨j, H12, I12, st12, n12, w12⟩ => ?_) m1 ⟨0, H11, I11.weak (wipe_length _ _) (fun j v e => (wipe_some e).1), st11, fun b hb => (f11 b hb).1, w1⟩
        rcases turn1 j k H12 w12 with ⟨stop1, nx1⟩ | ⟨go1, Nx1, hNx1, step1⟩
        · refine thnF (T1.done (X.blk s3 H3 scope ce fp) rfl rfl rfl hc j _ s12 (L2.wipe σ8 vs1) H12 (fun _ _ => False) I12 (stat1 n12) st12 stop1) fun r s13 ⟨hr, I13⟩ => ?_
          subst hr
          refine ends I13 (hl8.trans (wipe_length σ8 vs1).symm) (fun q v e => ?_) nx1
          obtain ⟨e1, e2⟩ := hk8 q v e
          rw [wipe_get, if_neg fun z => e2 (hv q z)]
          exact e1
        · refine thnF (T1.item (X.blk s3 H3 scope ce fp) rfl rfl rfl hc j _ s12 (L2.wipe σ8 vs1) H12 (fun _ _ => False) I12 (stat1 n12) st12 go1) fun r s13 ⟨u1, hr, h13⟩ => ?_
          subst hr
          refine thnF h13 fun _ s14 ⟨x1, H14, I14, r14, y14, st14, n14⟩ => thnF (pg1.run _ s14 (L2.wipe σ8 vs1) H14 x1 u1 _ (I14.pinned (stat1 n14) (T1.obj _ _ st14)) r14 (step1 x1 H14 y14)) fun _ s15 ⟨σ15, H15, I15, hw15, q15⟩ => thnF (pt1.run _ s15 σ15 H15 _ I15 q15) fun b1 s16 ⟨H16, I16, q16⟩ => ?_
          have ends1 : ∀ {s' : Shared} {H' : Hp}, Inv (X.blk s3 H3 scope ce fp) (([] ++ pinsAt fp s7.heap) ++ pinsAt fp1 s14.heap) σ15 H' s' → Nx1 H' → ∃ m, m < k ∧ ∃ j H', Inv (X.blk s3 H3 scope ce fp) ([] ++ pinsAt fp s7.heap) (L2.wipe σ8 vs1) H' s' ∧ tn1 j s'.heap ∧ (∀ b ∈ fp1, H' b = none) ∧ W1 j m H' := fun {s' H'} I' nx => by
            obtain ⟨m', hm, w'⟩ := hNx1 H' nx
            have stay : ∀ b ∈ fp1, ∀ ob, s14.heap.get? b = some ob → s'.heap.get? b = some ob ∧ H' b = none := fun b hb ob e => let z := I'.pin (b, ob) (List.mem_append_right _ (List.mem_append_right _ (mem_pinsAt hb e))); ⟨z.1, z.2.1⟩
            exact ⟨m', hm, j + 1, H', I'.unpinned.weak (by rw [← hw15, wipe_length]) (fun q v e => by rw [← hw15] at e; exact (wipe_some e).1), T1.keep _ _ _ st14 fun b hb ob e => (stay b hb ob e).1, fun b hb => (T1.obj _ _ st14 b hb).elim fun ob z => (stay b hb ob z.1).2, w'⟩
          cases b1 with
          | false => exact ends1 I16 q16
          | true =>
            refine thnF (pk.run _ s16 σ15 H16 _ I16 q16) fun z s17 ⟨yk, H17, I17, r17, q17⟩ => thnF (pe.run _ s17 σ15 H17 _ I17 q17) fun z2 s18 ⟨yv, H18, I18, r18, q18⟩ => ?_
            obtain ⟨a, F, O, o, rows, kvs, kk0, ea, fo, hd, hkk, kk, hz, nx⟩ := q18
            cases ea
            exact dd_dictSet (X := X.blk s3 H3 scope ce fp) hu I18 (hF fo) hd hkk kk r17 r18 hz fun o' s19 I19 hr => ends1 I19 (nx o' hr)
      exact start1 inner (T1.self X.A 0 _ _ _ st11 inner)
end
section
variable {X : Cx} {kx vx tg iter tg1 iter1 : Expr} {ifs ifs1 : List Expr} {scope : Scope} {own' : List (Str × Nat)} {pos : Pos} {ti ti1 : TDI} {g' g1' : TG} {g g1 : TDG} {sl sl1 vs vs1 : List Nat} {tt tt1 : TDT} {tk tv : TDE}
/-- the loop of a dict comprehension over data -/
def tdDcL (g : TDG) (tt : TDT) (tk tv : TDE) (E : DEnv) : List D → List (NestedKey × D) → (List (NestedKey × D) → Prop) → Prop
  | [], acc, Q => Q acc
  | x :: xs, acc, Q => g x E fun E' => tt E' fun b => if b = true then tk E' fun dk _ => tv E' fun dv fv => fv.ok = true ∧ asKey dk (acc.map (·.1)) fun k => acc.length < sizeLine ∧ tdDcL g tt tk tv E xs (aput acc k dv) Q else tdDcL g tt tk tv E xs acc Q
def tdDc (ti : TDI) (g : TDG) (tt : TDT) (tk tv : TDE) (vs : List Nat) : TDE := fun E Q => unAt E vs ∧ ti E fun xs => tdDcL g tt tk tv E xs [] fun kvs => Q (.d kvs) .fr
/-- one turn, from the item on -/
theorem dc_turn {F : Fx} {B : Bas} {ps : List (D × V)} {E : DEnv} {σ : L2.St} {H' : Hp} {acc : List (NestedKey × D)} {p : Addr} {d : D} {x : V} {C : List (NestedKey × D) → Prop} {Nx : Hp → Prop} (un : unAt E vs) (nw : New F B p) (hg : GLink X g' sl g) (ht : InBlk X scope fun Y => DTs Y ifs tt) (hk : InBlk X scope fun Y => DE Y kx tk) (hv : InBlk X scope fun Y => DE Y vx tv) (hsl : ∀ i ∈ sl, i ∈ vs) (hF : FOk X F)
    (r4 : R F (B.root (.d acc) p) ps E σ H') (hx : Is F (own (B.root (.d acc) p) E σ) H' d x)
    (q : g d E fun E' => tt E' fun b => if b = true then tk E' fun dk _ => tv E' fun dv fv => fv.ok = true ∧ asKey dk (acc.map (·.1)) fun k => acc.length < sizeLine ∧ C (aput acc k dv) else C acc)
    (fin : ∀ acc' H5, C acc' → R F (B.root (.d acc') p) ps E σ H5 → Nx H5) :
    g' x (L2.wipe σ vs) H' fun σ2 H2 => L2.wipe σ2 vs = L2.wipe σ vs ∧ ttB X scope ifs σ2 H2 fun b H3 => if b = true then teB X scope kx σ2 H3 fun y H4 => teB X scope vx σ2 H4 fun z H5 => DAsk X (.ref p) y H5 fun F _ a rows kvs k => kvs.length < sizeLine ∧ ∀ o', DRel F.w o' (rput rows k y z) → Nx (upd H5 a (.ext (Lit a o'))) else Nx H3 := by
  have r5 := wiped (vs := vs) un r4
  have hx' : Is F (own (B.root (.d acc) p) E (L2.wipe σ vs)) H' d x := hx.mono (fun _ _ z _ => z) fun a _ _ z => by
    rcases z with z | ⟨j, d, e1, e2⟩
    · exact .inl z
    · have : j ∉ vs := fun z => by
        have := un j z
        rw [e1] at this; cases this
      rw [wipe_get, if_neg this] at e2
      exact .inr ⟨j, d, e1, e2⟩
  refine hg F _ _ E _ H' _ x _ _ hF r5 hx' q fun E' σ' q5 r6 o6 => ⟨?_, fun s0 H0 C cl fp => ?_⟩
  · rw [(o6.wipe hsl).2]
    apply List.ext_getElem?
    intro j
    rw [wipe_get, wipe_get, wipe_length]
    by_cases hj : j ∈ vs
    · rw [if_pos hj, if_pos hj]
    · rw [if_neg hj, if_neg hj]
  · refine (ht s0 H0 C cl fp).run F _ _ E' σ' H' _ _ (fOk_blk hF) r6 q5 fun b H4 q6 r7 => ?_
    cases b with
    | false =>
      rw [if_neg Bool.false_ne_true] at q6 ⊢
      exact fin acc H4 q6 (unwiped un o6 hsl r7)
    | true =>
      rw [if_pos rfl] at q6 ⊢
      intro s0 H0 C cl fp
      refine (hk s0 H0 C cl fp).run F _ _ E' σ' H4 _ _ (fOk_blk hF) r7 q6 fun dk fk y H5 q7 p7 => ?_
      intro s0 H0 C cl fp
      obtain ⟨r8, w8⟩ := p7.val
      refine (hv s0 H0 C cl fp).run F _ _ E' σ' H5 _ _ (fOk_blk hF) (r8.pinV w8) q7 fun dv fv z H6 q9 p9 => ?_
      obtain ⟨ok, kk, ek, hkk, hz, q10⟩ := q9
      obtain ⟨r9, w9⟩ := p9.val
      have hdv := w9.is ok
      obtain ⟨r10, w10⟩ := r9.unpinV w8
      obtain ⟨o, rows, hd⟩ := (r10.rts (.d acc, p) List.mem_cons_self).2.2.dat
      have hk1 := w10.isAny r10 ek
      refine ⟨p, F, _, o, rows, acc, kk, rfl, hF, hd, hk1, hkk, hz, fun o' hr => fin _ _ q10 (unwiped un o6 hsl ?_)⟩
      exact (nw.fresh r10).write r10 (hd.put (owned_root (.d acc)) hk1 hkk hdv hr).root
theorem dc_link {F : Fx} {B : Bas} {ps : List (D × V)} {E : DEnv} {σ : L2.St} {H : Hp} {Qd : D → Fl → Prop} {Q : VK} (hi : DI X tg iter ti) (hg : GLink X g' sl g) (ht : InBlk X scope fun Y => DTs Y ifs tt) (hk : InBlk X scope fun Y => DE Y kx tk) (hv : InBlk X scope fun Y => DE Y vx tv) (hsl : ∀ i ∈ sl, i ∈ vs) (hF : FOk X F) (r : R F B ps E σ H) (t : tdDc ti g tt tk tv vs E Qd)
    (k : ∀ d f v H', Qd d f → Post F B ps E σ d f v H' → Q v H') : tDcX X (fun σ H Rk => RunI X tg iter σ H Rk) g' (ttB X scope ifs) (teB X scope kx) (teB X scope vx) vs σ H Q := by
  obtain ⟨un, t⟩ := t
  refine hi.run F B ps E σ H _ _ hF r t fun xs J H1 ps1 q r1 w p hp hs => ?_
  obtain ⟨r2, f2⟩ := (r1.laid (d := .d []) (o := .ext (Lit p emptyD)) hp (datE upd_same hs).root).fresh
  have nw := f2.new
  refine ⟨fun i m H => m = xs.length - i ∧ i ≤ xs.length ∧ ∃ acc, R F (B.root (.d acc) p) (ps1 ++ ps) E σ H ∧ tdDcL g tt tk tv E (xs.drop i) acc fun kvs => Qd (.d kvs) .fr, ⟨_, rfl, Nat.zero_le _, [], r2, q⟩, ?_⟩
  rintro i m H3 ⟨rfl, hi, acc, r3, q3⟩
  obtain ⟨hstop, hgo⟩ := w i H3 _ (fun z hz => r3.pins z (List.mem_append_left _ hz)) fun a h => r3.own_there h
  by_cases hlt : i < xs.length
  · obtain ⟨go, yl⟩ := hgo xs[i] (List.getElem?_eq_getElem hlt)
    rw [List.drop_eq_getElem_cons hlt] at q3
    refine .inr ⟨go, fun H' => ∃ acc, R F (B.root (.d acc) p) (ps1 ++ ps) E σ H' ∧ tdDcL g tt tk tv E (xs.drop (i + 1)) acc fun kvs => Qd (.d kvs) .fr, fun H' ⟨a, r', q'⟩ => ⟨xs.length - (i + 1), by omega, rfl, hlt, a, r', q'⟩, fun x H' y => ?_⟩
    obtain ⟨hk', hx⟩ := yl x H' y
    exact dc_turn (C := fun acc' => tdDcL g tt tk tv E (xs.drop (i + 1)) acc' fun kvs => Qd (.d kvs) .fr) un nw hg ht hk hv hsl hF (r3.grow hk') hx q3 fun acc' H5 c r' => ⟨acc', r', c⟩
  · have e : i = xs.length := by omega
    subst e
    rw [List.drop_length] at q3
    exact .inl ⟨hstop (Nat.le_refl _), k _ .fr _ _ q3 ((nw.fresh r3).post (r3.mem_pins fun z hz => r3.pins z (List.mem_append_right _ hz)))⟩
/-- {k: v for tg in iter if ..} -/
theorem de_dc (hu : X.A.units + 9 < cLine) (hc : X.calm = true) (hN : X.N.Nodup) (ok : BlkOk X.N X.env.scope scope own') (hi : DI X tg iter ti) (hg : InBlk X scope fun Y => DG Y tg g' sl g) (ht : InBlk X scope fun Y => DTs Y ifs tt) (hk : InBlk X scope fun Y => DE Y kx tk) (hv : InBlk X scope fun Y => DE Y vx tv) (hsl : ∀ i ∈ sl, i ∈ own'.map (·.2)) (hs : ∀ x, foldedSetIterable iter X.env x = pure x := by intro _; rfl) :
    DE X (.DictComp kx vx [⟨tg, iter, ifs, 0⟩] scope pos) (tdDc ti g tt tk tv (own'.map (·.2))) :=
  ⟨fun F B ps E σ H Qd Q hF r t k => Run.of (pe_dcX hu hc hN piR ok (fun s H C cl fp => (hg s H C cl fp).pg) ptsB peB peB hs) (dc_link hi (glAny hg) ht hk hv hsl hF r t k)⟩
/-- two clauses, no tests -/
def tdDcO (ti1 : TDI) (g g1 : TDG) (tk tv : TDE) (vs1 : List Nat) (E : DEnv) : List D → List (NestedKey × D) → (List (NestedKey × D) → Prop) → Prop
  | [], acc, Q => Q acc
  | x :: xs, acc, Q => g x E fun E' => unAt E' vs1 ∧ ti1 E' fun ys => tdDcL g1 tdYes tk tv E' ys acc fun acc' => tdDcO ti1 g g1 tk tv vs1 E xs acc' Q
def tdDc2 (ti ti1 : TDI) (g g1 : TDG) (tk tv : TDE) (vs vs1 : List Nat) : TDE := fun E Q => unAt E vs ∧ ti E fun xs => tdDcO ti1 g g1 tk tv vs1 E xs [] fun kvs => Q (.d kvs) .fr
theorem dc2_link {F : Fx} {B : Bas} {ps : List (D × V)} {E : DEnv} {σ : L2.St} {H : Hp} {Qd : D → Fl → Prop} {Q : VK} (hi : DI X tg iter ti) (hg : GLink X g' sl g) (hi1 : InBlk X scope fun Y => DI Y tg1 iter1 ti1) (hg1 : GLink X g1' sl1 g1) (hk : InBlk X scope fun Y => DE Y kx tk) (hv : InBlk X scope fun Y => DE Y vx tv) (hsl : ∀ i ∈ sl, i ∈ vs) (hsl1 : ∀ i ∈ sl1, i ∈ vs1) (hF : FOk X F) (r : R F B ps E σ H) (t : tdDc2 ti ti1 g g1 tk tv vs vs1 E Qd)
    (k : ∀ d f v H', Qd d f → Post F B ps E σ d f v H' → Q v H') : tDcX2 X (fun σ H Rk => RunI X tg iter σ H Rk) g' (ttB X scope []) (fun σ H Rk => InBlk X scope fun Y => RunI Y tg1 iter1 σ H Rk) g1' (ttB X scope []) (teB X scope kx) (teB X scope vx) vs vs1 σ H Q := by
  obtain ⟨un, t⟩ := t
  refine hi.run F B ps E σ H _ _ hF r t fun xs J H1 ps1 q r1 w p hp hs => ?_
  obtain ⟨r2, f2⟩ := (r1.laid (d := .d []) (o := .ext (Lit p emptyD)) hp (datE upd_same hs).root).fresh
  have nw := f2.new
  refine ⟨fun i m H => m = xs.length - i ∧ i ≤ xs.length ∧ ∃ acc, R F (B.root (.d acc) p) (ps1 ++ ps) E σ H ∧ tdDcO ti1 g g1 tk tv vs1 E (xs.drop i) acc fun kvs => Qd (.d kvs) .fr, ⟨_, rfl, Nat.zero_le _, [], r2, q⟩, ?_⟩
  rintro i m H3 ⟨rfl, hi, acc, r3, q3⟩
  obtain ⟨hstop, hgo⟩ := w i H3 _ (fun z hz => r3.pins z (List.mem_append_left _ hz)) fun a h => r3.own_there h
  by_cases hlt : i < xs.length
  · obtain ⟨go, yl⟩ := hgo xs[i] (List.getElem?_eq_getElem hlt)
    rw [List.drop_eq_getElem_cons hlt] at q3
    refine .inr ⟨go, fun H' => ∃ acc, R F (B.root (.d acc) p) (ps1 ++ ps) E σ H' ∧ tdDcO ti1 g g1 tk tv vs1 E (xs.drop (i + 1)) acc fun kvs => Qd (.d kvs) .fr, fun H' ⟨a, r', q'⟩ => ⟨xs.length - (i + 1), by omega, rfl, hlt, a, r', q'⟩, fun x H' y => ?_⟩
    obtain ⟨hk', hx⟩ := yl x H' y
    have r4 := r3.grow hk'
    have r5 := wiped (vs := vs) un r4
    have hx' : Is F (own (B.root (.d acc) p) E (L2.wipe σ vs)) H' xs[i] x := hx.mono (fun _ _ z _ => z) fun a _ _ z => by
      rcases z with z | ⟨j, d, e1, e2⟩
      · exact .inl z
      · have : j ∉ vs := fun z => by
          have := un j z
          rw [e1] at this; cases this
        rw [wipe_get, if_neg this] at e2
        exact .inr ⟨j, d, e1, e2⟩
    refine hg F _ _ E _ H' _ x _ _ hF r5 hx' q3 fun E' σ' q5 r6 o6 => ⟨?_, fun s0 H0 C cl fp pins0 s1 I1 => pts_nil.run pins0 s1 σ' H' _ I1 ?_⟩
    · rw [(o6.wipe hsl).2]
      apply List.ext_getElem?
      intro j
      rw [wipe_get, wipe_get, wipe_length]
      by_cases hj : j ∈ vs
      · rw [if_pos hj, if_pos hj]
      · rw [if_neg hj, if_neg hj]
    · simp only [tYes, if_true]
      intro s0 H0 C cl fp
      obtain ⟨un1, q5⟩ := q5
      refine (hi1 s0 H0 C cl fp).run F _ _ E' σ' H' _ _ (fOk_blk hF) r6 q5 fun ys J1 H4 ps2 q6 r7 w1 => ?_
      refine ⟨fun j k H => k = ys.length - j ∧ j ≤ ys.length ∧ ∃ acc', R F (B.root (.d acc') p) (ps2 ++ (ps1 ++ ps)) E' σ' H ∧ tdDcL g1 tdYes tk tv E' (ys.drop j) acc' fun acc2 => tdDcO ti1 g g1 tk tv vs1 E (xs.drop (i + 1)) acc2 fun kvs => Qd (.d kvs) .fr, ⟨_, rfl, Nat.zero_le _, acc, r7, q6⟩, ?_⟩
      rintro j k H5 ⟨rfl, hj, acc1, r8, q8⟩
      obtain ⟨hstop1, hgo1⟩ := w1 j H5 _ (fun z hz => r8.pins z (List.mem_append_left _ hz)) fun a h => r8.own_there h
      by_cases hlt1 : j < ys.length
      · obtain ⟨go1, yl1⟩ := hgo1 ys[j] (List.getElem?_eq_getElem hlt1)
        rw [List.drop_eq_getElem_cons hlt1] at q8
        refine .inr ⟨go1, fun H' => ∃ acc', R F (B.root (.d acc') p) (ps2 ++ (ps1 ++ ps)) E' σ' H' ∧ tdDcL g1 tdYes tk tv E' (ys.drop (j + 1)) acc' fun acc2 => tdDcO ti1 g g1 tk tv vs1 E (xs.drop (i + 1)) acc2 fun kvs => Qd (.d kvs) .fr, fun H' ⟨a, r', q'⟩ => ⟨ys.length - (j + 1), by omega, rfl, hlt1, a, r', q'⟩, fun x1 H6 y1 => ?_⟩
        obtain ⟨hk1, hx1⟩ := yl1 x1 H6 y1
        exact dc_turn (C := fun acc' => tdDcL g1 tdYes tk tv E' (ys.drop (j + 1)) acc' fun acc2 => tdDcO ti1 g g1 tk tv vs1 E (xs.drop (i + 1)) acc2 fun kvs => Qd (.d kvs) .fr) un1 nw hg1 (fun s H C cl fp => dts_nil) hk hv hsl1 hF (r8.grow hk1) hx1 q8 fun acc' H7 c r' => ⟨acc', r', c⟩
      · have e : j = ys.length := by omega
        subst e
        rw [List.drop_length] at q8
        exact .inl ⟨hstop1 (Nat.le_refl _), acc1, unwiped un o6 hsl (r8.mem_pins fun z hz => r8.pins z (List.mem_append_right _ hz)), q8⟩
  · have e : i = xs.length := by omega
    subst e
    rw [List.drop_length] at q3
    exact .inl ⟨hstop (Nat.le_refl _), k _ .fr _ _ q3 ((nw.fresh r3).post (r3.mem_pins fun z hz => r3.pins z (List.mem_append_right _ hz)))⟩
theorem piB : InBlk X scope fun Y => PI Y tg1 iter1 (fun σ H Rk => InBlk X scope fun Y => RunI Y tg1 iter1 σ H Rk) := fun s0 H0 C cl fp => ⟨fun pins s σ H Rk I h => h s0 H0 C cl fp pins s I⟩
theorem de_dc2 (hu : X.A.units + 9 < cLine) (hc : X.calm = true) (hN : X.N.Nodup) (ok : BlkOk X.N X.env.scope scope own') (hi : DI X tg iter ti) (hg : InBlk X scope fun Y => DG Y tg g' sl g) (hi1 : InBlk X scope fun Y => DI Y tg1 iter1 ti1) (hg1 : InBlk X scope fun Y => DG Y tg1 g1' sl1 g1) (hk : InBlk X scope fun Y => DE Y kx tk) (hv : InBlk X scope fun Y => DE Y vx tv) (hsl : ∀ i ∈ sl, i ∈ own'.map (·.2)) (hsl1 : ∀ i ∈ sl1, i ∈ vs1) (hv1 : ∀ i ∈ vs1, i ∈ own'.map (·.2)) (hs : ∀ x, foldedSetIterable iter X.env x = pure x := by intro _; rfl) (hs1 : ∀ env x, foldedSetIterable iter1 env x = pure x := by intro _ _; rfl) :
    DE X (.DictComp kx vx [⟨tg, iter, [], 0⟩, ⟨tg1, iter1, [], 0⟩] scope pos) (tdDc2 ti ti1 g g1 tk tv (own'.map (·.2)) vs1) :=
  ⟨fun F B ps E σ H Qd Q hF r t k => Run.of (pe_dcX2 hu hc hN piR ok hv1 (fun s H C cl fp => (hg s H C cl fp).pg) ptsB piB (fun s H C cl fp => (hg1 s H C cl fp).pg) ptsB peB peB hs hs1) (dc2_link hi (glAny hg) hi1 (glAny hg1) hk hv hsl hsl1 hF r t k)⟩
end
end DL
set_option Elab.async false
set_option linter.all false
set_option maxRecDepth 100000
/-! DLLast: loops over an owned list; three copies at once; the dice's cells; what an __init__ stores. -/
namespace DL
open PySem PySem.Spec PyProof.Rows L2
/-- another base: it owns no more -/
theorem R.rebase {F : Fx} {B B' : Bas} {ps : List (D × V)} {E : DEnv} {σ : L2.St} {H : Hp} (r : R F B ps E σ H) (h0 : B'.H0 = B.H0) (hO : ∀ a, B'.O0 a → B.O0 a) (hd : ∀ a, F.de = some a → B'.O0 a) (hr : ∀ p ∈ B'.rs, B'.O0 p.2 ∧ F.de ≠ some p.2 ∧ Root F (own B E σ) H p.1 p.2) : R F B' ps E σ H := by
  have ho : ∀ a, own B' E σ a → own B E σ a := fun a z => z.elim (fun z => .inl (hO a z)) fun z => .inr z
  have st : ∀ {d v}, Is F (own B E σ) H d v → Is F (own B' E σ) H d v := fun q => q.mono (fun _ _ z _ => z) fun a _ _ z => ho a z
  have rs : ∀ {d p}, Root F (own B E σ) H d p → Root F (own B' E σ) H d p := fun q => q.mono (fun _ z => z) (fun _ _ z _ => z) fun a _ _ z => ho a z
  refine ⟨r.len, by rw [h0]; exact r.kept, fun a z => r.o0 a (hO a z), fun a e => ⟨hd a e, (r.dice a e).2.mono (fun _ z => z) (fun _ _ z _ => z) fun a _ _ z => ho a z⟩, fun i d e => ?_, fun i d e => ?_, r.inj, r.hid, fun q hq => ⟨(hr q hq).1, (hr q hq).2.1, rs (hr q hq).2.2⟩, fun q hq => st (r.pins q hq)⟩
  · obtain ⟨v, e1, q⟩ := r.sh i d e
    exact ⟨v, e1, st q⟩
  · obtain ⟨a, e1, q, n1, n2⟩ := r.ow i d e
    exact ⟨a, e1, rs q, by rw [h0]; exact n1, fun z => n2 (hO a z)⟩
section
variable {X : Cx} {pos : Pos}
/-! ### for .. in x, x an owned list that stands still meanwhile -/
def tdForOwn (i : Nat) (g : TDG) (tb : TDS) : TDS := fun Dd E => match E[i]? with
  | some (.ow (.l xs)) => ∀ p : Addr, tdForL g tb xs { nx := fun E' => E'[i]? = some (.hid (.ref p)) ∧ Dd.nx (E'.set i (.ow (.l xs))), rt := Dd.rt } (E.set i (.hid (.ref p)))
  | _ => False
theorem walks_own {F : Fx} {K : PySem.W.Frag} {a : Addr} {xs : List D} : Walks F (Itl K a) xs (fun O H => Root F O H (.l xs) a) := by
  intro i H' O hp hO
  obtain ⟨vs, h, hl⟩ := hp
  refine ⟨fun hi => ⟨vs, SqL.of h, by rw [← hl.length]; exact hi⟩, fun x e => ?_⟩
  obtain ⟨v, ev, hv⟩ := hl.get e
  refine ⟨⟨vs, v, SqL.of h, ev⟩, fun y H'' ⟨e1, e2⟩ => ?_⟩
  subst e1
  have := e2 vs (SqL.of h)
  rw [ev] at this
  cases this
  exact ⟨fun _ _ z => z, hv⟩
theorem ds_forOwn {i : Nat} {tg iter : Expr} {body : List Stmt} {g' : TG} {sl : List Nat} {g : TDG} {tb : TDS} (hp : PassesOwn (model X.prog X.w) X.A X.env X.xe) (hc : X.calm = true) (hi : PE X iter (tVar i)) (hg : DG X tg g' sl g) (hb : DSs X body tb)
    (hs : ∀ x, foldedSetIterable iter X.env x = pure x := by intro _; rfl) : DS X (.For tg iter body [] pos) (tdForOwn i g tb) := by
  refine ⟨fun F B ps E σ H Dd D' hF r t l => RunS.of (ps_for hp hc (pi_list hi) hg.pg pssR hs) ?_⟩
  unfold tdForOwn at t
  split at t
  · rename_i xs e
    obtain ⟨p, es, ⟨vs, ha, hl⟩, n0, n1⟩ := r.ow i _ e
    have hr : ∀ q ∈ B.rs, B.O0 q.2 := fun q hq => (r.rts q hq).1
    have r1 := r.hide e es
    refine ⟨.ref p, es, p, rfl, ⟨vs, SqL.of ha⟩, ?_⟩
    refine for_core (Src := fun O H => Root F O H (.l xs) p) hF r1 (fun E' σ' H' r' => (r'.rts (.l xs, p) List.mem_cons_self).2.2) walks_own hg.ln hb (t p) ⟨fun E' σ' H' q r' => l.nx _ _ _ q.2 (r'.unhide q.1 n0 n1 hr), fun d v H' q h => l.rt d v H' q ⟨h.1, fun a z => (h.2.1 a z).mono (fun _ z => z) (fun _ _ z _ => z) fun _ _ _ z => .inl z, h.2.2.mono (fun _ _ z _ => z) fun _ _ _ z => .inl z⟩, fun _ _ _ q _ => q.elim, fun _ _ _ q _ => q.elim⟩
  · exact t.elim
end
/-! ### a, b, c = [new lists] -/
abbrev atsD (as : List (D × Addr)) : List D := as.map fun x => D.at x.2
/-- the list under way at p, its new items as -/
def Bas.many (B : Bas) (p : Addr) (as : List (D × Addr)) : Bas := { H0 := B.H0, O0 := fun a => B.O0 a ∨ a = p ∨ a ∈ as.map (·.2), rs := (.l (atsD as), p) :: (as ++ B.rs) }
/-- the new items apart from one another -/
structure Many (F : Fx) (B : Bas) (p : Addr) (as : List (D × Addr)) : Prop where
  top : New F B p
  its : ∀ x ∈ as, New F B x.2 ∧ x.2 ≠ p
  nd : (as.map (·.2)).Nodup
theorem ats_is {F : Fx} {O : Addr → Prop} {H : Hp} : ∀ as : List (D × Addr), IsL F O H (atsD as) (as.map fun x => V.ref x.2)
  | [] => .nil
  | _ :: as => .cons .at (ats_is as)
theorem ats_eq {F : Fx} {O : Addr → Prop} {H : Hp} : ∀ {as : List (D × Addr)} {vs : List V}, IsL F O H (atsD as) vs → vs = as.map fun x => V.ref x.2
  | [], _, .nil => rfl
  | _ :: as, _, .cons h t => by
    cases h
    rw [ats_eq (as := as) t]
    rfl
/-- one more item -/
theorem Many.more {F : Fx} {B : Bas} {ps : List (D × V)} {E : DEnv} {σ : L2.St} {H : Hp} {p a : Addr} {as : List (D × Addr)} {d : D} (m : Many F B p as) (r : R F ((B.many p as).plus a) ps E σ H) (rt : Root F (own ((B.many p as).plus a) E σ) H d a) (n0 : B.H0 a = none) (nO : ¬ own (B.many p as) E σ a) (nd : F.de ≠ some a) :
    Many F B p (as ++ [(d, a)]) ∧ H p = some (.lst (as.map fun x => V.ref x.2)) ∧ R F (B.many p (as ++ [(d, a)])) ps E σ (upd H p (.lst ((as.map fun x => V.ref x.2) ++ [.ref a]))) := by
  have nO' : ¬ (B.many p as).O0 a := fun z => nO (.inl z)
  have nB : ¬ B.O0 a := fun z => nO' (.inl z)
  have nap : a ≠ p := fun z => nO' (.inr (.inl z))
  have naa : a ∉ as.map (·.2) := fun z => nO' (.inr (.inr z))
  have em : ∀ b, b ∈ (as ++ [(d, a)]).map (·.2) ↔ b ∈ as.map (·.2) ∨ b = a := fun b => by rw [List.map_append, List.mem_append]; simp
  have m' : Many F B p (as ++ [(d, a)]) := ⟨m.top, fun x hx => by
    rcases List.mem_append.mp hx with h | h
    · exact m.its x h
    · rw [List.mem_singleton.mp h]; exact ⟨⟨n0, nB, nd, m.top.rs⟩, nap⟩, by
    rw [List.map_append, List.nodup_append]
    exact ⟨m.nd, List.nodup_cons.mpr ⟨by simp, List.nodup_nil⟩, fun x hx y hy e => by
      have hy : y = a := by simpa using hy
      exact naa (hy ▸ e ▸ hx)⟩⟩
  obtain ⟨vs, hp, hl⟩ := (r.rts (.l (atsD as), p) List.mem_cons_self).2.2
  have evs := ats_eq hl
  subst evs
  refine ⟨m', hp, ?_⟩
  -- without the list's own root it can be written
  have r1 : R F { H0 := B.H0, O0 := fun b => (B.O0 b ∨ b = p ∨ b ∈ as.map (·.2)) ∨ b = a, rs := (d, a) :: (as ++ B.rs) } ps E σ H := r.rebase rfl (fun _ z => z) (fun b e => (r.dice b e).1) fun q hq => by
    rcases List.mem_cons.mp hq with z | hq
    · subst z; exact ⟨.inr rfl, nd, rt⟩
    · exact r.rts q (List.mem_cons_of_mem _ hq)
  have np : F.de ≠ some p := m.top.de
  have r2 := r1.writeO (p := p) (o := .lst ((as.map fun x => V.ref x.2) ++ [.ref a])) (.inl (.inr (.inl rfl))) m.top.h0 np (fun i d' e es => by
    obtain ⟨b, e1, _, _, n2⟩ := r1.ow i d' e
    rw [es] at e1; cases e1
    exact n2 (.inl (.inr (.inl rfl)))) fun q hq z => by
      rcases List.mem_cons.mp hq with e | hq
      · subst e; exact nap z
      · rcases List.mem_append.mp hq with h | h
        · exact (m.its q h).2 z
        · exact m.top.o0 (z ▸ m.top.rs q h)
  refine r2.rebase rfl (fun b z => ?_) (fun b e => ?_) fun q hq => ?_
  · rcases z with z | z | z
    · exact .inl (.inl z)
    · exact .inl (.inr (.inl z))
    · rcases (em b).mp z with z | z
      · exact .inl (.inr (.inr z))
      · exact .inr z
  · rcases (r2.dice b e).1 with (z | z | z) | z
    · exact .inl z
    · exact .inr (.inl z)
    · exact .inr (.inr ((em b).mpr (.inl z)))
    · exact .inr (.inr ((em b).mpr (.inr z)))
  · rcases List.mem_cons.mp hq with z | hq
    · subst z
      refine ⟨.inr (.inl rfl), np, _, upd_same, ?_⟩
      have := ats_is (F := F) (O := own { H0 := B.H0, O0 := fun b => (B.O0 b ∨ b = p ∨ b ∈ as.map (·.2)) ∨ b = a, rs := (d, a) :: (as ++ B.rs) } E σ) (H := upd H p (.lst ((as.map fun x => V.ref x.2) ++ [.ref a]))) (as ++ [(d, a)])
      rw [List.map_append] at this
      exact this
    · have hq' : q ∈ (d, a) :: (as ++ B.rs) := by
        rcases List.mem_append.mp hq with h | h
        · rcases List.mem_append.mp h with h | h
          · exact List.mem_cons_of_mem _ (List.mem_append_left _ h)
          · rw [List.mem_singleton.mp h]; exact List.mem_cons_self
        · exact List.mem_cons_of_mem _ (List.mem_append_right _ h)
      obtain ⟨a1, a2, a3⟩ := r2.rts q hq'
      refine ⟨?_, a2, a3⟩
      rcases a1 with (z | z | z) | z
      · exact .inl z
      · exact .inr (.inl z)
      · exact .inr (.inr ((em q.2).mpr (.inl z)))
      · exact .inr (.inr ((em q.2).mpr (.inr z)))
/-- three new items, handed to three slots -/
theorem Many.three {F : Fx} {B : Bas} {ps : List (D × V)} {E : DEnv} {σ : L2.St} {H : Hp} {p a b c : Addr} {d1 d2 d3 : D} {i j k : Nat} (m : Many F B p [(d1, a), (d2, b), (d3, c)]) (r : R F (B.many p [(d1, a), (d2, b), (d3, c)]) ps E σ H) :
    R F B ps (((E.set i (.ow d1)).set j (.ow d2)).set k (.ow d3)) (((σ.set i (some (.ref a))).set j (some (.ref b))).set k (some (.ref c))) H := by
  have na := m.its (d1, a) (by simp)
  have nb := m.its (d2, b) (by simp)
  have nc := m.its (d3, c) (by simp)
  have nd := m.nd
  simp only [List.map_cons, List.map_nil, List.nodup_cons, List.mem_cons, List.not_mem_nil, or_false, not_or] at nd
  obtain ⟨⟨nab, nac⟩, nbc, _⟩ := nd
  have hm : ∀ x, x ∈ ([(d1, a), (d2, b), (d3, c)] : List (D × Addr)).map (·.2) ↔ x = a ∨ x = b ∨ x = c := fun x => by simp
  have ra := r.rts (d1, a) (by simp [Bas.many])
  have rb := r.rts (d2, b) (by simp [Bas.many])
  have rc := r.rts (d3, c) (by simp [Bas.many])
  have dB : ∀ x, F.de = some x → B.O0 x := fun x e => by
    rcases (r.dice x e).1 with z | z | z
    · exact z
    · exact absurd (z ▸ e) m.top.de
    · rcases (hm x).mp z with z | z | z
      · exact absurd (z ▸ e) na.1.de
      · exact absurd (z ▸ e) nb.1.de
      · exact absurd (z ▸ e) nc.1.de
  have rB : ∀ q ∈ B.rs, F.de ≠ some q.2 ∧ Root F (own (B.many p [(d1, a), (d2, b), (d3, c)]) E σ) H q.1 q.2 := fun q hq => (r.rts q (List.mem_cons_of_mem _ (List.mem_append_right _ hq))).2
  have nown : ∀ {x : Addr}, (B.many p [(d1, a), (d2, b), (d3, c)]).O0 x → ∀ (i : Nat) (d' : D), E[i]? = some (.ow d') → σ[i]? ≠ some (some (.ref x)) := fun hx i d' e es => by
    obtain ⟨y, e1, _, _, n2⟩ := r.ow i d' e
    rw [es] at e1; cases e1
    exact n2 hx
  -- the three as roots
  have r1 : R F (((B.root d3 c).root d2 b).plus a) ps E σ H := r.rebase rfl (fun x z => ?_) (fun x e => .inl (.inl (.inl (dB x e)))) fun q hq => ?_
  · have oa : ¬ own ((B.root d3 c).root d2 b) E σ a := by
      rintro (((z | z) | z) | ⟨i, d', e, es⟩)
      · exact na.1.o0 z
      · exact nac z
      · exact nab z
      · exact nown (.inr (.inr ((hm a).mpr (.inl rfl)))) i d' e es
    have root1 : Root F (own (((B.root d3 c).root d2 b).plus a) E σ) H d1 a := ra.2.2.mono (fun _ z => z) (fun _ _ z _ => z) fun x _ _ z => ?_
    · have r2 := r1.put_fr (i := i) root1 na.1.h0 oa na.1.de fun q hq => by
        rcases List.mem_cons.mp hq with z | hq
        · subst z; exact .inr rfl
        · rcases List.mem_cons.mp hq with z | hq
          · subst z; exact .inl (.inr rfl)
          · exact .inl (.inl (m.top.rs q hq))
      obtain ⟨r3, root2⟩ := r2.ofRoot
      have f2 := (show New F (B.root d3 c) b from ⟨nb.1.h0, fun z => z.elim nb.1.o0 nbc, nb.1.de, fun q hq => by
        rcases List.mem_cons.mp hq with z | hq
        · subst z; exact .inr rfl
        · exact .inl (m.top.rs q hq)⟩).fresh r2
      have r4 := r3.put_fr (i := j) root2 nb.1.h0 f2.no nb.1.de f2.rs
      obtain ⟨r5, root3⟩ := r4.ofRoot
      have f3 := nc.1.fresh r4
      exact r5.put_fr (i := k) root3 nc.1.h0 f3.no nc.1.de f3.rs
    · rcases z with (((z | z) | z) | z) | z
      · exact .inl (.inl z)
      · exact .inl (.inr (.inr ((hm x).mpr (.inr (.inr z)))))
      · exact .inl (.inr (.inr ((hm x).mpr (.inr (.inl z)))))
      · exact .inl (.inr (.inr ((hm x).mpr (.inl z))))
      · exact .inr z
  · rcases z with ((z | z) | z) | z
    · exact .inl z
    · exact .inr (.inr ((hm x).mpr (.inr (.inr z))))
    · exact .inr (.inr ((hm x).mpr (.inr (.inl z))))
    · exact .inr (.inr ((hm x).mpr (.inl z)))
  · rcases List.mem_cons.mp hq with z | hq
    · subst z; exact ⟨.inl (.inr rfl), rb.2⟩
    · rcases List.mem_cons.mp hq with z | hq
      · subst z; exact ⟨.inl (.inl (.inr rfl)), rc.2⟩
      · exact ⟨.inl (.inl (.inl (m.top.rs q hq))), rB q hq⟩
section
variable {X : Cx} {elt tg iter : Expr} {scope : Scope} {own' : List (Str × Nat)} {te : TDE} {ti : TDI} {g' : TG} {g : TDG} {sl vs : List Nat} {pos pos' p1 p2 p3 tpos : Pos} {i j k kt : Nat}
def tdCopyL (g : TDG) (te : TDE) (E : DEnv) : List D → List D → (List D → Prop) → Prop
  | [], acc, Q => Q acc
  | x :: xs, acc, Q => g x E fun E' => te E' fun d f => f = .fr ∧ acc.length < 100 ∧ tdCopyL g te E xs (acc ++ [d]) Q
def tdCopy3 (i j k : Nat) (vs : List Nat) (ti : TDI) (g : TDG) (te : TDE) : TDS := fun Dd E => unAt E vs ∧ ti E fun xs => tdCopyL g te E xs [] fun ys => ∃ d1 d2 d3, ys = [d1, d2, d3] ∧ Dd.nx (((E.set i (.ow d1)).set j (.ow d2)).set k (.ow d3))
theorem copy_link {F : Fx} {B : Bas} {ps : List (D × V)} {E : DEnv} {σ : L2.St} {H : Hp} {C : List D → Prop} {Q : VK} (hi : DI X tg iter ti) (hg : GLink X g' sl g) (he : InBlk X scope fun Y => DE Y elt te) (hsl : ∀ i ∈ sl, i ∈ vs) (hF : FOk X F) (r : R F B ps E σ H) (un : unAt E vs) (t : ti E fun xs => tdCopyL g te E xs [] C)
    (fin : ∀ p as H', C (as.map (·.1)) → Many F B p as → R F (B.many p as) ps E σ H' → Q (.ref p) H') : tLc (fun σ H Rk => RunI X tg iter σ H Rk) g' (ttB X scope []) (teB X scope elt) vs σ H Q := by
  refine hi.run F B ps E σ H _ _ hF r t fun xs J H1 ps1 q r1 w p hp => ?_
  obtain ⟨r2, f2⟩ := (r1.laid (d := .l []) (o := .lst []) hp ⟨[], upd_same, .nil⟩).fresh
  have m0 : Many F B p [] := ⟨f2.new, (fun x hx => nomatch hx), List.nodup_nil⟩
  have r2' : R F (B.many p []) (ps1 ++ ps) E σ (upd H1 p (.lst [])) := r2.rebase rfl (fun b z => by
    rcases z with z | z | z
    · exact .inl z
    · exact .inr z
    · cases z) (fun b e => (r2.dice b e).1.elim .inl fun z => .inr (.inl z)) fun q hq => by
      obtain ⟨a1, a2, a3⟩ := r2.rts q hq
      exact ⟨a1.elim .inl fun z => .inr (.inl z), a2, a3⟩
  refine ⟨fun i m H => m = xs.length - i ∧ i ≤ xs.length ∧ ∃ as, Many F B p as ∧ R F (B.many p as) (ps1 ++ ps) E σ H ∧ tdCopyL g te E (xs.drop i) (as.map (·.1)) C, ⟨_, rfl, Nat.zero_le _, [], m0, r2', q⟩, ?_⟩
  rintro i m H3 ⟨rfl, hi, as, mm, r3, q3⟩
  obtain ⟨hstop, hgo⟩ := w i H3 _ (fun z hz => r3.pins z (List.mem_append_left _ hz)) fun a h => r3.own_there h
  by_cases hlt : i < xs.length
  · obtain ⟨go, yl⟩ := hgo xs[i] (List.getElem?_eq_getElem hlt)
    rw [List.drop_eq_getElem_cons hlt] at q3
    refine .inr ⟨go, fun H' => ∃ as, Many F B p as ∧ R F (B.many p as) (ps1 ++ ps) E σ H' ∧ tdCopyL g te E (xs.drop (i + 1)) (as.map (·.1)) C, fun H' ⟨a, m', r', q'⟩ => ⟨xs.length - (i + 1), by omega, rfl, hlt, a, m', r', q'⟩, fun x H' y => ?_⟩
    obtain ⟨hk, hx⟩ := yl x H' y
    have r4 := r3.grow hk
    have r5 := wiped (vs := vs) un r4
    have hx' : Is F (own (B.many p as) E (L2.wipe σ vs)) H' xs[i] x := hx.mono (fun _ _ z _ => z) fun a _ _ z => by
      rcases z with z | ⟨j, d, e1, e2⟩
      · exact .inl z
      · have : j ∉ vs := fun z => by
          have := un j z
          rw [e1] at this; cases this
        rw [wipe_get, if_neg this] at e2
        exact .inr ⟨j, d, e1, e2⟩
    refine hg F _ _ E _ H' _ x _ _ hF r5 hx' q3 fun E' σ' q5 r6 o6 => ⟨?_, fun s0 H0 C cl fp pins0 s1 I1 => pts_nil.run pins0 s1 σ' H' _ I1 ?_⟩
    · rw [(o6.wipe hsl).2]
      apply List.ext_getElem?
      intro j
      rw [wipe_get, wipe_get, wipe_length]
      by_cases hj : j ∈ vs
      · rw [if_pos hj, if_pos hj]
      · rw [if_neg hj, if_neg hj]
    · simp only [tYes, if_true]
      intro s0 H0 C cl fp
      refine (he s0 H0 C cl fp).run F _ _ E' σ' H' _ _ (fOk_blk hF) r6 q5 fun d f v H5 q7 pp => ?_
      obtain ⟨rfl, hz, q7⟩ := q7
      obtain ⟨a, rfl, r8, rt, n0, nO, nd, _⟩ := pp
      obtain ⟨mm', hp', r9⟩ := mm.more r8 rt n0 nO nd
      refine ⟨_, hp', ?_, as ++ [(d, a)], mm', unwiped un o6 hsl r9, by rw [List.map_append]; exact q7⟩
      rw [List.length_map] at hz ⊢
      rw [sizeLine_eq]
      omega
  · have e : i = xs.length := by omega
    subst e
    rw [List.drop_length] at q3
    exact .inl ⟨hstop (Nat.le_refl _), fin p as H3 q3 mm (r3.mem_pins fun z hz => r3.pins z (List.mem_append_right _ hz))⟩
theorem ds_copy3 {x y z : Str} (hc : X.calm = true) (hN : X.N.Nodup) (hx : X.N[i]? = some x) (hy : X.N[j]? = some y) (hz : X.N[k]? = some z) (lx : X.env.scope.names.lookup x = some .local) (ly : X.env.scope.names.lookup y = some .local) (lz : X.env.scope.names.lookup z = some .local) (ok : BlkOk X.N X.env.scope scope own') (hi : DI X tg iter ti) (hg : InBlk X scope fun Y => DG Y tg g' sl g) (he : InBlk X scope fun Y => DE Y elt te) (hsl : ∀ i ∈ sl, i ∈ own'.map (·.2))
    (hs : ∀ x, foldedSetIterable iter X.env x = pure x := by intro _; rfl)
    (h0 : swapsWithSole [.Tuple [.Name x p1, .Name y p2, .Name z p3] kt tpos] (.ListComp elt [⟨tg, iter, [], 0⟩] scope pos') pos.line X.env = pure false := by rfl) (hw : swappedStores [.Tuple [.Name x p1, .Name y p2, .Name z p3] kt tpos] (.ListComp elt [⟨tg, iter, [], 0⟩] scope pos') X.env = pure none := by rfl)
    (h1 : (assignEach [.Tuple [.Name x p1, .Name y p2, .Name z p3] kt tpos] X.env).map (·.2) = [assign (.Tuple [.Name x p1, .Name y p2, .Name z p3] kt tpos) X.env] := by rfl) (h2 : (assignEach [.Name x p1, .Name y p2, .Name z p3] X.env).map (·.2) = assign (.Name x p1) X.env :: (assignEach [.Name y p2, .Name z p3] X.env).map (·.2) := by rfl) (h3 : (assignEach [.Name y p2, .Name z p3] X.env).map (·.2) = assign (.Name y p2) X.env :: (assignEach [.Name z p3] X.env).map (·.2) := by rfl) (h4 : (assignEach [.Name z p3] X.env).map (·.2) = assign (.Name z p3) X.env :: (assignEach [] X.env).map (·.2) := by rfl)
    (h5 : (assignEach [.Name x p1, .Name y p2, .Name z p3] X.env).length = 3 := by rfl) (h6 : (assignEach [.Name x p1, .Name y p2, .Name z p3] X.env).findIdx? (·.1) = none := by rfl) :
    DS X (.Assign [.Tuple [.Name x p1, .Name y p2, .Name z p3] kt tpos] (.ListComp elt [⟨tg, iter, [], 0⟩] scope pos') pos) (tdCopy3 i j k (own'.map (·.2)) ti g te) :=
  ⟨fun F B ps E σ H Dd D' hF r t l => RunS.of (ps_asg (pe_lc hc hN piR ok (fun s H C cl fp => (hg s H C cl fp).pg) ptsB peB hs) (pg_unl hc (pgs_cons (pg_name hN hx (.inl lx) (.inr lx)) (pgs_cons (pg_name hN hy (.inl ly) (.inr ly)) (pgs_cons (pg_name hN hz (.inl lz) (.inr lz)) pgs_nil h4) h3) h2) h5 h6) h0 hw h1) (by
    obtain ⟨un, t⟩ := t
    refine copy_link hi (glAny hg) he hsl hF r un t fun p as H' c m r' => ?_
    obtain ⟨d1, d2, d3, e, q⟩ := c
    match as, e with
    | [(_, a), (_, b), (_, c)], rfl =>
      obtain ⟨vs, hp, hl⟩ := (r'.rts (.l (atsD _), p) List.mem_cons_self).2.2
      have evs := ats_eq hl
      subst evs
      refine ⟨p, _, rfl, SqL.of hp, rfl, ?_⟩
      exact ⟨_, _, rfl, _, _, rfl, _, _, rfl, rfl, l.nx _ _ H' q (m.three r')⟩)⟩
end
end DL
set_option Elab.async false
set_option linter.all false
set_option maxRecDepth 100000
/-! DLDice: a body whose first argument is the dice: its list is an owned one meanwhile. -/
namespace DL
open PySem PySem.Spec PyProof.Rows L2
/-- what a body reaches: ahead; a result with the slots behind it -/
abbrev TDR := (DEnv → Prop) → (D → DEnv → Prop) → DEnv → Prop
structure LinksR (F : Fx) (B : Bas) (ps : List (D × V)) (p : Addr) (nx : DEnv → Prop) (rt : D → DEnv → Prop) (D' : Ends) : Prop where
  nx : ∀ E σ H, nx E → R F B ps E σ H → σ[0]? = some (some (.ref p)) → D'.nx σ H
  rt : ∀ d f v E σ H, rt d E → Post F B ps E σ d f v H → σ[0]? = some (some (.ref p)) → D'.rt v H
structure DSR (X : Cx) (st : Stmt) (t : TDR) : Prop where
  run : ∀ (F : Fx) (B : Bas) (ps : List (D × V)) (p : Addr) (E : DEnv) (σ : L2.St) (H : Hp) (nx : DEnv → Prop) (rt : D → DEnv → Prop) (D' : Ends), FOk X F → R F B ps E σ H → σ[0]? = some (some (.ref p)) → t nx rt E → LinksR F B ps p nx rt D' → RunS X st σ H D'
structure DSRs (X : Cx) (st : List Stmt) (t : TDR) : Prop where
  run : ∀ (F : Fx) (B : Bas) (ps : List (D × V)) (p : Addr) (E : DEnv) (σ : L2.St) (H : Hp) (nx : DEnv → Prop) (rt : D → DEnv → Prop) (D' : Ends), FOk X F → R F B ps E σ H → σ[0]? = some (some (.ref p)) → t nx rt E → LinksR F B ps p nx rt D' → RunSs X st σ H D'
section
variable {X : Cx} {st : Stmt} {rest : List Stmt} {t u : TDR} {e o ik value : Expr} {te tk tv : TDE} {pos pos' : Pos} {i : Nat}
def trNext : TDR := fun nx _ E => nx E
def trSeq (t u : TDR) : TDR := fun nx rt E => t (u nx rt) rt E
def trSet (i : Nat) (te : TDE) : TDR := fun nx _ E => te E fun d f => f.ok = true ∧ nx (setSl E i d f)
def trRet (te : TDE) : TDR := fun _ rt E => te E fun d _ => rt d E
def trIf (c : TDT) (t u : TDR) : TDR := fun nx rt E => c E fun b => if b = true then t nx rt E else u nx rt E
theorem dsrs_nil : DSRs X [] trNext := ⟨fun F B ps p E σ H nx rt D' hF r h0 t l => RunSs.of pss_nil (l.nx E σ H t r h0)⟩
theorem dsrs_cons (h1 : DSR X st t) (h2 : DSRs X rest u) : DSRs X (st :: rest) (trSeq t u) :=
  ⟨fun F B ps p E σ H nx rt D' hF r h0 q l => RunSs.of (pss_cons psR pssR) (h1.run F B ps p E σ H _ _ _ hF r h0 q ⟨fun E' σ' H' q' r' h0' => h2.run F B ps p E' σ' H' nx rt D' hF r' h0' q' l, l.rt⟩)⟩
theorem dsrs_one (h1 : DSR X st t) : DSRs X [st] t := ⟨fun F B ps p E σ H nx rt D' hF r h0 q l => RunSs.of (pss_one psR) (h1.run F B ps p E σ H _ _ _ hF r h0 q l)⟩
theorem dsr_ret (he : DE X e te) : DSR X (.Return (some e) pos) (trRet te) := ⟨fun F B ps p E σ H nx rt D' hF r h0 q l => RunS.of (ps_ret peR) (he.run F B ps E σ H _ _ hF r q fun d f v H' q p => l.rt d f v E σ H' q p h0)⟩
theorem dsr_if {c : Expr} {a b : List Stmt} {tc : TDT} (hc : DT X c tc) (ha : DSRs X a t) (hb : DSRs X b u) : DSR X (.If c a b pos) (trIf tc t u) :=
  ⟨fun F B ps p E σ H nx rt D' hF r h0 q l => RunS.of (ps_if ptR pssR pssR) (hc.run F B ps E σ H _ _ hF r q fun d H1 q r1 => by
    cases d with
    | true => rw [if_pos rfl] at q ⊢; exact ha.run F B ps p E σ H1 nx rt D' hF r1 h0 q l
    | false => rw [if_neg Bool.false_ne_true] at q ⊢; exact hb.run F B ps p E σ H1 nx rt D' hF r1 h0 q l)⟩
theorem dsr_set {x : Str} (h1 : i ≠ 0) (hN : X.N.Nodup) (hi : X.N[i]? = some x) (hx : Loc X.env.scope x) (he : DE X e te) (hs : swapsWith e (some (.Name x pos')) pos.line X.env = pure false := by rfl) (hf : X.fn x = true ∨ X.env.scope.names.lookup x = some .local := by first | exact .inl rfl | exact .inr rfl | assumption) :
    DSR X (.Assign [.Name x pos'] e pos) (trSet i te) :=
  ⟨fun F B ps p E σ H nx rt D' hF r h0 t l => RunS.of (ps_set hN hi hx peR hs hf) (he.run F B ps E σ H _ _ hF r t fun d f v H' q p => l.nx _ _ H' q.2 (p.put q.1) (by rw [List.getElem?_set_ne h1]; exact h0))⟩
/-- x[k] = v, x the list of slot 0 -/
def trLSet (tv tk : TDE) : TDR := fun (nx : DEnv → Prop) _ (E : DEnv) => tv E fun dv fv => fv.ok = true ∧ match E[(0 : Nat)]? with
  | some (.ow (.l xs)) => tk E fun dk _ => match dk with
    | .a (.int k) => ∃ j, ixN xs.length k = some j ∧ nx (E.set 0 (.ow (.l (xs.set j dv))))
    | _ => False
  | _ => False
theorem dsr_lset (hp : PE X o (tVar 0)) (hk : DE X ik tk) (hv : DE X value tv) (ha : ∀ v, assign (.Subscript o ik pos') X.env v = (do
      let ov ← holding [v] (eval o X.env)
      let iv ← holding [v, ov] (eval ik X.env)
      standAt pos'
      holding [v, ov, iv] (setItem ov iv v)
      release [v, ov, iv] []) := by intro _; rfl) (hs : swapsWithSole [.Subscript o ik pos'] value pos.line X.env = pure false := by rfl) (hw : swappedStores [.Subscript o ik pos'] value X.env = pure none := by rfl)
    (h1 : (assignEach [.Subscript o ik pos'] X.env).map (·.2) = [assign (.Subscript o ik pos') X.env] := by rfl) : DSR X (.Assign [.Subscript o ik pos'] value pos) (trLSet tv tk) :=
  ⟨fun F B ps p0 E σ H nx rt D' hF r h0 t l => RunS.of (ps_asg peR (pg_sub hp peR set_list ha) hs hw h1) (hv.run F B ps E σ H _ _ hF r t fun dv fv v H1 q pp => by
    obtain ⟨r1, hdv⟩ := pp.sh q.1
    obtain ⟨_, q⟩ := q
    split at q
    · rename_i xs ex
      obtain ⟨p, vs, e1, h1, l1, _⟩ := r1.owL ex
      refine ⟨.ref p, e1, hk.run F B _ E σ H1 _ _ hF (r1.pin hdv) q fun dk fk k H2 q2 p2 => ?_⟩
      obtain ⟨r2, w2⟩ := p2.val
      obtain ⟨r3, hdv'⟩ := r2.unpin
      split at q2
      · rename_i kk
        obtain ⟨ek, _⟩ := w2.atm r2
        obtain ⟨j, ej, q2⟩ := q2
        obtain ⟨p', us, e1', h1', l1', _⟩ := r3.owL ex
        rw [e1] at e1'; cases e1'
        exact ⟨p, us, kk, j, rfl, ek, h1', by rw [← l1'.length]; exact ej, l.nx _ _ _ q2 (r3.setL ex e1 (l1'.set j hdv')) h0⟩
      · exact q2.elim
    · exact q.elim)⟩
end
/-- the dice's list as data -/
def diceD (ns : List Int) (a b c d : Int) : D := .l [.l (ns.map D.int), D.int a, D.int b, D.int c, D.int d]
/-- a dice, owned by slot 0 -/
def diceE (n : Nat) (ns : List Int) (a b c d k : Int) : DEnv := .ow (diceD ns a b c d) :: .sh (D.int k) :: List.replicate (n - 2) .un
section
variable {P : Program} {w : World} {K : PySem.W.Frag} {mg : Str → Option Value} {base : Heap}
/-- what a draw promises -/
def ppDraw : PP := fun ds Q => ∃ k : Int, ds = [.die, D.int k] ∧ 1 ≤ k ∧ k ≤ 1000 ∧ ∀ n : Int, 0 ≤ n → n < k → Q (D.int n)
theorem ok_draw {x qual : Str} {st : Stmt} {f : Addr} {fd : FuncData} {N : List Str} {p1 p2 : Str} {k : Nat} {t : TDR} (Fn : Fun K x qual st f fd) (S : FnScope N [p1, p2] (defScope st)) (hps : 2 ≤ N.length)
    (hbody : ∀ (cdv : Value) (A : Around) (outer : List Env) (s : Shared) (H : Hp) (E : XK), Room k (A.deeper (envOfC qual (defScope st) s.heap.objs.size f cdv)) → DSRs (cxOf CX0 P w K mg base N qual (defScope st) f cdv A outer s H E).nox (defBody st) t)
    (hpp : ∀ (ns : List Int) (a b c d m : Int), (∀ n ∈ ns, 0 ≤ n) → 0 ≤ a → 0 ≤ b → 0 ≤ c → 0 ≤ d → 1 ≤ m → m ≤ 1000 → t (fun _ => False) (fun r E => (∃ n : Int, r = D.int n ∧ 0 ≤ n ∧ n < m) ∧ ∃ a b c d : Int, 0 ≤ a ∧ 0 ≤ b ∧ 0 ≤ c ∧ 0 ≤ d ∧ E[0]? = some (.ow (diceD ns a b c d))) (diceE N.length ns a b c d m)) : FnOk P w K mg base CX0 (k + 1) f fd [p1, p2] (spD w K ppDraw) := by
  refine Fn.ok S (fun vs H Q E h => ?_) (fun cdv A outer s H vs Q E hr h => ?_)
  · obtain ⟨de, O, ds, Qd, _, _, hl, ⟨m, rfl, _⟩, _⟩ := h
    exact hl.length.symm
  · obtain ⟨de, O, ds, Qd, hO, hd, hl, ⟨m, rfl, hm, hm2, hq⟩, kk⟩ := h
    refine ⟨_, pssR, ?_⟩
    cases hl with
    | cons h1 hl =>
      cases hl with
      | cons h2 hl =>
        cases hl
        cases h1 with
        | die e0 =>
        rename_i p
        have e0 : de = some p := e0
        cases h2
        obtain ⟨Op, c, ns, a1, a2, a3, a4, hp, hcl, nn, b1, b2, b3, b4⟩ := hd p e0
        have r : R ⟨w, K, none⟩ ⟨fun b => if b = p then none else H b, fun b => O b ∧ b ≠ p, []⟩ [] (diceE N.length ns a1 a2 a3 a4 m) (L2.start N [.ref p, .int m]) H := by
          have own_O : ∀ b, own ⟨fun b => if b = p then none else H b, fun b => O b ∧ b ≠ p, []⟩ (diceE N.length ns a1 a2 a3 a4 m) (L2.start N [.ref p, .int m]) b → O b := fun b z => by
            rcases z with z | ⟨i, d, e1, e2⟩
            · exact z.1
            · match i, e1, e2 with
              | 0, _, e2 =>
                have e2 : some (some (V.ref p)) = some (some (.ref b)) := e2
                cases e2; exact Op
              | 1, e1, _ => have e1 : some (Slot.sh (D.int m)) = some (.ow d) := e1; cases e1
              | i + 2, e1, _ =>
                have e1 : (List.replicate (N.length - 2) Slot.un)[i]? = some (.ow d) := e1
                have := List.mem_of_getElem? e1
                rw [List.mem_replicate] at this
                cases this.2
          have only : ∀ {i : Nat} {s : Slot}, (diceE N.length ns a1 a2 a3 a4 m)[i]? = some s → (i = 0 ∧ s = .ow (diceD ns a1 a2 a3 a4)) ∨ (i = 1 ∧ s = .sh (D.int m)) ∨ s = .un := fun {i s} e => by
            match i, e with
            | 0, e => have e : some (Slot.ow (diceD ns a1 a2 a3 a4)) = some s := e; cases e; exact .inl ⟨rfl, rfl⟩
            | 1, e => have e : some (Slot.sh (D.int m)) = some s := e; cases e; exact .inr (.inl ⟨rfl, rfl⟩)
            | i + 2, e =>
              have e : (List.replicate (N.length - 2) Slot.un)[i]? = some s := e
              have := List.mem_of_getElem? e
              rw [List.mem_replicate] at this
              exact .inr (.inr this.2)
          refine ⟨?_, fun a o e _ => ?_, fun a h => hO a h.1, fun a e => (nomatch e), fun i d e => ?_, fun i d e => ?_, fun i j d d' a e1 e2 _ _ => ?_, fun i v e => ?_, fun q hq => (nomatch hq), fun q hq => (nomatch hq)⟩
          · unfold diceE L2.start
            simp only [List.length_cons, List.length_replicate, List.length_append, List.length_map, List.length_nil]
            omega
          · have e : (if a = p then none else H a) = some o := e
            split at e
            · cases e
            · exact e
          · rcases only e with ⟨_, z⟩ | ⟨rfl, z⟩ | z
            · cases z
            · cases z; exact ⟨.int m, rfl, .a rfl⟩
            · cases z
          · rcases only e with ⟨rfl, z⟩ | ⟨_, z⟩ | z
            · cases z
              refine ⟨p, rfl, ⟨_, hp, ?_⟩, if_pos rfl, fun z => z.2 rfl⟩
              refine .cons ?_ (.cons (.a rfl) (.cons (.a rfl) (.cons (.a rfl) (.cons (.a rfl) .nil))))
              cases hcl with
              | l g1 g2 g3 =>
                have := g3.of_ints
                subst this
                exact .l g1 (fun z => g2 (own_O _ z)) .ints
            · cases z
            · cases z
          · rcases only e1 with ⟨rfl, _⟩ | ⟨_, z⟩ | z
            · rcases only e2 with ⟨rfl, _⟩ | ⟨_, z⟩ | z
              · rfl
              · cases z
              · cases z
            · cases z
            · cases z
          · rcases only e with ⟨_, z⟩ | ⟨_, z⟩ | z <;> cases z
        refine (hbody cdv A outer s H E hr).run ⟨w, K, none⟩ _ _ p _ _ H _ _ _ ⟨rfl, rfl⟩ r rfl (hpp ns a1 a2 a3 a4 m nn b1 b2 b3 b4 hm hm2) ⟨fun _ _ _ q _ _ => q.elim, fun d f v E' σ' H' q pp s0 => ?_⟩
        obtain ⟨⟨n, rfl, n0, n1⟩, c1, c2, c3, c4, g1, g2, g3, g4, e0'⟩ := q
        obtain ⟨r', wv⟩ := pp.val
        obtain ⟨rfl, _⟩ := wv.atm r'
        obtain ⟨p', s1, ⟨vs, hv, hvl⟩, _⟩ := r'.ow 0 _ e0'
        rw [s0] at s1
        cases s1
        refine kk (D.int n) _ H' (hq n n0 n1) (fun a o e na => r'.kept a o (by show (if a = p then none else H a) = some o; rw [if_neg fun z => na (by rw [e0, z])]; exact e) fun z => nomatch z) (fun a ea => ?_) (.a rfl)
        rw [e0] at ea
        cases ea
        cases hvl with
        | cons v1 hvl =>
        cases hvl with
        | cons v2 hvl =>
        cases hvl with
        | cons v3 hvl =>
        cases hvl with
        | cons v4 hvl =>
        cases hvl with
        | cons v5 hvl =>
        cases hvl
        cases v2
        cases v3
        cases v4
        cases v5
        cases v1 with
        | l z1 z2 z3 =>
          rename_i q us
          have := z3.of_ints
          subst this
          refine ⟨q, ns, c1, c2, c3, c4, hv, .l z1 (fun z => ?_) .ints, nn, g1, g2, g3, g4⟩
          have nqp : q ≠ p := fun e => by
            rw [e, hv] at z1
            cases ns with
            | nil => cases z1
            | cons n0 ns => cases z1
          exact z2 (.inl ⟨z, nqp⟩)
end
end DL
set_option Elab.async false
set_option linter.all false
set_option maxRecDepth 100000
/-! DLSum: sum of a tuple of ints. -/
namespace DL
open PySem PySem.Spec PyProof.Rows L2
def rSumT (K : PySem.W.Frag) : List V → Hp → VK → Prop := fun vs H Q => ∃ (a : Addr) (ns : List Int), vs = [V.ref a] ∧ SqT K H a (ns.map V.int) ∧ Q (.int ns.sum) H
section
variable {X : Cx} {e : Expr} {p pos : Pos} {ta : TDA}
theorem vals_ints : ∀ {ns : List Int} {us : List Value}, Vals (ns.map V.int) us → ∀ (i : Nat) (v : Value), us[i]? = some v → ∃ t, v = .int (ns.getD i 0) t
  | [], _, .nil, i, v, h => by simp at h
  | n :: ns, _, .cons h t, 0, v, e => by
    obtain ⟨tk, q⟩ := h
    simp at e
    subst e
    exact ⟨tk, by rw [q]; rfl⟩
  | n :: ns, _, .cons h t, i + 1, v, e => by
    obtain ⟨tk, q⟩ := vals_ints t i v (by simpa using e)
    exact ⟨tk, by rw [q]; simp⟩
theorem cr_sumT (hc : X.calm = true) : CallR X (.builtin "sum") (rSumT X.K) := by
  intro pins s σ H vs us Q I r h
  obtain ⟨a, ns, rfl, hs, q⟩ := h
  obtain ⟨u, rfl, ru⟩ := vals1 r
  obtain rfl : u = Value.ref a := ru
  obtain ⟨its, rv, hl, _⟩ := I.tuple hs
  have hh : X.A.in1.handled = none := I.ok.hd hc
  have hlen : its.toArray.size = ns.length := by rw [List.size_toArray, ← rv.length, List.length_map]
  refine call_sum_walkAnyS (PySem.W.iter_tupleW (A := X.A.in1) hh hl fun s₂ e W st hfp hw hk => ⟨_, _, _, _, _, _, _, fun i => ns.getD i 0, rfl, W, st, hfp, fun i v hv => vals_ints rv i v (by rw [List.getElem?_toArray] at hv; exact hv), fun s' t' m => ?_⟩)
  obtain ⟨h', tk, rfl, hk'⟩ := PySem.W.moved_old e rfl m
  have e1 : preSum (fun i => ns.getD i 0) its.toArray.size = ns.sum := by rw [preSum_getD, hlen, List.take_length]
  rw [e1]
  exact ⟨.int ns.sum, H, I.kept hk', ⟨t', rfl⟩, q⟩
def rdSumA : List (D × Fl) → (D → Fl → Prop) → Prop := rd1 fun d _ Q => match d with
  | .t xs => ∃ ns, intsOf xs = some ns ∧ Q (.a (.int ns.sum)) .sh
  | _ => False
theorem calll_sumT : CallL X (rSumT X.K) rdSumA := by
  intro F B ps E σ H dfs vs Qd Q hF r w q k
  obtain ⟨d, f, e0, q0⟩ := rd1_of q
  subst e0
  clear q
  obtain ⟨v, e0, w0⟩ := w.one
  subst e0
  split at q0
  · obtain ⟨ns, e, q⟩ := q0
    obtain ⟨a, us, rfl, h, l⟩ := w0.tup hF.K r
    rw [intsOf_is e l] at h
    exact ⟨a, ns, rfl, h, k _ .sh _ H q ⟨r, .a rfl⟩⟩
  · exact q0.elim
end
/-! names for the readings of operators -/
abbrev rdAdd := rdI0 fun i j => .int (i + j)
abbrev rdSub := rdI0 fun i j => .int (i - j)
abbrev rdMul := rdI IntMulOk fun i j => .int (i * j)
abbrev rdFdiv := rdI DivOk fun i j => .int (i.fdiv j)
abbrev rdMod := rdI (fun _ j => j ≠ 0) fun i j => .int (i.fmod j)
abbrev rdPow := rdI CPow fun i j => .int (i ^ j.toNat)
abbrev rdLe := rdI0 fun i j => .bl (decide (i ≤ j))
abbrev rdGt := rdI0 fun i j => .bl (decide (j < i))
abbrev rdGe := rdI0 fun i j => .bl (decide (j ≤ i))
abbrev tdiL (te : TDE) : TDI := fun E Q => te E fun d f => f.ok = true ∧ match d with | .l xs => Q xs | _ => False
abbrev tdiT (te : TDE) : TDI := fun E Q => te E fun d f => f.ok = true ∧ match d with | .t xs => Q xs | _ => False
abbrev tdDNew : TDE := fun _ Q => Q (.d []) .fr
abbrev tdListRange (ta : TDE) : TDE := fun E Q => ta E fun d f => rdListRange [(d, f)] Q
end DL
set_option Elab.async false
set_option linter.all false
set_option maxRecDepth 100000
/-! DLDefs: what the top has written. -/
namespace DL
open PySem PySem.Spec PyProof.Rows L2
/-- a def as the top has written it -/
structure DefAt (K : PySem.W.Frag) (mg : Str → Option Value) (x qual : Str) (st : Stmt) (ps : List Str) where
  f : Addr
  fd : FuncData
  F : Fun K x qual st f fd
  b : Binds K fd ps []
structure DefG (K : PySem.W.Frag) (mg : Str → Option Value) (x : Str) (st : Stmt) (ps : List Str) extends DefAt K mg x x st ps where
  g : mg x = some (.ref f)
structure TupG (K : PySem.W.Frag) (mg : Str → Option Value) (x : Str) (ns : List Int) where
  p : Addr
  g : mg x = some (.ref p)
  t : KTup K p (ns.map V.int)
structure ClsG (K : PySem.W.Frag) (mg : Str → Option Value) (x : Str) (fi : Addr) where
  C : Addr
  g : mg x = some (.ref C)
  cls : Cls K C
  mk_ : Mk K C fi
theorem TupG.de {K : PySem.W.Frag} {mg : Str → Option Value} {x : Str} {ns : List Int} (h : TupG K mg x ns) {X : Cx} {pos : Pos} (hg : Gl X x) (hm : X.mg x = mg x := by rfl) (hk : X.K = K := by rfl) (hd : (x == ("__debug__" : Str)) = false := by decide) : DE X (.Name x pos) (tdC (.t (ns.map D.int))) := de_globT hg (hm.trans h.g) (by rw [hk]; exact h.t) hd
theorem intG {mg : Str → Option Value} {x : Str} {i : Int} (h : ∃ t, mg x = some (.int i t)) {X : Cx} {pos : Pos} (hg : Gl X x) (hm : X.mg x = mg x := by rfl) (hd : (x == ("__debug__" : Str)) = false := by decide) : DE X (.Name x pos) (tdC (D.int i)) := let ⟨t, e⟩ := h; de_glob (u := .int i t) hg (hm.trans e) ⟨t, rfl⟩ rfl hd
theorem hu9_of {A : Around} (h : A.units + 64 < cLine) : A.units + 9 < cLine := by omega
structure Tx (K : PySem.W.Frag) (mg : Str → Option Value) where
  common : DefG K mg "common" s_common ["one", "other"]
  made : DefG K mg "made" s_made ["top", "bottom"]
  whole : DefG K mg "whole" s_whole ["number"]
  plus : DefG K mg "plus" s_plus ["one", "other"]
  minus : DefG K mg "minus" s_minus ["one", "other"]
  times : DefG K mg "times" s_times ["one", "other"]
  over : DefG K mg "over" s_over ["one", "other"]
  is_less : DefG K mg "is_less" s_is_less ["one", "other"]
  total : DefG K mg "total" s_total ["fractions"]
  is_fraction : DefG K mg "is_fraction" s_is_fraction ["thing"]
  is_number : DefG K mg "is_number" s_is_number ["thing"]
  is_within : DefG K mg "is_within" s_is_within ["thing", "least", "most"]
  is_pair : DefG K mg "is_pair" s_is_pair ["thing"]
  is_triple : DefG K mg "is_triple" s_is_triple ["thing"]
  is_rising : DefG K mg "is_rising" s_is_rising ["items"]
  is_house : DefG K mg "is_house" s_is_house ["web", "thing"]
  is_step : DefG K mg "is_step" s_is_step ["web", "thing"]
  is_load : DefG K mg "is_load" s_is_load ["web", "thing"]
  check_load : DefG K mg "check_load" s_check_load ["web", "thing"]
  is_price : DefG K mg "is_price" s_is_price ["thing"]
  check_prices : DefG K mg "check_prices" s_check_prices ["web", "thing"]
  with_times : DefG K mg "with_times" s_with_times ["one", "other", "factor"]
  without_noughts : DefG K mg "without_noughts" s_without_noughts ["row"]
  Equation_init : DefAt K mg "__init__" "Equation.__init__" s_Equation_init ["self", "row", "right", "mix"]
  Equation_less : DefAt K mg "less" "Equation.less" s_Equation_less ["self", "other", "factor"]
  solved : DefG K mg "solved" s_solved ["rows", "rights"]
  values_of : DefG K mg "values_of" s_values_of ["heads"]
  is_standing : DefG K mg "is_standing" s_is_standing ["thing", "cups", "houses", "standings"]
  is_dealer : DefG K mg "is_dealer" s_is_dealer ["thing", "cups", "houses"]
  met_from : DefG K mg "met_from" s_met_from ["begin", "goals"]
  is_joined : DefG K mg "is_joined" s_is_joined ["dealer"]
  doors_of : DefG K mg "doors_of" s_doors_of ["dealers"]
  check_web : DefG K mg "check_web" s_check_web ["cups", "dealers"]
  Web_init : DefAt K mg "__init__" "Web.__init__" s_Web_init ["self", "cups", "dealers"]
  all_steps : DefG K mg "all_steps" s_all_steps ["web"]
  door_at : DefG K mg "door_at" s_door_at ["web", "step"]
  next_at : DefG K mg "next_at" s_next_at ["web", "step"]
  price_of : DefG K mg "price_of" s_price_of ["prices", "step"]
  worth_name : DefG K mg "worth_name" s_worth_name ["door"]
  equation_of : DefG K mg "equation_of" s_equation_of ["web", "step"]
  looked_for : DefG K mg "looked_for" s_looked_for ["web", "prices"]
  table_of : DefG K mg "table_of" s_table_of ["web", "prices"]
  needed_table : DefG K mg "needed_table" s_needed_table ["web", "prices"]
  told_worth : DefG K mg "told_worth" s_told_worth ["worths", "load"]
  told_leads : DefG K mg "told_leads" s_told_leads ["leads", "ends"]
  behind : DefG K mg "behind" s_behind ["web", "triple", "house", "number"]
  moves_at : DefG K mg "moves_at" s_moves_at ["web", "triple"]
  all_triples : DefG K mg "all_triples" s_all_triples ["web", "load"]
  is_over : DefG K mg "is_over" s_is_over ["triple"]
  ends_in : DefG K mg "ends_in" s_ends_in ["triples"]
  most_of : DefG K mg "most_of" s_most_of ["web", "prices", "load"]
  law_dice : DefG K mg "_law_dice" s_law_dice ["_law_script"]
  law_draw : DefG K mg "_law_draw" s_law_draw ["_law_dice_here", "_law_sides"]
  law_doors : DefG K mg "_law_doors" s_law_doors ["_law_dice_here", "_law_houses", "_law_cups", "_law_lead"]
  law_dealer : DefG K mg "_law_dealer" s_law_dealer ["_law_dice_here", "_law_houses", "_law_cups", "_law_lead", "_law_most"]
  law_web : DefG K mg "_law_web" s_law_web ["_law_dice_here", "_law_least", "_law_most", "_law_standings"]
  law_steps : DefG K mg "_law_steps" s_law_steps ["_law_dealers"]
  law_door : DefG K mg "_law_door" s_law_door ["_law_dealers", "_law_step"]
  law_next : DefG K mg "_law_next" s_law_next ["_law_dealers", "_law_step"]
  law_fraction : DefG K mg "_law_fraction" s_law_fraction ["_law_top", "_law_bottom"]
  law_sum : DefG K mg "_law_sum" s_law_sum ["_law_one", "_law_other", "_law_sign"]
  law_planted : DefG K mg "_law_planted" s_law_planted ["_law_dice_here", "_law_dealers"]
  law_less : DefG K mg "_law_less" s_law_less ["_law_one", "_law_other"]
  law_load : DefG K mg "_law_load" s_law_load ["_law_dice_here", "_law_dealers", "_law_most", "_law_least"]
  law_behind : DefG K mg "_law_behind" s_law_behind ["_law_dealers", "_law_triple", "_law_house", "_law_number"]
  law_triples : DefG K mg "_law_triples" s_law_triples ["_law_cups", "_law_dealers", "_law_load_here", "_law_prices", "_law_most"]
  law_bills : DefG K mg "_law_bills" s_law_bills ["_law_triples_here"]
  law_greatest : DefG K mg "_law_greatest" s_law_greatest ["_law_bills_here"]
  law_turned_about : DefG K mg "_law_turned_about" s_law_turned_about ["_law_prices"]
  law : DefG K mg "law" s_law ["_law_script"]
  CW : ClsG K mg "Web" Web_init.f
  CE : ClsG K mg "Equation" Equation_init.f
  n_cups : NoAttr K CW.C "cups"
  n_dealers : NoAttr K CW.C "dealers"
  n_row : NoAttr K CE.C "row"
  n_right : NoAttr K CE.C "right"
  n_mix : NoAttr K CE.C "mix"
  less : Meth K CE.C "less" Equation_less.f
  ZERO : TupG K mg "ZERO" [0, 1]
  ONE : TupG K mg "ONE" [1, 1]
  MOST_TOP : ∃ t, mg "MOST_TOP" = some (.int 1000000000 t)
  MOST_BOTTOM : ∃ t, mg "MOST_BOTTOM" = some (.int 1000000 t)
  MOST_CUPS : ∃ t, mg "MOST_CUPS" = some (.int 6 t)
  MOST_HOUSES : ∃ t, mg "MOST_HOUSES" = some (.int 8 t)
  MOST_STANDINGS : ∃ t, mg "MOST_STANDINGS" = some (.int 8 t)
  MOST_STEPS : ∃ t, mg "MOST_STEPS" = some (.int 6 t)
  MOST_TRIPLES : ∃ t, mg "MOST_TRIPLES" = some (.int 20000 t)
  len : mg "len" = none
  abs : mg "abs" = none
  int : mg "int" = none
  all : mg "all" = none
  min : mg "min" = none
  sum : mg "sum" = none
  tuple : mg "tuple" = none
  list : mg "list" = none
  dict : mg "dict" = none
  isinstance : mg "isinstance" = none
  sorted : mg "sorted" = none
  range : mg "range" = none
  enumerate : mg "enumerate" = none
  zip : mg "zip" = none
  reversed : mg "reversed" = none
  bool : mg "bool" = none
end DL
set_option Elab.async false
set_option linter.all false
set_option maxRecDepth 100000
/-! DLInit: what the two __init__ store. -/
namespace DL
open PySem PySem.Spec PyProof.Rows L2
def pp_Equation (CW CE : Addr) : PP := fun ds Q => ds.length = 3 ∧ Q (.a .non)
theorem DiceOk.fld {F : Fx} {O : Addr → Prop} {H : Hp} {a x C dx : Addr} {fs fs' : List (Str × V)} (h : DiceOk F O H a) (nx : a ≠ x) (hx : H x = some (.ins C dx fs)) : DiceOk F O (upd H x (.ins C dx fs')) a := by
  obtain ⟨c, ns, a1, a2, a3, a4, h1, h2, h3⟩ := h
  refine ⟨c, ns, a1, a2, a3, a4, by rw [upd_ne nx]; exact h1, ?_, h3⟩
  cases h2 with
  | l g1 g2 g3 =>
    have := g3.of_ints
    subst this
    refine .l ?_ g2 .ints
    rw [upd_ne]
    · exact g1
    · intro e
      rw [e, hx] at g1
      cases g1
theorem dg_tupK {X : Cx} {pos : Pos} (K : PySem.W.Frag) (hK : X.K = K) {es : List Expr} {k : Nat} {g : TGs} {sl : List Nat} {u : TDGs} {n : Nat} (hc : X.calm = true) (h : DGs X es g sl u) (hn : (assignEach es X.env).length = n := by rfl) (hst : (assignEach es X.env).findIdx? (·.1) = none := by rfl) : DG X (.Tuple es k pos) (gTup K n g) sl (tgTup n u) := hK ▸ dg_tup hc h hn hst
theorem de_negI {X : Cx} {i : Int} {j : Nat} {p pos : Pos} : DE X (.UnaryOp .USub (.Constant (.int i) j p) pos) (tdC (.a (.int (-i)))) := ⟨fun F B ps E σ H Qd Q hF r t k => (de_neg de_int).run F B ps E σ H Qd Q hF r t k⟩
section
variable {P : Program} {w : World} {K : PySem.W.Frag} {mg : Str → Option Value} {base : Heap}
theorem len3 {us : List V} (h : us.length = 3) : ∃ a b c, us = [a, b, c] := by
  match us, h with
  | [a, b, c], _ => exact ⟨a, b, c, rfl⟩
theorem len2 {us : List V} (h : us.length = 2) : ∃ a b, us = [a, b] := by
  match us, h with
  | [a, b], _ => exact ⟨a, b, rfl⟩
theorem sc_Equation_init : FnScope ["self", "row", "right", "mix"] ["self", "row", "right", "mix"] (defScope s_Equation_init) := ⟨rfl, rfl, rfl, by decide +kernel, rfl, by decide +kernel, by decide +kernel⟩
theorem ok_Equation_init (T : Tx K mg) : FnOk P w K mg base CX0 1 T.Equation_init.f T.Equation_init.fd ["self", "row", "right", "mix"] (spMk w K T.CE.C ["row", "right", "mix"] (pp_Equation T.CW.C T.CE.C)) := by
  refine T.Equation_init.F.ok sc_Equation_init (fun vs H Q E h => ?_) (fun cdv A outer s H vs Q E hr h => ?_)
  · obtain ⟨x, dx, us, de, O, ds, Qd, rfl, hl, _⟩ := h
    rw [List.length_cons, hl]; rfl
  · obtain ⟨x, dx, us, de, O, ds, Qd, rfl, hl, hx, nO, nd, hO, hd, hi, hp, kk⟩ := h
    obtain ⟨v1, v2, v3, rfl⟩ := len3 hl
    refine ⟨_, pss_cons (ps_fld (pv 0) (pv 1) rfl) (pss_cons (ps_fld (pv 0) (pv 2) rfl) (pss_one (ps_fld (pv 0) (pv 3) rfl))), ?_⟩
    have e2 : ¬ (("row" : Str) = "right") := by decide +kernel
    have e3 : ¬ (("row" : Str) = "mix") := by decide +kernel
    have e4 : ¬ (("right" : Str) = "mix") := by decide +kernel
    have p2 : putF "right" v2 (putF "row" v1 []) = ([(("row" : Str), v1), (("right" : Str), v2)] : List (Str × V)) := by
      show (if ("row" : Str) = "right" then _ else (("row" : Str), v1) :: putF "right" v2 []) = _
      rw [if_neg e2]; rfl
    have p3 : putF "mix" v3 ([(("row" : Str), v1), (("right" : Str), v2)] : List (Str × V)) = (["row", "right", "mix"] : List Str).zip [v1, v2, v3] := by
      show (if ("row" : Str) = "mix" then _ else (("row" : Str), v1) :: (if ("right" : Str) = "mix" then _ else (("right" : Str), v2) :: putF "mix" v3 [])) = _
      rw [if_neg e3, if_neg e4]; rfl
    refine ⟨v1, rfl, .ref x, rfl, x, T.CE.C, dx, [], rfl, hx, T.CE.cls, T.n_row, by decide, v2, rfl, .ref x, rfl, x, T.CE.C, dx, _, rfl, upd_same, T.CE.cls, T.n_right, by show 1 < 1000; decide, v3, rfl, .ref x, rfl, x, T.CE.C, dx, _, rfl, upd_same, T.CE.cls, T.n_mix, by rw [p2]; show 2 < 1000; decide, ?_⟩
    rw [p2, p3]
    have old : ∀ b o, H b = some o → b ≠ x → (upd (upd (upd H x (.ins T.CE.C dx (putF "row" v1 []))) x (.ins T.CE.C dx ([(("row" : Str), v1), (("right" : Str), v2)] : List (Str × V)))) x (.ins T.CE.C dx ((["row", "right", "mix"] : List Str).zip [v1, v2, v3]))) b = some o := fun b o e n => by rw [upd_ne n, upd_ne n, upd_ne n]; exact e
    have ne : ∀ b, de = some b → b ≠ x := fun b eb z => nd (by rw [eb, z])
    exact kk _ [v1, v2, v3] hp.2 (fun b o e n _ => old b o e n) (fun b eb => (((hd b eb).2.fld (ne b eb) hx).fld (ne b eb) upd_same).fld (ne b eb) upd_same) (hi.mono (fun b o e n => old b o e fun z => n (.inr z)) fun _ _ _ z => .inl z) rfl upd_same
end
end DL
set_option Elab.async false
set_option linter.all false
set_option maxRecDepth 100000
/-! DLTac: small words for the plain readings. -/
namespace DL
open PySem PySem.Spec PyProof.Rows L2
theorem ifC {c : Bool} {A B : Prop} (h1 : c = true → A) (h2 : c = false → B) : if c = true then A else B := by
  cases c
  · rw [if_neg Bool.false_ne_true]; exact h2 rfl
  · rw [if_pos rfl]; exact h1 rfl
theorem ifT {A B : Prop} (h : A) : if true = true then A else B := by rw [if_pos rfl]; exact h
theorem ifF {A B : Prop} (h : B) : if false = true then A else B := by rw [if_neg Bool.false_ne_true]; exact h
/-- the test is known -/
theorem ifK {c : Bool} {A B : Prop} (k : c = true) (h : A) : if c = true then A else B := by rw [if_pos k]; exact h
theorem ifN {c : Bool} {A B : Prop} (k : c = false) (h : B) : if c = true then A else B := by rw [k, if_neg Bool.false_ne_true]; exact h
/-- a test of ints, both ways -/
theorem ifI {p : Prop} [Decidable p] {A B : Prop} (h1 : p → A) (h2 : ¬ p → B) : if (decide p) = true then A else B := by
  by_cases h : p
  · rw [if_pos (decide_eq_true h)]; exact h1 h
  · rw [if_neg (by rw [decide_eq_false h]; exact Bool.false_ne_true)]; exact h2 h
theorem vint {i j : Int} : decide (V.int i = V.int j) = decide (i = j) := by
  by_cases h : i = j
  · rw [h]; simp
  · rw [decide_eq_false h, decide_eq_false fun z => h (by injection z)]
/-- == of ints, both ways -/
theorem ifEq {i j : Int} {A B : Prop} (h1 : i = j → A) (h2 : i ≠ j → B) : if (id (decide (V.int i = V.int j))) = true then A else B := by
  show if decide (V.int i = V.int j) = true then A else B
  rw [vint]
  exact ifI h1 h2
theorem ifNe {i j : Int} {A B : Prop} (h1 : i ≠ j → A) (h2 : i = j → B) : if (not (decide (V.int i = V.int j))) = true then A else B := by
  rw [vint]
  by_cases h : i = j
  · rw [decide_eq_true h]; exact ifF (h2 h)
  · rw [decide_eq_false h]; exact ifT (h1 h)
/-- small factors -/
theorem mulL {i j : Int} (h1 : -(2 ^ 63) ≤ i) (h2 : i < 2 ^ 63) : IntMulOk i j := CMul.ok (.inl ⟨by omega, by omega⟩)
theorem mulR {i j : Int} (h1 : -(2 ^ 63) ≤ j) (h2 : j < 2 ^ 63) : IntMulOk i j := CMul.ok (.inr ⟨by omega, by omega⟩)
theorem log2_lt {n k : Nat} (h : n < 2 ^ k) (hk : 0 < k) : n.log2 < k := by
  by_cases h0 : n = 0
  · subst h0; simp; omega
  · exact (Nat.log2_lt h0).mpr h
theorem divOk {i j : Int} (h0 : j ≠ 0) (h1 : j.natAbs < 2 ^ 8999) : DivOk i j := ⟨h0, Nat.lt_of_lt_of_le (log2_lt h1 (by decide)) (by decide)⟩
theorem ixN_nn {n : Nat} {i : Int} (h0 : 0 ≤ i) (h1 : i < n) : ixN n i = some i.toNat := by
  unfold ixN
  first
    | rw [if_neg (by omega), if_pos (by omega)]
    | rw [if_pos (by omega), if_pos (by omega)]
    | rw [if_pos ⟨by omega, by omega⟩]
    | (split <;> first | rfl | omega)
theorem atI_nn {α : Type} {xs : List α} {i : Int} {y : α} (h0 : 0 ≤ i) (e : xs[i.toNat]? = some y) : atI xs i = some y := by
  have hl := (List.getElem?_eq_some_iff.mp e).1
  unfold atI
  rw [ixN_nn h0 (by omega)]
  exact e
theorem divS {i j : Int} (h0 : 1 ≤ j) (h1 : j ≤ 1000000) : DivOk i j := ⟨by omega, Nat.lt_of_lt_of_le (log2_lt (k := 20) (by omega) (by decide)) (by decide)⟩
theorem fmod_rng {i m : Int} (hm : 1 ≤ m) : 0 ≤ i.fmod m ∧ i.fmod m < m := by
  have h1 := Int.fmod_eq_emod_of_nonneg i (show 0 ≤ m by omega)
  rw [h1]
  exact ⟨Int.emod_nonneg _ (by omega), Int.emod_lt_of_pos _ (by omega)⟩
theorem fdiv_nn {i m : Int} (hi : 0 ≤ i) (hm : 1 ≤ m) : 0 ≤ i.fdiv m := Int.fdiv_nonneg hi (by omega)
end DL
set_option Elab.async false
set_option linter.all false
set_option maxRecDepth 100000
namespace DL
open PySem PySem.Spec PyProof.Rows L2
abbrev pp_law_draw (CW CE : Addr) : PP := ppDraw
def td_law_draw_s6 (CW CE : Addr) : TDR := (trRet (tdOp rdMod (tdCB rdInt (tdCons (tdOp rdFdiv (tdVar 2) (tdC (D.int 16))) tdNil)) (tdVar 1)))
def td_law_draw_s5 (CW CE : Addr) : TDR := (trSeq (trSet 2 (tdOp rdMod (tdCB rdInt (tdCons (tdOp rdMul (tdVar 2) (tdOp rdAdd (tdOp rdFdiv (tdVar 2) (tdC (D.int 2003))) (tdC (D.int 40693)))) tdNil)) (tdC (D.int 2147483563)))) (td_law_draw_s6 CW CE))
def td_law_draw_s4 (CW CE : Addr) : TDR := (trSeq (trSet 2 (tdOp rdMod (tdCB rdInt (tdCons (tdOp rdMul (tdOp rdIxA (tdVar 0) (tdC (D.int 3))) (tdOp rdAdd (tdOp rdFdiv (tdOp rdIxA (tdVar 0) (tdC (D.int 3))) (tdC (D.int 1009))) (tdC (D.int 69623)))) tdNil)) (tdC (D.int 2147483399)))) (td_law_draw_s5 CW CE))
def td_law_draw_s3 (CW CE : Addr) : TDR := (trSeq (trLSet (tdOp rdMod (tdCB rdInt (tdCons (tdOp rdAdd (tdOp rdAdd (tdOp rdMul (tdOp rdIxA (tdVar 0) (tdC (D.int 3))) (tdC (D.int 48271))) (tdOp rdMul (tdOp rdIxA (tdVar 0) (tdC (D.int 4))) (tdC (D.int 7919)))) (tdC (D.int 1))) tdNil)) (tdC (D.int 2147483647))) (tdC (D.int 3))) (td_law_draw_s4 CW CE))
def td_law_draw_s2 (CW CE : Addr) : TDR := (trSeq (trLSet (tdOp rdAdd (tdOp rdIxA (tdVar 0) (tdC (D.int 4))) (tdC (D.int 1))) (tdC (D.int 4))) (td_law_draw_s3 CW CE))
def td_law_draw_s1 (CW CE : Addr) : TDR := (trSeq (trIf (tdB (tdOp rdGt (tdOp rdIxA (tdVar 0) (tdC (D.int 2))) (tdC (D.int 0)))) (trSeq (trSet 4 (tdOp rdMod (tdCB rdInt (tdCons (tdOp rdIxA (tdVar 0) (tdC (D.int 2))) tdNil)) (tdVar 1))) (trSeq (trLSet (tdOp rdFdiv (tdCB rdInt (tdCons (tdOp rdIxA (tdVar 0) (tdC (D.int 2))) tdNil)) (tdVar 1)) (tdC (D.int 2))) (trRet (tdVar 4)))) trNext) (td_law_draw_s2 CW CE))
def td_law_draw (CW CE : Addr) : TDR := (trSeq (trIf (tdAnd (tdB (tdOp (rdEq id) (tdOp rdIxA (tdVar 0) (tdC (D.int 2))) (tdC (D.int 0)))) (tdB (tdOp rdLt (tdOp rdIxA (tdVar 0) (tdC (D.int 1))) (tdCB rdLen (tdCons (tdOp rdIxA (tdVar 0) (tdC (D.int 0))) tdNil))))) (trSeq (trSet 3 (tdOp rdIxA (tdOp rdIxA (tdVar 0) (tdC (D.int 0))) (tdOp rdIxA (tdVar 0) (tdC (D.int 1))))) (trSeq (trLSet (tdOp rdAdd (tdOp rdIxA (tdVar 0) (tdC (D.int 1))) (tdC (D.int 1))) (tdC (D.int 1))) (trIf (tdB (tdOp rdGe (tdVar 3) (tdOp rdPow (tdC (D.int 10)) (tdC (D.int 18))))) (trLSet (tdVar 3) (tdC (D.int 2))) (trLSet (tdOp rdMod (tdCB rdInt (tdCons (tdOp rdAdd (tdOp rdAdd (tdOp rdMul (tdOp rdIxA (tdVar 0) (tdC (D.int 3))) (tdC (D.int 69621))) (tdOp rdMul (tdVar 3) (tdC (D.int 40692)))) (tdOp rdIxA (tdVar 0) (tdC (D.int 1)))) tdNil)) (tdC (D.int 2147483647))) (tdC (D.int 3)))))) trNext) (td_law_draw_s1 CW CE))
abbrev drawQ (ns : List Int) (m : Int) : D → DEnv → Prop := fun r E => (∃ n : Int, r = D.int n ∧ 0 ≤ n ∧ n < m) ∧ ∃ a b c d : Int, 0 ≤ a ∧ 0 ≤ b ∧ 0 ≤ c ∧ 0 ≤ d ∧ E[0]? = some (.ow (diceD ns a b c d))
theorem hp_draw_s2 {CW CE : Addr} (ns : List Int) (a b c d m : Int) (x y z : Slot) (ha : 0 ≤ a) (hb : 0 ≤ b) (hc : 0 ≤ c) (hd : 0 ≤ d) (hm : 1 ≤ m) (hm2 : m ≤ 1000) : td_law_draw_s2 CW CE (fun _ => False) (drawQ ns m) [.ow (diceD ns a b c d), .sh (D.int m), x, y, z] := by
  refine ⟨_, rfl, rfl, 4, rfl, ?_⟩
  refine ⟨_, rfl, mulR (by decide) (by decide), _, rfl, mulR (by decide) (by decide), (by decide : (2147483647 : Int) ≠ 0), rfl, 3, rfl, ?_⟩
  have r1 := fmod_rng (i := c * 48271 + (d + 1) * 7919 + 1) (m := 2147483647) (by decide)
  refine ⟨_, rfl, _, rfl, divS (by decide) (by decide), mulL (by omega) (by omega), (by decide : (2147483399 : Int) ≠ 0), rfl, ?_⟩
  have r2 := fmod_rng (i := ((c * 48271 + (d + 1) * 7919 + 1).fmod 2147483647) * (((c * 48271 + (d + 1) * 7919 + 1).fmod 2147483647).fdiv 1009 + 69623)) (m := 2147483399) (by decide)
  refine ⟨divS (by decide) (by decide), mulL (by omega) (by omega), (by decide : (2147483563 : Int) ≠ 0), rfl, ?_⟩
  have r3 := fmod_rng (i := ((((c * 48271 + (d + 1) * 7919 + 1).fmod 2147483647) * (((c * 48271 + (d + 1) * 7919 + 1).fmod 2147483647).fdiv 1009 + 69623)).fmod 2147483399) * (((((c * 48271 + (d + 1) * 7919 + 1).fmod 2147483647) * (((c * 48271 + (d + 1) * 7919 + 1).fmod 2147483647).fdiv 1009 + 69623)).fmod 2147483399).fdiv 2003 + 40693)) (m := 2147483563) (by decide)
  exact ⟨divS (by decide) (by decide), (by omega : m ≠ 0), ⟨_, rfl, fmod_rng hm⟩, a, b, ((c * 48271 + (d + 1) * 7919 + 1).fmod 2147483647), d + 1, ha, hb, r1.1, by omega, rfl⟩
theorem hp_draw_s1 {CW CE : Addr} (ns : List Int) (a b c d m : Int) (x y z : Slot) (ha : 0 ≤ a) (hb : 0 ≤ b) (hc : 0 ≤ c) (hd : 0 ≤ d) (hm : 1 ≤ m) (hm2 : m ≤ 1000) : td_law_draw_s1 CW CE (fun _ => False) (drawQ ns m) [.ow (diceD ns a b c d), .sh (D.int m), x, y, z] := by
  refine ⟨_, rfl, ifI (fun hb0 => ?_) (fun hb0 => ?_)⟩
  · exact ⟨_, rfl, (by omega : m ≠ 0), rfl, _, rfl, divS hm (by omega), rfl, 2, rfl, ⟨_, rfl, fmod_rng hm⟩, a, b.fdiv m, c, d, ha, fdiv_nn hb hm, hc, hd, rfl⟩
  · exact hp_draw_s2 ns a b c d m x y z ha hb hc hd hm hm2
theorem hp_law_draw {CW CE : Addr} : ∀ (ns : List Int) (a b c d m : Int), (∀ n ∈ ns, 0 ≤ n) → 0 ≤ a → 0 ≤ b → 0 ≤ c → 0 ≤ d → 1 ≤ m → m ≤ 1000 → td_law_draw CW CE (fun _ => False) (drawQ ns m) (diceE 5 ns a b c d m) := by
  intro ns a b c d m hn ha hb hc hd hm hm2
  refine ⟨_, rfl, rfl, ifEq (fun e => ?_) (fun e => ?_)⟩
  · refine ⟨_, rfl, _, rfl, ifI (fun h => ?_) (fun h => ?_)⟩
    · have hl : a < ((ns.map D.int).length : Nat) := h
      rw [List.length_map] at hl
      obtain ⟨n, en⟩ : ∃ n, ns[a.toNat]? = some n := ⟨_, List.getElem?_eq_getElem (by omega)⟩
      have n0 := hn n (List.mem_of_getElem? en)
      refine ⟨_, rfl, _, rfl, D.int n, ?_, rfl, ?_⟩
      · exact atI_nn ha (by rw [List.getElem?_map, en]; rfl)
      refine ⟨_, rfl, rfl, 1, rfl, ?_⟩
      refine ⟨⟨by decide, by decide, by decide⟩, ifI (fun h2 => ?_) (fun h2 => ?_)⟩
      · exact ⟨rfl, 2, rfl, hp_draw_s1 ns (a + 1) n c d m _ _ _ (by omega) n0 hc hd hm hm2⟩
      · refine ⟨_, rfl, mulR (by decide) (by decide), mulR (by decide) (by decide), _, rfl, (by decide : (2147483647 : Int) ≠ 0), rfl, 3, rfl, ?_⟩
        exact hp_draw_s1 ns (a + 1) b _ d m _ _ _ (by omega) hb (fmod_rng (by decide)).1 hd hm hm2
    · exact hp_draw_s1 ns a b c d m _ _ _ ha hb hc hd hm hm2
  · exact hp_draw_s1 ns a b c d m _ _ _ ha hb hc hd hm hm2
end DL
set_option Elab.async false
set_option linter.all false
set_option maxRecDepth 100000
set_option exponentiation.threshold 20000
namespace DL
open PySem PySem.Spec PyProof.Rows L2
/-! fractions as rational numbers -/
/-- a fraction in lowest terms -/
def fr (q : Rat) : D := .t [D.int q.num, D.int q.den]
/-- not too long -/
def Sm (q : Rat) : Prop := q.num.natAbs < 2 ^ 2000 ∧ q.den < 2 ^ 2000
def pp_common (CW CE : Addr) : PP := fun ds Q => ∃ a b : Int, ds = [D.int a, D.int b] ∧ Q (D.int (Int.gcd a b))
def pp_made (CW CE : Addr) : PP := fun ds Q => ∃ a b : Int, ds = [D.int a, D.int b] ∧ b ≠ 0 ∧ b.natAbs < 2 ^ 8000 ∧ Q (fr (Rat.divInt a b))
def pp_whole (CW CE : Addr) : PP := fun ds Q => ∃ a : Int, ds = [D.int a] ∧ Q (fr (a : Rat))
def pp_plus (CW CE : Addr) : PP := fun ds Q => ∃ a b : Rat, ds = [fr a, fr b] ∧ Sm a ∧ Sm b ∧ Q (fr (a + b))
def pp_minus (CW CE : Addr) : PP := fun ds Q => ∃ a b : Rat, ds = [fr a, fr b] ∧ Sm a ∧ Sm b ∧ Q (fr (a - b))
def pp_times (CW CE : Addr) : PP := fun ds Q => ∃ a b : Rat, ds = [fr a, fr b] ∧ Sm a ∧ Sm b ∧ Q (fr (a * b))
def pp_over (CW CE : Addr) : PP := fun ds Q => ∃ a b : Rat, ds = [fr a, fr b] ∧ Sm a ∧ Sm b ∧ b ≠ 0 ∧ Q (fr (a / b))
def pp_is_less (CW CE : Addr) : PP := fun ds Q => ∃ a b : Rat, ds = [fr a, fr b] ∧ Sm a ∧ Sm b ∧ Q (D.bl (decide (a < b)))
def pp_total (CW CE : Addr) : PP := fun ds Q => ∃ qs : List Rat, ds = [.l (qs.map fr)] ∧ (∀ q ∈ qs, Sm q) ∧ (∀ n, Sm ((qs.take n).sum)) ∧ Q (fr qs.sum)
def pp_is_number (CW CE : Addr) : PP := fun ds Q => ∃ a : Int, ds = [D.int a] ∧ Q (D.bl true)
def pp_is_fraction (CW CE : Addr) : PP := fun ds Q => ∃ a : Rat, ds = [fr a] ∧ Q (D.bl true)
def td_common_b1 (CW CE : Addr) : TDS := (tdPar 0 1 (tdCons (tdVar 1) (tdCons (tdOp rdMod (tdVar 0) (tdVar 1)) tdNil)))
def td_common_s2 (CW CE : Addr) : TDS := (tdRet (tdVar 0))
def td_common_s1 (CW CE : Addr) : TDS := (tdSeq (tdWhile (tdB (tdOp rdGt (tdVar 1) (tdC (D.int 0)))) (td_common_b1 CW CE)) (td_common_s2 CW CE))
def td_common (CW CE : Addr) : TDS := (tdSeq (tdPar 0 1 (tdCons (tdCB rdAbs (tdCons (tdVar 0) tdNil)) (tdCons (tdCB rdAbs (tdCons (tdVar 1) tdNil)) tdNil))) (td_common_s1 CW CE))
def td_made_s2 (CW CE : Addr) : TDS := (tdRet (tdTup (tdCons (tdOp rdFdiv (tdVar 0) (tdVar 2)) (tdCons (tdOp rdFdiv (tdVar 1) (tdVar 2)) tdNil))))
def td_made_s1 (CW CE : Addr) : TDS := (tdSeq (tdIfS (tdB (tdOp rdLt (tdVar 1) (tdC (D.int 0)))) (tdSet 2 (tdUn (fun i => .int (-i)) (tdVar 2))) tdNext) (td_made_s2 CW CE))
def td_made (CW CE : Addr) : TDS := (tdSeq (tdSet 2 (tdCall (pp_common CW CE) (tdCons (tdVar 0) (tdCons (tdVar 1) tdNil)))) (td_made_s1 CW CE))
def td_whole (CW CE : Addr) : TDS := (tdRet (tdTup (tdCons (tdVar 0) (tdCons (tdC (D.int 1)) tdNil))))
def td_plus (CW CE : Addr) : TDS := (tdRet (tdCall (pp_made CW CE) (tdCons (tdOp rdAdd (tdOp rdMul (tdOp rdIxA (tdVar 0) (tdC (D.int 0))) (tdOp rdIxA (tdVar 1) (tdC (D.int 1)))) (tdOp rdMul (tdOp rdIxA (tdVar 1) (tdC (D.int 0))) (tdOp rdIxA (tdVar 0) (tdC (D.int 1))))) (tdCons (tdOp rdMul (tdOp rdIxA (tdVar 0) (tdC (D.int 1))) (tdOp rdIxA (tdVar 1) (tdC (D.int 1)))) tdNil))))
def td_minus (CW CE : Addr) : TDS := (tdRet (tdCall (pp_made CW CE) (tdCons (tdOp rdSub (tdOp rdMul (tdOp rdIxA (tdVar 0) (tdC (D.int 0))) (tdOp rdIxA (tdVar 1) (tdC (D.int 1)))) (tdOp rdMul (tdOp rdIxA (tdVar 1) (tdC (D.int 0))) (tdOp rdIxA (tdVar 0) (tdC (D.int 1))))) (tdCons (tdOp rdMul (tdOp rdIxA (tdVar 0) (tdC (D.int 1))) (tdOp rdIxA (tdVar 1) (tdC (D.int 1)))) tdNil))))
def td_times (CW CE : Addr) : TDS := (tdRet (tdCall (pp_made CW CE) (tdCons (tdOp rdMul (tdOp rdIxA (tdVar 0) (tdC (D.int 0))) (tdOp rdIxA (tdVar 1) (tdC (D.int 0)))) (tdCons (tdOp rdMul (tdOp rdIxA (tdVar 0) (tdC (D.int 1))) (tdOp rdIxA (tdVar 1) (tdC (D.int 1)))) tdNil))))
def td_over (CW CE : Addr) : TDS := (tdRet (tdCall (pp_made CW CE) (tdCons (tdOp rdMul (tdOp rdIxA (tdVar 0) (tdC (D.int 0))) (tdOp rdIxA (tdVar 1) (tdC (D.int 1)))) (tdCons (tdOp rdMul (tdOp rdIxA (tdVar 0) (tdC (D.int 1))) (tdOp rdIxA (tdVar 1) (tdC (D.int 0)))) tdNil))))
def td_is_less (CW CE : Addr) : TDS := (tdRet (tdOp rdLt (tdOp rdMul (tdOp rdIxA (tdVar 0) (tdC (D.int 0))) (tdOp rdIxA (tdVar 1) (tdC (D.int 1)))) (tdOp rdMul (tdOp rdIxA (tdVar 1) (tdC (D.int 0))) (tdOp rdIxA (tdVar 0) (tdC (D.int 1))))))
def td_total_b1 (CW CE : Addr) : TDS := (tdSet 1 (tdCall (pp_plus CW CE) (tdCons (tdVar 1) (tdCons (tdVar 2) tdNil))))
def td_total_s2 (CW CE : Addr) : TDS := (tdRet (tdVar 1))
def td_total_s1 (CW CE : Addr) : TDS := (tdSeq (tdFor (tdiL (tdVar 0)) (tgName 2) (td_total_b1 CW CE)) (td_total_s2 CW CE))
def td_total (CW CE : Addr) : TDS := (tdSeq (tdSet 1 (tdC (.t (List.map D.int [0, 1])))) (td_total_s1 CW CE))
def td_is_number (CW CE : Addr) : TDS := (tdRet (tdAndV (tdIsi isInt (tdVar 0)) (tdNotV (tdIsi isBool (tdVar 0)))))
def td_is_fraction_s1 (CW CE : Addr) : TDS := (tdRet (tdAndV (tdOp rdGe (tdOp rdIxA (tdVar 0) (tdC (D.int 1))) (tdC (D.int 1))) (tdOp (rdEq id) (tdCall (pp_common CW CE) (tdCons (tdOp rdIxA (tdVar 0) (tdC (D.int 0))) (tdCons (tdOp rdIxA (tdVar 0) (tdC (D.int 1))) tdNil))) (tdC (D.int 1)))))
def td_is_fraction (CW CE : Addr) : TDS := (tdSeq (tdIfS (tdOr (tdNot (tdB (tdIsi isTuple (tdVar 0)))) (tdOr (tdB (tdOp (rdEq not) (tdCB rdLen (tdCons (tdVar 0) tdNil)) (tdC (D.int 2)))) (tdNot (tdB (tdCB rdAll (tdCons (tdLc (tdiT (tdVar 0)) (tgName 1) tdYes (tdCall (pp_is_number CW CE) (tdCons (tdVar 1) tdNil)) [1]) tdNil)))))) (tdRet (tdC (D.bl false))) tdNext) (td_is_fraction_s1 CW CE))
theorem len_common {CW CE : Addr} : ∀ (ds : List D) (Qd : D → Prop), pp_common CW CE ds Qd → ds.length = 2 := fun ds Qd ⟨a, b, e, _⟩ => by rw [e]; rfl
theorem abs_gcd (a b : Int) : Int.gcd (if a < 0 then -a else a) (if b < 0 then -b else b) = Int.gcd a b := by
  split <;> split <;> simp
theorem gcd_step {x y : Int} (hx : 0 ≤ x) (hy : 0 ≤ y) : Int.gcd y (x % y) = Int.gcd x y := by
  obtain ⟨m, rfl⟩ := Int.eq_ofNat_of_zero_le hx
  obtain ⟨n, rfl⟩ := Int.eq_ofNat_of_zero_le hy
  show Nat.gcd (Int.natAbs n) (Int.natAbs ((m : Int) % n)) = Nat.gcd (Int.natAbs m) (Int.natAbs n)
  rw [← Int.natCast_emod, Int.natAbs_natCast, Int.natAbs_natCast, Int.natAbs_natCast, Nat.gcd_comm m n, Nat.gcd_rec n m, Nat.gcd_comm]
theorem hp_common {CW CE : Addr} : ∀ (ds : List D) (Qd : D → Prop), pp_common CW CE ds Qd → td_common CW CE { nx := fun _ => Qd (.a .non), rt := Qd } (env0 2 ds) := by
  rintro ds Qd ⟨a, b, rfl, q⟩
  refine ⟨rfl, rfl, fun m E => ∃ x y : Int, E = [.sh (D.int x), .sh (D.int y)] ∧ 0 ≤ x ∧ 0 ≤ y ∧ m = y.toNat ∧ Int.gcd x y = Int.gcd a b, ⟨_, _, _, rfl, by split <;> omega, by split <;> omega, rfl, abs_gcd a b⟩, ?_⟩
  rintro m E ⟨x, y, rfl, hx, hy, rfl, hg⟩
  refine ifI (fun h => ?_) (fun h => ?_)
  · have hm := fmod_rng (i := x) (m := y) (by omega)
    refine ⟨(by omega : y ≠ 0), rfl, rfl, _, ?_, _, _, rfl, hy, hm.1, rfl, ?_⟩
    · omega
    · rw [← hg, Int.fmod_eq_emod_of_nonneg x hy]
      exact gcd_step hx hy
  · have : y = 0 := by omega
    subst this
    have e : x = Int.gcd a b := by rw [← hg, Int.gcd_zero_right]; omega
    show Qd (D.int x)
    rw [e]
    exact q
theorem two_ok : 2 ≤ sizeLine := by rw [sizeLine_eq]; decide
/-- what made computes -/
theorem made_eq {a b : Int} (hb : b ≠ 0) (c : Int) (hc : c = if b < 0 then -(Int.gcd a b : Int) else (Int.gcd a b : Int)) : a.fdiv c = (Rat.divInt a b).num ∧ b.fdiv c = (Rat.divInt a b).den := by
  have hg : (Int.gcd a b : Int) ≠ 0 := fun z => hb (Int.gcd_eq_zero_iff.mp (show Int.gcd a b = 0 by omega)).2
  obtain ⟨x, hx⟩ : (Int.gcd a b : Int) ∣ a := Int.gcd_dvd_left ..
  obtain ⟨y, hy⟩ : (Int.gcd a b : Int) ∣ b := Int.gcd_dvd_right ..
  have hgp : 0 < (Int.gcd a b : Int) := by omega
  generalize hgg : (Int.gcd a b : Int) = g at *
  have e1 : (Rat.divInt a b).num = b.sign * x := by
    rw [Rat.num_divInt, Int.gcd_comm, hgg]
    conv => lhs; rw [hx]
    rw [Int.mul_comm b.sign, Int.mul_assoc, Int.mul_ediv_cancel_left _ hg, Int.mul_comm]
  have e2 : ((Rat.divInt a b).den : Int) = b.sign * y := by
    have hn : (b.natAbs : Int) = b.sign * b := by
      by_cases h : b < 0
      · rw [Int.sign_eq_neg_one_of_neg h]; omega
      · rw [Int.sign_eq_one_of_pos (by omega)]; omega
    rw [Rat.den_divInt, if_neg hb, Int.natCast_ediv, Int.gcd_comm, hgg, hn]
    rw [show b.sign * b = g * (b.sign * y) by rw [← Int.mul_assoc, Int.mul_comm g, Int.mul_assoc, ← hy], Int.mul_ediv_cancel_left _ hg]
  subst hc
  have s : b.sign = if b < 0 then -1 else 1 := by
    split
    · exact Int.sign_eq_neg_one_of_neg (by assumption)
    · exact Int.sign_eq_one_of_pos (by omega)
  rw [e1, e2, s]
  split
  · constructor
    · conv => lhs; rw [hx]
      rw [show g * x = (-g) * (-x) by rw [Int.neg_mul_neg], Int.mul_fdiv_cancel_left _ (by omega)]; omega
    · conv => lhs; rw [hy]
      rw [show g * y = (-g) * (-y) by rw [Int.neg_mul_neg], Int.mul_fdiv_cancel_left _ (by omega)]; omega
  · constructor
    · conv => lhs; rw [hx]
      rw [Int.mul_fdiv_cancel_left _ hg]; omega
    · conv => lhs; rw [hy]
      rw [Int.mul_fdiv_cancel_left _ hg]; omega
theorem len_made {CW CE : Addr} : ∀ (ds : List D) (Qd : D → Prop), pp_made CW CE ds Qd → ds.length = 2 := fun ds Qd ⟨a, b, e, _⟩ => by rw [e]; rfl
theorem hp_made {CW CE : Addr} : ∀ (ds : List D) (Qd : D → Prop), pp_made CW CE ds Qd → td_made CW CE { nx := fun _ => Qd (.a .non), rt := Qd } (env0 3 ds) := by
  rintro ds Qd ⟨a, b, rfl, hb, hz, q⟩
  have g0 : (Int.gcd a b : Int) ≠ 0 := fun z => hb (Int.gcd_eq_zero_iff.mp (show Int.gcd a b = 0 by omega)).2
  have gz : (Int.gcd a b) < 2 ^ 8999 := Nat.lt_of_le_of_lt (Nat.gcd_le_right _ (Int.natAbs_pos.mpr hb)) (Nat.lt_of_lt_of_le hz (Nat.pow_le_pow_right (by decide) (by decide)))
  refine ⟨rfl, a, b, rfl, rfl, ifI (fun h => ?_) (fun h => ?_)⟩
  · obtain ⟨e1, e2⟩ := made_eq (a := a) hb (-(Int.gcd a b : Int)) (by rw [if_pos h])
    refine ⟨rfl, divOk (by omega) (by rw [Int.natAbs_neg, Int.natAbs_natCast]; exact gz), divOk (by omega) (by rw [Int.natAbs_neg, Int.natAbs_natCast]; exact gz), rfl, two_ok, ?_⟩
    show Qd (.t [D.int (a.fdiv (-(Int.gcd a b : Int))), D.int (b.fdiv (-(Int.gcd a b : Int)))])
    rw [e1, e2]; exact q
  · obtain ⟨e1, e2⟩ := made_eq (a := a) hb (Int.gcd a b : Int) (by rw [if_neg h])
    refine ⟨divOk (by omega) (by rw [Int.natAbs_natCast]; exact gz), divOk (by omega) (by rw [Int.natAbs_natCast]; exact gz), rfl, two_ok, ?_⟩
    show Qd (.t [D.int (a.fdiv (Int.gcd a b : Int)), D.int (b.fdiv (Int.gcd a b : Int))])
    rw [e1, e2]; exact q
theorem mulS {i j : Int} (h1 : i.natAbs < 2 ^ 4000) (h2 : j.natAbs < 2 ^ 4000) : IntMulOk i j := by
  have a := log2_lt h1 (by decide)
  have b := log2_lt h2 (by decide)
  exact CMulW.ok (show _ + _ < 1000000 by omega)
theorem Sm.num {q : Rat} (h : Sm q) : q.num.natAbs < 2 ^ 4000 := Nat.lt_trans h.1 (Nat.pow_lt_pow_right (by decide) (by decide))
theorem Sm.den {q : Rat} (h : Sm q) : ((q.den : Int)).natAbs < 2 ^ 4000 := by rw [Int.natAbs_natCast]; exact Nat.lt_trans h.2 (Nat.pow_lt_pow_right (by decide) (by decide))
theorem den_ne (q : Rat) : (q.den : Int) ≠ 0 := by have := q.den_pos; omega
theorem mul_8000 {i j : Nat} (h1 : i < 2 ^ 2000) (h2 : j < 2 ^ 2000) : i * j < 2 ^ 8000 := by
  have a : i * j ≤ 2 ^ 2000 * 2 ^ 2000 := Nat.mul_le_mul (Nat.le_of_lt h1) (Nat.le_of_lt h2)
  rw [← Nat.pow_add] at a
  exact Nat.lt_of_le_of_lt a (Nat.pow_lt_pow_right (by decide) (by decide))
theorem divInt_cast (n : Int) (a b : Nat) : Rat.divInt n ((a : Int) * (b : Int)) = mkRat n (a * b) := by rw [← Int.natCast_mul]; rfl
theorem fr_whole (a : Int) : fr (a : Rat) = .t [D.int a, D.int 1] := by simp [fr]
theorem len_whole {CW CE : Addr} : ∀ (ds : List D) (Qd : D → Prop), pp_whole CW CE ds Qd → ds.length = 1 := fun ds Qd ⟨a, e, _⟩ => by rw [e]; rfl
theorem hp_whole {CW CE : Addr} : ∀ (ds : List D) (Qd : D → Prop), pp_whole CW CE ds Qd → td_whole CW CE { nx := fun _ => Qd (.a .non), rt := Qd } (env0 1 ds) := by
  rintro ds Qd ⟨a, rfl, q⟩
  rw [fr_whole] at q
  exact ⟨rfl, two_ok, q⟩
theorem len_plus {CW CE : Addr} : ∀ (ds : List D) (Qd : D → Prop), pp_plus CW CE ds Qd → ds.length = 2 := fun ds Qd ⟨a, b, e, _⟩ => by rw [e]; rfl
theorem hp_plus {CW CE : Addr} : ∀ (ds : List D) (Qd : D → Prop), pp_plus CW CE ds Qd → td_plus CW CE { nx := fun _ => Qd (.a .non), rt := Qd } (env0 2 ds) := by
  rintro ds Qd ⟨a, b, rfl, ha, hb, q⟩
  refine ⟨_, rfl, _, rfl, mulS ha.num hb.den, _, rfl, _, rfl, mulS hb.num ha.den, _, rfl, _, rfl, mulS ha.den hb.den, rfl, _, _, rfl, Int.mul_ne_zero (den_ne a) (den_ne b), ?_, ?_⟩
  · rw [Int.natAbs_mul]; exact mul_8000 ha.2 hb.2
  · rw [divInt_cast, ← Rat.add_def']; exact q
theorem len_minus {CW CE : Addr} : ∀ (ds : List D) (Qd : D → Prop), pp_minus CW CE ds Qd → ds.length = 2 := fun ds Qd ⟨a, b, e, _⟩ => by rw [e]; rfl
theorem hp_minus {CW CE : Addr} : ∀ (ds : List D) (Qd : D → Prop), pp_minus CW CE ds Qd → td_minus CW CE { nx := fun _ => Qd (.a .non), rt := Qd } (env0 2 ds) := by
  rintro ds Qd ⟨a, b, rfl, ha, hb, q⟩
  refine ⟨_, rfl, _, rfl, mulS ha.num hb.den, _, rfl, _, rfl, mulS hb.num ha.den, _, rfl, _, rfl, mulS ha.den hb.den, rfl, _, _, rfl, Int.mul_ne_zero (den_ne a) (den_ne b), ?_, ?_⟩
  · rw [Int.natAbs_mul]; exact mul_8000 ha.2 hb.2
  · rw [divInt_cast, ← Rat.sub_def']; exact q
theorem len_times {CW CE : Addr} : ∀ (ds : List D) (Qd : D → Prop), pp_times CW CE ds Qd → ds.length = 2 := fun ds Qd ⟨a, b, e, _⟩ => by rw [e]; rfl
theorem hp_times {CW CE : Addr} : ∀ (ds : List D) (Qd : D → Prop), pp_times CW CE ds Qd → td_times CW CE { nx := fun _ => Qd (.a .non), rt := Qd } (env0 2 ds) := by
  rintro ds Qd ⟨a, b, rfl, ha, hb, q⟩
  refine ⟨_, rfl, _, rfl, mulS ha.num hb.num, _, rfl, _, rfl, mulS ha.den hb.den, rfl, _, _, rfl, Int.mul_ne_zero (den_ne a) (den_ne b), ?_, ?_⟩
  · rw [Int.natAbs_mul]; exact mul_8000 ha.2 hb.2
  · rw [divInt_cast, ← Rat.mul_def']; exact q
theorem num_ne {q : Rat} (h : q ≠ 0) : q.num ≠ 0 := fun z => h (Rat.num_eq_zero.mp z)
theorem over_eq (a b : Rat) : Rat.divInt (a.num * b.den) (a.den * b.num) = a / b := by
  rw [Rat.div_def, Rat.inv_def, ← Rat.divInt_mul_divInt]
  congr 1
  exact (Rat.mkRat_self a)
theorem len_over {CW CE : Addr} : ∀ (ds : List D) (Qd : D → Prop), pp_over CW CE ds Qd → ds.length = 2 := fun ds Qd ⟨a, b, e, _⟩ => by rw [e]; rfl
theorem hp_over {CW CE : Addr} : ∀ (ds : List D) (Qd : D → Prop), pp_over CW CE ds Qd → td_over CW CE { nx := fun _ => Qd (.a .non), rt := Qd } (env0 2 ds) := by
  rintro ds Qd ⟨a, b, rfl, ha, hb, h0, q⟩
  refine ⟨_, rfl, _, rfl, mulS ha.num hb.den, _, rfl, _, rfl, mulS ha.den hb.num, rfl, _, _, rfl, Int.mul_ne_zero (den_ne a) (num_ne h0), ?_, ?_⟩
  · rw [Int.natAbs_mul, Int.natAbs_natCast]; exact mul_8000 ha.2 hb.1
  · rw [over_eq]; exact q
theorem len_is_less {CW CE : Addr} : ∀ (ds : List D) (Qd : D → Prop), pp_is_less CW CE ds Qd → ds.length = 2 := fun ds Qd ⟨a, b, e, _⟩ => by rw [e]; rfl
theorem hp_is_less {CW CE : Addr} : ∀ (ds : List D) (Qd : D → Prop), pp_is_less CW CE ds Qd → td_is_less CW CE { nx := fun _ => Qd (.a .non), rt := Qd } (env0 2 ds) := by
  rintro ds Qd ⟨a, b, rfl, ha, hb, q⟩
  refine ⟨_, rfl, _, rfl, mulS ha.num hb.den, _, rfl, _, rfl, mulS hb.num ha.den, ?_⟩
  have e : decide (a < b) = decide (a.num * b.den < b.num * a.den) := by rw [decide_eq_decide]; exact Rat.lt_iff a b
  rw [e] at q
  exact q
theorem len_is_number {CW CE : Addr} : ∀ (ds : List D) (Qd : D → Prop), pp_is_number CW CE ds Qd → ds.length = 1 := fun ds Qd ⟨a, e, _⟩ => by rw [e]; rfl
theorem hp_is_number {CW CE : Addr} : ∀ (ds : List D) (Qd : D → Prop), pp_is_number CW CE ds Qd → td_is_number CW CE { nx := fun _ => Qd (.a .non), rt := Qd } (env0 1 ds) := by
  rintro ds Qd ⟨a, rfl, q⟩
  exact ⟨true, rfl, false, rfl, q⟩
theorem len_is_fraction {CW CE : Addr} : ∀ (ds : List D) (Qd : D → Prop), pp_is_fraction CW CE ds Qd → ds.length = 1 := fun ds Qd ⟨a, e, _⟩ => by rw [e]; rfl
theorem hp_is_fraction {CW CE : Addr} : ∀ (ds : List D) (Qd : D → Prop), pp_is_fraction CW CE ds Qd → td_is_fraction CW CE { nx := fun _ => Qd (.a .non), rt := Qd } (env0 2 ds) := by
  rintro ds Qd ⟨a, rfl, q⟩
  have one : 1 < sizeLine := by rw [sizeLine_eq]; decide
  have zero : 0 < sizeLine := by rw [sizeLine_eq]; decide
  have hd : (1 : Int) ≤ a.den := by have := a.den_pos; omega
  have hg : Int.gcd a.num a.den = 1 := a.reduced
  have e1 : decide ((1 : Int) ≤ a.den) = true := decide_eq_true hd
  refine ⟨true, rfl, rfl, ⟨?_, rfl, rfl, a.num, rfl, rfl, zero, rfl, a.den, rfl, rfl, one, [true, true], rfl, ?_⟩⟩
  · intro i hi
    rw [List.mem_singleton.mp hi]; rfl
  · refine ⟨_, rfl, ?_⟩
    refine ifK e1 ⟨_, rfl, _, rfl, rfl, _, _, rfl, rfl, ?_⟩
    show Qd (D.bl (decide (V.int (Int.gcd a.num a.den : Nat) = V.int 1)))
    rw [hg]
    exact q
theorem len_total {CW CE : Addr} : ∀ (ds : List D) (Qd : D → Prop), pp_total CW CE ds Qd → ds.length = 1 := fun ds Qd ⟨a, e, _⟩ => by rw [e]; rfl
theorem sum_take_succ' {qs : List Rat} {n : Nat} {q : Rat} (h : qs[n]? = some q) : (qs.take (n + 1)).sum = (qs.take n).sum + q := by
  rw [List.take_add_one, h]
  simp [Rat.add_zero]
theorem hp_total {CW CE : Addr} : ∀ (ds : List D) (Qd : D → Prop), pp_total CW CE ds Qd → td_total CW CE { nx := fun _ => Qd (.a .non), rt := Qd } (env0 3 ds) := by
  rintro ds Qd ⟨qs, rfl, h1, h2, q⟩
  have go : ∀ (xs : List Rat) (acc : Rat) (z : Slot), (∀ x ∈ xs, Sm x) → (∀ n, Sm (acc + (xs.take n).sum)) → Qd (fr (acc + xs.sum)) → tdForL (tgName 2) (td_total_b1 CW CE) (xs.map fr) { nx := td_total_s2 CW CE { nx := fun _ => Qd (.a .non), rt := Qd }, rt := Qd } [.sh (.l (qs.map fr)), .sh (fr acc), z] := by
    intro xs
    induction xs with
    | nil => intro acc z _ _ q; rw [List.sum_nil, Rat.add_zero] at q; exact q
    | cons x xs ih =>
      intro acc z hx hs q
      refine ⟨rfl, acc, x, rfl, by simpa [Rat.add_zero] using hs 0, hx x (by simp), rfl, ?_⟩
      refine ih (acc + x) _ (fun y hy => hx y (by simp [hy])) (fun n => ?_) ?_
      · have := hs (n + 1)
        rw [List.take_succ_cons, List.sum_cons, ← Rat.add_assoc] at this
        exact this
      · rw [List.sum_cons, ← Rat.add_assoc] at q
        exact q
  refine ⟨rfl, rfl, ?_⟩
  have z : fr 0 = .t [D.int 0, D.int 1] := by simp [fr]
  have := go qs 0 .un h1 (fun n => by rw [Rat.zero_add]; exact h2 n) (by rw [Rat.zero_add]; exact q)
  rw [z] at this
  exact this
end DL
set_option Elab.async false
set_option linter.all false
set_option maxRecDepth 100000
set_option exponentiation.threshold 20000
namespace DL
open PySem PySem.Spec PyProof.Rows L2
/-! webs as data; small laws for loops and comprehensions -/
abbrev Pr := Int × Int
def prD (p : Pr) : D := .t [D.int p.1, D.int p.2]
def stD (s : List Pr) : D := .t (s.map prD)
def dealerD (d : List (List Pr)) : D := .t (d.map stD)
abbrev Dl := List (List (List Pr))
def dlD (ds : Dl) : D := .t (ds.map dealerD)
def webD (CW : Addr) (c : Int) (ds : Dl) : D := .i CW [("cups", D.int c), ("dealers", dlD ds)]
/-- the step's pair -/
def at3 (ds : Dl) (h s n : Nat) : Option Pr := do
  let d ← ds[h]?
  let st ← d[s]?
  st[n]?
def stepD (x : Nat × Nat × Nat) : D := .t [D.int x.1, D.int x.2.1, D.int x.2.2]
def stepK (x : Nat × Nat × Nat) : NestedKey := .tup [.num x.1, .num x.2.1, .num x.2.2]
theorem stepK_of (x : Nat × Nat × Nat) : ofKey (stepK x) = stepD x := rfl
theorem stepK_to (x : Nat × Nat × Nat) : keyOf (stepD x) = some (stepK x) := rfl
/-- p before q, by the first, then by the second -/
def lexP (p q : Pr) : Prop := p.1 < q.1 ∨ p.1 = q.1 ∧ p.2 < q.2
/-- webs as the law draws them -/
structure WOk (c : Int) (ds : Dl) : Prop where
  c1 : 1 ≤ c
  c2 : c ≤ 3
  h1 : 1 ≤ ds.length
  h2 : ds.length ≤ 3
  d1 : ∀ d ∈ ds, 1 ≤ d.length
  d2 : ∀ d ∈ ds, d.length ≤ 3
  s1 : ∀ d ∈ ds, ∀ st ∈ d, 1 ≤ st.length
  s2 : ∀ d ∈ ds, ∀ st ∈ d, st.length ≤ 3
  dr : ∀ d ∈ ds, ∀ st ∈ d, ∀ p ∈ st, -c ≤ p.1 ∧ p.1 < ds.length
  nx : ∀ d ∈ ds, ∀ st ∈ d, ∀ p ∈ st, 0 ≤ p.2 ∧ p.2 < d.length
  up : ∀ d ∈ ds, ∀ st ∈ d, st.Pairwise lexP
  rk : ∃ rank : Nat → Nat, ∀ (h s : Nat) (d : List (List Pr)) (st : List Pr), ds[h]? = some d → d[s]? = some st → ∃ p ∈ st, p.2 = ((s + 1) % d.length : Nat) ∧ (p.1 < 0 ∨ rank p.1.toNat < rank h)
theorem sz {n : Nat} (h : n ≤ 16777216) : n ≤ sizeLine := by rw [sizeLine_eq]; exact h
theorem szl {n : Nat} (h : n < 16777216) : n < sizeLine := by rw [sizeLine_eq]; exact h
/-- a comprehension without tests whose element is f -/
theorem lcL_map {g : TDG} {te : TDE} {E : DEnv} (f : D → D) (fl : Fl) (ok : fl.ok = true) : ∀ (xs acc : List D) (Q : List D → Prop), (∀ x ∈ xs, ∀ C : D → Fl → Prop, C (f x) fl → g x E fun E' => te E' C) → acc.length + xs.length ≤ sizeLine → Q (acc ++ xs.map f) → tdLcL g tdYes te E xs acc Q
  | [], acc, Q, _, _, q => by simpa [tdLcL] using q
  | x :: xs, acc, Q, h, hz, q => by
    rw [List.length_cons] at hz
    show g x E fun E' => te E' fun d f => f.ok = true ∧ acc.length < sizeLine ∧ tdLcL g tdYes te E xs (acc ++ [d]) Q
    exact h x List.mem_cons_self _ ⟨ok, by omega, lcL_map f fl ok xs (acc ++ [f x]) Q (fun y hy => h y (List.mem_cons_of_mem _ hy)) (by rw [List.length_append]; simp; omega) (by simpa using q)⟩
/-- .. with a test -/
theorem lcL_filter {g : TDG} {te : TDE} {tt : TDT} {E : DEnv} (f : D → D) (b : D → Bool) (fl : Fl) (ok : fl.ok = true) : ∀ (xs acc : List D) (Q : List D → Prop), (∀ x ∈ xs, ∀ (C : D → Fl → Prop) (Z : Prop), (b x = true → C (f x) fl) → (b x = false → Z) → g x E fun E' => tt E' fun k => if k = true then te E' C else Z) → acc.length + xs.length ≤ sizeLine → Q (acc ++ (xs.filter b).map f) → tdLcL g tt te E xs acc Q
  | [], acc, Q, _, _, q => by simpa [tdLcL] using q
  | x :: xs, acc, Q, h, hz, q => by
    rw [List.length_cons] at hz
    show g x E fun E' => tt E' fun k => if k = true then te E' fun d f => f.ok = true ∧ acc.length < sizeLine ∧ tdLcL g tt te E xs (acc ++ [d]) Q else tdLcL g tt te E xs acc Q
    refine h x List.mem_cons_self _ _ (fun hb => ⟨ok, by omega, lcL_filter f b fl ok xs (acc ++ [f x]) Q (fun y hy => h y (List.mem_cons_of_mem _ hy)) (by rw [List.length_append]; simp; omega) (by rw [List.filter_cons_of_pos hb] at q; simpa using q)⟩) fun hb => lcL_filter f b fl ok xs acc Q (fun y hy => h y (List.mem_cons_of_mem _ hy)) (by omega) (by rw [List.filter_cons_of_neg (by rw [hb]; decide)] at q; exact q)
theorem ups_mem {n : Nat} : ∀ {lo : Int} {x : D}, x ∈ ups lo n → ∃ i : Nat, i < n ∧ x = D.int (lo + i) := by
  intro lo x h
  obtain ⟨i, hi, e⟩ := List.getElem_of_mem h
  rw [ups_length] at hi
  refine ⟨i, hi, ?_⟩
  have := ups_get n lo i hi
  rw [List.getElem?_eq_getElem (by rw [ups_length]; exact hi)] at this
  rw [← e]
  exact Option.some.inj this
theorem all_bools {α : Type} (xs : List α) : boolsOf (xs.map fun _ => D.bl true) = some (xs.map fun _ => true) := by
  induction xs with
  | nil => rfl
  | cons x xs ih => show (boolsOf (xs.map fun _ => D.bl true)).map (true :: ·) = _; rw [ih]; rfl
theorem all_true {α : Type} (xs : List α) : (xs.map fun _ => true).all id = true := by
  induction xs with
  | nil => rfl
  | cons x xs ih => simp
end DL
set_option Elab.async false
set_option linter.all false
set_option maxRecDepth 100000
set_option exponentiation.threshold 20000
namespace DL
open PySem PySem.Spec PyProof.Rows L2
def pp_is_within (CW CE : Addr) : PP := fun ds Q => ∃ i a b : Int, ds = [D.int i, D.int a, D.int b] ∧ Q (D.bl (decide (a ≤ i ∧ i ≤ b)))
def pp_is_pair (CW CE : Addr) : PP := fun ds Q => ∃ xs : List D, ds = [.t xs] ∧ xs.length = 2 ∧ Q (D.bl true)
def pp_is_triple (CW CE : Addr) : PP := fun ds Q => ∃ xs : List D, ds = [.t xs] ∧ xs.length = 3 ∧ Q (D.bl true)
def pp_is_rising (CW CE : Addr) : PP := fun ds Q => ∃ st : List Pr, ds = [stD st] ∧ st.length ≤ 100 ∧ st.Pairwise lexP ∧ Q (D.bl true)
def pp_is_house (CW CE : Addr) : PP := fun ds Q => ∃ (c : Int) (dl : Dl) (h : Nat), ds = [webD CW c dl, D.int h] ∧ h < dl.length ∧ Q (D.bl true)
def pp_is_step (CW CE : Addr) : PP := fun ds Q => ∃ (c : Int) (dl : Dl) (x : Nat × Nat × Nat), ds = [webD CW c dl, stepD x] ∧ (at3 dl x.1 x.2.1 x.2.2).isSome = true ∧ Q (D.bl true)
def pp_is_load (CW CE : Addr) : PP := fun ds Q => ∃ (c : Int) (dl : Dl) (ns : List Int), ds = [webD CW c dl, .t (ns.map D.int)] ∧ ns.length = dl.length ∧ ns.length ≤ 100 ∧ (∀ n ∈ ns, 0 ≤ n) ∧ Q (D.bl true)
def pp_check_load (CW CE : Addr) : PP := fun ds Q => ∃ (c : Int) (dl : Dl) (ns : List Int), ds = [webD CW c dl, .t (ns.map D.int)] ∧ ns.length = dl.length ∧ ns.length ≤ 100 ∧ (∀ n ∈ ns, 0 ≤ n) ∧ Q (.a .non)
def PrOk (q : Rat) : Prop := q.num.natAbs ≤ 10 ^ 9 ∧ q.den ≤ 10 ^ 6
def pp_is_price (CW CE : Addr) : PP := fun ds Q => ∃ q : Rat, ds = [fr q] ∧ PrOk q ∧ Q (D.bl true)
abbrev Prs := List ((Nat × Nat × Nat) × Rat)
def pricesD (ps : Prs) : D := .d (ps.map fun x => (stepK x.1, fr x.2))
structure PrsOk (dl : Dl) (ps : Prs) : Prop where
  at_ : ∀ x ∈ ps, (at3 dl x.1.1 x.1.2.1 x.1.2.2).isSome = true
  ok : ∀ x ∈ ps, PrOk x.2
  ln : ps.length ≤ 1000
def pp_check_prices (CW CE : Addr) : PP := fun ds Q => ∃ (c : Int) (dl : Dl) (ps : Prs), ds = [webD CW c dl, pricesD ps] ∧ PrsOk dl ps ∧ Q (.a .non)
def td_is_within (CW CE : Addr) : TDS := (tdRet (tdAndV (tdCall (pp_is_number CW CE) (tdCons (tdVar 0) tdNil)) (tdChain rdLe rdLe (tdVar 1) (tdVar 0) (tdVar 2))))
def td_is_pair (CW CE : Addr) : TDS := (tdRet (tdAndV (tdIsi isTuple (tdVar 0)) (tdOp (rdEq id) (tdCB rdLen (tdCons (tdVar 0) tdNil)) (tdC (D.int 2)))))
def td_is_triple (CW CE : Addr) : TDS := (tdRet (tdAndV (tdIsi isTuple (tdVar 0)) (tdOp (rdEq id) (tdCB rdLen (tdCons (tdVar 0) tdNil)) (tdC (D.int 3)))))
def td_is_rising (CW CE : Addr) : TDS := (tdRet (tdCB rdAll (tdCons (tdLc (tdiRng2 (tdCons (tdC (D.int 1)) (tdCons (tdCB rdLen (tdCons (tdVar 0) tdNil)) tdNil))) (tgName 1) tdYes (tdOp rdLt (tdOp rdIxA (tdVar 0) (tdOp rdSub (tdVar 1) (tdC (D.int 1)))) (tdOp rdIxA (tdVar 0) (tdVar 1))) [1]) tdNil)))
def td_is_house (CW CE : Addr) : TDS := (tdRet (tdCall (pp_is_within CW CE) (tdCons (tdVar 1) (tdCons (tdC (D.int 0)) (tdCons (tdOp rdSub (tdCB rdLen (tdCons (tdFld CW "dealers" (tdVar 0)) tdNil)) (tdC (D.int 1))) tdNil)))))
def td_is_step_s2 (CW CE : Addr) : TDS := (tdRet (tdAndV (tdCall (pp_is_within CW CE) (tdCons (tdOp rdIxA (tdVar 1) (tdC (D.int 1))) (tdCons (tdC (D.int 0)) (tdCons (tdOp rdSub (tdCB rdLen (tdCons (tdVar 2) tdNil)) (tdC (D.int 1))) tdNil)))) (tdCall (pp_is_within CW CE) (tdCons (tdOp rdIxA (tdVar 1) (tdC (D.int 2))) (tdCons (tdC (D.int 0)) (tdCons (tdOp rdSub (tdCB rdLen (tdCons (tdOp rdIxA (tdVar 2) (tdOp rdIxA (tdVar 1) (tdC (D.int 1)))) tdNil)) (tdC (D.int 1))) tdNil))))))
def td_is_step_s1 (CW CE : Addr) : TDS := (tdSeq (tdSet 2 (tdOp rdIxA (tdFld CW "dealers" (tdVar 0)) (tdOp rdIxA (tdVar 1) (tdC (D.int 0))))) (td_is_step_s2 CW CE))
def td_is_step (CW CE : Addr) : TDS := (tdSeq (tdIfS (tdOr (tdNot (tdB (tdCall (pp_is_triple CW CE) (tdCons (tdVar 1) tdNil)))) (tdNot (tdB (tdCall (pp_is_house CW CE) (tdCons (tdVar 0) (tdCons (tdOp rdIxA (tdVar 1) (tdC (D.int 0))) tdNil)))))) (tdRet (tdC (D.bl false))) tdNext) (td_is_step_s1 CW CE))
def td_is_load_s1 (CW CE : Addr) : TDS := (tdRet (tdCB rdAll (tdCons (tdLc (tdiT (tdVar 1)) (tgName 2) tdYes (tdAndV (tdCall (pp_is_number CW CE) (tdCons (tdVar 2) tdNil)) (tdOp rdGe (tdVar 2) (tdC (D.int 0)))) [2]) tdNil)))
def td_is_load (CW CE : Addr) : TDS := (tdSeq (tdIfS (tdOr (tdNot (tdB (tdIsi isTuple (tdVar 1)))) (tdB (tdOp (rdEq not) (tdCB rdLen (tdCons (tdVar 1) tdNil)) (tdCB rdLen (tdCons (tdFld CW "dealers" (tdVar 0)) tdNil))))) (tdRet (tdC (D.bl false))) tdNext) (td_is_load_s1 CW CE))
def td_check_load (CW CE : Addr) : TDS := (tdIfS (tdNot (tdB (tdCall (pp_is_load CW CE) (tdCons (tdVar 0) (tdCons (tdVar 1) tdNil))))) tdNever tdNext)
def td_is_price (CW CE : Addr) : TDS := (tdRet (tdAndV (tdCall (pp_is_fraction CW CE) (tdCons (tdVar 0) tdNil)) (tdAndV (tdOp rdLe (tdCB rdAbs (tdCons (tdOp rdIxA (tdVar 0) (tdC (D.int 0))) tdNil)) (tdC (D.int 1000000000))) (tdOp rdLe (tdOp rdIxA (tdVar 0) (tdC (D.int 1))) (tdC (D.int 1000000))))))
def td_check_prices (CW CE : Addr) : TDS := (tdIfS (tdOr (tdNot (tdB (tdIsi isDict (tdVar 1)))) (tdNot (tdB (tdCB rdAll (tdCons (tdLc (tdiKeys (tdVar 1)) (tgName 2) tdYes (tdAndV (tdCall (pp_is_step CW CE) (tdCons (tdVar 0) (tdCons (tdVar 2) tdNil))) (tdCall (pp_is_price CW CE) (tdCons (tdOp rdIxA (tdVar 1) (tdVar 2)) tdNil))) [2]) tdNil))))) tdNever tdNext)
theorem len_is_within {CW CE : Addr} : ∀ (ds : List D) (Qd : D → Prop), pp_is_within CW CE ds Qd → ds.length = 3 := fun ds Qd ⟨a, _, _, e, _⟩ => by rw [e]; rfl
theorem hp_is_within {CW CE : Addr} : ∀ (ds : List D) (Qd : D → Prop), pp_is_within CW CE ds Qd → td_is_within CW CE { nx := fun _ => Qd (.a .non), rt := Qd } (env0 3 ds) := by
  rintro ds Qd ⟨i, a, b, rfl, q⟩
  refine ⟨rfl, i, rfl, ?_⟩
  refine ifI (p := a ≤ i) (fun h => ?_) (fun h => ?_)
  · show Qd (D.bl (decide (i ≤ b)))
    have : decide (i ≤ b) = decide (a ≤ i ∧ i ≤ b) := by rw [decide_eq_decide]; exact ⟨fun z => ⟨h, z⟩, fun z => z.2⟩
    rw [this]; exact q
  · show Qd (D.bl false)
    rw [decide_eq_false fun z => h z.1] at q
    exact q
theorem len_is_pair {CW CE : Addr} : ∀ (ds : List D) (Qd : D → Prop), pp_is_pair CW CE ds Qd → ds.length = 1 := fun ds Qd ⟨a, e, _⟩ => by rw [e]; rfl
theorem hp_is_pair {CW CE : Addr} : ∀ (ds : List D) (Qd : D → Prop), pp_is_pair CW CE ds Qd → td_is_pair CW CE { nx := fun _ => Qd (.a .non), rt := Qd } (env0 1 ds) := by
  rintro ds Qd ⟨xs, rfl, h, q⟩
  refine ⟨true, rfl, rfl, ?_⟩
  show Qd (D.bl (decide (V.int xs.length = V.int 2)))
  rw [h]; exact q
theorem len_is_triple {CW CE : Addr} : ∀ (ds : List D) (Qd : D → Prop), pp_is_triple CW CE ds Qd → ds.length = 1 := fun ds Qd ⟨a, e, _⟩ => by rw [e]; rfl
theorem hp_is_triple {CW CE : Addr} : ∀ (ds : List D) (Qd : D → Prop), pp_is_triple CW CE ds Qd → td_is_triple CW CE { nx := fun _ => Qd (.a .non), rt := Qd } (env0 1 ds) := by
  rintro ds Qd ⟨xs, rfl, h, q⟩
  refine ⟨true, rfl, rfl, ?_⟩
  show Qd (D.bl (decide (V.int xs.length = V.int 3)))
  rw [h]; exact q
theorem lexLt_pr {p q : Pr} (h : lexP p q) : HT.lexLt [p.1, p.2] [q.1, q.2] = true := by
  unfold lexP at h
  unfold HT.lexLt
  rcases h with h | ⟨h1, h2⟩
  · simp [h]
    exact .inl (Int.ne_of_lt h)
  · simp [h1, h2, HT.lexLt]
    exact Int.ne_of_lt h2
theorem len_is_rising {CW CE : Addr} : ∀ (ds : List D) (Qd : D → Prop), pp_is_rising CW CE ds Qd → ds.length = 1 := fun ds Qd ⟨a, e, _⟩ => by rw [e]; rfl
theorem unAt1 {E : DEnv} {i : Nat} (h : E[i]? = some .un) : unAt E [i] := fun j hj => by rw [List.mem_singleton.mp hj]; exact h
theorem hp_is_rising {CW CE : Addr} : ∀ (ds : List D) (Qd : D → Prop), pp_is_rising CW CE ds Qd → td_is_rising CW CE { nx := fun _ => Qd (.a .non), rt := Qd } (env0 2 ds) := by
  rintro ds Qd ⟨st, rfl, hl, hp, q⟩
  refine ⟨unAt1 rfl, ?_⟩
  show (-(2 ^ 62) ≤ (1 : Int) ∧ _) ∧ _
  have e1 : ((st.map prD).length : Int) = st.length := by rw [List.length_map]
  refine ⟨⟨by decide, by decide, by rw [e1]; omega, by rw [e1]; omega⟩, ?_⟩
  refine lcL_map (fun _ => D.bl true) .sh rfl _ _ _ (fun x hx C hc => ?_) ?_ ?_
  · obtain ⟨i, hi, rfl⟩ := ups_mem hx
    rw [e1] at hi
    have h1 : i < st.length := by omega
    have h2 : i + 1 < st.length := by omega
    refine ⟨prD st[i], atI_nn (by omega) ?_, prD st[i + 1], atI_nn (by omega) ?_, ?_⟩
    · rw [show ((1 : Int) + i - 1).toNat = i by omega, List.getElem?_map, List.getElem?_eq_getElem h1]; rfl
    · rw [show ((1 : Int) + i).toNat = i + 1 by omega, List.getElem?_map, List.getElem?_eq_getElem h2]; rfl
    · show C (D.bl (HT.lexLt [st[i].1, st[i].2] [st[i + 1].1, st[i + 1].2])) .sh
      rw [lexLt_pr (List.pairwise_iff_getElem.mp hp i (i + 1) h1 h2 (by omega))]
      exact hc
  · rw [ups_length, e1]; exact sz (by simp; omega)
  · refine ⟨_, all_bools _, ?_⟩
    rw [all_true]
    exact q
theorem ds_len (dl : Dl) : ((dl.map dealerD).length : Int) = dl.length := by rw [List.length_map]
theorem len_is_house {CW CE : Addr} : ∀ (ds : List D) (Qd : D → Prop), pp_is_house CW CE ds Qd → ds.length = 2 := fun ds Qd ⟨_, _, _, e, _⟩ => by rw [e]; rfl
theorem hp_is_house {CW CE : Addr} : ∀ (ds : List D) (Qd : D → Prop), pp_is_house CW CE ds Qd → td_is_house CW CE { nx := fun _ => Qd (.a .non), rt := Qd } (env0 2 ds) := by
  rintro ds Qd ⟨c, dl, h, rfl, hh, q⟩
  refine ⟨rfl, dlD dl, rfl, rfl, h, 0, ((dl.map dealerD).length : Nat) - 1, rfl, ?_⟩
  rw [decide_eq_true (show (0 : Int) ≤ h ∧ (h : Int) ≤ ((dl.map dealerD).length : Nat) - 1 by rw [ds_len]; omega)]
  exact q
theorem at3_some {dl : Dl} {h s n : Nat} {p : Pr} (e : at3 dl h s n = some p) : ∃ d st, dl[h]? = some d ∧ d[s]? = some st ∧ st[n]? = some p := by
  unfold at3 at e
  cases e1 : dl[h]? with
  | none => rw [e1] at e; cases e
  | some d =>
    rw [e1] at e
    cases e2 : d[s]? with
    | none => simp [e2] at e
    | some st => exact ⟨d, st, rfl, e2, by simpa [e2] using e⟩
theorem getMap {α : Type} {xs : List α} {f : α → D} {i : Nat} {x : α} (e : xs[i]? = some x) : atI (xs.map f) (i : Int) = some (f x) := atI_nn (by omega) (by rw [show ((i : Int)).toNat = i by omega, List.getElem?_map, e]; rfl)
theorem len_is_step {CW CE : Addr} : ∀ (ds : List D) (Qd : D → Prop), pp_is_step CW CE ds Qd → ds.length = 2 := fun ds Qd ⟨_, _, _, e, _⟩ => by rw [e]; rfl
theorem hp_is_step {CW CE : Addr} : ∀ (ds : List D) (Qd : D → Prop), pp_is_step CW CE ds Qd → td_is_step CW CE { nx := fun _ => Qd (.a .non), rt := Qd } (env0 3 ds) := by
  rintro ds Qd ⟨c, dl, ⟨h, s, n⟩, rfl, e, q⟩
  obtain ⟨p, e⟩ := Option.isSome_iff_exists.mp e
  have e : at3 dl h s n = some p := e
  obtain ⟨d, st, e1, e2, e3⟩ := at3_some e
  have l1 := (List.getElem?_eq_some_iff.mp e1).1
  have l2 := (List.getElem?_eq_some_iff.mp e2).1
  have l3 := (List.getElem?_eq_some_iff.mp e3).1
  refine ⟨rfl, _, rfl, rfl, D.int h, rfl, rfl, c, dl, h, rfl, l1, ?_⟩
  refine ⟨rfl, dlD dl, rfl, D.int h, rfl, dealerD d, getMap e1, rfl, ?_⟩
  refine ⟨D.int s, rfl, rfl, s, 0, ((d.map stD).length : Nat) - 1, rfl, ?_⟩
  refine ifK (decide_eq_true (show (0 : Int) ≤ s ∧ (s : Int) ≤ ((d.map stD).length : Nat) - 1 by rw [List.length_map]; omega)) ?_
  refine ⟨D.int n, rfl, D.int s, rfl, stD st, getMap e2, rfl, n, 0, ((st.map prD).length : Nat) - 1, rfl, ?_⟩
  rw [decide_eq_true (show (0 : Int) ≤ n ∧ (n : Int) ≤ ((st.map prD).length : Nat) - 1 by rw [List.length_map]; omega)]
  exact q
theorem len_is_load {CW CE : Addr} : ∀ (ds : List D) (Qd : D → Prop), pp_is_load CW CE ds Qd → ds.length = 2 := fun ds Qd ⟨_, _, _, e, _⟩ => by rw [e]; rfl
theorem hp_is_load {CW CE : Addr} : ∀ (ds : List D) (Qd : D → Prop), pp_is_load CW CE ds Qd → td_is_load CW CE { nx := fun _ => Qd (.a .non), rt := Qd } (env0 3 ds) := by
  rintro ds Qd ⟨c, dl, ns, rfl, hl, hz, hn, q⟩
  refine ⟨true, rfl, rfl, dlD dl, rfl, rfl, ?_⟩
  refine ifNe (fun z => absurd ?_ z) (fun _ => ?_)
  · rw [List.length_map, List.length_map, hl]
  refine ⟨unAt1 rfl, rfl, ?_⟩
  refine lcL_map (fun _ => D.bl true) .sh rfl _ _ _ (fun x hx C hc => ?_) ?_ ?_
  · obtain ⟨n, hnn, rfl⟩ := List.mem_map.mp hx
    refine ⟨rfl, n, rfl, ?_⟩
    show C (D.bl (decide ((0 : Int) ≤ n))) .sh
    rw [decide_eq_true (hn n hnn)]
    exact hc
  · exact sz (by rw [List.length_map]; simp; omega)
  · refine ⟨_, all_bools _, ?_⟩
    rw [all_true]
    exact q
theorem len_check_load {CW CE : Addr} : ∀ (ds : List D) (Qd : D → Prop), pp_check_load CW CE ds Qd → ds.length = 2 := fun ds Qd ⟨_, _, _, e, _⟩ => by rw [e]; rfl
theorem hp_check_load {CW CE : Addr} : ∀ (ds : List D) (Qd : D → Prop), pp_check_load CW CE ds Qd → td_check_load CW CE { nx := fun _ => Qd (.a .non), rt := Qd } (env0 2 ds) := by
  rintro ds Qd ⟨c, dl, ns, rfl, hl, hz, hn, q⟩
  exact ⟨rfl, c, dl, ns, rfl, hl, hz, hn, q⟩
theorem len_is_price {CW CE : Addr} : ∀ (ds : List D) (Qd : D → Prop), pp_is_price CW CE ds Qd → ds.length = 1 := fun ds Qd ⟨_, e, _⟩ => by rw [e]; rfl
theorem hp_is_price {CW CE : Addr} : ∀ (ds : List D) (Qd : D → Prop), pp_is_price CW CE ds Qd → td_is_price CW CE { nx := fun _ => Qd (.a .non), rt := Qd } (env0 1 ds) := by
  rintro ds Qd ⟨p, rfl, h, q⟩
  obtain ⟨h1, h2⟩ := h
  refine ⟨rfl, p, rfl, D.int p.num, rfl, ?_⟩
  refine ifK (decide_eq_true (show (if p.num < 0 then -p.num else p.num) ≤ 1000000000 by split <;> omega)) ⟨D.int p.den, rfl, ?_⟩
  show Qd (D.bl (decide ((p.den : Int) ≤ 1000000)))
  rw [decide_eq_true (show (p.den : Int) ≤ 1000000 by omega)]
  exact q
theorem stepK_depth (x : Nat × Nat × Nat) : (stepK x).depth ≤ 8 := by
  show NestedKey.depth (.tup [.num x.1, .num x.2.1, .num x.2.2]) ≤ 8
  simp [NestedKey.depth, NestedKey.depthAll]
theorem kk_steps {ks : List NestedKey} (h : ∀ k ∈ ks, ∃ x, k = stepK x) : KKind ks := .inr fun k hk => by
  obtain ⟨x, rfl⟩ := h k hk
  exact ⟨⟨_, rfl⟩, stepK_depth x⟩
theorem aget_mem {α : Type} {kvs : List (NestedKey × α)} {k : NestedKey} (h : k ∈ kvs.map (·.1)) : ∃ v, aget kvs k = some v ∧ (k, v) ∈ kvs := by
  induction kvs with
  | nil => simp at h
  | cons p r ih =>
    rw [aget_cons]
    by_cases e : p.1 = k
    · exact ⟨p.2, by rw [if_pos e], by rw [← e]; exact List.mem_cons_self⟩
    · rw [if_neg e]
      rw [List.map_cons, List.mem_cons] at h
      obtain ⟨v, h1, h2⟩ := ih (h.resolve_left fun z => e z.symm)
      exact ⟨v, h1, List.mem_cons_of_mem _ h2⟩
theorem len_check_prices {CW CE : Addr} : ∀ (ds : List D) (Qd : D → Prop), pp_check_prices CW CE ds Qd → ds.length = 2 := fun ds Qd ⟨_, _, _, e, _⟩ => by rw [e]; rfl
theorem hp_check_prices {CW CE : Addr} : ∀ (ds : List D) (Qd : D → Prop), pp_check_prices CW CE ds Qd → td_check_prices CW CE { nx := fun _ => Qd (.a .non), rt := Qd } (env0 3 ds) := by
  rintro ds Qd ⟨c, dl, ps, rfl, h, q⟩
  refine ⟨true, rfl, ⟨unAt1 rfl, rfl, ?_⟩⟩
  refine lcL_map (fun _ => D.bl true) .sh rfl _ _ _ (fun x hx C hc => ?_) ?_ ?_
  · rw [List.map_map] at hx
    obtain ⟨y, hy, rfl⟩ := List.mem_map.mp hx
    refine ⟨rfl, c, dl, y.1, rfl, h.at_ y hy, ?_⟩
    have hk : stepK y.1 ∈ (ps.map fun x => (stepK x.1, fr x.2)).map (·.1) := by rw [List.map_map]; exact List.mem_map.mpr ⟨y, hy, rfl⟩
    obtain ⟨v, e1, e2⟩ := aget_mem hk
    obtain ⟨z, hz, ez⟩ := List.mem_map.mp e2
    have ev : v = fr z.2 := by injection ez with _ e; exact e.symm
    refine ⟨stepK y.1, rfl, kk_steps fun k hk => ?_, v, e1, ?_⟩
    · rcases List.mem_cons.mp hk with z | z
      · exact ⟨y.1, z⟩
      · rw [List.map_map] at z
        obtain ⟨w, _, e⟩ := List.mem_map.mp z
        exact ⟨w.1, e.symm⟩
    · rw [ev]
      exact ⟨rfl, z.2, rfl, h.ok z hz, hc⟩
  · have := h.ln
    exact sz (by rw [List.length_map, List.length_map]; simp; omega)
  · refine ⟨_, all_bools _, ?_⟩
    rw [all_true]
    exact q
end DL
set_option Elab.async false
set_option linter.all false
set_option maxRecDepth 100000
set_option exponentiation.threshold 20000
namespace DL
open PySem PySem.Spec PyProof.Rows L2
/-! all steps; the law's fractions -/
def stepsIn (h s n : Nat) : List (Nat × Nat × Nat) := (List.range n).map fun i => (h, s, i)
def stepsDealer (h : Nat) : Nat → List (List Pr) → List (Nat × Nat × Nat)
  | _, [] => []
  | s, st :: r => stepsIn h s st.length ++ stepsDealer h (s + 1) r
def stepsAll : Nat → Dl → List (Nat × Nat × Nat)
  | _, [] => []
  | h, d :: r => stepsDealer h 0 d ++ stepsAll (h + 1) r
def stepsOf (dl : Dl) : List (Nat × Nat × Nat) := stepsAll 0 dl
def pp_all_steps (CW CE : Addr) : PP := fun ds Q => ∃ (c : Int) (dl : Dl), ds = [webD CW c dl] ∧ WOk c dl ∧ Q (.l ((stepsOf dl).map stepD))
def pp_law_steps (CW CE : Addr) : PP := fun ds Q => ∃ (c : Int) (dl : Dl), ds = [dlD dl] ∧ WOk c dl ∧ Q (.l ((stepsOf dl).map stepD))
def pp_door_at (CW CE : Addr) : PP := fun ds Q => ∃ (c : Int) (dl : Dl) (x : Nat × Nat × Nat) (p : Pr), ds = [webD CW c dl, stepD x] ∧ at3 dl x.1 x.2.1 x.2.2 = some p ∧ Q (D.int p.1)
def pp_next_at (CW CE : Addr) : PP := fun ds Q => ∃ (c : Int) (dl : Dl) (x : Nat × Nat × Nat) (p : Pr), ds = [webD CW c dl, stepD x] ∧ at3 dl x.1 x.2.1 x.2.2 = some p ∧ Q (D.int p.2)
def pp_law_door (CW CE : Addr) : PP := fun ds Q => ∃ (dl : Dl) (x : Nat × Nat × Nat) (p : Pr), ds = [dlD dl, stepD x] ∧ at3 dl x.1 x.2.1 x.2.2 = some p ∧ Q (D.int p.1)
def pp_law_next (CW CE : Addr) : PP := fun ds Q => ∃ (dl : Dl) (x : Nat × Nat × Nat) (p : Pr), ds = [dlD dl, stepD x] ∧ at3 dl x.1 x.2.1 x.2.2 = some p ∧ Q (D.int p.2)
def pp_law_fraction (CW CE : Addr) : PP := fun ds Q => ∃ a b : Int, ds = [D.int a, D.int b] ∧ 0 < b ∧ b.natAbs < 2 ^ 8000 ∧ Q (fr (Rat.divInt a b))
def pp_law_sum (CW CE : Addr) : PP := fun ds Q => ∃ (a b : Rat) (n : Int), ds = [fr a, fr b, D.int n] ∧ Sm a ∧ Sm b ∧ (n = 1 ∨ n = -1) ∧ Q (fr (a + n * b))
def pp_law_less (CW CE : Addr) : PP := fun ds Q => ∃ a b : Rat, ds = [fr a, fr b] ∧ Sm a ∧ Sm b ∧ Q (D.bl (decide (a < b)))
def pp_worth_name (CW CE : Addr) : PP := fun ds Q => ∃ h : Int, ds = [D.int h] ∧ Q (.t [D.int h, D.int (-1)])
def td_all_steps_b1 (CW CE : Addr) : TDS := (tdExtend 1 (tdLc (tdiRng1 (tdCons (tdCB rdLen (tdCons (tdVar 5) tdNil)) tdNil)) (tgName 6) tdYes (tdTup (tdCons (tdVar 2) (tdCons (tdVar 4) (tdCons (tdVar 6) tdNil)))) [6]))
def td_all_steps_b2 (CW CE : Addr) : TDS := (tdFor (tdiEnum (tdCons (tdVar 3) tdNil)) (tgTup 2 (tgCons (tgName 4) (tgCons (tgName 5) tgNil))) (td_all_steps_b1 CW CE))
def td_all_steps_s2 (CW CE : Addr) : TDS := (tdRet (tdVar 1))
def td_all_steps_s1 (CW CE : Addr) : TDS := (tdSeq (tdFor (tdiEnum (tdCons (tdFld CW "dealers" (tdVar 0)) tdNil)) (tgTup 2 (tgCons (tgName 2) (tgCons (tgName 3) tgNil))) (td_all_steps_b2 CW CE)) (td_all_steps_s2 CW CE))
def td_all_steps (CW CE : Addr) : TDS := (tdSeq (tdSet 1 (tdLst tdNil)) (td_all_steps_s1 CW CE))
def td_law_steps_b1 (CW CE : Addr) : TDS := (tdExtend 1 (tdLc (tdiRng1 (tdCons (tdCB rdLen (tdCons (tdVar 5) tdNil)) tdNil)) (tgName 6) tdYes (tdTup (tdCons (tdVar 2) (tdCons (tdVar 4) (tdCons (tdVar 6) tdNil)))) [6]))
def td_law_steps_b2 (CW CE : Addr) : TDS := (tdFor (tdiEnum (tdCons (tdVar 3) tdNil)) (tgTup 2 (tgCons (tgName 4) (tgCons (tgName 5) tgNil))) (td_law_steps_b1 CW CE))
def td_law_steps_s2 (CW CE : Addr) : TDS := (tdRet (tdVar 1))
def td_law_steps_s1 (CW CE : Addr) : TDS := (tdSeq (tdFor (tdiEnum (tdCons (tdVar 0) tdNil)) (tgTup 2 (tgCons (tgName 2) (tgCons (tgName 3) tgNil))) (td_law_steps_b2 CW CE)) (td_law_steps_s2 CW CE))
def td_law_steps (CW CE : Addr) : TDS := (tdSeq (tdSet 1 (tdLst tdNil)) (td_law_steps_s1 CW CE))
def td_door_at (CW CE : Addr) : TDS := (tdRet (tdOp rdIxA (tdOp rdIxA (tdOp rdIxA (tdOp rdIxA (tdFld CW "dealers" (tdVar 0)) (tdOp rdIxA (tdVar 1) (tdC (D.int 0)))) (tdOp rdIxA (tdVar 1) (tdC (D.int 1)))) (tdOp rdIxA (tdVar 1) (tdC (D.int 2)))) (tdC (D.int 0))))
def td_next_at (CW CE : Addr) : TDS := (tdRet (tdOp rdIxA (tdOp rdIxA (tdOp rdIxA (tdOp rdIxA (tdFld CW "dealers" (tdVar 0)) (tdOp rdIxA (tdVar 1) (tdC (D.int 0)))) (tdOp rdIxA (tdVar 1) (tdC (D.int 1)))) (tdOp rdIxA (tdVar 1) (tdC (D.int 2)))) (tdC (D.int 1))))
def td_law_door (CW CE : Addr) : TDS := (tdRet (tdOp rdIxA (tdOp rdIxA (tdOp rdIxA (tdOp rdIxA (tdVar 0) (tdOp rdIxA (tdVar 1) (tdC (D.int 0)))) (tdOp rdIxA (tdVar 1) (tdC (D.int 1)))) (tdOp rdIxA (tdVar 1) (tdC (D.int 2)))) (tdC (D.int 0))))
def td_law_next (CW CE : Addr) : TDS := (tdRet (tdOp rdIxA (tdOp rdIxA (tdOp rdIxA (tdOp rdIxA (tdVar 0) (tdOp rdIxA (tdVar 1) (tdC (D.int 0)))) (tdOp rdIxA (tdVar 1) (tdC (D.int 1)))) (tdOp rdIxA (tdVar 1) (tdC (D.int 2)))) (tdC (D.int 1))))
def td_law_fraction_b1 (CW CE : Addr) : TDS := (tdPar 2 3 (tdCons (tdVar 3) (tdCons (tdOp rdMod (tdCB rdInt (tdCons (tdVar 2) tdNil)) (tdVar 3)) tdNil)))
def td_law_fraction_s2 (CW CE : Addr) : TDS := (tdRet (tdTup (tdCons (tdOp rdFdiv (tdVar 0) (tdVar 2)) (tdCons (tdOp rdFdiv (tdVar 1) (tdVar 2)) tdNil))))
def td_law_fraction_s1 (CW CE : Addr) : TDS := (tdSeq (tdWhile (tdB (tdOp rdGt (tdVar 3) (tdC (D.int 0)))) (td_law_fraction_b1 CW CE)) (td_law_fraction_s2 CW CE))
def td_law_fraction (CW CE : Addr) : TDS := (tdSeq (tdPar 2 3 (tdCons (tdCB rdAbs (tdCons (tdVar 0) tdNil)) (tdCons (tdVar 1) tdNil))) (td_law_fraction_s1 CW CE))
def td_law_sum (CW CE : Addr) : TDS := (tdRet (tdCall (pp_law_fraction CW CE) (tdCons (tdOp rdAdd (tdOp rdMul (tdOp rdIxA (tdVar 0) (tdC (D.int 0))) (tdOp rdIxA (tdVar 1) (tdC (D.int 1)))) (tdOp rdMul (tdOp rdMul (tdVar 2) (tdOp rdIxA (tdVar 1) (tdC (D.int 0)))) (tdOp rdIxA (tdVar 0) (tdC (D.int 1))))) (tdCons (tdOp rdMul (tdOp rdIxA (tdVar 0) (tdC (D.int 1))) (tdOp rdIxA (tdVar 1) (tdC (D.int 1)))) tdNil))))
def td_law_less (CW CE : Addr) : TDS := (tdRet (tdOp rdLt (tdOp rdMul (tdOp rdIxA (tdVar 0) (tdC (D.int 0))) (tdOp rdIxA (tdVar 1) (tdC (D.int 1)))) (tdOp rdMul (tdOp rdIxA (tdVar 1) (tdC (D.int 0))) (tdOp rdIxA (tdVar 0) (tdC (D.int 1))))))
def td_worth_name (CW CE : Addr) : TDS := (tdRet (tdTup (tdCons (tdVar 0) (tdCons (tdC (D.int (-1))) tdNil))))
theorem stepsIn_length (h s n : Nat) : (stepsIn h s n).length = n := by simp [stepsIn]
theorem stepsDealer_length (h : Nat) : ∀ (d : List (List Pr)) (s : Nat), (∀ st ∈ d, st.length ≤ 3) → (stepsDealer h s d).length ≤ 3 * d.length
  | [], _, _ => Nat.le_refl _
  | st :: r, s, hs => by
    have := stepsDealer_length h r (s + 1) fun x hx => hs x (List.mem_cons_of_mem _ hx)
    have := hs st List.mem_cons_self
    simp only [stepsDealer, List.length_append, stepsIn_length, List.length_cons]
    omega
theorem stepsAll_length : ∀ (dl : Dl) (h : Nat), (∀ d ∈ dl, d.length ≤ 3) → (∀ d ∈ dl, ∀ st ∈ d, st.length ≤ 3) → (stepsAll h dl).length ≤ 9 * dl.length
  | [], _, _, _ => Nat.le_refl _
  | d :: r, h, h1, h2 => by
    have a := stepsAll_length r (h + 1) (fun x hx => h1 x (List.mem_cons_of_mem _ hx)) fun x hx => h2 x (List.mem_cons_of_mem _ hx)
    have b := stepsDealer_length h d 0 (h2 d List.mem_cons_self)
    have c := h1 d List.mem_cons_self
    simp only [stepsAll, List.length_append, List.length_cons]
    omega
theorem WOk.steps {c : Int} {dl : Dl} (w : WOk c dl) : (stepsOf dl).length ≤ 27 := by
  have := stepsAll_length dl 0 w.d2 w.s2
  have := w.h2
  unfold stepsOf
  omega
/-- one standing's steps are added -/
theorem extend_steps {Dd : DEnds} {v0 x3 x6 : Slot} {h s : Nat} {st : List Pr} {acc : List (Nat × Nat × Nat)} (CW CE : Addr) (h6 : x6 = .un) (ha : acc.length ≤ 1000) (hs : st.length ≤ 3) (q : Dd.nx [v0, .ow (.l ((acc ++ stepsIn h s st.length).map stepD)), .sh (D.int h), x3, .sh (D.int s), .sh (stD st), .un]) : td_all_steps_b1 CW CE Dd [v0, .ow (.l (acc.map stepD)), .sh (D.int h), x3, .sh (D.int s), .sh (stD st), x6] := by
  subst h6
  have e1 : ((st.map prD).length : Int) = st.length := by rw [List.length_map]
  refine ⟨unAt1 rfl, ?_⟩
  show -(2 ^ 62) ≤ (((st.map prD).length : Nat) : Int) ∧ _
  refine ⟨by omega, by rw [e1]; omega, ?_⟩
  rw [e1, show ((st.length : Int)).toNat = st.length by omega]
  have em : (ups 0 st.length).map (fun d => D.t [D.int h, D.int s, d]) = (stepsIn h s st.length).map stepD := by
    apply List.ext_getElem?
    intro i
    rw [List.getElem?_map, List.getElem?_map]
    unfold stepsIn
    rw [List.getElem?_map]
    by_cases hi : i < st.length
    · rw [ups_get _ _ _ hi, List.getElem?_range hi]
      show some (D.t [D.int h, D.int s, D.int (0 + i)]) = some (stepD (h, s, i))
      rw [Int.zero_add]; rfl
    · rw [List.getElem?_eq_none (by rw [ups_length]; omega), List.getElem?_eq_none (by rw [List.length_range]; omega)]; rfl
  refine lcL_map (fun d => D.t [D.int h, D.int s, d]) .sh rfl _ _ _ (fun x hx C hc => ⟨rfl, sz (show 3 ≤ 16777216 by decide), hc⟩) (by rw [ups_length]; exact sz (by simp; omega)) ?_
  rw [List.nil_append, em]
  refine ⟨rfl, ?_, ?_⟩
  · rw [List.length_map, List.length_map, stepsIn_length]; exact sz (by omega)
  · rw [← List.map_append]; exact q
theorem steps_inner {Dd : DEnds} {v0 x3 : Slot} {h : Nat} (CW CE : Addr) : ∀ (d : List (List Pr)) (s : Nat) (acc : List (Nat × Nat × Nat)) (x4 x5 : Slot), (∀ st ∈ d, st.length ≤ 3) → acc.length + 3 * d.length ≤ 1000 → (∀ y4 y5, Dd.nx [v0, .ow (.l ((acc ++ stepsDealer h s d).map stepD)), .sh (D.int h), x3, y4, y5, .un]) →
    tdForL (tgTup 2 (tgCons (tgName 4) (tgCons (tgName 5) tgNil))) (td_all_steps_b1 CW CE) (numbered s (d.map stD)) Dd [v0, .ow (.l (acc.map stepD)), .sh (D.int h), x3, x4, x5, .un]
  | [], s, acc, x4, x5, _, _, q => by
    have := q x4 x5
    rw [show acc ++ stepsDealer h s [] = acc from List.append_nil _] at this
    exact this
  | st :: r, s, acc, x4, x5, h1, h2, q => by
    refine ⟨rfl, rfl, ?_⟩
    rw [List.length_cons] at h2
    have e : ((s : Int) + 1) = ((s + 1 : Nat) : Int) := by omega
    refine extend_steps (acc := acc) CW CE rfl (by omega) (h1 st List.mem_cons_self) ?_
    show tdForL _ _ (numbered ((s : Int) + 1) (r.map stD)) Dd _
    rw [e]
    exact steps_inner CW CE r (s + 1) (acc ++ stepsIn h s st.length) _ _ (fun x hx => h1 x (List.mem_cons_of_mem _ hx)) (by rw [List.length_append, stepsIn_length]; have := h1 st List.mem_cons_self; omega) (fun y4 y5 => by rw [List.append_assoc]; exact q y4 y5)
theorem steps_outer {Dd : DEnds} {v0 : Slot} (CW CE : Addr) : ∀ (dl : Dl) (h : Nat) (acc : List (Nat × Nat × Nat)) (x2 x3 x4 x5 : Slot), (∀ d ∈ dl, d.length ≤ 3) → (∀ d ∈ dl, ∀ st ∈ d, st.length ≤ 3) → acc.length + 9 * dl.length ≤ 900 → (∀ y2 y3 y4 y5, Dd.nx [v0, .ow (.l ((acc ++ stepsAll h dl).map stepD)), y2, y3, y4, y5, .un]) →
    tdForL (tgTup 2 (tgCons (tgName 2) (tgCons (tgName 3) tgNil))) (td_all_steps_b2 CW CE) (numbered h (dl.map dealerD)) Dd [v0, .ow (.l (acc.map stepD)), x2, x3, x4, x5, .un]
  | [], h, acc, x2, x3, x4, x5, _, _, _, q => by
    have := q x2 x3 x4 x5
    rw [show acc ++ stepsAll h [] = acc from List.append_nil _] at this
    exact this
  | d :: r, h, acc, x2, x3, x4, x5, h1, h2, h3, q => by
    rw [List.length_cons] at h3
    have e : ((h : Int) + 1) = ((h + 1 : Nat) : Int) := by omega
    have hd := h1 d List.mem_cons_self
    have hl := stepsDealer_length h d 0 (h2 d List.mem_cons_self)
    refine ⟨rfl, rfl, rfl, ?_⟩
    refine steps_inner CW CE d 0 acc x4 x5 (h2 d List.mem_cons_self) (by omega) fun y4 y5 => ?_
    show tdForL _ _ (numbered ((h : Int) + 1) (r.map dealerD)) Dd _
    rw [e]
    exact steps_outer CW CE r (h + 1) (acc ++ stepsDealer h 0 d) _ _ _ _ (fun x hx => h1 x (List.mem_cons_of_mem _ hx)) (fun x hx => h2 x (List.mem_cons_of_mem _ hx)) (by rw [List.length_append]; omega) (fun y2 y3 y4 y5 => by rw [List.append_assoc]; exact q y2 y3 y4 y5)
theorem len_all_steps {CW CE : Addr} : ∀ (ds : List D) (Qd : D → Prop), pp_all_steps CW CE ds Qd → ds.length = 1 := fun ds Qd ⟨_, _, e, _⟩ => by rw [e]; rfl
theorem hp_all_steps {CW CE : Addr} : ∀ (ds : List D) (Qd : D → Prop), pp_all_steps CW CE ds Qd → td_all_steps CW CE { nx := fun _ => Qd (.a .non), rt := Qd } (env0 7 ds) := by
  rintro ds Qd ⟨c, dl, rfl, w, q⟩
  refine ⟨rfl, sz (by decide), rfl, rfl, dlD dl, rfl, rfl, ?_⟩
  exact steps_outer CW CE dl 0 [] .un .un .un .un w.d2 w.s2 (by have := w.h2; simp; omega) fun _ _ _ _ => q
theorem len_law_steps {CW CE : Addr} : ∀ (ds : List D) (Qd : D → Prop), pp_law_steps CW CE ds Qd → ds.length = 1 := fun ds Qd ⟨_, _, e, _⟩ => by rw [e]; rfl
theorem hp_law_steps {CW CE : Addr} : ∀ (ds : List D) (Qd : D → Prop), pp_law_steps CW CE ds Qd → td_law_steps CW CE { nx := fun _ => Qd (.a .non), rt := Qd } (env0 7 ds) := by
  rintro ds Qd ⟨c, dl, rfl, w, q⟩
  refine ⟨rfl, sz (by decide), rfl, rfl, ?_⟩
  exact steps_outer CW CE dl 0 [] .un .un .un .un w.d2 w.s2 (by have := w.h2; simp; omega) fun _ _ _ _ => q
theorem len_door_at {CW CE : Addr} : ∀ (ds : List D) (Qd : D → Prop), pp_door_at CW CE ds Qd → ds.length = 2 := fun ds Qd ⟨_, _, _, _, e, _⟩ => by rw [e]; rfl
theorem hp_door_at {CW CE : Addr} : ∀ (ds : List D) (Qd : D → Prop), pp_door_at CW CE ds Qd → td_door_at CW CE { nx := fun _ => Qd (.a .non), rt := Qd } (env0 2 ds) := by
  rintro ds Qd ⟨c, dl, ⟨h, s, n⟩, p, rfl, e, q⟩
  have e : at3 dl h s n = some p := e
  obtain ⟨d, st, e1, e2, e3⟩ := at3_some e
  exact ⟨rfl, dlD dl, rfl, D.int h, rfl, dealerD d, getMap e1, D.int s, rfl, stD st, getMap e2, D.int n, rfl, prD p, getMap e3, D.int p.1, rfl, q⟩
theorem len_next_at {CW CE : Addr} : ∀ (ds : List D) (Qd : D → Prop), pp_next_at CW CE ds Qd → ds.length = 2 := fun ds Qd ⟨_, _, _, _, e, _⟩ => by rw [e]; rfl
theorem hp_next_at {CW CE : Addr} : ∀ (ds : List D) (Qd : D → Prop), pp_next_at CW CE ds Qd → td_next_at CW CE { nx := fun _ => Qd (.a .non), rt := Qd } (env0 2 ds) := by
  rintro ds Qd ⟨c, dl, ⟨h, s, n⟩, p, rfl, e, q⟩
  have e : at3 dl h s n = some p := e
  obtain ⟨d, st, e1, e2, e3⟩ := at3_some e
  exact ⟨rfl, dlD dl, rfl, D.int h, rfl, dealerD d, getMap e1, D.int s, rfl, stD st, getMap e2, D.int n, rfl, prD p, getMap e3, D.int p.2, rfl, q⟩
theorem len_law_door {CW CE : Addr} : ∀ (ds : List D) (Qd : D → Prop), pp_law_door CW CE ds Qd → ds.length = 2 := fun ds Qd ⟨_, _, _, e, _⟩ => by rw [e]; rfl
theorem hp_law_door {CW CE : Addr} : ∀ (ds : List D) (Qd : D → Prop), pp_law_door CW CE ds Qd → td_law_door CW CE { nx := fun _ => Qd (.a .non), rt := Qd } (env0 2 ds) := by
  rintro ds Qd ⟨dl, ⟨h, s, n⟩, p, rfl, e, q⟩
  have e : at3 dl h s n = some p := e
  obtain ⟨d, st, e1, e2, e3⟩ := at3_some e
  exact ⟨D.int h, rfl, dealerD d, getMap e1, D.int s, rfl, stD st, getMap e2, D.int n, rfl, prD p, getMap e3, D.int p.1, rfl, q⟩
theorem len_law_next {CW CE : Addr} : ∀ (ds : List D) (Qd : D → Prop), pp_law_next CW CE ds Qd → ds.length = 2 := fun ds Qd ⟨_, _, _, e, _⟩ => by rw [e]; rfl
theorem hp_law_next {CW CE : Addr} : ∀ (ds : List D) (Qd : D → Prop), pp_law_next CW CE ds Qd → td_law_next CW CE { nx := fun _ => Qd (.a .non), rt := Qd } (env0 2 ds) := by
  rintro ds Qd ⟨dl, ⟨h, s, n⟩, p, rfl, e, q⟩
  have e : at3 dl h s n = some p := e
  obtain ⟨d, st, e1, e2, e3⟩ := at3_some e
  exact ⟨D.int h, rfl, dealerD d, getMap e1, D.int s, rfl, stD st, getMap e2, D.int n, rfl, prD p, getMap e3, D.int p.2, rfl, q⟩
theorem len_law_fraction {CW CE : Addr} : ∀ (ds : List D) (Qd : D → Prop), pp_law_fraction CW CE ds Qd → ds.length = 2 := fun ds Qd ⟨_, _, e, _⟩ => by rw [e]; rfl
theorem hp_law_fraction {CW CE : Addr} : ∀ (ds : List D) (Qd : D → Prop), pp_law_fraction CW CE ds Qd → td_law_fraction CW CE { nx := fun _ => Qd (.a .non), rt := Qd } (env0 4 ds) := by
  rintro ds Qd ⟨a, b, rfl, hb, hz, q⟩
  have ab : Int.gcd (if a < 0 then -a else a) b = Int.gcd a b := by split <;> simp
  refine ⟨rfl, rfl, fun m E => ∃ x y : Int, E = [.sh (D.int a), .sh (D.int b), .sh (D.int x), .sh (D.int y)] ∧ 0 ≤ x ∧ 0 ≤ y ∧ m = y.toNat ∧ Int.gcd x y = Int.gcd a b, ⟨_, _, _, rfl, by split <;> omega, by omega, rfl, ab⟩, ?_⟩
  rintro m E ⟨x, y, rfl, hx, hy, rfl, hg⟩
  refine ifI (fun h => ?_) (fun h => ?_)
  · have hm := fmod_rng (i := x) (m := y) (by omega)
    refine ⟨(by omega : y ≠ 0), rfl, rfl, _, ?_, _, _, rfl, hy, hm.1, rfl, ?_⟩
    · omega
    · rw [← hg, Int.fmod_eq_emod_of_nonneg x hy]
      exact gcd_step hx hy
  · have : y = 0 := by omega
    subst this
    have e : x = Int.gcd a b := by rw [← hg, Int.gcd_zero_right]; omega
    have g0 : x ≠ 0 := fun z => by rw [e] at z; have := (Int.gcd_eq_zero_iff.mp (show Int.gcd a b = 0 by omega)).2; omega
    have gz : (Int.gcd a b) < 2 ^ 8999 := Nat.lt_of_le_of_lt (Nat.gcd_le_right _ (Int.natAbs_pos.mpr (by omega))) (Nat.lt_of_lt_of_le hz (Nat.pow_le_pow_right (by decide) (by decide)))
    have gx : x.natAbs < 2 ^ 8999 := by rw [e, Int.natAbs_natCast]; exact gz
    obtain ⟨e1, e2⟩ := made_eq (a := a) (b := b) (by omega) (Int.gcd a b : Int) (by rw [if_neg (by omega)])
    refine ⟨divOk g0 gx, divOk g0 gx, rfl, two_ok, ?_⟩
    show Qd (.t [D.int (a.fdiv x), D.int (b.fdiv x)])
    rw [e, e1, e2]; exact q
theorem len_law_sum {CW CE : Addr} : ∀ (ds : List D) (Qd : D → Prop), pp_law_sum CW CE ds Qd → ds.length = 3 := fun ds Qd ⟨_, _, _, e, _⟩ => by rw [e]; rfl
theorem hp_law_sum {CW CE : Addr} : ∀ (ds : List D) (Qd : D → Prop), pp_law_sum CW CE ds Qd → td_law_sum CW CE { nx := fun _ => Qd (.a .non), rt := Qd } (env0 3 ds) := by
  rintro ds Qd ⟨a, b, n, rfl, ha, hb, hn, q⟩
  have n1 : IntMulOk n b.num := mulL (by rcases hn with h | h <;> rw [h] <;> decide) (by rcases hn with h | h <;> rw [h] <;> decide)
  have nb : (n * b.num).natAbs < 2 ^ 4000 := by
    rcases hn with h | h <;> rw [h]
    · rw [Int.one_mul]; exact hb.num
    · rw [Int.neg_mul, Int.one_mul, Int.natAbs_neg]; exact hb.num
  refine ⟨_, rfl, _, rfl, mulS ha.num hb.den, _, rfl, n1, _, rfl, mulS nb ha.den, _, rfl, _, rfl, mulS ha.den hb.den, rfl, _, _, rfl, ?_, ?_, ?_⟩
  · have := a.den_pos; have := b.den_pos
    exact Int.mul_pos (by omega) (by omega)
  · rw [Int.natAbs_mul]; exact mul_8000 ha.2 hb.2
  · rw [divInt_cast]
    rcases hn with h | h <;> subst h
    · rw [show (((1 : Int)) : Rat) * b = b by rw [show ((1 : Int) : Rat) = 1 from rfl, Rat.one_mul]] at q
      rw [Int.one_mul, ← Rat.add_def']; exact q
    · have e : a + ((-1 : Int) : Rat) * b = a - b := by rw [show (((-1 : Int)) : Rat) = -1 from rfl]; grind
      rw [e, Rat.sub_def'] at q
      rw [show a.num * (b.den : Int) + -1 * b.num * (a.den : Int) = a.num * b.den - b.num * a.den by rw [Int.neg_mul, Int.one_mul, Int.neg_mul]; omega]
      exact q
theorem len_law_less {CW CE : Addr} : ∀ (ds : List D) (Qd : D → Prop), pp_law_less CW CE ds Qd → ds.length = 2 := fun ds Qd ⟨a, b, e, _⟩ => by rw [e]; rfl
theorem hp_law_less {CW CE : Addr} : ∀ (ds : List D) (Qd : D → Prop), pp_law_less CW CE ds Qd → td_law_less CW CE { nx := fun _ => Qd (.a .non), rt := Qd } (env0 2 ds) := hp_is_less (CW := CW) (CE := CE)
theorem len_worth_name {CW CE : Addr} : ∀ (ds : List D) (Qd : D → Prop), pp_worth_name CW CE ds Qd → ds.length = 1 := fun ds Qd ⟨_, e, _⟩ => by rw [e]; rfl
theorem hp_worth_name {CW CE : Addr} : ∀ (ds : List D) (Qd : D → Prop), pp_worth_name CW CE ds Qd → td_worth_name CW CE { nx := fun _ => Qd (.a .non), rt := Qd } (env0 1 ds) := by
  rintro ds Qd ⟨h, rfl, q⟩
  exact ⟨rfl, two_ok, q⟩
end DL
set_option Elab.async false
set_option linter.all false
set_option maxRecDepth 100000
set_option exponentiation.threshold 20000
namespace DL
open PySem PySem.Spec PyProof.Rows L2
/-! rows: names and fractions -/
abbrev Rw := List (NestedKey × Rat)
def frs (r : Rw) : D := .d (r.map fun x => (x.1, fr x.2))
def look (r : Rw) (k : NestedKey) : Rat := (aget r k).getD 0
abbrev keys (r : Rw) : List NestedKey := r.map (·.1)
structure NameSet (S : List NestedKey) : Prop where
  kk : KKind S
  ap : Apart S
  ko : ∀ k ∈ S, keyOf (ofKey k) = some k
  ln : S.length ≤ 1000
structure Good0 (S : List NestedKey) (r : Rw) : Prop where
  nd : (keys r).Nodup
  sub : ∀ k ∈ keys r, k ∈ S
structure Good (S : List NestedKey) (r : Rw) : Prop extends Good0 S r where
  nz : ∀ x ∈ r, x.2 ≠ 0
def pp_with_times (CW CE : Addr) : PP := fun ds Q => ∃ (S : List NestedKey) (one other : Rw) (f : Rat), ds = [frs one, frs other, fr f] ∧ NameSet S ∧ Good S one ∧ Good S other ∧ Sm f ∧ (∀ x ∈ other, Sm x.2 ∧ Sm (f * x.2) ∧ Sm (look one x.1)) ∧
  ∀ r, Good S r → (∀ k, look r k = look one k + f * look other k) → Q (frs r)
def pp_without_noughts (CW CE : Addr) : PP := fun ds Q => ∃ (S : List NestedKey) (row : Rw), ds = [frs row] ∧ NameSet S ∧ Good0 S row ∧ ∀ r, Good S r → (∀ k, look r k = look row k) → Q (frs r)
def pp_price_of (CW CE : Addr) : PP := fun ds Q => ∃ (ps : Prs) (x : Nat × Nat × Nat), ds = [pricesD ps, stepD x] ∧ Q (fr (look (ps.map fun y => (stepK y.1, y.2)) (stepK x)))
def td_with_times_b1 (CW CE : Addr) : TDS := (tdSeq (tdSet 5 (tdCall (pp_plus CW CE) (tdCons (tdGetX (tdVar 3) (tdVar 4) (tdC (.t (List.map D.int [0, 1])))) (tdCons (tdCall (pp_times CW CE) (tdCons (tdVar 2) (tdCons (tdOp rdIxA (tdVar 1) (tdVar 4)) tdNil))) tdNil)))) (tdIfS (tdB (tdOp (rdEq id) (tdVar 5) (tdC (.t (List.map D.int [0, 1]))))) (tdDPop 3 (tdVar 4) (tdC D.non)) (tdDSet 3 (tdVar 5) (tdVar 4))))
def td_with_times_s2 (CW CE : Addr) : TDS := (tdRet (tdVar 3))
def td_with_times_s1 (CW CE : Addr) : TDS := (tdSeq (tdFor (tdiKeys (tdVar 1)) (tgName 4) (td_with_times_b1 CW CE)) (td_with_times_s2 CW CE))
def td_with_times (CW CE : Addr) : TDS := (tdSeq (tdSet 3 (tdCB rdDictCopy (tdCons (tdVar 0) tdNil))) (td_with_times_s1 CW CE))
def td_without_noughts (CW CE : Addr) : TDS := (tdRet (tdDc (tdiKeys (tdVar 0)) (tgName 1) (tdB (tdOp (rdEq not) (tdOp rdIxA (tdVar 0) (tdVar 1)) (tdC (.t (List.map D.int [0, 1]))))) (tdVar 1) (tdOp rdIxA (tdVar 0) (tdVar 1)) [1]))
def td_price_of (CW CE : Addr) : TDS := (tdRet (tdGetX (tdVar 0) (tdVar 1) (tdC (.t (List.map D.int [0, 1])))))
theorem fr0 : (.t (List.map D.int [0, 1]) : D) = fr 0 := by simp [fr]
theorem frs_keys (r : Rw) : (r.map fun x => (x.1, fr x.2)).map (·.1) = keys r := by rw [List.map_map]; rfl
theorem aget_map {r : Rw} {k : NestedKey} : aget (r.map fun x => (x.1, fr x.2)) k = (aget r k).map fr := by
  induction r with
  | nil => rfl
  | cons p r ih =>
    rw [List.map_cons, aget_cons, aget_cons, ih]
    by_cases e : p.1 = k
    · rw [if_pos e, if_pos e]; rfl
    · rw [if_neg e, if_neg e]
theorem getD_fr (r : Rw) (k : NestedKey) : (aget (r.map fun x => (x.1, fr x.2)) k).getD (fr 0) = fr (look r k) := by
  rw [aget_map]
  unfold look
  cases aget r k <;> rfl
theorem aput_map {r : Rw} {k : NestedKey} {v : Rat} : aput (r.map fun x => (x.1, fr x.2)) k (fr v) = (aput r k v).map fun x => (x.1, fr x.2) := by
  unfold aput
  rw [aget_map, Option.isSome_map]
  split
  · rw [List.map_map, List.map_map]
    apply List.map_congr_left
    intro x _
    show (if x.1 = k then (x.1, fr v) else (x.1, fr x.2)) = ((if x.1 = k then (x.1, v) else x).1, fr (if x.1 = k then (x.1, v) else x).2)
    split <;> rfl
  · rw [List.map_append]; rfl
theorem adrop_map {r : Rw} {k : NestedKey} : adrop (r.map fun x => (x.1, fr x.2)) k = (adrop r k).map fun x => (x.1, fr x.2) := by
  unfold adrop
  rw [List.filter_map]
  rfl
theorem aget_none {r : Rw} {k : NestedKey} (h : k ∉ keys r) : aget r k = none := by
  induction r with
  | nil => rfl
  | cons p r ih =>
    rw [aget_cons, if_neg fun e => h (by rw [← e]; exact List.mem_cons_self)]
    exact ih fun z => h (List.mem_cons_of_mem _ z)
theorem aget_iff {r : Rw} {k : NestedKey} (h : (aget r k).isSome = true) : k ∈ keys r := by
  by_cases z : k ∈ keys r
  · exact z
  · rw [aget_none z] at h; cases h
theorem look_mem {r : Rw} (nd : (keys r).Nodup) {x : NestedKey × Rat} (hx : x ∈ r) : look r x.1 = x.2 ∧ aget r x.1 = some x.2 := by
  have : aget r x.1 = some x.2 := by
    induction r with
    | nil => cases hx
    | cons p r ih =>
      have nd' : p.1 ∉ keys r ∧ (keys r).Nodup := List.nodup_cons.mp nd
      rw [aget_cons]
      rcases List.mem_cons.mp hx with e | hx
      · rw [e, if_pos rfl]
      · rw [if_neg fun e => nd'.1 (by rw [e]; exact List.mem_map.mpr ⟨x, hx, rfl⟩)]
        exact ih nd'.2 hx
  exact ⟨by unfold look; rw [this]; rfl, this⟩
theorem look_no {r : Rw} {k : NestedKey} (h : k ∉ keys r) : look r k = 0 := by unfold look; rw [aget_none h]; rfl
theorem aget_put {r : Rw} {k k' : NestedKey} {v : Rat} : aget (aput r k v) k' = if k = k' then some v else aget r k' := by
  unfold aput
  split
  · rename_i h
    have hk := aget_iff h
    clear h
    induction r with
    | nil => cases hk
    | cons p r ih =>
      rw [List.map_cons, aget_cons, aget_cons]
      by_cases e : p.1 = k
      · rw [if_pos e]
        by_cases e2 : k = k'
        · rw [if_pos (show p.1 = k' from e.trans e2), if_pos e2]
        · have e3 : ¬ p.1 = k' := fun z => e2 (e.symm.trans z)
          rw [if_neg e3, if_neg e3, if_neg e2]
          by_cases hk2 : k ∈ keys r
          · rw [ih hk2, if_neg e2]
          · have : (r.map fun kv => if kv.1 = k then (kv.1, v) else kv) = r := by
              conv => rhs; rw [← List.map_id r]
              apply List.map_congr_left
              intro x hx
              rw [if_neg fun z => hk2 (by rw [← z]; exact List.mem_map.mpr ⟨x, hx, rfl⟩)]; rfl
            rw [this]
      · rw [if_neg e]
        rcases List.mem_cons.mp hk with z | hk
        · exact absurd z.symm e
        · by_cases e2 : p.1 = k'
          · rw [if_pos e2, if_pos e2, if_neg fun z => e (e2.trans z.symm)]
          · rw [if_neg e2, if_neg e2]; exact ih hk
  · rename_i h
    have hk : aget r k = none := by cases q : aget r k with | none => rfl | some z => rw [q] at h; exact absurd rfl h
    clear h
    induction r with
    | nil => rw [List.nil_append, aget_cons]
    | cons p r ih =>
      rw [aget_cons] at hk
      by_cases e : p.1 = k
      · rw [if_pos e] at hk; cases hk
      · rw [if_neg e] at hk
        rw [List.cons_append, aget_cons, aget_cons]
        by_cases e2 : p.1 = k'
        · rw [if_pos e2, if_pos e2, if_neg fun z => e (e2.trans z.symm)]
        · rw [if_neg e2, if_neg e2]; exact ih hk
theorem look_put {r : Rw} {k k' : NestedKey} {v : Rat} : look (aput r k v) k' = if k = k' then v else look r k' := by
  unfold look
  rw [aget_put]
  split <;> rfl
theorem keys_put {r : Rw} {k : NestedKey} {v : Rat} : keys (aput r k v) = if k ∈ keys r then keys r else keys r ++ [k] := by
  unfold aput
  by_cases h : k ∈ keys r
  · obtain ⟨w, e, _⟩ := aget_mem h
    rw [if_pos h, if_pos (by rw [e]; rfl)]
    show List.map _ (List.map _ _) = _
    rw [List.map_map]
    apply List.map_congr_left
    intro x _
    show (if x.1 = k then (x.1, v) else x).1 = x.1
    split <;> rfl
  · rw [if_neg h, if_neg (by rw [aget_none h]; exact Bool.false_ne_true)]
    show List.map _ (_ ++ _) = _
    rw [List.map_append]; rfl
theorem Good0.put {S : List NestedKey} {r : Rw} {k : NestedKey} {v : Rat} (g : Good0 S r) (hk : k ∈ S) : Good0 S (aput r k v) := by
  constructor
  · rw [keys_put]
    by_cases hm : k ∈ keys r
    · rw [if_pos hm]; exact g.nd
    · rw [if_neg hm, List.nodup_append]
      exact ⟨g.nd, List.nodup_cons.mpr ⟨by simp, List.nodup_nil⟩, fun x hx y hy e => by
        have hy : y = k := by simpa using hy
        exact hm (hy ▸ e ▸ hx)⟩
  · intro x hx
    rw [keys_put] at hx
    split at hx
    · exact g.sub x hx
    · rcases List.mem_append.mp hx with h | h
      · exact g.sub x h
      · rw [List.mem_singleton.mp h]; exact hk
theorem mem_put {r : Rw} {k : NestedKey} {v : Rat} : ∀ x ∈ aput r k v, x.2 = v ∨ x ∈ r := by
  intro x hx
  unfold aput at hx
  split at hx
  · obtain ⟨y, hy, e⟩ := List.mem_map.mp hx
    split at e
    · left; rw [← e]
    · right; rw [← e]; exact hy
  · rcases List.mem_append.mp hx with h | h
    · exact .inr h
    · rw [List.mem_singleton.mp h]; exact .inl rfl
theorem Good.put {S : List NestedKey} {r : Rw} {k : NestedKey} {v : Rat} (g : Good S r) (hk : k ∈ S) (hv : v ≠ 0) : Good S (aput r k v) :=
  ⟨g.toGood0.put hk, fun x hx => (mem_put x hx).elim (fun e => by rw [e]; exact hv) (g.nz x)⟩
theorem aget_drop {r : Rw} {k k' : NestedKey} : aget (adrop r k) k' = if k = k' then none else aget r k' := by
  unfold adrop
  induction r with
  | nil => show none = _; split <;> rfl
  | cons p r ih =>
    rw [List.filter_cons]
    by_cases e : p.1 = k
    · rw [if_neg (by simp [e]), ih, aget_cons]
      by_cases e2 : k = k'
      · rw [if_pos e2, if_pos e2]
      · rw [if_neg e2, if_neg e2, if_neg fun z => e2 (e.symm.trans z)]
    · rw [if_pos (by simp [e]), aget_cons, aget_cons, ih]
      by_cases e2 : p.1 = k'
      · rw [if_pos e2, if_pos e2, if_neg fun z => e (e2.trans z.symm)]
      · rw [if_neg e2, if_neg e2]
theorem look_drop {r : Rw} {k k' : NestedKey} : look (adrop r k) k' = if k = k' then 0 else look r k' := by
  unfold look
  rw [aget_drop]
  split <;> rfl
theorem Good.drop {S : List NestedKey} {r : Rw} {k : NestedKey} (g : Good S r) : Good S (adrop r k) :=
  ⟨⟨(g.nd).sublist ((List.filter_sublist (l := r)).map _), fun x hx => by
    obtain ⟨y, hy, e⟩ := List.mem_map.mp hx
    exact g.sub x (List.mem_map.mpr ⟨y, (List.mem_filter.mp hy).1, e⟩)⟩, fun x hx => g.nz x (List.mem_filter.mp hx).1⟩
theorem nodup_len {α : Type} [DecidableEq α] : ∀ {ks S : List α}, ks.Nodup → (∀ k ∈ ks, k ∈ S) → ks.length ≤ S.length
  | [], _, _, _ => Nat.zero_le _
  | k :: ks, S, nd, h => by
    obtain ⟨n1, n2⟩ := List.nodup_cons.mp nd
    have hk := h k List.mem_cons_self
    have := nodup_len (S := S.erase k) n2 fun x hx => (List.mem_erase_of_ne (fun e => n1 (by rw [← e]; exact hx))).mpr (h x (List.mem_cons_of_mem _ hx))
    rw [List.length_erase_of_mem hk] at this
    have : 0 < S.length := List.length_pos_of_mem hk
    rw [List.length_cons]
    omega
theorem Good0.ln {S : List NestedKey} {r : Rw} (g : Good0 S r) : r.length ≤ S.length := by
  have := nodup_len g.nd g.sub
  rwa [List.length_map] at this
theorem NameSet.kks {S : List NestedKey} (n : NameSet S) {r : Rw} (g : Good0 S r) {k : NestedKey} (hk : k ∈ S) : KKind (k :: (r.map fun x => (x.1, fr x.2)).map (·.1)) := n.kk.sub fun x hx => by
  rw [frs_keys] at hx
  rcases List.mem_cons.mp hx with e | hx
  · rw [e]; exact hk
  · exact g.sub x hx
theorem eq0 (v : Rat) : decide (([v.num, (v.den : Int)] : List Int) = [0, 1]) = decide (v = 0) := by
  rw [decide_eq_decide]
  constructor
  · intro h
    injection h with h _
    exact Rat.num_eq_zero.mp h
  · intro h
    subst h
    rfl
theorem apart_sub {S ks : List NestedKey} (h : Apart S) (nd : ks.Nodup) (s : ∀ k ∈ ks, k ∈ S) : Apart ks := by
  rcases h with h | h
  · exact .inl fun k hk => h k (s k hk)
  · refine .inr fun w => ?_
    have hS := h w
    have inj : ∀ a ∈ S, ∀ b ∈ S, a.hash w = b.hash w → a = b := by
      clear h s
      induction S with
      | nil => intro a ha; cases ha
      | cons x S ih =>
        rw [List.map_cons, List.nodup_cons] at hS
        intro a ha b hb e
        rcases List.mem_cons.mp ha with ea | ha
        · rcases List.mem_cons.mp hb with eb | hb
          · rw [ea, eb]
          · exact absurd (List.mem_map.mpr ⟨b, hb, (by rw [← e, ea])⟩) hS.1
        · rcases List.mem_cons.mp hb with eb | hb
          · exact absurd (List.mem_map.mpr ⟨a, ha, (by rw [e, eb])⟩) hS.1
          · exact ih hS.2 a ha b hb e
    clear hS h
    induction ks with
    | nil => exact List.nodup_nil
    | cons k ks ih =>
      obtain ⟨n1, n2⟩ := List.nodup_cons.mp nd
      rw [List.map_cons, List.nodup_cons]
      refine ⟨fun z => ?_, ih n2 fun x hx => s x (List.mem_cons_of_mem _ hx)⟩
      obtain ⟨y, hy, e⟩ := List.mem_map.mp z
      exact n1 (inj y (s y (List.mem_cons_of_mem _ hy)) k (s k List.mem_cons_self) e ▸ hy)
theorem get_row {S : List NestedKey} {r : Rw} (g : Good0 S r) {x : NestedKey × Rat} (hx : x ∈ r) : aget (r.map fun x => (x.1, fr x.2)) x.1 = some (fr x.2) := by rw [aget_map, (look_mem g.nd hx).2]; rfl
theorem wt_loop {CW CE : Addr} {Qd : D → Prop} {S : List NestedKey} {one other : Rw} {f : Rat} (n : NameSet S) (g1 : Good S one) (g2 : Good S other) (hf : Sm f) (hs : ∀ x ∈ other, Sm x.2 ∧ Sm (f * x.2) ∧ Sm (look one x.1)) (k : ∀ r, Good S r → (∀ k, look r k = look one k + f * look other k) → Qd (frs r)) :
    ∀ (ys p found : Rw) (x4 x5 : Slot), other = p ++ ys → Good S found → (∀ k, look found k = look one k + if k ∈ keys p then f * look other k else 0) →
      tdForL (tgName 4) (td_with_times_b1 CW CE) (ys.map fun x => ofKey x.1) { nx := td_with_times_s2 CW CE { nx := fun _ => Qd (.a .non), rt := Qd }, rt := Qd } [.sh (frs one), .sh (frs other), .sh (fr f), .ow (frs found), x4, x5]
  | [], p, found, x4, x5, e, g, h => by
    rw [List.append_nil] at e
    subst e
    show Qd (frs found)
    refine k found g fun kk => ?_
    rw [h kk]
    by_cases hk : kk ∈ keys other
    · rw [if_pos hk]
    · rw [if_neg hk, look_no hk]; grind
  | x :: ys, p, found, x4, x5, e, g, h => by
    have hx : x ∈ other := by rw [e]; simp
    obtain ⟨s1, s2, s3⟩ := hs x hx
    have hS : x.1 ∈ S := g2.sub x.1 (List.mem_map.mpr ⟨x, hx, rfl⟩)
    have np : x.1 ∉ keys p := by
      have nd := g2.nd
      rw [e] at nd
      show x.1 ∉ List.map _ p
      intro z
      have : (List.map (fun y : NestedKey × Rat => y.1) (p ++ x :: ys)).Nodup := nd
      rw [List.map_append, List.nodup_append] at this
      exact this.2.2 x.1 z x.1 (by simp) rfl
    have lx : look found x.1 = look one x.1 := by rw [h x.1, if_neg np]; grind
    have lo : look other x.1 = x.2 := (look_mem g2.nd hx).1
    have nxt : ∀ found', Good S found' → (∀ k, look found' k = if k = x.1 then look one x.1 + f * x.2 else look found k) → ∀ y4 y5, tdForL (tgName 4) (td_with_times_b1 CW CE) (ys.map fun x => ofKey x.1) { nx := td_with_times_s2 CW CE { nx := fun _ => Qd (.a .non), rt := Qd }, rt := Qd } [.sh (frs one), .sh (frs other), .sh (fr f), .ow (frs found'), y4, y5] := fun found' g' h' y4 y5 =>
      wt_loop n g1 g2 hf hs k ys (p ++ [x]) found' y4 y5 (by rw [e]; simp) g' fun kk => by
        rw [h' kk, show keys (p ++ [x]) = keys p ++ [x.1] by show List.map _ _ = _; rw [List.map_append]; rfl]
        by_cases ek : kk = x.1
        · rw [if_pos ek, if_pos (by rw [ek]; simp), ek, lo]
        · rw [if_neg ek, h kk]
          by_cases hk : kk ∈ keys p
          · rw [if_pos hk, if_pos (List.mem_append_left _ hk)]
          · rw [if_neg hk, if_neg fun z => (List.mem_append.mp z).elim hk fun z => ek (List.mem_singleton.mp z)]
    refine ⟨x.1, n.ko x.1 hS, n.kks g.toGood0 hS, rfl, x.1, n.ko x.1 hS, n.kks g2.toGood0 hS, fr x.2, get_row g2.toGood0 hx, rfl, f, x.2, rfl, hf, s1, rfl, look found x.1, f * x.2, by rw [fr0, getD_fr]; rfl, by rw [lx]; exact s3, s2, rfl, ?_⟩
    by_cases hv : look found x.1 + f * x.2 = 0
    · refine ifK (by show decide (([(look found x.1 + f * x.2).num, ((look found x.1 + f * x.2).den : Int)] : List Int) = [0, 1]) = true; rw [eq0]; exact decide_eq_true hv) ⟨x.1, n.ko x.1 hS, n.kks g.toGood0 hS, ?_⟩
      show tdForL (tgName 4) (td_with_times_b1 CW CE) _ _ [_, _, _, .ow (.d (adrop (found.map fun x => (x.1, fr x.2)) x.1)), _, _]
      rw [adrop_map]
      refine nxt _ g.drop (fun kk => ?_) _ _
      rw [look_drop]
      by_cases ek : kk = x.1
      · rw [if_pos ek.symm, if_pos ek, ← lx, hv]
      · rw [if_neg fun z => ek z.symm, if_neg ek]
    · refine ifN (by show decide (([(look found x.1 + f * x.2).num, ((look found x.1 + f * x.2).den : Int)] : List Int) = [0, 1]) = false; rw [eq0]; exact decide_eq_false hv) ⟨rfl, x.1, n.ko x.1 hS, n.kks g.toGood0 hS, ?_, ?_⟩
      · have := g.toGood0.ln; have := n.ln
        exact szl (by rw [List.length_map]; omega)
      show tdForL (tgName 4) (td_with_times_b1 CW CE) _ _ [_, _, _, .ow (.d (aput (found.map fun x => (x.1, fr x.2)) x.1 (fr (look found x.1 + f * x.2)))), _, _]
      rw [aput_map]
      refine nxt _ (g.put hS hv) (fun kk => ?_) _ _
      rw [look_put, lx]
      by_cases ek : kk = x.1
      · rw [if_pos ek.symm, if_pos ek]
      · rw [if_neg fun z => ek z.symm, if_neg ek]
theorem len_with_times {CW CE : Addr} : ∀ (ds : List D) (Qd : D → Prop), pp_with_times CW CE ds Qd → ds.length = 3 := fun ds Qd ⟨_, _, _, _, e, _⟩ => by rw [e]; rfl
theorem hp_with_times {CW CE : Addr} : ∀ (ds : List D) (Qd : D → Prop), pp_with_times CW CE ds Qd → td_with_times CW CE { nx := fun _ => Qd (.a .non), rt := Qd } (env0 6 ds) := by
  rintro ds Qd ⟨S, one, other, f, rfl, n, g1, g2, hf, hs, k⟩
  refine ⟨?_, rfl, rfl, ?_⟩
  · rw [frs_keys]; exact apart_sub n.ap g1.nd g1.sub
  · have := wt_loop (CW := CW) (CE := CE) n g1 g2 hf hs k other [] one .un .un rfl g1 fun kk => by rw [if_neg (by simp)]; grind
    show tdForL (tgName 4) (td_with_times_b1 CW CE) ((other.map fun x => (x.1, fr x.2)).map fun kv => ofKey kv.1) _ _
    rw [List.map_map]
    exact this
theorem len_price_of {CW CE : Addr} : ∀ (ds : List D) (Qd : D → Prop), pp_price_of CW CE ds Qd → ds.length = 2 := fun ds Qd ⟨_, _, e, _⟩ => by rw [e]; rfl
theorem hp_price_of {CW CE : Addr} : ∀ (ds : List D) (Qd : D → Prop), pp_price_of CW CE ds Qd → td_price_of CW CE { nx := fun _ => Qd (.a .non), rt := Qd } (env0 2 ds) := by
  rintro ds Qd ⟨ps, x, rfl, q⟩
  refine ⟨stepK x, rfl, kk_steps fun k hk => ?_, rfl, ?_⟩
  · rcases List.mem_cons.mp hk with z | z
    · exact ⟨x, z⟩
    · rw [List.map_map] at z
      obtain ⟨w, _, e⟩ := List.mem_map.mp z
      exact ⟨w.1, e.symm⟩
  · have e : (ps.map fun x => (stepK x.1, fr x.2)) = (ps.map fun y => (stepK y.1, y.2)).map fun x => (x.1, fr x.2) := by rw [List.map_map]; rfl
    show Qd ((aget (ps.map fun x => (stepK x.1, fr x.2)) (stepK x)).getD (.t (List.map D.int [0, 1])))
    rw [e, fr0, getD_fr]
    exact q
theorem wn_loop {S : List NestedKey} {row : Rw} {Q : D → Prop} (n : NameSet S) (g : Good0 S row) (k : ∀ r, Good S r → (∀ k, look r k = look row k) → Q (frs r)) : ∀ (ys p acc : Rw), row = p ++ ys → Good S acc → (∀ k, look acc k = if k ∈ keys p then look row k else 0) → (∀ k ∈ keys acc, k ∈ keys p) →
    tdDcL (tgName 1) (tdB (tdOp (rdEq not) (tdOp rdIxA (tdVar 0) (tdVar 1)) (tdC (.t (List.map D.int [0, 1]))))) (tdVar 1) (tdOp rdIxA (tdVar 0) (tdVar 1)) [.sh (frs row), .un] (ys.map fun x => ofKey x.1) (acc.map fun x => (x.1, fr x.2)) fun kvs => Q (.d kvs)
  | [], p, acc, e, ga, h, hk => by
    rw [List.append_nil] at e
    subst e
    show Q (frs acc)
    refine k acc ga fun kk => ?_
    rw [h kk]
    by_cases hk : kk ∈ keys row
    · rw [if_pos hk]
    · rw [if_neg hk, look_no hk]
  | x :: ys, p, acc, e, ga, h, hk => by
    have hx : x ∈ row := by rw [e]; simp
    have hS : x.1 ∈ S := g.sub x.1 (List.mem_map.mpr ⟨x, hx, rfl⟩)
    have np : x.1 ∉ keys p := by
      have nd : (List.map (fun y : NestedKey × Rat => y.1) row).Nodup := g.nd
      rw [e, List.map_append, List.nodup_append] at nd
      exact fun z => nd.2.2 x.1 z x.1 (by simp) rfl
    have lo : look row x.1 = x.2 := (look_mem g.nd hx).1
    have ep : keys (p ++ [x]) = keys p ++ [x.1] := by show List.map _ _ = _; rw [List.map_append]; rfl
    refine ⟨x.1, n.ko x.1 hS, n.kks g hS, fr x.2, get_row g hx, ?_⟩
    by_cases hv : x.2 = 0
    · refine ifN (by show (not (decide (([x.2.num, (x.2.den : Int)] : List Int) = [0, 1]))) = false; rw [eq0, decide_eq_true hv]; rfl) ?_
      refine wn_loop n g k ys (p ++ [x]) acc (by rw [e]; simp) ga (fun kk => ?_) fun kk hz => by rw [ep]; exact List.mem_append_left _ (hk kk hz)
      rw [h kk, ep]
      by_cases hp : kk ∈ keys p
      · rw [if_pos hp, if_pos (List.mem_append_left _ hp)]
      · rw [if_neg hp]
        by_cases ek : kk = x.1
        · rw [if_pos (by rw [ek]; simp), ek, lo, hv]
        · rw [if_neg fun z => (List.mem_append.mp z).elim hp fun z => ek (List.mem_singleton.mp z)]
    · refine ifK (by show (not (decide (([x.2.num, (x.2.den : Int)] : List Int) = [0, 1]))) = true; rw [eq0, decide_eq_false hv]; rfl) ?_
      refine ⟨x.1, n.ko x.1 hS, n.kks g hS, fr x.2, get_row g hx, rfl, x.1, n.ko x.1 hS, n.kks ga.toGood0 hS, ?_, ?_⟩
      · have := ga.toGood0.ln; have := n.ln
        exact szl (by rw [List.length_map]; omega)
      rw [aput_map]
      refine wn_loop n g k ys (p ++ [x]) (aput acc x.1 x.2) (by rw [e]; simp) (ga.put hS hv) (fun kk => ?_) fun kk hz => ?_
      · rw [look_put, h kk, ep]
        by_cases ek : kk = x.1
        · rw [if_pos ek.symm, if_pos (by rw [ek]; simp), ek, lo]
        · rw [if_neg fun z => ek z.symm]
          by_cases hp : kk ∈ keys p
          · rw [if_pos hp, if_pos (List.mem_append_left _ hp)]
          · rw [if_neg hp, if_neg fun z => (List.mem_append.mp z).elim hp fun z => ek (List.mem_singleton.mp z)]
      · rw [keys_put] at hz
        rw [ep]
        split at hz
        · exact List.mem_append_left _ (hk kk hz)
        · rcases List.mem_append.mp hz with z | z
          · exact List.mem_append_left _ (hk kk z)
          · exact List.mem_append_right _ z
theorem len_without_noughts {CW CE : Addr} : ∀ (ds : List D) (Qd : D → Prop), pp_without_noughts CW CE ds Qd → ds.length = 1 := fun ds Qd ⟨_, _, e, _⟩ => by rw [e]; rfl
theorem hp_without_noughts {CW CE : Addr} : ∀ (ds : List D) (Qd : D → Prop), pp_without_noughts CW CE ds Qd → td_without_noughts CW CE { nx := fun _ => Qd (.a .non), rt := Qd } (env0 2 ds) := by
  rintro ds Qd ⟨S, row, rfl, n, g, k⟩
  refine ⟨unAt1 rfl, rfl, ?_⟩
  show tdDcL _ _ _ _ _ ((row.map fun x => (x.1, fr x.2)).map fun kv => ofKey kv.1) _ _
  rw [List.map_map]
  exact wn_loop n g k row [] [] rfl ⟨⟨List.nodup_nil, fun k h => nomatch h⟩, fun x h => nomatch h⟩ (fun kk => by rw [if_neg (by simp)]; rfl) fun k h => nomatch h
end DL
set_option Elab.async false
set_option linter.all false
set_option maxRecDepth 100000
set_option exponentiation.threshold 20000
namespace DL
open PySem PySem.Spec PyProof.Rows L2
/-! plain mathematics: sizes, elimination -/
theorem cast_ne {K : Int} (h : K ≠ 0) : (K : Rat) ≠ 0 := fun e => h (Rat.intCast_eq_zero_iff.mp e)
theorem scale {K z : Int} {q : Rat} (hK : 0 < K) (h : (K : Rat) * q = z) : q = Rat.divInt z K := by
  rw [Rat.divInt_eq_div]
  have := cast_ne (K := K) (by omega)
  grind
theorem sm_of {K z : Int} {q : Rat} (hK : 0 < K) (h : (K : Rat) * q = z) : q.num.natAbs ≤ z.natAbs ∧ q.den ≤ K.natAbs := by
  have e := scale hK h
  constructor
  · rw [e, Rat.num_divInt, Int.sign_eq_one_of_pos hK, Int.one_mul]
    exact Int.natAbs_ediv_le_natAbs ..
  · rw [e, Rat.den_divInt, if_neg (by omega)]
    exact Nat.div_le_self ..
/-- scaled by K it is an integer of at most L -/
def Isz (K : Int) (L : Nat) (q : Rat) : Prop := ∃ z : Int, (K : Rat) * q = z ∧ z.natAbs ≤ L
theorem Isz.mono {K : Int} {L L' : Nat} {q : Rat} (h : Isz K L q) (hl : L ≤ L') : Isz K L' q := let ⟨z, a, b⟩ := h; ⟨z, a, Nat.le_trans b hl⟩
theorem Isz.zero {K : Int} {L : Nat} : Isz K L 0 := ⟨0, by rw [Rat.mul_zero]; rfl, Nat.zero_le _⟩
theorem Isz.add {K : Int} {L L' : Nat} {q r : Rat} (h : Isz K L q) (h' : Isz K L' r) : Isz K (L + L') (q + r) := by
  obtain ⟨z, a, b⟩ := h
  obtain ⟨z', a', b'⟩ := h'
  refine ⟨z + z', ?_, by omega⟩
  push_cast
  grind
theorem Isz.sub {K : Int} {L L' : Nat} {q r : Rat} (h : Isz K L q) (h' : Isz K L' r) : Isz K (L + L') (q - r) := by
  obtain ⟨z, a, b⟩ := h
  obtain ⟨z', a', b'⟩ := h'
  refine ⟨z - z', ?_, by omega⟩
  push_cast
  grind
theorem Isz.mul {K K' : Int} {L L' : Nat} {q r : Rat} (h : Isz K L q) (h' : Isz K' L' r) : Isz (K * K') (L * L') (q * r) := by
  obtain ⟨z, a, b⟩ := h
  obtain ⟨z', a', b'⟩ := h'
  refine ⟨z * z', ?_, by rw [Int.natAbs_mul]; exact Nat.mul_le_mul b b'⟩
  push_cast
  grind
theorem Isz.scale {K : Int} {L : Nat} {q : Rat} (h : Isz K L q) (c : Int) : Isz (c * K) (c.natAbs * L) q := by
  obtain ⟨z, a, b⟩ := h
  refine ⟨c * z, ?_, by rw [Int.natAbs_mul]; exact Nat.mul_le_mul (Nat.le_refl _) b⟩
  push_cast
  grind
theorem Isz.sm {K : Int} {L : Nat} {q : Rat} (h : Isz K L q) (h0 : 0 < K) (h1 : K.natAbs < 2 ^ 2000) (h2 : L < 2 ^ 2000) : Sm q := by
  obtain ⟨z, a, b⟩ := h
  obtain ⟨c, d⟩ := sm_of h0 a
  exact ⟨by omega, by omega⟩
/-! ### equations -/
structure Eqn where
  row : Rw
  right : Rat
  mix : Rw
/-- its size: b bits -/
structure Sc (b : Nat) (e : Eqn) : Prop where
  ex : ∃ K : Int, 0 < K ∧ K.natAbs ≤ 2 ^ b ∧ (∀ k, Isz K (2 ^ b) (look e.row k)) ∧ (∀ k, Isz K (2 ^ b) (look e.mix k)) ∧ Isz (12 * K) (2 ^ (b + 9)) e.right
theorem pow_mono {a b : Nat} (h : a ≤ b) : 2 ^ a ≤ 2 ^ b := Nat.pow_le_pow_right (by decide) h
theorem Sc.mono {b b' : Nat} {e : Eqn} (h : Sc b e) (hb : b ≤ b') : Sc b' e := by
  obtain ⟨K, h0, h1, h2, h3, h4⟩ := h
  exact ⟨K, h0, Nat.le_trans h1 (pow_mono hb), fun k => (h2 k).mono (pow_mono hb), fun k => (h3 k).mono (pow_mono hb), h4.mono (pow_mono (by omega))⟩
/-- e less f times h -/
structure Less (e h e' : Eqn) (f : Rat) : Prop where
  row : ∀ k, look e'.row k = look e.row k - f * look h.row k
  right : e'.right = e.right - f * h.right
  mix : ∀ k, look e'.mix k = look e.mix k - f * look h.mix k
theorem mul_pow (a b : Nat) : (2 : Nat) ^ a * 2 ^ b = 2 ^ (a + b) := (Nat.pow_add 2 a b).symm
/-- the pivot's scaled value -/
theorem less_sizes {be bh : Nat} {e h : Eqn} {n : NestedKey} (he : Sc be e) (hh : Sc bh h) (hn : look h.row n ≠ 0) :
    ∃ K : Int, 0 < K ∧ K.natAbs ≤ 2 ^ (be + bh) ∧ Isz K (2 ^ (be + bh)) (look e.row n / look h.row n) ∧ (∀ k, Isz K (2 ^ (be + bh)) (look e.row k)) ∧ (∀ k, Isz K (2 ^ (be + bh)) (look e.mix k)) ∧ Isz (12 * K) (2 ^ (be + bh + 9)) e.right ∧
      (∀ k, Isz K (2 ^ (be + bh)) (look e.row n / look h.row n * look h.row k)) ∧ (∀ k, Isz K (2 ^ (be + bh)) (look e.row n / look h.row n * look h.mix k)) ∧ Isz (12 * K) (2 ^ (be + bh + 9)) (look e.row n / look h.row n * h.right) := by
  obtain ⟨K, k0, k1, k2, k3, k4⟩ := he
  obtain ⟨J, j0, j1, j2, j3, j4⟩ := hh
  obtain ⟨E, ee, eb⟩ := k2 n
  obtain ⟨A, ae, ab⟩ := j2 n
  have hA : A ≠ 0 := fun z => by
    rw [z] at ae
    have hj := cast_ne (K := J) (by omega)
    have : (J : Rat) * look h.row n = 0 := ae
    rcases Rat.mul_eq_zero.mp this with q | q
    · exact hj q
    · exact hn q
  have hA' := cast_ne hA
  -- the sign of A
  obtain ⟨s, hs, hs2⟩ : ∃ s : Int, s.natAbs = 1 ∧ (A.natAbs : Int) = s * A := by
    by_cases q : A < 0
    · exact ⟨-1, rfl, by omega⟩
    · exact ⟨1, rfl, by omega⟩
  have habs : ((A.natAbs : Int) : Rat) = (s : Rat) * A := by rw [hs2]; push_cast; rfl
  -- what A over the pivot is
  have key : ((A.natAbs : Int) : Rat) * (K : Rat) * (look e.row n / look h.row n) = ((s * E : Int) : Rat) * J := by
    push_cast at habs ⊢
    rw [habs]
    have : look e.row n / look h.row n * look h.row n = look e.row n := by rw [Rat.div_def, Rat.mul_assoc, Rat.inv_mul_cancel _ hn, Rat.mul_one]
    grind
  have kA : 0 < K * (A.natAbs : Int) := Int.mul_pos k0 (by omega)
  have bA : (K * (A.natAbs : Int)).natAbs ≤ 2 ^ (be + bh) := by
    rw [Int.natAbs_mul, Int.natAbs_natCast, ← mul_pow]
    exact Nat.mul_le_mul k1 ab
  have up : ∀ {L : Nat} {q : Rat}, Isz K L q → Isz (K * (A.natAbs : Int)) (L * 2 ^ bh) q := fun {L q} hq => by
    rw [Int.mul_comm]
    exact (hq.scale _).mono (by rw [Int.natAbs_natCast, Nat.mul_comm]; exact Nat.mul_le_mul (Nat.le_refl _) ab)
  -- f times something that J scales
  have fm : ∀ {L : Nat} {q : Rat} {c : Int}, Isz (c * J) L q → Isz (c * (K * (A.natAbs : Int))) (2 ^ be * L) (look e.row n / look h.row n * q) := fun {L q c} hq => by
    obtain ⟨z, za, zb⟩ := hq
    refine ⟨s * E * z, ?_, ?_⟩
    · push_cast at key za ⊢
      grind
    · rw [Int.natAbs_mul, Int.natAbs_mul, hs, Nat.one_mul]
      exact Nat.mul_le_mul eb zb
  refine ⟨K * (A.natAbs : Int), kA, bA, ?_, fun k => by rw [← mul_pow]; exact up (k2 k), fun k => by rw [← mul_pow]; exact up (k3 k), ?_, fun k => ?_, fun k => ?_, ?_⟩
  · refine ⟨s * E * J, ?_, ?_⟩
    · push_cast at key ⊢
      grind
    · rw [Int.natAbs_mul, Int.natAbs_mul, hs, Nat.one_mul, ← mul_pow]
      exact Nat.mul_le_mul eb j1
  · rw [show be + bh + 9 = be + 9 + bh by omega, ← mul_pow, show 12 * (K * (A.natAbs : Int)) = (A.natAbs : Int) * (12 * K) by rw [Int.mul_comm K, ← Int.mul_assoc, Int.mul_comm 12, Int.mul_assoc]]
    exact (k4.scale _).mono (by rw [Int.natAbs_natCast, Nat.mul_comm]; exact Nat.mul_le_mul (Nat.le_refl _) ab)
  · rw [← mul_pow, ← Int.one_mul (K * _)]
    exact fm (by rw [Int.one_mul]; exact j2 k)
  · rw [← mul_pow, ← Int.one_mul (K * _)]
    exact fm (by rw [Int.one_mul]; exact j3 k)
  · rw [show be + bh + 9 = be + (bh + 9) by omega, ← mul_pow]
    exact fm j4
theorem Sc.less {be bh : Nat} {e h e' : Eqn} {n : NestedKey} (he : Sc be e) (hh : Sc bh h) (hn : look h.row n ≠ 0) (l : Less e h e' (look e.row n / look h.row n)) : Sc (be + bh + 1) e' := by
  obtain ⟨K, k0, k1, _, k3, k4, k5, k6, k7, k8⟩ := less_sizes he hh hn
  have two : ∀ a : Nat, 2 ^ a + 2 ^ a = 2 ^ (a + 1) := fun a => by rw [Nat.pow_succ]; omega
  refine ⟨K, k0, Nat.le_trans k1 (pow_mono (by omega)), fun k => ?_, fun k => ?_, ?_⟩
  · rw [l.row, ← two]; exact (k3 k).sub (k6 k)
  · rw [l.mix, ← two]; exact (k4 k).sub (k7 k)
  · rw [l.right, show be + bh + 1 + 9 = be + bh + 9 + 1 by omega, ← two]; exact k5.sub k8
end DL
set_option Elab.async false
set_option linter.all false
set_option maxRecDepth 100000
set_option exponentiation.threshold 20000
namespace DL
open PySem PySem.Spec PyProof.Rows L2
/-! elimination -/
def eqD (CE : Addr) (e : Eqn) : D := .i CE [("row", frs e.row), ("right", fr e.right), ("mix", frs e.mix)]
def dotS (S : List NestedKey) (r : Rw) (v : NestedKey → Rat) : Rat := (S.map fun k => look r k * v k).sum
def res (S : List NestedKey) (e : Eqn) (v : NestedKey → Rat) : Rat := dotS S e.row v - e.right
def pp_Equation_less (CW CE : Addr) : PP := fun ds Q => ∃ (S M : List NestedKey) (e h : Eqn) (n : NestedKey) (be bh : Nat), ds = [eqD CE e, eqD CE h, fr (look e.row n / look h.row n)] ∧ NameSet S ∧ NameSet M ∧ Good S e.row ∧ Good S h.row ∧ Good M e.mix ∧ Good M h.mix ∧ Sc be e ∧ Sc bh h ∧ be + bh ≤ 1100 ∧ look h.row n ≠ 0 ∧
  ∀ e', Good S e'.row → Good M e'.mix → Less e h e' (look e.row n / look h.row n) → Q (eqD CE e')
/-- the heads so far -/
abbrev Hds := List (NestedKey × Eqn)
def headD (CE : Addr) (x : NestedKey × Eqn) : D := .t [ofKey x.1, eqD CE x.2]
structure Head (S M : List NestedKey) (j : Nat) (x : NestedKey × Eqn) : Prop where
  row : Good S x.2.row
  mix : Good M x.2.mix
  nS : x.1 ∈ S
  nz : look x.2.row x.1 ≠ 0
  sc : Sc (2 ^ (j + 1) - 1) x.2
structure Heads (S M : List NestedKey) (hs : Hds) : Prop where
  hd : ∀ (j : Nat) (x : NestedKey × Eqn), hs[j]? = some x → Head S M j x
  tri : ∀ (i j : Nat) (x y : NestedKey × Eqn), i < j → hs[i]? = some x → hs[j]? = some y → look y.2.row x.1 = 0
/-- one bound for all values -/
def Unif (v : NestedKey → Rat) : Prop := ∃ P : Int, 0 < P ∧ P.natAbs ≤ 2 ^ 1100 ∧ ∀ n, Isz P (2 ^ 1100) (v n)
structure NameSet2 (S : List NestedKey) : Prop extends NameSet S where
  two : ∀ k ∈ S, ∃ a b : Int, k = .tup [.num a, .num b]
  nine : S.length ≤ 9
  nd : S.Nodup
def pp_values_of (CW CE : Addr) : PP := fun ds Q => ∃ (S M : List NestedKey) (hs : Hds), ds = [.l (hs.map (headD CE))] ∧ NameSet2 S ∧ Heads S M hs ∧ ∀ V, Good0 S V → (∀ x ∈ hs, res S x.2 (look V) = 0) → Unif (look V) → Q (frs V)
def pp_solved (CW CE : Addr) : PP := fun ds Q => ∃ (S M : List NestedKey) (rows : List Rw) (rights : List Rat) (x : NestedKey → Rat), ds = [.l (rows.map frs), .l (rights.map fr)] ∧ NameSet2 S ∧ NameSet M ∧ (∀ i, i < rows.length → NestedKey.num i ∈ M) ∧ rows.length = rights.length ∧ rows.length ≤ 100 ∧
  (∀ r ∈ rows, Good0 S r ∧ ∀ k, Isz 1 2 (look r k)) ∧ (∀ q ∈ rights, Isz 12 (2 ^ 10) q) ∧ (∀ (i : Nat) (r : Rw) (q : Rat), rows[i]? = some r → rights[i]? = some q → dotS S r x = q) ∧
  ∀ V, Good0 S V → (∀ (i : Nat) (r : Rw) (q : Rat), rows[i]? = some r → rights[i]? = some q → dotS S r (look V) = q) → Unif (look V) → Q (.t [.a (.str "one"), frs V])
def td_Equation_less_s2 (CW CE : Addr) : TDS := (tdRet (tdMake CE ["row", "right", "mix"] (pp_Equation CW CE) (tdCons (tdCall (pp_with_times CW CE) (tdCons (tdFld CE "row" (tdVar 0)) (tdCons (tdFld CE "row" (tdVar 1)) (tdCons (tdVar 3) tdNil)))) (tdCons (tdVar 4) (tdCons (tdCall (pp_with_times CW CE) (tdCons (tdFld CE "mix" (tdVar 0)) (tdCons (tdFld CE "mix" (tdVar 1)) (tdCons (tdVar 3) tdNil)))) tdNil)))))
def td_Equation_less_s1 (CW CE : Addr) : TDS := (tdSeq (tdSet 4 (tdCall (pp_plus CW CE) (tdCons (tdFld CE "right" (tdVar 0)) (tdCons (tdCall (pp_times CW CE) (tdCons (tdVar 3) (tdCons (tdFld CE "right" (tdVar 1)) tdNil))) tdNil)))) (td_Equation_less_s2 CW CE))
def td_Equation_less (CW CE : Addr) : TDS := (tdSeq (tdSet 3 (tdCall (pp_minus CW CE) (tdCons (tdC (.t (List.map D.int [0, 1]))) (tdCons (tdVar 2) tdNil)))) (td_Equation_less_s1 CW CE))
def td_values_of_b1 (CW CE : Addr) : TDS := (tdIfS (tdB (tdOp (rdEq not) (tdVar 5) (tdVar 2))) (tdSet 4 (tdCall (pp_minus CW CE) (tdCons (tdVar 4) (tdCons (tdCall (pp_times CW CE) (tdCons (tdOp rdIxA (tdFld CE "row" (tdVar 3)) (tdVar 5)) (tdCons (tdGetX (tdVar 1) (tdVar 5) (tdC (.t (List.map D.int [0, 1])))) tdNil))) tdNil)))) tdNext)
def td_values_of_b2 (CW CE : Addr) : TDS := (tdSeq (tdSet 4 (tdFld CE "right" (tdVar 3))) (tdSeq (tdFor (tdiKeys (tdFld CE "row" (tdVar 3))) (tgName 5) (td_values_of_b1 CW CE)) (tdDSet 1 (tdCall (pp_over CW CE) (tdCons (tdVar 4) (tdCons (tdOp rdIxA (tdFld CE "row" (tdVar 3)) (tdVar 2)) tdNil))) (tdVar 2))))
def td_values_of_s2 (CW CE : Addr) : TDS := (tdRet (tdVar 1))
def td_values_of_s1 (CW CE : Addr) : TDS := (tdSeq (tdFor (tdiRev (tdCons (tdVar 0) tdNil)) (tgTup 2 (tgCons (tgName 2) (tgCons (tgName 3) tgNil))) (td_values_of_b2 CW CE)) (td_values_of_s2 CW CE))
def td_values_of (CW CE : Addr) : TDS := (tdSeq (tdSet 1 tdDNew) (td_values_of_s1 CW CE))
def td_solved_b1 (CW CE : Addr) : TDS := (tdIfS (tdB (tdOp (rdIn id) (tdVar 6) (tdFld CE "row" (tdVar 5)))) (tdSet 5 (tdMeth CE "less" (pp_Equation_less CW CE) (tdVar 5) (tdCons (tdVar 7) (tdCons (tdCall (pp_over CW CE) (tdCons (tdOp rdIxA (tdFld CE "row" (tdVar 5)) (tdVar 6)) (tdCons (tdOp rdIxA (tdFld CE "row" (tdVar 7)) (tdVar 6)) tdNil))) tdNil)))) tdNext)
def td_solved_b2 (CW CE : Addr) : TDS := (tdSeq (tdSet 5 (tdMake CE ["row", "right", "mix"] (pp_Equation CW CE) (tdCons (tdCall (pp_without_noughts CW CE) (tdCons (tdVar 4) tdNil)) (tdCons (tdOp rdIxA (tdVar 1) (tdVar 3)) (tdCons (tdDisp1 (fun k => ∃ i, k = .num i) (tdVar 3) (tdC (.t (List.map D.int [1, 1])))) tdNil))))) (tdSeq (tdForOwn 2 (tgTup 2 (tgCons (tgName 6) (tgCons (tgName 7) tgNil))) (td_solved_b1 CW CE)) (tdIfS (tdB (tdOp rdGt (tdCB rdLen (tdCons (tdFld CE "row" (tdVar 5)) tdNil)) (tdC (D.int 0)))) (tdAppend 2 (tdTup (tdCons (tdCB rdMinD (tdCons (tdFld CE "row" (tdVar 5)) tdNil)) (tdCons (tdVar 5) tdNil)))) (tdIfS (tdB (tdOp (rdEq not) (tdFld CE "right" (tdVar 5)) (tdC (.t (List.map D.int [0, 1]))))) (tdRet (tdTup (tdCons (tdC (.a (.str "none"))) (tdCons (tdFld CE "mix" (tdVar 5)) tdNil)))) tdNext))))
def td_solved_s2 (CW CE : Addr) : TDS := (tdShare 2 (tdRet (tdTup (tdCons (tdC (.a (.str "one"))) (tdCons (tdCall (pp_values_of CW CE) (tdCons (tdVar 2) tdNil)) tdNil)))))
def td_solved_s1 (CW CE : Addr) : TDS := (tdSeq (tdFor (tdiEnum (tdCons (tdVar 0) tdNil)) (tgTup 2 (tgCons (tgName 3) (tgCons (tgName 4) tgNil))) (td_solved_b2 CW CE)) (td_solved_s2 CW CE))
def td_solved (CW CE : Addr) : TDS := (tdSeq (tdSet 2 (tdLst tdNil)) (td_solved_s1 CW CE))
theorem Sm.neg {q : Rat} (h : Sm q) : Sm (-q) := by
  unfold Sm at *
  rw [Rat.neg_num, Int.natAbs_neg]
  exact ⟨h.1, by rw [Rat.neg_den]; exact h.2⟩
theorem big {a : Nat} {K : Int} (h : K.natAbs ≤ 2 ^ a) (ha : a < 2000) : K.natAbs < 2 ^ 2000 := Nat.lt_of_le_of_lt h (Nat.pow_lt_pow_right (by decide) ha)
theorem big' {a : Nat} (ha : a < 2000) : 2 ^ a < 2 ^ 2000 := Nat.pow_lt_pow_right (by decide) ha
theorem big12 {a : Nat} {K : Int} (h : K.natAbs ≤ 2 ^ a) (ha : a < 1900) : (12 * K).natAbs < 2 ^ 2000 := by
  rw [Int.natAbs_mul]
  have : (12 : Int).natAbs * K.natAbs ≤ 2 ^ 4 * 2 ^ a := Nat.mul_le_mul (by decide) h
  rw [mul_pow] at this
  exact Nat.lt_of_le_of_lt this (Nat.pow_lt_pow_right (by decide) (by omega))
theorem isz_mem {K : Int} {L : Nat} {r : Rw} (nd : (keys r).Nodup) (h : ∀ k, Isz K L (look r k)) {x : NestedKey × Rat} (hx : x ∈ r) : Isz K L x.2 := by rw [← (look_mem nd hx).1]; exact h x.1
theorem len_Equation_less {CW CE : Addr} : ∀ (ds : List D) (Qd : D → Prop), pp_Equation_less CW CE ds Qd → ds.length = 3 := fun ds Qd ⟨_, _, _, _, _, _, _, e, _⟩ => by rw [e]; rfl
theorem hp_Equation_less {CW CE : Addr} : ∀ (ds : List D) (Qd : D → Prop), pp_Equation_less CW CE ds Qd → td_Equation_less CW CE { nx := fun _ => Qd (.a .non), rt := Qd } (env0 5 ds) := by
  rintro ds Qd ⟨S, M, e, h, n, be, bh, rfl, nS, nM, ge, gh, me, mh, se, sh, hb, hn, k⟩
  obtain ⟨K, k0, k1, kf, k3, k4, k5, k6, k7, k8⟩ := less_sizes se sh hn
  obtain ⟨J, j0, j1, j2, j3, j4⟩ := sh
  have sK := big k1 (by omega)
  have s12 := big12 k1 (by omega)
  have sL := big' (a := be + bh) (by omega)
  have sL9 := big' (a := be + bh + 9) (by omega)
  have k12 : 0 < 12 * K := by omega
  have smf := kf.sm k0 sK sL
  have sJ := big j1 (by omega)
  have sJ12 := big12 j1 (by omega)
  have z0 : Sm 0 := by constructor <;> decide +kernel
  have nf : (0 : Rat) - look e.row n / look h.row n = -(look e.row n / look h.row n) := by grind
  refine ⟨rfl, 0, look e.row n / look h.row n, by rw [fr0]; rfl, z0, smf, rfl, ?_⟩
  rw [nf]
  generalize look e.row n / look h.row n = f at *
  have nm : ∀ q : Rat, -f * q = -(f * q) := fun q => by grind
  have sr : Sm (-f * h.right) := by rw [nm]; exact (k8.sm k12 s12 sL9).neg
  refine ⟨rfl, fr e.right, rfl, rfl, fr h.right, rfl, rfl, -f, h.right, rfl, smf.neg, j4.sm (by omega) sJ12 (big' (by omega)), rfl, e.right, -f * h.right, rfl, k5.sm k12 s12 sL9, sr, rfl, ?_⟩
  refine ⟨rfl, frs e.row, rfl, rfl, frs h.row, rfl, rfl, S, e.row, h.row, -f, rfl, nS, ge, gh, smf.neg, fun x hx => ⟨(isz_mem gh.nd j2 hx).sm j0 sJ (big' (by omega)), by rw [nm, ← (look_mem gh.nd hx).1]; exact ((k6 x.1).sm k0 sK sL).neg, (k3 x.1).sm k0 sK sL⟩, fun r gr hr => ?_⟩
  refine ⟨rfl, frs e.mix, rfl, rfl, frs h.mix, rfl, rfl, M, e.mix, h.mix, -f, rfl, nM, me, mh, smf.neg, fun x hx => ⟨(isz_mem mh.nd j3 hx).sm j0 sJ (big' (by omega)), by rw [nm, ← (look_mem mh.nd hx).1]; exact ((k7 x.1).sm k0 sK sL).neg, (k4 x.1).sm k0 sK sL⟩, fun m gm hm => ?_⟩
  refine ⟨rfl, rfl, rfl, ?_⟩
  exact k ⟨r, e.right + -f * h.right, m⟩ gr gm ⟨fun kk => by rw [hr kk]; grind, by show e.right + -f * h.right = _; grind, fun kk => by rw [hm kk]; grind⟩
end DL
set_option Elab.async false
set_option linter.all false
set_option maxRecDepth 100000
set_option exponentiation.threshold 20000
namespace DL
open PySem PySem.Spec PyProof.Rows L2
/-! values_of: the heads solved backwards -/
theorem dot_nil {S : List NestedKey} {v : NestedKey → Rat} : dotS S [] v = 0 := by
  unfold dotS
  induction S with
  | nil => rfl
  | cons k S ih => rw [List.map_cons, List.sum_cons, ih]; show (0 : Rat) * v k + 0 = 0; grind
theorem look_cons {p : NestedKey × Rat} {r : Rw} {k : NestedKey} : look (p :: r) k = if p.1 = k then p.2 else look r k := by
  unfold look
  rw [aget_cons]
  split <;> rfl
theorem dot_cons {p : NestedKey × Rat} {r : Rw} {v : NestedKey → Rat} (np : p.1 ∉ keys r) : ∀ {S : List NestedKey}, S.Nodup → dotS S (p :: r) v = (if p.1 ∈ S then p.2 * v p.1 else 0) + dotS S r v
  | [], _ => by simp [dotS]; grind
  | k :: S, nd => by
    obtain ⟨n1, n2⟩ := List.nodup_cons.mp nd
    have ih := dot_cons (v := v) np n2
    unfold dotS at *
    rw [List.map_cons, List.sum_cons, List.map_cons, List.sum_cons, ih, look_cons]
    by_cases e : p.1 = k
    · have h1 : p.1 ∉ S := by rw [e]; exact n1
      rw [if_pos e, if_neg h1, if_pos (by rw [e]; exact List.mem_cons_self), e, look_no (e ▸ np)]
      grind
    · rw [if_neg e]
      by_cases h : p.1 ∈ S
      · rw [if_pos h, if_pos (List.mem_cons_of_mem _ h)]; grind
      · rw [if_neg h, if_neg fun z => (List.mem_cons.mp z).elim e h]; grind
/-- the sum over the row's own entries -/
def ent (r : Rw) (v : NestedKey → Rat) : Rat := (r.map fun x => x.2 * v x.1).sum
theorem dot_ent {S : List NestedKey} {v : NestedKey → Rat} (nd : S.Nodup) : ∀ {r : Rw}, Good0 S r → dotS S r v = ent r v
  | [], _ => dot_nil
  | p :: r, g => by
    obtain ⟨n1, n2⟩ := List.nodup_cons.mp g.nd
    rw [dot_cons n1 nd, if_pos (g.sub p.1 List.mem_cons_self), dot_ent nd ⟨n2, fun k hk => g.sub k (List.mem_cons_of_mem _ hk)⟩]
    rfl
theorem dot_upd {r V : Rw} {n : NestedKey} {c : Rat} : ∀ {S : List NestedKey}, S.Nodup → dotS S r (look (aput V n c)) = dotS S r (look V) + if n ∈ S then look r n * (c - look V n) else 0
  | [], _ => by simp [dotS]; grind
  | k :: S, nd => by
    obtain ⟨n1, n2⟩ := List.nodup_cons.mp nd
    have ih := dot_upd (S := S) (r := r) (V := V) (n := n) (c := c) n2
    unfold dotS at *
    rw [List.map_cons, List.sum_cons, List.map_cons, List.sum_cons, ih, look_put]
    by_cases e : n = k
    · have h1 : n ∉ S := by rw [e]; exact n1
      rw [if_pos e, if_neg h1, if_pos (by rw [e]; exact List.mem_cons_self), e]
      grind
    · rw [if_neg e]
      by_cases h : n ∈ S
      · rw [if_pos h, if_pos (List.mem_cons_of_mem _ h)]; grind
      · rw [if_neg h, if_neg fun z => (List.mem_cons.mp z).elim e h]; grind
/-- .. without the name n -/
def entN (n : NestedKey) (r : Rw) (v : NestedKey → Rat) : Rat := (r.map fun x => if x.1 = n then 0 else x.2 * v x.1).sum
theorem ent_N {n : NestedKey} {v : NestedKey → Rat} : ∀ {r : Rw}, (keys r).Nodup → ent r v = entN n r v + look r n * v n
  | [], _ => by show (0 : Rat) = 0 + 0 * v n; grind
  | p :: r, nd => by
    obtain ⟨n1, n2⟩ := List.nodup_cons.mp nd
    have ih := ent_N (n := n) (v := v) n2
    unfold ent entN at *
    rw [List.map_cons, List.sum_cons, List.map_cons, List.sum_cons, ih, look_cons]
    by_cases e : p.1 = n
    · rw [if_pos e, if_pos e, look_no (e ▸ n1), e]; grind
    · rw [if_neg e, if_neg e]; grind
theorem entN_snoc {n : NestedKey} {v : NestedKey → Rat} {r : Rw} {x : NestedKey × Rat} : entN n (r ++ [x]) v = entN n r v + if x.1 = n then 0 else x.2 * v x.1 := by
  unfold entN
  rw [List.map_append, List.sum_append]
  simp
  grind
/-- values of the heads from m on -/
structure Vals (p w : Nat) (V : Rw) : Prop where
  ex : ∃ P : Int, 0 < P ∧ P.natAbs ≤ 2 ^ p ∧ ∀ n, Isz (12 * P) (2 ^ w) (look V n)
theorem pow4 {a : Nat} {t : Nat} (h : t ≤ 9) : 2 ^ a + t * 2 ^ a ≤ 2 ^ (a + 4) := by
  have : t * 2 ^ a ≤ 9 * 2 ^ a := Nat.mul_le_mul h (Nat.le_refl _)
  have : 2 ^ (a + 4) = 16 * 2 ^ a := by rw [Nat.pow_add]; omega
  omega
/-- the row's sum under way -/
theorem part_sz {b p w : Nat} {K P : Int} {row V : Rw} {right : Rat} {n : NestedKey} (hw : p + 9 ≤ w) (k1 : K.natAbs ≤ 2 ^ b) (p1 : P.natAbs ≤ 2 ^ p) (hr : ∀ x ∈ row, Isz K (2 ^ b) x.2) (hq : Isz (12 * K) (2 ^ (b + 9)) right) (hv : ∀ n, Isz (12 * P) (2 ^ w) (look V n)) :
    ∀ q : Rw, (∀ x ∈ q, x ∈ row) → Isz (K * (12 * P)) (2 ^ (b + w) + q.length * 2 ^ (b + w)) (right - entN n q (look V)) := by
  have h0 : Isz (K * (12 * P)) (2 ^ (b + w)) right := by
    have := hq.scale P
    rw [show P * (12 * K) = K * (12 * P) by rw [Int.mul_comm P, Int.mul_comm 12 K, Int.mul_assoc]] at this
    refine this.mono (Nat.le_trans (Nat.mul_le_mul p1 (Nat.le_refl _)) ?_)
    rw [mul_pow]
    exact pow_mono (by omega)
  have go : ∀ (q : Rw) (L : Nat) (r0 : Rat), (∀ x ∈ q, x ∈ row) → Isz (K * (12 * P)) L r0 → Isz (K * (12 * P)) (L + q.length * 2 ^ (b + w)) (r0 - entN n q (look V)) := by
    intro q
    induction q with
    | nil => intro L r0 _ h; refine Isz.mono (L := L) ?_ (by simp); show Isz _ _ (r0 - 0); rw [show r0 - 0 = r0 by grind]; exact h
    | cons x q ih =>
      intro L r0 hx h
      have e1 : entN n (x :: q) (look V) = (if x.1 = n then 0 else x.2 * look V x.1) + entN n q (look V) := by unfold entN; rw [List.map_cons, List.sum_cons]
      rw [e1, show r0 - ((if x.1 = n then 0 else x.2 * look V x.1) + entN n q (look V)) = (r0 - if x.1 = n then 0 else x.2 * look V x.1) - entN n q (look V) by grind]
      refine (ih (L + 2 ^ (b + w)) _ (fun y hy => hx y (List.mem_cons_of_mem _ hy)) ?_).mono (by rw [List.length_cons, Nat.add_mul]; omega)
      by_cases e : x.1 = n
      · rw [if_pos e, show r0 - 0 = r0 by grind]; exact h.mono (Nat.le_add_right _ _)
      · rw [if_neg e]
        have i2 := (hr x (hx x List.mem_cons_self)).mul (hv x.1)
        rw [mul_pow] at i2
        exact h.sub i2
  exact fun q hq => go q _ right hq h0
/-- one more value -/
theorem vals_step {b p w : Nat} {h : Eqn} {V : Rw} {n : NestedKey} {rest : Rat} (hw : p + 9 ≤ w) (hh : Sc b h) (hn : look h.row n ≠ 0) (hv : Vals p w V) (hlen : h.row.length ≤ 9) (nd : (keys h.row).Nodup) (hrest : rest = h.right - entN n h.row (look V)) : Vals (p + b) (w + b + 4) (aput V n (rest / look h.row n)) := by
  obtain ⟨P, p0, p1, pv⟩ := hv
  obtain ⟨K, k0, k1, k2, k3, k4⟩ := hh
  obtain ⟨A, ae, ab⟩ := k2 n
  have hA : A ≠ 0 := fun z => by
    rw [z] at ae
    have hj := cast_ne (K := K) (by omega)
    have : (K : Rat) * look h.row n = 0 := ae
    rcases Rat.mul_eq_zero.mp this with q | q
    · exact hj q
    · exact hn q
  obtain ⟨s, hs, hs2⟩ : ∃ s : Int, s.natAbs = 1 ∧ (A.natAbs : Int) = s * A := by
    by_cases q : A < 0
    · exact ⟨-1, rfl, by omega⟩
    · exact ⟨1, rfl, by omega⟩
  have habs : ((A.natAbs : Int) : Rat) = (s : Rat) * A := by rw [hs2]; push_cast; rfl
  have hr := part_sz (n := n) hw k1 p1 (fun x hx => isz_mem nd k2 hx) k4 pv h.row fun x hx => hx
  rw [← hrest] at hr
  refine ⟨P * (A.natAbs : Int), Int.mul_pos p0 (by omega), ?_, fun m => ?_⟩
  · rw [Int.natAbs_mul, Int.natAbs_natCast, ← mul_pow]
    exact Nat.mul_le_mul p1 ab
  · rw [look_put]
    by_cases e : n = m
    · rw [if_pos e]
      obtain ⟨z, za, zb⟩ := hr
      refine ⟨s * z, ?_, ?_⟩
      · have d : rest / look h.row n * look h.row n = rest := by rw [Rat.div_def, Rat.mul_assoc, Rat.inv_mul_cancel _ hn, Rat.mul_one]
        push_cast at habs za ⊢
        rw [habs]
        grind
      · rw [Int.natAbs_mul, hs, Nat.one_mul, show w + b + 4 = b + w + 4 by omega]
        exact Nat.le_trans zb (pow4 hlen)
    · rw [if_neg e]
      have := (pv m).scale (A.natAbs : Int)
      rw [show (A.natAbs : Int) * (12 * P) = 12 * (P * (A.natAbs : Int)) by rw [Int.mul_comm, Int.mul_assoc]] at this
      refine this.mono ?_
      rw [Int.natAbs_natCast]
      refine Nat.le_trans (Nat.mul_le_mul ab (Nat.le_refl _)) ?_
      rw [mul_pow]
      exact pow_mono (by omega)
/-- bits of the heads from m on, k of them in all -/
def bitsP (k m : Nat) : Nat := 2 ^ (k + 1) - 2 ^ (m + 1)
theorem bits_step {k m : Nat} (h : m + 1 ≤ k) : bitsP k (m + 1) + (2 ^ (m + 1) - 1) ≤ bitsP k m := by
  unfold bitsP
  have h1 : 2 ^ (m + 1 + 1) ≤ 2 ^ (k + 1) := pow_mono (by omega)
  have h2 : 2 ^ (m + 1 + 1) = 2 * 2 ^ (m + 1) := by rw [Nat.pow_succ]; omega
  have h3 : 0 < 2 ^ (m + 1) := Nat.pow_pos (by decide)
  omega
theorem Vals.mono {p p' w w' : Nat} {V : Rw} (h : Vals p w V) (hp : p ≤ p') (hw : w ≤ w') : Vals p' w' V := by
  obtain ⟨P, a, b, c⟩ := h
  exact ⟨P, a, Nat.le_trans b (pow_mono hp), fun n => (c n).mono (pow_mono hw)⟩
theorem Vals.unif {p w : Nat} {V : Rw} (h : Vals p w V) (hp : p ≤ 1090) (hw : w ≤ 1100) : Unif (look V) := by
  obtain ⟨P, a, b, c⟩ := h
  refine ⟨12 * P, by omega, ?_, fun n => (c n).mono (pow_mono hw)⟩
  rw [Int.natAbs_mul]
  have : (12 : Int).natAbs * P.natAbs ≤ 2 ^ 4 * 2 ^ p := Nat.mul_le_mul (by decide) b
  rw [mul_pow] at this
  exact Nat.le_trans this (pow_mono (by omega))
theorem NameSet2.kks {S : List NestedKey} (n : NameSet2 S) {r : Rw} (g : Good0 S r) {k : NestedKey} (hk : k ∈ S) : KKind (k :: (r.map fun x => (x.1, fr x.2)).map (·.1)) := n.toNameSet.kks g hk
theorem names_ne {a b c d : Int} : (not (decide (([a, b] : List Int) = [c, d]))) = decide (¬ (NestedKey.tup [.num a, .num b] = NestedKey.tup [.num c, .num d])) := by
  by_cases h : a = c ∧ b = d
  · rw [h.1, h.2]; simp
  · have h1 : ¬ (([a, b] : List Int) = [c, d]) := fun z => h (by injection z with z1 z2; injection z2 with z2 _; exact ⟨z1, z2⟩)
    have h2 : ¬ (NestedKey.tup [.num a, .num b] = NestedKey.tup [.num c, .num d]) := fun z => h (by injection z with z; injection z with z1 z2; injection z2 with z2 _; injection z1 with z1; injection z2 with z2; exact ⟨z1, z2⟩)
    rw [decide_eq_false h1, decide_eq_true h2]; rfl
end DL
set_option Elab.async false
set_option linter.all false
set_option maxRecDepth 100000
set_option exponentiation.threshold 20000
namespace DL
open PySem PySem.Spec PyProof.Rows L2
/-! values_of over data -/
theorem vi_loop {CW CE : Addr} {S : List NestedKey} {h : Eqn} {n : NestedKey} {V : Rw} {b p w : Nat} {v0 : Slot} {Dd : DEnds} (nS : NameSet2 S) (g : Good S h.row) (gV : Good0 S V) (hn : n ∈ S) (hw : p + 9 ≤ w) (hh : Sc b h) (hv : Vals p w V) (hb : b + w ≤ 1900) :
    ∀ (ys q : Rw) (x5 : Slot), h.row = q ++ ys → (∀ y5, Dd.nx [v0, .ow (frs V), .sh (ofKey n), .sh (eqD CE h), .sh (fr (h.right - entN n h.row (look V))), y5]) →
      tdForL (tgName 5) (td_values_of_b1 CW CE) (ys.map fun x => ofKey x.1) Dd [v0, .ow (frs V), .sh (ofKey n), .sh (eqD CE h), .sh (fr (h.right - entN n q (look V))), x5]
  | [], q, x5, e, k => by
    rw [List.append_nil] at e
    have := k x5
    rw [e] at this
    exact this
  | x :: ys, q, x5, e, k => by
    have hx : x ∈ h.row := by rw [e]; simp
    have hS : x.1 ∈ S := g.sub x.1 (List.mem_map.mpr ⟨x, hx, rfl⟩)
    have hlen : q.length ≤ 9 := by
      have := g.toGood0.ln
      rw [e, List.length_append] at this
      have := nS.nine
      omega
    obtain ⟨P, p0, p1, pv⟩ := id hv
    obtain ⟨K, k0, k1, k2, k3, k4⟩ := id hh
    have KP : 0 < K * (12 * P) := Int.mul_pos k0 (by omega)
    have KPb : (K * (12 * P)).natAbs < 2 ^ 2000 := by
      rw [Int.natAbs_mul, Int.natAbs_mul]
      have : K.natAbs * ((12 : Int).natAbs * P.natAbs) ≤ 2 ^ b * (2 ^ 4 * 2 ^ p) := Nat.mul_le_mul k1 (Nat.mul_le_mul (by decide) p1)
      rw [mul_pow, mul_pow] at this
      exact Nat.lt_of_le_of_lt this (Nat.pow_lt_pow_right (by decide) (by omega))
    have srest : Sm (h.right - entN n q (look V)) := by
      have := part_sz (n := n) hw k1 p1 (fun x hx => isz_mem g.nd k2 hx) k4 pv q fun y hy => by rw [e]; exact List.mem_append_left _ hy
      exact (this.mono (pow4 hlen)).sm KP KPb (big' (by omega))
    have sx : Sm x.2 := (isz_mem g.nd k2 hx).sm k0 (big k1 (by omega)) (big' (by omega))
    have sv : Sm (look V x.1) := (pv x.1).sm (by omega) (big12 p1 (by omega)) (big' (by omega))
    have sp : Sm (x.2 * look V x.1) := by
      have := (isz_mem g.nd k2 hx).mul (pv x.1)
      rw [mul_pow] at this
      exact this.sm KP KPb (big' (by omega))
    have nxt := fun y5 => vi_loop (CW := CW) nS g gV hn hw hh hv hb ys (q ++ [x]) y5 (by rw [e]; simp) k
    rw [entN_snoc] at nxt
    obtain ⟨kx, vx⟩ := x
    obtain ⟨a, b', rfl⟩ := nS.two kx hS
    obtain ⟨c, d, rfl⟩ := nS.two n hn
    by_cases ek : (NestedKey.tup [.num a, .num b'] = NestedKey.tup [.num c, .num d])
    · rw [if_pos ek, show entN (.tup [.num c, .num d]) q (look V) + 0 = entN (.tup [.num c, .num d]) q (look V) by grind] at nxt
      refine ifN (by show (not (decide (([a, b'] : List Int) = [c, d]))) = false; rw [names_ne]; exact decide_eq_false fun z => z ek) ?_
      exact nxt _
    · rw [if_neg ek] at nxt
      refine ifK (by show (not (decide (([a, b'] : List Int) = [c, d]))) = true; rw [names_ne]; exact decide_eq_true ek) ?_
      refine ⟨rfl, frs h.row, rfl, _, nS.ko _ hS, nS.kks g.toGood0 hS, fr vx, get_row g.toGood0 hx, _, nS.ko _ hS, nS.kks gV hS, rfl, rfl, vx, look V (.tup [.num a, .num b']), by rw [fr0, getD_fr]; rfl, sx, sv, rfl, h.right - entN (.tup [.num c, .num d]) q (look V), vx * look V (.tup [.num a, .num b']), rfl, srest, sp, rfl, ?_⟩
      have := nxt (.sh (ofKey (.tup [.num a, .num b'])))
      rw [show h.right - (entN (.tup [.num c, .num d]) q (look V) + vx * look V (.tup [.num a, .num b'])) = (h.right - entN (.tup [.num c, .num d]) q (look V)) - vx * look V (.tup [.num a, .num b']) by grind] at this
      exact this
theorem take_rev {α : Type} {hs : List α} {m : Nat} {x : α} (h : hs[m]? = some x) : (hs.take (m + 1)).reverse = x :: (hs.take m).reverse := by
  rw [List.take_add_one, h]
  simp
theorem vo_loop {CW CE : Addr} {S M : List NestedKey} {hs : Hds} {Qd : D → Prop} (nS : NameSet2 S) (H : Heads S M hs) (hk9 : hs.length ≤ 9) (k : ∀ V, Good0 S V → (∀ x ∈ hs, res S x.2 (look V) = 0) → Unif (look V) → Qd (frs V)) :
    ∀ (m : Nat) (V : Rw) (x2 x3 x4 x5 : Slot), m ≤ hs.length → Good0 S V → Vals (bitsP hs.length m) (bitsP hs.length m + 9 + 4 * (hs.length - m)) V → (∀ (i : Nat) (x : NestedKey × Eqn), m ≤ i → hs[i]? = some x → res S x.2 (look V) = 0) →
      tdForL (tgTup 2 (tgCons (tgName 2) (tgCons (tgName 3) tgNil))) (td_values_of_b2 CW CE) ((hs.take m).reverse.map (headD CE)) { nx := td_values_of_s2 CW CE { nx := fun _ => Qd (.a .non), rt := Qd }, rt := Qd } [.sh (.l (hs.map (headD CE))), .ow (frs V), x2, x3, x4, x5]
  | 0, V, x2, x3, x4, x5, _, gV, hv, h => by
    show Qd (frs V)
    refine k V gV (fun x hx => ?_) (hv.unif ?_ ?_)
    · obtain ⟨i, hi, e⟩ := List.getElem_of_mem hx
      exact h i x (Nat.zero_le _) (by rw [List.getElem?_eq_getElem hi, e])
    all_goals
      have : bitsP hs.length 0 ≤ 2 ^ 10 := Nat.le_trans (Nat.sub_le _ _) (pow_mono (by omega))
      omega
  | m + 1, V, x2, x3, x4, x5, hm, gV, hv, hres => by
    have hlt : m < hs.length := hm
    obtain ⟨x, ex⟩ : ∃ x, hs[m]? = some x := ⟨_, List.getElem?_eq_getElem hlt⟩
    have hd := H.hd m x ex
    obtain ⟨n, h⟩ := x
    have h9 : h.row.length ≤ 9 := Nat.le_trans hd.row.toGood0.ln nS.nine
    have e2 : 2 ^ (m + 1) ≤ 2 ^ 9 := pow_mono (by omega)
    have e3 : (2 : Nat) ^ (hs.length + 1) ≤ 2 ^ 10 := pow_mono (by omega)
    have bp : bitsP hs.length (m + 1) ≤ 1024 := Nat.le_trans (Nat.sub_le _ _) e3
    have bs := bits_step (k := hs.length) (m := m) hm
    have hw : bitsP hs.length (m + 1) + 9 ≤ bitsP hs.length (m + 1) + 9 + 4 * (hs.length - (m + 1)) := by omega
    rw [take_rev ex, List.map_cons]
    refine ⟨rfl, rfl, ?_⟩
    refine ⟨rfl, fr h.right, rfl, rfl, rfl, frs h.row, rfl, rfl, ?_⟩
    have e0 : h.right = h.right - entN n [] (look V) := by show h.right = h.right - 0; grind
    have e00 : fr h.right = fr (h.right - entN n [] (look V)) := by rw [← e0]
    show tdForL (tgName 5) (td_values_of_b1 CW CE) ((h.row.map fun x => (x.1, fr x.2)).map fun kv => ofKey kv.1) _ [_, _, _, _, .sh (fr h.right), _]
    rw [List.map_map, e00]
    refine vi_loop (CW := CW) (CE := CE) nS hd.row gV hd.nS hw hd.sc hv (by omega) h.row [] x5 rfl ?_
    · intro y5
      have hmem : (n, look h.row n) ∈ h.row := by
        have : n ∈ keys h.row := by
          by_cases z : n ∈ keys h.row
          · exact z
          · exact absurd (look_no z) hd.nz
        obtain ⟨v, e, hm'⟩ := aget_mem this
        have : look h.row n = v := by unfold look; rw [e]; rfl
        rw [this]; exact hm'
      have stp := vals_step (n := n) hw hd.sc hd.nz hv h9 hd.row.nd rfl
      have srest : Sm (h.right - entN n h.row (look V)) := by
        obtain ⟨P, p0, p1, pv⟩ := id hv
        obtain ⟨K, k0, k1, k2, k3, k4⟩ := hd.sc
        have KP : 0 < K * (12 * P) := Int.mul_pos k0 (by omega)
        have KPb : (K * (12 * P)).natAbs < 2 ^ 2000 := by
          rw [Int.natAbs_mul, Int.natAbs_mul]
          have : K.natAbs * ((12 : Int).natAbs * P.natAbs) ≤ 2 ^ (2 ^ (m + 1) - 1) * (2 ^ 4 * 2 ^ bitsP hs.length (m + 1)) := Nat.mul_le_mul k1 (Nat.mul_le_mul (by decide) p1)
          rw [mul_pow, mul_pow] at this
          exact Nat.lt_of_le_of_lt this (Nat.pow_lt_pow_right (by decide) (by omega))
        have := part_sz (n := n) hw k1 p1 (fun x hx => isz_mem hd.row.nd k2 hx) k4 pv h.row fun y hy => hy
        exact (this.mono (pow4 h9)).sm KP KPb (big' (by omega))
      have spiv : Sm (look h.row n) := by
        obtain ⟨K, k0, k1, k2, k3, k4⟩ := hd.sc
        exact (k2 n).sm k0 (big k1 (by omega)) (big' (by omega))
      refine ⟨rfl, frs h.row, rfl, n, nS.ko _ hd.nS, nS.kks hd.row.toGood0 hd.nS, fr (look h.row n), get_row hd.row.toGood0 hmem, rfl, _, look h.row n, rfl, srest, spiv, hd.nz, rfl, n, nS.ko _ hd.nS, nS.kks gV hd.nS, ?_, ?_⟩
      · have := gV.ln; have := nS.nine
        exact szl (by rw [List.length_map]; omega)
      show tdForL _ _ _ _ [_, .ow (.d (aput (V.map fun x => (x.1, fr x.2)) n (fr ((h.right - entN n h.row (look V)) / look h.row n)))), _, _, _, _]
      rw [aput_map]
      refine vo_loop nS H hk9 k m _ _ _ _ _ (by omega) (gV.put hd.nS) (stp.mono bs (by omega)) fun i x hi hxi => ?_
      unfold res
      rw [dot_upd nS.nd, if_pos hd.nS]
      by_cases ei : i = m
      · subst ei
        rw [ex] at hxi
        cases hxi
        rw [dot_ent nS.nd hd.row.toGood0, ent_N hd.row.nd]
        show entN n h.row (look V) + look h.row n * look V n + look h.row n * ((h.right - entN n h.row (look V)) / look h.row n - look V n) - h.right = 0
        have d : look h.row n * ((h.right - entN n h.row (look V)) / look h.row n) = h.right - entN n h.row (look V) := by rw [Rat.div_def, Rat.mul_comm, Rat.mul_assoc, Rat.inv_mul_cancel _ hd.nz, Rat.mul_one]
        generalize (h.right - entN n h.row (look V)) / look h.row n = c at d ⊢
        generalize look h.row n = a at d ⊢
        generalize entN n h.row (look V) = e at d ⊢
        generalize look V n = vn
        grind
      · have t := H.tri m i (n, h) x (by omega) ex hxi
        have r0 := hres i x (by omega) hxi
        unfold res at r0
        rw [show look x.2.row n = 0 from t]
        grind
theorem hds_nine {S M : List NestedKey} {hs : Hds} (nS : NameSet2 S) (H : Heads S M hs) : hs.length ≤ 9 := by
  have nd : (hs.map (·.1)).Nodup := by
    rw [List.nodup_iff_pairwise_ne, List.pairwise_iff_getElem]
    intro i j hi hj hij e
    rw [List.length_map] at hi hj
    rw [List.getElem_map, List.getElem_map] at e
    have t := H.tri i j hs[i] hs[j] hij (List.getElem?_eq_getElem hi) (List.getElem?_eq_getElem hj)
    rw [e] at t
    exact (H.hd j hs[j] (List.getElem?_eq_getElem hj)).nz t
  have := nodup_len (S := S) nd fun x hx => by
    obtain ⟨y, hy, e⟩ := List.mem_map.mp hx
    obtain ⟨i, hi, e2⟩ := List.getElem_of_mem hy
    rw [← e]
    exact (H.hd i y (by rw [List.getElem?_eq_getElem hi, e2])).nS
  rw [List.length_map] at this
  have := nS.nine
  omega
theorem len_values_of {CW CE : Addr} : ∀ (ds : List D) (Qd : D → Prop), pp_values_of CW CE ds Qd → ds.length = 1 := fun ds Qd ⟨_, _, _, e, _⟩ => by rw [e]; rfl
theorem hp_values_of {CW CE : Addr} : ∀ (ds : List D) (Qd : D → Prop), pp_values_of CW CE ds Qd → td_values_of CW CE { nx := fun _ => Qd (.a .non), rt := Qd } (env0 6 ds) := by
  rintro ds Qd ⟨S, M, hs, rfl, nS, H, k⟩
  refine ⟨rfl, rfl, ?_⟩
  have := vo_loop (CW := CW) (CE := CE) nS H (hds_nine nS H) k hs.length [] .un .un .un .un (Nat.le_refl _) ⟨List.nodup_nil, fun k h => nomatch h⟩ ⟨1, by decide, Nat.one_le_two_pow, fun n => Isz.zero⟩ fun i x hi hx => absurd (List.getElem?_eq_some_iff.mp hx).1 (by omega)
  rw [List.take_length, List.map_reverse] at this
  exact this
end DL
set_option Elab.async false
set_option linter.all false
set_option maxRecDepth 100000
set_option exponentiation.threshold 20000
namespace DL
open PySem PySem.Spec PyProof.Rows L2
/-! solved -/
theorem dot_lin {S : List NestedKey} {a b c : Rw} {f : Rat} {v : NestedKey → Rat} (h : ∀ k, look c k = look a k - f * look b k) : dotS S c v = dotS S a v - f * dotS S b v := by
  unfold dotS
  induction S with
  | nil => show (0 : Rat) = 0 - f * 0; grind
  | cons k S ih => rw [List.map_cons, List.sum_cons, List.map_cons, List.sum_cons, List.map_cons, List.sum_cons, ih, h k]; grind
theorem dot_same {S : List NestedKey} {a b : Rw} {v : NestedKey → Rat} (h : ∀ k, look a k = look b k) : dotS S a v = dotS S b v := by
  unfold dotS
  congr 1
  apply List.map_congr_left
  intro k _
  rw [h k]
/-- a row under way: j heads are used -/
structure Part (S M : List NestedKey) (hs : Hds) (j : Nat) (row0 : Rw) (right0 : Rat) (e : Eqn) : Prop where
  row : Good S e.row
  mix : Good M e.mix
  sc : Sc (2 ^ (j + 1) - 1) e
  tri : ∀ (i : Nat) (x : NestedKey × Eqn), i < j → hs[i]? = some x → look e.row x.1 = 0
  eq : ∀ v, (∀ x ∈ hs, res S x.2 v = 0) → res S e v = dotS S row0 v - right0
theorem pow_dbl (j : Nat) : 2 ^ (j + 1) - 1 + (2 ^ (j + 1) - 1) + 1 = 2 ^ (j + 1 + 1) - 1 := by
  have h3 : 0 < 2 ^ (j + 1) := Nat.pow_pos (by decide)
  have h2 : 2 ^ (j + 1 + 1) = 2 * 2 ^ (j + 1) := by rw [Nat.pow_succ]; omega
  omega
theorem Part.skip {S M : List NestedKey} {hs : Hds} {j : Nat} {row0 : Rw} {right0 : Rat} {e : Eqn} {x : NestedKey × Eqn} (p : Part S M hs j row0 right0 e) (hx : hs[j]? = some x) (h : look e.row x.1 = 0) : Part S M hs (j + 1) row0 right0 e :=
  ⟨p.row, p.mix, p.sc.mono (by have := pow_dbl j; omega), fun i y hi hy => by
    by_cases e1 : i = j
    · subst e1; rw [hx] at hy; cases hy; exact h
    · exact p.tri i y (by omega) hy, p.eq⟩
theorem Part.step {S M : List NestedKey} {hs : Hds} {j : Nat} {row0 : Rw} {right0 : Rat} {e e' : Eqn} {x : NestedKey × Eqn} (H : Heads S M hs) (p : Part S M hs j row0 right0 e) (hx : hs[j]? = some x) (g1 : Good S e'.row) (g2 : Good M e'.mix) (l : Less e x.2 e' (look e.row x.1 / look x.2.row x.1)) : Part S M hs (j + 1) row0 right0 e' := by
  have hd := H.hd j x hx
  refine ⟨g1, g2, ?_, fun i y hi hy => ?_, fun v hv => ?_⟩
  · have := p.sc.less hd.sc hd.nz l
    rw [pow_dbl] at this
    exact this
  · rw [l.row]
    by_cases e1 : i = j
    · subst e1
      rw [hx] at hy; cases hy
      rw [Rat.div_def, Rat.mul_assoc, Rat.inv_mul_cancel _ hd.nz, Rat.mul_one]
      grind
    · rw [p.tri i y (by omega) hy, H.tri i j y x (by omega) hy hx]
      grind
  · have a := p.eq v hv
    have b := hv x (List.mem_of_getElem? hx)
    unfold res at *
    rw [dot_lin l.row, l.right]
    generalize look e.row x.1 / look x.2.row x.1 = f
    grind
theorem kx_some {r : Rw} (k : NestedKey) : (aget (r.map fun x => (x.1, fr x.2)) k).isSome = (aget r k).isSome := by rw [aget_map, Option.isSome_map]
theorem Good.mem_iff {S : List NestedKey} {r : Rw} (g : Good S r) {k : NestedKey} : (aget r k).isSome = true ↔ look r k ≠ 0 := by
  constructor
  · intro h
    obtain ⟨v, e, hm⟩ := aget_mem (aget_iff h)
    have : look r k = v := by unfold look; rw [e]; rfl
    rw [this]
    exact g.nz _ hm
  · intro h
    cases q : aget r k with
    | none => exact absurd (by unfold look; rw [q]; rfl) h
    | some v => rfl
theorem Good.get {S : List NestedKey} {r : Rw} (g : Good S r) {k : NestedKey} (h : look r k ≠ 0) : (k, look r k) ∈ r := by
  obtain ⟨v, e, hm⟩ := aget_mem (aget_iff (g.mem_iff.mpr h))
  have : look r k = v := by unfold look; rw [e]; rfl
  rw [this]; exact hm
theorem si_loop {CW CE : Addr} {S M : List NestedKey} {hs : Hds} {row0 : Rw} {right0 : Rat} {v0 v1 v2 v3 v4 : Slot} {Dd : DEnds} (nS : NameSet2 S) (nM : NameSet M) (H : Heads S M hs) (h9 : hs.length ≤ 9) (k : ∀ e y6 y7, Part S M hs hs.length row0 right0 e → Dd.nx [v0, v1, v2, v3, v4, .sh (eqD CE e), y6, y7]) :
    ∀ (m j : Nat) (e : Eqn) (x6 x7 : Slot), m = hs.length - j → j ≤ hs.length → Part S M hs j row0 right0 e → tdForL (tgTup 2 (tgCons (tgName 6) (tgCons (tgName 7) tgNil))) (td_solved_b1 CW CE) ((hs.drop j).map (headD CE)) Dd [v0, v1, v2, v3, v4, .sh (eqD CE e), x6, x7]
  | 0, j, e, x6, x7, hm, hj, p => by
    have : j = hs.length := by omega
    subst this
    rw [List.drop_length]
    exact k e x6 x7 p
  | m + 1, j, e, x6, x7, hm, hj, p => by
    have hlt : j < hs.length := by omega
    rw [List.drop_eq_getElem_cons hlt, List.map_cons]
    have hx : hs[j]? = some hs[j] := List.getElem?_eq_getElem hlt
    generalize hs[j] = x at hx ⊢
    have hd := H.hd j x hx
    obtain ⟨n, h⟩ := x
    have hr := fun e' p' y6 y7 => si_loop (CW := CW) (v0 := v0) (v1 := v1) (v2 := v2) (v3 := v3) (v4 := v4) (Dd := Dd) nS nM H h9 k m (j + 1) e' y6 y7 (by omega) (by omega) p'
    have e2 : 2 ^ (j + 1) ≤ 2 ^ 9 := pow_mono (by omega)
    refine ⟨rfl, rfl, rfl, frs e.row, rfl, n, nS.ko n hd.nS, nS.kks p.row.toGood0 hd.nS, ?_⟩
    by_cases hz : look e.row n = 0
    · refine ifN (by show (aget (e.row.map fun x => (x.1, fr x.2)) n).isSome = false; rw [kx_some]; exact Bool.eq_false_iff.mpr fun z => p.row.mem_iff.mp z hz) ?_
      exact hr e (p.skip hx hz) _ _
    · refine ifK (by show (aget (e.row.map fun x => (x.1, fr x.2)) n).isSome = true; rw [kx_some]; exact p.row.mem_iff.mpr hz) ?_
      obtain ⟨K, k0, k1, k2, k3, k4⟩ := p.sc
      obtain ⟨J, j0, j1, j2, j3, j4⟩ := hd.sc
      have se : Sm (look e.row n) := (k2 n).sm k0 (big k1 (by omega)) (big' (by omega))
      have sh : Sm (look h.row n) := (j2 n).sm j0 (big j1 (by omega)) (big' (by omega))
      refine ⟨rfl, rfl, rfl, rfl, frs e.row, rfl, n, nS.ko n hd.nS, nS.kks p.row.toGood0 hd.nS, fr (look e.row n), get_row p.row.toGood0 (p.row.get hz), rfl, frs h.row, rfl, n, nS.ko n hd.nS, nS.kks hd.row.toGood0 hd.nS, fr (look h.row n), get_row hd.row.toGood0 (hd.row.get hd.nz), rfl, look e.row n, look h.row n, rfl, se, sh, hd.nz, rfl, ?_⟩
      refine ⟨S, M, e, h, n, 2 ^ (j + 1) - 1, 2 ^ (j + 1) - 1, rfl, nS.toNameSet, nM, p.row, hd.row, p.mix, hd.mix, p.sc, hd.sc, by omega, hd.nz, fun e' g1 g2 l => ⟨rfl, ?_⟩⟩
      exact hr e' (p.step H hx g1 g2 l) _ _
/-! the keys of a row can be asked for their least -/
theorem pair_ok {ks : List NestedKey} (h : ∀ k ∈ ks, ∃ a b : Int, k = .tup [.num a, .num b]) : okDs (ks.map ofKey) = true ∧ (∀ x ∈ pyDs (ks.map ofKey), ∃ a b : Int, x = .tuple [.int a, .int b]) ∧ PyData.depthAll (pyDs (ks.map ofKey)) ≤ 8 := by
  induction ks with
  | nil => exact ⟨rfl, (fun x hx => nomatch hx), by show PyData.depthAll [] ≤ 8; decide⟩
  | cons k ks ih =>
    obtain ⟨h1, h2, h3⟩ := ih fun x hx => h x (List.mem_cons_of_mem _ hx)
    obtain ⟨a, b, rfl⟩ := h k List.mem_cons_self
    refine ⟨?_, fun x hx => ?_, ?_⟩
    · show (okD (ofKey (.tup [.num a, .num b])) && okDs (ks.map ofKey)) = true
      rw [h1]; rfl
    · rcases List.mem_cons.mp hx with e | hx
      · exact ⟨a, b, e⟩
      · exact h2 x hx
    · show PyData.depthAll (PyData.tuple [.int a, .int b] :: pyDs (ks.map ofKey)) ≤ 8
      simp only [PyData.depthAll, PyData.depth]
      omega
theorem pair_alike {xs : List PyData} (h : ∀ x ∈ xs, ∃ a b : Int, x = .tuple [.int a, .int b]) : PySem.W.AlikeAll xs := by
  refine ⟨fun x hx y hy => ?_, fun x hx => ?_⟩
  · obtain ⟨a, b, rfl⟩ := h x hx
    obtain ⟨c, d, rfl⟩ := h y hy
    have := PySem.W.alike_ints [a, b] [c, d]
    simp only [List.map_cons, List.map_nil] at this
    unfold PySem.W.alike
    exact this
  · obtain ⟨a, b, rfl⟩ := h x hx
    exact fun z => nomatch z
/-- what has been found of the first t rows -/
structure Done (S M : List NestedKey) (rows : List Rw) (rights : List Rat) (x : NestedKey → Rat) (t : Nat) (hs : Hds) : Prop where
  H : Heads S M hs
  pl : ∀ y ∈ hs, res S y.2 x = 0
  sp : ∀ v, (∀ y ∈ hs, res S y.2 v = 0) → ∀ (i : Nat) (r : Rw) (q : Rat), i < t → rows[i]? = some r → rights[i]? = some q → dotS S r v = q
theorem fr1 : (.t (List.map D.int [1, 1]) : D) = fr 1 := by simp [fr]
theorem headD_app {CE : Addr} {hs : Hds} {x : NestedKey × Eqn} : hs.map (headD CE) ++ [.t [ofKey x.1, eqD CE x.2]] = (hs ++ [x]).map (headD CE) := by rw [List.map_append]; rfl
theorem isz_one : Isz 1 2 1 := ⟨1, Rat.mul_one _, by decide⟩
theorem so_loop {CW CE : Addr} {S M : List NestedKey} {rows : List Rw} {rights : List Rat} {x : NestedKey → Rat} {Qd : D → Prop} (nS : NameSet2 S) (nM : NameSet M) (hM : ∀ i, i < rows.length → NestedKey.num i ∈ M) (hl : rows.length = rights.length) (hlen : rows.length ≤ 100) (hr : ∀ r ∈ rows, Good0 S r ∧ ∀ k, Isz 1 2 (look r k)) (hq : ∀ q ∈ rights, Isz 12 (2 ^ 10) q)
    (hx : ∀ (i : Nat) (r : Rw) (q : Rat), rows[i]? = some r → rights[i]? = some q → dotS S r x = q) (k : ∀ V, Good0 S V → (∀ (i : Nat) (r : Rw) (q : Rat), rows[i]? = some r → rights[i]? = some q → dotS S r (look V) = q) → Unif (look V) → Qd (.t [.a (.str "one"), frs V])) :
    ∀ (m t : Nat) (hs : Hds) (x3 x4 x5 x6 x7 : Slot), m = rows.length - t → t ≤ rows.length → Done S M rows rights x t hs → tdForL (tgTup 2 (tgCons (tgName 3) (tgCons (tgName 4) tgNil))) (td_solved_b2 CW CE) (numbered t ((rows.drop t).map frs)) { nx := td_solved_s2 CW CE { nx := fun _ => Qd (.a .non), rt := Qd }, rt := Qd } [.sh (.l (rows.map frs)), .sh (.l (rights.map fr)), .ow (.l (hs.map (headD CE))), x3, x4, x5, x6, x7]
  | 0, t, hs, x3, x4, x5, x6, x7, hm, ht, d => by
    have : t = rows.length := by omega
    subst this
    rw [List.drop_length]
    refine ⟨rfl, S, M, hs, rfl, nS, d.H, fun V g h1 h2 => ⟨rfl, two_ok, ?_⟩⟩
    exact k V g (fun i r q hi hqi => d.sp (look V) h1 i r q (List.getElem?_eq_some_iff.mp hi).1 hi hqi) h2
  | m + 1, t, hs, x3, x4, x5, x6, x7, hm, ht, d => by
    have hlt : t < rows.length := by omega
    have hlt2 : t < rights.length := by omega
    have h9 := hds_nine nS d.H
    rw [List.drop_eq_getElem_cons hlt, List.map_cons]
    have e1 : rows[t]? = some rows[t] := List.getElem?_eq_getElem hlt
    have e2 : rights[t]? = some rights[t] := List.getElem?_eq_getElem hlt2
    obtain ⟨g0, gz⟩ := hr _ (List.mem_of_getElem? e1)
    have qz := hq _ (List.mem_of_getElem? e2)
    have hxt := hx t _ _ e1 e2
    have nxt := fun hs' d' y3 y4 y5 y6 y7 => so_loop (CW := CW) (CE := CE) nS nM hM hl hlen hr hq hx k m (t + 1) hs' y3 y4 y5 y6 y7 (by omega) hlt d'
    have en : ((t : Int) + 1) = ((t + 1 : Nat) : Int) := by omega
    have get2 : atI (rights.map fr) (t : Int) = some (fr rights[t]) := getMap e2
    generalize rows[t] = row at *
    generalize rights[t] = right at *
    refine ⟨rfl, rfl, ?_⟩
    refine ⟨rfl, S, row, rfl, nS.toNameSet, g0, fun r gr hrr => ⟨fr right, get2, rfl, .num t, rfl, .inl fun k hk => ⟨t, List.mem_singleton.mp hk⟩, ⟨t, rfl⟩, rfl, rfl, ⟨rfl, rfl, ?_⟩⟩⟩
    show tdSeq _ _ _ [_, _, _, _, _, .sh (.i CE [("row", frs r), ("right", fr right), ("mix", .d [(.num t, .t (List.map D.int [1, 1]))])]), _, _]
    rw [fr1]
    have p0 : Part S M hs 0 row right ⟨r, right, [(.num t, 1)]⟩ := by
      refine ⟨gr, ⟨⟨List.nodup_cons.mpr ⟨by simp, List.nodup_nil⟩, fun k hk => by rw [List.mem_singleton.mp hk]; exact hM t hlt⟩, fun y hy => by rw [List.mem_singleton.mp hy]; show (1:Rat) ≠ 0; decide⟩, ⟨1, by decide, by decide, fun k => ?_, fun k => ?_, ?_⟩, fun i y hi => absurd hi (by omega), fun v _ => ?_⟩
      · show Isz 1 2 (look r k)
        rw [hrr k]; exact gz k
      · show Isz 1 2 (look [(.num t, 1)] k)
        rw [look_cons]
        split
        · exact isz_one
        · exact Isz.zero
      · exact qz
      · show dotS S r v - right = dotS S row v - right
        rw [dot_same hrr]
    intro p
    refine si_loop (CW := CW) (v0 := .sh (.l (rows.map frs))) (v1 := .sh (.l (rights.map fr))) (v2 := .hid (.ref p)) (v3 := .sh (D.int t)) (v4 := .sh (frs row)) nS nM d.H h9 (fun e y6 y7 pe => ?_) hs.length 0 ⟨r, right, [(.num t, 1)]⟩ _ _ rfl (Nat.zero_le _) p0
    -- behind the heads
    refine ⟨rfl, rfl, frs e.row, rfl, ?_⟩
    have rx : res S e x = 0 := by rw [pe.eq x d.pl, hxt]; grind
    by_cases hne : e.row = []
    · refine ifN (by show decide ((0 : Int) < ((e.row.map fun x => (x.1, fr x.2)).length : Nat)) = false; rw [hne]; rfl) ?_
      have r0 : e.right = 0 := by
        unfold res at rx
        rw [hne, dot_nil] at rx
        grind
      refine ⟨rfl, fr e.right, rfl, ?_⟩
      refine ifN (by show (not (decide (([e.right.num, (e.right.den : Int)] : List Int) = [0, 1]))) = false; rw [eq0, decide_eq_true r0]; rfl) ?_
      show tdForL _ _ (numbered ((t : Int) + 1) _) _ _
      rw [en]
      refine nxt hs ⟨d.H, d.pl, fun v hv i r' q' hi hri hqi => ?_⟩ _ _ _ _ _
      by_cases ei : i = t
      · subst ei
        rw [e1] at hri; rw [e2] at hqi
        cases hri; cases hqi
        have := pe.eq v hv
        unfold res at this
        rw [hne, dot_nil, r0] at this
        grind
      · exact d.sp v hv i r' q' (by omega) hri hqi
    · have hpos : 0 < e.row.length := List.length_pos_iff.mpr hne
      refine ifK (by show decide ((0 : Int) < ((e.row.map fun x => (x.1, fr x.2)).length : Nat)) = true; rw [List.length_map]; exact decide_eq_true (by omega)) ?_
      have kk2 : ∀ k ∈ keys e.row, ∃ a b : Int, k = .tup [.num a, .num b] := fun k hk => nS.two k (pe.row.sub k hk)
      obtain ⟨o1, o2, o3⟩ := pair_ok kk2
      have ek : ((e.row.map fun x => (x.1, fr x.2)).map fun kv => ofKey kv.1) = (keys e.row).map ofKey := by rw [List.map_map, List.map_map]; rfl
      refine ⟨rfl, frs e.row, rfl, by rw [List.length_map]; exact hpos, by rw [ek]; exact o1, by rw [ek]; exact pair_alike o2, by rw [ek]; exact o3, fun kv hkv => ?_⟩
      obtain ⟨y, hy, rfl⟩ := List.mem_map.mp hkv
      have hyk : y.1 ∈ keys e.row := List.mem_map.mpr ⟨y, hy, rfl⟩
      have yl : look e.row y.1 ≠ 0 := by rw [(look_mem pe.row.nd hy).1]; exact pe.row.nz y hy
      refine ⟨rfl, two_ok, rfl, szl (by rw [List.length_map]; omega), ?_⟩
      show tdForL _ _ (numbered ((t : Int) + 1) _) _ [_, _, .ow (.l (hs.map (headD CE) ++ [.t [ofKey y.1, eqD CE e]])), _, _, _, _, _]
      rw [en, headD_app (x := (y.1, e))]
      refine nxt (hs ++ [(y.1, e)]) ⟨⟨fun j z hz => ?_, fun i j z z' hij hz hz' => ?_⟩, fun z hz => ?_, fun v hv i r' q' hi hri hqi => ?_⟩ _ _ _ _ _
      · by_cases hj : j < hs.length
        · rw [List.getElem?_append_left hj] at hz
          exact d.H.hd j z hz
        · rw [List.getElem?_append_right (by omega)] at hz
          have : j - hs.length = 0 := by
            have := (List.getElem?_eq_some_iff.mp hz).1
            simp at this; omega
          rw [this] at hz
          cases hz
          have ej : j = hs.length := by omega
          subst ej
          exact ⟨pe.row, pe.mix, pe.row.sub _ hyk, yl, pe.sc⟩
      · have hj : j < hs.length ∨ j = hs.length := by
          have := (List.getElem?_eq_some_iff.mp hz').1
          rw [List.length_append] at this; simp at this; omega
        have hi : i < hs.length := by omega
        rw [List.getElem?_append_left hi] at hz
        rcases hj with hj | hj
        · rw [List.getElem?_append_left hj] at hz'
          exact d.H.tri i j z z' hij hz hz'
        · subst hj
          rw [List.getElem?_append_right (Nat.le_refl _), Nat.sub_self] at hz'
          cases hz'
          exact pe.tri i z hi hz
      · rcases List.mem_append.mp hz with h | h
        · exact d.pl z h
        · rw [List.mem_singleton.mp h]; exact rx
      · have hv' : ∀ y ∈ hs, res S y.2 v = 0 := fun y hy => hv y (List.mem_append_left _ hy)
        by_cases ei : i = t
        · subst ei
          rw [e1] at hri; rw [e2] at hqi
          cases hri; cases hqi
          have a := pe.eq v hv'
          have b := hv (y.1, e) (by simp)
          rw [show res S e v = 0 from b] at a
          grind
        · exact d.sp v hv' i r' q' (by omega) hri hqi
theorem len_solved {CW CE : Addr} : ∀ (ds : List D) (Qd : D → Prop), pp_solved CW CE ds Qd → ds.length = 2 := fun ds Qd ⟨_, _, _, _, _, e, _⟩ => by rw [e]; rfl
theorem hp_solved {CW CE : Addr} : ∀ (ds : List D) (Qd : D → Prop), pp_solved CW CE ds Qd → td_solved CW CE { nx := fun _ => Qd (.a .non), rt := Qd } (env0 8 ds) := by
  rintro ds Qd ⟨S, M, rows, rights, x, rfl, nS, nM, hM, hl, hlen, hr, hq, hx, k⟩
  refine ⟨rfl, sz (by decide), rfl, rfl, ?_⟩
  exact so_loop (CW := CW) (CE := CE) nS nM hM hl hlen hr hq hx k rows.length 0 [] .un .un .un .un .un rfl (Nat.zero_le _) ⟨⟨fun j z hz => (by simp at hz), fun i j z z' _ hz => (by simp at hz)⟩, (fun y hy => nomatch hy), fun v hv i r q hi => absurd hi (by omega)⟩
end DL
set_option Elab.async false
set_option linter.all false
set_option maxRecDepth 100000
set_option exponentiation.threshold 20000
namespace DL
open PySem PySem.Spec PyProof.Rows L2
/-! the table's equations -/
def lK (h s : Int) : NestedKey := .tup [.num h, .num s]
def names9 : List NestedKey := [lK 0 (-1), lK 0 1, lK 0 2, lK 1 (-1), lK 1 1, lK 1 2, lK 2 (-1), lK 2 1, lK 2 2]
abbrev Trm := NestedKey × Int
def trms (x : Nat × Nat × Nat) (p : Pr) : List Trm := [(lK x.1 (-1), 1)] ++ (if 0 ≤ p.1 then [(lK p.1 (-1), -1)] else []) ++ (if 0 < p.2 then [(lK x.1 p.2, 1)] else []) ++ (if 0 < (x.2.1 : Int) then [(lK x.1 x.2.1, -1)] else [])
def addT : Rw → List Trm → Rw
  | r, [] => r
  | r, y :: ys => addT (aput r y.1 (look r y.1 + y.2)) ys
def trmD (y : Trm) : D := .t [ofKey y.1, D.int y.2]
def eqRow (x : Nat × Nat × Nat) (p : Pr) : Rw := addT [] (trms x p)
def pp_equation_of (CW CE : Addr) : PP := fun ds Q => ∃ (c : Int) (dl : Dl) (x : Nat × Nat × Nat) (p : Pr), ds = [webD CW c dl, stepD x] ∧ at3 dl x.1 x.2.1 x.2.2 = some p ∧ (∀ y ∈ trms x p, y.1 ∈ names9) ∧ Q (frs (eqRow x p))
def td_equation_of_b1 (CW CE : Addr) : TDS := (tdDSet 5 (tdCall (pp_plus CW CE) (tdCons (tdGetX (tdVar 5) (tdVar 9) (tdC (.t (List.map D.int [0, 1])))) (tdCons (tdCall (pp_whole CW CE) (tdCons (tdVar 10) tdNil)) tdNil))) (tdVar 9))
def td_equation_of_s9 (CW CE : Addr) : TDS := (tdRet (tdVar 5))
def td_equation_of_s8 (CW CE : Addr) : TDS := (tdSeq (tdForOwn 4 (tgTup 2 (tgCons (tgName 9) (tgCons (tgName 10) tgNil))) (td_equation_of_b1 CW CE)) (td_equation_of_s9 CW CE))
def td_equation_of_s7 (CW CE : Addr) : TDS := (tdSeq (tdSet 5 tdDNew) (td_equation_of_s8 CW CE))
def td_equation_of_s6 (CW CE : Addr) : TDS := (tdSeq (tdIfS (tdB (tdOp rdGt (tdVar 7) (tdC (D.int 0)))) (tdAppend 4 (tdTup (tdCons (tdTup (tdCons (tdVar 6) (tdCons (tdVar 7) tdNil))) (tdCons (tdC (D.int (-1))) tdNil)))) tdNext) (td_equation_of_s7 CW CE))
def td_equation_of_s5 (CW CE : Addr) : TDS := (tdSeq (tdIfS (tdB (tdOp rdGt (tdVar 3) (tdC (D.int 0)))) (tdAppend 4 (tdTup (tdCons (tdTup (tdCons (tdVar 6) (tdCons (tdVar 3) tdNil))) (tdCons (tdC (D.int 1)) tdNil)))) tdNext) (td_equation_of_s6 CW CE))
def td_equation_of_s4 (CW CE : Addr) : TDS := (tdSeq (tdIfS (tdB (tdOp rdGe (tdVar 2) (tdC (D.int 0)))) (tdAppend 4 (tdTup (tdCons (tdCall (pp_worth_name CW CE) (tdCons (tdVar 2) tdNil)) (tdCons (tdC (D.int (-1))) tdNil)))) tdNext) (td_equation_of_s5 CW CE))
def td_equation_of_s3 (CW CE : Addr) : TDS := (tdSeq (tdSet 4 (tdLst (tdCons (tdTup (tdCons (tdCall (pp_worth_name CW CE) (tdCons (tdVar 6) tdNil)) (tdCons (tdC (D.int 1)) tdNil))) tdNil))) (td_equation_of_s4 CW CE))
def td_equation_of_s2 (CW CE : Addr) : TDS := (tdSeq (tdSet 3 (tdCall (pp_next_at CW CE) (tdCons (tdVar 0) (tdCons (tdVar 1) tdNil)))) (td_equation_of_s3 CW CE))
def td_equation_of_s1 (CW CE : Addr) : TDS := (tdSeq (tdSet 2 (tdCall (pp_door_at CW CE) (tdCons (tdVar 0) (tdCons (tdVar 1) tdNil)))) (td_equation_of_s2 CW CE))
def td_equation_of (CW CE : Addr) : TDS := (tdSeq (tdAsg (tdVar 1) (tgTup 3 (tgCons (tgName 6) (tgCons (tgName 7) (tgCons (tgName 8) tgNil))))) (td_equation_of_s1 CW CE))
def w0 : World := ⟨fun _ _ => 0, { strHash := fun _ => 0, shareClass := fun _ => 0, mergeTok := id, idOf := fun _ => 0, idOfShared := fun _ _ => 0, followText := fun _ => false, idOfImm := fun _ => 0 }⟩
theorem names9_set : NameSet2 names9 where
  kk := .inr (by
    intro k hk
    simp only [names9, List.mem_cons, List.not_mem_nil, or_false] at hk
    rcases hk with h | h | h | h | h | h | h | h | h <;> subst h <;> exact ⟨⟨_, rfl⟩, by decide⟩)
  ap := .inr fun w => by
    have e : names9.map (·.hash w) = names9.map (·.hash w0) := rfl
    rw [e]; decide
  ko := by
    intro k hk
    simp only [names9, List.mem_cons, List.not_mem_nil, or_false] at hk
    rcases hk with h | h | h | h | h | h | h | h | h <;> subst h <;> rfl
  ln := by decide
  two := by
    intro k hk
    simp only [names9, List.mem_cons, List.not_mem_nil, or_false] at hk
    rcases hk with h | h | h | h | h | h | h | h | h <;> subst h <;> exact ⟨_, _, rfl⟩
  nine := by decide
  nd := by decide
theorem small_cast {z : Int} {n : Nat} (h : z.natAbs ≤ n) (hn : n ≤ 1000) : Sm (z : Rat) := ⟨by rw [Rat.num_intCast]; exact Nat.lt_of_le_of_lt (Nat.le_trans h hn) (by decide), by rw [Rat.den_intCast]; decide⟩
theorem eq_loop {CW CE : Addr} {Dd : DEnds} {v0 v1 v2 v3 v4 v6 v7 v8 : Slot} : ∀ (ys : List Trm) (m : Nat) (r : Rw) (x9 x10 : Slot), Good0 names9 r → m + ys.length ≤ 100 → (∀ k, ∃ z : Int, look r k = z ∧ z.natAbs ≤ m) → (∀ y ∈ ys, y.1 ∈ names9 ∧ y.2.natAbs ≤ 1) →
    (∀ y9 y10, Dd.nx [v0, v1, v2, v3, v4, .ow (frs (addT r ys)), v6, v7, v8, y9, y10]) →
    tdForL (tgTup 2 (tgCons (tgName 9) (tgCons (tgName 10) tgNil))) (td_equation_of_b1 CW CE) (ys.map trmD) Dd [v0, v1, v2, v3, v4, .ow (frs r), v6, v7, v8, x9, x10]
  | [], m, r, x9, x10, g, hm, hz, hy, q => q x9 x10
  | y :: ys, m, r, x9, x10, g, hm, hz, hy, q => by
    obtain ⟨h1, h2⟩ := hy y List.mem_cons_self
    obtain ⟨z, e, hz'⟩ := hz y.1
    rw [List.length_cons] at hm
    have n := names9_set.toNameSet
    refine ⟨rfl, rfl, ?_⟩
    refine ⟨y.1, n.ko _ h1, n.kks g h1, rfl, rfl, y.2, rfl, rfl, look r y.1, (y.2 : Rat), by rw [fr0, getD_fr]; rfl, by rw [e]; exact small_cast hz' (by omega), small_cast h2 (by decide), rfl, y.1, n.ko _ h1, n.kks g h1, ?_, ?_⟩
    · have := g.ln; have := n.ln
      exact szl (by rw [List.length_map]; omega)
    show tdForL _ _ _ _ [_, _, _, _, _, .ow (.d (aput (r.map fun x => (x.1, fr x.2)) y.1 (fr (look r y.1 + y.2)))), _, _, _, _, _]
    rw [aput_map]
    refine eq_loop ys (m + 1) _ _ _ (g.put h1) (by omega) (fun k => ?_) (fun w hw => hy w (List.mem_cons_of_mem _ hw)) q
    rw [look_put]
    split
    · exact ⟨z + y.2, by rw [e]; push_cast; rfl, by omega⟩
    · obtain ⟨z', e', h'⟩ := hz k
      exact ⟨z', e', by omega⟩
theorem trms_one {x : Nat × Nat × Nat} {p : Pr} : ∀ y ∈ trms x p, y.2.natAbs ≤ 1 := by
  intro y hy
  unfold trms at hy
  simp only [List.mem_append, List.mem_singleton] at hy
  rcases hy with ((h | h) | h) | h
  · rw [h]; exact Nat.le_refl 1
  · split at h
    · rw [List.mem_singleton.mp h]; exact Nat.le_refl 1
    · cases h
  · split at h
    · rw [List.mem_singleton.mp h]; exact Nat.le_refl 1
    · cases h
  · split at h
    · rw [List.mem_singleton.mp h]; exact Nat.le_refl 1
    · cases h
theorem trms_len {x : Nat × Nat × Nat} {p : Pr} : (trms x p).length ≤ 4 := by
  unfold trms
  simp only [List.length_append, List.length_singleton]
  split <;> split <;> split <;> simp
theorem len_equation_of {CW CE : Addr} : ∀ (ds : List D) (Qd : D → Prop), pp_equation_of CW CE ds Qd → ds.length = 2 := fun ds Qd ⟨_, _, _, _, e, _⟩ => by rw [e]; rfl
theorem hp_equation_of {CW CE : Addr} : ∀ (ds : List D) (Qd : D → Prop), pp_equation_of CW CE ds Qd → td_equation_of CW CE { nx := fun _ => Qd (.a .non), rt := Qd } (env0 11 ds) := by
  rintro ds Qd ⟨c, dl, ⟨h, s, n⟩, p, rfl, e, hn, q⟩
  have fin : ∀ (ts : List Trm), ts = trms (h, s, n) p → ∀ {v0 v1 v2 v3 v6 v7 v8 x9 x10 x5 : Slot}, td_equation_of_s7 CW CE { nx := fun _ => Qd (.a .non), rt := Qd } [v0, v1, v2, v3, .ow (.l (ts.map trmD)), x5, v6, v7, v8, x9, x10] := by
    intro ts et v0 v1 v2 v3 v6 v7 v8 x9 x10 x5
    refine ⟨rfl, ?_⟩
    have hl := trms_len (x := (h, s, n)) (p := p)
    intro pp
    refine eq_loop (CW := CW) (CE := CE) ts 0 [] x9 x10 ⟨List.nodup_nil, fun k z => nomatch z⟩ (by rw [et]; omega) (fun k => ⟨0, rfl, Nat.le_refl _⟩) (fun y hy => ⟨hn y (et ▸ hy), trms_one y (et ▸ hy)⟩) fun y9 y10 => ?_
    rw [et]
    exact ⟨rfl, q⟩
  obtain ⟨door, later⟩ := p
  refine ⟨rfl, rfl, rfl, rfl, c, dl, (h, s, n), (door, later), rfl, e, ?_⟩
  refine ⟨rfl, rfl, c, dl, (h, s, n), (door, later), rfl, e, ?_⟩
  refine ⟨rfl, rfl, h, rfl, rfl, two_ok, rfl, sz (show 1 ≤ 16777216 by decide), ?_⟩
  have h6 : ∀ ts : List Trm, ts.length ≤ 3 → (ts ++ if 0 < ((s : Nat) : Int) then [(lK h s, -1)] else []) = trms (h, s, n) (door, later) → td_equation_of_s6 CW CE { nx := fun _ => Qd (.a .non), rt := Qd } [.sh (webD CW c dl), .sh (stepD (h, s, n)), .sh (D.int door), .sh (D.int later), .ow (.l (ts.map trmD)), .un, .sh (D.int h), .sh (D.int s), .sh (D.int n), .un, .un] := by
    intro ts hl et
    refine ifI (p := (0 : Int) < s) (fun hc => ?_) (fun hc => ?_)
    · rw [if_pos hc] at et
      refine ⟨rfl, two_ok, rfl, two_ok, rfl, ?_, ?_⟩
      · exact szl (by rw [List.length_map]; omega)
      · have := fin _ et (v0 := .sh (webD CW c dl)) (v1 := .sh (stepD (h, s, n))) (v2 := .sh (D.int door)) (v3 := .sh (D.int later)) (v6 := .sh (D.int h)) (v7 := .sh (D.int s)) (v8 := .sh (D.int n)) (x9 := .un) (x10 := .un) (x5 := .un)
        rw [List.map_append] at this
        exact this
    · rw [if_neg hc, List.append_nil] at et
      exact fin _ et
  have h5 : ∀ ts : List Trm, ts.length ≤ 2 → ((ts ++ if 0 < later then [(lK h later, 1)] else []) ++ if 0 < ((s : Nat) : Int) then [(lK h s, -1)] else []) = trms (h, s, n) (door, later) → td_equation_of_s5 CW CE { nx := fun _ => Qd (.a .non), rt := Qd } [.sh (webD CW c dl), .sh (stepD (h, s, n)), .sh (D.int door), .sh (D.int later), .ow (.l (ts.map trmD)), .un, .sh (D.int h), .sh (D.int s), .sh (D.int n), .un, .un] := by
    intro ts hl et
    refine ifI (p := (0 : Int) < later) (fun hc => ?_) (fun hc => ?_)
    · rw [if_pos hc] at et
      refine ⟨rfl, two_ok, rfl, two_ok, rfl, ?_, ?_⟩
      · exact szl (by rw [List.length_map]; omega)
      · have := h6 _ (by rw [List.length_append]; simp; omega) et
        rw [List.map_append] at this
        exact this
    · rw [if_neg hc, List.append_nil] at et
      exact h6 _ (by omega) et
  refine ⟨rfl, ?_⟩
  refine ifI (p := (0 : Int) ≤ door) (fun hc => ?_) (fun hc => ?_)
  · refine ⟨rfl, door, rfl, rfl, two_ok, rfl, ?_, ?_⟩
    · exact szl (show 1 < 16777216 by decide)
    · exact h5 [(lK h (-1), 1), (lK door (-1), -1)] (Nat.le_refl _) (by unfold trms; rw [if_pos (show 0 ≤ door from hc)]; rfl)
  · exact h5 [(lK h (-1), 1)] (by show 1 ≤ 2; decide) (by unfold trms; rw [if_neg (show ¬ 0 ≤ door from hc)]; rfl)
end DL
set_option Elab.async false
set_option linter.all false
set_option maxRecDepth 100000
set_option exponentiation.threshold 20000
namespace DL
open PySem PySem.Spec PyProof.Rows L2
/-! what the elimination finds of a web's equations -/
def sumT (ts : List Trm) (v : NestedKey → Rat) : Rat := (ts.map fun y => (y.2 : Rat) * v y.1).sum
def price (ps : Prs) (x : Nat × Nat × Nat) : Rat := look (ps.map fun y => (stepK y.1, y.2)) (stepK x)
/-- v tells the prices -/
def Tells (dl : Dl) (ps : Prs) (v : NestedKey → Rat) : Prop := ∀ (x : Nat × Nat × Nat) (p : Pr), at3 dl x.1 x.2.1 x.2.2 = some p → sumT (trms x p) v = price ps x
def Small12 (dl : Dl) (ps : Prs) : Prop := ∀ x : Nat × Nat × Nat, Isz 12 (2 ^ 10) (price ps x)
def pp_looked_for (CW CE : Addr) : PP := fun ds Q => ∃ (c : Int) (dl : Dl) (ps : Prs) (v : NestedKey → Rat), ds = [webD CW c dl, pricesD ps] ∧ WOk c dl ∧ Small12 dl ps ∧ Tells dl ps v ∧ ∀ V, Good0 names9 V → Tells dl ps (look V) → Unif (look V) → Q (.t [.a (.str "one"), frs V])
def td_looked_for_s2 (CW CE : Addr) : TDS := (tdShare 3 (tdRet (tdCall (pp_solved CW CE) (tdCons (tdLc (tdiL (tdVar 2)) (tgName 4) tdYes (tdCall (pp_equation_of CW CE) (tdCons (tdVar 0) (tdCons (tdVar 4) tdNil))) [4]) (tdCons (tdVar 3) tdNil)))))
def td_looked_for_s1 (CW CE : Addr) : TDS := (tdSeq (tdSet 3 (tdLc (tdiL (tdVar 2)) (tgName 4) tdYes (tdCall (pp_price_of CW CE) (tdCons (tdVar 1) (tdCons (tdVar 4) tdNil))) [4])) (td_looked_for_s2 CW CE))
def td_looked_for (CW CE : Addr) : TDS := (tdSeq (tdSet 2 (tdCall (pp_all_steps CW CE) (tdCons (tdVar 0) tdNil))) (td_looked_for_s1 CW CE))
theorem dot_put {r : Rw} {n : NestedKey} {c : Rat} {v : NestedKey → Rat} : ∀ {S : List NestedKey}, S.Nodup → dotS S (aput r n c) v = dotS S r v + if n ∈ S then (c - look r n) * v n else 0
  | [], _ => by simp [dotS]; grind
  | k :: S, nd => by
    obtain ⟨n1, n2⟩ := List.nodup_cons.mp nd
    have ih := dot_put (S := S) (r := r) (v := v) (n := n) (c := c) n2
    unfold dotS at *
    rw [List.map_cons, List.sum_cons, List.map_cons, List.sum_cons, ih, look_put]
    by_cases e : n = k
    · have h1 : n ∉ S := by rw [e]; exact n1
      rw [if_pos e, if_neg h1, if_pos (by rw [e]; exact List.mem_cons_self), e]
      grind
    · rw [if_neg e]
      by_cases h : n ∈ S
      · rw [if_pos h, if_pos (List.mem_cons_of_mem _ h)]; grind
      · rw [if_neg h, if_neg fun z => (List.mem_cons.mp z).elim e h]; grind
theorem dot_addT {S : List NestedKey} {v : NestedKey → Rat} (nd : S.Nodup) : ∀ (ys : List Trm) (r : Rw), (∀ y ∈ ys, y.1 ∈ S) → dotS S (addT r ys) v = dotS S r v + sumT ys v
  | [], r, _ => by show _ = _ + (0 : Rat); rw [Rat.add_zero]; rfl
  | y :: ys, r, h => by
    show dotS S (addT (aput r y.1 (look r y.1 + y.2)) ys) v = _
    rw [dot_addT nd ys _ fun z hz => h z (List.mem_cons_of_mem _ hz), dot_put nd, if_pos (h y List.mem_cons_self)]
    unfold sumT
    rw [List.map_cons, List.sum_cons]
    grind
theorem good_addT {S : List NestedKey} : ∀ (ys : List Trm) (r : Rw), Good0 S r → (∀ y ∈ ys, y.1 ∈ S) → Good0 S (addT r ys)
  | [], _, g, _ => g
  | y :: ys, r, g, h => good_addT ys _ (g.put (h y List.mem_cons_self)) fun z hz => h z (List.mem_cons_of_mem _ hz)
theorem look_addT {k : NestedKey} : ∀ (ys : List Trm) (r : Rw), look (addT r ys) k = look r k + (ys.map fun y => if y.1 = k then (y.2 : Rat) else 0).sum
  | [], r => by show look r k = look r k + 0; rw [Rat.add_zero]
  | y :: ys, r => by
    show look (addT (aput r y.1 (look r y.1 + y.2)) ys) k = _
    rw [look_addT ys, look_put, List.map_cons, List.sum_cons]
    by_cases e : y.1 = k
    · rw [if_pos e, if_pos e, e]; grind
    · rw [if_neg e, if_neg e]; grind
theorem isz_i {z : Int} {n : Nat} (h : z.natAbs ≤ n) : Isz 1 n (z : Rat) := ⟨z, Rat.one_mul _, h⟩
theorem eqRow_isz (x : Nat × Nat × Nat) (p : Pr) (k : NestedKey) : Isz 1 2 (look (eqRow x p) k) := by
  unfold eqRow
  rw [look_addT]
  unfold trms
  have fits : ∀ (a : Bool) (b : Bool) (c : Bool) (d : Bool), Isz 1 2 (0 + ((if a then ((1 : Int) : Rat) else 0) + ((if b then ((-1 : Int) : Rat) else 0) + ((if c then ((1 : Int) : Rat) else 0) + ((if d then ((-1 : Int) : Rat) else 0) + 0))))) := by
    intro a b c d
    have : (0 + ((if a then ((1 : Int) : Rat) else 0) + ((if b then ((-1 : Int) : Rat) else 0) + ((if c then ((1 : Int) : Rat) else 0) + ((if d then ((-1 : Int) : Rat) else 0) + 0))))) = (((if a then 1 else 0) + (if b then -1 else 0) + (if c then 1 else 0) + (if d then -1 else 0) : Int) : Rat) := by
      push_cast
      cases a <;> cases b <;> cases c <;> cases d <;> simp <;> grind
    rw [this]
    exact isz_i (by cases a <;> cases b <;> cases c <;> cases d <;> decide)
  have one : ∀ (C : Prop) [Decidable C] (n : NestedKey) (z : Int) (r : List Trm), ((((if C then [(n, z)] else []) ++ r : List Trm)).map fun y => if y.1 = k then (y.2 : Rat) else 0).sum = (if decide (C ∧ n = k) then (z : Rat) else 0) + (r.map fun y => if y.1 = k then (y.2 : Rat) else 0).sum := by
    intro C _ n z r
    by_cases hC : C
    · by_cases hn : n = k
      · simp [hC, hn]
      · simp [hC, hn] <;> grind
    · simp [hC]; exact (Rat.zero_add _).symm
  have h := fits (decide (True ∧ lK x.1 (-1) = k)) (decide (0 ≤ p.1 ∧ lK p.1 (-1) = k)) (decide (0 < p.2 ∧ lK x.1 p.2 = k)) (decide (0 < (x.2.1 : Int) ∧ lK x.1 x.2.1 = k))
  have e0 : ([(lK x.1 (-1), 1)] : List Trm) = if True then [(lK x.1 (-1), 1)] else [] := by simp
  rw [e0]
  rw [List.append_assoc, List.append_assoc, one True, one (0 ≤ p.1), one (0 < p.2)]
  have l := one (0 < (x.2.1 : Int)) (lK x.1 x.2.1) (-1) []
  rw [List.append_nil] at l
  rw [l]
  exact h
theorem stepsDealer_mem {h : Nat} {x : Nat × Nat × Nat} : ∀ (d : List (List Pr)) (s : Nat), x ∈ stepsDealer h s d ↔ x.1 = h ∧ ∃ i st, d[i]? = some st ∧ x.2.1 = s + i ∧ x.2.2 < st.length
  | [], s => by simp [stepsDealer]
  | st :: r, s => by
    rw [show stepsDealer h s (st :: r) = stepsIn h s st.length ++ stepsDealer h (s + 1) r from rfl, List.mem_append, stepsDealer_mem r (s + 1)]
    constructor
    · rintro (a | ⟨a, i, st', e, b, c⟩)
      · unfold stepsIn at a
        obtain ⟨i, hi, e⟩ := List.mem_map.mp a
        subst e
        exact ⟨rfl, 0, st, rfl, rfl, List.mem_range.mp hi⟩
      · exact ⟨a, i + 1, st', e, by omega, c⟩
    · rintro ⟨a, i, st', e, b, c⟩
      cases i with
      | zero =>
        left
        cases e
        unfold stepsIn
        exact List.mem_map.mpr ⟨x.2.2, List.mem_range.mpr c, by rw [← a, ← show x.2.1 = s from b]⟩
      | succ i => exact .inr ⟨a, i, st', e, by omega, c⟩
theorem stepsAll_mem {x : Nat × Nat × Nat} : ∀ (dl : Dl) (h : Nat), x ∈ stepsAll h dl ↔ ∃ j d st, dl[j]? = some d ∧ d[x.2.1]? = some st ∧ x.1 = h + j ∧ x.2.2 < st.length
  | [], h => by simp [stepsAll]
  | d :: r, h => by
    rw [show stepsAll h (d :: r) = stepsDealer h 0 d ++ stepsAll (h + 1) r from rfl, List.mem_append, stepsAll_mem r (h + 1), stepsDealer_mem]
    constructor
    · rintro (⟨a, i, st, e, b, c⟩ | ⟨j, d', st, e1, e2, e3, e4⟩)
      · exact ⟨0, d, st, rfl, by rw [show x.2.1 = i by omega]; exact e, a, c⟩
      · exact ⟨j + 1, d', st, e1, e2, by omega, e4⟩
    · rintro ⟨j, d', st, e1, e2, e3, e4⟩
      cases j with
      | zero => cases e1; exact .inl ⟨e3, x.2.1, st, e2, by omega, e4⟩
      | succ j => exact .inr ⟨j, d', st, e1, e2, by omega, e4⟩
theorem steps_mem {dl : Dl} {x : Nat × Nat × Nat} : x ∈ stepsOf dl ↔ (at3 dl x.1 x.2.1 x.2.2).isSome = true := by
  unfold stepsOf
  rw [stepsAll_mem]
  constructor
  · rintro ⟨j, d, st, e1, e2, e3, e4⟩
    unfold at3
    rw [show x.1 = j by omega, e1]
    simp [e2, e4]
  · intro h
    obtain ⟨p, e⟩ := Option.isSome_iff_exists.mp h
    obtain ⟨d, st, e1, e2, e3⟩ := at3_some e
    exact ⟨x.1, d, st, e1, e2, by omega, (List.getElem?_eq_some_iff.mp e3).1⟩
theorem lK_in {h s : Int} (h0 : 0 ≤ h) (h3 : h < 3) (hs : s = -1 ∨ s = 1 ∨ s = 2) : lK h s ∈ names9 := by
  have : h = 0 ∨ h = 1 ∨ h = 2 := by omega
  rcases this with e | e | e <;> rcases hs with f | f | f <;> subst e <;> subst f <;> decide
theorem WOk.names {c : Int} {dl : Dl} (w : WOk c dl) {x : Nat × Nat × Nat} {p : Pr} (e : at3 dl x.1 x.2.1 x.2.2 = some p) : ∀ y ∈ trms x p, y.1 ∈ names9 := by
  obtain ⟨d, st, e1, e2, e3⟩ := at3_some e
  have l1 := (List.getElem?_eq_some_iff.mp e1).1
  have l2 := (List.getElem?_eq_some_iff.mp e2).1
  have hd := List.mem_of_getElem? e1
  have hst := List.mem_of_getElem? e2
  have hp := List.mem_of_getElem? e3
  have a := w.dr d hd st hst p hp
  have b := w.nx d hd st hst p hp
  have q := w.d2 d hd
  have h2 := w.h2
  intro y hy
  unfold trms at hy
  simp only [List.mem_append, List.mem_singleton] at hy
  rcases hy with ((h | h) | h) | h
  · rw [h]; exact lK_in (by omega) (by omega) (.inl rfl)
  · split at h
    · rw [List.mem_singleton.mp h]; exact lK_in (by omega) (by omega) (.inl rfl)
    · cases h
  · split at h
    · rw [List.mem_singleton.mp h]; exact lK_in (by omega) (by omega) (.inr (by omega))
    · cases h
  · split at h
    · rw [List.mem_singleton.mp h]; exact lK_in (by omega) (by omega) (.inr (by omega))
    · cases h
def rowAt (dl : Dl) (x : Nat × Nat × Nat) : Rw := match at3 dl x.1 x.2.1 x.2.2 with
  | some p => eqRow x p
  | none => []
theorem rowAt_some {dl : Dl} {x : Nat × Nat × Nat} {p : Pr} (e : at3 dl x.1 x.2.1 x.2.2 = some p) : rowAt dl x = eqRow x p := by unfold rowAt; rw [e]
theorem dot_eqRow {c : Int} {dl : Dl} (w : WOk c dl) {x : Nat × Nat × Nat} {p : Pr} (e : at3 dl x.1 x.2.1 x.2.2 = some p) (v : NestedKey → Rat) : dotS names9 (eqRow x p) v = sumT (trms x p) v := by
  unfold eqRow
  rw [dot_addT names9_set.nd _ _ (w.names e), dot_nil, Rat.zero_add]
def nums : List NestedKey := (List.range 100).map fun (i : Nat) => NestedKey.num (i : Int)
theorem nums_set : NameSet nums where
  kk := .inl fun k hk => let ⟨i, _, e⟩ := List.mem_map.mp hk; ⟨i, e.symm⟩
  ap := .inl fun k hk => let ⟨i, _, e⟩ := List.mem_map.mp hk; ⟨i, e.symm⟩
  ko := fun k hk => let ⟨i, _, e⟩ := List.mem_map.mp hk; by rw [← e]; rfl
  ln := by unfold nums; rw [List.length_map, List.length_range]; decide
def unStep : D → Nat × Nat × Nat
  | .t [.a (.int h), .a (.int s), .a (.int n)] => (h.toNat, s.toNat, n.toNat)
  | _ => (0, 0, 0)
theorem unStep_step (x : Nat × Nat × Nat) : unStep (stepD x) = x := rfl
theorem len_looked_for {CW CE : Addr} : ∀ (ds : List D) (Qd : D → Prop), pp_looked_for CW CE ds Qd → ds.length = 2 := fun ds Qd ⟨_, _, _, _, e, _⟩ => by rw [e]; rfl
theorem hp_looked_for {CW CE : Addr} : ∀ (ds : List D) (Qd : D → Prop), pp_looked_for CW CE ds Qd → td_looked_for CW CE { nx := fun _ => Qd (.a .non), rt := Qd } (env0 5 ds) := by
  rintro ds Qd ⟨c, dl, ps, v, rfl, w, s12, tl, k⟩
  have l27 := w.steps
  have hat : ∀ x ∈ stepsOf dl, ∃ p, at3 dl x.1 x.2.1 x.2.2 = some p := fun x hx => Option.isSome_iff_exists.mp (steps_mem.mp hx)
  refine ⟨rfl, c, dl, rfl, w, rfl, unAt1 rfl, rfl, ?_⟩
  refine lcL_map (fun d => fr (price ps (unStep d))) .sh rfl _ _ _ (fun x hx C hc => ?_) ?_ ?_
  · obtain ⟨x, hxs, rfl⟩ := List.mem_map.mp hx
    rw [unStep_step] at hc
    exact ⟨rfl, ps, x, rfl, hc⟩
  · exact sz (by rw [List.length_map]; simp; omega)
  rw [List.nil_append, List.map_map]
  refine ⟨rfl, unAt1 rfl, rfl, ?_⟩
  refine lcL_map (fun d => frs (rowAt dl (unStep d))) .sh rfl _ _ _ (fun x hx C hc => ?_) ?_ ?_
  · obtain ⟨x, hxs, rfl⟩ := List.mem_map.mp hx
    obtain ⟨p, e⟩ := hat x hxs
    rw [unStep_step, rowAt_some e] at hc
    exact ⟨rfl, c, dl, x, p, rfl, e, w.names e, hc⟩
  · exact sz (by rw [List.length_map]; simp; omega)
  rw [List.nil_append, List.map_map]
  have get : ∀ (i : Nat) (r : Rw) (q : Rat), ((stepsOf dl).map (rowAt dl))[i]? = some r → ((stepsOf dl).map (price ps))[i]? = some q → ∃ x p, at3 dl x.1 x.2.1 x.2.2 = some p ∧ r = eqRow x p ∧ q = price ps x := by
    intro i r q hr hq
    rw [List.getElem?_map] at hr hq
    cases e : (stepsOf dl)[i]? with
    | none => rw [e] at hr; cases hr
    | some x =>
      rw [e] at hr hq
      obtain ⟨p, ep⟩ := hat x (List.mem_of_getElem? e)
      cases hr; cases hq
      exact ⟨x, p, ep, rowAt_some ep, rfl⟩
  refine ⟨rfl, names9, nums, (stepsOf dl).map (rowAt dl), (stepsOf dl).map (price ps), v, ?_, names9_set, nums_set, fun i hi => ?_, ?_, ?_, fun r hr => ?_, fun q hq => ?_, fun i r q hr hq => ?_, fun V g h u => ?_⟩
  · rw [List.map_map, List.map_map]
    have e1 : (fun d => frs (rowAt dl (unStep d))) ∘ stepD = frs ∘ rowAt dl := funext fun x => by show frs (rowAt dl (unStep (stepD x))) = _; rw [unStep_step]; rfl
    have e2 : (fun d => fr (price ps (unStep d))) ∘ stepD = fr ∘ price ps := funext fun x => by show fr (price ps (unStep (stepD x))) = _; rw [unStep_step]; rfl
    rw [← e1, ← e2]
    rfl
  · rw [List.length_map] at hi
    exact List.mem_map.mpr ⟨i, List.mem_range.mpr (by omega), rfl⟩
  · rw [List.length_map, List.length_map]
  · rw [List.length_map]; omega
  · obtain ⟨x, hx, rfl⟩ := List.mem_map.mp hr
    obtain ⟨p, e⟩ := hat x hx
    rw [rowAt_some e]
    exact ⟨good_addT _ _ ⟨List.nodup_nil, fun k z => nomatch z⟩ (w.names e), eqRow_isz x p⟩
  · obtain ⟨x, hx, rfl⟩ := List.mem_map.mp hq
    exact s12 x
  · obtain ⟨x, p, e, rfl, rfl⟩ := get i r q hr hq
    rw [dot_eqRow w e]
    exact tl x p e
  · refine k V g (fun x p e => ?_) u
    have hx : x ∈ stepsOf dl := steps_mem.mpr (by rw [e]; rfl)
    obtain ⟨i, hi, ei⟩ := List.getElem_of_mem hx
    have eg : (stepsOf dl)[i]? = some x := by rw [List.getElem?_eq_getElem hi, ei]
    have := h i (eqRow x p) (price ps x) (by rw [List.getElem?_map, eg]; show some (rowAt dl x) = _; rw [rowAt_some e]) (by rw [List.getElem?_map, eg]; rfl)
    rw [dot_eqRow w e] at this
    exact this
end DL
set_option Elab.async false
set_option linter.all false
set_option maxRecDepth 100000
set_option exponentiation.threshold 20000
namespace DL
open PySem PySem.Spec PyProof.Rows L2
/-! the table as data -/
def wv (v : NestedKey → Rat) (h : Nat) : Rat := v (lK h (-1))
def lv (v : NestedKey → Rat) (h s : Nat) : Rat := if s = 0 then 0 else v (lK h s)
def worthsD (v : NestedKey → Rat) (n : Nat) : D := .t ((List.range n).map fun h => fr (wv v h))
def leadRow (v : NestedKey → Rat) (h m : Nat) : D := .t ((List.range m).map fun s => fr (lv v h s))
def leadRows (v : NestedKey → Rat) : Nat → Dl → List D
  | _, [] => []
  | h, d :: r => leadRow v h d.length :: leadRows v (h + 1) r
def tableD (v : NestedKey → Rat) (dl : Dl) : D := .t [worthsD v dl.length, .t (leadRows v 0 dl)]
def pp_table_of (CW CE : Addr) : PP := fun ds Q => ∃ (c : Int) (dl : Dl) (ps : Prs) (v : NestedKey → Rat), ds = [webD CW c dl, pricesD ps] ∧ WOk c dl ∧ Small12 dl ps ∧ Tells dl ps v ∧ ∀ V, Tells dl ps V → Unif V → Q (tableD V dl)
def pp_needed_table (CW CE : Addr) : PP := pp_table_of CW CE
def td_table_of_b1 (CW CE : Addr) : TDS := (tdSeq (tdSet 8 (tdLc (tdiRng2 (tdCons (tdC (D.int 1)) (tdCons (tdCB rdLen (tdCons (tdVar 7) tdNil)) tdNil))) (tgName 9) tdYes (tdGetX (tdVar 5) (tdTup (tdCons (tdVar 6) (tdCons (tdVar 9) tdNil))) (tdC (.t (List.map D.int [0, 1])))) [9])) (tdAppend 3 (tdCB rdTuple (tdCons (tdOp rdCat (tdLst (tdCons (tdC (.t (List.map D.int [0, 1]))) tdNil)) (tdVar 8)) tdNil))))
def td_table_of_s5 (CW CE : Addr) : TDS := (tdRet (tdTup (tdCons (tdVar 2) (tdCons (tdCB rdTuple (tdCons (tdVar 3) tdNil)) tdNil))))
def td_table_of_s4 (CW CE : Addr) : TDS := (tdSeq (tdFor (tdiEnum (tdCons (tdFld CW "dealers" (tdVar 0)) tdNil)) (tgTup 2 (tgCons (tgName 6) (tgCons (tgName 7) tgNil))) (td_table_of_b1 CW CE)) (td_table_of_s5 CW CE))
def td_table_of_s3 (CW CE : Addr) : TDS := (tdSeq (tdSet 3 (tdLst tdNil)) (td_table_of_s4 CW CE))
def td_table_of_s2 (CW CE : Addr) : TDS := (tdSeq (tdSet 2 (tdCB rdTuple (tdCons (tdLc (tdiRng1 (tdCons (tdCB rdLen (tdCons (tdFld CW "dealers" (tdVar 0)) tdNil)) tdNil)) (tgName 6) tdYes (tdGetX (tdVar 5) (tdCall (pp_worth_name CW CE) (tdCons (tdVar 6) tdNil)) (tdC (.t (List.map D.int [0, 1])))) [6]) tdNil))) (td_table_of_s3 CW CE))
def td_table_of_s1 (CW CE : Addr) : TDS := (tdSeq (tdIfS (tdB (tdOp (rdEq id) (tdVar 4) (tdC (.a (.str "none"))))) (tdRet (tdC D.non)) tdNext) (td_table_of_s2 CW CE))
def td_table_of (CW CE : Addr) : TDS := (tdSeq (tdAsg (tdCall (pp_looked_for CW CE) (tdCons (tdVar 0) (tdCons (tdVar 1) tdNil))) (tgTup 2 (tgCons (tgName 4) (tgCons (tgName 5) tgNil)))) (td_table_of_s1 CW CE))
def td_needed_table_s2 (CW CE : Addr) : TDS := (tdRet (tdVar 2))
def td_needed_table_s1 (CW CE : Addr) : TDS := (tdSeq (tdIfS (tdB (tdOp (rdIs id) (tdVar 2) (tdC D.non))) tdNever tdNext) (td_needed_table_s2 CW CE))
def td_needed_table (CW CE : Addr) : TDS := (tdSeq (tdSet 2 (tdCall (pp_table_of CW CE) (tdCons (tdVar 0) (tdCons (tdVar 1) tdNil)))) (td_needed_table_s1 CW CE))
theorem key_get {V : Rw} (g : Good0 names9 V) (h s : Int) : KKind (lK h s :: (V.map fun x => (x.1, fr x.2)).map (·.1)) := .inr fun k hk => by
  rw [frs_keys] at hk
  rcases List.mem_cons.mp hk with e | e
  · subst e
    exact ⟨⟨_, rfl⟩, by show NestedKey.depth (.tup [.num h, .num s]) ≤ 8; simp [NestedKey.depth, NestedKey.depthAll]⟩
  · have := g.sub k e
    rcases names9_set.kk with a | a
    · obtain ⟨i, e'⟩ := a k this
      obtain ⟨x, y, e''⟩ := names9_set.two k this
      rw [e''] at e'; cases e'
    · exact a k this
def leadAt (v : NestedKey → Rat) (h : Nat) : D → D
  | .a (.int s) => fr (v (lK h s))
  | _ => .t []
def worthAt (v : NestedKey → Rat) : D → D
  | .a (.int h) => fr (v (lK h (-1)))
  | _ => .t []
theorem lead_eq {v : NestedKey → Rat} {h n : Nat} (h1 : 1 ≤ n) : (D.t ([.t (List.map D.int [0, 1])] ++ (ups 1 (n - 1)).map (leadAt v h))) = leadRow v h n := by
  unfold leadRow
  congr 1
  rw [fr0]
  apply List.ext_getElem?
  intro i
  cases i with
  | zero => rw [List.getElem?_map, List.getElem?_range (by omega)]; rfl
  | succ i =>
    show ((ups 1 (n - 1)).map (leadAt v h))[i]? = _
    rw [List.getElem?_map, List.getElem?_map]
    by_cases hi : i < n - 1
    · rw [ups_get _ _ _ hi, List.getElem?_range (by omega)]
      show some (fr (v (lK h (1 + i)))) = some (fr (lv v h (i + 1)))
      unfold lv
      rw [if_neg (by omega), show (1 + (i : Int)) = ((i + 1 : Nat) : Int) by omega]
    · rw [List.getElem?_eq_none (by rw [ups_length]; omega), List.getElem?_eq_none (by rw [List.length_range]; omega)]; rfl
theorem tb_loop {CW CE : Addr} {v0 v1 v2 v4 : Slot} {V : Rw} {Dd : DEnds} (g : Good0 names9 V) : ∀ (dl : Dl) (h : Nat) (acc : List D) (x6 x7 x8 : Slot), (∀ d ∈ dl, 1 ≤ d.length ∧ d.length ≤ 3) → acc.length + dl.length ≤ 1000 → (∀ y6 y7 y8, Dd.nx [v0, v1, v2, .ow (.l (acc ++ leadRows (look V) h dl)), v4, .sh (frs V), y6, y7, y8, .un]) →
    tdForL (tgTup 2 (tgCons (tgName 6) (tgCons (tgName 7) tgNil))) (td_table_of_b1 CW CE) (numbered h (dl.map dealerD)) Dd [v0, v1, v2, .ow (.l acc), v4, .sh (frs V), x6, x7, x8, .un]
  | [], h, acc, x6, x7, x8, hd, ha, q => by
    have := q x6 x7 x8
    rw [show leadRows (look V) h [] = [] from rfl, List.append_nil] at this
    exact this
  | d :: r, h, acc, x6, x7, x8, hd, ha, q => by
    rw [List.length_cons] at ha
    obtain ⟨d1, d3⟩ := hd d List.mem_cons_self
    refine ⟨rfl, rfl, ?_⟩
    refine ⟨unAt1 rfl, ?_⟩
    show (-(2 ^ 62) ≤ (1 : Int) ∧ _) ∧ _
    have e1 : ((d.map stD).length : Int) = d.length := by rw [List.length_map]
    refine ⟨⟨by decide, by decide, by rw [e1]; omega, by rw [e1]; omega⟩, ?_⟩
    rw [e1, show ((d.length : Int) - 1).toNat = d.length - 1 by omega]
    refine lcL_map (leadAt (look V) h) .sh rfl _ _ _ (fun x hx C hc => ?_) ?_ ?_
    · obtain ⟨i, hi, rfl⟩ := ups_mem hx
      refine ⟨rfl, two_ok, lK h (1 + i), rfl, key_get g _ _, rfl, ?_⟩
      show C ((aget (V.map fun x => (x.1, fr x.2)) (lK h (1 + i))).getD (.t (List.map D.int [0, 1]))) .sh
      rw [fr0, getD_fr]
      exact hc
    · rw [ups_length]; exact sz (by simp; omega)
    rw [List.nil_append]
    refine ⟨rfl, rfl, sz (show 1 ≤ 16777216 by decide), ?_⟩
    refine ⟨?_, rfl, ?_, ?_⟩
    · exact sz (show 1 + ((ups 1 (d.length - 1)).map (leadAt (look V) h)).length ≤ _ by rw [List.length_map, ups_length]; omega)
    · exact szl (by omega)
    have er : (D.t ([.t (List.map D.int [0, 1])] ++ (ups 1 (d.length - 1)).map (leadAt (look V) h))) = leadRow (look V) h d.length := lead_eq d1
    show tdForL _ _ (numbered ((h : Int) + 1) (r.map dealerD)) Dd [_, _, _, .ow (.l (acc ++ [D.t ([.t (List.map D.int [0, 1])] ++ (ups 1 (d.length - 1)).map (leadAt (look V) h))])), _, _, _, _, _, _]
    rw [er, show ((h : Int) + 1) = ((h + 1 : Nat) : Int) by omega]
    refine tb_loop g r (h + 1) _ _ _ _ (fun x hx => hd x (List.mem_cons_of_mem _ hx)) (by rw [List.length_append]; simp; omega) fun y6 y7 y8 => ?_
    rw [List.append_assoc]
    exact q y6 y7 y8
theorem len_table_of {CW CE : Addr} : ∀ (ds : List D) (Qd : D → Prop), pp_table_of CW CE ds Qd → ds.length = 2 := fun ds Qd ⟨_, _, _, _, e, _⟩ => by rw [e]; rfl
theorem hp_table_of {CW CE : Addr} : ∀ (ds : List D) (Qd : D → Prop), pp_table_of CW CE ds Qd → td_table_of CW CE { nx := fun _ => Qd (.a .non), rt := Qd } (env0 10 ds) := by
  rintro ds Qd ⟨c, dl, ps, v, rfl, w, s12, tl, k⟩
  refine ⟨rfl, c, dl, ps, v, rfl, w, s12, tl, fun V g t u => ?_⟩
  refine ⟨rfl, rfl, rfl, rfl, unAt1 rfl, rfl, dlD dl, rfl, ?_⟩
  have w1 := w.h1
  have w2 := w.h2
  show -(2 ^ 62) ≤ (((dl.map dealerD).length : Nat) : Int) ∧ _
  rw [ds_len]
  refine ⟨by omega, by omega, ?_⟩
  rw [show ((dl.length : Int)).toNat = dl.length by omega]
  refine lcL_map (worthAt (look V)) .sh rfl _ _ _ (fun x hx C hc => ?_) ?_ ?_
  · obtain ⟨i, hi, rfl⟩ := ups_mem hx
    refine ⟨rfl, 0 + (i : Int), rfl, lK (0 + i) (-1), rfl, key_get g _ _, rfl, ?_⟩
    show C ((aget (V.map fun x => (x.1, fr x.2)) (lK (0 + i) (-1))).getD (.t (List.map D.int [0, 1]))) .sh
    rw [fr0, getD_fr]
    exact hc
  · rw [ups_length]; exact sz (by simp; omega)
  rw [List.nil_append]
  have ew : (D.t ((ups 0 dl.length).map (worthAt (look V)))) = worthsD (look V) dl.length := by
    unfold worthsD
    congr 1
    apply List.ext_getElem?
    intro i
    rw [List.getElem?_map, List.getElem?_map]
    by_cases hi : i < dl.length
    · rw [ups_get _ _ _ hi, List.getElem?_range hi]
      show some (fr (look V (lK (0 + i) (-1)))) = some (fr (look V (lK i (-1))))
      rw [Int.zero_add]
    · rw [List.getElem?_eq_none (by rw [ups_length]; omega), List.getElem?_eq_none (by rw [List.length_range]; omega)]; rfl
  refine ⟨rfl, rfl, sz (by decide), rfl, rfl, dlD dl, rfl, rfl, ?_⟩
  show tdForL _ _ _ _ [_, _, .sh (.t ((ups 0 dl.length).map (worthAt (look V)))), _, _, _, _, _, _, _]
  rw [ew]
  refine tb_loop (CW := CW) (CE := CE) g dl 0 [] .un .un .un (fun d hd => ⟨w.d1 d hd, w.d2 d hd⟩) (by simp; omega) fun y6 y7 y8 => ?_
  exact ⟨rfl, two_ok, k (look V) t u⟩
theorem len_needed_table {CW CE : Addr} : ∀ (ds : List D) (Qd : D → Prop), pp_needed_table CW CE ds Qd → ds.length = 2 := len_table_of
theorem hp_needed_table {CW CE : Addr} : ∀ (ds : List D) (Qd : D → Prop), pp_needed_table CW CE ds Qd → td_needed_table CW CE { nx := fun _ => Qd (.a .non), rt := Qd } (env0 3 ds) := by
  rintro ds Qd ⟨c, dl, ps, v, rfl, w, s12, tl, k⟩
  refine ⟨rfl, c, dl, ps, v, rfl, w, s12, tl, fun V t u => ?_⟩
  exact ⟨rfl, k V t u⟩
end DL
set_option Elab.async false
set_option linter.all false
set_option maxRecDepth 100000
set_option exponentiation.threshold 20000
namespace DL
open PySem PySem.Spec PyProof.Rows L2
/-! what the table tells of loads and ends -/
def UnifL (qs : List Rat) : Prop := ∃ P : Int, 0 < P ∧ P.natAbs ≤ 2 ^ 1100 ∧ ∀ q ∈ qs, Isz P (2 ^ 1100) q
def zipSum (ws : List Rat) (ns : List Int) : Rat := ((ws.zip ns).map fun x => x.1 * (x.2 : Rat)).sum
def pick (x : List Rat × Nat) : Rat := x.1[x.2]?.getD 0
def pickSum (rows : List (List Rat)) (es : List Nat) : Rat := ((rows.zip es).map pick).sum
def pp_told_worth (CW CE : Addr) : PP := fun ds Q => ∃ (ws : List Rat) (ns : List Int), ds = [.t (ws.map fr), .t (ns.map D.int)] ∧ UnifL ws ∧ ns.length ≤ 3 ∧ ws.length ≤ 3 ∧ (∀ n ∈ ns, n.natAbs ≤ 1000) ∧ Q (fr (zipSum ws ns))
def pp_told_leads (CW CE : Addr) : PP := fun ds Q => ∃ (rows : List (List Rat)) (es : List Nat), ds = [.t (rows.map fun r => .t (r.map fr)), .t (es.map fun (e : Nat) => D.int (e : Int))] ∧ UnifL rows.flatten ∧ rows.length ≤ 3 ∧ es.length ≤ 3 ∧ (∀ x ∈ rows.zip es, x.2 < x.1.length) ∧ Q (fr (pickSum rows es))
def td_told_worth (CW CE : Addr) : TDS := (tdRet (tdCall (pp_total CW CE) (tdCons (tdLc (tdiZip (tdCons (tdVar 0) (tdCons (tdVar 1) tdNil))) (tgTup 2 (tgCons (tgName 2) (tgCons (tgName 3) tgNil))) tdYes (tdCall (pp_times CW CE) (tdCons (tdVar 2) (tdCons (tdCall (pp_whole CW CE) (tdCons (tdVar 3) tdNil)) tdNil))) [2, 3]) tdNil)))
def td_told_leads (CW CE : Addr) : TDS := (tdRet (tdCall (pp_total CW CE) (tdCons (tdLc (tdiZip (tdCons (tdVar 0) (tdCons (tdVar 1) tdNil))) (tgTup 2 (tgCons (tgName 2) (tgCons (tgName 3) tgNil))) tdYes (tdOp rdIxA (tdVar 2) (tdVar 3)) [2, 3]) tdNil)))
theorem isz_sum {P : Int} {L : Nat} : ∀ {qs : List Rat}, (∀ q ∈ qs, Isz P L q) → Isz P (qs.length * L) qs.sum
  | [], _ => by simpa using Isz.zero
  | q :: qs, h => by
    have := (h q List.mem_cons_self).add (isz_sum (qs := qs) fun x hx => h x (List.mem_cons_of_mem _ hx))
    rw [List.sum_cons, List.length_cons]
    exact this.mono (by rw [Nat.succ_mul]; omega)
theorem sums_small {P : Int} {L : Nat} {qs : List Rat} (h0 : 0 < P) (h1 : P.natAbs ≤ 2 ^ 1100) (hL : L ≤ 2 ^ 1200) (hl : qs.length ≤ 3) (h : ∀ q ∈ qs, Isz P L q) : (∀ q ∈ qs, Sm q) ∧ ∀ n, Sm ((qs.take n).sum) := by
  have p1 : P.natAbs < 2 ^ 2000 := Nat.lt_of_le_of_lt h1 (Nat.pow_lt_pow_right (by decide) (by decide))
  have b : 3 * 2 ^ 1200 < 2 ^ 2000 := by decide
  refine ⟨fun q hq => (h q hq).sm h0 p1 (by omega), fun n => (isz_sum (qs := qs.take n) fun q hq => h q (List.mem_of_mem_take hq)).sm h0 p1 ?_⟩
  have : (qs.take n).length ≤ 3 := by rw [List.length_take]; omega
  have := Nat.mul_le_mul this hL
  omega
theorem zip_data {α β : Type} (f : α → D) (g : β → D) : ∀ (xs : List α) (ys : List β), zipD (xs.map f) (ys.map g) = (xs.zip ys).map fun x => .t [f x.1, g x.2]
  | [], _ => by simp [zipD]
  | _ :: _, [] => by simp [zipD]
  | x :: xs, y :: ys => by
    show D.t [f x, g y] :: zipD (xs.map f) (ys.map g) = _
    rw [zip_data f g xs ys]; rfl
def unfr : D → Rat
  | .t [.a (.int a), .a (.int b)] => Rat.divInt a b
  | _ => 0
theorem unfr_fr (q : Rat) : unfr (fr q) = q := by
  show Rat.divInt q.num (q.den : Int) = q
  exact Rat.num_divInt_den q
def unint : D → Int
  | .a (.int a) => a
  | _ => 0
def mulD : D → D
  | .t [a, b] => fr (unfr a * (unint b : Rat))
  | _ => .t []
def pickD : D → D
  | .t [.t r, b] => (r[(unint b).toNat]?).getD (.t [])
  | _ => .t []
theorem len_told_worth {CW CE : Addr} : ∀ (ds : List D) (Qd : D → Prop), pp_told_worth CW CE ds Qd → ds.length = 2 := fun ds Qd ⟨_, _, e, _⟩ => by rw [e]; rfl
theorem hp_told_worth {CW CE : Addr} : ∀ (ds : List D) (Qd : D → Prop), pp_told_worth CW CE ds Qd → td_told_worth CW CE { nx := fun _ => Qd (.a .non), rt := Qd } (env0 4 ds) := by
  rintro ds Qd ⟨ws, ns, rfl, ⟨P, p0, p1, pw⟩, hl, hl2, hn, q⟩
  have hz : ∀ x ∈ ws.zip ns, Isz P (2 ^ 1100) x.1 ∧ x.2.natAbs ≤ 1000 := fun x hx => ⟨pw _ (List.of_mem_zip hx).1, hn _ (List.of_mem_zip hx).2⟩
  refine ⟨fun j hj => (by rcases List.mem_cons.mp hj with e | e; · subst e; rfl
                          · rw [List.mem_singleton.mp e]; rfl), ?_⟩
  refine ⟨rfl, rfl, ?_⟩
  rw [zip_data]
  refine lcL_map mulD .sh rfl _ _ _ (fun x hx C hc => ?_) ?_ ?_
  · obtain ⟨y, hy, rfl⟩ := List.mem_map.mp hx
    obtain ⟨h1, h2⟩ := hz y hy
    refine ⟨rfl, rfl, rfl, y.2, rfl, rfl, y.1, (y.2 : Rat), rfl, h1.sm p0 (Nat.lt_of_le_of_lt p1 (Nat.pow_lt_pow_right (by decide) (by decide))) (Nat.pow_lt_pow_right (by decide) (by decide)), small_cast h2 (by decide), ?_⟩
    rw [show mulD (.t [fr y.1, D.int y.2]) = fr (y.1 * (y.2 : Rat)) by show fr (unfr (fr y.1) * _) = _; rw [unfr_fr]; rfl] at hc
    exact hc
  · exact sz (by rw [List.length_map, List.length_zip]; simp; omega)
  rw [List.nil_append, List.map_map]
  have em : (ws.zip ns).map (mulD ∘ fun x => .t [fr x.1, D.int x.2]) = ((ws.zip ns).map fun x => x.1 * (x.2 : Rat)).map fr := by
    rw [List.map_map]
    apply List.map_congr_left
    intro y _
    show fr (unfr (fr y.1) * _) = _
    rw [unfr_fr]; rfl
  have ln : ((ws.zip ns).map fun x => x.1 * (x.2 : Rat)).length ≤ 3 := by rw [List.length_map, List.length_zip]; omega
  have ss := sums_small (P := P) (L := 2 ^ 1100 * 1000) (qs := (ws.zip ns).map fun x => x.1 * (x.2 : Rat)) p0 p1 (by decide) ln (fun q hq => by
    obtain ⟨y, hy, rfl⟩ := List.mem_map.mp hq
    obtain ⟨h1, h2⟩ := hz y hy
    have := h1.mul (isz_i h2)
    rw [Int.mul_one] at this
    exact this)
  exact ⟨rfl, _, by rw [em]; rfl, ss.1, ss.2, q⟩
theorem len_told_leads {CW CE : Addr} : ∀ (ds : List D) (Qd : D → Prop), pp_told_leads CW CE ds Qd → ds.length = 2 := fun ds Qd ⟨_, _, e, _⟩ => by rw [e]; rfl
theorem hp_told_leads {CW CE : Addr} : ∀ (ds : List D) (Qd : D → Prop), pp_told_leads CW CE ds Qd → td_told_leads CW CE { nx := fun _ => Qd (.a .non), rt := Qd } (env0 4 ds) := by
  rintro ds Qd ⟨rows, es, rfl, ⟨P, p0, p1, pw⟩, hl, hl2, hn, q⟩
  have hz : ∀ x ∈ rows.zip es, ∃ q, x.1[x.2]? = some q ∧ Isz P (2 ^ 1100) q := fun x hx => by
    have h1 := hn x hx
    exact ⟨x.1[x.2], List.getElem?_eq_getElem h1, pw _ (List.mem_flatten.mpr ⟨x.1, (List.of_mem_zip (a := x.1) (b := x.2) hx).1, List.getElem_mem h1⟩)⟩
  refine ⟨fun j hj => (by rcases List.mem_cons.mp hj with e | e; · subst e; rfl
                          · rw [List.mem_singleton.mp e]; rfl), ?_⟩
  refine ⟨rfl, rfl, ?_⟩
  rw [zip_data]
  have ep : ∀ y ∈ rows.zip es, pickD (.t [.t (y.1.map fr), D.int (y.2 : Int)]) = fr (pick y) := fun y hy => by
    obtain ⟨p, e, _⟩ := hz y hy
    show ((y.1.map fr)[((y.2 : Int)).toNat]?).getD (.t []) = fr (y.1[y.2]?.getD 0)
    rw [show ((y.2 : Int)).toNat = y.2 by omega, List.getElem?_map, e]; rfl
  refine lcL_map pickD .sh rfl _ _ _ (fun x hx C hc => ?_) ?_ ?_
  · obtain ⟨y, hy, rfl⟩ := List.mem_map.mp hx
    obtain ⟨p, e, _⟩ := hz y hy
    rw [ep y hy, show pick y = p by unfold pick; rw [e]; rfl] at hc
    refine ⟨rfl, rfl, fr p, getMap e, hc⟩
  · exact sz (by rw [List.length_map, List.length_zip]; simp; omega)
  rw [List.nil_append, List.map_map]
  have em : (rows.zip es).map (pickD ∘ fun x => .t [.t (x.1.map fr), D.int (x.2 : Int)]) = ((rows.zip es).map pick).map fr := by
    rw [List.map_map]
    apply List.map_congr_left
    intro y hy
    exact ep y hy
  have ln : ((rows.zip es).map pick).length ≤ 3 := by rw [List.length_map, List.length_zip]; omega
  have ss := sums_small (P := P) (L := 2 ^ 1100) (qs := (rows.zip es).map pick) p0 p1 (by decide) ln (fun q hq => by
    obtain ⟨y, hy, rfl⟩ := List.mem_map.mp hq
    obtain ⟨p, e, h⟩ := hz y hy
    rw [show pick y = p by unfold pick; rw [e]; rfl]
    exact h)
  exact ⟨rfl, _, by rw [em]; rfl, ss.1, ss.2, q⟩
end DL
set_option Elab.async false
set_option linter.all false
set_option maxRecDepth 100000
set_option exponentiation.threshold 20000
namespace DL
open PySem PySem.Spec PyProof.Rows L2
/-! all that one leads on to -/
abbrev Goals := List (NestedKey × List Int)
def goalsD (g : Goals) : D := .d (g.map fun x => (x.1, .l (x.2.map D.int)))
def gof (g : Goals) (i : Int) : Option (List Int) := aget g (.num i)
inductive Met (g : Goals) (b : Int) : Int → Prop
  | one {l : List Int} {y : Int} : gof g b = some l → y ∈ l → Met g b y
  | more {z : Int} {l : List Int} {y : Int} : Met g b z → gof g z = some l → y ∈ l → Met g b y
structure GoalsOk (g : Goals) : Prop where
  num : ∀ x ∈ g, ∃ i, x.1 = .num i
  few : g.length ≤ 100
  short : ∀ x ∈ g, x.2.length ≤ 100
def pp_met_from (CW CE : Addr) : PP := fun ds Q => ∃ (b : Int) (g : Goals), ds = [D.int b, goalsD g] ∧ GoalsOk g ∧ (gof g b).isSome = true ∧ ∀ rs : List Int, rs.Nodup → (∀ y, y ∈ rs ↔ Met g b y) → Q (.l (rs.map D.int))
def pp_is_standing (CW CE : Addr) : PP := fun ds Q => ∃ (st : List Pr) (c hs ss : Int), ds = [stD st, D.int c, D.int hs, D.int ss] ∧ 1 ≤ st.length ∧ st.length ≤ 3 ∧ (∀ p ∈ st, -c ≤ p.1 ∧ p.1 < hs ∧ 0 ≤ p.2 ∧ p.2 < ss) ∧ st.Pairwise lexP ∧ Q (D.bl true)
def pp_is_dealer (CW CE : Addr) : PP := fun ds Q => ∃ (d : List (List Pr)) (c hs : Int), ds = [dealerD d, D.int c, D.int hs] ∧ 1 ≤ d.length ∧ d.length ≤ 3 ∧ (∀ st ∈ d, 1 ≤ st.length ∧ st.length ≤ 3 ∧ st.Pairwise lexP ∧ ∀ p ∈ st, -c ≤ p.1 ∧ p.1 < hs ∧ 0 ≤ p.2 ∧ p.2 < d.length) ∧ Q (D.bl true)
def td_is_standing_b1 (CW CE : Addr) : TDS := (tdIfS (tdOr (tdNot (tdB (tdCall (pp_is_pair CW CE) (tdCons (tdVar 4) tdNil)))) (tdOr (tdNot (tdB (tdCall (pp_is_within CW CE) (tdCons (tdOp rdIxA (tdVar 4) (tdC (D.int 0))) (tdCons (tdUn (fun i => .int (-i)) (tdVar 1)) (tdCons (tdOp rdSub (tdVar 2) (tdC (D.int 1))) tdNil)))))) (tdNot (tdB (tdCall (pp_is_within CW CE) (tdCons (tdOp rdIxA (tdVar 4) (tdC (D.int 1))) (tdCons (tdC (D.int 0)) (tdCons (tdOp rdSub (tdVar 3) (tdC (D.int 1))) tdNil)))))))) (tdRet (tdC (D.bl false))) tdNext)
def td_is_standing_s2 (CW CE : Addr) : TDS := (tdRet (tdCall (pp_is_rising CW CE) (tdCons (tdVar 0) tdNil)))
def td_is_standing_s1 (CW CE : Addr) : TDS := (tdSeq (tdFor (tdiT (tdVar 0)) (tgName 4) (td_is_standing_b1 CW CE)) (td_is_standing_s2 CW CE))
def td_is_standing (CW CE : Addr) : TDS := (tdSeq (tdIfS (tdOr (tdNot (tdB (tdIsi isTuple (tdVar 0)))) (tdNot (tdB (tdChain rdLe rdLe (tdC (D.int 1)) (tdCB rdLen (tdCons (tdVar 0) tdNil)) (tdC (D.int 6)))))) (tdRet (tdC (D.bl false))) tdNext) (td_is_standing_s1 CW CE))
def td_is_dealer_s1 (CW CE : Addr) : TDS := (tdRet (tdCB rdAll (tdCons (tdLc (tdiT (tdVar 0)) (tgName 3) tdYes (tdCall (pp_is_standing CW CE) (tdCons (tdVar 3) (tdCons (tdVar 1) (tdCons (tdVar 2) (tdCons (tdCB rdLen (tdCons (tdVar 0) tdNil)) tdNil))))) [3]) tdNil)))
def td_is_dealer (CW CE : Addr) : TDS := (tdSeq (tdIfS (tdOr (tdNot (tdB (tdIsi isTuple (tdVar 0)))) (tdNot (tdB (tdChain rdLe rdLe (tdC (D.int 1)) (tdCB rdLen (tdCons (tdVar 0) tdNil)) (tdC (D.int 8)))))) (tdRet (tdC (D.bl false))) tdNext) (td_is_dealer_s1 CW CE))
def td_met_from_b1 (CW CE : Addr) : TDS := (tdSeq (tdSetPop 3 4) (tdIfS (tdB (tdOp (rdIn not) (tdVar 4) (tdVar 2))) (tdSeq (tdDSet 2 (tdC (D.bl true)) (tdVar 4)) (tdIfS (tdB (tdOp (rdIn id) (tdVar 4) (tdVar 1))) (tdExtend 3 (tdCB rdList (tdCons (tdOp rdIxA (tdVar 1) (tdVar 4)) tdNil))) tdNext)) tdNext))
def td_met_from_s3 (CW CE : Addr) : TDS := (tdRet (tdCB rdSortL (tdCons (tdCB rdList (tdCons (tdVar 2) tdNil)) tdNil)))
def td_met_from_s2 (CW CE : Addr) : TDS := (tdSeq (tdWhile (tdB (tdOp rdGt (tdCB rdLen (tdCons (tdVar 3) tdNil)) (tdC (D.int 0)))) (td_met_from_b1 CW CE)) (td_met_from_s3 CW CE))
def td_met_from_s1 (CW CE : Addr) : TDS := (tdSeq (tdSet 3 (tdCB rdList (tdCons (tdOp rdIxA (tdVar 1) (tdVar 0)) tdNil))) (td_met_from_s2 CW CE))
def td_met_from (CW CE : Addr) : TDS := (tdSeq (tdSet 2 tdDNew) (td_met_from_s1 CW CE))
theorem len_is_standing {CW CE : Addr} : ∀ (ds : List D) (Qd : D → Prop), pp_is_standing CW CE ds Qd → ds.length = 4 := fun ds Qd ⟨_, _, _, _, e, _⟩ => by rw [e]; rfl
theorem st_loop {CW CE : Addr} {Dd : DEnds} {v0 : Slot} {c hs ss : Int} : ∀ (st : List Pr) (x4 : Slot), (∀ p ∈ st, -c ≤ p.1 ∧ p.1 < hs ∧ 0 ≤ p.2 ∧ p.2 < ss) → (∀ y4, Dd.nx [v0, .sh (D.int c), .sh (D.int hs), .sh (D.int ss), y4]) →
    tdForL (tgName 4) (td_is_standing_b1 CW CE) (st.map prD) Dd [v0, .sh (D.int c), .sh (D.int hs), .sh (D.int ss), x4]
  | [], x4, _, q => q x4
  | p :: st, x4, h, q => by
    obtain ⟨h1, h2, h3, h4⟩ := h p List.mem_cons_self
    refine ⟨rfl, _, rfl, rfl, ?_⟩
    refine ⟨D.int p.1, rfl, rfl, p.1, -c, hs - 1, rfl, ?_⟩
    rw [decide_eq_true (show -c ≤ p.1 ∧ p.1 ≤ hs - 1 by omega)]
    refine ⟨D.int p.2, rfl, rfl, p.2, 0, ss - 1, rfl, ?_⟩
    rw [decide_eq_true (show 0 ≤ p.2 ∧ p.2 ≤ ss - 1 by omega)]
    exact st_loop st _ (fun x hx => h x (List.mem_cons_of_mem _ hx)) q
theorem hp_is_standing {CW CE : Addr} : ∀ (ds : List D) (Qd : D → Prop), pp_is_standing CW CE ds Qd → td_is_standing CW CE { nx := fun _ => Qd (.a .non), rt := Qd } (env0 5 ds) := by
  rintro ds Qd ⟨st, c, hs, ss, rfl, l1, l3, hp, pw, q⟩
  refine ⟨true, rfl, ?_⟩
  have e1 : ((st.map prD).length : Int) = st.length := by rw [List.length_map]
  refine ifK (decide_eq_true (show (1 : Int) ≤ ((st.map prD).length : Nat) by rw [e1]; omega)) ?_
  refine ifN (by show (!decide (((st.map prD).length : Int) ≤ 6)) = false; rw [decide_eq_true (by rw [e1]; omega)]; rfl) ?_
  refine ⟨rfl, ?_⟩
  exact st_loop (CW := CW) (CE := CE) st .un hp fun y4 => ⟨rfl, st, rfl, by omega, pw, q⟩
theorem len_is_dealer {CW CE : Addr} : ∀ (ds : List D) (Qd : D → Prop), pp_is_dealer CW CE ds Qd → ds.length = 3 := fun ds Qd ⟨_, _, _, e, _⟩ => by rw [e]; rfl
theorem hp_is_dealer {CW CE : Addr} : ∀ (ds : List D) (Qd : D → Prop), pp_is_dealer CW CE ds Qd → td_is_dealer CW CE { nx := fun _ => Qd (.a .non), rt := Qd } (env0 4 ds) := by
  rintro ds Qd ⟨d, c, hs, rfl, l1, l3, hp, q⟩
  refine ⟨true, rfl, ?_⟩
  have e1 : ((d.map stD).length : Int) = d.length := by rw [List.length_map]
  refine ifK (decide_eq_true (show (1 : Int) ≤ ((d.map stD).length : Nat) by rw [e1]; omega)) ?_
  refine ifN (by show (!decide (((d.map stD).length : Int) ≤ 8)) = false; rw [decide_eq_true (by rw [e1]; omega)]; rfl) ?_
  refine ⟨unAt1 rfl, rfl, ?_⟩
  refine lcL_map (fun _ => D.bl true) .sh rfl _ _ _ (fun x hx C hc => ?_) ?_ ?_
  · obtain ⟨st, hst, rfl⟩ := List.mem_map.mp hx
    obtain ⟨a1, a2, a3, a4⟩ := hp st hst
    refine ⟨rfl, st, c, hs, (d.map stD).length, rfl, a1, a2, fun p hpp => ?_, a3, hc⟩
    rw [e1]; exact a4 p hpp
  · exact sz (by rw [List.length_map]; simp; omega)
  · refine ⟨_, all_bools _, ?_⟩
    rw [all_true]
    exact q
end DL
set_option Elab.async false
set_option linter.all false
set_option maxRecDepth 100000
set_option exponentiation.threshold 20000
namespace DL
open PySem PySem.Spec PyProof.Rows L2
theorem met_gof {g : Goals} {b y : Int} (h : Met g b y) : ∃ z l, gof g z = some l ∧ y ∈ l := by
  cases h with
  | one e m => exact ⟨_, _, e, m⟩
  | more _ e m => exact ⟨_, _, e, m⟩
theorem gof_mem {g : Goals} {z : Int} {l : List Int} (h : gof g z = some l) : (NestedKey.num z, l) ∈ g := by
  unfold gof aget at h
  cases e : g.find? (fun kv => decide (kv.1 = NestedKey.num z)) with
  | none => rw [e] at h; cases h
  | some kv =>
    rw [e] at h
    have a := List.mem_of_find?_eq_some e
    have b : kv.1 = NestedKey.num z := by simpa using List.find?_some e
    cases h
    rw [← b]; exact a
def targets (g : Goals) : List Int := (g.map (·.2)).flatten
theorem targets_len {g : Goals} (h : GoalsOk g) : (targets g).length ≤ 10000 := by
  have : ∀ g : Goals, (∀ x ∈ g, x.2.length ≤ 100) → (targets g).length ≤ 100 * g.length := by
    intro g
    induction g with
    | nil => intro _; exact Nat.le_refl _
    | cons x g ih =>
      intro hx
      have a := ih fun y hy => hx y (List.mem_cons_of_mem _ hy)
      have b := hx x List.mem_cons_self
      unfold targets at *
      rw [List.map_cons, List.flatten_cons, List.length_append, List.length_cons]
      omega
  have a := this g h.short
  have b := h.few
  omega
theorem met_target {g : Goals} {b y : Int} (h : Met g b y) : y ∈ targets g := by
  obtain ⟨z, l, e, m⟩ := met_gof h
  exact List.mem_flatten.mpr ⟨l, List.mem_map.mpr ⟨_, gof_mem e, rfl⟩, m⟩
structure MInv (g : Goals) (b : Int) (fs ws : List Int) : Prop where
  nd : fs.Nodup
  mf : ∀ y ∈ fs, Met g b y
  mw : ∀ y ∈ ws, Met g b y
  c0 : ∀ l, gof g b = some l → ∀ y ∈ l, y ∈ fs ∨ y ∈ ws
  c1 : ∀ z ∈ fs, ∀ l, gof g z = some l → ∀ y ∈ l, y ∈ fs ∨ y ∈ ws
  wl : ws.length ≤ 100 * (fs.length + 1)
theorem MInv.fin {g : Goals} {b : Int} {fs : List Int} (h : MInv g b fs []) (y : Int) : y ∈ fs ↔ Met g b y := by
  constructor
  · exact h.mf y
  · intro m
    induction m with
    | one e m => exact (h.c0 _ e _ m).resolve_right (by simp)
    | more _ e m ih => exact (h.c1 _ ih _ e _ m).resolve_right (by simp)
theorem int_alike (ns : List Int) : PySem.W.AllAlike ((ns.map D.int).map pyD) := by
  intro d hd d' hd'
  rw [List.map_map] at hd hd'
  obtain ⟨a, _, rfl⟩ := List.mem_map.mp hd
  obtain ⟨c, _, rfl⟩ := List.mem_map.mp hd'
  rfl
theorem int_okDs : ∀ ns : List Int, okDs (ns.map D.int) = true
  | [] => rfl
  | n :: ns => by show (okD (D.int n) && okDs (ns.map D.int)) = true; rw [int_okDs ns]; rfl
theorem int_sort {ns : List Int} (h : ns.length ≤ sizeLine) : CanSort (ns.map D.int) where
  ok := int_okDs ns
  al := int_alike ns
  so := .inr fun d hd => by
    rw [List.map_map] at hd
    obtain ⟨a, _, rfl⟩ := List.mem_map.mp hd
    exact ⟨nofun, nofun⟩
  dp := fun d hd => by
    obtain ⟨a, _, rfl⟩ := List.mem_map.mp hd
    exact Nat.zero_le _
  ln := by rw [List.length_map]; exact h
theorem int_srt (ns : List Int) : ∃ rs : List Int, rs.Perm ns ∧ srtD (ns.map D.int) = rs.map D.int := by
  have p : (srtD (ns.map D.int)).Perm (ns.map D.int) := List.mergeSort_perm _ _
  refine ⟨(srtD (ns.map D.int)).map unint, ?_, ?_⟩
  · have := p.map unint
    rw [List.map_map] at this
    have e : ns.map (unint ∘ D.int) = ns := by
      conv => rhs; rw [← List.map_id ns]
      rfl
    rw [e] at this
    exact this
  · rw [List.map_map]
    conv => lhs; rw [← List.map_id (srtD (ns.map D.int))]
    apply List.map_congr_left
    intro d hd
    obtain ⟨n, _, rfl⟩ := List.mem_map.mp (p.mem_iff.mp hd)
    rfl
def fsD (fs : List Int) : List (NestedKey × D) := fs.map fun i => (.num i, D.bl true)
theorem fsD_keys (fs : List Int) : (fsD fs).map (·.1) = fs.map NestedKey.num := by unfold fsD; rw [List.map_map]; rfl
theorem kk_num_all (i : Int) (is : List Int) : KKind (.num i :: is.map NestedKey.num) := .inl fun k hk => by
  rcases List.mem_cons.mp hk with e | e
  · exact ⟨i, e⟩
  · obtain ⟨j, _, e⟩ := List.mem_map.mp e
    exact ⟨j, e.symm⟩
theorem goals_kk {g : Goals} (h : GoalsOk g) (i : Int) : KKind (.num i :: (g.map fun x => (x.1, D.l (x.2.map D.int))).map (·.1)) := .inl fun k hk => by
  rcases List.mem_cons.mp hk with e | e
  · exact ⟨i, e⟩
  · rw [List.map_map] at e
    obtain ⟨x, hx, e⟩ := List.mem_map.mp e
    obtain ⟨j, ej⟩ := h.num x hx
    exact ⟨j, by rw [← e]; exact ej⟩
theorem fsD_get (fs : List Int) (i : Int) : (aget (fsD fs) (.num i)).isSome = decide (i ∈ fs) := by
  induction fs with
  | nil => rfl
  | cons f fs ih =>
    show (aget ((NestedKey.num f, D.bl true) :: fsD fs) (.num i)).isSome = _
    rw [aget_cons]
    by_cases e : f = i
    · subst e; simp
    · rw [if_neg (by simpa using e), ih]
      rw [decide_eq_decide]
      simp [Ne.symm e]
theorem aget_mapG {α β : Type} {f : α → β} : ∀ {g : List (NestedKey × α)} {k : NestedKey}, aget (g.map fun x => (x.1, f x.2)) k = (aget g k).map f
  | [], k => rfl
  | x :: g, k => by
    rw [List.map_cons, aget_cons, aget_cons, aget_mapG]
    split <;> rfl
theorem fsD_put {fs : List Int} {y : Int} (h : y ∉ fs) : aput (fsD fs) (.num y) (D.bl true) = fsD (fs ++ [y]) := by
  unfold aput
  rw [fsD_get, decide_eq_false h, if_neg (by decide)]
  unfold fsD
  rw [List.map_append]; rfl
theorem goals_aget {g : Goals} {k : NestedKey} : aget (g.map fun x => (x.1, D.l (x.2.map D.int))) k = (aget g k).map fun l => D.l (l.map D.int) := aget_mapG (f := fun l : List Int => D.l (l.map D.int))
theorem goals_get {g : Goals} {i : Int} {l : List Int} (h : gof g i = some l) : aget (g.map fun x => (x.1, D.l (x.2.map D.int))) (.num i) = some (.l (l.map D.int)) := by
  unfold gof at h
  rw [goals_aget, h]; rfl
theorem len_met_from {CW CE : Addr} : ∀ (ds : List D) (Qd : D → Prop), pp_met_from CW CE ds Qd → ds.length = 2 := fun ds Qd ⟨_, _, e, _⟩ => by rw [e]; rfl
theorem hp_met_from {CW CE : Addr} : ∀ (ds : List D) (Qd : D → Prop), pp_met_from CW CE ds Qd → td_met_from CW CE { nx := fun _ => Qd (.a .non), rt := Qd } (env0 5 ds) := by
  rintro ds Qd ⟨b, g, rfl, ok, hb, q⟩
  obtain ⟨l0, e0⟩ := Option.isSome_iff_exists.mp hb
  refine ⟨rfl, .num b, rfl, goals_kk ok b, .l (l0.map D.int), goals_get e0, rfl, ?_⟩
  have s0 := ok.short _ (gof_mem e0)
  have tl := targets_len ok
  refine ⟨fun m E => ∃ fs ws y4, E = [.sh (D.int b), .sh (goalsD g), .ow (.d (fsD fs)), .ow (.l (ws.map D.int)), y4] ∧ MInv g b fs ws ∧ m = ((targets g).length - fs.length) * 101 + ws.length, ⟨_, [], l0, .un, rfl, ⟨List.nodup_nil, (fun y h => nomatch h), fun y hy => .one e0 hy, fun l e y hy => .inr (by rw [e0] at e; cases e; exact hy), (fun z h => nomatch h), by simpa using s0⟩, rfl⟩, ?_⟩
  rintro m E ⟨fs, ws, y4, rfl, I, rfl⟩
  have lf : fs.length ≤ (targets g).length := nodup_len I.nd fun y hy => met_target (I.mf y hy)
  rcases List.eq_nil_or_concat ws with e | ⟨w', y, e⟩
  · subst e
    obtain ⟨rs, p, er⟩ := int_srt fs
    have ek : (fsD fs).map (fun kv => ofKey kv.1) = fs.map D.int := by unfold fsD; rw [List.map_map]; rfl
    show CanSort ((fsD fs).map fun kv => ofKey kv.1) ∧ Qd (.l (srtD ((fsD fs).map fun kv => ofKey kv.1)))
    rw [ek, er]
    exact ⟨int_sort (sz (by omega)), q rs (p.nodup_iff.mpr I.nd) fun y => (p.mem_iff).trans (I.fin y)⟩
  · rw [List.concat_eq_append] at e
    subst e
    have lw := I.wl
    rw [List.length_append, List.length_singleton] at lw
    have ed : ((w' ++ [y]).map D.int).dropLast = w'.map D.int := by simp
    refine ifK (decide_eq_true (show (0 : Int) < (((w' ++ [y]).map D.int).length : Nat) by rw [List.length_map, List.length_append, List.length_singleton]; omega)) ?_
    refine ⟨D.int y, by simp, ?_⟩
    rw [ed]
    refine ⟨.num y, rfl, by rw [fsD_keys]; exact kk_num_all y fs, ?_⟩
    by_cases hy : y ∈ fs
    · refine ifN (by show (!(aget (fsD fs) (.num y)).isSome) = false; rw [fsD_get, decide_eq_true hy]; rfl) ?_
      refine ⟨_, ?_, fs, w', _, rfl, ⟨I.nd, I.mf, fun z hz => I.mw z (List.mem_append_left _ hz), fun l e z hz => ?_, fun x hx l e z hz => ?_, by omega⟩, rfl⟩
      · rw [List.length_append, List.length_singleton]; omega
      · rcases I.c0 l e z hz with h | h
        · exact .inl h
        · rcases List.mem_append.mp h with h | h
          · exact .inr h
          · rw [List.mem_singleton.mp h]; exact .inl hy
      · rcases I.c1 x hx l e z hz with h | h
        · exact .inl h
        · rcases List.mem_append.mp h with h | h
          · exact .inr h
          · rw [List.mem_singleton.mp h]; exact .inl hy
    · refine ifK (by show (!(aget (fsD fs) (.num y)).isSome) = true; rw [fsD_get, decide_eq_false hy]; rfl) ?_
      have my := I.mw y (List.mem_append_right _ (List.mem_singleton.mpr rfl))
      have nd' : (fs ++ [y]).Nodup := by
        rw [List.nodup_append]
        exact ⟨I.nd, List.nodup_cons.mpr ⟨by simp, List.nodup_nil⟩, fun a ha c hc e => hy (by rw [List.mem_singleton.mp hc] at e; exact e ▸ ha)⟩
      have mf' : ∀ z ∈ fs ++ [y], Met g b z := fun z hz => (List.mem_append.mp hz).elim (I.mf z) fun h => by rw [List.mem_singleton.mp h]; exact my
      have lf' : (fs ++ [y]).length ≤ (targets g).length := nodup_len nd' fun z hz => met_target (mf' z hz)
      have l1 : (fs ++ [y]).length = fs.length + 1 := by rw [List.length_append]; rfl
      have up : ∀ z, z ∈ fs ∨ z ∈ w' ++ [y] → z ∈ fs ++ [y] ∨ z ∈ w' := fun z h => by
        rcases h with h | h
        · exact .inl (List.mem_append_left _ h)
        · rcases List.mem_append.mp h with h | h
          · exact .inr h
          · exact .inl (List.mem_append_right _ h)
      refine ⟨rfl, .num y, rfl, by rw [fsD_keys]; exact kk_num_all y fs, szl (by unfold fsD; rw [List.length_map]; omega), ?_⟩
      rw [fsD_put hy]
      refine ⟨.num y, rfl, goals_kk ok y, ?_⟩
      cases eg : gof g y with
      | none =>
        refine ifN (by show (aget (g.map fun x => (x.1, D.l (x.2.map D.int))) (.num y)).isSome = false; rw [goals_aget]; unfold gof at eg; rw [eg]; rfl) ?_
        refine ⟨_, ?_, fs ++ [y], w', _, rfl, ⟨nd', mf', fun z hz => I.mw z (List.mem_append_left _ hz), fun l e z hz => up z (I.c0 l e z hz), fun x hx l e z hz => ?_, by omega⟩, rfl⟩
        · rw [List.length_append, List.length_append, List.length_singleton]; omega
        · rcases List.mem_append.mp hx with h | h
          · exact up z (I.c1 x h l e z hz)
          · rw [List.mem_singleton.mp h, eg] at e; cases e
      | some l =>
        have sl := ok.short _ (gof_mem eg)
        refine ifK (by show (aget (g.map fun x => (x.1, D.l (x.2.map D.int))) (.num y)).isSome = true; rw [goals_aget]; unfold gof at eg; rw [eg]; rfl) ?_
        refine ⟨.num y, rfl, goals_kk ok y, .l (l.map D.int), goals_get eg, rfl, ?_, ?_⟩
        · rw [List.length_map, List.length_map]
          exact sz (by have : l.length ≤ 100 := sl; omega)
        · refine ⟨_, ?_, fs ++ [y], w' ++ l, .sh (D.int y), by rw [List.map_append (l₁ := w') (l₂ := l)]; rfl, ⟨nd', mf', fun z hz => (List.mem_append.mp hz).elim (fun h => I.mw z (List.mem_append_left _ h)) fun h => .more my eg h, fun l e z hz => (up z (I.c0 l e z hz)).imp id (List.mem_append_left _), fun x hx l' e z hz => ?_, ?_⟩, rfl⟩
          · have : l.length ≤ 100 := sl
            rw [List.length_append, List.length_append, List.length_append, List.length_singleton]; omega
          · rcases List.mem_append.mp hx with h | h
            · exact (up z (I.c1 x h l' e z hz)).imp id (List.mem_append_left _)
            · rw [List.mem_singleton.mp h, eg] at e
              cases e
              exact .inr (List.mem_append_right _ hz)
          · have : l.length ≤ 100 := sl
            rw [List.length_append]; omega
end DL
set_option Elab.async false
set_option linter.all false
set_option maxRecDepth 100000
set_option exponentiation.threshold 20000
namespace DL
open PySem PySem.Spec PyProof.Rows L2
/-! dealers are joined -/
def goalsFrom : Int → List (List Pr) → Goals
  | _, [] => []
  | s, st :: r => (.num s, st.map (·.2)) :: goalsFrom (s + 1) r
structure RingOk (d : List (List Pr)) : Prop where
  d1 : 1 ≤ d.length
  d3 : d.length ≤ 3
  st : ∀ st ∈ d, st.length ≤ 3 ∧ ∀ p ∈ st, 0 ≤ p.2 ∧ p.2 < d.length
  ring : ∀ (s : Nat) (st : List Pr), d[s]? = some st → ∃ p ∈ st, p.2 = ((s + 1) % d.length : Nat)
def pp_is_joined (CW CE : Addr) : PP := fun ds Q => ∃ d : List (List Pr), ds = [dealerD d] ∧ RingOk d ∧ Q (D.bl true)
def td_is_joined_s1 (CW CE : Addr) : TDS := (tdShare 1 (tdRet (tdCB rdAll (tdCons (tdLc (tdiKeys (tdVar 1)) (tgName 5) tdYes (tdOp (rdEq id) (tdCB rdLen (tdCons (tdLc (tdiL (tdCall (pp_met_from CW CE) (tdCons (tdVar 5) (tdCons (tdVar 1) tdNil)))) (tgName 3) (tdB (tdOp (rdEq not) (tdVar 3) (tdVar 5))) (tdVar 3) [3]) tdNil)) (tdOp rdSub (tdCB rdLen (tdCons (tdVar 0) tdNil)) (tdC (D.int 1)))) [5]) tdNil))))
def td_is_joined (CW CE : Addr) : TDS := (tdSeq (tdSet 1 (tdDc (tdiEnum (tdCons (tdVar 0) tdNil)) (tgTup 2 (tgCons (tgName 3) (tgCons (tgName 4) tgNil))) tdYes (tdVar 3) (tdLc (tdiT (tdVar 4)) (tgName 2) tdYes (tdOp rdIxA (tdVar 2) (tdC (D.int 1))) [2]) [3, 4])) (td_is_joined_s1 CW CE))
theorem goalsFrom_len : ∀ (d : List (List Pr)) (s : Int), (goalsFrom s d).length = d.length
  | [], _ => rfl
  | _ :: r, s => by show (goalsFrom (s + 1) r).length + 1 = _; rw [goalsFrom_len r]; rfl
theorem goalsFrom_mem : ∀ {d : List (List Pr)} {s : Int} {x : NestedKey × List Int}, x ∈ goalsFrom s d → ∃ (i : Nat) (st : List Pr), d[i]? = some st ∧ x = (.num (s + i), st.map (·.2))
  | [], _, _, h => nomatch h
  | st :: r, s, x, h => by
    rcases List.mem_cons.mp h with e | h
    · exact ⟨0, st, rfl, by rw [e]; simp⟩
    · obtain ⟨i, st', e, hx⟩ := goalsFrom_mem h
      exact ⟨i + 1, st', e, by rw [hx]; congr 2; omega⟩
theorem goalsFrom_get : ∀ {d : List (List Pr)} {s : Int} {i : Nat} {st : List Pr}, d[i]? = some st → gof (goalsFrom s d) (s + i) = some (st.map (·.2))
  | st :: r, s, 0, st', e => by
    cases e
    show aget ((NestedKey.num s, st.map (·.2)) :: goalsFrom (s + 1) r) (.num (s + 0)) = _
    rw [aget_cons, if_pos (by simp)]
  | st :: r, s, i + 1, st', e => by
    show aget ((NestedKey.num s, st.map (·.2)) :: goalsFrom (s + 1) r) (.num (s + (i + 1 : Nat))) = _
    rw [aget_cons, if_neg (by simp; omega)]
    have := goalsFrom_get (d := r) (s := s + 1) (i := i) (st := st') e
    rw [show s + ((i + 1 : Nat) : Int) = s + 1 + i by omega]
    exact this
theorem goalsFrom_ok {d : List (List Pr)} (h : RingOk d) : GoalsOk (goalsFrom 0 d) where
  num := fun x hx => by
    obtain ⟨i, st, _, e⟩ := goalsFrom_mem hx
    exact ⟨_, by rw [e]⟩
  few := by rw [goalsFrom_len]; have := h.d3; omega
  short := fun x hx => by
    obtain ⟨i, st, e, ex⟩ := goalsFrom_mem hx
    rw [ex]
    have := (h.st st (List.mem_of_getElem? e)).1
    show (st.map (·.2)).length ≤ 100
    rw [List.length_map]; omega
/-- from each standing all are met -/
theorem ring_met {d : List (List Pr)} (h : RingOk d) {s : Nat} (hs : s < d.length) : ∀ (k : Nat), Met (goalsFrom 0 d) s (((s + k + 1) % d.length : Nat) : Int)
  | 0 => by
    have e : d[s]? = some d[s] := List.getElem?_eq_getElem hs
    obtain ⟨p, hp, ep⟩ := h.ring s _ e
    have := goalsFrom_get (s := 0) e
    rw [Int.zero_add] at this
    exact .one this (List.mem_map.mpr ⟨p, hp, ep⟩)
  | k + 1 => by
    have ih := ring_met h hs k
    have hz : (s + k + 1) % d.length < d.length := Nat.mod_lt _ (by omega)
    have e : d[(s + k + 1) % d.length]? = some d[(s + k + 1) % d.length] := List.getElem?_eq_getElem hz
    obtain ⟨p, hp, ep⟩ := h.ring _ _ e
    have := goalsFrom_get (s := 0) e
    rw [Int.zero_add] at this
    refine .more ih this (List.mem_map.mpr ⟨p, hp, ?_⟩)
    rw [ep, show s + (k + 1) + 1 = (s + k + 1) + 1 by omega, Nat.mod_add_mod]
theorem ring_all {d : List (List Pr)} (h : RingOk d) {s t : Nat} (hs : s < d.length) (ht : t < d.length) : Met (goalsFrom 0 d) s (t : Int) := by
  have := ring_met h hs (t + (d.length - s) - 1 + d.length - d.length)
  have e : (s + (t + (d.length - s) - 1 + d.length - d.length) + 1) % d.length = t := by
    rw [show s + (t + (d.length - s) - 1 + d.length - d.length) + 1 = t + d.length by omega, Nat.add_mod_right, Nat.mod_eq_of_lt ht]
  rw [e] at this
  exact this
theorem ring_in {d : List (List Pr)} (h : RingOk d) {b y : Int} (m : Met (goalsFrom 0 d) b y) : 0 ≤ y ∧ y < d.length := by
  obtain ⟨z, l, e, hy⟩ := met_gof m
  obtain ⟨i, st, e1, e2⟩ := goalsFrom_mem (gof_mem e)
  injection e2 with _ e2
  subst e2
  obtain ⟨p, hp, rfl⟩ := List.mem_map.mp hy
  exact (h.st st (List.mem_of_getElem? e1)).2 p hp
theorem ring_count {d : List (List Pr)} (h : RingOk d) {s : Nat} (hs : s < d.length) {rs : List Int} (nd : rs.Nodup) (hm : ∀ y, y ∈ rs ↔ Met (goalsFrom 0 d) s y) : (rs.filter fun y => decide (y ≠ (s : Int))).length = d.length - 1 := by
  have p : (rs.filter fun y => decide (y ≠ (s : Int))).Perm (((List.range d.length).map fun i : Nat => (i : Int)).filter fun y => decide (y ≠ (s : Int))) := by
    apply List.Perm.filter
    refine (List.perm_ext_iff_of_nodup nd ?_).mpr fun y => ?_
    · exact List.Pairwise.map _ (fun a b (h : a ≠ b) (e : (a : Int) = b) => h (by omega)) List.nodup_range
    · rw [hm y]
      constructor
      · intro m
        obtain ⟨a, b⟩ := ring_in h m
        exact List.mem_map.mpr ⟨y.toNat, List.mem_range.mpr (by omega), by omega⟩
      · intro m
        obtain ⟨t, ht, rfl⟩ := List.mem_map.mp m
        exact ring_all h hs (List.mem_range.mp ht)
  rw [p.length_eq]
  have d3 := h.d3
  have d1 := h.d1
  generalize d.length = n at *
  have hn : n = 1 ∨ n = 2 ∨ n = 3 := by omega
  have hsn : s = 0 ∨ s = 1 ∨ s = 2 := by omega
  rcases hn with e | e | e <;> subst e <;> rcases hsn with f | f | f <;> subst f <;> first | rfl | omega
def goalsE (g : Goals) : List (NestedKey × D) := g.map fun x => (x.1, .l (x.2.map D.int))
def sndD : D → D
  | .t [_, b] => b
  | _ => .t []
theorem goalsE_put {g : Goals} {s : Int} {l : List Int} (h : ∀ x ∈ g, ∃ j, x.1 = .num j ∧ j < s) : aput (goalsE g) (.num s) (.l (l.map D.int)) = goalsE (g ++ [(.num s, l)]) := by
  unfold aput
  have : aget (goalsE g) (.num s) = none := by
    unfold goalsE
    rw [goals_aget]
    have : aget g (.num s) = none := by
      unfold aget
      rw [List.find?_eq_none.mpr fun x hx => ?_]
      · rfl
      · obtain ⟨j, e, hj⟩ := h x hx
        rw [e]
        simp
        omega
    rw [this]; rfl
  rw [this, if_neg (by decide)]
  unfold goalsE
  rw [List.map_append]; rfl
theorem jn_loop {v0 : Slot} {Q : List (NestedKey × D) → Prop} : ∀ (d : List (List Pr)) (s : Int) (acc : Goals), (∀ st ∈ d, st.length ≤ 3) → acc.length + d.length ≤ 100 → (∀ x ∈ acc, ∃ j, x.1 = .num j ∧ j < s) → Q (goalsE (acc ++ goalsFrom s d)) →
    tdDcL (tgTup 2 (tgCons (tgName 3) (tgCons (tgName 4) tgNil))) tdYes (tdVar 3) (tdLc (tdiT (tdVar 4)) (tgName 2) tdYes (tdOp rdIxA (tdVar 2) (tdC (D.int 1))) [2]) [v0, .un, .un, .un, .un, .un] (numbered s (d.map stD)) (goalsE acc) Q
  | [], s, acc, _, _, _, q => by
    rw [show goalsFrom s [] = [] from rfl, List.append_nil] at q
    exact q
  | st :: r, s, acc, h3, hl, hk, q => by
    rw [List.length_cons] at hl
    have s3 := h3 st List.mem_cons_self
    refine ⟨rfl, rfl, unAt1 rfl, rfl, ?_⟩
    refine lcL_map sndD .sh rfl _ _ _ (fun x hx C hc => ?_) ?_ ?_
    · obtain ⟨p, hp, rfl⟩ := List.mem_map.mp hx
      exact ⟨D.int p.2, rfl, hc⟩
    · exact sz (by rw [List.length_map]; simp; omega)
    rw [List.nil_append, List.map_map]
    have em : st.map (sndD ∘ prD) = (st.map (·.2)).map D.int := by rw [List.map_map]; rfl
    rw [em]
    refine ⟨rfl, .num s, rfl, .inl fun k hk' => ?_, szl (by unfold goalsE; rw [List.length_map]; omega), ?_⟩
    · rcases List.mem_cons.mp hk' with e | e
      · exact ⟨s, e⟩
      · unfold goalsE at e
        rw [List.map_map] at e
        obtain ⟨x, hx, e⟩ := List.mem_map.mp e
        obtain ⟨j, ej, _⟩ := hk x hx
        exact ⟨j, by rw [← e]; exact ej⟩
    rw [goalsE_put hk]
    refine jn_loop r (s + 1) _ (fun x hx => h3 x (List.mem_cons_of_mem _ hx)) (by rw [List.length_append]; simp; omega) (fun x hx => ?_) (by rw [List.append_assoc]; exact q)
    rcases List.mem_append.mp hx with h | h
    · obtain ⟨j, e, hj⟩ := hk x h
      exact ⟨j, e, by omega⟩
    · rw [List.mem_singleton.mp h]; exact ⟨s, rfl, by omega⟩
theorem len_is_joined {CW CE : Addr} : ∀ (ds : List D) (Qd : D → Prop), pp_is_joined CW CE ds Qd → ds.length = 1 := fun ds Qd ⟨_, e, _⟩ => by rw [e]; rfl
theorem hp_is_joined {CW CE : Addr} : ∀ (ds : List D) (Qd : D → Prop), pp_is_joined CW CE ds Qd → td_is_joined CW CE { nx := fun _ => Qd (.a .non), rt := Qd } (env0 6 ds) := by
  rintro ds Qd ⟨d, rfl, h, q⟩
  have un34 : ∀ E : DEnv, E[3]? = some .un → E[4]? = some .un → unAt E [3, 4] := fun E a b j hj => by
    rcases List.mem_cons.mp hj with e | e
    · rw [e]; exact a
    · rw [List.mem_singleton.mp e]; exact b
  refine ⟨un34 _ rfl rfl, rfl, ?_⟩
  refine jn_loop d 0 [] (fun st hst => (h.st st hst).1) (by have := h.d3; simp; omega) (fun x hx => nomatch hx) ?_
  rw [List.nil_append]
  refine ⟨rfl, unAt1 rfl, rfl, ?_⟩
  have ek : (goalsE (goalsFrom 0 d)).map (fun kv => ofKey kv.1) = (goalsFrom 0 d).map fun x => ofKey x.1 := by unfold goalsE; rw [List.map_map]; rfl
  have d3 := h.d3
  show tdLcL _ _ _ _ ((goalsE (goalsFrom 0 d)).map fun kv => ofKey kv.1) _ _
  rw [ek]
  refine lcL_map (fun _ => D.bl true) .sh rfl _ _ _ (fun x hx C hc => ?_) ?_ ?_
  · obtain ⟨y, hy, rfl⟩ := List.mem_map.mp hx
    obtain ⟨s, st, e, ey⟩ := goalsFrom_mem hy
    have ls := (List.getElem?_eq_some_iff.mp e).1
    rw [Int.zero_add] at ey
    subst ey
    have gs := goalsFrom_get (s := 0) e
    rw [Int.zero_add] at gs
    refine ⟨unAt1 rfl, rfl, s, goalsFrom 0 d, rfl, goalsFrom_ok h, by rw [gs]; rfl, fun rs nd hm => ?_⟩
    have lr : rs.length ≤ 10000 := Nat.le_trans (nodup_len nd fun y hy => met_target ((hm y).mp hy)) (targets_len (goalsFrom_ok h))
    refine ⟨rfl, ?_⟩
    refine lcL_filter (fun x => x) (fun x => decide (unint x ≠ (s : Int))) .sh rfl _ _ _ (fun x hx C' Z h1 h2 => ?_) ?_ ?_
    · obtain ⟨y, hy, rfl⟩ := List.mem_map.mp hx
      exact ⟨rfl, ifNe (i := y) (j := s) (fun ne => h1 (decide_eq_true ne)) fun eq => h2 (decide_eq_false fun z => z eq)⟩
    · rw [List.length_map]; exact sz (by simp; omega)
    have ef : ((rs.map D.int).filter fun x => decide (unint x ≠ (s : Int))).map (fun x => x) = (rs.filter fun y => decide (y ≠ (s : Int))).map D.int := by
      rw [List.map_id', List.filter_map]; rfl
    rw [List.nil_append, ef]
    refine ⟨rfl, ?_⟩
    show C (D.bl (id (decide (V.int (((rs.filter fun y => decide (y ≠ (s : Int))).map D.int).length : Nat) = V.int (((d.map stD).length : Nat) - 1))))) .sh
    rw [List.length_map, List.length_map, ring_count h ls nd hm, show (((d.length - 1 : Nat)) : Int) = (d.length : Int) - 1 by have := h.d1; omega]
    rw [show id (decide (V.int ((d.length : Int) - 1) = V.int ((d.length : Int) - 1))) = true from decide_eq_true rfl]
    exact hc
  · rw [List.length_map, goalsFrom_len]; exact sz (by simp; omega)
  · refine ⟨_, all_bools _, ?_⟩
    rw [all_true]
    exact q
end DL
set_option Elab.async false
set_option linter.all false
set_option maxRecDepth 100000
set_option exponentiation.threshold 20000
namespace DL
open PySem PySem.Spec PyProof.Rows L2
/-! the doors of dealers -/
def DoorsFrom : Int → Dl → Goals → Prop
  | _, [], g => g = []
  | h, d :: r, g => ∃ l g', g = (.num h, l) :: g' ∧ (∀ y, y ∈ l ↔ ∃ st ∈ d, ∃ p ∈ st, p.1 = y) ∧ l.length ≤ 9 ∧ DoorsFrom (h + 1) r g'
def pp_doors_of (CW CE : Addr) : PP := fun ds Q => ∃ dl : Dl, ds = [dlD dl] ∧ dl.length ≤ 3 ∧ (∀ d ∈ dl, d.length ≤ 3 ∧ ∀ st ∈ d, st.length ≤ 3) ∧ ∀ gs, DoorsFrom 0 dl gs → Q (goalsD gs)
def td_doors_of_b1 (CW CE : Addr) : TDS := (tdDSet 1 (tdCB rdSortedD (tdCons (tdDc2 (tdiT (tdVar 3)) (tdiT (tdVar 4)) (tgName 4) (tgName 5) (tdOp rdIxA (tdVar 5) (tdC (D.int 0))) (tdC (D.bl true)) [4, 5] [5]) tdNil)) (tdVar 2))
def td_doors_of_s2 (CW CE : Addr) : TDS := (tdRet (tdVar 1))
def td_doors_of_s1 (CW CE : Addr) : TDS := (tdSeq (tdFor (tdiEnum (tdCons (tdVar 0) tdNil)) (tgTup 2 (tgCons (tgName 2) (tgCons (tgName 3) tgNil))) (td_doors_of_b1 CW CE)) (td_doors_of_s2 CW CE))
def td_doors_of (CW CE : Addr) : TDS := (tdSeq (tdSet 1 tdDNew) (td_doors_of_s1 CW CE))
theorem fsD_put' {fs : List Int} {y : Int} : aput (fsD fs) (.num y) (D.bl true) = fsD (if y ∈ fs then fs else fs ++ [y]) := by
  by_cases h : y ∈ fs
  · rw [if_pos h]
    unfold aput
    rw [fsD_get, decide_eq_true h, if_pos rfl]
    unfold fsD
    rw [List.map_map]
    apply List.map_congr_left
    intro i _
    show (if NestedKey.num i = NestedKey.num y then (NestedKey.num i, D.bl true) else (NestedKey.num i, D.bl true)) = _
    split <;> rfl
  · rw [if_neg h, fsD_put h]
theorem dr_in {E : DEnv} {Q : List (NestedKey × D) → Prop} {a b c d4 : Slot} : ∀ (st : List Pr) (fs : List Int) (x5 : Slot), E = [a, b, c, d4, x5, .un] → fs.Nodup → fs.length + st.length ≤ 100 → (∀ fs' : List Int, fs'.Nodup → fs'.length ≤ fs.length + st.length → (∀ y, y ∈ fs' ↔ y ∈ fs ∨ ∃ p ∈ st, p.1 = y) → Q (fsD fs')) →
    tdDcL (tgName 5) tdYes (tdOp rdIxA (tdVar 5) (tdC (D.int 0))) (tdC (D.bl true)) E (st.map prD) (fsD fs) Q
  | [], fs, x5, e, nd, hl, q => q fs nd (Nat.le_refl _) fun y => by simp
  | p :: st, fs, x5, e, nd, hl, q => by
    subst e
    rw [List.length_cons] at hl
    refine ⟨D.int p.1, rfl, rfl, .num p.1, rfl, by rw [fsD_keys]; exact kk_num_all _ _, szl (by unfold fsD; rw [List.length_map]; omega), ?_⟩
    rw [fsD_put']
    have n2 : (if p.1 ∈ fs then fs else fs ++ [p.1]).Nodup := by
      split
      · exact nd
      · rename_i h
        rw [List.nodup_append]
        exact ⟨nd, List.nodup_cons.mpr ⟨by simp, List.nodup_nil⟩, fun a ha c hc e => h (by rw [List.mem_singleton.mp hc] at e; exact e ▸ ha)⟩
    have l2 : (if p.1 ∈ fs then fs else fs ++ [p.1]).length ≤ fs.length + 1 := by
      split
      · omega
      · rw [List.length_append]; exact Nat.le_refl _
    have m2 : ∀ y, y ∈ (if p.1 ∈ fs then fs else fs ++ [p.1]) ↔ y ∈ fs ∨ y = p.1 := by
      intro y
      split
      · rename_i h
        exact ⟨.inl, fun z => z.elim id fun e => e ▸ h⟩
      · simp
    refine dr_in st _ x5 rfl n2 (by omega) fun fs' nd' l' m' => q fs' nd' (by rw [List.length_cons]; omega) fun y => ?_
    rw [m' y, m2 y]
    simp only [List.mem_cons, exists_eq_or_imp]
    constructor
    · rintro ((h | h) | h)
      · exact .inl h
      · exact .inr (.inl h.symm)
      · exact .inr (.inr h)
    · rintro (h | h | h)
      · exact .inl (.inl h)
      · exact .inl (.inr h.symm)
      · exact .inr h
theorem len_doors_of {CW CE : Addr} : ∀ (ds : List D) (Qd : D → Prop), pp_doors_of CW CE ds Qd → ds.length = 1 := fun ds Qd ⟨_, e, _⟩ => by rw [e]; rfl
theorem dr_out {Q : List (NestedKey × D) → Prop} {a b c d4 : Slot} : ∀ (d : List (List Pr)) (fs : List Int), fs.Nodup → (∀ st ∈ d, st.length ≤ 3) → fs.length + 3 * d.length ≤ 90 → (∀ fs' : List Int, fs'.Nodup → fs'.length ≤ fs.length + 3 * d.length → (∀ y, y ∈ fs' ↔ y ∈ fs ∨ ∃ st ∈ d, ∃ p ∈ st, p.1 = y) → Q (fsD fs')) →
    tdDcO (tdiT (tdVar 4)) (tgName 4) (tgName 5) (tdOp rdIxA (tdVar 5) (tdC (D.int 0))) (tdC (D.bl true)) [5] [a, b, c, d4, .un, .un] (d.map stD) (fsD fs) Q
  | [], fs, nd, h3, hl, q => q fs nd (Nat.le_refl _) fun y => by simp
  | st :: r, fs, nd, h3, hl, q => by
    rw [List.length_cons] at hl
    have s3 := h3 st List.mem_cons_self
    refine ⟨unAt1 rfl, rfl, ?_⟩
    refine dr_in st fs (.sh (stD st)) rfl nd (by omega) fun fs' nd' l' m' => ?_
    refine dr_out r fs' nd' (fun x hx => h3 x (List.mem_cons_of_mem _ hx)) (by omega) fun fs'' nd'' l'' m'' => q fs'' nd'' (by rw [List.length_cons]; omega) fun y => ?_
    rw [m'' y, m' y]
    simp only [List.mem_cons, exists_eq_or_imp]
    exact or_assoc
theorem dr_loop {CW CE : Addr} {Dd : DEnds} {v0 : Slot} : ∀ (dl : Dl) (h : Int) (acc : Goals) (x2 x3 : Slot), (∀ d ∈ dl, d.length ≤ 3 ∧ ∀ st ∈ d, st.length ≤ 3) → acc.length + dl.length ≤ 100 → (∀ x ∈ acc, ∃ j, x.1 = .num j ∧ j < h) → (∀ gs y2 y3, DoorsFrom h dl gs → Dd.nx [v0, .ow (.d (goalsE (acc ++ gs))), y2, y3, .un, .un]) →
    tdForL (tgTup 2 (tgCons (tgName 2) (tgCons (tgName 3) tgNil))) (td_doors_of_b1 CW CE) (numbered h (dl.map dealerD)) Dd [v0, .ow (.d (goalsE acc)), x2, x3, .un, .un]
  | [], h, acc, x2, x3, _, _, _, q => by
    have := q [] x2 x3 rfl
    rw [List.append_nil] at this
    exact this
  | d :: r, h, acc, x2, x3, h3, hl, hk, q => by
    rw [List.length_cons] at hl
    obtain ⟨d3, s3⟩ := h3 d List.mem_cons_self
    have un45 : ∀ E : DEnv, E[4]? = some .un → E[5]? = some .un → unAt E [4, 5] := fun E a b j hj => by
      rcases List.mem_cons.mp hj with e | e
      · rw [e]; exact a
      · rw [List.mem_singleton.mp e]; exact b
    refine ⟨rfl, rfl, un45 _ rfl rfl, rfl, ?_⟩
    refine dr_out d [] List.nodup_nil s3 (by simp; omega) fun fs nd l m => ?_
    refine ⟨fs, fsD_keys fs, fun ns p => ?_⟩
    have ln : ns.length ≤ 9 := by rw [p.length_eq]; simp at l; omega
    refine ⟨rfl, .num h, rfl, .inl fun k hk' => ?_, szl (by unfold goalsE; rw [List.length_map]; omega), ?_⟩
    · rcases List.mem_cons.mp hk' with e | e
      · exact ⟨h, e⟩
      · unfold goalsE at e
        rw [List.map_map] at e
        obtain ⟨x, hx, e⟩ := List.mem_map.mp e
        obtain ⟨j, ej, _⟩ := hk x hx
        exact ⟨j, by rw [← e]; exact ej⟩
    rw [goalsE_put hk]
    refine dr_loop r (h + 1) _ _ _ (fun x hx => h3 x (List.mem_cons_of_mem _ hx)) (by rw [List.length_append]; simp; omega) (fun x hx => ?_) (fun gs y2 y3 hg => ?_)
    · rcases List.mem_append.mp hx with h' | h'
      · obtain ⟨j, e, hj⟩ := hk x h'
        exact ⟨j, e, by omega⟩
      · rw [List.mem_singleton.mp h']; exact ⟨h, rfl, by omega⟩
    · rw [List.append_assoc]
      exact q _ y2 y3 ⟨ns, gs, rfl, fun y => by rw [p.mem_iff, m y]; simp, ln, hg⟩
theorem hp_doors_of {CW CE : Addr} : ∀ (ds : List D) (Qd : D → Prop), pp_doors_of CW CE ds Qd → td_doors_of CW CE { nx := fun _ => Qd (.a .non), rt := Qd } (env0 6 ds) := by
  rintro ds Qd ⟨dl, rfl, hl, h3, q⟩
  refine ⟨rfl, rfl, ?_⟩
  exact dr_loop (CW := CW) (CE := CE) dl 0 [] .un .un h3 (by simp; omega) (fun x hx => nomatch hx) fun gs y2 y3 hg => q gs hg
end DL
set_option Elab.async false
set_option linter.all false
set_option maxRecDepth 100000
set_option exponentiation.threshold 20000
namespace DL
open PySem PySem.Spec PyProof.Rows L2
/-! webs are taken -/
def pp_check_web (CW CE : Addr) : PP := fun ds Q => ∃ (c : Int) (dl : Dl), ds = [D.int c, dlD dl] ∧ WOk c dl ∧ Q (.a .non)
def td_check_web_b1 (CW CE : Addr) : TDS := (tdIfS (tdNot (tdB (tdCall (pp_is_dealer CW CE) (tdCons (tdVar 4) (tdCons (tdVar 0) (tdCons (tdCB rdLen (tdCons (tdVar 1) tdNil)) tdNil)))))) tdNever tdNext)
def td_check_web_b2 (CW CE : Addr) : TDS := (tdIfS (tdNot (tdB (tdCall (pp_is_joined CW CE) (tdCons (tdVar 4) tdNil)))) tdNever tdNext)
def td_check_web_b3 (CW CE : Addr) : TDS := (tdIfS (tdB (tdOp rdGe (tdCB rdMin (tdCons (tdCall (pp_met_from CW CE) (tdCons (tdVar 3) (tdCons (tdVar 2) tdNil))) tdNil)) (tdC (D.int 0)))) tdNever tdNext)
def td_check_web_s5 (CW CE : Addr) : TDS := (tdFor (tdiRng1 (tdCons (tdCB rdLen (tdCons (tdVar 1) tdNil)) tdNil)) (tgName 3) (td_check_web_b3 CW CE))
def td_check_web_s4 (CW CE : Addr) : TDS := (tdSeq (tdSet 2 (tdCall (pp_doors_of CW CE) (tdCons (tdVar 1) tdNil))) (td_check_web_s5 CW CE))
def td_check_web_s3 (CW CE : Addr) : TDS := (tdSeq (tdFor (tdiEnum (tdCons (tdVar 1) tdNil)) (tgTup 2 (tgCons (tgName 3) (tgCons (tgName 4) tgNil))) (td_check_web_b2 CW CE)) (td_check_web_s4 CW CE))
def td_check_web_s2 (CW CE : Addr) : TDS := (tdSeq (tdFor (tdiEnum (tdCons (tdVar 1) tdNil)) (tgTup 2 (tgCons (tgName 3) (tgCons (tgName 4) tgNil))) (td_check_web_b1 CW CE)) (td_check_web_s3 CW CE))
def td_check_web_s1 (CW CE : Addr) : TDS := (tdSeq (tdIfS (tdOr (tdNot (tdB (tdIsi isTuple (tdVar 1)))) (tdNot (tdB (tdChain rdLe rdLe (tdC (D.int 1)) (tdCB rdLen (tdCons (tdVar 1) tdNil)) (tdC (D.int 8)))))) tdNever tdNext) (td_check_web_s2 CW CE))
def td_check_web (CW CE : Addr) : TDS := (tdSeq (tdIfS (tdNot (tdB (tdCall (pp_is_within CW CE) (tdCons (tdVar 0) (tdCons (tdC (D.int 1)) (tdCons (tdC (D.int 6)) tdNil)))))) tdNever tdNext) (td_check_web_s1 CW CE))
theorem doors_get : ∀ {dl : Dl} {h0 : Int} {gs : Goals}, DoorsFrom h0 dl gs → ∀ {i : Nat} {d : List (List Pr)}, dl[i]? = some d → ∃ l, gof gs (h0 + i) = some l ∧ ∀ y, y ∈ l ↔ ∃ st ∈ d, ∃ p ∈ st, p.1 = y
  | d :: r, h0, gs, ⟨l, g', e, m, _, _⟩, 0, d', hd => by
    cases hd
    exact ⟨l, by rw [e]; show aget _ _ = _; rw [aget_cons, if_pos (by simp)], m⟩
  | d :: r, h0, gs, ⟨l, g', e, m, _, n⟩, i + 1, d', hd => by
    obtain ⟨l', e', m'⟩ := doors_get n (i := i) (d := d') hd
    refine ⟨l', ?_, m'⟩
    rw [e]
    show aget _ _ = _
    rw [aget_cons, if_neg (by simp; omega)]
    rw [show h0 + ((i + 1 : Nat) : Int) = h0 + 1 + i by omega]
    exact e'
theorem doors_mem : ∀ {dl : Dl} {h0 : Int} {gs : Goals}, DoorsFrom h0 dl gs → (∀ x ∈ gs, (∃ i, x.1 = .num i) ∧ x.2.length ≤ 9) ∧ gs.length = dl.length
  | [], h0, gs, e => by subst e; exact ⟨(fun x h => nomatch h), rfl⟩
  | d :: r, h0, gs, ⟨l, g', e, m, hl, n⟩ => by
    obtain ⟨a, b⟩ := doors_mem n
    subst e
    refine ⟨fun x hx => ?_, by rw [List.length_cons, b]; rfl⟩
    rcases List.mem_cons.mp hx with h | h
    · rw [h]; exact ⟨⟨h0, rfl⟩, hl⟩
    · exact a x h
theorem doors_ok {dl : Dl} {gs : Goals} (h : DoorsFrom 0 dl gs) (hl : dl.length ≤ 3) : GoalsOk gs where
  num := fun x hx => ((doors_mem h).1 x hx).1
  few := by rw [(doors_mem h).2]; omega
  short := fun x hx => by have := ((doors_mem h).1 x hx).2; omega
/-- from each house a cup is met -/
theorem cup_met {c : Int} {dl : Dl} {gs : Goals} (w : WOk c dl) (g : DoorsFrom 0 dl gs) : ∀ {h : Nat}, h < dl.length → ∃ y, y < 0 ∧ Met gs h y := by
  obtain ⟨rank, hr⟩ := w.rk
  have go : ∀ (n h : Nat), rank h ≤ n → h < dl.length → ∃ y, y < 0 ∧ Met gs h y := by
    intro n
    induction n with
    | zero =>
      intro h hn hh
      have e : dl[h]? = some dl[h] := List.getElem?_eq_getElem hh
      have d1 := w.d1 _ (List.mem_of_getElem? e)
      have e2 : dl[h][0]? = some dl[h][0] := List.getElem?_eq_getElem d1
      obtain ⟨p, hp, _, hc⟩ := hr h 0 _ _ e e2
      obtain ⟨l, el, ml⟩ := doors_get g e
      rw [Int.zero_add] at el
      have hm : p.1 ∈ l := (ml p.1).mpr ⟨_, List.mem_of_getElem? e2, p, hp, rfl⟩
      rcases hc with hc | hc
      · exact ⟨p.1, hc, .one el hm⟩
      · omega
    | succ n ih =>
      intro h hn hh
      have e : dl[h]? = some dl[h] := List.getElem?_eq_getElem hh
      have d1 := w.d1 _ (List.mem_of_getElem? e)
      have e2 : dl[h][0]? = some dl[h][0] := List.getElem?_eq_getElem d1
      obtain ⟨p, hp, _, hc⟩ := hr h 0 _ _ e e2
      obtain ⟨l, el, ml⟩ := doors_get g e
      rw [Int.zero_add] at el
      have hst := List.mem_of_getElem? e2
      have hm : p.1 ∈ l := (ml p.1).mpr ⟨_, hst, p, hp, rfl⟩
      by_cases hneg : p.1 < 0
      · exact ⟨p.1, hneg, .one el hm⟩
      · have hc := hc.resolve_left hneg
        have b := (w.dr _ (List.mem_of_getElem? e) _ hst p hp).2
        obtain ⟨y, hy, m⟩ := ih p.1.toNat (by omega) (by omega)
        have ep : ((p.1.toNat : Nat) : Int) = p.1 := by omega
        rw [ep] at m
        refine ⟨y, hy, ?_⟩
        clear hy ih hc
        induction m with
        | one e m => exact .more (.one el hm) e m
        | more _ e m ih => exact .more ih e m
  intro h hh
  exact go _ h (Nat.le_refl _) hh
theorem WOk.ring {c : Int} {dl : Dl} (w : WOk c dl) {h : Nat} {d : List (List Pr)} (e : dl[h]? = some d) : RingOk d where
  d1 := w.d1 d (List.mem_of_getElem? e)
  d3 := w.d2 d (List.mem_of_getElem? e)
  st := fun st hst => ⟨w.s2 d (List.mem_of_getElem? e) st hst, w.nx d (List.mem_of_getElem? e) st hst⟩
  ring := fun s st es => by
    obtain ⟨rank, hr⟩ := w.rk
    obtain ⟨p, hp, e1, _⟩ := hr h s d st e es
    exact ⟨p, hp, e1⟩
theorem len_check_web {CW CE : Addr} : ∀ (ds : List D) (Qd : D → Prop), pp_check_web CW CE ds Qd → ds.length = 2 := fun ds Qd ⟨_, _, e, _⟩ => by rw [e]; rfl
theorem cw_loop1 {CW CE : Addr} {Dd : DEnds} {c : Int} {all : Dl} {v2 : Slot} (w : WOk c all) : ∀ (dl : Dl) (h : Int) (x3 x4 : Slot), (∀ d ∈ dl, d ∈ all) → (∀ y3 y4, Dd.nx [.sh (D.int c), .sh (dlD all), v2, y3, y4]) → tdForL (tgTup 2 (tgCons (tgName 3) (tgCons (tgName 4) tgNil))) (td_check_web_b1 CW CE) (numbered h (dl.map dealerD)) Dd [.sh (D.int c), .sh (dlD all), v2, x3, x4]
  | [], h, x3, x4, _, q => q x3 x4
  | d :: r, h, x3, x4, hd, q => by
    have hm := hd d List.mem_cons_self
    refine ⟨rfl, rfl, rfl, d, c, (all.map dealerD).length, rfl, w.d1 d hm, w.d2 d hm, fun st hst => ⟨w.s1 d hm st hst, w.s2 d hm st hst, w.up d hm st hst, fun p hp => ?_⟩, ?_⟩
    · rw [ds_len]
      exact ⟨(w.dr d hm st hst p hp).1, (w.dr d hm st hst p hp).2, (w.nx d hm st hst p hp).1, (w.nx d hm st hst p hp).2⟩
    · exact cw_loop1 w r (h + 1) _ _ (fun x hx => hd x (List.mem_cons_of_mem _ hx)) q
theorem cw_loop2 {CW CE : Addr} {Dd : DEnds} {v0 v1 v2 : Slot} : ∀ (dl : Dl) (h : Int) (x3 x4 : Slot), (∀ d ∈ dl, RingOk d) → (∀ y3 y4, Dd.nx [v0, v1, v2, y3, y4]) → tdForL (tgTup 2 (tgCons (tgName 3) (tgCons (tgName 4) tgNil))) (td_check_web_b2 CW CE) (numbered h (dl.map dealerD)) Dd [v0, v1, v2, x3, x4]
  | [], h, x3, x4, _, q => q x3 x4
  | d :: r, h, x3, x4, hd, q => by
    refine ⟨rfl, rfl, rfl, d, rfl, hd d List.mem_cons_self, ?_⟩
    exact cw_loop2 r (h + 1) _ _ (fun x hx => hd x (List.mem_cons_of_mem _ hx)) q
theorem ints_of : ∀ rs : List Int, intsOf (rs.map D.int) = some rs
  | [] => rfl
  | r :: rs => by show (intsOf (rs.map D.int)).map (r :: ·) = _; rw [ints_of rs]; rfl
theorem cw_loop3 {CW CE : Addr} {Dd : DEnds} {v0 v1 v4 : Slot} {c : Int} {dl : Dl} {gs : Goals} (w : WOk c dl) (g : DoorsFrom 0 dl gs) : ∀ (n : Nat) (lo : Nat) (x3 : Slot), lo + n ≤ dl.length → (∀ y3, Dd.nx [v0, v1, .sh (goalsD gs), y3, v4]) → tdForL (tgName 3) (td_check_web_b3 CW CE) (ups lo n) Dd [v0, v1, .sh (goalsD gs), x3, v4]
  | 0, lo, x3, _, q => q x3
  | n + 1, lo, x3, h, q => by
    have e : dl[lo]? = some dl[lo] := List.getElem?_eq_getElem (by omega)
    obtain ⟨l, el, ml⟩ := doors_get g e
    rw [Int.zero_add] at el
    refine ⟨rfl, lo, gs, rfl, doors_ok g w.h2, by rw [el]; rfl, fun rs nd hm => ?_⟩
    obtain ⟨y, hy, my⟩ := cup_met w g (h := lo) (by omega)
    have hyr := (hm y).mpr my
    refine ⟨rs, ints_of rs, List.length_pos_of_mem hyr, fun m hmm hle => ?_⟩
    refine ifN (decide_eq_false (show ¬ ((0 : Int) ≤ m) by have := hle y hyr; omega)) ?_
    have := cw_loop3 (CW := CW) (CE := CE) (Dd := Dd) (v0 := v0) (v1 := v1) (v4 := v4) w g n (lo + 1) (.sh (D.int lo)) (by omega) q
    rw [show ((lo + 1 : Nat) : Int) = (lo : Int) + 1 by omega] at this
    exact this
theorem hp_check_web {CW CE : Addr} : ∀ (ds : List D) (Qd : D → Prop), pp_check_web CW CE ds Qd → td_check_web CW CE { nx := fun _ => Qd (.a .non), rt := Qd } (env0 5 ds) := by
  rintro ds Qd ⟨c, dl, rfl, w, q⟩
  have w1 := w.h1
  have w2 := w.h2
  refine ⟨rfl, c, 1, 6, rfl, ?_⟩
  rw [decide_eq_true (show (1 : Int) ≤ c ∧ c ≤ 6 by have := w.c1; have := w.c2; omega)]
  refine ⟨true, rfl, ?_⟩
  refine ifK (decide_eq_true (show (1 : Int) ≤ ((dl.map dealerD).length : Nat) by rw [ds_len]; omega)) ?_
  refine ifN (by show (!decide (((dl.map dealerD).length : Int) ≤ 8)) = false; rw [decide_eq_true (by rw [ds_len]; omega)]; rfl) ?_
  refine ⟨rfl, ?_⟩
  refine cw_loop1 (CW := CW) (CE := CE) w dl 0 .un .un (fun d h => h) fun y3 y4 => ⟨rfl, ?_⟩
  refine cw_loop2 (CW := CW) (CE := CE) dl 0 y3 y4 (fun d hd => by
    obtain ⟨i, hi, e⟩ := List.getElem_of_mem hd
    exact w.ring (h := i) (by rw [List.getElem?_eq_getElem hi, e])) fun z3 z4 => ?_
  refine ⟨rfl, dl, rfl, w2, fun d hd => ⟨w.d2 d hd, w.s2 d hd⟩, fun gs hg => ?_⟩
  refine ⟨rfl, ?_⟩
  show -(2 ^ 62) ≤ (((dl.map dealerD).length : Nat) : Int) ∧ _
  rw [ds_len]
  refine ⟨by omega, by omega, ?_⟩
  rw [show ((dl.length : Int)).toNat = dl.length by omega]
  exact cw_loop3 (CW := CW) (CE := CE) w hg dl.length 0 z3 (by omega) fun _ => q
end DL
set_option Elab.async false
set_option linter.all false
set_option maxRecDepth 100000
set_option exponentiation.threshold 20000
namespace DL
open PySem PySem.Spec PyProof.Rows L2
/-! triples -/
abbrev Tri := List Nat × List Nat × List Nat
def natsD (xs : List Nat) : D := .t (xs.map fun (n : Nat) => D.int (n : Int))
def triD (t : Tri) : D := .t [natsD t.1, natsD t.2.1, natsD t.2.2]
/-- behind a move by the pair p at the house h -/
def behindP (t : Tri) (h : Nat) (p : Pr) : Tri :=
  let w1 := t.1.set h ((t.1[h]?.getD 0) - 1)
  let e1 := t.2.1.set h p.2.toNat
  if p.1 < 0 then (w1, e1, t.2.2.set (-1 - p.1).toNat ((t.2.2[(-1 - p.1).toNat]?.getD 0) + 1))
  else (w1.set p.1.toNat ((w1[p.1.toNat]?.getD 0) + 1), e1, t.2.2)
structure TriOk (c : Int) (dl : Dl) (t : Tri) : Prop where
  l1 : t.1.length = dl.length
  l2 : t.2.1.length = dl.length
  l3 : (t.2.2.length : Int) = c
  at_ : ∀ (h e : Nat) (d : List (List Pr)), t.2.1[h]? = some e → dl[h]? = some d → e < d.length
/-- the moves at a triple: house, number -/
def movesFrom (t : Tri) : Nat → Dl → List (Nat × Nat)
  | _, [] => []
  | h, d :: r => (if 0 < t.1[h]?.getD 0 then (List.range ((d[t.2.1[h]?.getD 0]?).getD []).length).map fun n => (h, n) else []) ++ movesFrom t (h + 1) r
/-! what can come up: moves, what a bill comes to -/
def Mv (dl : Dl) (t : Tri) (h n : Nat) (p : Pr) : Prop := 0 < t.1[h]?.getD 0 ∧ ∃ e, t.2.1[h]? = some e ∧ at3 dl h e n = some p
def firstT (c : Int) (dl : Dl) (load : List Nat) : Tri := (load, List.replicate dl.length 0, List.replicate c.toNat 0)
inductive Rch (c : Int) (dl : Dl) (load : List Nat) : Tri → Prop
  | first : Rch c dl load (firstT c dl load)
  | step {t : Tri} {h n : Nat} {p : Pr} : Rch c dl load t → Mv dl t h n p → Rch c dl load (behindP t h p)
/-- a list of all that can come up -/
structure Full (c : Int) (dl : Dl) (load : List Nat) (L : List Tri) : Prop where
  first : firstT c dl load ∈ L
  rch : ∀ t ∈ L, Rch c dl load t
  cl : ∀ t ∈ L, ∀ (h n : Nat) (p : Pr), Mv dl t h n p → behindP t h p ∈ L
theorem Full.all {c : Int} {dl : Dl} {load : List Nat} {L : List Tri} (f : Full c dl load L) {t : Tri} (r : Rch c dl load t) : t ∈ L := by
  induction r with
  | first => exact f.first
  | step _ m ih => exact f.cl _ ih _ _ _ m
def wsum (v : NestedKey → Rat) : Nat → List Nat → Rat
  | _, [] => 0
  | h, x :: r => (x : Rat) * wv v h + wsum v (h + 1) r
def lsum (v : NestedKey → Rat) : Nat → List Nat → Rat
  | _, [] => 0
  | h, s :: r => lv v h s + lsum v (h + 1) r
theorem wsum_set {v : NestedKey → Rat} {y : Nat} : ∀ {xs : List Nat} {h i x : Nat}, xs[i]? = some x → wsum v h (xs.set i y) = wsum v h xs + ((y : Rat) - x) * wv v (h + i)
  | [], _, _, _, e => by simp at e
  | a :: r, h, 0, x, e => by
    simp at e; subst e
    show (y : Rat) * wv v h + wsum v (h + 1) r = (a : Rat) * wv v h + wsum v (h + 1) r + ((y : Rat) - a) * wv v h
    grind
  | a :: r, h, i + 1, x, e => by
    have ih := wsum_set (v := v) (y := y) (xs := r) (h := h + 1) (i := i) (x := x) (by simpa using e)
    show (a : Rat) * wv v h + wsum v (h + 1) (r.set i y) = (a : Rat) * wv v h + wsum v (h + 1) r + ((y : Rat) - x) * wv v (h + (i + 1))
    rw [ih, show h + 1 + i = h + (i + 1) by omega]
    grind
theorem lsum_set {v : NestedKey → Rat} {y : Nat} : ∀ {xs : List Nat} {h i x : Nat}, xs[i]? = some x → lsum v h (xs.set i y) = lsum v h xs + (lv v (h + i) y - lv v (h + i) x)
  | [], _, _, _, e => by simp at e
  | a :: r, h, 0, x, e => by
    simp at e; subst e
    show lv v h y + lsum v (h + 1) r = lv v h a + lsum v (h + 1) r + (lv v h y - lv v h a)
    grind
  | a :: r, h, i + 1, x, e => by
    have ih := lsum_set (v := v) (y := y) (xs := r) (h := h + 1) (i := i) (x := x) (by simpa using e)
    show lv v h a + lsum v (h + 1) (r.set i y) = lv v h a + lsum v (h + 1) r + (lv v (h + (i + 1)) y - lv v (h + (i + 1)) x)
    rw [ih, show h + 1 + i = h + (i + 1) by omega]
    grind
/-- the bill of all plays that come to t, if v tells the prices -/
def bv (v : NestedKey → Rat) (load : List Nat) (t : Tri) : Rat := wsum v 0 load + lsum v 0 t.2.1 - wsum v 0 t.1
theorem wsum_zero {v : NestedKey → Rat} : ∀ {xs : List Nat} {h : Nat}, xs.sum = 0 → wsum v h xs = 0
  | [], _, _ => rfl
  | a :: r, h, e => by
    rw [List.sum_cons] at e
    have ha : a = 0 := by omega
    subst ha
    show ((0 : Nat) : Rat) * wv v h + wsum v (h + 1) r = 0
    rw [wsum_zero (xs := r) (by omega)]
    grind
theorem bv_over {v : NestedKey → Rat} {load : List Nat} {t : Tri} (h : t.1.sum = 0) : bv v load t = wsum v 0 load + lsum v 0 t.2.1 := by
  unfold bv
  rw [wsum_zero h]
  grind
theorem lsum_first {v : NestedKey → Rat} : ∀ (n h : Nat), lsum v h (List.replicate n 0) = 0
  | 0, _ => rfl
  | n + 1, h => by
    rw [List.replicate_succ]
    show lv v h 0 + lsum v (h + 1) (List.replicate n 0) = 0
    rw [lsum_first n (h + 1)]
    have : lv v h 0 = 0 := if_pos rfl
    grind
theorem bv_first {v : NestedKey → Rat} {c : Int} {dl : Dl} {load : List Nat} : bv v load (firstT c dl load) = 0 := by
  unfold bv firstT
  simp only [lsum_first]
  grind
/-- worth behind a door -/
def wd (v : NestedKey → Rat) (d : Int) : Rat := if 0 ≤ d then wv v d.toNat else 0
theorem sumT_trms {v : NestedKey → Rat} {x : Nat × Nat × Nat} {p : Pr} (h2 : 0 ≤ p.2) : sumT (trms x p) v = wv v x.1 - wd v p.1 + lv v x.1 p.2.toNat - lv v x.1 x.2.1 := by
  unfold sumT trms wd lv wv
  obtain ⟨a, s, n⟩ := x
  obtain ⟨d, e⟩ := p
  simp only at h2 ⊢
  have e1 : (e.toNat = 0) ↔ ¬ (0 < e) := by omega
  have e2 : (s = 0) ↔ ¬ ((0 : Int) < s) := by omega
  by_cases hd : 0 ≤ d <;> by_cases he : 0 < e <;> by_cases hs : (0 : Int) < s <;>
    simp only [hd, he, hs, e1, e2, if_true, if_false, not_true, not_false_eq_true, List.cons_append, List.nil_append, List.map_cons, List.map_nil, List.sum_cons, List.sum_nil] <;>
    (try rw [show ((d.toNat : Nat) : Int) = d by omega]) <;> (try rw [show ((e.toNat : Nat) : Int) = e by omega]) <;> grind
theorem behind_ok {c : Int} {dl : Dl} {t : Tri} {h n : Nat} {p : Pr} (w : WOk c dl) (ok : TriOk c dl t) (m : Mv dl t h n p) : TriOk c dl (behindP t h p) := by
  obtain ⟨h0, e, he, ha⟩ := m
  obtain ⟨d, st, e1, e2, e3⟩ := at3_some ha
  have hnx := w.nx d (List.mem_of_getElem? e1) st (List.mem_of_getElem? e2) _ (List.mem_of_getElem? e3)
  have key : ∀ (i x : Nat) (d' : List (List Pr)), (t.2.1.set h p.2.toNat)[i]? = some x → dl[i]? = some d' → x < d'.length := fun i x d' hx hd => by
    by_cases hi : h = i
    · subst hi
      rw [List.getElem?_set_self (List.getElem?_eq_some_iff.mp he).1] at hx
      cases hx
      rw [e1] at hd; cases hd
      omega
    · rw [List.getElem?_set_ne hi] at hx
      exact ok.at_ i x d' hx hd
  have a1 := ok.l1
  have a2 := ok.l2
  have a3 := ok.l3
  unfold behindP
  split
  · exact ⟨by simpa using a1, by simpa using a2, by simpa using a3, key⟩
  · exact ⟨by simpa using a1, by simpa using a2, a3, key⟩
theorem first_ok {c : Int} {dl : Dl} {load : List Nat} (w : WOk c dl) (hl : load.length = dl.length) : TriOk c dl (firstT c dl load) where
  l1 := hl
  l2 := by simp [firstT]
  l3 := by simp [firstT]; have := w.c1; omega
  at_ := fun h e d he hd => by
    have := List.mem_of_getElem? he
    simp only [firstT, List.mem_replicate] at this
    have := w.d1 d (List.mem_of_getElem? hd)
    omega
theorem Rch.ok {c : Int} {dl : Dl} {load : List Nat} {t : Tri} (w : WOk c dl) (hl : load.length = dl.length) (r : Rch c dl load t) : TriOk c dl t := by
  induction r with
  | first => exact first_ok w hl
  | step _ m ih => exact behind_ok w ih m
theorem getD_some {xs : List Nat} {i : Nat} (h : i < xs.length) : xs[i]? = some (xs[i]?.getD 0) := by
  rw [List.getElem?_eq_getElem h]; rfl
theorem bv_behind {c : Int} {dl : Dl} {ps : Prs} {v : NestedKey → Rat} {load : List Nat} {t : Tri} {h n e : Nat} {p : Pr} (w : WOk c dl) (tl : Tells dl ps v) (ok : TriOk c dl t) (h0 : 0 < t.1[h]?.getD 0) (he : t.2.1[h]? = some e) (ha : at3 dl h e n = some p) :
    bv v load (behindP t h p) = bv v load t + price ps (h, e, n) := by
  obtain ⟨d, st, e1, e2, e3⟩ := at3_some ha
  have hnx := w.nx d (List.mem_of_getElem? e1) st (List.mem_of_getElem? e2) _ (List.mem_of_getElem? e3)
  have hdr := w.dr d (List.mem_of_getElem? e1) st (List.mem_of_getElem? e2) _ (List.mem_of_getElem? e3)
  have hh : h < t.1.length := by rw [ok.l1]; exact (List.getElem?_eq_some_iff.mp e1).1
  have tp := tl (h, e, n) p ha
  rw [sumT_trms hnx.1] at tp
  simp only at tp
  rw [← tp]
  obtain ⟨wt, en, cu⟩ := t
  simp only at h0 he hh
  have w1 : wsum v 0 (wt.set h (wt[h]?.getD 0 - 1)) = wsum v 0 wt - wv v h := by
    rw [wsum_set (getD_some hh), Nat.zero_add]
    have : ((wt[h]?.getD 0 - 1 : Nat) : Rat) = (wt[h]?.getD 0 : Rat) - 1 := by
      have : wt[h]?.getD 0 = (wt[h]?.getD 0 - 1) + 1 := by omega
      have : ((wt[h]?.getD 0 : Nat) : Rat) = ((wt[h]?.getD 0 - 1 : Nat) : Rat) + 1 := by
        conv => lhs; rw [this]
        rw [Rat.natCast_add]; rfl
      grind
    rw [this]; grind
  have l1 : lsum v 0 (en.set h p.2.toNat) = lsum v 0 en + (lv v h p.2.toNat - lv v h e) := by
    rw [lsum_set he, Nat.zero_add]
  unfold behindP bv wd
  by_cases hd : p.1 < 0
  · simp only [hd, if_true]
    rw [w1, l1, if_neg (by omega)]
    grind
  · simp only [hd, if_false]
    rw [l1, if_pos (by omega)]
    have hk : p.1.toNat < (wt.set h (wt[h]?.getD 0 - 1)).length := by
      rw [List.length_set]
      have := ok.l1
      simp only at this
      omega
    rw [wsum_set (getD_some hk), Nat.zero_add, w1]
    have : (((wt.set h (wt[h]?.getD 0 - 1))[p.1.toNat]?.getD 0 + 1 : Nat) : Rat) = ((wt.set h (wt[h]?.getD 0 - 1))[p.1.toNat]?.getD 0 : Rat) + 1 := by rw [Rat.natCast_add]; rfl
    rw [this]
    grind
theorem Rch.same {c : Int} {dl : Dl} {ps : Prs} {v V : NestedKey → Rat} {load : List Nat} {t : Tri} (w : WOk c dl) (hl : load.length = dl.length) (h1 : Tells dl ps v) (h2 : Tells dl ps V) (r : Rch c dl load t) : bv V load t = bv v load t := by
  induction r with
  | first => rw [bv_first, bv_first]
  | step r m ih =>
    obtain ⟨h0, e, he, ha⟩ := m
    rw [bv_behind w h1 (r.ok w hl) h0 he ha, bv_behind w h2 (r.ok w hl) h0 he ha, ih]
/-! sizes -/
theorem sum_set {y : Nat} : ∀ {xs : List Nat} {i x : Nat}, xs[i]? = some x → (xs.set i y).sum + x = xs.sum + y
  | [], _, _, e => by simp at e
  | a :: r, 0, x, e => by simp at e; subst e; simp; omega
  | a :: r, i + 1, x, e => by
    have := sum_set (y := y) (xs := r) (i := i) (x := x) (by simpa using e)
    simp only [List.set_cons_succ, List.sum_cons]
    omega
theorem behind_sum {c : Int} {dl : Dl} {t : Tri} {h n : Nat} {p : Pr} (w : WOk c dl) (ok : TriOk c dl t) (m : Mv dl t h n p) : (behindP t h p).1.sum ≤ t.1.sum := by
  obtain ⟨h0, e, he, ha⟩ := m
  obtain ⟨d, st, e1, e2, e3⟩ := at3_some ha
  have hdr := w.dr d (List.mem_of_getElem? e1) st (List.mem_of_getElem? e2) _ (List.mem_of_getElem? e3)
  have hh : h < t.1.length := by rw [ok.l1]; exact (List.getElem?_eq_some_iff.mp e1).1
  have s1 := sum_set (y := t.1[h]?.getD 0 - 1) (getD_some hh)
  unfold behindP
  by_cases hd : p.1 < 0
  · simp only [hd, if_true]; omega
  · simp only [hd, if_false]
    have hk : p.1.toNat < (t.1.set h (t.1[h]?.getD 0 - 1)).length := by rw [List.length_set, ok.l1]; omega
    have s2 := sum_set (y := (t.1.set h (t.1[h]?.getD 0 - 1))[p.1.toNat]?.getD 0 + 1) (getD_some hk)
    omega
theorem Rch.sum {c : Int} {dl : Dl} {load : List Nat} {t : Tri} (w : WOk c dl) (hl : load.length = dl.length) (r : Rch c dl load t) : t.1.sum ≤ load.sum := by
  induction r with
  | first => exact Nat.le_refl _
  | step r m ih => exact Nat.le_trans (behind_sum w (r.ok w hl) m) ih
theorem isz_nat {K : Int} {L x : Nat} {q : Rat} (h : Isz K L q) : Isz K (x * L) ((x : Rat) * q) := by
  obtain ⟨z, a, b⟩ := h
  refine ⟨(x : Int) * z, ?_, ?_⟩
  · rw [Rat.intCast_mul, ← a]
    have : ((x : Int) : Rat) = (x : Rat) := rfl
    rw [this]
    grind
  · rw [Int.natAbs_mul, Int.natAbs_natCast]
    exact Nat.mul_le_mul_left x b
theorem wsum_isz {K : Int} {L : Nat} {v : NestedKey → Rat} (hv : ∀ k, Isz K L (v k)) : ∀ (xs : List Nat) (h : Nat), Isz K (xs.sum * L) (wsum v h xs)
  | [], _ => Isz.zero
  | x :: r, h => by
    rw [List.sum_cons, Nat.add_mul]
    exact (isz_nat (x := x) (hv _)).add (wsum_isz hv r (h + 1))
theorem lsum_isz {K : Int} {L : Nat} {v : NestedKey → Rat} (hv : ∀ k, Isz K L (v k)) : ∀ (xs : List Nat) (h : Nat), Isz K (xs.length * L) (lsum v h xs)
  | [], _ => Isz.zero
  | x :: r, h => by
    rw [List.length_cons, Nat.add_mul, Nat.one_mul, Nat.add_comm]
    have a : Isz K L (lv v h x) := by
      unfold lv
      split
      · exact Isz.zero.mono (Nat.zero_le _)
      · exact hv _
    exact a.add (lsum_isz hv r (h + 1))
theorem Rch.isz {c : Int} {dl : Dl} {load : List Nat} {t : Tri} {K : Int} {L : Nat} {v : NestedKey → Rat} (w : WOk c dl) (hl : load.length = dl.length) (hs : load.sum ≤ 9) (hv : ∀ k, Isz K L (v k)) (r : Rch c dl load t) : Isz K (21 * L) (bv v load t) := by
  have h1 := wsum_isz hv load 0
  have h2 := lsum_isz hv t.2.1 0
  have h3 := wsum_isz hv t.1 0
  refine ((h1.add h2).sub h3).mono ?_
  have a1 := (r.ok w hl).l2
  have a2 := w.h2
  have a3 := r.sum w hl
  rw [← Nat.add_mul, ← Nat.add_mul]
  exact Nat.mul_le_mul_right L (by omega)
/-! a play comes to an end -/
def rsum (rank : Nat → Nat) : Nat → List Nat → Nat
  | _, [] => 0
  | h, x :: r => x * (rank h + 1) + rsum rank (h + 1) r
theorem rsum_set {rank : Nat → Nat} {y : Nat} : ∀ {xs : List Nat} {h i x : Nat}, xs[i]? = some x → rsum rank h (xs.set i y) + x * (rank (h + i) + 1) = rsum rank h xs + y * (rank (h + i) + 1)
  | [], _, _, _, e => by simp at e
  | a :: r, h, 0, x, e => by
    simp at e; subst e
    show y * (rank h + 1) + rsum rank (h + 1) r + a * (rank h + 1) = a * (rank h + 1) + rsum rank (h + 1) r + y * (rank h + 1)
    omega
  | a :: r, h, i + 1, x, e => by
    have ih := rsum_set (rank := rank) (y := y) (xs := r) (h := h + 1) (i := i) (x := x) (by simpa using e)
    rw [show h + 1 + i = h + (i + 1) by omega] at ih
    show a * (rank h + 1) + rsum rank (h + 1) (r.set i y) + x * (rank (h + (i + 1)) + 1) = a * (rank h + 1) + rsum rank (h + 1) r + y * (rank (h + (i + 1)) + 1)
    omega
theorem pos_at : ∀ {xs : List Nat}, 0 < xs.sum → ∃ i, i < xs.length ∧ 0 < xs[i]?.getD 0
  | [], h => by simp at h
  | a :: r, h => by
    by_cases ha : 0 < a
    · exact ⟨0, by simp, by simpa using ha⟩
    · rw [List.sum_cons] at h
      obtain ⟨i, h1, h2⟩ := pos_at (xs := r) (by omega)
      exact ⟨i + 1, by simpa using h1, by simpa using h2⟩
theorem over_ex {c : Int} {dl : Dl} {load : List Nat} {L : List Tri} (w : WOk c dl) (hl : load.length = dl.length) (f : Full c dl load L) : ∃ t ∈ L, t.1.sum = 0 := by
  obtain ⟨rank, hr⟩ := w.rk
  have go : ∀ (m : Nat) (t : Tri), t ∈ L → rsum rank 0 t.1 ≤ m → ∃ t ∈ L, t.1.sum = 0 := by
    intro m
    induction m with
    | zero =>
      intro t ht hm
      refine ⟨t, ht, ?_⟩
      have : ∀ (xs : List Nat) (h : Nat), rsum rank h xs ≤ 0 → xs.sum = 0 := by
        intro xs
        induction xs with
        | nil => intro _ _; rfl
        | cons a r ih =>
          intro h e
          have e : a * (rank h + 1) + rsum rank (h + 1) r ≤ 0 := e
          have := ih (h + 1) (by omega)
          have ha : a * (rank h + 1) = 0 := by omega
          rcases Nat.mul_eq_zero.mp ha with ha | ha
          · rw [List.sum_cons, this, ha]
          · omega
      exact this t.1 0 hm
    | succ m ih =>
      intro t ht hm
      by_cases h0 : t.1.sum = 0
      · exact ⟨t, ht, h0⟩
      · obtain ⟨h, hh, hp⟩ := pos_at (xs := t.1) (by omega)
        have ok := (f.rch t ht).ok w hl
        have hd : h < dl.length := by rw [← ok.l1]; exact hh
        have ed : dl[h]? = some dl[h] := List.getElem?_eq_getElem hd
        have he : h < t.2.1.length := by rw [ok.l2]; exact hd
        have ee : t.2.1[h]? = some t.2.1[h] := List.getElem?_eq_getElem he
        have hs := ok.at_ h _ _ ee ed
        have es : dl[h][t.2.1[h]]? = some dl[h][t.2.1[h]] := List.getElem?_eq_getElem hs
        obtain ⟨p, hpm, _, hlt⟩ := hr h _ _ _ ed es
        obtain ⟨n, hn, en⟩ := List.getElem_of_mem hpm
        have ha : at3 dl h t.2.1[h] n = some p := by
          unfold at3
          simp only [ed, es, Option.bind_eq_bind, Option.bind_some]
          rw [List.getElem?_eq_getElem hn, en]
        have m : Mv dl t h n p := ⟨hp, _, ee, ha⟩
        refine ih _ (f.cl t ht h n p m) ?_
        have hdr := w.dr _ (List.mem_of_getElem? ed) _ (List.mem_of_getElem? es) _ hpm
        have s1 := rsum_set (rank := rank) (h := 0) (y := t.1[h]?.getD 0 - 1) (getD_some hh)
        rw [Nat.zero_add] at s1
        have e1 : t.1[h]?.getD 0 * (rank h + 1) = (t.1[h]?.getD 0 - 1) * (rank h + 1) + (rank h + 1) := by
          rw [← Nat.succ_mul]; congr 1; omega
        unfold behindP
        by_cases hneg : p.1 < 0
        · simp only [hneg, if_true]; omega
        · simp only [hneg, if_false]
          have hk : p.1.toNat < (t.1.set h (t.1[h]?.getD 0 - 1)).length := by rw [List.length_set, ok.l1]; omega
          have s2 := rsum_set (rank := rank) (h := 0) (y := (t.1.set h (t.1[h]?.getD 0 - 1))[p.1.toNat]?.getD 0 + 1) (getD_some hk)
          rw [Nat.zero_add, Nat.succ_mul] at s2
          have := hlt.resolve_left hneg
          omega
  exact go _ _ f.first (Nat.le_refl _)
theorem moves_mem {c : Int} {dl : Dl} {t : Tri} (ok : TriOk c dl t) : ∀ {dl' : Dl} {h0 : Nat}, (∀ i d, dl'[i]? = some d → dl[h0 + i]? = some d) → ∀ {h n : Nat}, (h, n) ∈ movesFrom t h0 dl' ↔ (h0 ≤ h ∧ h < h0 + dl'.length ∧ ∃ p, Mv dl t h n p)
  | [], h0, _, h, n => by
    constructor
    · intro x; cases x
    · rintro ⟨a, b, _⟩; simp at b; omega
  | d :: r, h0, hd, h, n => by
    have e0 : dl[h0]? = some d := hd 0 d rfl
    have hlt : h0 < t.2.1.length := by rw [ok.l2]; exact (List.getElem?_eq_some_iff.mp e0).1
    have ee : t.2.1[h0]? = some (t.2.1[h0]?.getD 0) := getD_some hlt
    have es := ok.at_ h0 _ _ ee e0
    have ed : d[t.2.1[h0]?.getD 0]? = some d[t.2.1[h0]?.getD 0] := List.getElem?_eq_getElem es
    have ih := moves_mem ok (dl' := r) (h0 := h0 + 1) (fun i d' e => by rw [show h0 + 1 + i = h0 + (i + 1) by omega]; exact hd (i + 1) d' (by simpa using e)) (h := h) (n := n)
    have key : (h, n) ∈ (if 0 < t.1[h0]?.getD 0 then (List.range ((d[t.2.1[h0]?.getD 0]?).getD []).length).map fun n => (h0, n) else []) ↔ h = h0 ∧ ∃ p, Mv dl t h n p := by
      constructor
      · intro x
        split at x
        · rename_i hp
          obtain ⟨m, hm, e⟩ := List.mem_map.mp x
          cases e
          rw [List.mem_range, ed] at hm
          refine ⟨rfl, d[t.2.1[h0]?.getD 0][n]'hm, hp, _, ee, ?_⟩
          unfold at3
          simp only [e0, ed, Option.bind_eq_bind, Option.bind_some]
          exact List.getElem?_eq_getElem hm
        · cases x
      · rintro ⟨rfl, p, hp, e, he, ha⟩
        rw [if_pos hp]
        obtain ⟨d', st, a1, a2, a3⟩ := at3_some ha
        rw [e0] at a1; cases a1
        rw [ee] at he; cases he
        refine List.mem_map.mpr ⟨n, ?_, rfl⟩
        rw [List.mem_range, a2]
        exact (List.getElem?_eq_some_iff.mp a3).1
    show (h, n) ∈ _ ++ movesFrom t (h0 + 1) r ↔ _
    rw [List.mem_append, key, ih, List.length_cons]
    constructor
    · rintro (⟨rfl, hp⟩ | ⟨a, b, hp⟩)
      · exact ⟨Nat.le_refl _, by omega, hp⟩
      · exact ⟨by omega, by omega, hp⟩
    · rintro ⟨a, b, hp⟩
      by_cases e : h = h0
      · exact .inl ⟨e, hp⟩
      · exact .inr ⟨by omega, by omega, hp⟩
theorem moves_iff {c : Int} {dl : Dl} {t : Tri} (ok : TriOk c dl t) {h n : Nat} : (h, n) ∈ movesFrom t 0 dl ↔ ∃ p, Mv dl t h n p := by
  rw [moves_mem ok (dl' := dl) (h0 := 0) fun i d e => by rw [Nat.zero_add]; exact e]
  constructor
  · rintro ⟨_, _, h⟩; exact h
  · rintro ⟨p, h0, e, he, ha⟩
    obtain ⟨d, st, a1, _, _⟩ := at3_some ha
    exact ⟨Nat.zero_le _, by have := (List.getElem?_eq_some_iff.mp a1).1; omega, p, h0, e, he, ha⟩
theorem moves_len {c : Int} {dl : Dl} {t : Tri} (w : WOk c dl) : (movesFrom t 0 dl).length ≤ 9 := by
  have : ∀ (dl' : Dl) (h : Nat), (∀ d ∈ dl', ∀ st ∈ d, st.length ≤ 3) → (movesFrom t h dl').length ≤ 3 * dl'.length := by
    intro dl'
    induction dl' with
    | nil => intro _ _; exact Nat.le_refl _
    | cons d r ih =>
      intro h hs
      have a := ih (h + 1) fun x hx => hs x (List.mem_cons_of_mem _ hx)
      have b : (if 0 < t.1[h]?.getD 0 then (List.range ((d[t.2.1[h]?.getD 0]?).getD []).length).map fun n => (h, n) else []).length ≤ 3 := by
        split
        · rw [List.length_map, List.length_range]
          cases e : d[t.2.1[h]?.getD 0]? with
          | none => simp
          | some st => exact hs d List.mem_cons_self st (List.mem_of_getElem? e)
        · exact Nat.zero_le _
      show (_ ++ movesFrom t (h + 1) r).length ≤ _
      rw [List.length_append, List.length_cons]
      omega
  have a := this dl 0 w.s2
  have b := w.h2
  omega
end DL
set_option Elab.async false
set_option linter.all false
set_option maxRecDepth 100000
set_option exponentiation.threshold 20000
namespace DL
open PySem PySem.Spec PyProof.Rows L2
def pp_behind (CW CE : Addr) : PP := fun ds Q => ∃ (c : Int) (dl : Dl) (t : Tri) (h n e : Nat) (p : Pr), ds = [webD CW c dl, triD t, D.int h, D.int n] ∧ WOk c dl ∧ TriOk c dl t ∧ 0 < t.1[h]?.getD 0 ∧ t.2.1[h]? = some e ∧ at3 dl h e n = some p ∧ Q (triD (behindP t h p))
def pp_is_over (CW CE : Addr) : PP := fun ds Q => ∃ t : Tri, ds = [triD t] ∧ t.1.length ≤ 3 ∧ Q (D.bl (decide (t.1.sum = 0)))
def mvD (m : Nat × Nat) : D := .t [D.int m.1, D.int m.2]
def pp_moves_at (CW CE : Addr) : PP := fun ds Q => ∃ (c : Int) (dl : Dl) (t : Tri), ds = [webD CW c dl, triD t] ∧ WOk c dl ∧ TriOk c dl t ∧ Q (.l ((movesFrom t 0 dl).map mvD))
def td_behind_s5 (CW CE : Addr) : TDS := (tdRet (tdTup (tdCons (tdCB rdTuple (tdCons (tdVar 4) tdNil)) (tdCons (tdCB rdTuple (tdCons (tdVar 5) tdNil)) (tdCons (tdCB rdTuple (tdCons (tdVar 6) tdNil)) tdNil)))))
def td_behind_s4 (CW CE : Addr) : TDS := (tdSeq (tdIfS (tdB (tdOp rdLt (tdVar 7) (tdC (D.int 0)))) (tdLAug 6 (tdOp rdSub (tdC (D.int (-1))) (tdVar 7)) (tdC (D.int 1)) (fun x y => x + y)) (tdLAug 4 (tdVar 7) (tdC (D.int 1)) (fun x y => x + y))) (td_behind_s5 CW CE))
def td_behind_s3 (CW CE : Addr) : TDS := (tdSeq (tdLSet 5 (tdVar 8) (tdVar 2)) (td_behind_s4 CW CE))
def td_behind_s2 (CW CE : Addr) : TDS := (tdSeq (tdLAug 4 (tdVar 2) (tdC (D.int 1)) (fun x y => x - y)) (td_behind_s3 CW CE))
def td_behind_s1 (CW CE : Addr) : TDS := (tdSeq (tdAsg (tdOp rdIxA (tdOp rdIxA (tdOp rdIxA (tdFld CW "dealers" (tdVar 0)) (tdVar 2)) (tdOp rdIxA (tdVar 5) (tdVar 2))) (tdVar 3)) (tgTup 2 (tgCons (tgName 7) (tgCons (tgName 8) tgNil)))) (td_behind_s2 CW CE))
def td_behind (CW CE : Addr) : TDS := (tdSeq (tdCopy3 4 5 6 [9] (tdiT (tdVar 1)) (tgName 9) (tdCB rdList (tdCons (tdVar 9) tdNil))) (td_behind_s1 CW CE))
def td_is_over (CW CE : Addr) : TDS := (tdRet (tdOp (rdEq id) (tdCB rdSumA (tdCons (tdOp rdIxA (tdVar 0) (tdC (D.int 0))) tdNil)) (tdC (D.int 0))))
def td_moves_at_b1 (CW CE : Addr) : TDS := (tdIfS (tdB (tdOp rdGt (tdOp rdIxA (tdVar 3) (tdVar 6)) (tdC (D.int 0)))) (tdExtend 2 (tdLc (tdiRng1 (tdCons (tdCB rdLen (tdCons (tdOp rdIxA (tdVar 7) (tdOp rdIxA (tdVar 4) (tdVar 6))) tdNil)) tdNil)) (tgName 8) tdYes (tdTup (tdCons (tdVar 6) (tdCons (tdVar 8) tdNil))) [8])) tdNext)
def td_moves_at_s3 (CW CE : Addr) : TDS := (tdRet (tdVar 2))
def td_moves_at_s2 (CW CE : Addr) : TDS := (tdSeq (tdFor (tdiEnum (tdCons (tdFld CW "dealers" (tdVar 0)) tdNil)) (tgTup 2 (tgCons (tgName 6) (tgCons (tgName 7) tgNil))) (td_moves_at_b1 CW CE)) (td_moves_at_s3 CW CE))
def td_moves_at_s1 (CW CE : Addr) : TDS := (tdSeq (tdSet 2 (tdLst tdNil)) (td_moves_at_s2 CW CE))
def td_moves_at (CW CE : Addr) : TDS := (tdSeq (tdAsg (tdVar 1) (tgTup 3 (tgCons (tgName 3) (tgCons (tgName 4) (tgCons (tgName 5) tgNil))))) (td_moves_at_s1 CW CE))
theorem len_is_over {CW CE : Addr} : ∀ (ds : List D) (Qd : D → Prop), pp_is_over CW CE ds Qd → ds.length = 1 := fun ds Qd ⟨_, e, _⟩ => by rw [e]; rfl
theorem len_behind {CW CE : Addr} : ∀ (ds : List D) (Qd : D → Prop), pp_behind CW CE ds Qd → ds.length = 4 := fun ds Qd ⟨_, _, _, _, _, _, _, e, _⟩ => by rw [e]; rfl
def natI (n : Nat) : D := D.int (n : Int)
theorem natsD_eq (xs : List Nat) : natsD xs = .t (xs.map natI) := rfl
theorem natsD_get {xs : List Nat} {i x : Nat} (h : xs[i]? = some x) : atI (xs.map natI) (i : Int) = some (natI x) := getMap h
theorem nat_at {xs : List Nat} {i : Nat} (h : i < xs.length) : (xs.map natI)[i]? = some (.a (.int ((xs[i]?.getD 0 : Nat) : Int))) := by
  rw [List.getElem?_map, List.getElem?_eq_getElem h]; rfl
theorem ixN_nat {n i : Nat} (h : i < n) : ixN n (i : Int) = some i := by
  rw [ixN_nn (by omega) (by omega)]
  congr 1
theorem nat_ix {xs : List Nat} {i : Nat} (h : i < xs.length) : ixN (xs.map natI).length (i : Int) = some i := ixN_nat (by rw [List.length_map]; exact h)
theorem nat_set {xs : List Nat} {i y : Nat} {z : Int} (h : z = y) : (xs.map natI).set i (.a (.int z)) = (xs.set i y).map natI := by
  subst h
  rw [List.map_set]; rfl
theorem hp_behind {CW CE : Addr} : ∀ (ds : List D) (Qd : D → Prop), pp_behind CW CE ds Qd → td_behind CW CE { nx := fun _ => Qd (.a .non), rt := Qd } (env0 10 ds) := by
  rintro ds Qd ⟨c, dl, ⟨wt, en, cu⟩, h, n, e, ⟨door, later⟩, rfl, w, ok, h0, he, ha, q⟩
  obtain ⟨d, st, e1, e2, e3⟩ := at3_some ha
  have hh := (List.getElem?_eq_some_iff.mp e1).1
  have l1 := ok.l1
  have l2 := ok.l2
  have l3 := ok.l3
  simp only at l1 l2 l3 h0 he
  have hdr := w.dr d (List.mem_of_getElem? e1) st (List.mem_of_getElem? e2) _ (List.mem_of_getElem? e3)
  have hnx := w.nx d (List.mem_of_getElem? e1) st (List.mem_of_getElem? e2) _ (List.mem_of_getElem? e3)
  simp only at hdr hnx
  have z1 : (wt.map natI).set h (.a (.int (((wt[h]?.getD 0 : Nat) : Int) - 1))) = (wt.set h (wt[h]?.getD 0 - 1)).map natI := nat_set (by omega)
  have z2 : (en.map natI).set h (.a (.int later)) = (en.set h later.toNat).map natI := nat_set (by omega)
  refine ⟨unAt1 rfl, rfl, rfl, (show 0 < 100 by decide), rfl, (show 1 < 100 by decide), rfl, (show 2 < 100 by decide), .l (wt.map natI), .l (en.map natI), .l (cu.map natI), rfl, ?_⟩
  refine ⟨rfl, dlD dl, rfl, dealerD d, getMap e1, D.int e, natsD_get he, stD st, getMap e2, prD (door, later), getMap e3, rfl, rfl, rfl, ?_⟩
  refine ⟨h, ((wt[h]?.getD 0 : Nat) : Int), nat_ix (by omega), nat_at (by omega), ?_⟩
  unfold tdC
  dsimp only
  show td_behind_s3 CW CE _ [_, _, _, _, .ow (.l ((wt.map natI).set h (.a (.int (((wt[h]?.getD 0 : Nat) : Int) - 1))))), _, _, _, _, _]
  rw [z1]
  refine ⟨rfl, h, nat_ix (by omega), ?_⟩
  dsimp only
  show td_behind_s4 CW CE _ [_, _, _, _, _, .ow (.l ((en.map natI).set h (.a (.int later)))), _, _, _, _]
  rw [z2]
  refine ifI (p := door < 0) (fun hd => ?_) (fun hd => ?_)
  · have ed : ((-1 : Int) - door) = ((-1 - door).toNat : Nat) := by omega
    have hk : (-1 - door).toNat < cu.length := by omega
    have z3 : (cu.map natI).set (-1 - door).toNat (.a (.int (((cu[(-1 - door).toNat]?.getD 0 : Nat) : Int) + 1))) = (cu.set (-1 - door).toNat (cu[(-1 - door).toNat]?.getD 0 + 1)).map natI := nat_set (by omega)
    refine ⟨(-1 - door).toNat, ((cu[(-1 - door).toNat]?.getD 0 : Nat) : Int), ?_, nat_at hk, ?_⟩
    · show ixN (cu.map natI).length (-1 - door) = _
      rw [ed]; exact nat_ix hk
    unfold tdC
    dsimp only
    show td_behind_s5 CW CE _ [_, _, _, _, _, _, .ow (.l ((cu.map natI).set (-1 - door).toNat (.a (.int (((cu[(-1 - door).toNat]?.getD 0 : Nat) : Int) + 1))))), _, _, _]
    rw [z3]
    refine ⟨rfl, sz (show 3 ≤ 16777216 by decide), ?_⟩
    unfold behindP at q
    simp only [hd, if_true] at q
    exact q
  · have ed : door = ((door.toNat : Nat) : Int) := by omega
    have hk : door.toNat < (wt.set h (wt[h]?.getD 0 - 1)).length := by rw [List.length_set]; omega
    have z3 : ((wt.set h (wt[h]?.getD 0 - 1)).map natI).set door.toNat (.a (.int ((((wt.set h (wt[h]?.getD 0 - 1))[door.toNat]?.getD 0 : Nat) : Int) + 1))) = ((wt.set h (wt[h]?.getD 0 - 1)).set door.toNat ((wt.set h (wt[h]?.getD 0 - 1))[door.toNat]?.getD 0 + 1)).map natI := by
      exact nat_set (by omega)
    refine ⟨door.toNat, (((wt.set h (wt[h]?.getD 0 - 1))[door.toNat]?.getD 0 : Nat) : Int), ?_, ?_, ?_⟩
    · show ixN ((wt.set h (wt[h]?.getD 0 - 1)).map natI).length door = _
      rw [ed]; exact nat_ix hk
    · exact nat_at hk
    unfold tdC
    dsimp only
    show td_behind_s5 CW CE _ [_, _, _, _, .ow (.l (((wt.set h (wt[h]?.getD 0 - 1)).map natI).set door.toNat (.a (.int ((((wt.set h (wt[h]?.getD 0 - 1))[door.toNat]?.getD 0 : Nat) : Int) + 1))))), _, _, _, _, _]
    rw [z3]
    refine ⟨rfl, sz (show 3 ≤ 16777216 by decide), ?_⟩
    unfold behindP at q
    simp only [hd, if_false] at q
    exact q
theorem cast_sum : ∀ xs : List Nat, (xs.map fun (n : Nat) => (n : Int)).sum = ((xs.sum : Nat) : Int)
  | [] => rfl
  | x :: xs => by rw [List.map_cons, List.sum_cons, List.sum_cons, cast_sum xs]; omega
theorem ints_nat (xs : List Nat) : intsOf (xs.map natI) = some (xs.map fun (n : Nat) => (n : Int)) := by
  have := intsOf_map (xs.map fun (n : Nat) => (n : Int))
  rw [List.map_map] at this
  exact this
theorem sum_nought (xs : List Nat) : decide (V.int (xs.map fun (n : Nat) => (n : Int)).sum = V.int 0) = decide (xs.sum = 0) := by
  rw [vint, cast_sum, decide_eq_decide]
  omega
theorem hp_is_over {CW CE : Addr} : ∀ (ds : List D) (Qd : D → Prop), pp_is_over CW CE ds Qd → td_is_over CW CE { nx := fun _ => Qd (.a .non), rt := Qd } (env0 1 ds) := by
  rintro ds Qd ⟨t, rfl, h3, q⟩
  refine ⟨natsD t.1, rfl, _, ints_nat t.1, rfl, ?_⟩
  show Qd (D.bl (decide (V.int (t.1.map fun (n : Nat) => (n : Int)).sum = V.int 0)))
  rw [sum_nought]
  exact q
theorem len_moves_at {CW CE : Addr} : ∀ (ds : List D) (Qd : D → Prop), pp_moves_at CW CE ds Qd → ds.length = 2 := fun ds Qd ⟨_, _, _, e, _⟩ => by rw [e]; rfl
theorem mv_loop {CW CE : Addr} {Dd : DEnds} {v0 v1 v5 : Slot} {c : Int} {dl : Dl} {t : Tri} (w : WOk c dl) (ok : TriOk c dl t) : ∀ (r : Dl) (h : Nat) (acc : List (Nat × Nat)) (x6 x7 : Slot), (∀ i d, r[i]? = some d → dl[h + i]? = some d) → acc.length + 3 * r.length ≤ 1000 →
    (∀ y6 y7, Dd.nx [v0, v1, .ow (.l ((acc ++ movesFrom t h r).map mvD)), .sh (natsD t.1), .sh (natsD t.2.1), v5, y6, y7, .un]) →
    tdForL (tgTup 2 (tgCons (tgName 6) (tgCons (tgName 7) tgNil))) (td_moves_at_b1 CW CE) (numbered h (r.map dealerD)) Dd [v0, v1, .ow (.l (acc.map mvD)), .sh (natsD t.1), .sh (natsD t.2.1), v5, x6, x7, .un]
  | [], h, acc, x6, x7, _, _, q => by
    have := q x6 x7
    rw [show acc ++ movesFrom t h [] = acc from List.append_nil _] at this
    exact this
  | d :: r, h, acc, x6, x7, hd, hl, q => by
    rw [List.length_cons] at hl
    have e0 : dl[h]? = some d := hd 0 d rfl
    have hw : h < t.1.length := by rw [ok.l1]; exact (List.getElem?_eq_some_iff.mp e0).1
    have hlt : h < t.2.1.length := by rw [ok.l2]; exact (List.getElem?_eq_some_iff.mp e0).1
    have ee : t.2.1[h]? = some (t.2.1[h]?.getD 0) := getD_some hlt
    have es := ok.at_ h _ _ ee e0
    have ed : d[t.2.1[h]?.getD 0]? = some d[t.2.1[h]?.getD 0] := List.getElem?_eq_getElem es
    have s3 := w.s2 d (List.mem_of_getElem? e0) _ (List.mem_of_getElem? ed)
    have e1 : ((h : Int) + 1) = ((h + 1 : Nat) : Int) := by omega
    have hr : ∀ i d', r[i]? = some d' → dl[h + 1 + i]? = some d' := fun i d' e => by rw [show h + 1 + i = h + (i + 1) by omega]; exact hd (i + 1) d' (by simpa using e)
    refine ⟨rfl, rfl, D.int (t.1[h]?.getD 0 : Nat), natsD_get (getD_some hw), ?_⟩
    refine ifI (fun hp => ?_) (fun hp => ?_)
    · have hp' : 0 < t.1[h]?.getD 0 := by omega
      refine ⟨unAt1 rfl, D.int (t.2.1[h]?.getD 0 : Nat), natsD_get ee, stD d[t.2.1[h]?.getD 0], getMap ed, ?_⟩
      have el : ((d[t.2.1[h]?.getD 0].map prD).length : Int) = d[t.2.1[h]?.getD 0].length := by rw [List.length_map]
      show -(2 ^ 62) ≤ (((d[t.2.1[h]?.getD 0].map prD).length : Nat) : Int) ∧ _
      refine ⟨by omega, by rw [el]; omega, ?_⟩
      rw [el, show ((d[t.2.1[h]?.getD 0].length : Int)).toNat = d[t.2.1[h]?.getD 0].length by omega]
      have em : (ups 0 d[t.2.1[h]?.getD 0].length).map (fun x => D.t [D.int h, x]) = ((List.range d[t.2.1[h]?.getD 0].length).map fun n => (h, n)).map mvD := by
        apply List.ext_getElem?
        intro i
        rw [List.getElem?_map, List.getElem?_map, List.getElem?_map]
        by_cases hi : i < d[t.2.1[h]?.getD 0].length
        · rw [ups_get _ _ _ hi, List.getElem?_range hi]
          show some (D.t [D.int h, D.int (0 + i)]) = some (mvD (h, i))
          rw [Int.zero_add]; rfl
        · rw [List.getElem?_eq_none (by rw [ups_length]; omega), List.getElem?_eq_none (by rw [List.length_range]; omega)]; rfl
      refine lcL_map (fun x => D.t [D.int h, x]) .sh rfl _ _ _ (fun x hx C hc => ⟨rfl, sz (show 2 ≤ 16777216 by decide), hc⟩) (by rw [ups_length]; exact sz (by simp; omega)) ?_
      rw [List.nil_append, em]
      refine ⟨rfl, ?_, ?_⟩
      · rw [List.length_map, List.length_map, List.length_map, List.length_range]; exact sz (by omega)
      · rw [← List.map_append]
        show tdForL _ _ (numbered ((h : Int) + 1) (r.map dealerD)) Dd _
        rw [e1]
        refine mv_loop w ok r (h + 1) _ _ _ hr (by rw [List.length_append, List.length_map, List.length_range]; omega) fun y6 y7 => ?_
        have := q y6 y7
        rw [show movesFrom t h (d :: r) = (if 0 < t.1[h]?.getD 0 then (List.range ((d[t.2.1[h]?.getD 0]?).getD []).length).map fun n => (h, n) else []) ++ movesFrom t (h + 1) r from rfl, if_pos hp', ed, ← List.append_assoc] at this
        exact this
    · have hp' : ¬ 0 < t.1[h]?.getD 0 := by omega
      show tdForL _ _ (numbered ((h : Int) + 1) (r.map dealerD)) Dd _
      rw [e1]
      refine mv_loop w ok r (h + 1) _ _ _ hr (by omega) fun y6 y7 => ?_
      have := q y6 y7
      rw [show movesFrom t h (d :: r) = (if 0 < t.1[h]?.getD 0 then (List.range ((d[t.2.1[h]?.getD 0]?).getD []).length).map fun n => (h, n) else []) ++ movesFrom t (h + 1) r from rfl, if_neg hp', List.nil_append] at this
      exact this
theorem hp_moves_at {CW CE : Addr} : ∀ (ds : List D) (Qd : D → Prop), pp_moves_at CW CE ds Qd → td_moves_at CW CE { nx := fun _ => Qd (.a .non), rt := Qd } (env0 9 ds) := by
  rintro ds Qd ⟨c, dl, t, rfl, w, ok, q⟩
  refine ⟨rfl, rfl, rfl, ?_⟩
  refine ⟨rfl, sz (show 0 ≤ 16777216 by decide), rfl, rfl, dlD dl, rfl, rfl, ?_⟩
  have h2 := w.h2
  exact mv_loop (CW := CW) (CE := CE) w ok dl 0 [] .un .un (fun i d e => by rw [Nat.zero_add]; exact e) (by simp; omega) fun y6 y7 => q
end DL
set_option Elab.async false
set_option linter.all false
set_option maxRecDepth 100000
set_option exponentiation.threshold 20000
namespace DL
open PySem PySem.Spec PyProof.Rows L2
/-! all that can come up, as the program finds it -/
def natK (n : Nat) : NestedKey := .num n
def natsK (xs : List Nat) : NestedKey := .tup (xs.map natK)
def triK (t : Tri) : NestedKey := .tup [natsK t.1, natsK t.2.1, natsK t.2.2]
def endD (x : List Nat × List Nat) : D := .t [natsD x.1, natsD x.2]
def pp_all_triples (CW CE : Addr) : PP := fun ds Q => ∃ (c : Int) (dl : Dl) (load : List Nat) (L : List Tri), ds = [webD CW c dl, natsD load] ∧ WOk c dl ∧ load.length = dl.length ∧ Full c dl load L ∧ L.length ≤ 500 ∧
  ∀ (fs : List Tri) (kvs : List (NestedKey × D)), kvs.map (·.1) = fs.map triK → fs.Nodup → Full c dl load fs → fs.length ≤ 500 → Q (.d kvs)
def overB (t : Tri) : Bool := decide (t.1.sum = 0)
def pp_ends_in (CW CE : Addr) : PP := fun ds Q => ∃ (fs : List Tri) (kvs : List (NestedKey × D)), ds = [.d kvs] ∧ kvs.map (·.1) = fs.map triK ∧ fs.length ≤ 500 ∧ (∀ t ∈ fs, t.1.length ≤ 3) ∧
  ∀ es : List (List Nat × List Nat), es.Perm ((fs.filter overB).map (·.2)) → Q (.l (es.map endD))
def td_all_triples_b1 (CW CE : Addr) : TDS := (tdSeq (tdSet 8 (tdCall (pp_behind CW CE) (tdCons (tdVar 0) (tdCons (tdVar 6) (tdCons (tdOp rdIxA (tdVar 7) (tdC (D.int 0))) (tdCons (tdOp rdIxA (tdVar 7) (tdC (D.int 1))) tdNil)))))) (tdIfS (tdB (tdOp (rdIn not) (tdVar 8) (tdVar 3))) (tdSeq (tdIfS (tdB (tdOp (rdEq id) (tdCB rdLen (tdCons (tdVar 3) tdNil)) (tdC (D.int 20000)))) tdNever tdNext) (tdSeq (tdDSet 3 (tdTup (tdCons (tdVar 6) (tdCons (tdVar 7) tdNil))) (tdVar 8)) (tdAppend 4 (tdVar 8)))) tdNext))
def td_all_triples_b2 (CW CE : Addr) : TDS := (tdSeq (tdSet 6 (tdOp rdIxA (tdVar 4) (tdVar 5))) (tdSeq (tdAug 5 (tdC (D.int 1)) (fun x y => x + y)) (tdFor (tdiL (tdCall (pp_moves_at CW CE) (tdCons (tdVar 0) (tdCons (tdVar 6) tdNil)))) (tgName 7) (td_all_triples_b1 CW CE))))
def td_all_triples_s5 (CW CE : Addr) : TDS := (tdRet (tdVar 3))
def td_all_triples_s4 (CW CE : Addr) : TDS := (tdSeq (tdWhile (tdB (tdOp rdLt (tdVar 5) (tdCB rdLen (tdCons (tdVar 4) tdNil)))) (td_all_triples_b2 CW CE)) (td_all_triples_s5 CW CE))
def td_all_triples_s3 (CW CE : Addr) : TDS := (tdSeq (tdSet 5 (tdC (D.int 0))) (td_all_triples_s4 CW CE))
def td_all_triples_s2 (CW CE : Addr) : TDS := (tdSeq (tdSet 4 (tdLst (tdCons (tdVar 2) tdNil))) (td_all_triples_s3 CW CE))
def td_all_triples_s1 (CW CE : Addr) : TDS := (tdSeq (tdSet 3 (tdDisp1 (fun k => ∃ l, k = .tup l) (tdVar 2) (tdC D.non))) (td_all_triples_s2 CW CE))
def td_all_triples (CW CE : Addr) : TDS := (tdSeq (tdSet 2 (tdTup (tdCons (tdVar 1) (tdCons (tdOp rdRep (tdTup (tdCons (tdC (D.int 0)) tdNil)) (tdCB rdLen (tdCons (tdFld CW "dealers" (tdVar 0)) tdNil))) (tdCons (tdOp rdRep (tdTup (tdCons (tdC (D.int 0)) tdNil)) (tdFld CW "cups" (tdVar 0))) tdNil))))) (td_all_triples_s1 CW CE))
def td_ends_in (CW CE : Addr) : TDS := (tdRet (tdCB rdSortL (tdCons (tdLc (tdiKeys (tdVar 0)) (tgName 1) (tdB (tdCall (pp_is_over CW CE) (tdCons (tdVar 1) tdNil))) (tdFrom 1 (tdVar 1)) [1]) tdNil)))
theorem natsK_of (xs : List Nat) : ofKey (natsK xs) = natsD xs := by
  show D.t (ofKeys (xs.map natK)) = _
  rw [ofKeys_map, List.map_map]; rfl
theorem keys_nats : ∀ xs : List Nat, keysOf (xs.map natI) = some (xs.map natK)
  | [] => rfl
  | x :: xs => by
    show (match keyOf (natI x), keysOf (xs.map natI) with | some k, some ks => some (k :: ks) | _, _ => none) = _
    rw [keys_nats xs]; rfl
theorem natsK_to (xs : List Nat) : keyOf (natsD xs) = some (natsK xs) := by
  show (keysOf (xs.map natI)).map NestedKey.tup = _
  rw [keys_nats]; rfl
theorem triK_of (t : Tri) : ofKey (triK t) = triD t := by
  show D.t [ofKey (natsK t.1), ofKey (natsK t.2.1), ofKey (natsK t.2.2)] = _
  rw [natsK_of, natsK_of, natsK_of]; rfl
theorem triK_to (t : Tri) : keyOf (triD t) = some (triK t) := by
  show (match keyOf (natsD t.1), (match keyOf (natsD t.2.1), (match keyOf (natsD t.2.2), (some [] : Option (List NestedKey)) with | some k, some ks => some (k :: ks) | _, _ => none) with | some k, some ks => some (k :: ks) | _, _ => none) with | some k, some ks => some (k :: ks) | _, _ => none).map NestedKey.tup = _
  rw [natsK_to, natsK_to, natsK_to]; rfl
theorem natK_inj {a b : Nat} (h : natK a = natK b) : a = b := by
  unfold natK at h
  injection h with h
  omega
theorem natsK_inj {xs ys : List Nat} (h : natsK xs = natsK ys) : xs = ys := by
  unfold natsK at h
  injection h with h
  exact List.map_inj_right (fun _ _ => natK_inj) |>.mp h
theorem triK_inj {t u : Tri} (h : triK t = triK u) : t = u := by
  unfold triK at h
  injection h with h
  injection h with h1 h
  injection h with h2 h
  injection h with h3 h
  exact Prod.ext (natsK_inj h1) (Prod.ext (natsK_inj h2) (natsK_inj h3))
theorem nats_depth (xs : List Nat) : (natsK xs).depth ≤ 1 := by
  show NestedKey.depthAll (xs.map natK) + 1 ≤ 1
  induction xs with
  | nil => exact Nat.le_refl _
  | cons x xs ih => rw [List.map_cons]; simp only [NestedKey.depthAll, natK, NestedKey.depth]; omega
theorem triK_depth (t : Tri) : (triK t).depth ≤ 8 := by
  have a := nats_depth t.1
  have b := nats_depth t.2.1
  have c := nats_depth t.2.2
  unfold triK
  simp only [NestedKey.depth, NestedKey.depthAll]
  omega
theorem kk_tris {ks : List NestedKey} (h : ∀ k ∈ ks, ∃ t, k = triK t) : KKind ks := .inr fun k hk => by
  obtain ⟨t, rfl⟩ := h k hk
  exact ⟨⟨_, rfl⟩, triK_depth t⟩
theorem kk_tri {kvs : List (NestedKey × D)} {fs : List Tri} (e : kvs.map (·.1) = fs.map triK) (t : Tri) : KKind (triK t :: kvs.map (·.1)) := kk_tris fun k hk => by
  rw [e] at hk
  rcases List.mem_cons.mp hk with h | h
  · exact ⟨t, h⟩
  · obtain ⟨u, _, h⟩ := List.mem_map.mp h
    exact ⟨u, h.symm⟩
theorem aget_some {α : Type} {k : NestedKey} : ∀ {kvs : List (NestedKey × α)}, (aget kvs k).isSome = decide (k ∈ kvs.map (·.1))
  | [] => rfl
  | p :: r => by
    rw [aget_cons]
    by_cases e : p.1 = k
    · rw [if_pos e, List.map_cons, e]; simp
    · rw [if_neg e, aget_some (kvs := r), List.map_cons, decide_eq_decide]
      simp [Ne.symm e]
theorem tri_there {α : Type} {kvs : List (NestedKey × α)} {fs : List Tri} (e : kvs.map (·.1) = fs.map triK) (t : Tri) : (aget kvs (triK t)).isSome = decide (t ∈ fs) := by
  rw [aget_some, e, decide_eq_decide]
  constructor
  · intro h
    obtain ⟨u, hu, e⟩ := List.mem_map.mp h
    rw [← triK_inj e]; exact hu
  · exact List.mem_map_of_mem
theorem put_new {α : Type} {kvs : List (NestedKey × α)} {k : NestedKey} {v : α} (h : (aget kvs k).isSome = false) : aput kvs k v = kvs ++ [(k, v)] := by
  unfold aput
  rw [h, if_neg (by decide)]
structure TInv (L fs : List Tri) (kvs : List (NestedKey × D)) : Prop where
  ks : kvs.map (·.1) = fs.map triK
  nd : fs.Nodup
  sub : ∀ t ∈ fs, t ∈ L
theorem TInv.len {L fs : List Tri} {kvs : List (NestedKey × D)} (h : TInv L fs kvs) : kvs.length = fs.length := by
  have := congrArg List.length h.ks
  rwa [List.length_map, List.length_map] at this
theorem TInv.short {L fs : List Tri} {kvs : List (NestedKey × D)} (h : TInv L fs kvs) : fs.length ≤ L.length := nodup_len h.nd h.sub
theorem nodup_snoc {α : Type} {xs : List α} {x : α} (h : xs.Nodup) (n : x ∉ xs) : (xs ++ [x]).Nodup := by
  rw [List.nodup_append]
  exact ⟨h, List.nodup_cons.mpr ⟨by simp, List.nodup_nil⟩, fun a ha c hc e => n (by rw [List.mem_singleton.mp hc] at e; exact e ▸ ha)⟩
theorem TInv.add {L fs : List Tri} {kvs : List (NestedKey × D)} {t : Tri} {d : D} (h : TInv L fs kvs) (ht : t ∈ L) (n : t ∉ fs) : TInv L (fs ++ [t]) (aput kvs (triK t) d) where
  ks := by
    rw [put_new (by rw [tri_there h.ks, decide_eq_false n]), List.map_append, List.map_append, h.ks]; rfl
  nd := nodup_snoc h.nd n
  sub := fun u hu => (List.mem_append.mp hu).elim (h.sub u) fun e => by rw [List.mem_singleton.mp e]; exact ht
theorem at_inner {CW CE : Addr} {Dd : DEnds} {v1 v2 v5 : Slot} {c : Int} {dl : Dl} {load : List Nat} {L : List Tri} {t : Tri} (w : WOk c dl) (ok : TriOk c dl t) (f : Full c dl load L) (hL : L.length ≤ 500) (ht : t ∈ L) :
    ∀ (ms : List (Nat × Nat)) (fs : List Tri) (kvs : List (NestedKey × D)) (x7 x8 : Slot), (∀ m ∈ ms, ∃ p, Mv dl t m.1 m.2 p) → TInv L fs kvs →
    (∀ fs' kvs' y7 y8, TInv L fs' kvs' → (∃ ex, fs' = fs ++ ex) → (∀ m ∈ ms, ∀ p, Mv dl t m.1 m.2 p → behindP t m.1 p ∈ fs') → Dd.nx [.sh (webD CW c dl), v1, v2, .ow (.d kvs'), .ow (.l (fs'.map triD)), v5, .sh (triD t), y7, y8]) →
    tdForL (tgName 7) (td_all_triples_b1 CW CE) (ms.map mvD) Dd [.sh (webD CW c dl), v1, v2, .ow (.d kvs), .ow (.l (fs.map triD)), v5, .sh (triD t), x7, x8]
  | [], fs, kvs, x7, x8, _, inv, q => q fs kvs x7 x8 inv ⟨[], (List.append_nil _).symm⟩ (fun m h => nomatch h)
  | m :: ms, fs, kvs, x7, x8, hm, inv, q => by
    obtain ⟨p, mv⟩ := hm m List.mem_cons_self
    have mv' := mv
    obtain ⟨h0, e, he, ha⟩ := mv
    have same : ∀ p', Mv dl t m.1 m.2 p' → p' = p := fun p' ⟨_, e', he', ha'⟩ => by
      rw [he] at he'; cases he'
      rw [ha] at ha'; cases ha'; rfl
    refine ⟨D.int m.1, rfl, D.int m.2, rfl, rfl, c, dl, t, m.1, m.2, e, p, rfl, w, ok, h0, he, ha, rfl, ?_⟩
    refine ⟨triK (behindP t m.1 p), triK_to _, kk_tri inv.ks _, ?_⟩
    have hl := inv.short
    by_cases hb : behindP t m.1 p ∈ fs
    · refine ifN (by show (!(aget kvs (triK (behindP t m.1 p))).isSome) = false; rw [tri_there inv.ks, decide_eq_true hb]; rfl) ?_
      refine at_inner w ok f hL ht ms fs kvs _ _ (fun x hx => hm x (List.mem_cons_of_mem _ hx)) inv fun fs' kvs' y7 y8 i' pre cl => q fs' kvs' y7 y8 i' pre fun x hx p' mx => ?_
      rcases List.mem_cons.mp hx with z | z
      · subst z
        rw [same p' mx]
        obtain ⟨ex, rfl⟩ := pre
        exact List.mem_append_left _ hb
      · exact cl x z p' mx
    · refine ifK (by show (!(aget kvs (triK (behindP t m.1 p))).isSome) = true; rw [tri_there inv.ks, decide_eq_false hb]; rfl) ?_
      have lk := inv.len
      refine ⟨rfl, ifEq (fun z => ?_) (fun _ => ?_)⟩
      · exfalso; omega
      refine ⟨rfl, sz (show 2 ≤ 16777216 by decide), rfl, triK (behindP t m.1 p), triK_to _, kk_tri inv.ks _, szl (by omega), rfl, ?_, ?_⟩
      · rw [List.length_map]; exact szl (by omega)
      · have i2 := inv.add (d := .t [triD t, mvD m]) (f.cl t ht _ _ _ mv') hb
        show tdForL (tgName 7) (td_all_triples_b1 CW CE) (ms.map mvD) Dd [_, _, _, .ow (.d (aput kvs (triK (behindP t m.1 p)) (.t [triD t, mvD m]))), .ow (.l (fs.map triD ++ [triD (behindP t m.1 p)])), _, _, _, _]
        rw [show fs.map triD ++ [triD (behindP t m.1 p)] = (fs ++ [behindP t m.1 p]).map triD by rw [List.map_append]; rfl]
        refine at_inner w ok f hL ht ms _ _ _ _ (fun x hx => hm x (List.mem_cons_of_mem _ hx)) i2 fun fs' kvs' y7 y8 i' pre cl => q fs' kvs' y7 y8 i' ?_ fun x hx p' mx => ?_
        · obtain ⟨ex, rfl⟩ := pre
          exact ⟨[behindP t m.1 p] ++ ex, by rw [List.append_assoc]⟩
        · rcases List.mem_cons.mp hx with z | z
          · subst z
            rw [same p' mx]
            obtain ⟨ex, rfl⟩ := pre
            exact List.mem_append_left _ (List.mem_append_right _ (List.mem_singleton.mpr rfl))
          · exact cl x z p' mx
theorem rep_nats {k : Int} (n : Nat) (e : k = n) : D.t (List.replicate k.toNat [D.int 0]).flatten = natsD (List.replicate n 0) := by
  subst e
  rw [Int.toNat_natCast]
  unfold natsD
  congr 1
  induction n with
  | zero => rfl
  | succ n ih => rw [List.replicate_succ, List.flatten_cons, ih, List.replicate_succ]; rfl
theorem len_all_triples {CW CE : Addr} : ∀ (ds : List D) (Qd : D → Prop), pp_all_triples CW CE ds Qd → ds.length = 2 := fun ds Qd ⟨_, _, _, _, e, _⟩ => by rw [e]; rfl
theorem hp_all_triples {CW CE : Addr} : ∀ (ds : List D) (Qd : D → Prop), pp_all_triples CW CE ds Qd → td_all_triples CW CE { nx := fun _ => Qd (.a .non), rt := Qd } (env0 9 ds) := by
  rintro ds Qd ⟨c, dl, load, L, rfl, w, hl, f, hL, q⟩
  have w1 := w.h1
  have w2 := w.h2
  have c1 := w.c1
  have c2 := w.c2
  have ed : ((dl.map dealerD).length : Int) = dl.length := ds_len dl
  refine ⟨rfl, sz (show 1 ≤ 16777216 by decide), rfl, dlD dl, rfl, (fun z => nomatch z), ?_, ?_, (show 1 ≤ 1000 by decide), ?_⟩
  · show (1 : Int) ≤ ((dl.map dealerD).length : Nat); rw [ed]; omega
  · show (((dl.map dealerD).length : Nat) : Int) ≤ 1000; rw [ed]; omega
  refine ⟨rfl, sz (show 1 ≤ 16777216 by decide), rfl, D.int c, rfl, (fun z => nomatch z), (show (1 : Int) ≤ c by omega), (show c ≤ 1000 by omega), (show 1 ≤ 1000 by decide), ?_⟩
  refine ⟨rfl, sz (show 3 ≤ 16777216 by decide), rfl, ?_⟩
  show td_all_triples_s1 CW CE _ [_, _, .sh (.t [natsD load, .t (List.replicate (((dl.map dealerD).length : Nat) : Int).toNat [D.int 0]).flatten, .t (List.replicate c.toNat [D.int 0]).flatten]), _, _, _, _, _, _]
  rw [rep_nats dl.length ed, rep_nats (k := c) c.toNat (by omega)]
  show td_all_triples_s1 CW CE _ [_, _, .sh (triD (firstT c dl load)), _, _, _, _, _, _]
  refine ⟨rfl, triK (firstT c dl load), triK_to _, kk_tri (kvs := []) (fs := []) rfl _, ⟨_, rfl⟩, rfl, ?_⟩
  refine ⟨rfl, sz (show 1 ≤ 16777216 by decide), rfl, rfl, ?_⟩
  refine ⟨fun m E => ∃ (fs : List Tri) (kvs : List (NestedKey × D)) (k : Nat) (y6 y7 y8 : Slot), E = [.sh (webD CW c dl), .sh (natsD load), .sh (triD (firstT c dl load)), .ow (.d kvs), .ow (.l (fs.map triD)), .sh (D.int (k : Int)), y6, y7, y8] ∧ TInv L fs kvs ∧ firstT c dl load ∈ fs ∧ k ≤ fs.length ∧
    (∀ i t, i < k → fs[i]? = some t → ∀ h n p, Mv dl t h n p → behindP t h p ∈ fs) ∧ m = 500 - k, ⟨_, [firstT c dl load], [(triK (firstT c dl load), D.non)], 0, .un, .un, .un, rfl, ⟨rfl, by simp, fun t ht => by rw [List.mem_singleton.mp ht]; exact f.first⟩, List.mem_singleton.mpr rfl, Nat.zero_le _, (fun i t h => absurd h (Nat.not_lt_zero _)), rfl⟩, ?_⟩
  rintro m E ⟨fs, kvs, k, y6, y7, y8, rfl, inv, hf, hk, cl, rfl⟩
  have hs := inv.short
  refine ifI (p := (k : Int) < ((fs.map triD).length : Nat)) (fun hlt => ?_) (fun hlt => ?_)
  · rw [List.length_map] at hlt
    have hlt : k < fs.length := by omega
    have et : fs[k]? = some fs[k] := List.getElem?_eq_getElem hlt
    have htL := inv.sub _ (List.mem_of_getElem? et)
    have ok := (f.rch _ htL).ok w hl
    refine ⟨triD fs[k], getMap et, rfl, ?_⟩
    refine ⟨rfl, c, dl, fs[k], rfl, w, ok, rfl, ?_⟩
    refine at_inner w ok f hL htL (movesFrom fs[k] 0 dl) fs kvs _ _ (fun m hm => (moves_iff ok).mp hm) inv fun fs' kvs' z7 z8 i' pre c' => ?_
    obtain ⟨ex, rfl⟩ := pre
    refine ⟨500 - (k + 1), by omega, fs ++ ex, kvs', k + 1, _, z7, z8, by rw [show ((k + 1 : Nat) : Int) = (k : Int) + 1 by omega], i', List.mem_append_left _ hf, by rw [List.length_append]; omega, fun i t hi e h n p mv => ?_, rfl⟩
    rw [List.getElem?_append_left (by omega)] at e
    by_cases z : i = k
    · subst z
      rw [et] at e; cases e
      exact c' (h, n) ((moves_iff ok).mpr ⟨p, mv⟩) p mv
    · exact List.mem_append_left _ (cl i t (by omega) e h n p mv)
  · rw [List.length_map] at hlt
    refine q fs kvs inv.ks inv.nd ⟨hf, fun t ht => f.rch t (inv.sub t ht), fun t ht h n p mv => ?_⟩ (by omega)
    obtain ⟨i, hi, e⟩ := List.getElem_of_mem ht
    exact cl i t (by omega) (by rw [List.getElem?_eq_getElem hi, e]) h n p mv
def unnats : D → List Nat
  | .t xs => xs.map fun d => (unint d).toNat
  | _ => []
def unTri : D → Tri
  | .t [a, b, c] => (unnats a, unnats b, unnats c)
  | _ => ([], [], [])
theorem unnats_nats (xs : List Nat) : unnats (natsD xs) = xs := by
  show (xs.map natI).map (fun d => (unint d).toNat) = xs
  rw [List.map_map]
  conv => rhs; rw [← List.map_id xs]
  apply List.map_congr_left
  intro x _
  show ((x : Int)).toNat = x
  omega
theorem unTri_tri (t : Tri) : unTri (triD t) = t := by
  show (unnats (natsD t.1), unnats (natsD t.2.1), unnats (natsD t.2.2)) = t
  rw [unnats_nats, unnats_nats, unnats_nats]
theorem okDs_nats : ∀ xs : List Nat, okDs (xs.map natI) = true
  | [] => rfl
  | x :: xs => by show (okD (natI x) && okDs (xs.map natI)) = true; rw [okDs_nats xs]; rfl
theorem okD_nats (xs : List Nat) : okD (natsD xs) = true := okDs_nats xs
theorem okDs_ends : ∀ es : List (List Nat × List Nat), okDs (es.map endD) = true
  | [] => rfl
  | x :: es => by
    show (okD (endD x) && okDs (es.map endD)) = true
    rw [okDs_ends es]
    show ((okD (natsD x.1) && (okD (natsD x.2) && true)) && true) = true
    rw [okD_nats, okD_nats]; rfl
theorem alike_nats : ∀ xs ys : List Nat, PySem.W.alikeAll (pyDs (xs.map natI)) (pyDs (ys.map natI)) = true
  | [], _ => by simp [pyDs, PySem.W.alikeAll]
  | x :: xs, [] => by simp [pyDs, PySem.W.alikeAll]
  | x :: xs, y :: ys => by
    show (PySem.W.alike (pyD (natI x)) (pyD (natI y)) && PySem.W.alikeAll (pyDs (xs.map natI)) (pyDs (ys.map natI))) = true
    rw [alike_nats xs ys]; rfl
theorem depth_nats : ∀ xs : List Nat, PyData.depthAll (pyDs (xs.map natI)) ≤ 1
  | [] => by simp [pyDs, PyData.depthAll]
  | x :: xs => by
    have := depth_nats xs
    show PyData.depthAll (pyD (natI x) :: pyDs (xs.map natI)) ≤ 1
    simp only [PyData.depthAll, natI, pyD, PyData.depth]
    omega
theorem can_ends {es : List (List Nat × List Nat)} (h : es.length ≤ sizeLine) : CanSort (es.map endD) where
  ok := okDs_ends es
  al := fun d hd d' hd' => by
    rw [List.map_map] at hd hd'
    obtain ⟨a, _, rfl⟩ := List.mem_map.mp hd
    obtain ⟨b, _, rfl⟩ := List.mem_map.mp hd'
    show (PySem.W.alikeAll (pyDs (a.1.map natI)) (pyDs (b.1.map natI)) && (PySem.W.alikeAll (pyDs (a.2.map natI)) (pyDs (b.2.map natI)) && true)) = true
    rw [alike_nats, alike_nats]; rfl
  so := .inl fun d hd => by
    rw [List.map_map] at hd
    obtain ⟨a, _, rfl⟩ := List.mem_map.mp hd
    exact ⟨_, _, rfl⟩
  dp := fun d hd => by
    obtain ⟨a, _, rfl⟩ := List.mem_map.mp hd
    have h1 := depth_nats a.1
    have h2 := depth_nats a.2
    show PyData.depth (.tuple [.tuple (pyDs (a.1.map natI)), .tuple (pyDs (a.2.map natI))]) ≤ 8
    simp only [PyData.depth, PyData.depthAll]
    omega
  ln := by rw [List.length_map]; exact h
def unEnd : D → List Nat × List Nat
  | .t [a, b] => (unnats a, unnats b)
  | _ => ([], [])
theorem unEnd_end (x : List Nat × List Nat) : unEnd (endD x) = x := by
  show (unnats (natsD x.1), unnats (natsD x.2)) = x
  rw [unnats_nats, unnats_nats]
theorem ends_srt (es : List (List Nat × List Nat)) : ∃ rs : List (List Nat × List Nat), rs.Perm es ∧ srtD (es.map endD) = rs.map endD := by
  have p : (srtD (es.map endD)).Perm (es.map endD) := List.mergeSort_perm _ _
  refine ⟨(srtD (es.map endD)).map unEnd, ?_, ?_⟩
  · have := p.map unEnd
    rw [List.map_map] at this
    have e : es.map (unEnd ∘ endD) = es := by
      conv => rhs; rw [← List.map_id es]
      exact List.map_congr_left fun x _ => unEnd_end x
    rw [e] at this
    exact this
  · rw [List.map_map]
    conv => lhs; rw [← List.map_id (srtD (es.map endD))]
    apply List.map_congr_left
    intro d hd
    obtain ⟨n, _, rfl⟩ := List.mem_map.mp (p.mem_iff.mp hd)
    show endD n = endD (unEnd (endD n))
    rw [unEnd_end]
theorem len_ends_in {CW CE : Addr} : ∀ (ds : List D) (Qd : D → Prop), pp_ends_in CW CE ds Qd → ds.length = 1 := fun ds Qd ⟨_, _, e, _⟩ => by rw [e]; rfl
theorem hp_ends_in {CW CE : Addr} : ∀ (ds : List D) (Qd : D → Prop), pp_ends_in CW CE ds Qd → td_ends_in CW CE { nx := fun _ => Qd (.a .non), rt := Qd } (env0 2 ds) := by
  rintro ds Qd ⟨fs, kvs, rfl, ek, hl, h3, q⟩
  refine ⟨unAt1 rfl, rfl, ?_⟩
  have ek2 : (kvs.map fun kv => ofKey kv.1) = fs.map triD := by
    have := congrArg (List.map ofKey) ek
    rw [List.map_map, List.map_map] at this
    rw [show (kvs.map fun kv => ofKey kv.1) = kvs.map (ofKey ∘ fun x => x.1) from rfl, this]
    exact List.map_congr_left fun t _ => triK_of t
  show tdLcL _ _ _ _ (kvs.map fun kv => ofKey kv.1) [] _
  rw [ek2]
  refine lcL_filter (fun d => endD (unTri d).2) (fun d => overB (unTri d)) .sh rfl _ _ _ (fun x hx C Z h1 h2 => ?_) (by rw [List.length_map]; exact sz (by simp; omega)) ?_
  · obtain ⟨t, ht, rfl⟩ := List.mem_map.mp hx
    rw [unTri_tri] at h1 h2
    refine ⟨rfl, t, rfl, h3 t ht, ?_⟩
    refine ifC (c := overB t) (fun hb => ?_) (fun hb => h2 hb)
    exact h1 hb
  · rw [List.nil_append]
    have em : ((fs.map triD).filter fun d => overB (unTri d)).map (fun d => endD (unTri d).2) = ((fs.filter overB).map (·.2)).map endD := by
      rw [List.filter_map, List.map_map, List.map_map]
      have : ((fun d => overB (unTri d)) ∘ triD) = overB := by
        funext t
        show overB (unTri (triD t)) = _
        rw [unTri_tri]
      rw [this]
      apply List.map_congr_left
      intro t _
      show endD (unTri (triD t)).2 = endD t.2
      rw [unTri_tri]
    obtain ⟨rs, p, er⟩ := ends_srt ((fs.filter overB).map (·.2))
    rw [em]
    show CanSort _ ∧ Qd (.l (srtD _))
    rw [er]
    refine ⟨can_ends ?_, q rs p⟩
    rw [List.length_map]
    have := List.length_filter_le overB fs
    exact sz (by omega)
end DL
set_option Elab.async false
set_option linter.all false
set_option maxRecDepth 100000
set_option exponentiation.threshold 20000
namespace DL
open PySem PySem.Spec PyProof.Rows L2
/-! the greatest bill, as the program finds it -/
def pp_most_of (CW CE : Addr) : PP := fun ds Q => ∃ (c : Int) (dl : Dl) (ps : Prs) (v : NestedKey → Rat) (load : List Nat) (L : List Tri), ds = [webD CW c dl, pricesD ps, natsD load] ∧ WOk c dl ∧ PrsOk dl ps ∧ Small12 dl ps ∧ Tells dl ps v ∧ load.length = dl.length ∧ (∀ n ∈ load, n ≤ 3) ∧ Full c dl load L ∧ L.length ≤ 500 ∧
  ∀ q : Rat, (∃ t ∈ L, t.1.sum = 0 ∧ bv v load t = q) → (∀ t ∈ L, t.1.sum = 0 → bv v load t ≤ q) → Q (fr q)
def td_most_of_b1 (CW CE : Addr) : TDS := (tdSeq (tdSet 8 (tdCall (pp_told_leads CW CE) (tdCons (tdVar 5) (tdCons (tdVar 6) tdNil)))) (tdIfS (tdOr (tdB (tdOp (rdIs id) (tdVar 3) (tdC D.non))) (tdB (tdCall (pp_is_less CW CE) (tdCons (tdVar 3) (tdCons (tdVar 8) tdNil))))) (tdSet 3 (tdVar 8)) tdNext))
def td_most_of_s5 (CW CE : Addr) : TDS := (tdRet (tdCall (pp_plus CW CE) (tdCons (tdCall (pp_told_worth CW CE) (tdCons (tdVar 4) (tdCons (tdVar 2) tdNil))) (tdCons (tdVar 3) tdNil))))
def td_most_of_s4 (CW CE : Addr) : TDS := (tdSeq (tdFor (tdiL (tdCall (pp_ends_in CW CE) (tdCons (tdCall (pp_all_triples CW CE) (tdCons (tdVar 0) (tdCons (tdVar 2) tdNil))) tdNil))) (tgTup 2 (tgCons (tgName 6) (tgCons (tgName 7) tgNil))) (td_most_of_b1 CW CE)) (td_most_of_s5 CW CE))
def td_most_of_s3 (CW CE : Addr) : TDS := (tdSeq (tdSet 3 (tdC D.non)) (td_most_of_s4 CW CE))
def td_most_of_s2 (CW CE : Addr) : TDS := (tdSeq (tdDrop (tdCall (pp_check_load CW CE) (tdCons (tdVar 0) (tdCons (tdVar 2) tdNil)))) (td_most_of_s3 CW CE))
def td_most_of_s1 (CW CE : Addr) : TDS := (tdSeq (tdAsg (tdCall (pp_needed_table CW CE) (tdCons (tdVar 0) (tdCons (tdVar 1) tdNil))) (tgTup 2 (tgCons (tgName 4) (tgCons (tgName 5) tgNil)))) (td_most_of_s2 CW CE))
def td_most_of (CW CE : Addr) : TDS := (tdSeq (tdDrop (tdCall (pp_check_prices CW CE) (tdCons (tdVar 0) (tdCons (tdVar 1) tdNil)))) (td_most_of_s1 CW CE))
def rowsL (v : NestedKey → Rat) : Nat → Dl → List (List Rat)
  | _, [] => []
  | h, d :: r => (List.range d.length).map (lv v h) :: rowsL v (h + 1) r
theorem rows_eq (v : NestedKey → Rat) : ∀ (dl : Dl) (h : Nat), leadRows v h dl = (rowsL v h dl).map fun r => .t (r.map fr)
  | [], _ => rfl
  | d :: r, h => by
    show leadRow v h d.length :: leadRows v (h + 1) r = .t (((List.range d.length).map (lv v h)).map fr) :: (rowsL v (h + 1) r).map _
    rw [rows_eq v r (h + 1), List.map_map]; rfl
theorem rows_len (v : NestedKey → Rat) : ∀ (dl : Dl) (h : Nat), (rowsL v h dl).length = dl.length
  | [], _ => rfl
  | d :: r, h => by show (rowsL v (h + 1) r).length + 1 = _; rw [rows_len v r (h + 1)]; rfl
theorem rows_lv (v : NestedKey → Rat) : ∀ (dl : Dl) (h : Nat), ∀ q ∈ (rowsL v h dl).flatten, ∃ a s, q = lv v a s
  | [], _, q, hq => by cases hq
  | d :: r, h, q, hq => by
    rcases List.mem_append.mp (show q ∈ (List.range d.length).map (lv v h) ++ (rowsL v (h + 1) r).flatten from hq) with z | z
    · obtain ⟨s, _, e⟩ := List.mem_map.mp z
      exact ⟨h, s, e.symm⟩
    · exact rows_lv v r (h + 1) q z
/-- ends fit the dealers -/
inductive Fits : Dl → List Nat → Prop
  | nil : Fits [] []
  | cons {d : List (List Pr)} {r : Dl} {e : Nat} {es : List Nat} : e < d.length → Fits r es → Fits (d :: r) (e :: es)
theorem fits_of : ∀ {dl : Dl} {es : List Nat}, es.length = dl.length → (∀ (h e : Nat) (d : List (List Pr)), es[h]? = some e → dl[h]? = some d → e < d.length) → Fits dl es
  | [], [], _, _ => .nil
  | [], _ :: _, h, _ => by cases h
  | _ :: _, [], h, _ => by cases h
  | d :: r, e :: es, h, k => .cons (k 0 e d rfl rfl) (fits_of (by simpa using h) fun i x y hx hy => k (i + 1) x y (by simpa using hx) (by simpa using hy))
theorem Fits.len {dl : Dl} {es : List Nat} (f : Fits dl es) : es.length = dl.length := by
  induction f with
  | nil => rfl
  | cons _ _ ih => rw [List.length_cons, List.length_cons, ih]
theorem fits_zip {v : NestedKey → Rat} {dl : Dl} {es : List Nat} (f : Fits dl es) : ∀ h, (∀ x ∈ (rowsL v h dl).zip es, x.2 < x.1.length) ∧ pickSum (rowsL v h dl) es = lsum v h es := by
  induction f with
  | nil => intro h; exact ⟨(fun x hx => nomatch hx), rfl⟩
  | @cons d r e es he _ ih =>
    intro h
    obtain ⟨i1, i2⟩ := ih (h + 1)
    refine ⟨fun x hx => ?_, ?_⟩
    · rcases List.mem_cons.mp (show x ∈ ((List.range d.length).map (lv v h), e) :: (rowsL v (h + 1) r).zip es from hx) with z | z
      · subst z; simpa using he
      · exact i1 x z
    · show (pick ((List.range d.length).map (lv v h), e) :: ((rowsL v (h + 1) r).zip es).map pick).sum = lv v h e + lsum v (h + 1) es
      rw [List.sum_cons, ← i2]
      congr 1
      show ((List.range d.length).map (lv v h))[e]?.getD 0 = _
      rw [List.getElem?_map, List.getElem?_range he]; rfl
theorem zip_w {v : NestedKey → Rat} : ∀ (load : List Nat) (h : Nat), zipSum ((List.range' h load.length).map (wv v)) (load.map fun (n : Nat) => (n : Int)) = wsum v h load
  | [], _ => rfl
  | x :: r, h => by
    show (wv v h * ((x : Int) : Rat) :: (((List.range' (h + 1) r.length).map (wv v)).zip (r.map fun (n : Nat) => (n : Int))).map fun x => x.1 * (x.2 : Rat)).sum = (x : Rat) * wv v h + wsum v (h + 1) r
    rw [List.sum_cons, ← zip_w r (h + 1), Rat.mul_comm]; rfl
theorem unif_lv {v : NestedKey → Rat} {P : Int} {L : Nat} (h : ∀ n, Isz P L (v n)) (a s : Nat) : Isz P L (lv v a s) := by
  unfold lv
  split
  · exact Isz.zero.mono (Nat.zero_le _)
  · exact h _
theorem unif_sm {P : Int} {q : Rat} (p0 : 0 < P) (p1 : P.natAbs ≤ 2 ^ 1100) (h : Isz P (100 * 2 ^ 1100) q) : Sm q := h.sm p0 (Nat.lt_of_le_of_lt p1 (Nat.pow_lt_pow_right (by decide) (by decide))) (by decide)
theorem len_most_of {CW CE : Addr} : ∀ (ds : List D) (Qd : D → Prop), pp_most_of CW CE ds Qd → ds.length = 3 := fun ds Qd ⟨_, _, _, _, _, _, e, _⟩ => by rw [e]; rfl
theorem mo_step {CW CE : Addr} {Dd : DEnds} {v0 v1 v2 v3 v4 y7 y8 : Slot} {V : NestedKey → Rat} {dl : Dl} {es : List Nat} (u : Unif V) (hd : dl.length ≤ 3) (f : Fits dl es)
    (k : Sm (lsum V 0 es) → (tdIfS (tdOr (tdB (tdOp (rdIs id) (tdVar 3) (tdC D.non))) (tdB (tdCall (pp_is_less CW CE) (tdCons (tdVar 3) (tdCons (tdVar 8) tdNil))))) (tdSet 3 (tdVar 8)) tdNext) Dd [v0, v1, v2, v3, v4, .sh (.t (leadRows V 0 dl)), .sh (natsD es), y7, .sh (fr (lsum V 0 es))]) :
    td_most_of_b1 CW CE Dd [v0, v1, v2, v3, v4, .sh (.t (leadRows V 0 dl)), .sh (natsD es), y7, y8] := by
  obtain ⟨P, p0, p1, hP⟩ := u
  obtain ⟨z1, z2⟩ := fits_zip (v := V) f 0
  refine ⟨rfl, rowsL V 0 dl, es, by rw [rows_eq]; rfl, ⟨P, p0, p1, fun q hq => ?_⟩, by rw [rows_len]; exact hd, by rw [f.len]; exact hd, z1, rfl, ?_⟩
  · obtain ⟨a, s, rfl⟩ := rows_lv V dl 0 q hq
    exact unif_lv hP a s
  · rw [z2]
    have hs : Sm (lsum V 0 es) := unif_sm p0 p1 ((lsum_isz hP es 0).mono (by rw [f.len]; exact Nat.mul_le_mul_right _ (by omega)))
    exact k hs
theorem mo_loop {CW CE : Addr} {Dd : DEnds} {v0 v1 v2 v4 : Slot} {V : NestedKey → Rat} {dl : Dl} (u : Unif V) (hd : dl.length ≤ 3) : ∀ (es : List (List Nat × List Nat)) (b : Rat) (y6 y7 y8 : Slot), (∀ x ∈ es, Fits dl x.1) → Sm b →
    (∀ z6 z7 z8 (b' : Rat), (b' = b ∨ ∃ x ∈ es, lsum V 0 x.1 = b') → b ≤ b' → (∀ x ∈ es, lsum V 0 x.1 ≤ b') → Sm b' → Dd.nx [v0, v1, v2, .sh (fr b'), v4, .sh (.t (leadRows V 0 dl)), z6, z7, z8]) →
    tdForL (tgTup 2 (tgCons (tgName 6) (tgCons (tgName 7) tgNil))) (td_most_of_b1 CW CE) (es.map endD) Dd [v0, v1, v2, .sh (fr b), v4, .sh (.t (leadRows V 0 dl)), y6, y7, y8]
  | [], b, y6, y7, y8, _, hb, q => q y6 y7 y8 b (.inl rfl) Rat.le_refl (fun x h => nomatch h) hb
  | x :: es, b, y6, y7, y8, hf, hb, q => by
    refine ⟨rfl, rfl, ?_⟩
    refine mo_step (CW := CW) (CE := CE) u hd (hf x List.mem_cons_self) fun hs => ?_
    refine ⟨rfl, b, lsum V 0 x.1, rfl, hb, hs, ?_⟩
    refine ifI (fun hlt => ?_) (fun hlt => ?_)
    · refine ⟨rfl, ?_⟩
      refine mo_loop u hd es _ _ _ _ (fun y hy => hf y (List.mem_cons_of_mem _ hy)) hs fun z6 z7 z8 b' h1 h2 h3 h4 => q z6 z7 z8 b' ?_ (by grind) ?_ h4
      · rcases h1 with h1 | ⟨y, hy, e⟩
        · exact .inr ⟨x, List.mem_cons_self, h1.symm⟩
        · exact .inr ⟨y, List.mem_cons_of_mem _ hy, e⟩
      · intro y hy
        rcases List.mem_cons.mp hy with z | z
        · rw [z]; exact h2
        · exact h3 y z
    · refine mo_loop u hd es b _ _ _ (fun y hy => hf y (List.mem_cons_of_mem _ hy)) hb fun z6 z7 z8 b' h1 h2 h3 h4 => q z6 z7 z8 b' ?_ h2 ?_ h4
      · rcases h1 with h1 | ⟨y, hy, e⟩
        · exact .inl h1
        · exact .inr ⟨y, List.mem_cons_of_mem _ hy, e⟩
      · intro y hy
        rcases List.mem_cons.mp hy with z | z
        · rw [z]; grind
        · exact h3 y z
theorem mo_first {CW CE : Addr} {Dd : DEnds} {v0 v1 v2 v4 : Slot} {V : NestedKey → Rat} {dl : Dl} (u : Unif V) (hd : dl.length ≤ 3) : ∀ (es : List (List Nat × List Nat)) (y6 y7 y8 : Slot), es ≠ [] → (∀ x ∈ es, Fits dl x.1) →
    (∀ z6 z7 z8 (b' : Rat), (∃ x ∈ es, lsum V 0 x.1 = b') → (∀ x ∈ es, lsum V 0 x.1 ≤ b') → Sm b' → Dd.nx [v0, v1, v2, .sh (fr b'), v4, .sh (.t (leadRows V 0 dl)), z6, z7, z8]) →
    tdForL (tgTup 2 (tgCons (tgName 6) (tgCons (tgName 7) tgNil))) (td_most_of_b1 CW CE) (es.map endD) Dd [v0, v1, v2, .sh D.non, v4, .sh (.t (leadRows V 0 dl)), y6, y7, y8]
  | [], _, _, _, h, _, _ => absurd rfl h
  | x :: es, y6, y7, y8, _, hf, q => by
    refine ⟨rfl, rfl, ?_⟩
    refine mo_step (CW := CW) (CE := CE) u hd (hf x List.mem_cons_self) fun hs => ?_
    refine ⟨rfl, ?_⟩
    refine mo_loop u hd es _ _ _ _ (fun y hy => hf y (List.mem_cons_of_mem _ hy)) hs fun z6 z7 z8 b' h1 h2 h3 h4 => q z6 z7 z8 b' ?_ ?_ h4
    · rcases h1 with h1 | ⟨y, hy, e⟩
      · exact ⟨x, List.mem_cons_self, h1.symm⟩
      · exact ⟨y, List.mem_cons_of_mem _ hy, e⟩
    · intro y hy
      rcases List.mem_cons.mp hy with z | z
      · rw [z]; exact h2
      · exact h3 y z
theorem load_sum {load : List Nat} : ∀ {n : Nat}, load.length ≤ n → (∀ x ∈ load, x ≤ 3) → load.sum ≤ 3 * n := by
  induction load with
  | nil => intro n _ _; exact Nat.zero_le _
  | cons a r ih =>
    intro n h1 h2
    rw [List.length_cons] at h1
    have := ih (n := n - 1) (by omega) fun x hx => h2 x (List.mem_cons_of_mem _ hx)
    have := h2 a List.mem_cons_self
    rw [List.sum_cons]
    omega
theorem hp_most_of {CW CE : Addr} : ∀ (ds : List D) (Qd : D → Prop), pp_most_of CW CE ds Qd → td_most_of CW CE { nx := fun _ => Qd (.a .non), rt := Qd } (env0 9 ds) := by
  rintro ds Qd ⟨c, dl, ps, v, load, L, rfl, w, pok, s12, tl, hl, h3, F, hL, q⟩
  have w2 := w.h2
  refine ⟨rfl, c, dl, ps, rfl, pok, rfl, ?_⟩
  refine ⟨rfl, c, dl, ps, v, rfl, w, s12, tl, fun V hV uV => ⟨rfl, rfl, rfl, ?_⟩⟩
  refine ⟨rfl, c, dl, load.map fun (n : Nat) => (n : Int), ?_, by rw [List.length_map]; exact hl, by rw [List.length_map]; omega, ?_, rfl, rfl, ?_⟩
  · show [webD CW c dl, natsD load] = _
    rw [List.map_map]; rfl
  · intro n hn
    obtain ⟨m, _, rfl⟩ := List.mem_map.mp hn
    omega
  refine ⟨rfl, c, dl, load, L, rfl, w, hl, F, hL, fun fs kvs ek nd Ff hf => ?_⟩
  refine ⟨rfl, fs, kvs, rfl, ek, hf, fun t ht => ?_, fun es pe => ⟨rfl, ?_⟩⟩
  · rw [((Ff.rch t ht).ok w hl).l1]; exact w2
  have mem : ∀ x, x ∈ es ↔ ∃ t ∈ fs, t.1.sum = 0 ∧ t.2 = x := fun x => by
    rw [pe.mem_iff, List.mem_map]
    constructor
    · rintro ⟨t, ht, e⟩
      obtain ⟨h1, h2⟩ := List.mem_filter.mp ht
      exact ⟨t, h1, of_decide_eq_true h2, e⟩
    · rintro ⟨t, h1, h2, e⟩
      exact ⟨t, List.mem_filter.mpr ⟨h1, decide_eq_true h2⟩, e⟩
  have eq : ∀ t ∈ fs, t.1.sum = 0 → bv v load t = wsum V 0 load + lsum V 0 t.2.1 := fun t ht h0 => by
    rw [← bv_over h0, (Ff.rch t ht).same w hl tl hV]
  refine mo_first (CW := CW) (CE := CE) uV w2 es .un .un .un ?_ ?_ fun z6 z7 z8 b hb1 hb2 hb3 => ?_
  · obtain ⟨t, ht, h0⟩ := over_ex w hl Ff
    exact List.ne_nil_of_mem ((mem t.2).mpr ⟨t, ht, h0, rfl⟩)
  · intro x hx
    obtain ⟨t, ht, _, e⟩ := (mem x).mp hx
    have ok := (Ff.rch t ht).ok w hl
    rw [← e]
    exact fits_of ok.l2 ok.at_
  obtain ⟨P, p0, p1, hP⟩ := uV
  have hsum := load_sum (n := 3) (by omega) h3
  have hw : Sm (wsum V 0 load) := unif_sm p0 p1 ((wsum_isz hP load 0).mono (Nat.mul_le_mul_right _ (by omega)))
  refine ⟨rfl, (List.range dl.length).map (wv V), load.map fun (n : Nat) => (n : Int), ?_, ⟨P, p0, p1, fun q hq => ?_⟩, by rw [List.length_map]; omega, by rw [List.length_map, List.length_range]; exact w2, fun n hn => ?_, ?_⟩
  · show [D.t ((List.range dl.length).map fun h => fr (wv V h)), natsD load] = _
    rw [List.map_map, List.map_map]; rfl
  · obtain ⟨h, _, rfl⟩ := List.mem_map.mp hq
    exact hP _
  · obtain ⟨m, hm, rfl⟩ := List.mem_map.mp hn
    have := h3 m hm
    omega
  rw [List.range_eq_range', ← hl, zip_w load 0]
  refine ⟨rfl, wsum V 0 load, b, rfl, hw, hb3, ?_⟩
  refine q _ ?_ fun t ht h0 => ?_
  · obtain ⟨x, hx, e⟩ := hb1
    obtain ⟨t, ht, h0, e2⟩ := (mem x).mp hx
    exact ⟨t, F.all (Ff.rch t ht), h0, by rw [eq t ht h0, e2, e]⟩
  · have hf' := Ff.all (F.rch t ht)
    rw [eq t hf' h0]
    have := hb2 t.2 ((mem t.2).mpr ⟨t, hf', h0, rfl⟩)
    grind
end DL
set_option Elab.async false
set_option linter.all false
set_option maxRecDepth 100000
set_option exponentiation.threshold 20000
namespace DL
open PySem PySem.Spec PyProof.Rows L2
/-! the law draws doors and dealers -/
def pp_law_doors (CW CE : Addr) : PP := fun ds Q => ∃ h c lead : Int, ds = [.die, D.int h, D.int c, D.int lead] ∧ 1 ≤ h ∧ h ≤ 100 ∧ 1 ≤ c ∧ c ≤ 100 ∧
  ∀ (x : Int) (xs : List Int), xs.length ≤ 2 → ((0 ≤ lead ∧ x = lead) ∨ (-c ≤ x ∧ x < 0)) → (∀ y ∈ xs, -c ≤ y ∧ y < h) → Q (.l ((x :: xs).map D.int))
/-- a standing as the law draws it -/
structure StOk (h c lead : Int) (many s : Nat) (st : List Pr) : Prop where
  l1 : 1 ≤ st.length
  l3 : st.length ≤ 3
  up : st.Pairwise lexP
  ok : ∀ p ∈ st, -c ≤ p.1 ∧ p.1 < h ∧ 0 ≤ p.2 ∧ p.2 < many
  on : ∃ p ∈ st, p.2 = ((s + 1) % many : Nat) ∧ (p.1 < 0 ∨ (0 ≤ lead ∧ p.1 = lead))
def pp_law_dealer (CW CE : Addr) : PP := fun ds Q => ∃ h c lead most : Int, ds = [.die, D.int h, D.int c, D.int lead, D.int most] ∧ 1 ≤ h ∧ h ≤ 100 ∧ 1 ≤ c ∧ c ≤ 100 ∧ lead < h ∧ 1 ≤ most ∧ most ≤ 100 ∧
  ∀ d : List (List Pr), 1 ≤ d.length → (d.length : Int) ≤ most → (∀ (s : Nat) (st : List Pr), d[s]? = some st → StOk h c lead d.length s st) → Q (dealerD d)
def td_law_doors_b1 (CW CE : Addr) : TDS := (tdAppend 4 (tdIf (tdB (tdOp rdGt (tdCall (pp_law_draw CW CE) (tdCons (tdVar 0) (tdCons (tdC (D.int 3)) tdNil))) (tdC (D.int 0)))) (tdCall (pp_law_draw CW CE) (tdCons (tdVar 0) (tdCons (tdVar 1) tdNil))) (tdOp rdSub (tdC (D.int (-1))) (tdCall (pp_law_draw CW CE) (tdCons (tdVar 0) (tdCons (tdVar 2) tdNil))))))
def td_law_doors_s2 (CW CE : Addr) : TDS := (tdRet (tdVar 4))
def td_law_doors_s1 (CW CE : Addr) : TDS := (tdSeq (tdFor (tdiRng1 (tdCons (tdCall (pp_law_draw CW CE) (tdCons (tdVar 0) (tdCons (tdC (D.int 3)) tdNil))) tdNil)) (tgName 5) (td_law_doors_b1 CW CE)) (td_law_doors_s2 CW CE))
def td_law_doors (CW CE : Addr) : TDS := (tdSeq (tdSet 4 (tdLst (tdCons (tdIf (tdAnd (tdB (tdOp rdGe (tdVar 3) (tdC (D.int 0)))) (tdB (tdOp rdGt (tdCall (pp_law_draw CW CE) (tdCons (tdVar 0) (tdCons (tdC (D.int 3)) tdNil))) (tdC (D.int 0))))) (tdVar 3) (tdOp rdSub (tdC (D.int (-1))) (tdCall (pp_law_draw CW CE) (tdCons (tdVar 0) (tdCons (tdVar 2) tdNil))))) tdNil))) (td_law_doors_s1 CW CE))
def td_law_dealer_b1 (CW CE : Addr) : TDS := (tdDSet 9 (tdC (D.bl true)) (tdTup (tdCons (tdVar 10) (tdCons (tdCall (pp_law_draw CW CE) (tdCons (tdVar 0) (tdCons (tdVar 5) tdNil))) tdNil))))
def td_law_dealer_b2 (CW CE : Addr) : TDS := (tdSeq (tdSet 8 (tdCall (pp_law_doors CW CE) (tdCons (tdVar 0) (tdCons (tdVar 1) (tdCons (tdVar 2) (tdCons (tdVar 3) tdNil)))))) (tdSeq (tdSet 9 (tdDisp1 (fun k => ∃ l, k = .tup l) (tdTup (tdCons (tdOp rdIxA (tdVar 8) (tdC (D.int 0))) (tdCons (tdOp rdMod (tdCB rdInt (tdCons (tdOp rdAdd (tdVar 7) (tdC (D.int 1))) tdNil)) (tdVar 5)) tdNil))) (tdC (D.bl true)))) (tdSeq (tdFor (tdiL (tdFrom 1 (tdVar 8))) (tgName 10) (td_law_dealer_b1 CW CE)) (tdAppend 6 (tdCB rdTuple (tdCons (tdCB rdSortL (tdCons (tdCB rdList (tdCons (tdVar 9) tdNil)) tdNil)) tdNil))))))
def td_law_dealer_s3 (CW CE : Addr) : TDS := (tdRet (tdCB rdTuple (tdCons (tdVar 6) tdNil)))
def td_law_dealer_s2 (CW CE : Addr) : TDS := (tdSeq (tdFor (tdiRng1 (tdCons (tdVar 5) tdNil)) (tgName 7) (td_law_dealer_b2 CW CE)) (td_law_dealer_s3 CW CE))
def td_law_dealer_s1 (CW CE : Addr) : TDS := (tdSeq (tdSet 6 (tdLst tdNil)) (td_law_dealer_s2 CW CE))
def td_law_dealer (CW CE : Addr) : TDS := (tdSeq (tdSet 5 (tdOp rdAdd (tdC (D.int 1)) (tdCall (pp_law_draw CW CE) (tdCons (tdVar 0) (tdCons (tdVar 4) tdNil))))) (td_law_dealer_s1 CW CE))
theorem len_law_doors {CW CE : Addr} : ∀ (ds : List D) (Qd : D → Prop), pp_law_doors CW CE ds Qd → ds.length = 4 := fun ds Qd ⟨_, _, _, e, _⟩ => by rw [e]; rfl
theorem dw_loop {CW CE : Addr} {Dd : DEnds} {v3 : Slot} {h c : Int} (h1 : 1 ≤ h) (h2 : h ≤ 100) (c1 : 1 ≤ c) (c2 : c ≤ 100) : ∀ (n : Nat) (lo : Int) (xs : List Int) (x5 : Slot), xs.length + n ≤ 100 →
    (∀ ys y5, ys.length = n → (∀ y ∈ ys, -c ≤ y ∧ y < h) → Dd.nx [.sh .die, .sh (D.int h), .sh (D.int c), v3, .ow (.l ((xs ++ ys).map D.int)), y5]) →
    tdForL (tgName 5) (td_law_doors_b1 CW CE) (ups lo n) Dd [.sh .die, .sh (D.int h), .sh (D.int c), v3, .ow (.l (xs.map D.int)), x5]
  | 0, lo, xs, x5, _, q => by
    have := q [] x5 rfl (fun y z => nomatch z)
    rw [List.append_nil] at this
    exact this
  | n + 1, lo, xs, x5, hl, q => by
    have go : ∀ y : Int, -c ≤ y → y < h → tdForL (tgName 5) (td_law_doors_b1 CW CE) (ups (lo + 1) n) Dd [.sh .die, .sh (D.int h), .sh (D.int c), v3, .ow (.l (xs.map D.int ++ [D.int y])), .sh (D.int lo)] := fun y y1 y2 => by
      rw [show xs.map D.int ++ [D.int y] = (xs ++ [y]).map D.int by rw [List.map_append]; rfl]
      refine dw_loop h1 h2 c1 c2 n (lo + 1) (xs ++ [y]) _ (by rw [List.length_append, List.length_singleton]; omega) fun ys y5 e k => ?_
      rw [List.append_assoc]
      refine q (y :: ys) y5 (by rw [List.length_cons, e]) fun z hz => ?_
      rcases List.mem_cons.mp hz with z' | z'
      · rw [z']; exact ⟨y1, y2⟩
      · exact k z z'
    refine ⟨rfl, 3, rfl, (by decide), (by decide), fun n0 a0 a1 => ifI (fun _ => ?_) (fun _ => ?_)⟩
    · refine ⟨rfl, h, rfl, h1, by omega, fun m m0 m1 => ⟨rfl, ?_, go m (by omega) m1⟩⟩
      rw [List.length_map]; exact szl (by omega)
    · refine ⟨rfl, c, rfl, c1, by omega, fun m m0 m1 => ⟨rfl, ?_, go (-1 - m) (by omega) (by omega)⟩⟩
      rw [List.length_map]; exact szl (by omega)
theorem hp_law_doors {CW CE : Addr} : ∀ (ds : List D) (Qd : D → Prop), pp_law_doors CW CE ds Qd → td_law_doors CW CE { nx := fun _ => Qd (.a .non), rt := Qd } (env0 6 ds) := by
  rintro ds Qd ⟨h, c, lead, rfl, h1, h2, c1, c2, q⟩
  have key : ∀ x : Int, ((0 ≤ lead ∧ x = lead) ∨ (-c ≤ x ∧ x < 0)) → td_law_doors_s1 CW CE { nx := fun _ => Qd (.a .non), rt := Qd } [.sh .die, .sh (D.int h), .sh (D.int c), .sh (D.int lead), .ow (.l ([x].map D.int)), .un] := fun x hx => by
    refine ⟨rfl, 3, rfl, (by decide), (by decide), fun n a0 a1 => ?_⟩
    show -(2 ^ 62) ≤ n ∧ _
    refine ⟨by omega, by omega, ?_⟩
    refine dw_loop (CW := CW) (CE := CE) h1 h2 c1 c2 n.toNat 0 [x] _ (by simp; omega) fun ys y5 e k => ?_
    exact q x ys (by omega) hx k
  have cup : ∀ m : Int, 0 ≤ m → m < c → td_law_doors_s1 CW CE { nx := fun _ => Qd (.a .non), rt := Qd } [.sh .die, .sh (D.int h), .sh (D.int c), .sh (D.int lead), .ow (.l ([-1 - m].map D.int)), .un] := fun m m0 m1 => key _ (.inr ⟨by omega, by omega⟩)
  refine ifI (fun h0 => ?_) (fun h0 => ?_)
  · refine ⟨rfl, 3, rfl, (by decide), (by decide), fun n0 a0 a1 => ifI (fun _ => ?_) (fun _ => ?_)⟩
    · exact ⟨rfl, sz (show 1 ≤ 16777216 by decide), rfl, key lead (.inl ⟨h0, rfl⟩)⟩
    · exact ⟨rfl, c, rfl, c1, by omega, fun m m0 m1 => ⟨rfl, sz (show 1 ≤ 16777216 by decide), rfl, cup m m0 m1⟩⟩
  · exact ⟨rfl, c, rfl, c1, by omega, fun m m0 m1 => ⟨rfl, sz (show 1 ≤ 16777216 by decide), rfl, cup m m0 m1⟩⟩
/-! sorted pairs -/
def prK (p : Pr) : NestedKey := .tup [.num p.1, .num p.2]
theorem prK_inj {p q : Pr} (h : prK p = prK q) : p = q := by
  unfold prK at h
  injection h with h
  injection h with h1 h
  injection h with h2 h
  injection h1 with h1
  injection h2 with h2
  exact Prod.ext h1 h2
theorem kk_prs {ks : List NestedKey} (h : ∀ k ∈ ks, ∃ p, k = prK p) : KKind ks := .inr fun k hk => by
  obtain ⟨p, rfl⟩ := h k hk
  refine ⟨⟨_, rfl⟩, ?_⟩
  simp [prK, NestedKey.depth, NestedKey.depthAll]
def psD (ps : List Pr) : List (NestedKey × D) := ps.map fun p => (prK p, D.bl true)
theorem psD_keys (ps : List Pr) : (psD ps).map (·.1) = ps.map prK := by unfold psD; rw [List.map_map]; rfl
theorem kk_ps (p : Pr) (ps : List Pr) : KKind (prK p :: (psD ps).map (·.1)) := kk_prs fun k hk => by
  rw [psD_keys] at hk
  rcases List.mem_cons.mp hk with e | e
  · exact ⟨p, e⟩
  · obtain ⟨x, _, e⟩ := List.mem_map.mp e
    exact ⟨x, e.symm⟩
theorem psD_get (ps : List Pr) (p : Pr) : (aget (psD ps) (prK p)).isSome = decide (p ∈ ps) := by
  rw [aget_some, psD_keys, decide_eq_decide]
  constructor
  · intro h
    obtain ⟨u, hu, e⟩ := List.mem_map.mp h
    rw [← prK_inj e]; exact hu
  · exact List.mem_map_of_mem
theorem psD_put {ps : List Pr} {y : Pr} : aput (psD ps) (prK y) (D.bl true) = psD (if y ∈ ps then ps else ps ++ [y]) := by
  by_cases h : y ∈ ps
  · rw [if_pos h]
    unfold aput
    rw [psD_get, decide_eq_true h, if_pos rfl]
    unfold psD
    rw [List.map_map]
    apply List.map_congr_left
    intro i _
    show (if prK i = prK y then (prK i, D.bl true) else (prK i, D.bl true)) = _
    split <;> rfl
  · rw [if_neg h, put_new (by rw [psD_get, decide_eq_false h])]
    unfold psD
    rw [List.map_append]; rfl
theorem okDs_prs : ∀ ps : List Pr, okDs (ps.map prD) = true
  | [] => rfl
  | p :: ps => by show (okD (prD p) && okDs (ps.map prD)) = true; rw [okDs_prs ps]; rfl
theorem can_prs {ps : List Pr} (h : ps.length ≤ sizeLine) : CanSort (ps.map prD) where
  ok := okDs_prs ps
  al := fun d hd d' hd' => by
    rw [List.map_map] at hd hd'
    obtain ⟨a, _, rfl⟩ := List.mem_map.mp hd
    obtain ⟨b, _, rfl⟩ := List.mem_map.mp hd'
    rfl
  so := .inl fun d hd => by
    rw [List.map_map] at hd
    obtain ⟨a, _, rfl⟩ := List.mem_map.mp hd
    exact ⟨_, _, rfl⟩
  dp := fun d hd => by
    obtain ⟨a, _, rfl⟩ := List.mem_map.mp hd
    show PyData.depth (.tuple [.int a.1, .int a.2]) ≤ 8
    simp [PyData.depth, PyData.depthAll]
  ln := by rw [List.length_map]; exact h
theorem prs_srt {ps : List Pr} (nd : ps.Nodup) : ∃ rs : List Pr, rs.Perm ps ∧ rs.Pairwise lexP ∧ srtD (ps.map prD) = rs.map prD := by
  have e0 : PySem.W.dataLe false (fun p : Pr => pyD (prD p)) = fun p q : Pr => decide (p.1 < q.1 ∨ (p.1 = q.1 ∧ p.2 ≤ q.2)) := PySem.W.dataLe_ii (fun p : Pr => p.1) (fun p : Pr => p.2)
  refine ⟨ps.mergeSort (PySem.W.dataLe false fun p : Pr => pyD (prD p)), List.mergeSort_perm _ _, ?_, ?_⟩
  · have nd' : (ps.mergeSort (PySem.W.dataLe false fun p : Pr => pyD (prD p))).Nodup := (List.mergeSort_perm _ _).nodup_iff.mpr nd
    have pw := List.pairwise_mergeSort (le := PySem.W.dataLe false fun p : Pr => pyD (prD p)) (fun a b c h1 h2 => by
      rw [e0] at h1 h2 ⊢
      have h1 := of_decide_eq_true h1
      have h2 := of_decide_eq_true h2
      exact decide_eq_true (by omega)) (fun a b => by
      rw [e0, Bool.or_eq_true]
      by_cases z : a.1 < b.1 ∨ (a.1 = b.1 ∧ a.2 ≤ b.2)
      · exact .inl (decide_eq_true z)
      · exact .inr (decide_eq_true (by omega))) ps
    refine (pw.and nd').imp fun {a b} ⟨h1, h2⟩ => ?_
    rw [e0] at h1
    have h1 := of_decide_eq_true h1
    unfold lexP
    by_cases z : a.1 < b.1
    · exact .inl z
    · refine .inr ⟨by omega, ?_⟩
      by_cases z2 : a.2 = b.2
      · exact absurd (Prod.ext (by omega) z2) h2
      · omega
  · exact (List.map_mergeSort (r := PySem.W.dataLe false fun p : Pr => pyD (prD p)) (s := PySem.W.dataLe false pyD) (f := prD) fun a _ b _ => rfl).symm
theorem dl_inner {CW CE : Addr} {Dd : DEnds} {v1 v2 v3 v4 v6 v7 v8 : Slot} {many : Nat} (m1 : 1 ≤ many) (m2 : many ≤ 100) : ∀ (xs : List Int) (ps : List Pr) (x10 : Slot), ps.Nodup → ps.length + xs.length ≤ 100 →
    (∀ ps' y10, ps'.Nodup → ps'.length ≤ ps.length + xs.length → (∀ p ∈ ps, p ∈ ps') → (∀ p ∈ ps', p ∈ ps ∨ (p.1 ∈ xs ∧ 0 ≤ p.2 ∧ p.2 < many)) → Dd.nx [.sh .die, v1, v2, v3, v4, .sh (D.int many), v6, v7, v8, .ow (.d (psD ps')), y10]) →
    tdForL (tgName 10) (td_law_dealer_b1 CW CE) (xs.map D.int) Dd [.sh .die, v1, v2, v3, v4, .sh (D.int many), v6, v7, v8, .ow (.d (psD ps)), x10]
  | [], ps, x10, nd, hl, q => q ps x10 nd (Nat.le_refl _) (fun p h => h) fun p h => .inl h
  | x :: xs, ps, x10, nd, hl, q => by
    rw [List.length_cons] at hl
    refine ⟨rfl, rfl, many, rfl, by omega, by omega, fun n n0 n1 => ⟨rfl, sz (show 2 ≤ 16777216 by decide), prK (x, n), rfl, kk_ps _ _, ?_, ?_⟩⟩
    · have : (psD ps).length = ps.length := by unfold psD; rw [List.length_map]
      exact szl (by omega)
    show tdForL (tgName 10) (td_law_dealer_b1 CW CE) (xs.map D.int) Dd [_, _, _, _, _, _, _, _, _, .ow (.d (aput (psD ps) (prK (x, n)) (D.bl true))), _]
    rw [psD_put]
    have n2 : (if (x, n) ∈ ps then ps else ps ++ [(x, n)]).Nodup := by
      split
      · exact nd
      · rename_i h
        exact nodup_snoc nd h
    have l2 : (if (x, n) ∈ ps then ps else ps ++ [(x, n)]).length ≤ ps.length + 1 := by
      split
      · omega
      · rw [List.length_append]; exact Nat.le_refl _
    have mm : ∀ y, y ∈ (if (x, n) ∈ ps then ps else ps ++ [(x, n)]) ↔ y ∈ ps ∨ y = (x, n) := by
      intro y
      split
      · rename_i h
        exact ⟨.inl, fun z => z.elim id fun e => e ▸ h⟩
      · simp
    refine dl_inner m1 m2 xs _ _ n2 (by omega) fun ps' y10 nd' l' a' b' => q ps' y10 nd' (by rw [List.length_cons]; omega) (fun p hp => a' p ((mm p).mpr (.inl hp))) fun p hp => ?_
    rcases b' p hp with h | ⟨h, h'⟩
    · rcases (mm p).mp h with h | h
      · exact .inl h
      · subst h; exact .inr ⟨List.mem_cons_self, n0, n1⟩
    · exact .inr ⟨List.mem_cons_of_mem _ h, h'⟩
theorem dl_loop {CW CE : Addr} {Dd : DEnds} {v4 : Slot} {h c lead : Int} {many : Nat} (h1 : 1 ≤ h) (h2 : h ≤ 100) (c1 : 1 ≤ c) (c2 : c ≤ 100) (hl : lead < h) (m1 : 1 ≤ many) (m2 : many ≤ 100) : ∀ (n s : Nat) (acc : List (List Pr)) (x7 x8 x9 x10 : Slot), acc.length = s → s + n = many →
    (∀ (i : Nat) (st : List Pr), acc[i]? = some st → StOk h c lead many i st) →
    (∀ (acc' : List (List Pr)) (y7 y8 y9 y10 : Slot), acc'.length = many → (∀ (i : Nat) (st : List Pr), acc'[i]? = some st → StOk h c lead many i st) → Dd.nx [.sh .die, .sh (D.int h), .sh (D.int c), .sh (D.int lead), v4, .sh (D.int many), .ow (.l (acc'.map stD)), y7, y8, y9, y10]) →
    tdForL (tgName 7) (td_law_dealer_b2 CW CE) (ups s n) Dd [.sh .die, .sh (D.int h), .sh (D.int c), .sh (D.int lead), v4, .sh (D.int many), .ow (.l (acc.map stD)), x7, x8, x9, x10]
  | 0, s, acc, x7, x8, x9, x10, ha, hs, hst, q => q acc x7 x8 x9 x10 (by omega) hst
  | n + 1, s, acc, x7, x8, x9, x10, ha, hs, hst, q => by
    have e1 : ((s : Int) + 1) = ((s + 1 : Nat) : Int) := by omega
    have e2 : Int.fmod ((s : Int) + 1) many = (((s + 1) % many : Nat) : Int) := by rw [Int.fmod_eq_emod_of_nonneg _ (by omega), e1, Int.natCast_emod]
    have lt := Nat.mod_lt (s + 1) (show 0 < many by omega)
    refine ⟨rfl, h, c, lead, rfl, h1, h2, c1, c2, fun x xs hxs hx hys => ⟨rfl, ?_⟩⟩
    refine ⟨D.int x, atI_nn (by decide) rfl, (by omega : (many : Int) ≠ 0), rfl, sz (show 2 ≤ 16777216 by decide), rfl, prK (x, Int.fmod ((s : Int) + 1) many), rfl, kk_ps _ [], ⟨_, rfl⟩, rfl, ?_⟩
    refine ⟨rfl, ?_⟩
    have ec : cutD ((x :: xs).map D.int) (some 1) none = xs.map D.int := by
      unfold cutD
      rw [List.map_cons, List.length_cons]
      have s1 : HT.sIx ((xs.map D.int).length + 1) 0 (some 1) = 1 := by
        unfold HT.sIx
        simp
      have s2 : HT.sIx ((xs.map D.int).length + 1) ((xs.map D.int).length + 1) none = (xs.map D.int).length + 1 := rfl
      rw [s1, s2]
      show (xs.map D.int).take ((xs.map D.int).length + 1 - 1) = _
      rw [Nat.add_sub_cancel, List.take_length]
    show tdForL (tgName 10) (td_law_dealer_b1 CW CE) (cutD ((x :: xs).map D.int) (some 1) none) _ [_, _, _, _, _, _, _, _, _, .ow (.d (psD [(x, Int.fmod ((s : Int) + 1) many)])), _]
    rw [ec, e2]
    refine dl_inner (CW := CW) (CE := CE) m1 m2 xs _ _ (by simp) (by simp; omega) fun ps y10 nd l' a' b' => ?_
    simp only [List.length_cons, List.length_nil] at l'
    have ek : (psD ps).map (fun kv => ofKey kv.1) = ps.map prD := by unfold psD; rw [List.map_map]; rfl
    obtain ⟨rs, p, pw, er⟩ := prs_srt nd
    have hm : ∀ y, y ∈ rs ↔ y ∈ ps := fun y => p.mem_iff
    refine ⟨?_, ?_⟩
    · show CanSort ((psD ps).map fun kv => ofKey kv.1)
      rw [ek]
      exact can_prs (sz (by omega))
    refine ⟨rfl, by rw [List.length_map]; exact szl (by omega), ?_⟩
    show tdForL (tgName 7) (td_law_dealer_b2 CW CE) (ups ((s : Int) + 1) n) Dd [_, _, _, _, _, _, .ow (.l (acc.map stD ++ [D.t (srtD ((psD ps).map fun kv => ofKey kv.1))])), _, _, _, _]
    rw [ek, er, e1, show acc.map stD ++ [D.t (rs.map prD)] = (acc ++ [rs]).map stD by rw [List.map_append]; rfl]
    refine dl_loop h1 h2 c1 c2 hl m1 m2 n (s + 1) (acc ++ [rs]) _ _ _ _ (by rw [List.length_append, ha]; rfl) (by omega) (fun i st e => ?_) q
    by_cases hi : i < acc.length
    · rw [List.getElem?_append_left hi] at e
      exact hst i st e
    · have : i = acc.length := by
        have := (List.getElem?_eq_some_iff.mp e).1
        rw [List.length_append, List.length_singleton] at this
        omega
      subst this
      rw [List.getElem?_append_right (Nat.le_refl _), Nat.sub_self] at e
      have e : some rs = some st := e
      cases e
      rw [ha]
      have in0 : (x, (((s + 1) % many : Nat) : Int)) ∈ rs := (hm _).mpr (a' _ (List.mem_singleton.mpr rfl))
      have lr := p.length_eq
      refine ⟨List.length_pos_of_mem in0, by omega, pw, fun y hy => ?_, ⟨_, in0, rfl, ?_⟩⟩
      · rcases b' y ((hm y).mp hy) with z | ⟨z, z'⟩
        · rw [List.mem_singleton.mp z]
          simp only
          rcases hx with hx | hx <;> omega
        · have := hys _ z
          omega
      · simp only
        rcases hx with hx | hx
        · exact .inr hx
        · exact .inl hx.2
theorem len_law_dealer {CW CE : Addr} : ∀ (ds : List D) (Qd : D → Prop), pp_law_dealer CW CE ds Qd → ds.length = 5 := fun ds Qd ⟨_, _, _, _, e, _⟩ => by rw [e]; rfl
theorem hp_law_dealer {CW CE : Addr} : ∀ (ds : List D) (Qd : D → Prop), pp_law_dealer CW CE ds Qd → td_law_dealer CW CE { nx := fun _ => Qd (.a .non), rt := Qd } (env0 11 ds) := by
  rintro ds Qd ⟨h, c, lead, most, rfl, h1, h2, c1, c2, hl, m1, m2, q⟩
  refine ⟨rfl, most, rfl, m1, by omega, fun n n0 n1 => ⟨rfl, ?_⟩⟩
  refine ⟨rfl, sz (show 0 ≤ 16777216 by decide), rfl, ?_⟩
  show -(2 ^ 62) ≤ (1 + n) ∧ _
  refine ⟨by omega, by omega, ?_⟩
  obtain ⟨many, em⟩ : ∃ many : Nat, 1 + n = (many : Int) := ⟨(1 + n).toNat, by omega⟩
  show tdForL (tgName 7) (td_law_dealer_b2 CW CE) (ups 0 (1 + n).toNat) _ [_, _, _, _, _, .sh (D.int (1 + n)), .ow (.l []), _, _, _, _]
  rw [em, Int.toNat_natCast]
  refine dl_loop (CW := CW) (CE := CE) h1 h2 c1 c2 hl (by omega) (by omega) many 0 [] _ _ _ _ rfl (by omega) (fun i st e => by simp at e) fun acc y7 y8 y9 y10 ha hst => ?_
  rw [← ha] at hst
  exact q acc (by omega) (by omega) hst
end DL
set_option Elab.async false
set_option linter.all false
set_option maxRecDepth 100000
set_option exponentiation.threshold 20000
namespace DL
open PySem PySem.Spec PyProof.Rows L2
/-! the law draws webs and loads; its own moves -/
def GoodD (n c lead : Int) (d : List (List Pr)) : Prop := 1 ≤ d.length ∧ d.length ≤ 3 ∧ ∀ (s : Nat) (st : List Pr), d[s]? = some st → StOk n c lead d.length s st
def pp_law_web (CW CE : Addr) : PP := fun ds Q => ds = [.die, D.int 1, D.int 3, D.int 3] ∧ ∀ (c : Int) (dl : Dl), WOk c dl → Q (.t [D.int c, dlD dl])
def pp_law_load (CW CE : Addr) : PP := fun ds Q => ∃ (dl : Dl) (most : Int), ds = [.die, dlD dl, D.int most, D.int 0] ∧ dl.length ≤ 3 ∧ 0 ≤ most ∧ most ≤ 3 ∧ ∀ load : List Nat, load.length = dl.length → (∀ x ∈ load, x ≤ 3) → Q (natsD load)
def pp_law_behind (CW CE : Addr) : PP := fun ds Q => ∃ (c : Int) (dl : Dl) (t : Tri) (h n e : Nat) (p : Pr), ds = [dlD dl, triD t, D.int h, D.int n] ∧ WOk c dl ∧ TriOk c dl t ∧ 0 < t.1[h]?.getD 0 ∧ t.2.1[h]? = some e ∧ at3 dl h e n = some p ∧ Q (triD (behindP t h p))
def td_law_web_b1 (CW CE : Addr) : TDS := (tdAppPop 7 6 (tdCall (pp_law_draw CW CE) (tdCons (tdVar 0) (tdCons (tdCB rdLen (tdCons (tdVar 7) tdNil)) tdNil))))
def td_law_web_b2 (CW CE : Addr) : TDS := (tdSeq (tdSet 10 (tdIf (tdB (tdOp rdGt (tdVar 8) (tdC (D.int 0)))) (tdOp rdIxA (tdVar 6) (tdCall (pp_law_draw CW CE) (tdCons (tdVar 0) (tdCons (tdVar 8) tdNil)))) (tdC (D.int (-1))))) (tdSeq (tdSet 11 (tdCall (pp_law_dealer CW CE) (tdCons (tdVar 0) (tdCons (tdVar 4) (tdCons (tdVar 5) (tdCons (tdVar 10) (tdCons (tdVar 3) tdNil))))))) (tdLSet 9 (tdVar 11) (tdOp rdIxA (tdVar 6) (tdVar 8)))))
def td_law_web_s7 (CW CE : Addr) : TDS := (tdRet (tdTup (tdCons (tdVar 5) (tdCons (tdCB rdTuple (tdCons (tdVar 9) tdNil)) tdNil))))
def td_law_web_s6 (CW CE : Addr) : TDS := (tdSeq (tdFor (tdiRng1 (tdCons (tdVar 4) tdNil)) (tgName 8) (td_law_web_b2 CW CE)) (td_law_web_s7 CW CE))
def td_law_web_s5 (CW CE : Addr) : TDS := (tdSeq (tdSet 9 (tdLc (tdiRng1 (tdCons (tdVar 4) tdNil)) (tgName 12) tdYes (tdTup tdNil) [12])) (td_law_web_s6 CW CE))
def td_law_web_s4 (CW CE : Addr) : TDS := (tdSeq (tdFor (tdiRng1 (tdCons (tdVar 4) tdNil)) (tgName 8) (td_law_web_b1 CW CE)) (td_law_web_s5 CW CE))
def td_law_web_s3 (CW CE : Addr) : TDS := (tdSeq (tdSet 7 (tdListRange (tdVar 4))) (td_law_web_s4 CW CE))
def td_law_web_s2 (CW CE : Addr) : TDS := (tdSeq (tdSet 6 (tdLst tdNil)) (td_law_web_s3 CW CE))
def td_law_web_s1 (CW CE : Addr) : TDS := (tdSeq (tdSet 5 (tdOp rdAdd (tdC (D.int 1)) (tdCall (pp_law_draw CW CE) (tdCons (tdVar 0) (tdCons (tdC (D.int 3)) tdNil))))) (td_law_web_s2 CW CE))
def td_law_web (CW CE : Addr) : TDS := (tdSeq (tdSet 4 (tdOp rdAdd (tdVar 1) (tdCall (pp_law_draw CW CE) (tdCons (tdVar 0) (tdCons (tdOp rdAdd (tdOp rdSub (tdVar 2) (tdVar 1)) (tdC (D.int 1))) tdNil))))) (td_law_web_s1 CW CE))
def td_law_load (CW CE : Addr) : TDS := (tdRet (tdCB rdTuple (tdCons (tdLc (tdiT (tdVar 1)) (tgName 4) tdYes (tdOp rdAdd (tdVar 3) (tdCall (pp_law_draw CW CE) (tdCons (tdVar 0) (tdCons (tdOp rdAdd (tdOp rdSub (tdVar 2) (tdVar 3)) (tdC (D.int 1))) tdNil)))) [4]) tdNil)))
def td_law_behind_s5 (CW CE : Addr) : TDS := (tdRet (tdTup (tdCons (tdCB rdTuple (tdCons (tdVar 4) tdNil)) (tdCons (tdCB rdTuple (tdCons (tdVar 5) tdNil)) (tdCons (tdCB rdTuple (tdCons (tdVar 6) tdNil)) tdNil)))))
def td_law_behind_s4 (CW CE : Addr) : TDS := (tdSeq (tdIfS (tdB (tdOp rdLt (tdVar 7) (tdC (D.int 0)))) (tdLSet 6 (tdOp rdAdd (tdOp rdIxA (tdVar 6) (tdOp rdSub (tdC (D.int (-1))) (tdVar 7))) (tdC (D.int 1))) (tdOp rdSub (tdC (D.int (-1))) (tdVar 7))) (tdLSet 4 (tdOp rdAdd (tdOp rdIxA (tdVar 4) (tdVar 7)) (tdC (D.int 1))) (tdVar 7))) (td_law_behind_s5 CW CE))
def td_law_behind_s3 (CW CE : Addr) : TDS := (tdSeq (tdLSet 5 (tdVar 8) (tdVar 2)) (td_law_behind_s4 CW CE))
def td_law_behind_s2 (CW CE : Addr) : TDS := (tdSeq (tdLSet 4 (tdOp rdSub (tdOp rdIxA (tdVar 4) (tdVar 2)) (tdC (D.int 1))) (tdVar 2)) (td_law_behind_s3 CW CE))
def td_law_behind_s1 (CW CE : Addr) : TDS := (tdSeq (tdAsg (tdOp rdIxA (tdOp rdIxA (tdOp rdIxA (tdVar 0) (tdVar 2)) (tdOp rdIxA (tdVar 5) (tdVar 2))) (tdVar 3)) (tgTup 2 (tgCons (tgName 7) (tgCons (tgName 8) tgNil)))) (td_law_behind_s2 CW CE))
def td_law_behind (CW CE : Addr) : TDS := (tdSeq (tdCopy3 4 5 6 [9] (tdiT (tdVar 1)) (tgName 9) (tdCB rdList (tdCons (tdVar 9) tdNil))) (td_law_behind_s1 CW CE))
theorem len_law_web {CW CE : Addr} : ∀ (ds : List D) (Qd : D → Prop), pp_law_web CW CE ds Qd → ds.length = 4 := fun ds Qd ⟨e, _⟩ => by rw [e]; rfl
theorem erase_perm {α : Type} : ∀ {xs : List α} {i : Nat} {z : α}, xs[i]? = some z → (z :: xs.eraseIdx i).Perm xs
  | [], _, _, e => by simp at e
  | a :: r, 0, z, e => by simp at e; subst e; exact .refl _
  | a :: r, i + 1, z, e => by
    rw [List.eraseIdx_cons_succ]
    exact (List.Perm.swap a z _).trans ((erase_perm (xs := r) (i := i) (by simpa using e)).cons a)
theorem erase_map {α β : Type} {f : α → β} : ∀ {xs : List α} {i : Nat}, (xs.map f).eraseIdx i = (xs.eraseIdx i).map f
  | [], _ => rfl
  | _ :: _, 0 => rfl
  | x :: xs, i + 1 => by
    rw [List.map_cons, List.eraseIdx_cons_succ, List.eraseIdx_cons_succ, List.map_cons, erase_map]
theorem wb_loop1 {CW CE : Addr} {Dd : DEnds} {v1 v2 v3 v4 v5 v9 v10 v11 v12 : Slot} : ∀ (m : Nat) (lo : Int) (os ls : List Nat) (x8 : Slot), ls.length = m → os.length + ls.length ≤ 100 →
    (∀ (os' : List Nat) (y8 : Slot), os'.Perm (os ++ ls) → Dd.nx [.sh .die, v1, v2, v3, v4, v5, .ow (.l (os'.map natI)), .ow (.l []), y8, v9, v10, v11, v12]) →
    tdForL (tgName 8) (td_law_web_b1 CW CE) (ups lo m) Dd [.sh .die, v1, v2, v3, v4, v5, .ow (.l (os.map natI)), .ow (.l (ls.map natI)), x8, v9, v10, v11, v12]
  | 0, lo, os, ls, x8, hm, hl, q => by
    have e : ls = [] := List.eq_nil_of_length_eq_zero hm
    subst e
    exact q os x8 (by rw [List.append_nil])
  | m + 1, lo, os, ls, x8, hm, hl, q => by
    have el : (ls.map natI).length = ls.length := List.length_map _
    refine ⟨rfl, ((ls.map natI).length : Nat), rfl, by omega, by omega, fun k k0 k1 => ⟨k0, k1, by omega, by rw [List.length_map]; exact szl (by omega), fun z hz => ?_⟩⟩
    rw [List.getElem?_map] at hz
    cases ez : ls[k.toNat]? with
    | none => rw [ez] at hz; cases hz
    | some x =>
      rw [ez] at hz
      cases hz
      have e1 : (ls.map natI).eraseIdx k.toNat = (ls.eraseIdx k.toNat).map natI := erase_map
      show tdForL (tgName 8) (td_law_web_b1 CW CE) (ups (lo + 1) m) Dd [_, _, _, _, _, _, .ow (.l (os.map natI ++ [natI x])), .ow (.l ((ls.map natI).eraseIdx k.toNat)), _, _, _, _, _]
      rw [e1, show os.map natI ++ [natI x] = (os ++ [x]).map natI by rw [List.map_append]; rfl]
      have hp := erase_perm ez
      have hlen := hp.length_eq
      rw [List.length_cons] at hlen
      refine wb_loop1 m (lo + 1) (os ++ [x]) (ls.eraseIdx k.toNat) _ (by omega) (by rw [List.length_append, List.length_singleton]; omega) fun os' y8 p => q os' y8 (p.trans ?_)
      rw [List.append_assoc]
      exact hp.append_left os
def WInv (n c : Int) (os : List Nat) (dls : Dl) (k : Nat) : Prop := ∀ (j h : Nat), j < k → os[j]? = some h → ∃ (d : List (List Pr)) (lead : Int), dls[h]? = some d ∧ GoodD n c lead d ∧ (0 ≤ lead → ∃ i, i < j ∧ os[i]? = some lead.toNat)
theorem wb_loop2 {CW CE : Addr} {Dd : DEnds} {v1 v2 v7 v12 : Slot} {n : Nat} {c : Int} {os : List Nat} (n1 : 1 ≤ n) (n2 : n ≤ 3) (c1 : 1 ≤ c) (c2 : c ≤ 3) (ho : os.Perm (List.range n)) : ∀ (m k : Nat) (dls : Dl) (x8 x10 x11 : Slot), k + m = n → dls.length = n → WInv n c os dls k →
    (∀ (dls' : Dl) (y8 y10 y11 : Slot), dls'.length = n → WInv n c os dls' n → Dd.nx [.sh .die, v1, v2, .sh (D.int 3), .sh (D.int n), .sh (D.int c), .ow (.l (os.map natI)), v7, y8, .ow (.l (dls'.map dealerD)), y10, y11, v12]) →
    tdForL (tgName 8) (td_law_web_b2 CW CE) (ups k m) Dd [.sh .die, v1, v2, .sh (D.int 3), .sh (D.int n), .sh (D.int c), .ow (.l (os.map natI)), v7, x8, .ow (.l (dls.map dealerD)), x10, x11, v12]
  | 0, k, dls, x8, x10, x11, hk, hd, inv, q => by
    have : k = n := by omega
    subst this
    exact q dls x8 x10 x11 hd inv
  | m + 1, k, dls, x8, x10, x11, hk, hd, inv, q => by
    have hlen : os.length = n := by rw [ho.length_eq, List.length_range]
    have lt : ∀ h ∈ os, h < n := fun h hh => List.mem_range.mp (ho.mem_iff.mp hh)
    have nd : os.Nodup := ho.nodup_iff.mpr List.nodup_range
    have ek : os[k]? = some (os[k]'(by omega)) := List.getElem?_eq_getElem (by omega)
    have hkn := lt _ (List.mem_of_getElem? ek)
    have e1 : ((k : Int) + 1) = ((k + 1 : Nat) : Int) := by omega
    have key : ∀ lead : Int, lead < n → (0 ≤ lead → ∃ i, i < k ∧ os[i]? = some lead.toNat) → (tdSeq (tdSet 11 (tdCall (pp_law_dealer CW CE) (tdCons (tdVar 0) (tdCons (tdVar 4) (tdCons (tdVar 5) (tdCons (tdVar 10) (tdCons (tdVar 3) tdNil))))))) (tdLSet 9 (tdVar 11) (tdOp rdIxA (tdVar 6) (tdVar 8))))
        { nx := fun E2 => tdForL (tgName 8) (td_law_web_b2 CW CE) (ups ((k : Int) + 1) m) Dd E2, ct := fun E2 => tdForL (tgName 8) (td_law_web_b2 CW CE) (ups ((k : Int) + 1) m) Dd E2, bk := Dd.nx, rt := Dd.rt }
        [.sh .die, v1, v2, .sh (D.int 3), .sh (D.int n), .sh (D.int c), .ow (.l (os.map natI)), v7, .sh (D.int k), .ow (.l (dls.map dealerD)), .sh (D.int lead), x11, v12] := fun lead hlead hlt => by
      refine ⟨rfl, n, c, lead, 3, rfl, by omega, by omega, c1, by omega, hlead, by decide, by decide, fun d d1 d3 hst => ⟨rfl, ?_⟩⟩
      refine ⟨rfl, natI (os[k]'(by omega)), natsD_get ek, os[k]'(by omega), ?_, ?_⟩
      · exact ixN_nat (by rw [List.length_map]; omega)
      show tdForL (tgName 8) (td_law_web_b2 CW CE) (ups ((k : Int) + 1) m) Dd [_, _, _, _, _, _, _, _, _, .ow (.l ((dls.map dealerD).set (os[k]'(by omega)) (dealerD d))), _, _, _]
      rw [← List.map_set, e1]
      refine wb_loop2 n1 n2 c1 c2 ho m (k + 1) (dls.set (os[k]'(by omega)) d) _ _ _ (by omega) (by rw [List.length_set]; exact hd) (fun j h hj eh => ?_) q
      by_cases hjk : j = k
      · subst hjk
        rw [ek] at eh; cases eh
        exact ⟨d, lead, List.getElem?_set_self (by omega), ⟨d1, by omega, hst⟩, hlt⟩
      · obtain ⟨d', lead', a1, a2, a3⟩ := inv j h (by omega) eh
        have ne : os[k]'(by omega) ≠ h := fun z => hjk (by
          subst z
          have h1 := List.Nodup.idxOf_getElem nd k (by omega)
          obtain ⟨hj', e'⟩ := List.getElem?_eq_some_iff.mp eh
          have h2 := List.Nodup.idxOf_getElem nd j hj'
          rw [e'] at h2
          omega)
        exact ⟨d', lead', by rw [List.getElem?_set_ne ne]; exact a1, a2, a3⟩
    refine ifI (p := (0 : Int) < k) (fun h0 => ?_) (fun h0 => ?_)
    · refine ⟨rfl, k, rfl, by omega, by omega, fun i i0 i1 => ?_⟩
      have hi : i.toNat < os.length := by omega
      have ei : os[i.toNat]? = some (os[i.toNat]'hi) := List.getElem?_eq_getElem hi
      have li := lt _ (List.mem_of_getElem? ei)
      refine ⟨natI (os[i.toNat]'hi), atI_nn i0 (by rw [List.getElem?_map, ei]; rfl), rfl, ?_⟩
      exact key _ (by omega) fun _ => ⟨i.toNat, by omega, by rw [Int.toNat_natCast]; exact ei⟩
    · exact ⟨rfl, key (-1) (by omega) fun z => absurd z (by decide)⟩
theorem web_ok {n : Nat} {c : Int} {os : List Nat} {dls : Dl} (n1 : 1 ≤ n) (n2 : n ≤ 3) (c1 : 1 ≤ c) (c2 : c ≤ 3) (ho : os.Perm (List.range n)) (hd : dls.length = n) (inv : WInv n c os dls n) : WOk c dls := by
  have hlen : os.length = n := by rw [ho.length_eq, List.length_range]
  have nd : os.Nodup := ho.nodup_iff.mpr List.nodup_range
  have fa : ∀ (h : Nat) (d : List (List Pr)), dls[h]? = some d → ∃ (j : Nat) (lead : Int), os[j]? = some h ∧ GoodD n c lead d ∧ (0 ≤ lead → ∃ i, i < j ∧ os[i]? = some lead.toNat) := fun h d e => by
    have hh := (List.getElem?_eq_some_iff.mp e).1
    have hm : h ∈ os := ho.mem_iff.mpr (List.mem_range.mpr (by omega))
    obtain ⟨j, hj, ej⟩ := List.getElem_of_mem hm
    have ej' : os[j]? = some h := by rw [List.getElem?_eq_getElem hj, ej]
    obtain ⟨d', lead, a1, a2, a3⟩ := inv j h (by omega) ej'
    rw [e] at a1; cases a1
    exact ⟨j, lead, ej', a2, a3⟩
  have fm : ∀ d ∈ dls, ∃ lead, GoodD n c lead d := fun d hm => by
    obtain ⟨h, hh, e⟩ := List.getElem_of_mem hm
    obtain ⟨_, lead, _, g, _⟩ := fa h d (by rw [List.getElem?_eq_getElem hh, e])
    exact ⟨lead, g⟩
  have fs : ∀ d ∈ dls, ∀ st ∈ d, ∃ lead s, StOk n c lead d.length s st := fun d hm st hs => by
    obtain ⟨lead, _, _, g⟩ := fm d hm
    obtain ⟨s, hs', e⟩ := List.getElem_of_mem hs
    exact ⟨lead, s, g s st (by rw [List.getElem?_eq_getElem hs', e])⟩
  have ix : ∀ {j h : Nat}, os[j]? = some h → os.idxOf h = j := fun {j h} e => by
    obtain ⟨hj, e⟩ := List.getElem?_eq_some_iff.mp e
    rw [← e]
    exact List.Nodup.idxOf_getElem nd j hj
  refine ⟨c1, c2, by omega, by omega, fun d hm => ?_, fun d hm => ?_, fun d hm st hs => ?_, fun d hm st hs => ?_, fun d hm st hs p hp => ?_, fun d hm st hs p hp => ?_, fun d hm st hs => ?_, fun h => os.idxOf h, fun h s d st e1 e2 => ?_⟩
  · obtain ⟨_, g, _⟩ := fm d hm; exact g
  · obtain ⟨_, _, g, _⟩ := fm d hm; exact g
  · obtain ⟨_, _, g⟩ := fs d hm st hs; exact g.l1
  · obtain ⟨_, _, g⟩ := fs d hm st hs; exact g.l3
  · obtain ⟨_, _, g⟩ := fs d hm st hs
    have := g.ok p hp
    exact ⟨this.1, by rw [hd]; exact this.2.1⟩
  · obtain ⟨_, _, g⟩ := fs d hm st hs
    have := g.ok p hp
    exact ⟨this.2.2.1, this.2.2.2⟩
  · obtain ⟨_, _, g⟩ := fs d hm st hs; exact g.up
  · obtain ⟨j, lead, ej, g, hl⟩ := fa h d e1
    obtain ⟨p, hp, a1, a2⟩ := (g.2.2 s st e2).on
    refine ⟨p, hp, a1, ?_⟩
    rcases a2 with a2 | ⟨a2, a3⟩
    · exact .inl a2
    · obtain ⟨i, hi, ei⟩ := hl a2
      refine .inr ?_
      show os.idxOf p.1.toNat < os.idxOf h
      rw [a3, ix ei, ix ej]
      exact hi
theorem ups_nats (n : Nat) : ups 0 n = (List.range n).map natI := by
  apply List.ext_getElem?
  intro i
  rw [List.getElem?_map]
  by_cases hi : i < n
  · rw [ups_get _ _ _ hi, List.getElem?_range hi]
    show some (D.int (0 + i)) = some (natI i)
    rw [Int.zero_add]; rfl
  · rw [List.getElem?_eq_none (by rw [ups_length]; omega), List.getElem?_eq_none (by rw [List.length_range]; omega)]; rfl
theorem hp_law_web {CW CE : Addr} : ∀ (ds : List D) (Qd : D → Prop), pp_law_web CW CE ds Qd → td_law_web CW CE { nx := fun _ => Qd (.a .non), rt := Qd } (env0 13 ds) := by
  rintro ds Qd ⟨rfl, q⟩
  refine ⟨rfl, 3, rfl, by decide, by decide, fun a a0 a1 => ⟨rfl, ?_⟩⟩
  obtain ⟨n, en⟩ : ∃ n : Nat, 1 + a = (n : Int) := ⟨(1 + a).toNat, by omega⟩
  dsimp only
  show td_law_web_s1 CW CE _ [_, _, _, _, .sh (D.int (1 + a)), _, _, _, _, _, _, _, _]
  rw [en]
  refine ⟨rfl, 3, rfl, by decide, by decide, fun b b0 b1 => ⟨rfl, ?_⟩⟩
  refine ⟨rfl, sz (show 0 ≤ 16777216 by decide), rfl, ?_⟩
  refine ⟨(show (0 : Int) ≤ n by omega), (show (n : Int) ≤ 1000 by omega), rfl, ?_⟩
  dsimp only
  show td_law_web_s4 CW CE _ [_, _, _, _, _, _, _, .ow (.l (ups 0 (n : Int).toNat)), _, _, _, _, _]
  rw [Int.toNat_natCast, ups_nats]
  refine ⟨(show -(2 ^ 62) ≤ (n : Int) by omega), (show (n : Int) < 2 ^ 62 by omega), ?_⟩
  show tdForL _ _ (ups 0 (n : Int).toNat) _ _
  rw [Int.toNat_natCast]
  refine wb_loop1 (CW := CW) (CE := CE) n 0 [] (List.range n) _ (List.length_range) (by rw [List.length_range]; simp; omega) fun os y8 po => ?_
  rw [List.nil_append] at po
  refine ⟨unAt1 rfl, (show -(2 ^ 62) ≤ (n : Int) by omega), (show (n : Int) < 2 ^ 62 by omega), ?_⟩
  show tdLcL _ _ _ _ (ups 0 (n : Int).toNat) [] _
  rw [Int.toNat_natCast]
  refine lcL_map (fun _ => D.t []) .sh rfl _ _ _ (fun x hx C hc => ⟨rfl, sz (show 0 ≤ 16777216 by decide), hc⟩) (by rw [ups_length]; exact sz (by simp; omega)) ?_
  have ed : [] ++ (ups 0 n).map (fun _ => D.t []) = ((List.replicate n ([] : List (List Pr))).map dealerD) := by
    rw [List.nil_append, ups_nats, List.map_map]
    apply List.ext_getElem?
    intro i
    rw [List.getElem?_map, List.getElem?_map]
    by_cases hi : i < n
    · rw [List.getElem?_range hi, List.getElem?_replicate, if_pos hi]; rfl
    · rw [List.getElem?_eq_none (by rw [List.length_range]; omega), List.getElem?_eq_none (by rw [List.length_replicate]; omega)]; rfl
  rw [ed]
  refine ⟨rfl, ?_⟩
  refine ⟨(show -(2 ^ 62) ≤ (n : Int) by omega), (show (n : Int) < 2 ^ 62 by omega), ?_⟩
  show tdForL _ _ (ups 0 (n : Int).toNat) _ _
  rw [Int.toNat_natCast]
  refine wb_loop2 (CW := CW) (CE := CE) (n := n) (c := 1 + b) (by omega) (by omega) (by omega) (by omega) po n 0 _ _ _ _ (by omega) List.length_replicate (fun j h hj => absurd hj (Nat.not_lt_zero _)) fun dls z8 z10 z11 hd inv => ?_
  exact ⟨rfl, sz (show 2 ≤ 16777216 by decide), q (1 + b) dls (web_ok (by omega) (by omega) (by omega) (by omega) po hd inv)⟩
/-! loads -/
theorem len_law_load {CW CE : Addr} : ∀ (ds : List D) (Qd : D → Prop), pp_law_load CW CE ds Qd → ds.length = 4 := fun ds Qd ⟨_, _, e, _⟩ => by rw [e]; rfl
theorem ld_loop {CW CE : Addr} {v1 : Slot} {most : Int} (m0 : 0 ≤ most) (m3 : most ≤ 3) : ∀ (xs : List D) (acc : List Nat) (Q : List D → Prop), acc.length + xs.length ≤ 100 → (∀ x ∈ acc, x ≤ 3) → (∀ ys : List Nat, ys.length = acc.length + xs.length → (∀ x ∈ ys, x ≤ 3) → Q (ys.map natI)) →
    tdLcL (tgName 4) tdYes (tdOp rdAdd (tdVar 3) (tdCall (pp_law_draw CW CE) (tdCons (tdVar 0) (tdCons (tdOp rdAdd (tdOp rdSub (tdVar 2) (tdVar 3)) (tdC (D.int 1))) tdNil)))) [.sh .die, v1, .sh (D.int most), .sh (D.int 0), .un] xs (acc.map natI) Q
  | [], acc, Q, _, h3, q => q acc (by simp) h3
  | x :: xs, acc, Q, hl, h3, q => by
    rw [List.length_cons] at hl
    refine ⟨rfl, most - 0 + 1, rfl, by omega, by omega, fun n n0 n1 => ⟨rfl, by rw [List.length_map]; exact szl (by omega), ?_⟩⟩
    have e : (D.a (V.int (0 + n))) = natI n.toNat := by
      unfold natI
      rw [show ((n.toNat : Nat) : Int) = 0 + n by omega]
    show tdLcL _ _ _ _ xs (acc.map natI ++ [D.a (V.int (0 + n))]) Q
    rw [e, show acc.map natI ++ [natI n.toNat] = (acc ++ [n.toNat]).map natI by rw [List.map_append]; rfl]
    refine ld_loop m0 m3 xs (acc ++ [n.toNat]) Q (by rw [List.length_append, List.length_singleton]; omega) (fun y hy => ?_) fun ys e h => q ys (by rw [List.length_append, List.length_singleton] at e; rw [List.length_cons]; omega) h
    rcases List.mem_append.mp hy with z | z
    · exact h3 y z
    · rw [List.mem_singleton.mp z]; omega
theorem hp_law_load {CW CE : Addr} : ∀ (ds : List D) (Qd : D → Prop), pp_law_load CW CE ds Qd → td_law_load CW CE { nx := fun _ => Qd (.a .non), rt := Qd } (env0 5 ds) := by
  rintro ds Qd ⟨dl, most, rfl, hl, m0, m3, q⟩
  refine ⟨unAt1 rfl, rfl, ?_⟩
  refine ld_loop (CW := CW) (CE := CE) m0 m3 (dl.map dealerD) [] _ (by rw [List.length_map]; simp; omega) (fun x h => nomatch h) fun ys e h3 => ?_
  exact q ys (by rw [e, List.length_map]; simp) h3
/-! its own moves -/
theorem len_law_behind {CW CE : Addr} : ∀ (ds : List D) (Qd : D → Prop), pp_law_behind CW CE ds Qd → ds.length = 4 := fun ds Qd ⟨_, _, _, _, _, _, _, e, _⟩ => by rw [e]; rfl
theorem hp_law_behind {CW CE : Addr} : ∀ (ds : List D) (Qd : D → Prop), pp_law_behind CW CE ds Qd → td_law_behind CW CE { nx := fun _ => Qd (.a .non), rt := Qd } (env0 10 ds) := by
  rintro ds Qd ⟨c, dl, ⟨wt, en, cu⟩, h, n, e, ⟨door, later⟩, rfl, w, ok, h0, he, ha, q⟩
  obtain ⟨d, st, e1, e2, e3⟩ := at3_some ha
  have hh := (List.getElem?_eq_some_iff.mp e1).1
  have l1 := ok.l1
  have l2 := ok.l2
  have l3 := ok.l3
  simp only at l1 l2 l3 h0 he
  have hdr := w.dr d (List.mem_of_getElem? e1) st (List.mem_of_getElem? e2) _ (List.mem_of_getElem? e3)
  have hnx := w.nx d (List.mem_of_getElem? e1) st (List.mem_of_getElem? e2) _ (List.mem_of_getElem? e3)
  simp only at hdr hnx
  have z1 : (wt.map natI).set h (.a (.int (((wt[h]?.getD 0 : Nat) : Int) - 1))) = (wt.set h (wt[h]?.getD 0 - 1)).map natI := nat_set (by omega)
  have z2 : (en.map natI).set h (.a (.int later)) = (en.set h later.toNat).map natI := nat_set (by omega)
  refine ⟨unAt1 rfl, rfl, rfl, (show 0 < 100 by decide), rfl, (show 1 < 100 by decide), rfl, (show 2 < 100 by decide), .l (wt.map natI), .l (en.map natI), .l (cu.map natI), rfl, ?_⟩
  refine ⟨dealerD d, getMap e1, D.int e, natsD_get he, stD st, getMap e2, prD (door, later), getMap e3, rfl, rfl, rfl, ?_⟩
  refine ⟨natI (wt[h]?.getD 0), natsD_get (getD_some (by omega)), rfl, h, nat_ix (by omega), ?_⟩
  dsimp only
  show td_law_behind_s3 CW CE _ [_, _, _, _, .ow (.l ((wt.map natI).set h (.a (.int (((wt[h]?.getD 0 : Nat) : Int) - 1))))), _, _, _, _, _]
  rw [z1]
  refine ⟨rfl, h, nat_ix (by omega), ?_⟩
  dsimp only
  show td_law_behind_s4 CW CE _ [_, _, _, _, _, .ow (.l ((en.map natI).set h (.a (.int later)))), _, _, _, _]
  rw [z2]
  refine ifI (p := door < 0) (fun hd => ?_) (fun hd => ?_)
  · have ed : ((-1 : Int) - door) = ((-1 - door).toNat : Nat) := by omega
    have hk : (-1 - door).toNat < cu.length := by omega
    have z3 : (cu.map natI).set (-1 - door).toNat (.a (.int (((cu[(-1 - door).toNat]?.getD 0 : Nat) : Int) + 1))) = (cu.set (-1 - door).toNat (cu[(-1 - door).toNat]?.getD 0 + 1)).map natI := nat_set (by omega)
    refine ⟨natI (cu[(-1 - door).toNat]?.getD 0), ?_, rfl, (-1 - door).toNat, ?_, ?_⟩
    · show atI (cu.map natI) (-1 - door) = _
      rw [ed]; exact natsD_get (getD_some hk)
    · show ixN (cu.map natI).length (-1 - door) = _
      rw [ed]; exact nat_ix hk
    dsimp only
    show td_law_behind_s5 CW CE _ [_, _, _, _, _, _, .ow (.l ((cu.map natI).set (-1 - door).toNat (.a (.int (((cu[(-1 - door).toNat]?.getD 0 : Nat) : Int) + 1))))), _, _, _]
    rw [z3]
    refine ⟨rfl, sz (show 3 ≤ 16777216 by decide), ?_⟩
    unfold behindP at q
    simp only [hd, if_true] at q
    exact q
  · have ed : door = ((door.toNat : Nat) : Int) := by omega
    have hk : door.toNat < (wt.set h (wt[h]?.getD 0 - 1)).length := by rw [List.length_set]; omega
    have z3 : ((wt.set h (wt[h]?.getD 0 - 1)).map natI).set door.toNat (.a (.int ((((wt.set h (wt[h]?.getD 0 - 1))[door.toNat]?.getD 0 : Nat) : Int) + 1))) = ((wt.set h (wt[h]?.getD 0 - 1)).set door.toNat ((wt.set h (wt[h]?.getD 0 - 1))[door.toNat]?.getD 0 + 1)).map natI := nat_set (by omega)
    refine ⟨natI ((wt.set h (wt[h]?.getD 0 - 1))[door.toNat]?.getD 0), ?_, rfl, door.toNat, ?_, ?_⟩
    · show atI ((wt.set h (wt[h]?.getD 0 - 1)).map natI) door = _
      rw [ed]; exact natsD_get (getD_some hk)
    · show ixN ((wt.set h (wt[h]?.getD 0 - 1)).map natI).length door = _
      rw [ed]; exact nat_ix hk
    dsimp only
    show td_law_behind_s5 CW CE _ [_, _, _, _, .ow (.l (((wt.set h (wt[h]?.getD 0 - 1)).map natI).set door.toNat (.a (.int ((((wt.set h (wt[h]?.getD 0 - 1))[door.toNat]?.getD 0 : Nat) : Int) + 1))))), _, _, _, _, _]
    rw [z3]
    refine ⟨rfl, sz (show 3 ≤ 16777216 by decide), ?_⟩
    unfold behindP at q
    simp only [hd, if_false] at q
    exact q
end DL
set_option Elab.async false
set_option linter.all false
set_option maxRecDepth 100000
set_option exponentiation.threshold 20000
namespace DL
open PySem PySem.Spec PyProof.Rows L2
/-! planted worths, leads and prices -/
def pp_law_planted (CW CE : Addr) : PP := fun ds Q => ∃ (c : Int) (dl : Dl), ds = [.die, dlD dl] ∧ WOk c dl ∧ ∀ (dW dL : D) (v : NestedKey → Rat) (ps : Prs), (∀ k, Isz 12 72 (v k)) → Tells dl ps v → PrsOk dl ps → (ps.map (·.1)).Nodup → Small12 dl ps → Q (.t [dW, dL, pricesD ps])
def td_law_planted_b1 (CW CE : Addr) : TDS := (tdAppend 7 (tdCall (pp_law_fraction CW CE) (tdCons (tdOp rdSub (tdCall (pp_law_draw CW CE) (tdCons (tdVar 0) (tdCons (tdC (D.int 13)) tdNil))) (tdC (D.int 6))) (tdCons (tdOp rdAdd (tdC (D.int 1)) (tdCall (pp_law_draw CW CE) (tdCons (tdVar 0) (tdCons (tdC (D.int 4)) tdNil)))) tdNil))))
def td_law_planted_b2 (CW CE : Addr) : TDS := (tdSeq (tdAppend 2 (tdCall (pp_law_fraction CW CE) (tdCons (tdOp rdSub (tdCall (pp_law_draw CW CE) (tdCons (tdVar 0) (tdCons (tdC (D.int 13)) tdNil))) (tdC (D.int 6))) (tdCons (tdOp rdAdd (tdC (D.int 1)) (tdCall (pp_law_draw CW CE) (tdCons (tdVar 0) (tdCons (tdC (D.int 4)) tdNil)))) tdNil)))) (tdSeq (tdSet 7 (tdLst (tdCons (tdTup (tdCons (tdC (D.int 0)) (tdCons (tdC (D.int 1)) tdNil))) tdNil))) (tdSeq (tdFor (tdiRng1 (tdCons (tdOp rdSub (tdCB rdLen (tdCons (tdVar 4) tdNil)) (tdC (D.int 1))) tdNil)) (tgName 8) (td_law_planted_b1 CW CE)) (tdAppend 3 (tdCB rdTuple (tdCons (tdVar 7) tdNil))))))
def td_law_planted_b3 (CW CE : Addr) : TDS := (tdSeq (tdSet 9 (tdCall (pp_law_door CW CE) (tdCons (tdVar 1) (tdCons (tdVar 6) tdNil)))) (tdSeq (tdSet 10 (tdCall (pp_law_sum CW CE) (tdCons (tdOp rdIxA (tdOp rdIxA (tdVar 3) (tdOp rdIxA (tdVar 6) (tdC (D.int 0)))) (tdCall (pp_law_next CW CE) (tdCons (tdVar 1) (tdCons (tdVar 6) tdNil)))) (tdCons (tdOp rdIxA (tdOp rdIxA (tdVar 3) (tdOp rdIxA (tdVar 6) (tdC (D.int 0)))) (tdOp rdIxA (tdVar 6) (tdC (D.int 1)))) (tdCons (tdC (D.int (-1))) tdNil))))) (tdSeq (tdSet 10 (tdCall (pp_law_sum CW CE) (tdCons (tdVar 10) (tdCons (tdOp rdIxA (tdVar 2) (tdOp rdIxA (tdVar 6) (tdC (D.int 0)))) (tdCons (tdC (D.int 1)) tdNil))))) (tdSeq (tdIfS (tdB (tdOp rdGe (tdVar 9) (tdC (D.int 0)))) (tdSet 10 (tdCall (pp_law_sum CW CE) (tdCons (tdVar 10) (tdCons (tdOp rdIxA (tdVar 2) (tdVar 9)) (tdCons (tdC (D.int (-1))) tdNil))))) tdNext) (tdIfS (tdOr (tdB (tdOp (rdEq not) (tdOp rdIxA (tdVar 10) (tdC (D.int 0))) (tdC (D.int 0)))) (tdB (tdOp (rdEq id) (tdCall (pp_law_draw CW CE) (tdCons (tdVar 0) (tdCons (tdC (D.int 2)) tdNil))) (tdC (D.int 0))))) (tdDSet 5 (tdVar 10) (tdVar 6)) tdNext)))))
def td_law_planted_s5 (CW CE : Addr) : TDS := (tdShare 5 (tdRet (tdTup (tdCons (tdCB rdTuple (tdCons (tdVar 2) tdNil)) (tdCons (tdCB rdTuple (tdCons (tdVar 3) tdNil)) (tdCons (tdVar 5) tdNil))))))
def td_law_planted_s4 (CW CE : Addr) : TDS := (tdSeq (tdFor (tdiL (tdCall (pp_law_steps CW CE) (tdCons (tdVar 1) tdNil))) (tgName 6) (td_law_planted_b3 CW CE)) (td_law_planted_s5 CW CE))
def td_law_planted_s3 (CW CE : Addr) : TDS := (tdSeq (tdSet 5 tdDNew) (td_law_planted_s4 CW CE))
def td_law_planted_s2 (CW CE : Addr) : TDS := (tdSeq (tdFor (tdiT (tdVar 1)) (tgName 4) (td_law_planted_b2 CW CE)) (td_law_planted_s3 CW CE))
def td_law_planted_s1 (CW CE : Addr) : TDS := (tdSeq (tdSet 3 (tdLst tdNil)) (td_law_planted_s2 CW CE))
def td_law_planted (CW CE : Addr) : TDS := (tdSeq (tdSet 2 (tdLst tdNil)) (td_law_planted_s1 CW CE))
theorem len_law_planted {CW CE : Addr} : ∀ (ds : List D) (Qd : D → Prop), pp_law_planted CW CE ds Qd → ds.length = 2 := fun ds Qd ⟨_, _, e, _⟩ => by rw [e]; rfl
abbrev Sq (q : Rat) : Prop := Isz 12 72 q
theorem frac_sq {a b : Int} (a0 : 0 ≤ a) (a1 : a < 13) (b0 : 0 ≤ b) (b1 : b < 4) : Sq (Rat.divInt (a - 6) (1 + b)) := by
  have e : ∀ x : Int, ∀ z : Int, z * (1 + b) = 12 * x → ((12 : Int) : Rat) * Rat.divInt x (1 + b) = z := fun x z h => by
    rw [Rat.divInt_eq_div]
    have hb : ((1 + b : Int) : Rat) ≠ 0 := cast_ne (by omega)
    have h' : ((z * (1 + b) : Int) : Rat) = ((12 * x : Int) : Rat) := by rw [h]
    rw [Rat.intCast_mul, Rat.intCast_mul] at h'
    grind
  have hb : b = 0 ∨ b = 1 ∨ b = 2 ∨ b = 3 := by omega
  rcases hb with rfl | rfl | rfl | rfl
  · exact ⟨12 * (a - 6), e _ _ (by omega), by omega⟩
  · exact ⟨6 * (a - 6), e _ _ (by omega), by omega⟩
  · exact ⟨4 * (a - 6), e _ _ (by omega), by omega⟩
  · exact ⟨3 * (a - 6), e _ _ (by omega), by omega⟩
theorem pl_row {CW CE : Addr} {Dd : DEnds} {v1 v2 v3 v4 v5 v6 v9 v10 : Slot} : ∀ (m : Nat) (lo : Int) (row : List Rat) (x8 : Slot), row.length + m ≤ 100 →
    (∀ (ex : List Rat) (y8 : Slot), ex.length = m → (∀ q ∈ ex, Sq q) → Dd.nx [.sh .die, v1, v2, v3, v4, v5, v6, .ow (.l ((row ++ ex).map fr)), y8, v9, v10]) →
    tdForL (tgName 8) (td_law_planted_b1 CW CE) (ups lo m) Dd [.sh .die, v1, v2, v3, v4, v5, v6, .ow (.l (row.map fr)), x8, v9, v10]
  | 0, lo, row, x8, _, q => by
    have := q [] x8 rfl (fun x h => nomatch h)
    rw [List.append_nil] at this
    exact this
  | m + 1, lo, row, x8, hl, q => by
    refine ⟨rfl, 13, rfl, by decide, by decide, fun a a0 a1 => ⟨rfl, 4, rfl, by decide, by decide, fun b b0 b1 => ⟨rfl, a - 6, 1 + b, rfl, by omega, ?_, rfl, by rw [List.length_map]; exact szl (by omega), ?_⟩⟩⟩
    · have : (1 + b).natAbs ≤ 4 := by omega
      exact Nat.lt_of_le_of_lt this (Nat.lt_of_lt_of_le (show 4 < 2 ^ 3 by decide) (Nat.pow_le_pow_right (by decide) (by decide)))
    show tdForL (tgName 8) (td_law_planted_b1 CW CE) (ups (lo + 1) m) Dd [_, _, _, _, _, _, _, .ow (.l (row.map fr ++ [fr (Rat.divInt (a - 6) (1 + b))])), _, _, _]
    rw [show row.map fr ++ [fr (Rat.divInt (a - 6) (1 + b))] = (row ++ [Rat.divInt (a - 6) (1 + b)]).map fr by rw [List.map_append]; rfl]
    refine pl_row m (lo + 1) _ _ (by rw [List.length_append, List.length_singleton]; omega) fun ex y8 he hq => ?_
    rw [List.append_assoc]
    refine q _ y8 (by rw [List.length_append, he]; simp; omega) fun x hx => ?_
    rcases List.mem_append.mp hx with z | z
    · rw [List.mem_singleton.mp z]; exact frac_sq a0 a1 b0 b1
    · exact hq x z
inductive RowsFit : Dl → List (List Rat) → Prop
  | nil : RowsFit [] []
  | cons {d : List (List Pr)} {r : Dl} {ex : List Rat} {rs : List (List Rat)} : ex.length = d.length - 1 → (∀ q ∈ ex, Sq q) → RowsFit r rs → RowsFit (d :: r) (([0] ++ ex) :: rs)
def rowD (r : List Rat) : D := .t (r.map fr)
theorem pl_loop1 {CW CE : Addr} {Dd : DEnds} {v1 v5 v6 v9 v10 : Slot} : ∀ (dl : Dl) (ws : List Rat) (rows : List (List Rat)) (x4 x7 x8 : Slot), (∀ d ∈ dl, 1 ≤ d.length ∧ d.length ≤ 3) → ws.length + dl.length ≤ 100 → rows.length + dl.length ≤ 100 →
    (∀ (ws' : List Rat) (rows' : List (List Rat)) (y4 y7 y8 : Slot), ws'.length = dl.length → (∀ q ∈ ws', Sq q) → RowsFit dl rows' → Dd.nx [.sh .die, v1, .ow (.l ((ws ++ ws').map fr)), .ow (.l ((rows ++ rows').map rowD)), y4, v5, v6, y7, y8, v9, v10]) →
    tdForL (tgName 4) (td_law_planted_b2 CW CE) (dl.map dealerD) Dd [.sh .die, v1, .ow (.l (ws.map fr)), .ow (.l (rows.map rowD)), x4, v5, v6, x7, x8, v9, v10]
  | [], ws, rows, x4, x7, x8, _, _, _, q => by
    have := q [] [] x4 x7 x8 rfl (fun x h => nomatch h) .nil
    rw [List.append_nil, List.append_nil] at this
    exact this
  | d :: r, ws, rows, x4, x7, x8, hd, hl, hl2, q => by
    obtain ⟨d1, d3⟩ := hd d List.mem_cons_self
    rw [List.length_cons] at hl hl2
    refine ⟨rfl, 13, rfl, by decide, by decide, fun a a0 a1 => ⟨rfl, 4, rfl, by decide, by decide, fun b b0 b1 => ⟨rfl, a - 6, 1 + b, rfl, by omega, ?_, rfl, by rw [List.length_map]; exact szl (by omega), ?_⟩⟩⟩
    · have : (1 + b).natAbs ≤ 4 := by omega
      exact Nat.lt_of_le_of_lt this (Nat.lt_of_lt_of_le (show 4 < 2 ^ 3 by decide) (Nat.pow_le_pow_right (by decide) (by decide)))
    refine ⟨rfl, sz (show 2 ≤ 16777216 by decide), rfl, sz (show 1 ≤ 16777216 by decide), rfl, ?_⟩
    have el : ((d.map stD).length : Int) = d.length := by rw [List.length_map]
    have e2 : (((d.map stD).length : Nat) : Int) - 1 = ((d.length - 1 : Nat) : Int) := by rw [el]; omega
    refine ⟨?_, ?_, ?_⟩
    · show -(2 ^ 62) ≤ (((d.map stD).length : Nat) : Int) - 1; rw [el]; omega
    · show (((d.map stD).length : Nat) : Int) - 1 < 2 ^ 62; rw [el]; omega
    show tdForL (tgName 8) (td_law_planted_b1 CW CE) (ups 0 ((((d.map stD).length : Nat) : Int) - 1).toNat) _ [_, _, .ow (.l (ws.map fr ++ [fr (Rat.divInt (a - 6) (1 + b))])), _, _, _, _, .ow (.l ([0].map fr)), _, _, _]
    rw [e2, Int.toNat_natCast, show ws.map fr ++ [fr (Rat.divInt (a - 6) (1 + b))] = (ws ++ [Rat.divInt (a - 6) (1 + b)]).map fr by rw [List.map_append]; rfl]
    refine pl_row (CW := CW) (CE := CE) (d.length - 1) 0 [0] _ (by simp; omega) fun ex y8 he hq => ?_
    refine ⟨rfl, by rw [List.length_map]; exact szl (by omega), ?_⟩
    show tdForL (tgName 4) (td_law_planted_b2 CW CE) (r.map dealerD) Dd [_, _, _, .ow (.l (rows.map rowD ++ [rowD ([0] ++ ex)])), _, _, _, _, _, _, _]
    rw [show rows.map rowD ++ [rowD ([0] ++ ex)] = (rows ++ [[0] ++ ex]).map rowD by rw [List.map_append]; rfl]
    refine pl_loop1 r _ _ _ _ _ (fun x hx => hd x (List.mem_cons_of_mem _ hx)) (by rw [List.length_append, List.length_singleton]; omega) (by rw [List.length_append, List.length_singleton]; omega) fun ws' rows' y4 y7 y8 h1 h2 h3 => ?_
    rw [List.append_assoc, List.append_assoc]
    refine q _ _ y4 y7 y8 (by rw [List.length_append, h1]; simp; omega) (fun x hx => ?_) (.cons he hq h3)
    rcases List.mem_append.mp hx with z | z
    · rw [List.mem_singleton.mp z]; exact frac_sq a0 a1 b0 b1
    · exact h2 x z
/-- the planted worths and leads, by their names -/
def vOf (ws : List Rat) (rows : List (List Rat)) : NestedKey → Rat
  | .tup [.num h, .num s] => if s = -1 then ws[h.toNat]?.getD 0 else (rows[h.toNat]?.getD [])[s.toNat]?.getD 0
  | _ => 0
theorem RowsFit.get {dl : Dl} {rows : List (List Rat)} (f : RowsFit dl rows) : ∀ {h : Nat} {d : List (List Pr)}, dl[h]? = some d → 1 ≤ d.length → ∃ r, rows[h]? = some r ∧ r.length = d.length ∧ r[0]? = some 0 ∧ ∀ q ∈ r, Sq q := by
  induction f with
  | nil => intro h d e; simp at e
  | @cons d0 r ex rs he hq _ ih =>
    intro h d e d1
    cases h with
    | zero =>
      simp at e; subst e
      refine ⟨_, rfl, ?_, rfl, fun q hq' => ?_⟩
      · rw [List.length_append, he]; simp; omega
      · rcases List.mem_append.mp hq' with z | z
        · rw [List.mem_singleton.mp z]; exact Isz.zero.mono (Nat.zero_le _)
        · exact hq q z
    | succ h => exact ih (h := h) (by simpa using e) d1
theorem RowsFit.all {dl : Dl} {rows : List (List Rat)} (f : RowsFit dl rows) : ∀ r ∈ rows, ∀ q ∈ r, Sq q := by
  induction f with
  | nil => intro r h; cases h
  | @cons d0 r ex rs he hq _ ih =>
    intro r hr q hx
    rcases List.mem_cons.mp hr with z | z
    · subst z
      rcases List.mem_append.mp hx with z | z
      · rw [List.mem_singleton.mp z]; exact Isz.zero.mono (Nat.zero_le _)
      · exact hq q z
    · exact ih r z q hx
theorem getD_sq {xs : List Rat} (h : ∀ q ∈ xs, Sq q) (i : Nat) : Sq (xs[i]?.getD 0) := by
  cases e : xs[i]? with
  | none => exact Isz.zero.mono (Nat.zero_le _)
  | some q => exact h q (List.mem_of_getElem? e)
theorem vOf_sq {dl : Dl} {ws : List Rat} {rows : List (List Rat)} (h1 : ∀ q ∈ ws, Sq q) (f : RowsFit dl rows) (k : NestedKey) : Sq (vOf ws rows k) := by
  have z : Sq 0 := Isz.zero.mono (Nat.zero_le _)
  unfold vOf
  split
  · split
    · exact getD_sq h1 _
    · refine getD_sq (fun q hq => ?_) _
      rename_i h s _
      cases e : rows[h.toNat]? with
      | none => rw [e] at hq; cases hq
      | some r => rw [e] at hq; exact f.all r (List.mem_of_getElem? e) q hq
  · exact z
theorem wv_vOf {ws : List Rat} {rows : List (List Rat)} {h : Nat} {q : Rat} (e : ws[h]? = some q) : wv (vOf ws rows) h = q := by
  show (if (-1 : Int) = -1 then ws[((h : Int)).toNat]?.getD 0 else (rows[((h : Int)).toNat]?.getD [])[((-1 : Int)).toNat]?.getD 0) = q
  rw [if_pos rfl, Int.toNat_natCast, e]; rfl
theorem lv_vOf {ws : List Rat} {rows : List (List Rat)} {h s : Nat} {r : List Rat} {q : Rat} (e : rows[h]? = some r) (e0 : r[0]? = some 0) (es : r[s]? = some q) : lv (vOf ws rows) h s = q := by
  unfold lv
  by_cases z : s = 0
  · subst z
    rw [e0] at es; cases es
    rw [if_pos rfl]
  · rw [if_neg z]
    show (if (s : Int) = -1 then ws[((h : Int)).toNat]?.getD 0 else (rows[((h : Int)).toNat]?.getD [])[((s : Int)).toNat]?.getD 0) = q
    rw [if_neg (by omega), Int.toNat_natCast, Int.toNat_natCast, e]
    show (r[s]?).getD 0 = q
    rw [es]; rfl
/-! prices stored -/
def encP (ps : Prs) : Rw := ps.map fun y => (stepK y.1, y.2)
theorem price_enc (ps : Prs) (x : Nat × Nat × Nat) : price ps x = look (encP ps) (stepK x) := rfl
theorem stepK_inj {x y : Nat × Nat × Nat} (h : stepK x = stepK y) : x = y := by
  unfold stepK at h
  injection h with h
  injection h with h1 h
  injection h with h2 h
  injection h with h3 h
  injection h1 with h1
  injection h2 with h2
  injection h3 with h3
  exact Prod.ext (by omega) (Prod.ext (by omega) (by omega))
theorem keys_enc (ps : Prs) : keys (encP ps) = (ps.map (·.1)).map stepK := by unfold keys encP; rw [List.map_map, List.map_map]; rfl
theorem mem_enc {ps : Prs} {x : Nat × Nat × Nat} : stepK x ∈ keys (encP ps) ↔ x ∈ ps.map (·.1) := by
  rw [keys_enc]
  constructor
  · intro h
    obtain ⟨y, hy, e⟩ := List.mem_map.mp h
    rw [← stepK_inj e]; exact hy
  · exact List.mem_map_of_mem
def putP (ps : Prs) (x : Nat × Nat × Nat) (q : Rat) : Prs := if x ∈ ps.map (·.1) then ps.map (fun y => if y.1 = x then (y.1, q) else y) else ps ++ [(x, q)]
theorem enc_put (ps : Prs) (x : Nat × Nat × Nat) (q : Rat) : encP (putP ps x q) = aput (encP ps) (stepK x) q := by
  unfold aput putP
  have e : (aget (encP ps) (stepK x)).isSome = decide (x ∈ ps.map (·.1)) := by
    rw [aget_some, decide_eq_decide]; exact mem_enc
  by_cases h : x ∈ ps.map (·.1)
  · rw [e, if_pos h, decide_eq_true h, if_pos rfl]
    unfold encP
    rw [List.map_map, List.map_map]
    apply List.map_congr_left
    intro y _
    show (fun y : (Nat × Nat × Nat) × Rat => (stepK y.1, y.2)) (if y.1 = x then (y.1, q) else y) = if stepK y.1 = stepK x then (stepK y.1, q) else (stepK y.1, y.2)
    by_cases z : y.1 = x
    · rw [if_pos z, if_pos (by rw [z])]
    · rw [if_neg z, if_neg fun z' => z (stepK_inj z')]
  · rw [e, if_neg h, decide_eq_false h, if_neg (by decide)]
    unfold encP
    rw [List.map_append]; rfl
theorem pricesD_enc (ps : Prs) : pricesD ps = frs (encP ps) := by
  unfold pricesD frs encP
  rw [List.map_map]; rfl
theorem price_put (ps : Prs) (x y : Nat × Nat × Nat) (q : Rat) : price (putP ps x q) y = if x = y then q else price ps y := by
  rw [price_enc, enc_put, look_put]
  by_cases z : x = y
  · rw [if_pos z, if_pos (by rw [z])]
  · rw [if_neg z, if_neg fun z' => z (stepK_inj z')]; rfl
theorem putP_keys (ps : Prs) (x : Nat × Nat × Nat) (q : Rat) : (putP ps x q).map (·.1) = if x ∈ ps.map (·.1) then ps.map (·.1) else ps.map (·.1) ++ [x] := by
  unfold putP
  split
  · rw [List.map_map]
    apply List.map_congr_left
    intro y _
    show (if y.1 = x then (y.1, q) else y).1 = y.1
    split <;> rfl
  · rw [List.map_append]; rfl
theorem putP_mem {ps : Prs} {x : Nat × Nat × Nat} {q : Rat} : ∀ y ∈ putP ps x q, y ∈ ps ∨ y = (x, q) := by
  intro y hy
  unfold putP at hy
  split at hy
  · obtain ⟨z, hz, e⟩ := List.mem_map.mp hy
    by_cases h : z.1 = x
    · rw [if_pos h] at e; exact .inr (by rw [← e, h])
    · rw [if_neg h] at e; exact .inl (e ▸ hz)
  · rcases List.mem_append.mp hy with h | h
    · exact .inl h
    · exact .inr (List.mem_singleton.mp h)
theorem isz_prok {q : Rat} (h : Isz 12 288 q) : PrOk q := by
  obtain ⟨z, e, hz⟩ := h
  obtain ⟨a, b⟩ := sm_of (K := 12) (by decide) e
  exact ⟨Nat.le_trans a (Nat.le_trans hz (by decide)), Nat.le_trans b (by decide)⟩
theorem isz_sm12 {L : Nat} {q : Rat} (h : Isz 12 L q) (hL : L ≤ 2 ^ 20) : Sm q := h.sm (by decide) (Nat.lt_of_lt_of_le (show (12 : Int).natAbs < 2 ^ 4 by decide) (Nat.pow_le_pow_right (by decide) (by decide))) (Nat.lt_of_le_of_lt hL (Nat.pow_lt_pow_right (by decide) (by decide)))
/-- what the price of a step must be -/
def prT (v : NestedKey → Rat) (x : Nat × Nat × Nat) (p : Pr) : Rat := wv v x.1 - wd v p.1 + lv v x.1 p.2.toNat - lv v x.1 x.2.1
structure PInv (dl : Dl) (v : NestedKey → Rat) (done : List (Nat × Nat × Nat)) (ps : Prs) : Prop where
  sub : ∀ y ∈ ps, ∃ p, at3 dl y.1.1 y.1.2.1 y.1.2.2 = some p ∧ y.2 = prT v y.1 p
  nd : (ps.map (·.1)).Nodup
  val : ∀ x ∈ done, ∀ p, at3 dl x.1 x.2.1 x.2.2 = some p → price ps x = prT v x p
  ln : ps.length ≤ done.length
theorem PInv.put {dl : Dl} {v : NestedKey → Rat} {done : List (Nat × Nat × Nat)} {ps : Prs} {x : Nat × Nat × Nat} {p : Pr} (i : PInv dl v done ps) (e : at3 dl x.1 x.2.1 x.2.2 = some p) : PInv dl v (done ++ [x]) (putP ps x (prT v x p)) where
  sub := fun y hy => by
    rcases putP_mem y hy with z | z
    · exact i.sub y z
    · subst z; exact ⟨p, e, rfl⟩
  nd := by
    rw [putP_keys]
    split
    · exact i.nd
    · rename_i h; exact nodup_snoc i.nd h
  val := fun y hy p' e' => by
    rw [price_put]
    by_cases z : x = y
    · subst z
      rw [e] at e'; cases e'
      rw [if_pos rfl]
    · rw [if_neg z]
      rcases List.mem_append.mp hy with h | h
      · exact i.val y h p' e'
      · exact absurd (List.mem_singleton.mp h).symm z
  ln := by
    have := congrArg List.length (putP_keys ps x (prT v x p))
    rw [List.length_map] at this
    have l2 := i.ln
    rw [List.length_append, List.length_singleton, this]
    split
    · rw [List.length_map]; omega
    · rw [List.length_append, List.length_map, List.length_singleton]; omega
theorem PInv.skip {dl : Dl} {v : NestedKey → Rat} {done : List (Nat × Nat × Nat)} {ps : Prs} {x : Nat × Nat × Nat} {p : Pr} (i : PInv dl v done ps) (e : at3 dl x.1 x.2.1 x.2.2 = some p) (h0 : prT v x p = 0) : PInv dl v (done ++ [x]) ps where
  sub := i.sub
  nd := i.nd
  val := fun y hy p' e' => by
    rcases List.mem_append.mp hy with h | h
    · exact i.val y h p' e'
    · have : y = x := List.mem_singleton.mp h
      subst this
      rw [e] at e'; cases e'
      rw [h0]
      by_cases z : y ∈ ps.map (·.1)
      · obtain ⟨w, hw, ew⟩ := List.mem_map.mp z
        obtain ⟨p2, e2, e3⟩ := i.sub w hw
        have nd2 : (keys (encP ps)).Nodup := by
          rw [keys_enc]
          exact List.pairwise_map.mpr (i.nd.imp fun h e => h (stepK_inj e))
        have := (look_mem nd2 (x := (stepK w.1, w.2)) (List.mem_map.mpr ⟨w, hw, rfl⟩)).1
        rw [price_enc, ← ew]
        rw [this, e3, ew]
        rw [ew, e] at e2
        cases e2
        exact h0
      · rw [price_enc, look_no fun h => z (mem_enc.mp h)]
  ln := by have := i.ln; rw [List.length_append, List.length_singleton]; omega
theorem pl_loop2 {CW CE : Addr} {Dd : DEnds} {v4 v7 v8 : Slot} {c : Int} {dl : Dl} {ws : List Rat} {rows : List (List Rat)} (w : WOk c dl) (hw : ws.length = dl.length) (hs : ∀ q ∈ ws, Sq q) (f : RowsFit dl rows) : ∀ (xs done : List (Nat × Nat × Nat)) (ps : Prs) (x6 x9 x10 : Slot), (∀ x ∈ xs, (at3 dl x.1 x.2.1 x.2.2).isSome = true) → done.length + xs.length ≤ 1000 → PInv dl (vOf ws rows) done ps →
    (∀ (ps' : Prs) (y6 y9 y10 : Slot), PInv dl (vOf ws rows) (done ++ xs) ps' → Dd.nx [.sh .die, .sh (dlD dl), .ow (.l (ws.map fr)), .ow (.l (rows.map rowD)), v4, .ow (pricesD ps'), y6, v7, v8, y9, y10]) →
    tdForL (tgName 6) (td_law_planted_b3 CW CE) (xs.map stepD) Dd [.sh .die, .sh (dlD dl), .ow (.l (ws.map fr)), .ow (.l (rows.map rowD)), v4, .ow (pricesD ps), x6, v7, v8, x9, x10]
  | [], done, ps, x6, x9, x10, _, _, inv, q => by
    have := q ps x6 x9 x10
    rw [List.append_nil] at this
    exact this inv
  | x :: xs, done, ps, x6, x9, x10, hx, hl, inv, q => by
    rw [List.length_cons] at hl
    obtain ⟨p, ex⟩ := Option.isSome_iff_exists.mp (hx x List.mem_cons_self)
    obtain ⟨d, st, e1, e2, e3⟩ := at3_some ex
    have hnx := w.nx d (List.mem_of_getElem? e1) st (List.mem_of_getElem? e2) _ (List.mem_of_getElem? e3)
    have hdr := w.dr d (List.mem_of_getElem? e1) st (List.mem_of_getElem? e2) _ (List.mem_of_getElem? e3)
    have hh := (List.getElem?_eq_some_iff.mp e1).1
    have hs2 := (List.getElem?_eq_some_iff.mp e2).1
    obtain ⟨r, er, lr, r0, rq⟩ := f.get e1 (w.d1 d (List.mem_of_getElem? e1))
    have g1 : r[p.2.toNat]? = some (r[p.2.toNat]'(by omega)) := List.getElem?_eq_getElem (by omega)
    have g2 : r[x.2.1]? = some (r[x.2.1]'(by omega)) := List.getElem?_eq_getElem (by omega)
    have g3 : ws[x.1]? = some (ws[x.1]'(by omega)) := List.getElem?_eq_getElem (by omega)
    have q1 := rq _ (List.mem_of_getElem? g1)
    have q2 := rq _ (List.mem_of_getElem? g2)
    have q3 := hs _ (List.mem_of_getElem? g3)
    have i1 : Isz 12 144 (r[p.2.toNat]'(by omega) + ((-1 : Int) : Rat) * r[x.2.1]'(by omega)) := by
      have := q1.sub q2
      rw [show r[p.2.toNat]'(by omega) - r[x.2.1]'(by omega) = r[p.2.toNat]'(by omega) + ((-1 : Int) : Rat) * r[x.2.1]'(by omega) by grind] at this
      exact this
    have i2 : Isz 12 216 (r[p.2.toNat]'(by omega) + ((-1 : Int) : Rat) * r[x.2.1]'(by omega) + ((1 : Int) : Rat) * ws[x.1]'(by omega)) := by
      have := i1.add q3
      rw [show r[p.2.toNat]'(by omega) + ((-1 : Int) : Rat) * r[x.2.1]'(by omega) + ws[x.1]'(by omega) = r[p.2.toNat]'(by omega) + ((-1 : Int) : Rat) * r[x.2.1]'(by omega) + ((1 : Int) : Rat) * ws[x.1]'(by omega) by grind] at this
      exact this
    have v1 : lv (vOf ws rows) x.1 p.2.toNat = r[p.2.toNat]'(by omega) := lv_vOf er r0 g1
    have v2 : lv (vOf ws rows) x.1 x.2.1 = r[x.2.1]'(by omega) := lv_vOf er r0 g2
    have v3 : wv (vOf ws rows) x.1 = ws[x.1]'(by omega) := wv_vOf g3
    -- what is done with the price
    have key : ∀ z : Rat, z = prT (vOf ws rows) x p → (tdIfS (tdOr (tdB (tdOp (rdEq not) (tdOp rdIxA (tdVar 10) (tdC (D.int 0))) (tdC (D.int 0)))) (tdB (tdOp (rdEq id) (tdCall (pp_law_draw CW CE) (tdCons (tdVar 0) (tdCons (tdC (D.int 2)) tdNil))) (tdC (D.int 0))))) (tdDSet 5 (tdVar 10) (tdVar 6)) tdNext)
        { nx := fun E2 => tdForL (tgName 6) (td_law_planted_b3 CW CE) (xs.map stepD) Dd E2, ct := fun E2 => tdForL (tgName 6) (td_law_planted_b3 CW CE) (xs.map stepD) Dd E2, bk := Dd.nx, rt := Dd.rt }
        [.sh .die, .sh (dlD dl), .ow (.l (ws.map fr)), .ow (.l (rows.map rowD)), v4, .ow (pricesD ps), .sh (stepD x), v7, v8, .sh (D.int p.1), .sh (fr z)] := fun z ez => by
      have hlen := inv.ln
      have store : (tdDSet 5 (tdVar 10) (tdVar 6)) { nx := fun E2 => tdForL (tgName 6) (td_law_planted_b3 CW CE) (xs.map stepD) Dd E2, ct := fun E2 => tdForL (tgName 6) (td_law_planted_b3 CW CE) (xs.map stepD) Dd E2, bk := Dd.nx, rt := Dd.rt }
        [.sh .die, .sh (dlD dl), .ow (.l (ws.map fr)), .ow (.l (rows.map rowD)), v4, .ow (pricesD ps), .sh (stepD x), v7, v8, .sh (D.int p.1), .sh (fr z)] := by
        refine ⟨rfl, stepK x, rfl, kk_steps fun k hk => ?_, ?_, ?_⟩
        · rw [List.map_map] at hk
          rcases List.mem_cons.mp hk with h | h
          · exact ⟨x, h⟩
          · obtain ⟨y, _, h⟩ := List.mem_map.mp h
            exact ⟨y.1, h.symm⟩
        · rw [List.length_map]; exact szl (by omega)
        show tdForL (tgName 6) (td_law_planted_b3 CW CE) (xs.map stepD) Dd [_, _, _, _, _, .ow (.d (aput (ps.map fun x => (stepK x.1, fr x.2)) (stepK x) (fr z))), _, _, _, _, _]
        have ea : D.d (aput (ps.map fun x => (stepK x.1, fr x.2)) (stepK x) (fr z)) = pricesD (putP ps x z) := by
          rw [pricesD_enc, enc_put]
          unfold frs
          rw [← aput_map]
          unfold encP
          rw [List.map_map]; rfl
        rw [ea, ez]
        refine pl_loop2 w hw hs f xs (done ++ [x]) _ _ _ _ (fun y hy => hx y (List.mem_cons_of_mem _ hy)) (by rw [List.length_append, List.length_singleton]; omega) (inv.put ex) fun ps' y6 y9 y10 i' => q ps' y6 y9 y10 ?_
        rw [List.append_assoc] at i'
        exact i'
      refine ⟨D.int z.num, rfl, rfl, ifNe (fun _ => store) (fun h0 => ⟨rfl, 2, rfl, by decide, by decide, fun n _ _ => ⟨rfl, ifEq (fun _ => store) (fun _ => ?_)⟩⟩)⟩
      have z0 : prT (vOf ws rows) x p = 0 := by rw [← ez]; exact Rat.num_eq_zero.mp h0
      refine pl_loop2 w hw hs f xs (done ++ [x]) _ _ _ _ (fun y hy => hx y (List.mem_cons_of_mem _ hy)) (by rw [List.length_append, List.length_singleton]; omega) (inv.skip ex z0) fun ps' y6 y9 y10 i' => q ps' y6 y9 y10 ?_
      rw [List.append_assoc] at i'
      exact i'
    refine ⟨rfl, dl, x, p, rfl, ex, rfl, ?_⟩
    refine ⟨D.int x.1, rfl, rowD r, getMap er, rfl, dl, x, p, rfl, ex, fr (r[p.2.toNat]'(by omega)), ?_, ?_⟩
    · exact atI_nn hnx.1 (by rw [List.getElem?_map, g1]; rfl)
    refine ⟨D.int x.1, rfl, rowD r, getMap er, D.int x.2.1, rfl, fr (r[x.2.1]'(by omega)), getMap g2, rfl, _, _, -1, rfl, isz_sm12 q1 (by decide), isz_sm12 q2 (by decide), .inr rfl, rfl, ?_⟩
    refine ⟨D.int x.1, rfl, fr (ws[x.1]'(by omega)), getMap g3, rfl, _, _, 1, rfl, isz_sm12 i1 (by decide), isz_sm12 q3 (by decide), .inl rfl, rfl, ?_⟩
    refine ifI (p := (0 : Int) ≤ p.1) (fun hd => ?_) (fun hd => ?_)
    · have hk : p.1.toNat < ws.length := by omega
      have g4 : ws[p.1.toNat]? = some (ws[p.1.toNat]'hk) := List.getElem?_eq_getElem hk
      have q4 := hs _ (List.mem_of_getElem? g4)
      have v4' : wd (vOf ws rows) p.1 = ws[p.1.toNat]'hk := by unfold wd; rw [if_pos hd]; exact wv_vOf g4
      refine ⟨fr (ws[p.1.toNat]'hk), atI_nn hd (by rw [List.getElem?_map, g4]; rfl), rfl, _, _, -1, rfl, isz_sm12 i2 (by decide), isz_sm12 q4 (by decide), .inr rfl, rfl, ?_⟩
      refine key _ ?_
      unfold prT
      rw [v1, v2, v3, v4']
      grind
    · refine key _ ?_
      have v4' : wd (vOf ws rows) p.1 = 0 := by unfold wd; rw [if_neg hd]
      unfold prT
      rw [v1, v2, v3, v4']
      grind
theorem prT_isz {v : NestedKey → Rat} (h : ∀ k, Sq (v k)) (x : Nat × Nat × Nat) (p : Pr) : Isz 12 288 (prT v x p) := by
  have a : Sq (wd v p.1) := by
    unfold wd
    split
    · exact h _
    · exact Isz.zero.mono (Nat.zero_le _)
  exact (((h _).sub a).add (unif_lv h _ _)).sub (unif_lv h _ _)
theorem hp_law_planted {CW CE : Addr} : ∀ (ds : List D) (Qd : D → Prop), pp_law_planted CW CE ds Qd → td_law_planted CW CE { nx := fun _ => Qd (.a .non), rt := Qd } (env0 11 ds) := by
  rintro ds Qd ⟨c, dl, rfl, w, q⟩
  have w2 := w.h2
  refine ⟨rfl, sz (show 0 ≤ 16777216 by decide), rfl, ?_⟩
  refine ⟨rfl, sz (show 0 ≤ 16777216 by decide), rfl, rfl, ?_⟩
  refine pl_loop1 (CW := CW) (CE := CE) dl [] [] .un .un .un (fun d hd => ⟨w.d1 d hd, w.d2 d hd⟩) (by simp; omega) (by simp; omega) fun ws rows y4 y7 y8 hw hs f => ?_
  rw [List.nil_append, List.nil_append]
  refine ⟨rfl, ?_⟩
  refine ⟨rfl, c, dl, rfl, w, rfl, ?_⟩
  have st := w.steps
  refine pl_loop2 (CW := CW) (CE := CE) w hw hs f (stepsOf dl) [] [] _ _ _ (fun x hx => steps_mem.mp hx) (by simp; omega) ⟨(fun y h => nomatch h), List.nodup_nil, (fun y h => nomatch h), Nat.le_refl _⟩ fun ps y6 y9 y10 inv => ?_
  rw [List.nil_append] at inv
  have hv : ∀ k, Sq (vOf ws rows k) := vOf_sq hs f
  have tl : Tells dl ps (vOf ws rows) := fun x p e => by
    obtain ⟨d, st, e1, e2, e3⟩ := at3_some e
    have hnx := w.nx d (List.mem_of_getElem? e1) st (List.mem_of_getElem? e2) _ (List.mem_of_getElem? e3)
    rw [sumT_trms hnx.1, inv.val x (steps_mem.mpr (by rw [e]; rfl)) p e]; rfl
  refine ⟨rfl, sz (show 3 ≤ 16777216 by decide), q _ _ (vOf ws rows) ps hv tl ⟨fun y hy => ?_, fun y hy => ?_, ?_⟩ inv.nd fun x => ?_⟩
  · obtain ⟨p, e, _⟩ := inv.sub y hy
    rw [e]; rfl
  · obtain ⟨p, _, e⟩ := inv.sub y hy
    rw [e]
    exact isz_prok (prT_isz hv _ _)
  · have := inv.ln; omega
  · by_cases z : x ∈ ps.map (·.1)
    · obtain ⟨y, hy, e⟩ := List.mem_map.mp z
      obtain ⟨p, e1, _⟩ := inv.sub y hy
      rw [e] at e1
      rw [inv.val x (steps_mem.mpr (by rw [e1]; rfl)) p e1]
      exact (prT_isz hv x p).mono (by decide)
    · rw [price_enc, look_no fun h => z (mem_enc.mp h)]
      exact Isz.zero.mono (Nat.zero_le _)
end DL
set_option Elab.async false
set_option linter.all false
set_option maxRecDepth 100000
set_option exponentiation.threshold 20000
namespace DL
open PySem PySem.Spec PyProof.Rows L2
/-! the law's own going through all moves -/
def kvT (v : NestedKey → Rat) (load : List Nat) (xs : List (Tri × Int)) : List (NestedKey × D) := xs.map fun x => (triK x.1, .t [D.int x.2, fr (bv v load x.1)])
def pp_law_triples (CW CE : Addr) : PP := fun ds Q => ∃ (c : Int) (dl : Dl) (load : List Nat) (ps : Prs) (v : NestedKey → Rat), ds = [D.int c, dlD dl, natsD load, pricesD ps, D.int 500] ∧ WOk c dl ∧ load.length = dl.length ∧ load.sum ≤ 9 ∧ (∀ k, Isz 12 72 (v k)) ∧ Tells dl ps v ∧ Small12 dl ps ∧ Q D.non ∧
  ∀ xs : List (Tri × Int), (xs.map (·.1)).Nodup → Full c dl load (xs.map (·.1)) → xs.length ≤ 500 → Q (.d (kvT v load xs))
def pp_law_bills (CW CE : Addr) : PP := fun ds Q => ∃ (v : NestedKey → Rat) (load : List Nat) (xs : List (Tri × Int)), ds = [.d (kvT v load xs)] ∧ xs.length ≤ 500 ∧ Q (.l ((((xs.map (·.1)).filter overB).map (bv v load)).map fr))
def pp_law_greatest (CW CE : Addr) : PP := fun ds Q => ∃ qs : List Rat, ds = [.l (qs.map fr)] ∧ qs ≠ [] ∧ (∀ q ∈ qs, Sm q) ∧ ∀ q, q ∈ qs → (∀ x ∈ qs, x ≤ q) → Q (fr q)
def negP (ps : Prs) : Prs := ps.map fun y => (y.1, -y.2)
def pp_law_turned_about (CW CE : Addr) : PP := fun ds Q => ∃ ps : Prs, ds = [pricesD ps] ∧ (ps.map (·.1)).Nodup ∧ ps.length ≤ 1000 ∧ Q (pricesD (negP ps))
def td_law_triples_b1 (CW CE : Addr) : TDS := (tdSeq (tdSet 15 (tdCall (pp_law_behind CW CE) (tdCons (tdVar 1) (tdCons (tdVar 9) (tdCons (tdVar 10) (tdCons (tdVar 14) tdNil)))))) (tdIfS (tdB (tdOp (rdIn not) (tdVar 15) (tdVar 6))) (tdSeq (tdSet 16 (tdCall (pp_law_sum CW CE) (tdCons (tdVar 12) (tdCons (tdGetX (tdVar 3) (tdTup (tdCons (tdVar 10) (tdCons (tdVar 13) (tdCons (tdVar 14) tdNil)))) (tdTup (tdCons (tdC (D.int 0)) (tdCons (tdC (D.int 1)) tdNil)))) (tdCons (tdC (D.int 1)) tdNil))))) (tdSeq (tdDSet 6 (tdTup (tdCons (tdOp rdAdd (tdVar 11) (tdC (D.int 1))) (tdCons (tdVar 16) tdNil))) (tdVar 15)) (tdAppend 8 (tdVar 15)))) tdNext))
def td_law_triples_b2 (CW CE : Addr) : TDS := (tdSeq (tdSet 13 (tdOp rdIxA (tdOp rdIxA (tdVar 9) (tdC (D.int 1))) (tdVar 10))) (tdFor (tdiRng1 (tdCons (tdIf (tdB (tdOp rdGt (tdOp rdIxA (tdOp rdIxA (tdVar 9) (tdC (D.int 0))) (tdVar 10)) (tdC (D.int 0)))) (tdCB rdLen (tdCons (tdOp rdIxA (tdOp rdIxA (tdVar 1) (tdVar 10)) (tdVar 13)) tdNil)) (tdC (D.int 0))) tdNil)) (tgName 14) (td_law_triples_b1 CW CE)))
def td_law_triples_b3 (CW CE : Addr) : TDS := (tdSeq (tdAsg (tdOp rdIxA (tdVar 6) (tdVar 9)) (tgTup 2 (tgCons (tgName 11) (tgCons (tgName 12) tgNil)))) (tdFor (tdiRng1 (tdCons (tdCB rdLen (tdCons (tdVar 1) tdNil)) tdNil)) (tgName 10) (td_law_triples_b2 CW CE)))
def td_law_triples_b4 (CW CE : Addr) : TDS := (tdSeq (tdSet 8 (tdLst tdNil)) (tdSeq (tdFor (tdiL (tdVar 7)) (tgName 9) (td_law_triples_b3 CW CE)) (tdSeq (tdIfS (tdB (tdOp rdGt (tdCB rdLen (tdCons (tdVar 6) tdNil)) (tdVar 4))) (tdRet (tdC D.non)) tdNext) (tdShare 8 (tdSet 7 (tdVar 8))))))
def td_law_triples_s4 (CW CE : Addr) : TDS := (tdRet (tdVar 6))
def td_law_triples_s3 (CW CE : Addr) : TDS := (tdShare 7 (tdSeq (tdWhile (tdB (tdOp rdGt (tdCB rdLen (tdCons (tdVar 7) tdNil)) (tdC (D.int 0)))) (td_law_triples_b4 CW CE)) (td_law_triples_s4 CW CE)))
def td_law_triples_s2 (CW CE : Addr) : TDS := (tdSeq (tdSet 7 (tdLst (tdCons (tdVar 5) tdNil))) (td_law_triples_s3 CW CE))
def td_law_triples_s1 (CW CE : Addr) : TDS := (tdSeq (tdSet 6 (tdDisp1 (fun k => ∃ l, k = .tup l) (tdVar 5) (tdTup (tdCons (tdC (D.int 0)) (tdCons (tdTup (tdCons (tdC (D.int 0)) (tdCons (tdC (D.int 1)) tdNil))) tdNil))))) (td_law_triples_s2 CW CE))
def td_law_triples (CW CE : Addr) : TDS := (tdSeq (tdSet 5 (tdTup (tdCons (tdVar 2) (tdCons (tdOp rdRep (tdTup (tdCons (tdC (D.int 0)) tdNil)) (tdCB rdLen (tdCons (tdVar 1) tdNil))) (tdCons (tdOp rdRep (tdTup (tdCons (tdC (D.int 0)) tdNil)) (tdVar 0)) tdNil))))) (td_law_triples_s1 CW CE))
def td_law_bills (CW CE : Addr) : TDS := (tdRet (tdLc (tdiKeys (tdVar 0)) (tgName 1) (tdB (tdOp (rdEq id) (tdCB rdSumA (tdCons (tdOp rdIxA (tdVar 1) (tdC (D.int 0))) tdNil)) (tdC (D.int 0)))) (tdOp rdIxA (tdOp rdIxA (tdVar 0) (tdVar 1)) (tdC (D.int 1))) [1]))
def td_law_greatest_b1 (CW CE : Addr) : TDS := (tdIfS (tdB (tdCall (pp_law_less CW CE) (tdCons (tdVar 1) (tdCons (tdVar 2) tdNil)))) (tdSet 1 (tdVar 2)) tdNext)
def td_law_greatest_s2 (CW CE : Addr) : TDS := (tdRet (tdVar 1))
def td_law_greatest_s1 (CW CE : Addr) : TDS := (tdSeq (tdFor (tdiL (tdVar 0)) (tgName 2) (td_law_greatest_b1 CW CE)) (td_law_greatest_s2 CW CE))
def td_law_greatest (CW CE : Addr) : TDS := (tdSeq (tdSet 1 (tdOp rdIxA (tdVar 0) (tdC (D.int 0)))) (td_law_greatest_s1 CW CE))
def td_law_turned_about (CW CE : Addr) : TDS := (tdRet (tdCB rdDictOf (tdCons (tdLc (tdiKeys (tdVar 0)) (tgName 1) tdYes (tdTup (tdCons (tdVar 1) (tdCons (tdTup (tdCons (tdUn (fun i => .int (-i)) (tdOp rdIxA (tdOp rdIxA (tdVar 0) (tdVar 1)) (tdC (D.int 0)))) (tdCons (tdOp rdIxA (tdOp rdIxA (tdVar 0) (tdVar 1)) (tdC (D.int 1))) tdNil))) tdNil))) [1]) tdNil)))
theorem kvT_keys (v : NestedKey → Rat) (load : List Nat) (xs : List (Tri × Int)) : (kvT v load xs).map (·.1) = (xs.map (·.1)).map triK := by unfold kvT; rw [List.map_map, List.map_map]; rfl
theorem kvT_get {v : NestedKey → Rat} {load : List Nat} {t : Tri} : ∀ {xs : List (Tri × Int)}, t ∈ xs.map (·.1) → ∃ k : Int, aget (kvT v load xs) (triK t) = some (.t [D.int k, fr (bv v load t)])
  | [], h => by cases h
  | x :: xs, h => by
    show ∃ k : Int, aget ((triK x.1, .t [D.int x.2, fr (bv v load x.1)]) :: kvT v load xs) (triK t) = _
    rw [aget_cons]
    by_cases e : x.1 = t
    · subst e
      exact ⟨x.2, if_pos rfl⟩
    · rw [if_neg fun z => e (triK_inj z)]
      exact kvT_get ((List.mem_cons.mp h).resolve_left fun z => e z.symm)
structure LInv (c : Int) (dl : Dl) (load : List Nat) (fs0 la : List Tri) (xs : List (Tri × Int)) : Prop where
  e : xs.map (·.1) = fs0 ++ la
  nd : (fs0 ++ la).Nodup
  rch : ∀ t ∈ fs0 ++ la, Rch c dl load t
theorem LInv.len {c : Int} {dl : Dl} {load : List Nat} {fs0 la : List Tri} {xs : List (Tri × Int)} (i : LInv c dl load fs0 la xs) : xs.length = (fs0 ++ la).length := by rw [← i.e, List.length_map]
theorem LInv.add {c : Int} {dl : Dl} {load : List Nat} {fs0 la : List Tri} {xs : List (Tri × Int)} {t : Tri} {k : Int} (i : LInv c dl load fs0 la xs) (r : Rch c dl load t) (n : t ∉ fs0 ++ la) : LInv c dl load fs0 (la ++ [t]) (xs ++ [(t, k)]) where
  e := by rw [List.map_append, i.e, List.append_assoc]; rfl
  nd := by rw [← List.append_assoc]; exact nodup_snoc i.nd n
  rch := fun u hu => by
    rw [← List.append_assoc] at hu
    rcases List.mem_append.mp hu with h | h
    · exact i.rch u h
    · rw [List.mem_singleton.mp h]; exact r
theorem lt_num {CW CE : Addr} {Dd : DEnds} {v5 v7 : Slot} {c : Int} {dl : Dl} {load : List Nat} {ps : Prs} {v : NestedKey → Rat} {t : Tri} {h e : Nat} {d : List (List Pr)} {st : List Pr} {k : Int} {fs0 : List Tri} (w : WOk c dl) (hl : load.length = dl.length) (hs : load.sum ≤ 9) (hv : ∀ k, Isz 12 72 (v k)) (tl : Tells dl ps v) (s12 : Small12 dl ps)
    (rt : Rch c dl load t) (h0 : 0 < t.1[h]?.getD 0) (he : t.2.1[h]? = some e) (ed : dl[h]? = some d) (es : d[e]? = some st) : ∀ (m n : Nat) (xs : List (Tri × Int)) (la : List Tri) (x14 x15 x16 : Slot), n + m = st.length → LInv c dl load fs0 la xs → (fs0 ++ la).length + m ≤ 100000 →
    (∀ (xs' : List (Tri × Int)) (la' : List Tri) (y14 y15 y16 : Slot), LInv c dl load fs0 la' xs' → (∃ ex, la' = la ++ ex ∧ ex.length ≤ m) → (∀ i, n ≤ i → ∀ p, Mv dl t h i p → behindP t h p ∈ fs0 ++ la') →
      Dd.nx [.sh (D.int c), .sh (dlD dl), .sh (natsD load), .sh (pricesD ps), .sh (D.int 500), v5, .ow (.d (kvT v load xs')), v7, .ow (.l (la'.map triD)), .sh (triD t), .sh (D.int h), .sh (D.int k), .sh (fr (bv v load t)), .sh (D.int e), y14, y15, y16]) →
    tdForL (tgName 14) (td_law_triples_b1 CW CE) (ups n m) Dd [.sh (D.int c), .sh (dlD dl), .sh (natsD load), .sh (pricesD ps), .sh (D.int 500), v5, .ow (.d (kvT v load xs)), v7, .ow (.l (la.map triD)), .sh (triD t), .sh (D.int h), .sh (D.int k), .sh (fr (bv v load t)), .sh (D.int e), x14, x15, x16]
  | 0, n, xs, la, x14, x15, x16, hn, inv, _, q => by
    refine q xs la x14 x15 x16 inv ⟨[], (List.append_nil _).symm, Nat.le_refl _⟩ fun i hi p mv => ?_
    obtain ⟨_, e', he', ha'⟩ := mv
    obtain ⟨d', st', a1, a2, a3⟩ := at3_some ha'
    rw [he] at he'; cases he'
    rw [ed] at a1; cases a1
    rw [es] at a2; cases a2
    have := (List.getElem?_eq_some_iff.mp a3).1
    omega
  | m + 1, n, xs, la, x14, x15, x16, hn, inv, hz, q => by
    have ok := rt.ok w hl
    have en : st[n]? = some (st[n]'(by omega)) := List.getElem?_eq_getElem (by omega)
    obtain ⟨p, ep⟩ : ∃ p, st[n]? = some p := ⟨_, en⟩
    have ha : at3 dl h e n = some p := by
      unfold at3
      simp only [ed, es, Option.bind_eq_bind, Option.bind_some]
      exact ep
    have mv : Mv dl t h n p := ⟨h0, e, he, ha⟩
    have same : ∀ p', Mv dl t h n p' → p' = p := fun p' ⟨_, e', he', ha'⟩ => by
      rw [he] at he'; cases he'
      rw [ha] at ha'; cases ha'; rfl
    have e1 : ((n : Int) + 1) = ((n + 1 : Nat) : Int) := by omega
    have lx := inv.len
    have ek := (kvT_keys v load xs).trans (congrArg (List.map triK) inv.e)
    refine ⟨rfl, c, dl, t, h, n, e, p, rfl, w, ok, h0, he, ha, rfl, ?_⟩
    refine ⟨triK (behindP t h p), triK_to _, kk_tri ek _, ?_⟩
    by_cases hb : behindP t h p ∈ fs0 ++ la
    · refine ifN (by show (!(aget (kvT v load xs) (triK (behindP t h p))).isSome) = false; rw [tri_there ek, decide_eq_true hb]; rfl) ?_
      show tdForL (tgName 14) (td_law_triples_b1 CW CE) (ups ((n : Int) + 1) m) Dd _
      rw [e1]
      refine lt_num w hl hs hv tl s12 rt h0 he ed es m (n + 1) xs la _ _ _ (by omega) inv (by omega) fun xs' la' y14 y15 y16 i' pre cl => q xs' la' y14 y15 y16 i' ?_ fun i hi p' mx => ?_
      · obtain ⟨ex, a, b⟩ := pre
        exact ⟨ex, a, by omega⟩
      · by_cases z : i = n
        · subst z
          rw [same p' mx]
          obtain ⟨ex, rfl, _⟩ := pre
          rw [← List.append_assoc]
          exact List.mem_append_left _ hb
        · exact cl i (by omega) p' mx
    · refine ifK (by show (!(aget (kvT v load xs) (triK (behindP t h p))).isSome) = true; rw [tri_there ek, decide_eq_false hb]; rfl) ?_
      have sb : Sm (bv v load t) := isz_sm12 (rt.isz w hl hs hv) (by decide)
      have sp : Sm (price ps (h, e, n)) := isz_sm12 (s12 (h, e, n)) (by decide)
      have eb := bv_behind (load := load) w tl ok h0 he ha
      have epr : ((aget (ps.map fun x => (stepK x.1, fr x.2)) (stepK (h, e, n))).getD (.t (List.map D.int [0, 1]))) = fr (price ps (h, e, n)) := by
        rw [fr0, show (ps.map fun x => (stepK x.1, fr x.2)) = (encP ps).map fun x => (x.1, fr x.2) by unfold encP; rw [List.map_map]; rfl, getD_fr]
        rfl
      refine ⟨rfl, sz (show 3 ≤ 16777216 by decide), rfl, sz (show 2 ≤ 16777216 by decide), stepK (h, e, n), rfl, kk_steps fun k hk => ?_, rfl, rfl, bv v load t, price ps (h, e, n), 1, ?_, sb, sp, .inl rfl, rfl, ?_⟩
      · rw [List.map_map] at hk
        rcases List.mem_cons.mp hk with z | z
        · exact ⟨(h, e, n), z⟩
        · obtain ⟨y, _, z⟩ := List.mem_map.mp z
          exact ⟨y.1, z.symm⟩
      · show [fr (bv v load t), ((aget (ps.map fun x => (stepK x.1, fr x.2)) (stepK (h, e, n))).getD (.t (List.map D.int [0, 1]))), D.int 1] = _
        rw [epr]
      rw [List.length_append] at hz
      refine ⟨rfl, sz (show 2 ≤ 16777216 by decide), rfl, triK (behindP t h p), triK_to _, kk_tri ek _, ?_, rfl, ?_, ?_⟩
      · have : (kvT v load xs).length = xs.length := by unfold kvT; rw [List.length_map]
        rw [List.length_append] at lx
        exact szl (by omega)
      · rw [List.length_map]; exact szl (by omega)
      have ev : (((1 : Int) : Rat)) * price ps (h, e, n) = price ps (h, e, n) := by grind
      show tdForL (tgName 14) (td_law_triples_b1 CW CE) (ups ((n : Int) + 1) m) Dd [_, _, _, _, _, _, .ow (.d (aput (kvT v load xs) (triK (behindP t h p)) (.t [D.int (k + 1), fr (bv v load t + ((1 : Int) : Rat) * price ps (h, e, n))]))), _, .ow (.l (la.map triD ++ [triD (behindP t h p)])), _, _, _, _, _, _, _, _]
      rw [ev, ← eb, put_new (by rw [tri_there ek, decide_eq_false hb]), show la.map triD ++ [triD (behindP t h p)] = (la ++ [behindP t h p]).map triD by rw [List.map_append]; rfl, e1,
        show kvT v load xs ++ [(triK (behindP t h p), D.t [D.int (k + 1), fr (bv v load (behindP t h p))])] = kvT v load (xs ++ [(behindP t h p, k + 1)]) by unfold kvT; rw [List.map_append]; rfl]
      refine lt_num w hl hs hv tl s12 rt h0 he ed es m (n + 1) _ _ _ _ _ (by omega) (inv.add (k := k + 1) (.step rt mv) hb) (by rw [List.length_append, List.length_append, List.length_singleton]; omega) fun xs' la' y14 y15 y16 i' pre cl => q xs' la' y14 y15 y16 i' ?_ fun i hi p' mx => ?_
      · obtain ⟨ex, a, b⟩ := pre
        exact ⟨[behindP t h p] ++ ex, by rw [a, List.append_assoc], by rw [List.length_append, List.length_singleton]; omega⟩
      · by_cases z : i = n
        · subst z
          rw [same p' mx]
          obtain ⟨ex, rfl, _⟩ := pre
          exact List.mem_append_right _ (List.mem_append_left _ (List.mem_append_right _ (List.mem_singleton.mpr rfl)))
        · exact cl i (by omega) p' mx
theorem lt_house {CW CE : Addr} {Dd : DEnds} {v5 v7 : Slot} {c : Int} {dl : Dl} {load : List Nat} {ps : Prs} {v : NestedKey → Rat} {t : Tri} {k : Int} {fs0 : List Tri} (w : WOk c dl) (hl : load.length = dl.length) (hs : load.sum ≤ 9) (hv : ∀ k, Isz 12 72 (v k)) (tl : Tells dl ps v) (s12 : Small12 dl ps)
    (rt : Rch c dl load t) : ∀ (m h : Nat) (xs : List (Tri × Int)) (la : List Tri) (x10 x13 x14 x15 x16 : Slot), h + m = dl.length → LInv c dl load fs0 la xs → (fs0 ++ la).length + 3 * m ≤ 100000 →
    (∀ (xs' : List (Tri × Int)) (la' : List Tri) (y10 y13 y14 y15 y16 : Slot), LInv c dl load fs0 la' xs' → (∃ ex, la' = la ++ ex ∧ ex.length ≤ 3 * m) → (∀ i, h ≤ i → ∀ n p, Mv dl t i n p → behindP t i p ∈ fs0 ++ la') →
      Dd.nx [.sh (D.int c), .sh (dlD dl), .sh (natsD load), .sh (pricesD ps), .sh (D.int 500), v5, .ow (.d (kvT v load xs')), v7, .ow (.l (la'.map triD)), .sh (triD t), y10, .sh (D.int k), .sh (fr (bv v load t)), y13, y14, y15, y16]) →
    tdForL (tgName 10) (td_law_triples_b2 CW CE) (ups h m) Dd [.sh (D.int c), .sh (dlD dl), .sh (natsD load), .sh (pricesD ps), .sh (D.int 500), v5, .ow (.d (kvT v load xs)), v7, .ow (.l (la.map triD)), .sh (triD t), x10, .sh (D.int k), .sh (fr (bv v load t)), x13, x14, x15, x16]
  | 0, h, xs, la, x10, x13, x14, x15, x16, hn, inv, _, q => by
    refine q xs la x10 x13 x14 x15 x16 inv ⟨[], (List.append_nil _).symm, Nat.le_refl _⟩ fun i hi n p mv => ?_
    obtain ⟨_, e', he', ha'⟩ := mv
    obtain ⟨d', st', a1, a2, a3⟩ := at3_some ha'
    have := (List.getElem?_eq_some_iff.mp a1).1
    omega
  | m + 1, h, xs, la, x10, x13, x14, x15, x16, hn, inv, hz, q => by
    have ok := rt.ok w hl
    have hd : h < dl.length := by omega
    have ed : dl[h]? = some dl[h] := List.getElem?_eq_getElem hd
    have hw : h < t.1.length := by rw [ok.l1]; exact hd
    have hlt : h < t.2.1.length := by rw [ok.l2]; exact hd
    have he : t.2.1[h]? = some t.2.1[h] := List.getElem?_eq_getElem hlt
    have hs3 := ok.at_ h _ _ he ed
    have es : dl[h][t.2.1[h]]? = some dl[h][t.2.1[h]] := List.getElem?_eq_getElem hs3
    have s3 := w.s2 _ (List.mem_of_getElem? ed) _ (List.mem_of_getElem? es)
    have e1 : ((h : Int) + 1) = ((h + 1 : Nat) : Int) := by omega
    have next : ∀ (xs' : List (Tri × Int)) (la' : List Tri) (y13 y14 y15 y16 : Slot), LInv c dl load fs0 la' xs' → (∃ ex, la' = la ++ ex ∧ ex.length ≤ 3) → (∀ n p, Mv dl t h n p → behindP t h p ∈ fs0 ++ la') →
        tdForL (tgName 10) (td_law_triples_b2 CW CE) (ups ((h : Int) + 1) m) Dd [.sh (D.int c), .sh (dlD dl), .sh (natsD load), .sh (pricesD ps), .sh (D.int 500), v5, .ow (.d (kvT v load xs')), v7, .ow (.l (la'.map triD)), .sh (triD t), .sh (D.int h), .sh (D.int k), .sh (fr (bv v load t)), y13, y14, y15, y16] := fun xs' la' y13 y14 y15 y16 i' pre cl => by
      obtain ⟨ex, rfl, hex⟩ := pre
      rw [e1]
      rw [List.length_append] at hz
      refine lt_house w hl hs hv tl s12 rt m (h + 1) xs' _ _ _ _ _ _ (by omega) i' (by rw [List.length_append, List.length_append]; omega) fun xs2 la2 y10 z13 z14 z15 z16 i2 pre2 cl2 => q xs2 la2 y10 z13 z14 z15 z16 i2 ?_ fun i hi n p mx => ?_
      · obtain ⟨ex2, rfl, h2⟩ := pre2
        exact ⟨ex ++ ex2, by rw [List.append_assoc], by rw [List.length_append]; omega⟩
      · by_cases z : i = h
        · subst z
          obtain ⟨ex2, rfl, _⟩ := pre2
          rw [← List.append_assoc]
          exact List.mem_append_left _ (cl n p mx)
        · exact cl2 i (by omega) n p mx
    refine ⟨natsD t.2.1, rfl, natI t.2.1[h], natsD_get he, rfl, ?_⟩
    refine ⟨natsD t.1, rfl, natI (t.1[h]?.getD 0), natsD_get (getD_some hw), ?_⟩
    refine ifI (fun hp => ?_) (fun hp => ?_)
    · have hp' : 0 < t.1[h]?.getD 0 := by omega
      have el : ((dl[h][t.2.1[h]].map prD).length : Int) = dl[h][t.2.1[h]].length := by rw [List.length_map]
      refine ⟨dealerD dl[h], getMap ed, stD dl[h][t.2.1[h]], getMap es, ?_⟩
      show -(2 ^ 62) ≤ (((dl[h][t.2.1[h]].map prD).length : Nat) : Int) ∧ _
      refine ⟨by omega, by rw [el]; omega, ?_⟩
      rw [el, Int.toNat_natCast]
      refine lt_num (CW := CW) (CE := CE) w hl hs hv tl s12 rt hp' he ed es dl[h][t.2.1[h]].length 0 xs la _ _ _ (by omega) inv (by omega) fun xs' la' y14 y15 y16 i' pre cl => ?_
      refine next xs' la' _ y14 y15 y16 i' ?_ fun n p mx => cl n (Nat.zero_le _) p mx
      obtain ⟨ex, a, b⟩ := pre
      exact ⟨ex, a, by omega⟩
    · refine ⟨by decide, by decide, ?_⟩
      refine next xs la _ _ _ _ inv ⟨[], (List.append_nil _).symm, by decide⟩ fun n p mx => ?_
      have := mx.1
      omega
theorem lt_level {CW CE : Addr} {Dd : DEnds} {v5 v7 : Slot} {c : Int} {dl : Dl} {load : List Nat} {ps : Prs} {v : NestedKey → Rat} {fs0 : List Tri} (w : WOk c dl) (hl : load.length = dl.length) (hs : load.sum ≤ 9) (hv : ∀ k, Isz 12 72 (v k)) (tl : Tells dl ps v) (s12 : Small12 dl ps) :
    ∀ (ts : List Tri) (xs : List (Tri × Int)) (la : List Tri) (x9 x10 x11 x12 x13 x14 x15 x16 : Slot), (∀ t ∈ ts, t ∈ fs0) → LInv c dl load fs0 la xs → (fs0 ++ la).length + 9 * ts.length ≤ 90000 →
    (∀ (xs' : List (Tri × Int)) (la' : List Tri) (y9 y10 y11 y12 y13 y14 y15 y16 : Slot), LInv c dl load fs0 la' xs' → (∃ ex, la' = la ++ ex) → (∀ t ∈ ts, ∀ i n p, Mv dl t i n p → behindP t i p ∈ fs0 ++ la') →
      Dd.nx [.sh (D.int c), .sh (dlD dl), .sh (natsD load), .sh (pricesD ps), .sh (D.int 500), v5, .ow (.d (kvT v load xs')), v7, .ow (.l (la'.map triD)), y9, y10, y11, y12, y13, y14, y15, y16]) →
    tdForL (tgName 9) (td_law_triples_b3 CW CE) (ts.map triD) Dd [.sh (D.int c), .sh (dlD dl), .sh (natsD load), .sh (pricesD ps), .sh (D.int 500), v5, .ow (.d (kvT v load xs)), v7, .ow (.l (la.map triD)), x9, x10, x11, x12, x13, x14, x15, x16]
  | [], xs, la, x9, x10, x11, x12, x13, x14, x15, x16, _, inv, _, q => q xs la x9 x10 x11 x12 x13 x14 x15 x16 inv ⟨[], (List.append_nil _).symm⟩ (fun t h => nomatch h)
  | t :: ts, xs, la, x9, x10, x11, x12, x13, x14, x15, x16, hts, inv, hz, q => by
    rw [List.length_cons] at hz
    have w2 := w.h2
    have ht : t ∈ fs0 ++ la := List.mem_append_left _ (hts t List.mem_cons_self)
    obtain ⟨k, ekv⟩ := kvT_get (v := v) (load := load) (xs := xs) (t := t) (by rw [inv.e]; exact ht)
    have ek := (kvT_keys v load xs).trans (congrArg (List.map triK) inv.e)
    refine ⟨triK t, triK_to _, kk_tri ek _, _, ekv, rfl, rfl, rfl, ?_⟩
    show -(2 ^ 62) ≤ (((dl.map dealerD).length : Nat) : Int) ∧ _
    rw [ds_len]
    refine ⟨by omega, by omega, ?_⟩
    rw [Int.toNat_natCast]
    refine lt_house (CW := CW) (CE := CE) w hl hs hv tl s12 (inv.rch t ht) dl.length 0 xs la _ _ _ _ _ (by omega) inv (by omega) fun xs' la' y10 y13 y14 y15 y16 i' pre cl => ?_
    obtain ⟨ex, rfl, hex⟩ := pre
    rw [List.length_append] at hz
    refine lt_level w hl hs hv tl s12 ts xs' _ _ _ _ _ _ _ _ _ (fun x hx => hts x (List.mem_cons_of_mem _ hx)) i' (by rw [List.length_append, List.length_append]; omega) fun xs2 la2 z9 z10 z11 z12 z13 z14 z15 z16 i2 pre2 cl2 => q xs2 la2 z9 z10 z11 z12 z13 z14 z15 z16 i2 ?_ fun u hu i n p mx => ?_
    · obtain ⟨ex2, rfl⟩ := pre2
      exact ⟨ex ++ ex2, by rw [List.append_assoc]⟩
    · rcases List.mem_cons.mp hu with z | z
      · subst z
        obtain ⟨ex2, rfl⟩ := pre2
        rw [← List.append_assoc]
        exact List.mem_append_left _ (cl i (Nat.zero_le _) n p mx)
      · exact cl2 u z i n p mx
theorem len_law_triples {CW CE : Addr} : ∀ (ds : List D) (Qd : D → Prop), pp_law_triples CW CE ds Qd → ds.length = 5 := fun ds Qd ⟨_, _, _, _, _, e, _⟩ => by rw [e]; rfl
theorem hp_law_triples {CW CE : Addr} : ∀ (ds : List D) (Qd : D → Prop), pp_law_triples CW CE ds Qd → td_law_triples CW CE { nx := fun _ => Qd (.a .non), rt := Qd } (env0 17 ds) := by
  rintro ds Qd ⟨c, dl, load, ps, v, rfl, w, hl, hs, hv, tl, s12, qn, q⟩
  have w1 := w.h1
  have w2 := w.h2
  have c1 := w.c1
  have c2 := w.c2
  have ed : ((dl.map dealerD).length : Int) = dl.length := ds_len dl
  refine ⟨rfl, sz (show 1 ≤ 16777216 by decide), (fun z => nomatch z), ?_, ?_, (show 1 ≤ 1000 by decide), ?_⟩
  · show (1 : Int) ≤ ((dl.map dealerD).length : Nat); rw [ed]; omega
  · show (((dl.map dealerD).length : Nat) : Int) ≤ 1000; rw [ed]; omega
  refine ⟨rfl, sz (show 1 ≤ 16777216 by decide), (fun z => nomatch z), (show (1 : Int) ≤ c by omega), (show c ≤ 1000 by omega), (show 1 ≤ 1000 by decide), ?_⟩
  refine ⟨rfl, sz (show 3 ≤ 16777216 by decide), rfl, ?_⟩
  dsimp only
  show td_law_triples_s1 CW CE _ [_, _, _, _, _, .sh (.t [natsD load, .t (List.replicate (((dl.map dealerD).length : Nat) : Int).toNat [D.int 0]).flatten, .t (List.replicate c.toNat [D.int 0]).flatten]), _, _, _, _, _, _, _, _, _, _, _]
  rw [rep_nats dl.length ed, rep_nats (k := c) c.toNat (by omega)]
  show td_law_triples_s1 CW CE _ [_, _, _, _, _, .sh (triD (firstT c dl load)), _, _, _, _, _, _, _, _, _, _, _]
  refine ⟨rfl, sz (show 2 ≤ 16777216 by decide), rfl, sz (show 2 ≤ 16777216 by decide), rfl, triK (firstT c dl load), triK_to _, kk_tri (kvs := []) (fs := []) rfl _, ⟨_, rfl⟩, rfl, ?_⟩
  have e0 : ([(triK (firstT c dl load), D.t [D.int 0, D.t [D.int 0, D.int 1]])] : List (NestedKey × D)) = kvT v load [(firstT c dl load, 0)] := by
    show _ = [(triK (firstT c dl load), D.t [D.int 0, fr (bv v load (firstT c dl load))])]
    rw [bv_first, ← fr0]; rfl
  dsimp only
  show td_law_triples_s2 CW CE _ [_, _, _, _, _, _, .ow (.d [(triK (firstT c dl load), D.t [D.int 0, D.t [D.int 0, D.int 1]])]), _, _, _, _, _, _, _, _, _, _]
  rw [e0]
  refine ⟨rfl, sz (show 1 ≤ 16777216 by decide), rfl, ?_⟩
  refine ⟨fun m E => ∃ (xs : List (Tri × Int)) (fs lv : List Tri) (y8 y9 y10 y11 y12 y13 y14 y15 y16 : Slot), E = [.sh (D.int c), .sh (dlD dl), .sh (natsD load), .sh (pricesD ps), .sh (D.int 500), .sh (triD (firstT c dl load)), .ow (.d (kvT v load xs)), .sh (.l (lv.map triD)), y8, y9, y10, y11, y12, y13, y14, y15, y16] ∧
    LInv c dl load fs [] xs ∧ firstT c dl load ∈ fs ∧ (∀ t ∈ lv, t ∈ fs) ∧ (∀ t ∈ fs, t ∈ lv ∨ ∀ h n p, Mv dl t h n p → behindP t h p ∈ fs) ∧ fs.length ≤ 500 ∧ lv.length ≤ 500 ∧ m = 2 * (501 - fs.length) + (if lv = [] then 0 else 1),
    ⟨_, [(firstT c dl load, 0)], [firstT c dl load], [firstT c dl load], .un, .un, .un, .un, .un, .un, .un, .un, .un, rfl, ⟨rfl, by simp, fun t ht => by rw [List.append_nil] at ht; rw [List.mem_singleton.mp ht]; exact .first⟩, List.mem_singleton.mpr rfl, fun t h => h, fun t h => .inl h, by simp, by simp, rfl⟩, ?_⟩
  rintro m E ⟨xs, fs, lv, y8, y9, y10, y11, y12, y13, y14, y15, y16, rfl, inv, hf, hlv, hcl, hn, hn2, rfl⟩
  refine ifI (p := (0 : Int) < ((lv.map triD).length : Nat)) (fun hp => ?_) (fun hp => ?_)
  · rw [List.length_map] at hp
    have hne : lv ≠ [] := fun z => by rw [z] at hp; simp at hp
    refine ⟨rfl, sz (show 0 ≤ 16777216 by decide), rfl, rfl, ?_⟩
    refine lt_level (CW := CW) (CE := CE) w hl hs hv tl s12 lv xs [] _ _ _ _ _ _ _ _ hlv inv (by rw [List.append_nil]; omega) fun xs' la z9 z10 z11 z12 z13 z14 z15 z16 i' _ cl => ?_
    have lx := i'.len
    have lk : (kvT v load xs').length = xs'.length := by unfold kvT; rw [List.length_map]
    refine ifI (p := (500 : Int) < ((kvT v load xs').length : Nat)) (fun _ => qn) (fun hle => ?_)
    rw [lk, lx, List.length_append] at hle
    refine ⟨rfl, _, ?_, xs', fs ++ la, la, _, z9, z10, z11, z12, z13, z14, z15, z16, rfl, ⟨by rw [List.append_nil]; exact i'.e, by rw [List.append_nil]; exact i'.nd, by rw [List.append_nil]; exact i'.rch⟩, List.mem_append_left _ hf, fun t ht => List.mem_append_right _ ht, fun t ht => ?_, by rw [List.length_append]; omega, by omega, rfl⟩
    · rw [if_neg hne, List.length_append]
      by_cases hla : la = []
      · rw [if_pos hla, hla]; simp
      · rw [if_neg hla]
        have := List.length_pos_iff.mpr hla
        omega
    · rcases List.mem_append.mp ht with z | z
      · refine .inr fun h n p mx => ?_
        rcases hcl t z with z2 | z2
        · exact cl t z2 h n p mx
        · exact List.mem_append_left _ (z2 h n p mx)
      · exact .inl z
  · rw [List.length_map] at hp
    have he : lv = [] := List.eq_nil_of_length_eq_zero (by omega)
    subst he
    have e1 : xs.map (·.1) = fs := by rw [inv.e, List.append_nil]
    have nd := inv.nd
    have rc := inv.rch
    rw [List.append_nil] at nd rc
    refine q xs (by rw [e1]; exact nd) (by rw [e1]; exact ⟨hf, rc, fun t ht h n p mx => (hcl t ht).elim (fun z => nomatch z) fun z => z h n p mx⟩) ?_
    have := congrArg List.length e1
    rw [List.length_map] at this
    omega
/-! bills -/
theorem len_law_bills {CW CE : Addr} : ∀ (ds : List D) (Qd : D → Prop), pp_law_bills CW CE ds Qd → ds.length = 1 := fun ds Qd ⟨_, _, _, e, _⟩ => by rw [e]; rfl
theorem hp_law_bills {CW CE : Addr} : ∀ (ds : List D) (Qd : D → Prop), pp_law_bills CW CE ds Qd → td_law_bills CW CE { nx := fun _ => Qd (.a .non), rt := Qd } (env0 2 ds) := by
  rintro ds Qd ⟨v, load, xs, rfl, hx, q⟩
  refine ⟨unAt1 rfl, rfl, ?_⟩
  have ek2 : ((kvT v load xs).map fun kv => ofKey kv.1) = (xs.map (·.1)).map triD := by
    have := congrArg (List.map ofKey) (kvT_keys v load xs)
    rw [List.map_map, List.map_map] at this
    rw [show ((kvT v load xs).map fun kv => ofKey kv.1) = (kvT v load xs).map (ofKey ∘ fun x => x.1) from rfl, this]
    exact List.map_congr_left fun t _ => triK_of t
  show tdLcL _ _ _ _ ((kvT v load xs).map fun kv => ofKey kv.1) [] _
  rw [ek2]
  refine lcL_filter (fun d => fr (bv v load (unTri d))) (fun d => overB (unTri d)) .sh rfl _ _ _ (fun x hx C Z h1 h2 => ?_) (by rw [List.length_map, List.length_map]; exact sz (by simp; omega)) ?_
  · obtain ⟨t, ht, rfl⟩ := List.mem_map.mp hx
    rw [unTri_tri] at h1 h2
    refine ⟨natsD t.1, rfl, _, ints_nat t.1, rfl, ?_⟩
    have e : (id (decide (V.int (t.1.map fun (n : Nat) => (n : Int)).sum = V.int 0))) = overB t := by
      show decide (V.int (t.1.map fun (n : Nat) => (n : Int)).sum = V.int 0) = _
      rw [sum_nought]; rfl
    show if (id (decide (V.int (t.1.map fun (n : Nat) => (n : Int)).sum = V.int 0))) = true then _ else _
    rw [e]
    refine ifC (fun hb => ?_) (fun hb => h2 hb)
    obtain ⟨k, ekv⟩ := kvT_get (v := v) (load := load) ht
    exact ⟨triK t, triK_to _, kk_tri (kvT_keys v load xs) _, _, ekv, fr (bv v load t), rfl, h1 hb⟩
  · rw [List.nil_append]
    have em : (((xs.map (·.1)).map triD).filter fun d => overB (unTri d)).map (fun d => fr (bv v load (unTri d))) = ((((xs.map (·.1)).filter overB).map (bv v load)).map fr) := by
      rw [List.filter_map, List.map_map, List.map_map]
      have : ((fun d => overB (unTri d)) ∘ triD) = overB := by
        funext t
        show overB (unTri (triD t)) = _
        rw [unTri_tri]
      rw [this]
      apply List.map_congr_left
      intro t _
      show fr (bv v load (unTri (triD t))) = fr (bv v load t)
      rw [unTri_tri]
    rw [em]
    exact q
theorem len_law_greatest {CW CE : Addr} : ∀ (ds : List D) (Qd : D → Prop), pp_law_greatest CW CE ds Qd → ds.length = 1 := fun ds Qd ⟨_, e, _⟩ => by rw [e]; rfl
theorem gr_loop {CW CE : Addr} {Dd : DEnds} {v0 : Slot} : ∀ (qs : List Rat) (b : Rat) (x2 : Slot), Sm b → (∀ q ∈ qs, Sm q) → (∀ (b' : Rat) (y2 : Slot), (b' = b ∨ b' ∈ qs) → b ≤ b' → (∀ x ∈ qs, x ≤ b') → Dd.nx [v0, .sh (fr b'), y2]) →
    tdForL (tgName 2) (td_law_greatest_b1 CW CE) (qs.map fr) Dd [v0, .sh (fr b), x2]
  | [], b, x2, _, _, q => q b x2 (.inl rfl) Rat.le_refl (fun x h => nomatch h)
  | z :: qs, b, x2, hb, hq, q => by
    have hz := hq z List.mem_cons_self
    refine ⟨rfl, b, z, rfl, hb, hz, ifI (fun hlt => ?_) (fun hlt => ?_)⟩
    · refine ⟨rfl, ?_⟩
      refine gr_loop qs z _ hz (fun x hx => hq x (List.mem_cons_of_mem _ hx)) fun b' y2 h1 h2 h3 => q b' y2 ?_ (by grind) ?_
      · rcases h1 with h1 | h1
        · exact .inr (by rw [h1]; exact List.mem_cons_self)
        · exact .inr (List.mem_cons_of_mem _ h1)
      · intro x hx
        rcases List.mem_cons.mp hx with e | e
        · rw [e]; exact h2
        · exact h3 x e
    · refine gr_loop qs b _ hb (fun x hx => hq x (List.mem_cons_of_mem _ hx)) fun b' y2 h1 h2 h3 => q b' y2 ?_ h2 ?_
      · rcases h1 with h1 | h1
        · exact .inl h1
        · exact .inr (List.mem_cons_of_mem _ h1)
      · intro x hx
        rcases List.mem_cons.mp hx with e | e
        · rw [e]; grind
        · exact h3 x e
theorem hp_law_greatest {CW CE : Addr} : ∀ (ds : List D) (Qd : D → Prop), pp_law_greatest CW CE ds Qd → td_law_greatest CW CE { nx := fun _ => Qd (.a .non), rt := Qd } (env0 3 ds) := by
  rintro ds Qd ⟨qs, rfl, ne, hs, q⟩
  cases qs with
  | nil => exact absurd rfl ne
  | cons z qs =>
    refine ⟨fr z, atI_nn (by decide) rfl, rfl, rfl, ?_⟩
    refine gr_loop (CW := CW) (CE := CE) (z :: qs) z _ (hs z List.mem_cons_self) hs fun b' y2 h1 h2 h3 => q b' ?_ h3
    rcases h1 with h1 | h1
    · rw [h1]; exact List.mem_cons_self
    · exact h1
/-! prices turned about -/
theorem fr_neg (q : Rat) : fr (-q) = .t [D.int (-q.num), D.int q.den] := by
  unfold fr
  rw [Rat.neg_num, Rat.neg_den]
theorem price_mem {ps : Prs} (nd : (ps.map (·.1)).Nodup) {y : (Nat × Nat × Nat) × Rat} (hy : y ∈ ps) : price ps y.1 = y.2 ∧ aget (ps.map fun x => (stepK x.1, fr x.2)) (stepK y.1) = some (fr y.2) := by
  have nd2 : (keys (encP ps)).Nodup := by
    rw [keys_enc]
    exact List.pairwise_map.mpr (nd.imp fun h e => h (stepK_inj e))
  have lm := look_mem nd2 (x := (stepK y.1, y.2)) (List.mem_map.mpr ⟨y, hy, rfl⟩)
  refine ⟨lm.1, ?_⟩
  rw [show (ps.map fun x => (stepK x.1, fr x.2)) = (encP ps).map fun x => (x.1, fr x.2) by unfold encP; rw [List.map_map]; rfl, aget_mapG, lm.2]; rfl
theorem kk_price (ps : Prs) (x : Nat × Nat × Nat) : KKind (stepK x :: (ps.map fun x => (stepK x.1, fr x.2)).map (·.1)) := kk_steps fun k hk => by
  rw [List.map_map] at hk
  rcases List.mem_cons.mp hk with z | z
  · exact ⟨x, z⟩
  · obtain ⟨y, _, z⟩ := List.mem_map.mp z
    exact ⟨y.1, z.symm⟩
theorem len_law_turned_about {CW CE : Addr} : ∀ (ds : List D) (Qd : D → Prop), pp_law_turned_about CW CE ds Qd → ds.length = 1 := fun ds Qd ⟨_, e, _⟩ => by rw [e]; rfl
theorem hp_law_turned_about {CW CE : Addr} : ∀ (ds : List D) (Qd : D → Prop), pp_law_turned_about CW CE ds Qd → td_law_turned_about CW CE { nx := fun _ => Qd (.a .non), rt := Qd } (env0 2 ds) := by
  rintro ds Qd ⟨ps, rfl, nd, hl, q⟩
  refine ⟨unAt1 rfl, rfl, ?_⟩
  show tdLcL _ _ _ _ ((ps.map fun x => (stepK x.1, fr x.2)).map fun kv => ofKey kv.1) [] _
  have e0 : ((ps.map fun x => (stepK x.1, fr x.2)).map fun kv => ofKey kv.1) = ps.map fun y => stepD y.1 := by rw [List.map_map]; rfl
  rw [e0]
  refine lcL_map (fun d => .t [d, fr (-(price ps (unStep d)))]) .sh rfl _ _ _ (fun x hx C hc => ?_) (by rw [List.length_map]; exact sz (by simp; omega)) ?_
  · obtain ⟨y, hy, rfl⟩ := List.mem_map.mp hx
    obtain ⟨p1, p2⟩ := price_mem nd hy
    rw [unStep_step, p1, fr_neg] at hc
    refine ⟨stepK y.1, rfl, kk_price ps y.1, fr y.2, p2, D.int y.2.num, rfl, stepK y.1, rfl, kk_price ps y.1, fr y.2, p2, D.int y.2.den, rfl, rfl, sz (show 2 ≤ 16777216 by decide), rfl, sz (show 2 ≤ 16777216 by decide), hc⟩
  · rw [List.nil_append, List.map_map]
    refine ⟨(negP ps).map fun x : (Nat × Nat × Nat) × Rat => (stepK x.1, fr x.2), ?_, fun k hk => ?_, ?_, ?_, q⟩
    · unfold negP
      rw [List.map_map, List.map_map]
      apply List.map_congr_left
      intro y hy
      show D.t [stepD y.1, fr (-(price ps (unStep (stepD y.1))))] = D.t [ofKey (stepK y.1), fr (-y.2)]
      rw [unStep_step, (price_mem nd hy).1]; rfl
    · rw [List.map_map] at hk
      obtain ⟨y, _, rfl⟩ := List.mem_map.mp hk
      exact ⟨⟨_, rfl⟩, stepK_depth _⟩
    · unfold negP
      rw [List.map_map, List.map_map]
      exact List.pairwise_map.mpr ((List.pairwise_map.mp nd).imp fun h e => h (stepK_inj e))
    · rw [List.length_map]
      unfold negP
      rw [List.length_map]
      exact sz (by omega)
end DL
set_option Elab.async false
set_option linter.all false
set_option maxRecDepth 100000
namespace DL
open PySem PySem.Spec PyProof.Rows L2
section
variable {P : Program} {w : World} {K : PySem.W.Frag} {mg : Str → Option Value} {base : Heap}
theorem sc_common : FnScope ["one", "other"] ["one", "other"] (defScope s_common) := ⟨rfl, rfl, rfl, by decide +kernel, rfl, by decide +kernel, by decide +kernel⟩
theorem dd_common (T : Tx K mg) (cdv : Value) (A : Around) (outer : List Env) (s : Shared) (H : Hp) (E : XK) (hr : Room 0 (A.deeper (envOfC "common" (defScope s_common) s.heap.objs.size T.common.f cdv))) : DSs (cxOf CX0 P w K mg base ["one", "other"] "common" (defScope s_common) T.common.f cdv A outer s H E).nox (defBody s_common) (td_common T.CW.C T.CE.C) := by
  have hu := hr.units
  have hu9 := hu9_of hu
  have hu0 := hr.units0
  have sc := sc_common
  exact (dss_cons (ds_par (i := 0) (j := 1) rfl sc.nd rfl rfl (by decide) rfl rfl (da_cons (de_callB call_abs calll_abs rfl T.abs rfl (da_cons (dv 0) da_nil)) (da_cons (de_callB call_abs calll_abs rfl T.abs rfl (da_cons (dv 1) da_nil)) da_nil)) rfl) (dss_cons (ds_while PassesOwn.never (dt_cmp op_gt opl_gt (dv 1) de_int (nomark _)) (dss_one (ds_par (i := 0) (j := 1) rfl sc.nd rfl rfl (by decide) rfl rfl (da_cons (dv 1) (da_cons (de_mod (dv 0) (dv 1)) da_nil)) rfl))) (dss_one (ds_ret (dv 0)))))
theorem ok_common (T : Tx K mg) : FnOk P w K mg base CX0 1 T.common.f T.common.fd ["one", "other"] (spD w K (pp_common T.CW.C T.CE.C)) :=
  ok_of T.common.F sc_common (by decide) len_common (dd_common T) hp_common
theorem sc_made : FnScope ["top", "bottom", "divisor"] ["top", "bottom"] (defScope s_made) := ⟨rfl, rfl, rfl, by decide +kernel, rfl, by decide +kernel, by decide +kernel⟩
theorem dd_made (T : Tx K mg) (cdv : Value) (A : Around) (outer : List Env) (s : Shared) (H : Hp) (E : XK) (hr : Room 1 (A.deeper (envOfC "made" (defScope s_made) s.heap.objs.size T.made.f cdv))) : DSs (cxOf CX0 P w K mg base ["top", "bottom", "divisor"] "made" (defScope s_made) T.made.f cdv A outer s H E).nox (defBody s_made) (td_made T.CW.C T.CE.C) := by
  have hu := hr.units
  have hu9 := hu9_of hu
  have hu0 := hr.units0
  have sc := sc_made
  exact (dss_cons (ds_set (i := 2) sc.nd rfl (by first | exact Or.inl rfl | exact Or.inr rfl) (de_call (ok_common T) (hr.mono (by decide)) rfl T.common.g T.common.F.kp T.common.b (da_cons (dv 0) (da_cons (dv 1) da_nil)))) (dss_cons (ds_if (dt_cmp (opr_lt hu0) opl_lt (dv 1) de_int (nomark _)) (dss_one (ds_set (i := 2) sc.nd rfl (by first | exact Or.inl rfl | exact Or.inr rfl) (de_neg (dv 2)))) dss_nil) (dss_one (ds_ret (de_tup (da_cons (de_fdiv (dv 0) (dv 2)) (da_cons (de_fdiv (dv 1) (dv 2)) da_nil)))))))
theorem ok_made (T : Tx K mg) : FnOk P w K mg base CX0 2 T.made.f T.made.fd ["top", "bottom"] (spD w K (pp_made T.CW.C T.CE.C)) :=
  ok_of T.made.F sc_made (by decide) len_made (dd_made T) hp_made
theorem sc_whole : FnScope ["number"] ["number"] (defScope s_whole) := ⟨rfl, rfl, rfl, by decide +kernel, rfl, by decide +kernel, by decide +kernel⟩
theorem dd_whole (T : Tx K mg) (cdv : Value) (A : Around) (outer : List Env) (s : Shared) (H : Hp) (E : XK) (hr : Room 0 (A.deeper (envOfC "whole" (defScope s_whole) s.heap.objs.size T.whole.f cdv))) : DSs (cxOf CX0 P w K mg base ["number"] "whole" (defScope s_whole) T.whole.f cdv A outer s H E).nox (defBody s_whole) (td_whole T.CW.C T.CE.C) := by
  have hu := hr.units
  have hu9 := hu9_of hu
  have hu0 := hr.units0
  have sc := sc_whole
  exact (dss_one (ds_ret (de_tup (da_cons (dv 0) (da_cons de_int da_nil)))))
theorem ok_whole (T : Tx K mg) : FnOk P w K mg base CX0 1 T.whole.f T.whole.fd ["number"] (spD w K (pp_whole T.CW.C T.CE.C)) :=
  ok_of T.whole.F sc_whole (by decide) len_whole (dd_whole T) hp_whole
theorem sc_plus : FnScope ["one", "other"] ["one", "other"] (defScope s_plus) := ⟨rfl, rfl, rfl, by decide +kernel, rfl, by decide +kernel, by decide +kernel⟩
theorem dd_plus (T : Tx K mg) (cdv : Value) (A : Around) (outer : List Env) (s : Shared) (H : Hp) (E : XK) (hr : Room 2 (A.deeper (envOfC "plus" (defScope s_plus) s.heap.objs.size T.plus.f cdv))) : DSs (cxOf CX0 P w K mg base ["one", "other"] "plus" (defScope s_plus) T.plus.f cdv A outer s H E).nox (defBody s_plus) (td_plus T.CW.C T.CE.C) := by
  have hu := hr.units
  have hu9 := hu9_of hu
  have hu0 := hr.units0
  have sc := sc_plus
  exact (dss_one (ds_ret (de_call (ok_made T) (hr.mono (by decide)) rfl T.made.g T.made.F.kp T.made.b (da_cons (de_add (de_mul (de_item hu9 (dv 0) de_int) (de_item hu9 (dv 1) de_int)) (de_mul (de_item hu9 (dv 1) de_int) (de_item hu9 (dv 0) de_int))) (da_cons (de_mul (de_item hu9 (dv 0) de_int) (de_item hu9 (dv 1) de_int)) da_nil)))))
theorem ok_plus (T : Tx K mg) : FnOk P w K mg base CX0 3 T.plus.f T.plus.fd ["one", "other"] (spD w K (pp_plus T.CW.C T.CE.C)) :=
  ok_of T.plus.F sc_plus (by decide) len_plus (dd_plus T) hp_plus
theorem sc_minus : FnScope ["one", "other"] ["one", "other"] (defScope s_minus) := ⟨rfl, rfl, rfl, by decide +kernel, rfl, by decide +kernel, by decide +kernel⟩
theorem dd_minus (T : Tx K mg) (cdv : Value) (A : Around) (outer : List Env) (s : Shared) (H : Hp) (E : XK) (hr : Room 2 (A.deeper (envOfC "minus" (defScope s_minus) s.heap.objs.size T.minus.f cdv))) : DSs (cxOf CX0 P w K mg base ["one", "other"] "minus" (defScope s_minus) T.minus.f cdv A outer s H E).nox (defBody s_minus) (td_minus T.CW.C T.CE.C) := by
  have hu := hr.units
  have hu9 := hu9_of hu
  have hu0 := hr.units0
  have sc := sc_minus
  exact (dss_one (ds_ret (de_call (ok_made T) (hr.mono (by decide)) rfl T.made.g T.made.F.kp T.made.b (da_cons (de_sub (de_mul (de_item hu9 (dv 0) de_int) (de_item hu9 (dv 1) de_int)) (de_mul (de_item hu9 (dv 1) de_int) (de_item hu9 (dv 0) de_int))) (da_cons (de_mul (de_item hu9 (dv 0) de_int) (de_item hu9 (dv 1) de_int)) da_nil)))))
theorem ok_minus (T : Tx K mg) : FnOk P w K mg base CX0 3 T.minus.f T.minus.fd ["one", "other"] (spD w K (pp_minus T.CW.C T.CE.C)) :=
  ok_of T.minus.F sc_minus (by decide) len_minus (dd_minus T) hp_minus
theorem sc_times : FnScope ["one", "other"] ["one", "other"] (defScope s_times) := ⟨rfl, rfl, rfl, by decide +kernel, rfl, by decide +kernel, by decide +kernel⟩
theorem dd_times (T : Tx K mg) (cdv : Value) (A : Around) (outer : List Env) (s : Shared) (H : Hp) (E : XK) (hr : Room 2 (A.deeper (envOfC "times" (defScope s_times) s.heap.objs.size T.times.f cdv))) : DSs (cxOf CX0 P w K mg base ["one", "other"] "times" (defScope s_times) T.times.f cdv A outer s H E).nox (defBody s_times) (td_times T.CW.C T.CE.C) := by
  have hu := hr.units
  have hu9 := hu9_of hu
  have hu0 := hr.units0
  have sc := sc_times
  exact (dss_one (ds_ret (de_call (ok_made T) (hr.mono (by decide)) rfl T.made.g T.made.F.kp T.made.b (da_cons (de_mul (de_item hu9 (dv 0) de_int) (de_item hu9 (dv 1) de_int)) (da_cons (de_mul (de_item hu9 (dv 0) de_int) (de_item hu9 (dv 1) de_int)) da_nil)))))
theorem ok_times (T : Tx K mg) : FnOk P w K mg base CX0 3 T.times.f T.times.fd ["one", "other"] (spD w K (pp_times T.CW.C T.CE.C)) :=
  ok_of T.times.F sc_times (by decide) len_times (dd_times T) hp_times
theorem sc_over : FnScope ["one", "other"] ["one", "other"] (defScope s_over) := ⟨rfl, rfl, rfl, by decide +kernel, rfl, by decide +kernel, by decide +kernel⟩
theorem dd_over (T : Tx K mg) (cdv : Value) (A : Around) (outer : List Env) (s : Shared) (H : Hp) (E : XK) (hr : Room 2 (A.deeper (envOfC "over" (defScope s_over) s.heap.objs.size T.over.f cdv))) : DSs (cxOf CX0 P w K mg base ["one", "other"] "over" (defScope s_over) T.over.f cdv A outer s H E).nox (defBody s_over) (td_over T.CW.C T.CE.C) := by
  have hu := hr.units
  have hu9 := hu9_of hu
  have hu0 := hr.units0
  have sc := sc_over
  exact (dss_one (ds_ret (de_call (ok_made T) (hr.mono (by decide)) rfl T.made.g T.made.F.kp T.made.b (da_cons (de_mul (de_item hu9 (dv 0) de_int) (de_item hu9 (dv 1) de_int)) (da_cons (de_mul (de_item hu9 (dv 0) de_int) (de_item hu9 (dv 1) de_int)) da_nil)))))
theorem ok_over (T : Tx K mg) : FnOk P w K mg base CX0 3 T.over.f T.over.fd ["one", "other"] (spD w K (pp_over T.CW.C T.CE.C)) :=
  ok_of T.over.F sc_over (by decide) len_over (dd_over T) hp_over
theorem sc_is_less : FnScope ["one", "other"] ["one", "other"] (defScope s_is_less) := ⟨rfl, rfl, rfl, by decide +kernel, rfl, by decide +kernel, by decide +kernel⟩
theorem dd_is_less (T : Tx K mg) (cdv : Value) (A : Around) (outer : List Env) (s : Shared) (H : Hp) (E : XK) (hr : Room 0 (A.deeper (envOfC "is_less" (defScope s_is_less) s.heap.objs.size T.is_less.f cdv))) : DSs (cxOf CX0 P w K mg base ["one", "other"] "is_less" (defScope s_is_less) T.is_less.f cdv A outer s H E).nox (defBody s_is_less) (td_is_less T.CW.C T.CE.C) := by
  have hu := hr.units
  have hu9 := hu9_of hu
  have hu0 := hr.units0
  have sc := sc_is_less
  exact (dss_one (ds_ret (de_cmp (opr_lt hu0) opl_lt (de_mul (de_item hu9 (dv 0) de_int) (de_item hu9 (dv 1) de_int)) (de_mul (de_item hu9 (dv 1) de_int) (de_item hu9 (dv 0) de_int)) (nomark _))))
theorem ok_is_less (T : Tx K mg) : FnOk P w K mg base CX0 1 T.is_less.f T.is_less.fd ["one", "other"] (spD w K (pp_is_less T.CW.C T.CE.C)) :=
  ok_of T.is_less.F sc_is_less (by decide) len_is_less (dd_is_less T) hp_is_less
theorem sc_total : FnScope ["fractions", "found", "fraction"] ["fractions"] (defScope s_total) := ⟨rfl, rfl, rfl, by decide +kernel, rfl, by decide +kernel, by decide +kernel⟩
theorem dd_total (T : Tx K mg) (cdv : Value) (A : Around) (outer : List Env) (s : Shared) (H : Hp) (E : XK) (hr : Room 3 (A.deeper (envOfC "total" (defScope s_total) s.heap.objs.size T.total.f cdv))) : DSs (cxOf CX0 P w K mg base ["fractions", "found", "fraction"] "total" (defScope s_total) T.total.f cdv A outer s H E).nox (defBody s_total) (td_total T.CW.C T.CE.C) := by
  have hu := hr.units
  have hu9 := hu9_of hu
  have hu0 := hr.units0
  have sc := sc_total
  exact (dss_cons (ds_set (i := 1) sc.nd rfl (by first | exact Or.inl rfl | exact Or.inr rfl) (T.ZERO.de rfl)) (dss_cons (ds_for PassesOwn.never rfl (di_list (dv 0)) (dg_name sc.nd (i := 2) rfl (by first | exact Or.inl rfl | exact Or.inr rfl)) (dss_one (ds_set (i := 1) sc.nd rfl (by first | exact Or.inl rfl | exact Or.inr rfl) (de_call (ok_plus T) (hr.mono (by decide)) rfl T.plus.g T.plus.F.kp T.plus.b (da_cons (dv 1) (da_cons (dv 2) da_nil)))))) (dss_one (ds_ret (dv 1)))))
theorem ok_total (T : Tx K mg) : FnOk P w K mg base CX0 4 T.total.f T.total.fd ["fractions"] (spD w K (pp_total T.CW.C T.CE.C)) :=
  ok_of T.total.F sc_total (by decide) len_total (dd_total T) hp_total
theorem sc_is_number : FnScope ["thing"] ["thing"] (defScope s_is_number) := ⟨rfl, rfl, rfl, by decide +kernel, rfl, by decide +kernel, by decide +kernel⟩
theorem dd_is_number (T : Tx K mg) (cdv : Value) (A : Around) (outer : List Env) (s : Shared) (H : Hp) (E : XK) (hr : Room 0 (A.deeper (envOfC "is_number" (defScope s_is_number) s.heap.objs.size T.is_number.f cdv))) : DSs (cxOf CX0 P w K mg base ["thing"] "is_number" (defScope s_is_number) T.is_number.f cdv A outer s H E).nox (defBody s_is_number) (td_is_number T.CW.C T.CE.C) := by
  have hu := hr.units
  have hu9 := hu9_of hu
  have hu0 := hr.units0
  have sc := sc_is_number
  exact (dss_one (ds_ret (de_and (de_isiInt rfl T.isinstance rfl T.int (dv 0)) (de_one (de_not (de_isiBool rfl T.isinstance rfl T.bool (dv 0)))))))
theorem ok_is_number (T : Tx K mg) : FnOk P w K mg base CX0 1 T.is_number.f T.is_number.fd ["thing"] (spD w K (pp_is_number T.CW.C T.CE.C)) :=
  ok_of T.is_number.F sc_is_number (by decide) len_is_number (dd_is_number T) hp_is_number
theorem sc_is_fraction : FnScope ["thing", "part"] ["thing"] (defScope s_is_fraction) := ⟨rfl, rfl, rfl, by decide +kernel, rfl, by decide +kernel, by decide +kernel⟩
theorem dd_is_fraction (T : Tx K mg) (cdv : Value) (A : Around) (outer : List Env) (s : Shared) (H : Hp) (E : XK) (hr : Room 1 (A.deeper (envOfC "is_fraction" (defScope s_is_fraction) s.heap.objs.size T.is_fraction.f cdv))) : DSs (cxOf CX0 P w K mg base ["thing", "part"] "is_fraction" (defScope s_is_fraction) T.is_fraction.f cdv A outer s H E).nox (defBody s_is_fraction) (td_is_fraction T.CW.C T.CE.C) := by
  have hu := hr.units
  have hu9 := hu9_of hu
  have hu0 := hr.units0
  have sc := sc_is_fraction
  exact (dss_cons (ds_if (DW.dt (dw_or (dt_not (dt_val (de_isiTuple rfl T.isinstance rfl T.tuple (dv 0)))) (dw_or (dt_cmp (opr_ne hu) (opl_ne hu) (de_callB callr_len calll_len rfl T.len rfl (da_cons (dv 0) da_nil)) de_int (nomark _)) (dw_or1 (dt_not (dt_val (de_callB (cr_all rfl) calll_all rfl T.all rfl (da_cons (de_lc rfl sc.nd (blkOk_by (own := [(("part" : Str), 1)]) rfl) (di_tup (dv 0)) (fun s H C cl fp => (dg_name sc.nd (i := 1) rfl (by first | exact Or.inl rfl | exact Or.inr rfl))) (fun s H C cl fp => dts_nil) (fun s H C cl fp => (de_call (ok_is_number T) (hr.mono (by decide)) rfl T.is_number.g T.is_number.F.kp T.is_number.b (da_cons (dv 1) da_nil))) (by decide)) da_nil)))))))) (dss_one (ds_ret de_bl)) dss_nil) (dss_one (ds_ret (de_and (de_cmp op_ge opl_ge (de_item hu9 (dv 0) de_int) de_int (nomark _)) (de_one (de_cmp (opr_eq hu) (opl_eq hu) (de_call (ok_common T) (hr.mono (by decide)) rfl T.common.g T.common.F.kp T.common.b (da_cons (de_item hu9 (dv 0) de_int) (da_cons (de_item hu9 (dv 0) de_int) da_nil))) de_int (nomark _)))))))
theorem ok_is_fraction (T : Tx K mg) : FnOk P w K mg base CX0 2 T.is_fraction.f T.is_fraction.fd ["thing"] (spD w K (pp_is_fraction T.CW.C T.CE.C)) :=
  ok_of T.is_fraction.F sc_is_fraction (by decide) len_is_fraction (dd_is_fraction T) hp_is_fraction
end
end DL
set_option Elab.async false
set_option linter.all false
set_option maxRecDepth 100000
namespace DL
open PySem PySem.Spec PyProof.Rows L2
section
variable {P : Program} {w : World} {K : PySem.W.Frag} {mg : Str → Option Value} {base : Heap}
theorem sc_is_within : FnScope ["thing", "least", "most"] ["thing", "least", "most"] (defScope s_is_within) := ⟨rfl, rfl, rfl, by decide +kernel, rfl, by decide +kernel, by decide +kernel⟩
theorem dd_is_within (T : Tx K mg) (cdv : Value) (A : Around) (outer : List Env) (s : Shared) (H : Hp) (E : XK) (hr : Room 1 (A.deeper (envOfC "is_within" (defScope s_is_within) s.heap.objs.size T.is_within.f cdv))) : DSs (cxOf CX0 P w K mg base ["thing", "least", "most"] "is_within" (defScope s_is_within) T.is_within.f cdv A outer s H E).nox (defBody s_is_within) (td_is_within T.CW.C T.CE.C) := by
  have hu := hr.units
  have hu9 := hu9_of hu
  have hu0 := hr.units0
  have sc := sc_is_within
  exact (dss_one (ds_ret (de_and (de_call (ok_is_number T) (hr.mono (by decide)) rfl T.is_number.g T.is_number.F.kp T.is_number.b (da_cons (dv 0) da_nil)) (de_one (de_chain op_le op_le opl_le opl_le (dv 1) (dv 0) (dv 2))))))
theorem ok_is_within (T : Tx K mg) : FnOk P w K mg base CX0 2 T.is_within.f T.is_within.fd ["thing", "least", "most"] (spD w K (pp_is_within T.CW.C T.CE.C)) :=
  ok_of T.is_within.F sc_is_within (by decide) len_is_within (dd_is_within T) hp_is_within
theorem sc_is_pair : FnScope ["thing"] ["thing"] (defScope s_is_pair) := ⟨rfl, rfl, rfl, by decide +kernel, rfl, by decide +kernel, by decide +kernel⟩
theorem dd_is_pair (T : Tx K mg) (cdv : Value) (A : Around) (outer : List Env) (s : Shared) (H : Hp) (E : XK) (hr : Room 0 (A.deeper (envOfC "is_pair" (defScope s_is_pair) s.heap.objs.size T.is_pair.f cdv))) : DSs (cxOf CX0 P w K mg base ["thing"] "is_pair" (defScope s_is_pair) T.is_pair.f cdv A outer s H E).nox (defBody s_is_pair) (td_is_pair T.CW.C T.CE.C) := by
  have hu := hr.units
  have hu9 := hu9_of hu
  have hu0 := hr.units0
  have sc := sc_is_pair
  exact (dss_one (ds_ret (de_and (de_isiTuple rfl T.isinstance rfl T.tuple (dv 0)) (de_one (de_cmp (opr_eq hu) (opl_eq hu) (de_callB callr_len calll_len rfl T.len rfl (da_cons (dv 0) da_nil)) de_int (nomark _))))))
theorem ok_is_pair (T : Tx K mg) : FnOk P w K mg base CX0 1 T.is_pair.f T.is_pair.fd ["thing"] (spD w K (pp_is_pair T.CW.C T.CE.C)) :=
  ok_of T.is_pair.F sc_is_pair (by decide) len_is_pair (dd_is_pair T) hp_is_pair
theorem sc_is_triple : FnScope ["thing"] ["thing"] (defScope s_is_triple) := ⟨rfl, rfl, rfl, by decide +kernel, rfl, by decide +kernel, by decide +kernel⟩
theorem dd_is_triple (T : Tx K mg) (cdv : Value) (A : Around) (outer : List Env) (s : Shared) (H : Hp) (E : XK) (hr : Room 0 (A.deeper (envOfC "is_triple" (defScope s_is_triple) s.heap.objs.size T.is_triple.f cdv))) : DSs (cxOf CX0 P w K mg base ["thing"] "is_triple" (defScope s_is_triple) T.is_triple.f cdv A outer s H E).nox (defBody s_is_triple) (td_is_triple T.CW.C T.CE.C) := by
  have hu := hr.units
  have hu9 := hu9_of hu
  have hu0 := hr.units0
  have sc := sc_is_triple
  exact (dss_one (ds_ret (de_and (de_isiTuple rfl T.isinstance rfl T.tuple (dv 0)) (de_one (de_cmp (opr_eq hu) (opl_eq hu) (de_callB callr_len calll_len rfl T.len rfl (da_cons (dv 0) da_nil)) de_int (nomark _))))))
theorem ok_is_triple (T : Tx K mg) : FnOk P w K mg base CX0 1 T.is_triple.f T.is_triple.fd ["thing"] (spD w K (pp_is_triple T.CW.C T.CE.C)) :=
  ok_of T.is_triple.F sc_is_triple (by decide) len_is_triple (dd_is_triple T) hp_is_triple
theorem sc_is_rising : FnScope ["items", "at"] ["items"] (defScope s_is_rising) := ⟨rfl, rfl, rfl, by decide +kernel, rfl, by decide +kernel, by decide +kernel⟩
theorem dd_is_rising (T : Tx K mg) (cdv : Value) (A : Around) (outer : List Env) (s : Shared) (H : Hp) (E : XK) (hr : Room 0 (A.deeper (envOfC "is_rising" (defScope s_is_rising) s.heap.objs.size T.is_rising.f cdv))) : DSs (cxOf CX0 P w K mg base ["items", "at"] "is_rising" (defScope s_is_rising) T.is_rising.f cdv A outer s H E).nox (defBody s_is_rising) (td_is_rising T.CW.C T.CE.C) := by
  have hu := hr.units
  have hu9 := hu9_of hu
  have hu0 := hr.units0
  have sc := sc_is_rising
  exact (dss_one (ds_ret (de_callB (cr_all rfl) calll_all rfl T.all rfl (da_cons (de_lc rfl sc.nd (blkOk_by (own := [(("at" : Str), 1)]) rfl) (di_range2 rfl T.range (da_cons de_int (da_cons (de_callB callr_len calll_len rfl T.len rfl (da_cons (dv 0) da_nil)) da_nil))) (fun s H C cl fp => (dg_name sc.nd (i := 1) rfl (by first | exact Or.inl rfl | exact Or.inr rfl))) (fun s H C cl fp => dts_nil) (fun s H C cl fp => (de_cmp (opr_lt hu0) opl_lt (de_item hu9 (dv 0) (de_sub (dv 1) de_int)) (de_item hu9 (dv 0) (dv 1)) (nomark _))) (by decide)) da_nil))))
theorem ok_is_rising (T : Tx K mg) : FnOk P w K mg base CX0 1 T.is_rising.f T.is_rising.fd ["items"] (spD w K (pp_is_rising T.CW.C T.CE.C)) :=
  ok_of T.is_rising.F sc_is_rising (by decide) len_is_rising (dd_is_rising T) hp_is_rising
theorem sc_is_house : FnScope ["web", "thing"] ["web", "thing"] (defScope s_is_house) := ⟨rfl, rfl, rfl, by decide +kernel, rfl, by decide +kernel, by decide +kernel⟩
theorem dd_is_house (T : Tx K mg) (cdv : Value) (A : Around) (outer : List Env) (s : Shared) (H : Hp) (E : XK) (hr : Room 2 (A.deeper (envOfC "is_house" (defScope s_is_house) s.heap.objs.size T.is_house.f cdv))) : DSs (cxOf CX0 P w K mg base ["web", "thing"] "is_house" (defScope s_is_house) T.is_house.f cdv A outer s H E).nox (defBody s_is_house) (td_is_house T.CW.C T.CE.C) := by
  have hu := hr.units
  have hu9 := hu9_of hu
  have hu0 := hr.units0
  have sc := sc_is_house
  exact (dss_one (ds_ret (de_call (ok_is_within T) (hr.mono (by decide)) rfl T.is_within.g T.is_within.F.kp T.is_within.b (da_cons (dv 1) (da_cons de_int (da_cons (de_sub (de_callB callr_len calll_len rfl T.len rfl (da_cons (de_fld (dv 0) T.CW.cls T.n_dealers rfl) da_nil)) de_int) da_nil))))))
theorem ok_is_house (T : Tx K mg) : FnOk P w K mg base CX0 3 T.is_house.f T.is_house.fd ["web", "thing"] (spD w K (pp_is_house T.CW.C T.CE.C)) :=
  ok_of T.is_house.F sc_is_house (by decide) len_is_house (dd_is_house T) hp_is_house
theorem sc_is_step : FnScope ["web", "thing", "standings"] ["web", "thing"] (defScope s_is_step) := ⟨rfl, rfl, rfl, by decide +kernel, rfl, by decide +kernel, by decide +kernel⟩
theorem dd_is_step (T : Tx K mg) (cdv : Value) (A : Around) (outer : List Env) (s : Shared) (H : Hp) (E : XK) (hr : Room 3 (A.deeper (envOfC "is_step" (defScope s_is_step) s.heap.objs.size T.is_step.f cdv))) : DSs (cxOf CX0 P w K mg base ["web", "thing", "standings"] "is_step" (defScope s_is_step) T.is_step.f cdv A outer s H E).nox (defBody s_is_step) (td_is_step T.CW.C T.CE.C) := by
  have hu := hr.units
  have hu9 := hu9_of hu
  have hu0 := hr.units0
  have sc := sc_is_step
  exact (dss_cons (ds_if (DW.dt (dw_or (dt_not (dt_val (de_call (ok_is_triple T) (hr.mono (by decide)) rfl T.is_triple.g T.is_triple.F.kp T.is_triple.b (da_cons (dv 1) da_nil)))) (dw_or1 (dt_not (dt_val (de_call (ok_is_house T) (hr.mono (by decide)) rfl T.is_house.g T.is_house.F.kp T.is_house.b (da_cons (dv 0) (da_cons (de_item hu9 (dv 1) de_int) da_nil)))))))) (dss_one (ds_ret de_bl)) dss_nil) (dss_cons (ds_set (i := 2) sc.nd rfl (by first | exact Or.inl rfl | exact Or.inr rfl) (de_item hu9 (de_fld (dv 0) T.CW.cls T.n_dealers rfl) (de_item hu9 (dv 1) de_int))) (dss_one (ds_ret (de_and (de_call (ok_is_within T) (hr.mono (by decide)) rfl T.is_within.g T.is_within.F.kp T.is_within.b (da_cons (de_item hu9 (dv 1) de_int) (da_cons de_int (da_cons (de_sub (de_callB callr_len calll_len rfl T.len rfl (da_cons (dv 2) da_nil)) de_int) da_nil)))) (de_one (de_call (ok_is_within T) (hr.mono (by decide)) rfl T.is_within.g T.is_within.F.kp T.is_within.b (da_cons (de_item hu9 (dv 1) de_int) (da_cons de_int (da_cons (de_sub (de_callB callr_len calll_len rfl T.len rfl (da_cons (de_item hu9 (dv 2) (de_item hu9 (dv 1) de_int)) da_nil)) de_int) da_nil))))))))))
theorem ok_is_step (T : Tx K mg) : FnOk P w K mg base CX0 4 T.is_step.f T.is_step.fd ["web", "thing"] (spD w K (pp_is_step T.CW.C T.CE.C)) :=
  ok_of T.is_step.F sc_is_step (by decide) len_is_step (dd_is_step T) hp_is_step
theorem sc_is_load : FnScope ["web", "thing", "many"] ["web", "thing"] (defScope s_is_load) := ⟨rfl, rfl, rfl, by decide +kernel, rfl, by decide +kernel, by decide +kernel⟩
theorem dd_is_load (T : Tx K mg) (cdv : Value) (A : Around) (outer : List Env) (s : Shared) (H : Hp) (E : XK) (hr : Room 1 (A.deeper (envOfC "is_load" (defScope s_is_load) s.heap.objs.size T.is_load.f cdv))) : DSs (cxOf CX0 P w K mg base ["web", "thing", "many"] "is_load" (defScope s_is_load) T.is_load.f cdv A outer s H E).nox (defBody s_is_load) (td_is_load T.CW.C T.CE.C) := by
  have hu := hr.units
  have hu9 := hu9_of hu
  have hu0 := hr.units0
  have sc := sc_is_load
  exact (dss_cons (ds_if (DW.dt (dw_or (dt_not (dt_val (de_isiTuple rfl T.isinstance rfl T.tuple (dv 1)))) (dw_or1 (dt_cmp (opr_ne hu) (opl_ne hu) (de_callB callr_len calll_len rfl T.len rfl (da_cons (dv 1) da_nil)) (de_callB callr_len calll_len rfl T.len rfl (da_cons (de_fld (dv 0) T.CW.cls T.n_dealers rfl) da_nil)) (nomark _))))) (dss_one (ds_ret de_bl)) dss_nil) (dss_one (ds_ret (de_callB (cr_all rfl) calll_all rfl T.all rfl (da_cons (de_lc rfl sc.nd (blkOk_by (own := [(("many" : Str), 2)]) rfl) (di_tup (dv 1)) (fun s H C cl fp => (dg_name sc.nd (i := 2) rfl (by first | exact Or.inl rfl | exact Or.inr rfl))) (fun s H C cl fp => dts_nil) (fun s H C cl fp => (de_and (de_call (ok_is_number T) (hr.mono (by decide)) rfl T.is_number.g T.is_number.F.kp T.is_number.b (da_cons (dv 2) da_nil)) (de_one (de_cmp op_ge opl_ge (dv 2) de_int (nomark _))))) (by decide)) da_nil)))))
theorem ok_is_load (T : Tx K mg) : FnOk P w K mg base CX0 2 T.is_load.f T.is_load.fd ["web", "thing"] (spD w K (pp_is_load T.CW.C T.CE.C)) :=
  ok_of T.is_load.F sc_is_load (by decide) len_is_load (dd_is_load T) hp_is_load
theorem sc_check_load : FnScope ["web", "thing"] ["web", "thing"] (defScope s_check_load) := ⟨rfl, rfl, rfl, by decide +kernel, rfl, by decide +kernel, by decide +kernel⟩
theorem dd_check_load (T : Tx K mg) (cdv : Value) (A : Around) (outer : List Env) (s : Shared) (H : Hp) (E : XK) (hr : Room 2 (A.deeper (envOfC "check_load" (defScope s_check_load) s.heap.objs.size T.check_load.f cdv))) : DSs (cxOf CX0 P w K mg base ["web", "thing"] "check_load" (defScope s_check_load) T.check_load.f cdv A outer s H E).nox (defBody s_check_load) (td_check_load T.CW.C T.CE.C) := by
  have hu := hr.units
  have hu9 := hu9_of hu
  have hu0 := hr.units0
  have sc := sc_check_load
  exact (dss_one (ds_if (dt_not (dt_val (de_call (ok_is_load T) (hr.mono (by decide)) rfl T.is_load.g T.is_load.F.kp T.is_load.b (da_cons (dv 0) (da_cons (dv 1) da_nil))))) (dss_one ds_never) dss_nil))
theorem ok_check_load (T : Tx K mg) : FnOk P w K mg base CX0 3 T.check_load.f T.check_load.fd ["web", "thing"] (spD w K (pp_check_load T.CW.C T.CE.C)) :=
  ok_of T.check_load.F sc_check_load (by decide) len_check_load (dd_check_load T) hp_check_load
theorem sc_is_price : FnScope ["thing"] ["thing"] (defScope s_is_price) := ⟨rfl, rfl, rfl, by decide +kernel, rfl, by decide +kernel, by decide +kernel⟩
theorem dd_is_price (T : Tx K mg) (cdv : Value) (A : Around) (outer : List Env) (s : Shared) (H : Hp) (E : XK) (hr : Room 2 (A.deeper (envOfC "is_price" (defScope s_is_price) s.heap.objs.size T.is_price.f cdv))) : DSs (cxOf CX0 P w K mg base ["thing"] "is_price" (defScope s_is_price) T.is_price.f cdv A outer s H E).nox (defBody s_is_price) (td_is_price T.CW.C T.CE.C) := by
  have hu := hr.units
  have hu9 := hu9_of hu
  have hu0 := hr.units0
  have sc := sc_is_price
  exact (dss_one (ds_ret (de_and (de_call (ok_is_fraction T) (hr.mono (by decide)) rfl T.is_fraction.g T.is_fraction.F.kp T.is_fraction.b (da_cons (dv 0) da_nil)) (de_and (de_cmp op_le opl_le (de_callB call_abs calll_abs rfl T.abs rfl (da_cons (de_item hu9 (dv 0) de_int) da_nil)) (intG T.MOST_TOP rfl) (nomark _)) (de_one (de_cmp op_le opl_le (de_item hu9 (dv 0) de_int) (intG T.MOST_BOTTOM rfl) (nomark _)))))))
theorem ok_is_price (T : Tx K mg) : FnOk P w K mg base CX0 3 T.is_price.f T.is_price.fd ["thing"] (spD w K (pp_is_price T.CW.C T.CE.C)) :=
  ok_of T.is_price.F sc_is_price (by decide) len_is_price (dd_is_price T) hp_is_price
theorem sc_check_prices : FnScope ["web", "thing", "step"] ["web", "thing"] (defScope s_check_prices) := ⟨rfl, rfl, rfl, by decide +kernel, rfl, by decide +kernel, by decide +kernel⟩
theorem dd_check_prices (T : Tx K mg) (cdv : Value) (A : Around) (outer : List Env) (s : Shared) (H : Hp) (E : XK) (hr : Room 4 (A.deeper (envOfC "check_prices" (defScope s_check_prices) s.heap.objs.size T.check_prices.f cdv))) : DSs (cxOf CX0 P w K mg base ["web", "thing", "step"] "check_prices" (defScope s_check_prices) T.check_prices.f cdv A outer s H E).nox (defBody s_check_prices) (td_check_prices T.CW.C T.CE.C) := by
  have hu := hr.units
  have hu9 := hu9_of hu
  have hu0 := hr.units0
  have sc := sc_check_prices
  exact (dss_one (ds_if (DW.dt (dw_or (dt_not (dt_val (de_isiDict rfl T.isinstance rfl T.dict (dv 1)))) (dw_or1 (dt_not (dt_val (de_callB (cr_all rfl) calll_all rfl T.all rfl (da_cons (de_lc rfl sc.nd (blkOk_by (own := [(("step" : Str), 2)]) rfl) (di_keys (dv 1)) (fun s H C cl fp => (dg_name sc.nd (i := 2) rfl (by first | exact Or.inl rfl | exact Or.inr rfl))) (fun s H C cl fp => dts_nil) (fun s H C cl fp => (de_and (de_call (ok_is_step T) (hr.mono (by decide)) rfl T.is_step.g T.is_step.F.kp T.is_step.b (da_cons (dv 0) (da_cons (dv 2) da_nil))) (de_one (de_call (ok_is_price T) (hr.mono (by decide)) rfl T.is_price.g T.is_price.F.kp T.is_price.b (da_cons (de_item hu9 (dv 1) (dv 2)) da_nil))))) (by decide)) da_nil))))))) (dss_one ds_never) dss_nil))
theorem ok_check_prices (T : Tx K mg) : FnOk P w K mg base CX0 5 T.check_prices.f T.check_prices.fd ["web", "thing"] (spD w K (pp_check_prices T.CW.C T.CE.C)) :=
  ok_of T.check_prices.F sc_check_prices (by decide) len_check_prices (dd_check_prices T) hp_check_prices
end
end DL
set_option Elab.async false
set_option linter.all false
set_option maxRecDepth 100000
namespace DL
open PySem PySem.Spec PyProof.Rows L2
section
variable {P : Program} {w : World} {K : PySem.W.Frag} {mg : Str → Option Value} {base : Heap}
theorem sc_law_draw : FnScope ["_law_dice_here", "_law_sides", "_law_mixed", "_law_cell", "_law_digit"] ["_law_dice_here", "_law_sides"] (defScope s_law_draw) := ⟨rfl, rfl, rfl, by decide +kernel, rfl, by decide +kernel, by decide +kernel⟩
theorem dd_law_draw (T : Tx K mg) (cdv : Value) (A : Around) (outer : List Env) (s : Shared) (H : Hp) (E : XK) (hr : Room 0 (A.deeper (envOfC "_law_draw" (defScope s_law_draw) s.heap.objs.size T.law_draw.f cdv))) : DSRs (cxOf CX0 P w K mg base ["_law_dice_here", "_law_sides", "_law_mixed", "_law_cell", "_law_digit"] "_law_draw" (defScope s_law_draw) T.law_draw.f cdv A outer s H E).nox (defBody s_law_draw) (td_law_draw T.CW.C T.CE.C) := by
  have hu := hr.units
  have hu9 := hu9_of hu
  have hu0 := hr.units0
  have sc := sc_law_draw
  exact (dsrs_cons (dsr_if (DW.dt (dw_and (dt_cmp (opr_eq hu) (opl_eq hu) (de_item hu9 (dv 0) de_int) de_int (nomark _)) (dw_and1 (dt_cmp (opr_lt hu0) opl_lt (de_item hu9 (dv 0) de_int) (de_callB callr_len calll_len rfl T.len rfl (da_cons (de_item hu9 (dv 0) de_int) da_nil)) (nomark _))))) (dsrs_cons (dsr_set (i := 3) (by decide) sc.nd rfl (by first | exact Or.inl rfl | exact Or.inr rfl) (de_item hu9 (de_item hu9 (dv 0) de_int) (de_item hu9 (dv 0) de_int))) (dsrs_cons (dsr_lset (pv 0) de_int (de_add (de_item hu9 (dv 0) de_int) de_int)) (dsrs_one (dsr_if (dt_cmp op_ge opl_ge (dv 3) (de_pow de_int de_int) (nomark _)) (dsrs_one (dsr_lset (pv 0) de_int (dv 3))) (dsrs_one (dsr_lset (pv 0) de_int (de_mod (de_callTy call_int1 calll_int rfl T.int rfl (da_cons (de_add (de_add (de_mul (de_item hu9 (dv 0) de_int) de_int) (de_mul (dv 3) de_int)) (de_item hu9 (dv 0) de_int)) da_nil)) de_int))))))) dsrs_nil) (dsrs_cons (dsr_if (dt_cmp op_gt opl_gt (de_item hu9 (dv 0) de_int) de_int (nomark _)) (dsrs_cons (dsr_set (i := 4) (by decide) sc.nd rfl (by first | exact Or.inl rfl | exact Or.inr rfl) (de_mod (de_callTy call_int1 calll_int rfl T.int rfl (da_cons (de_item hu9 (dv 0) de_int) da_nil)) (dv 1))) (dsrs_cons (dsr_lset (pv 0) de_int (de_fdiv (de_callTy call_int1 calll_int rfl T.int rfl (da_cons (de_item hu9 (dv 0) de_int) da_nil)) (dv 1))) (dsrs_one (dsr_ret (dv 4))))) dsrs_nil) (dsrs_cons (dsr_lset (pv 0) de_int (de_add (de_item hu9 (dv 0) de_int) de_int)) (dsrs_cons (dsr_lset (pv 0) de_int (de_mod (de_callTy call_int1 calll_int rfl T.int rfl (da_cons (de_add (de_add (de_mul (de_item hu9 (dv 0) de_int) de_int) (de_mul (de_item hu9 (dv 0) de_int) de_int)) de_int) da_nil)) de_int)) (dsrs_cons (dsr_set (i := 2) (by decide) sc.nd rfl (by first | exact Or.inl rfl | exact Or.inr rfl) (de_mod (de_callTy call_int1 calll_int rfl T.int rfl (da_cons (de_mul (de_item hu9 (dv 0) de_int) (de_add (de_fdiv (de_item hu9 (dv 0) de_int) de_int) de_int)) da_nil)) de_int)) (dsrs_cons (dsr_set (i := 2) (by decide) sc.nd rfl (by first | exact Or.inl rfl | exact Or.inr rfl) (de_mod (de_callTy call_int1 calll_int rfl T.int rfl (da_cons (de_mul (dv 2) (de_add (de_fdiv (dv 2) de_int) de_int)) da_nil)) de_int)) (dsrs_one (dsr_ret (de_mod (de_callTy call_int1 calll_int rfl T.int rfl (da_cons (de_fdiv (dv 2) de_int) da_nil)) (dv 1))))))))))
theorem ok_law_draw (T : Tx K mg) : FnOk P w K mg base CX0 1 T.law_draw.f T.law_draw.fd ["_law_dice_here", "_law_sides"] (spD w K ppDraw) :=
  ok_draw T.law_draw.F sc_law_draw (by decide) (dd_law_draw T) hp_law_draw
end
end DL
set_option Elab.async false
set_option linter.all false
set_option maxRecDepth 100000
namespace DL
open PySem PySem.Spec PyProof.Rows L2
section
variable {P : Program} {w : World} {K : PySem.W.Frag} {mg : Str → Option Value} {base : Heap}
theorem sc_all_steps : FnScope ["web", "found", "house", "dealer", "standing", "part", "number"] ["web"] (defScope s_all_steps) := ⟨rfl, rfl, rfl, by decide +kernel, rfl, by decide +kernel, by decide +kernel⟩
theorem dd_all_steps (T : Tx K mg) (cdv : Value) (A : Around) (outer : List Env) (s : Shared) (H : Hp) (E : XK) (hr : Room 0 (A.deeper (envOfC "all_steps" (defScope s_all_steps) s.heap.objs.size T.all_steps.f cdv))) : DSs (cxOf CX0 P w K mg base ["web", "found", "house", "dealer", "standing", "part", "number"] "all_steps" (defScope s_all_steps) T.all_steps.f cdv A outer s H E).nox (defBody s_all_steps) (td_all_steps T.CW.C T.CE.C) := by
  have hu := hr.units
  have hu9 := hu9_of hu
  have hu0 := hr.units0
  have sc := sc_all_steps
  exact (dss_cons (ds_set (i := 1) sc.nd rfl (by first | exact Or.inl rfl | exact Or.inr rfl) (de_lst da_nil)) (dss_cons (ds_for PassesOwn.never rfl (di_enum rfl T.enumerate (da_cons (de_fld (dv 0) T.CW.cls T.n_dealers rfl) da_nil)) (dg_tupK K rfl rfl (dgs_cons (dg_name sc.nd (i := 2) rfl (by first | exact Or.inl rfl | exact Or.inr rfl)) (dgs_cons (dg_name sc.nd (i := 3) rfl (by first | exact Or.inl rfl | exact Or.inr rfl)) dgs_nil))) (dss_one (ds_for PassesOwn.never rfl (di_enum rfl T.enumerate (da_cons (dv 3) da_nil)) (dg_tupK K rfl rfl (dgs_cons (dg_name sc.nd (i := 4) rfl (by first | exact Or.inl rfl | exact Or.inr rfl)) (dgs_cons (dg_name sc.nd (i := 5) rfl (by first | exact Or.inl rfl | exact Or.inr rfl)) dgs_nil))) (dss_one (ds_extend (pv 1) (de_lc rfl sc.nd (blkOk_by (own := [(("number" : Str), 6)]) rfl) (di_range1 rfl T.range (da_cons (de_callB callr_len calll_len rfl T.len rfl (da_cons (dv 5) da_nil)) da_nil)) (fun s H C cl fp => (dg_name sc.nd (i := 6) rfl (by first | exact Or.inl rfl | exact Or.inr rfl))) (fun s H C cl fp => dts_nil) (fun s H C cl fp => (de_tup (da_cons (dv 2) (da_cons (dv 4) (da_cons (dv 6) da_nil))))) (by decide)) ⟨rfl, rfl, rfl, rfl, rfl⟩))))) (dss_one (ds_ret (dv 1)))))
theorem ok_all_steps (T : Tx K mg) : FnOk P w K mg base CX0 1 T.all_steps.f T.all_steps.fd ["web"] (spD w K (pp_all_steps T.CW.C T.CE.C)) :=
  ok_of T.all_steps.F sc_all_steps (by decide) len_all_steps (dd_all_steps T) hp_all_steps
theorem sc_law_steps : FnScope ["_law_dealers", "_law_found", "_law_house", "_law_dealer_here", "_law_standing", "_law_pairs", "_law_number"] ["_law_dealers"] (defScope s_law_steps) := ⟨rfl, rfl, rfl, by decide +kernel, rfl, by decide +kernel, by decide +kernel⟩
theorem dd_law_steps (T : Tx K mg) (cdv : Value) (A : Around) (outer : List Env) (s : Shared) (H : Hp) (E : XK) (hr : Room 0 (A.deeper (envOfC "_law_steps" (defScope s_law_steps) s.heap.objs.size T.law_steps.f cdv))) : DSs (cxOf CX0 P w K mg base ["_law_dealers", "_law_found", "_law_house", "_law_dealer_here", "_law_standing", "_law_pairs", "_law_number"] "_law_steps" (defScope s_law_steps) T.law_steps.f cdv A outer s H E).nox (defBody s_law_steps) (td_law_steps T.CW.C T.CE.C) := by
  have hu := hr.units
  have hu9 := hu9_of hu
  have hu0 := hr.units0
  have sc := sc_law_steps
  exact (dss_cons (ds_set (i := 1) sc.nd rfl (by first | exact Or.inl rfl | exact Or.inr rfl) (de_lst da_nil)) (dss_cons (ds_for PassesOwn.never rfl (di_enum rfl T.enumerate (da_cons (dv 0) da_nil)) (dg_tupK K rfl rfl (dgs_cons (dg_name sc.nd (i := 2) rfl (by first | exact Or.inl rfl | exact Or.inr rfl)) (dgs_cons (dg_name sc.nd (i := 3) rfl (by first | exact Or.inl rfl | exact Or.inr rfl)) dgs_nil))) (dss_one (ds_for PassesOwn.never rfl (di_enum rfl T.enumerate (da_cons (dv 3) da_nil)) (dg_tupK K rfl rfl (dgs_cons (dg_name sc.nd (i := 4) rfl (by first | exact Or.inl rfl | exact Or.inr rfl)) (dgs_cons (dg_name sc.nd (i := 5) rfl (by first | exact Or.inl rfl | exact Or.inr rfl)) dgs_nil))) (dss_one (ds_extend (pv 1) (de_lc rfl sc.nd (blkOk_by (own := [(("_law_number" : Str), 6)]) rfl) (di_range1 rfl T.range (da_cons (de_callB callr_len calll_len rfl T.len rfl (da_cons (dv 5) da_nil)) da_nil)) (fun s H C cl fp => (dg_name sc.nd (i := 6) rfl (by first | exact Or.inl rfl | exact Or.inr rfl))) (fun s H C cl fp => dts_nil) (fun s H C cl fp => (de_tup (da_cons (dv 2) (da_cons (dv 4) (da_cons (dv 6) da_nil))))) (by decide)) ⟨rfl, rfl, rfl, rfl, rfl⟩))))) (dss_one (ds_ret (dv 1)))))
theorem ok_law_steps (T : Tx K mg) : FnOk P w K mg base CX0 1 T.law_steps.f T.law_steps.fd ["_law_dealers"] (spD w K (pp_law_steps T.CW.C T.CE.C)) :=
  ok_of T.law_steps.F sc_law_steps (by decide) len_law_steps (dd_law_steps T) hp_law_steps
theorem sc_door_at : FnScope ["web", "step"] ["web", "step"] (defScope s_door_at) := ⟨rfl, rfl, rfl, by decide +kernel, rfl, by decide +kernel, by decide +kernel⟩
theorem dd_door_at (T : Tx K mg) (cdv : Value) (A : Around) (outer : List Env) (s : Shared) (H : Hp) (E : XK) (hr : Room 0 (A.deeper (envOfC "door_at" (defScope s_door_at) s.heap.objs.size T.door_at.f cdv))) : DSs (cxOf CX0 P w K mg base ["web", "step"] "door_at" (defScope s_door_at) T.door_at.f cdv A outer s H E).nox (defBody s_door_at) (td_door_at T.CW.C T.CE.C) := by
  have hu := hr.units
  have hu9 := hu9_of hu
  have hu0 := hr.units0
  have sc := sc_door_at
  exact (dss_one (ds_ret (de_item hu9 (de_item hu9 (de_item hu9 (de_item hu9 (de_fld (dv 0) T.CW.cls T.n_dealers rfl) (de_item hu9 (dv 1) de_int)) (de_item hu9 (dv 1) de_int)) (de_item hu9 (dv 1) de_int)) de_int)))
theorem ok_door_at (T : Tx K mg) : FnOk P w K mg base CX0 1 T.door_at.f T.door_at.fd ["web", "step"] (spD w K (pp_door_at T.CW.C T.CE.C)) :=
  ok_of T.door_at.F sc_door_at (by decide) len_door_at (dd_door_at T) hp_door_at
theorem sc_next_at : FnScope ["web", "step"] ["web", "step"] (defScope s_next_at) := ⟨rfl, rfl, rfl, by decide +kernel, rfl, by decide +kernel, by decide +kernel⟩
theorem dd_next_at (T : Tx K mg) (cdv : Value) (A : Around) (outer : List Env) (s : Shared) (H : Hp) (E : XK) (hr : Room 0 (A.deeper (envOfC "next_at" (defScope s_next_at) s.heap.objs.size T.next_at.f cdv))) : DSs (cxOf CX0 P w K mg base ["web", "step"] "next_at" (defScope s_next_at) T.next_at.f cdv A outer s H E).nox (defBody s_next_at) (td_next_at T.CW.C T.CE.C) := by
  have hu := hr.units
  have hu9 := hu9_of hu
  have hu0 := hr.units0
  have sc := sc_next_at
  exact (dss_one (ds_ret (de_item hu9 (de_item hu9 (de_item hu9 (de_item hu9 (de_fld (dv 0) T.CW.cls T.n_dealers rfl) (de_item hu9 (dv 1) de_int)) (de_item hu9 (dv 1) de_int)) (de_item hu9 (dv 1) de_int)) de_int)))
theorem ok_next_at (T : Tx K mg) : FnOk P w K mg base CX0 1 T.next_at.f T.next_at.fd ["web", "step"] (spD w K (pp_next_at T.CW.C T.CE.C)) :=
  ok_of T.next_at.F sc_next_at (by decide) len_next_at (dd_next_at T) hp_next_at
theorem sc_law_door : FnScope ["_law_dealers", "_law_step"] ["_law_dealers", "_law_step"] (defScope s_law_door) := ⟨rfl, rfl, rfl, by decide +kernel, rfl, by decide +kernel, by decide +kernel⟩
theorem dd_law_door (T : Tx K mg) (cdv : Value) (A : Around) (outer : List Env) (s : Shared) (H : Hp) (E : XK) (hr : Room 0 (A.deeper (envOfC "_law_door" (defScope s_law_door) s.heap.objs.size T.law_door.f cdv))) : DSs (cxOf CX0 P w K mg base ["_law_dealers", "_law_step"] "_law_door" (defScope s_law_door) T.law_door.f cdv A outer s H E).nox (defBody s_law_door) (td_law_door T.CW.C T.CE.C) := by
  have hu := hr.units
  have hu9 := hu9_of hu
  have hu0 := hr.units0
  have sc := sc_law_door
  exact (dss_one (ds_ret (de_item hu9 (de_item hu9 (de_item hu9 (de_item hu9 (dv 0) (de_item hu9 (dv 1) de_int)) (de_item hu9 (dv 1) de_int)) (de_item hu9 (dv 1) de_int)) de_int)))
theorem ok_law_door (T : Tx K mg) : FnOk P w K mg base CX0 1 T.law_door.f T.law_door.fd ["_law_dealers", "_law_step"] (spD w K (pp_law_door T.CW.C T.CE.C)) :=
  ok_of T.law_door.F sc_law_door (by decide) len_law_door (dd_law_door T) hp_law_door
theorem sc_law_next : FnScope ["_law_dealers", "_law_step"] ["_law_dealers", "_law_step"] (defScope s_law_next) := ⟨rfl, rfl, rfl, by decide +kernel, rfl, by decide +kernel, by decide +kernel⟩
theorem dd_law_next (T : Tx K mg) (cdv : Value) (A : Around) (outer : List Env) (s : Shared) (H : Hp) (E : XK) (hr : Room 0 (A.deeper (envOfC "_law_next" (defScope s_law_next) s.heap.objs.size T.law_next.f cdv))) : DSs (cxOf CX0 P w K mg base ["_law_dealers", "_law_step"] "_law_next" (defScope s_law_next) T.law_next.f cdv A outer s H E).nox (defBody s_law_next) (td_law_next T.CW.C T.CE.C) := by
  have hu := hr.units
  have hu9 := hu9_of hu
  have hu0 := hr.units0
  have sc := sc_law_next
  exact (dss_one (ds_ret (de_item hu9 (de_item hu9 (de_item hu9 (de_item hu9 (dv 0) (de_item hu9 (dv 1) de_int)) (de_item hu9 (dv 1) de_int)) (de_item hu9 (dv 1) de_int)) de_int)))
theorem ok_law_next (T : Tx K mg) : FnOk P w K mg base CX0 1 T.law_next.f T.law_next.fd ["_law_dealers", "_law_step"] (spD w K (pp_law_next T.CW.C T.CE.C)) :=
  ok_of T.law_next.F sc_law_next (by decide) len_law_next (dd_law_next T) hp_law_next
theorem sc_law_fraction : FnScope ["_law_top", "_law_bottom", "_law_one", "_law_other"] ["_law_top", "_law_bottom"] (defScope s_law_fraction) := ⟨rfl, rfl, rfl, by decide +kernel, rfl, by decide +kernel, by decide +kernel⟩
theorem dd_law_fraction (T : Tx K mg) (cdv : Value) (A : Around) (outer : List Env) (s : Shared) (H : Hp) (E : XK) (hr : Room 0 (A.deeper (envOfC "_law_fraction" (defScope s_law_fraction) s.heap.objs.size T.law_fraction.f cdv))) : DSs (cxOf CX0 P w K mg base ["_law_top", "_law_bottom", "_law_one", "_law_other"] "_law_fraction" (defScope s_law_fraction) T.law_fraction.f cdv A outer s H E).nox (defBody s_law_fraction) (td_law_fraction T.CW.C T.CE.C) := by
  have hu := hr.units
  have hu9 := hu9_of hu
  have hu0 := hr.units0
  have sc := sc_law_fraction
  exact (dss_cons (ds_par (i := 2) (j := 3) rfl sc.nd rfl rfl (by decide) rfl rfl (da_cons (de_callB call_abs calll_abs rfl T.abs rfl (da_cons (dv 0) da_nil)) (da_cons (dv 1) da_nil)) rfl) (dss_cons (ds_while PassesOwn.never (dt_cmp op_gt opl_gt (dv 3) de_int (nomark _)) (dss_one (ds_par (i := 2) (j := 3) rfl sc.nd rfl rfl (by decide) rfl rfl (da_cons (dv 3) (da_cons (de_mod (de_callTy call_int1 calll_int rfl T.int rfl (da_cons (dv 2) da_nil)) (dv 3)) da_nil)) rfl))) (dss_one (ds_ret (de_tup (da_cons (de_fdiv (dv 0) (dv 2)) (da_cons (de_fdiv (dv 1) (dv 2)) da_nil)))))))
theorem ok_law_fraction (T : Tx K mg) : FnOk P w K mg base CX0 1 T.law_fraction.f T.law_fraction.fd ["_law_top", "_law_bottom"] (spD w K (pp_law_fraction T.CW.C T.CE.C)) :=
  ok_of T.law_fraction.F sc_law_fraction (by decide) len_law_fraction (dd_law_fraction T) hp_law_fraction
theorem sc_law_sum : FnScope ["_law_one", "_law_other", "_law_sign"] ["_law_one", "_law_other", "_law_sign"] (defScope s_law_sum) := ⟨rfl, rfl, rfl, by decide +kernel, rfl, by decide +kernel, by decide +kernel⟩
theorem dd_law_sum (T : Tx K mg) (cdv : Value) (A : Around) (outer : List Env) (s : Shared) (H : Hp) (E : XK) (hr : Room 1 (A.deeper (envOfC "_law_sum" (defScope s_law_sum) s.heap.objs.size T.law_sum.f cdv))) : DSs (cxOf CX0 P w K mg base ["_law_one", "_law_other", "_law_sign"] "_law_sum" (defScope s_law_sum) T.law_sum.f cdv A outer s H E).nox (defBody s_law_sum) (td_law_sum T.CW.C T.CE.C) := by
  have hu := hr.units
  have hu9 := hu9_of hu
  have hu0 := hr.units0
  have sc := sc_law_sum
  exact (dss_one (ds_ret (de_call (ok_law_fraction T) (hr.mono (by decide)) rfl T.law_fraction.g T.law_fraction.F.kp T.law_fraction.b (da_cons (de_add (de_mul (de_item hu9 (dv 0) de_int) (de_item hu9 (dv 1) de_int)) (de_mul (de_mul (dv 2) (de_item hu9 (dv 1) de_int)) (de_item hu9 (dv 0) de_int))) (da_cons (de_mul (de_item hu9 (dv 0) de_int) (de_item hu9 (dv 1) de_int)) da_nil)))))
theorem ok_law_sum (T : Tx K mg) : FnOk P w K mg base CX0 2 T.law_sum.f T.law_sum.fd ["_law_one", "_law_other", "_law_sign"] (spD w K (pp_law_sum T.CW.C T.CE.C)) :=
  ok_of T.law_sum.F sc_law_sum (by decide) len_law_sum (dd_law_sum T) hp_law_sum
theorem sc_law_less : FnScope ["_law_one", "_law_other"] ["_law_one", "_law_other"] (defScope s_law_less) := ⟨rfl, rfl, rfl, by decide +kernel, rfl, by decide +kernel, by decide +kernel⟩
theorem dd_law_less (T : Tx K mg) (cdv : Value) (A : Around) (outer : List Env) (s : Shared) (H : Hp) (E : XK) (hr : Room 0 (A.deeper (envOfC "_law_less" (defScope s_law_less) s.heap.objs.size T.law_less.f cdv))) : DSs (cxOf CX0 P w K mg base ["_law_one", "_law_other"] "_law_less" (defScope s_law_less) T.law_less.f cdv A outer s H E).nox (defBody s_law_less) (td_law_less T.CW.C T.CE.C) := by
  have hu := hr.units
  have hu9 := hu9_of hu
  have hu0 := hr.units0
  have sc := sc_law_less
  exact (dss_one (ds_ret (de_cmp (opr_lt hu0) opl_lt (de_mul (de_item hu9 (dv 0) de_int) (de_item hu9 (dv 1) de_int)) (de_mul (de_item hu9 (dv 1) de_int) (de_item hu9 (dv 0) de_int)) (nomark _))))
theorem ok_law_less (T : Tx K mg) : FnOk P w K mg base CX0 1 T.law_less.f T.law_less.fd ["_law_one", "_law_other"] (spD w K (pp_law_less T.CW.C T.CE.C)) :=
  ok_of T.law_less.F sc_law_less (by decide) len_law_less (dd_law_less T) hp_law_less
theorem sc_worth_name : FnScope ["door"] ["door"] (defScope s_worth_name) := ⟨rfl, rfl, rfl, by decide +kernel, rfl, by decide +kernel, by decide +kernel⟩
theorem dd_worth_name (T : Tx K mg) (cdv : Value) (A : Around) (outer : List Env) (s : Shared) (H : Hp) (E : XK) (hr : Room 0 (A.deeper (envOfC "worth_name" (defScope s_worth_name) s.heap.objs.size T.worth_name.f cdv))) : DSs (cxOf CX0 P w K mg base ["door"] "worth_name" (defScope s_worth_name) T.worth_name.f cdv A outer s H E).nox (defBody s_worth_name) (td_worth_name T.CW.C T.CE.C) := by
  have hu := hr.units
  have hu9 := hu9_of hu
  have hu0 := hr.units0
  have sc := sc_worth_name
  exact (dss_one (ds_ret (de_tup (da_cons (dv 0) (da_cons de_negI da_nil)))))
theorem ok_worth_name (T : Tx K mg) : FnOk P w K mg base CX0 1 T.worth_name.f T.worth_name.fd ["door"] (spD w K (pp_worth_name T.CW.C T.CE.C)) :=
  ok_of T.worth_name.F sc_worth_name (by decide) len_worth_name (dd_worth_name T) hp_worth_name
end
end DL
set_option Elab.async false
set_option linter.all false
set_option maxRecDepth 100000
namespace DL
open PySem PySem.Spec PyProof.Rows L2
section
variable {P : Program} {w : World} {K : PySem.W.Frag} {mg : Str → Option Value} {base : Heap}
theorem sc_with_times : FnScope ["one", "other", "factor", "found", "name", "value"] ["one", "other", "factor"] (defScope s_with_times) := ⟨rfl, rfl, rfl, by decide +kernel, rfl, by decide +kernel, by decide +kernel⟩
theorem dd_with_times (T : Tx K mg) (cdv : Value) (A : Around) (outer : List Env) (s : Shared) (H : Hp) (E : XK) (hr : Room 3 (A.deeper (envOfC "with_times" (defScope s_with_times) s.heap.objs.size T.with_times.f cdv))) : DSs (cxOf CX0 P w K mg base ["one", "other", "factor", "found", "name", "value"] "with_times" (defScope s_with_times) T.with_times.f cdv A outer s H E).nox (defBody s_with_times) (td_with_times T.CW.C T.CE.C) := by
  have hu := hr.units
  have hu9 := hu9_of hu
  have hu0 := hr.units0
  have sc := sc_with_times
  exact (dss_cons (ds_set (i := 3) sc.nd rfl (by first | exact Or.inl rfl | exact Or.inr rfl) (de_dictCopy hu rfl T.dict (da_cons (dv 0) da_nil))) (dss_cons (ds_for PassesOwn.never rfl (di_keys (dv 1)) (dg_name sc.nd (i := 4) rfl (by first | exact Or.inl rfl | exact Or.inr rfl)) (dss_cons (ds_set (i := 5) sc.nd rfl (by first | exact Or.inl rfl | exact Or.inr rfl) (de_call (ok_plus T) (hr.mono (by decide)) rfl T.plus.g T.plus.F.kp T.plus.b (da_cons (de_getX hu9 (dv 3) (dv 4) (T.ZERO.de rfl) ⟨rfl, rfl, rfl, rfl⟩) (da_cons (de_call (ok_times T) (hr.mono (by decide)) rfl T.times.g T.times.F.kp T.times.b (da_cons (dv 2) (da_cons (de_item hu9 (dv 1) (dv 4)) da_nil))) da_nil)))) (dss_one (ds_if (dt_cmp (opr_eq hu) (opl_eq hu) (dv 5) (T.ZERO.de rfl) (nomark _)) (dss_one (ds_dpop hu9 (pv 3) (dv 4) de_non ⟨rfl, rfl, rfl, rfl⟩)) (dss_one (ds_dset hu9 (pv 3) (dv 4) (dv 5))))))) (dss_one (ds_ret (dv 3)))))
theorem ok_with_times (T : Tx K mg) : FnOk P w K mg base CX0 4 T.with_times.f T.with_times.fd ["one", "other", "factor"] (spD w K (pp_with_times T.CW.C T.CE.C)) :=
  ok_of T.with_times.F sc_with_times (by decide) len_with_times (dd_with_times T) hp_with_times
theorem sc_without_noughts : FnScope ["row", "name"] ["row"] (defScope s_without_noughts) := ⟨rfl, rfl, rfl, by decide +kernel, rfl, by decide +kernel, by decide +kernel⟩
theorem dd_without_noughts (T : Tx K mg) (cdv : Value) (A : Around) (outer : List Env) (s : Shared) (H : Hp) (E : XK) (hr : Room 0 (A.deeper (envOfC "without_noughts" (defScope s_without_noughts) s.heap.objs.size T.without_noughts.f cdv))) : DSs (cxOf CX0 P w K mg base ["row", "name"] "without_noughts" (defScope s_without_noughts) T.without_noughts.f cdv A outer s H E).nox (defBody s_without_noughts) (td_without_noughts T.CW.C T.CE.C) := by
  have hu := hr.units
  have hu9 := hu9_of hu
  have hu0 := hr.units0
  have sc := sc_without_noughts
  exact (dss_one (ds_ret (de_dc hu9 rfl sc.nd (blkOk_by (own := [(("name" : Str), 1)]) rfl) (di_keys (dv 0)) (fun s H C cl fp => (dg_name sc.nd (i := 1) rfl (by first | exact Or.inl rfl | exact Or.inr rfl))) (fun s H C cl fp => (dts_one (dt_cmp (opr_ne hu) (opl_ne hu) (de_item hu9 (dv 0) (dv 1)) (T.ZERO.de rfl) (nomark _)))) (fun s H C cl fp => (dv 1)) (fun s H C cl fp => (de_item hu9 (dv 0) (dv 1))) (by decide))))
theorem ok_without_noughts (T : Tx K mg) : FnOk P w K mg base CX0 1 T.without_noughts.f T.without_noughts.fd ["row"] (spD w K (pp_without_noughts T.CW.C T.CE.C)) :=
  ok_of T.without_noughts.F sc_without_noughts (by decide) len_without_noughts (dd_without_noughts T) hp_without_noughts
theorem sc_price_of : FnScope ["prices", "step"] ["prices", "step"] (defScope s_price_of) := ⟨rfl, rfl, rfl, by decide +kernel, rfl, by decide +kernel, by decide +kernel⟩
theorem dd_price_of (T : Tx K mg) (cdv : Value) (A : Around) (outer : List Env) (s : Shared) (H : Hp) (E : XK) (hr : Room 0 (A.deeper (envOfC "price_of" (defScope s_price_of) s.heap.objs.size T.price_of.f cdv))) : DSs (cxOf CX0 P w K mg base ["prices", "step"] "price_of" (defScope s_price_of) T.price_of.f cdv A outer s H E).nox (defBody s_price_of) (td_price_of T.CW.C T.CE.C) := by
  have hu := hr.units
  have hu9 := hu9_of hu
  have hu0 := hr.units0
  have sc := sc_price_of
  exact (dss_one (ds_ret (de_getX hu9 (dv 0) (dv 1) (T.ZERO.de rfl) ⟨rfl, rfl, rfl, rfl⟩)))
theorem ok_price_of (T : Tx K mg) : FnOk P w K mg base CX0 1 T.price_of.f T.price_of.fd ["prices", "step"] (spD w K (pp_price_of T.CW.C T.CE.C)) :=
  ok_of T.price_of.F sc_price_of (by decide) len_price_of (dd_price_of T) hp_price_of
end
end DL
set_option Elab.async false
set_option linter.all false
set_option maxRecDepth 100000
namespace DL
open PySem PySem.Spec PyProof.Rows L2
section
variable {P : Program} {w : World} {K : PySem.W.Frag} {mg : Str → Option Value} {base : Heap}
theorem sc_Equation_less : FnScope ["self", "other", "factor", "away", "right"] ["self", "other", "factor"] (defScope s_Equation_less) := ⟨rfl, rfl, rfl, by decide +kernel, rfl, by decide +kernel, by decide +kernel⟩
theorem dd_Equation_less (T : Tx K mg) (cdv : Value) (A : Around) (outer : List Env) (s : Shared) (H : Hp) (E : XK) (hr : Room 4 (A.deeper (envOfC "Equation.less" (defScope s_Equation_less) s.heap.objs.size T.Equation_less.f cdv))) : DSs (cxOf CX0 P w K mg base ["self", "other", "factor", "away", "right"] "Equation.less" (defScope s_Equation_less) T.Equation_less.f cdv A outer s H E).nox (defBody s_Equation_less) (td_Equation_less T.CW.C T.CE.C) := by
  have hu := hr.units
  have hu9 := hu9_of hu
  have hu0 := hr.units0
  have sc := sc_Equation_less
  exact (dss_cons (ds_set (i := 3) sc.nd rfl (by first | exact Or.inl rfl | exact Or.inr rfl) (de_call (ok_minus T) (hr.mono (by decide)) rfl T.minus.g T.minus.F.kp T.minus.b (da_cons (T.ZERO.de rfl) (da_cons (dv 2) da_nil)))) (dss_cons (ds_set (i := 4) sc.nd rfl (by first | exact Or.inl rfl | exact Or.inr rfl) (de_call (ok_plus T) (hr.mono (by decide)) rfl T.plus.g T.plus.F.kp T.plus.b (da_cons (de_fld (dv 0) T.CE.cls T.n_right rfl) (da_cons (de_call (ok_times T) (hr.mono (by decide)) rfl T.times.g T.times.F.kp T.times.b (da_cons (dv 3) (da_cons (de_fld (dv 1) T.CE.cls T.n_right rfl) da_nil))) da_nil)))) (dss_one (ds_ret (de_make (names := ["row", "right", "mix"]) T.CE.mk_ (ok_Equation_init T) (hr.mono (by decide)) rfl T.CE.g T.Equation_init.b (da_cons (de_call (ok_with_times T) (hr.mono (by decide)) rfl T.with_times.g T.with_times.F.kp T.with_times.b (da_cons (de_fld (dv 0) T.CE.cls T.n_row rfl) (da_cons (de_fld (dv 1) T.CE.cls T.n_row rfl) (da_cons (dv 3) da_nil)))) (da_cons (dv 4) (da_cons (de_call (ok_with_times T) (hr.mono (by decide)) rfl T.with_times.g T.with_times.F.kp T.with_times.b (da_cons (de_fld (dv 0) T.CE.cls T.n_mix rfl) (da_cons (de_fld (dv 1) T.CE.cls T.n_mix rfl) (da_cons (dv 3) da_nil)))) da_nil))))))))
theorem ok_Equation_less (T : Tx K mg) : FnOk P w K mg base CX0 5 T.Equation_less.f T.Equation_less.fd ["self", "other", "factor"] (spD w K (pp_Equation_less T.CW.C T.CE.C)) :=
  ok_of T.Equation_less.F sc_Equation_less (by decide) len_Equation_less (dd_Equation_less T) hp_Equation_less
theorem sc_values_of : FnScope ["heads", "values", "name", "head", "rest", "other"] ["heads"] (defScope s_values_of) := ⟨rfl, rfl, rfl, by decide +kernel, rfl, by decide +kernel, by decide +kernel⟩
theorem dd_values_of (T : Tx K mg) (cdv : Value) (A : Around) (outer : List Env) (s : Shared) (H : Hp) (E : XK) (hr : Room 3 (A.deeper (envOfC "values_of" (defScope s_values_of) s.heap.objs.size T.values_of.f cdv))) : DSs (cxOf CX0 P w K mg base ["heads", "values", "name", "head", "rest", "other"] "values_of" (defScope s_values_of) T.values_of.f cdv A outer s H E).nox (defBody s_values_of) (td_values_of T.CW.C T.CE.C) := by
  have hu := hr.units
  have hu9 := hu9_of hu
  have hu0 := hr.units0
  have sc := sc_values_of
  exact (dss_cons (ds_set (i := 1) sc.nd rfl (by first | exact Or.inl rfl | exact Or.inr rfl) de_dnew) (dss_cons (ds_for PassesOwn.never rfl (di_rev rfl T.reversed (da_cons (dv 0) da_nil)) (dg_tupK K rfl rfl (dgs_cons (dg_name sc.nd (i := 2) rfl (by first | exact Or.inl rfl | exact Or.inr rfl)) (dgs_cons (dg_name sc.nd (i := 3) rfl (by first | exact Or.inl rfl | exact Or.inr rfl)) dgs_nil))) (dss_cons (ds_set (i := 4) sc.nd rfl (by first | exact Or.inl rfl | exact Or.inr rfl) (de_fld (dv 3) T.CE.cls T.n_right rfl)) (dss_cons (ds_for PassesOwn.never rfl (di_keys (de_fld (dv 3) T.CE.cls T.n_row rfl)) (dg_name sc.nd (i := 5) rfl (by first | exact Or.inl rfl | exact Or.inr rfl)) (dss_one (ds_if (dt_cmp (opr_ne hu) (opl_ne hu) (dv 5) (dv 2) (nomark _)) (dss_one (ds_set (i := 4) sc.nd rfl (by first | exact Or.inl rfl | exact Or.inr rfl) (de_call (ok_minus T) (hr.mono (by decide)) rfl T.minus.g T.minus.F.kp T.minus.b (da_cons (dv 4) (da_cons (de_call (ok_times T) (hr.mono (by decide)) rfl T.times.g T.times.F.kp T.times.b (da_cons (de_item hu9 (de_fld (dv 3) T.CE.cls T.n_row rfl) (dv 5)) (da_cons (de_getX hu9 (dv 1) (dv 5) (T.ZERO.de rfl) ⟨rfl, rfl, rfl, rfl⟩) da_nil))) da_nil))))) dss_nil))) (dss_one (ds_dset hu9 (pv 1) (dv 2) (de_call (ok_over T) (hr.mono (by decide)) rfl T.over.g T.over.F.kp T.over.b (da_cons (dv 4) (da_cons (de_item hu9 (de_fld (dv 3) T.CE.cls T.n_row rfl) (dv 2)) da_nil)))))))) (dss_one (ds_ret (dv 1)))))
theorem ok_values_of (T : Tx K mg) : FnOk P w K mg base CX0 4 T.values_of.f T.values_of.fd ["heads"] (spD w K (pp_values_of T.CW.C T.CE.C)) :=
  ok_of T.values_of.F sc_values_of (by decide) len_values_of (dd_values_of T) hp_values_of
theorem sc_solved : FnScope ["rows", "rights", "heads", "number", "row", "equation", "name", "head"] ["rows", "rights"] (defScope s_solved) := ⟨rfl, rfl, rfl, by decide +kernel, rfl, by decide +kernel, by decide +kernel⟩
theorem dd_solved (T : Tx K mg) (cdv : Value) (A : Around) (outer : List Env) (s : Shared) (H : Hp) (E : XK) (hr : Room 5 (A.deeper (envOfC "solved" (defScope s_solved) s.heap.objs.size T.solved.f cdv))) : DSs (cxOf CX0 P w K mg base ["rows", "rights", "heads", "number", "row", "equation", "name", "head"] "solved" (defScope s_solved) T.solved.f cdv A outer s H E).nox (defBody s_solved) (td_solved T.CW.C T.CE.C) := by
  have hu := hr.units
  have hu9 := hu9_of hu
  have hu0 := hr.units0
  have sc := sc_solved
  exact (dss_cons (ds_set (i := 2) sc.nd rfl (by first | exact Or.inl rfl | exact Or.inr rfl) (de_lst da_nil)) (dss_cons (ds_for PassesOwn.never rfl (di_enum rfl T.enumerate (da_cons (dv 0) da_nil)) (dg_tupK K rfl rfl (dgs_cons (dg_name sc.nd (i := 3) rfl (by first | exact Or.inl rfl | exact Or.inr rfl)) (dgs_cons (dg_name sc.nd (i := 4) rfl (by first | exact Or.inl rfl | exact Or.inr rfl)) dgs_nil))) (dss_cons (ds_set (i := 5) sc.nd rfl (by first | exact Or.inl rfl | exact Or.inr rfl) (de_make (names := ["row", "right", "mix"]) T.CE.mk_ (ok_Equation_init T) (hr.mono (by decide)) rfl T.CE.g T.Equation_init.b (da_cons (de_call (ok_without_noughts T) (hr.mono (by decide)) rfl T.without_noughts.g T.without_noughts.F.kp T.without_noughts.b (da_cons (dv 4) da_nil)) (da_cons (de_item hu9 (dv 1) (dv 3)) (da_cons (de_dispI (dv 3) (T.ONE.de rfl)) da_nil))))) (dss_cons (ds_forOwn (i := 2) PassesOwn.never rfl (pv 2) (dg_tupK K rfl rfl (dgs_cons (dg_name sc.nd (i := 6) rfl (by first | exact Or.inl rfl | exact Or.inr rfl)) (dgs_cons (dg_name sc.nd (i := 7) rfl (by first | exact Or.inl rfl | exact Or.inr rfl)) dgs_nil))) (dss_one (ds_if (dt_cmp (opr_in hu9) opl_in (dv 6) (de_fld (dv 5) T.CE.cls T.n_row rfl) (by with_unfolding_all rfl)) (dss_one (ds_set (i := 5) sc.nd rfl (by first | exact Or.inl rfl | exact Or.inr rfl) (de_meth (pl := _) (dv 5) T.CE.cls T.less (ok_Equation_less T) (hr.mono (by decide)) T.Equation_less.b (da_cons (dv 7) (da_cons (de_call (ok_over T) (hr.mono (by decide)) rfl T.over.g T.over.F.kp T.over.b (da_cons (de_item hu9 (de_fld (dv 5) T.CE.cls T.n_row rfl) (dv 6)) (da_cons (de_item hu9 (de_fld (dv 7) T.CE.cls T.n_row rfl) (dv 6)) da_nil))) da_nil))))) dss_nil))) (dss_one (ds_if (dt_cmp op_gt opl_gt (de_callB callr_len calll_len rfl T.len rfl (da_cons (de_fld (dv 5) T.CE.cls T.n_row rfl) da_nil)) de_int (nomark _)) (dss_one (ds_append (pv 2) (de_tup (da_cons (de_minD rfl hu rfl T.min (da_cons (de_fld (dv 5) T.CE.cls T.n_row rfl) da_nil)) (da_cons (dv 5) da_nil))) ⟨rfl, rfl, rfl, rfl, rfl⟩)) (dss_one (ds_if (dt_cmp (opr_ne hu) (opl_ne hu) (de_fld (dv 5) T.CE.cls T.n_right rfl) (T.ZERO.de rfl) (nomark _)) (dss_one (ds_ret (de_tup (da_cons de_str (da_cons (de_fld (dv 5) T.CE.cls T.n_mix rfl) da_nil))))) dss_nil))))))) (dss_share 2 (dss_one (ds_ret (de_tup (da_cons de_str (da_cons (de_call (ok_values_of T) (hr.mono (by decide)) rfl T.values_of.g T.values_of.F.kp T.values_of.b (da_cons (dv 2) da_nil)) da_nil))))))))
theorem ok_solved (T : Tx K mg) : FnOk P w K mg base CX0 6 T.solved.f T.solved.fd ["rows", "rights"] (spD w K (pp_solved T.CW.C T.CE.C)) :=
  ok_of T.solved.F sc_solved (by decide) len_solved (dd_solved T) hp_solved
end
end DL
set_option Elab.async false
set_option linter.all false
set_option maxRecDepth 100000
namespace DL
open PySem PySem.Spec PyProof.Rows L2
section
variable {P : Program} {w : World} {K : PySem.W.Frag} {mg : Str → Option Value} {base : Heap}
theorem sc_equation_of : FnScope ["web", "step", "door", "later", "parts", "row", "house", "standing", "number", "name", "many"] ["web", "step"] (defScope s_equation_of) := ⟨rfl, rfl, rfl, by decide +kernel, rfl, by decide +kernel, by decide +kernel⟩
theorem dd_equation_of (T : Tx K mg) (cdv : Value) (A : Around) (outer : List Env) (s : Shared) (H : Hp) (E : XK) (hr : Room 3 (A.deeper (envOfC "equation_of" (defScope s_equation_of) s.heap.objs.size T.equation_of.f cdv))) : DSs (cxOf CX0 P w K mg base ["web", "step", "door", "later", "parts", "row", "house", "standing", "number", "name", "many"] "equation_of" (defScope s_equation_of) T.equation_of.f cdv A outer s H E).nox (defBody s_equation_of) (td_equation_of T.CW.C T.CE.C) := by
  have hu := hr.units
  have hu9 := hu9_of hu
  have hu0 := hr.units0
  have sc := sc_equation_of
  exact (dss_cons (ds_asg (dv 1) (dg_tupK K rfl rfl (dgs_cons (dg_name sc.nd (i := 6) rfl (by first | exact Or.inl rfl | exact Or.inr rfl)) (dgs_cons (dg_name sc.nd (i := 7) rfl (by first | exact Or.inl rfl | exact Or.inr rfl)) (dgs_cons (dg_name sc.nd (i := 8) rfl (by first | exact Or.inl rfl | exact Or.inr rfl)) dgs_nil))))) (dss_cons (ds_set (i := 2) sc.nd rfl (by first | exact Or.inl rfl | exact Or.inr rfl) (de_call (ok_door_at T) (hr.mono (by decide)) rfl T.door_at.g T.door_at.F.kp T.door_at.b (da_cons (dv 0) (da_cons (dv 1) da_nil)))) (dss_cons (ds_set (i := 3) sc.nd rfl (by first | exact Or.inl rfl | exact Or.inr rfl) (de_call (ok_next_at T) (hr.mono (by decide)) rfl T.next_at.g T.next_at.F.kp T.next_at.b (da_cons (dv 0) (da_cons (dv 1) da_nil)))) (dss_cons (ds_set (i := 4) sc.nd rfl (by first | exact Or.inl rfl | exact Or.inr rfl) (de_lst (da_cons (de_tup (da_cons (de_call (ok_worth_name T) (hr.mono (by decide)) rfl T.worth_name.g T.worth_name.F.kp T.worth_name.b (da_cons (dv 6) da_nil)) (da_cons de_int da_nil))) da_nil))) (dss_cons (ds_if (dt_cmp op_ge opl_ge (dv 2) de_int (nomark _)) (dss_one (ds_append (pv 4) (de_tup (da_cons (de_call (ok_worth_name T) (hr.mono (by decide)) rfl T.worth_name.g T.worth_name.F.kp T.worth_name.b (da_cons (dv 2) da_nil)) (da_cons de_negI da_nil))) ⟨rfl, rfl, rfl, rfl, rfl⟩)) dss_nil) (dss_cons (ds_if (dt_cmp op_gt opl_gt (dv 3) de_int (nomark _)) (dss_one (ds_append (pv 4) (de_tup (da_cons (de_tup (da_cons (dv 6) (da_cons (dv 3) da_nil))) (da_cons de_int da_nil))) ⟨rfl, rfl, rfl, rfl, rfl⟩)) dss_nil) (dss_cons (ds_if (dt_cmp op_gt opl_gt (dv 7) de_int (nomark _)) (dss_one (ds_append (pv 4) (de_tup (da_cons (de_tup (da_cons (dv 6) (da_cons (dv 7) da_nil))) (da_cons de_negI da_nil))) ⟨rfl, rfl, rfl, rfl, rfl⟩)) dss_nil) (dss_cons (ds_set (i := 5) sc.nd rfl (by first | exact Or.inl rfl | exact Or.inr rfl) de_dnew) (dss_cons (ds_forOwn (i := 4) PassesOwn.never rfl (pv 4) (dg_tupK K rfl rfl (dgs_cons (dg_name sc.nd (i := 9) rfl (by first | exact Or.inl rfl | exact Or.inr rfl)) (dgs_cons (dg_name sc.nd (i := 10) rfl (by first | exact Or.inl rfl | exact Or.inr rfl)) dgs_nil))) (dss_one (ds_dset hu9 (pv 5) (dv 9) (de_call (ok_plus T) (hr.mono (by decide)) rfl T.plus.g T.plus.F.kp T.plus.b (da_cons (de_getX hu9 (dv 5) (dv 9) (T.ZERO.de rfl) ⟨rfl, rfl, rfl, rfl⟩) (da_cons (de_call (ok_whole T) (hr.mono (by decide)) rfl T.whole.g T.whole.F.kp T.whole.b (da_cons (dv 10) da_nil)) da_nil)))))) (dss_one (ds_ret (dv 5))))))))))))
theorem ok_equation_of (T : Tx K mg) : FnOk P w K mg base CX0 4 T.equation_of.f T.equation_of.fd ["web", "step"] (spD w K (pp_equation_of T.CW.C T.CE.C)) :=
  ok_of T.equation_of.F sc_equation_of (by decide) len_equation_of (dd_equation_of T) hp_equation_of
theorem sc_looked_for : FnScope ["web", "prices", "steps_here", "rights", "step"] ["web", "prices"] (defScope s_looked_for) := ⟨rfl, rfl, rfl, by decide +kernel, rfl, by decide +kernel, by decide +kernel⟩
theorem dd_looked_for (T : Tx K mg) (cdv : Value) (A : Around) (outer : List Env) (s : Shared) (H : Hp) (E : XK) (hr : Room 6 (A.deeper (envOfC "looked_for" (defScope s_looked_for) s.heap.objs.size T.looked_for.f cdv))) : DSs (cxOf CX0 P w K mg base ["web", "prices", "steps_here", "rights", "step"] "looked_for" (defScope s_looked_for) T.looked_for.f cdv A outer s H E).nox (defBody s_looked_for) (td_looked_for T.CW.C T.CE.C) := by
  have hu := hr.units
  have hu9 := hu9_of hu
  have hu0 := hr.units0
  have sc := sc_looked_for
  exact (dss_cons (ds_set (i := 2) sc.nd rfl (by first | exact Or.inl rfl | exact Or.inr rfl) (de_call (ok_all_steps T) (hr.mono (by decide)) rfl T.all_steps.g T.all_steps.F.kp T.all_steps.b (da_cons (dv 0) da_nil))) (dss_cons (ds_setLc rfl sc.nd rfl rfl (sw_true rfl rfl rfl rfl) (blkOk_by (own := [(("step" : Str), 4)]) rfl) (di_list (dv 2)) (fun s H C cl fp => (dg_name sc.nd (i := 4) rfl (by first | exact Or.inl rfl | exact Or.inr rfl))) (fun s H C cl fp => dts_nil) (fun s H C cl fp => (de_call (ok_price_of T) (hr.mono (by decide)) rfl T.price_of.g T.price_of.F.kp T.price_of.b (da_cons (dv 1) (da_cons (dv 4) da_nil)))) (by decide)) (dss_share 3 (dss_one (ds_ret (de_call (ok_solved T) (hr.mono (by decide)) rfl T.solved.g T.solved.F.kp T.solved.b (da_cons (de_lc rfl sc.nd (blkOk_by (own := [(("step" : Str), 4)]) rfl) (di_list (dv 2)) (fun s H C cl fp => (dg_name sc.nd (i := 4) rfl (by first | exact Or.inl rfl | exact Or.inr rfl))) (fun s H C cl fp => dts_nil) (fun s H C cl fp => (de_call (ok_equation_of T) (hr.mono (by decide)) rfl T.equation_of.g T.equation_of.F.kp T.equation_of.b (da_cons (dv 0) (da_cons (dv 4) da_nil)))) (by decide)) (da_cons (dv 3) da_nil))))))))
theorem ok_looked_for (T : Tx K mg) : FnOk P w K mg base CX0 7 T.looked_for.f T.looked_for.fd ["web", "prices"] (spD w K (pp_looked_for T.CW.C T.CE.C)) :=
  ok_of T.looked_for.F sc_looked_for (by decide) len_looked_for (dd_looked_for T) hp_looked_for
end
end DL
set_option Elab.async false
set_option linter.all false
set_option maxRecDepth 100000
namespace DL
open PySem PySem.Spec PyProof.Rows L2
section
variable {P : Program} {w : World} {K : PySem.W.Frag} {mg : Str → Option Value} {base : Heap}
theorem sc_table_of : FnScope ["web", "prices", "worths", "leads", "word", "values", "house", "dealer", "later", "standing"] ["web", "prices"] (defScope s_table_of) := ⟨rfl, rfl, rfl, by decide +kernel, rfl, by decide +kernel, by decide +kernel⟩
theorem dd_table_of (T : Tx K mg) (cdv : Value) (A : Around) (outer : List Env) (s : Shared) (H : Hp) (E : XK) (hr : Room 7 (A.deeper (envOfC "table_of" (defScope s_table_of) s.heap.objs.size T.table_of.f cdv))) : DSs (cxOf CX0 P w K mg base ["web", "prices", "worths", "leads", "word", "values", "house", "dealer", "later", "standing"] "table_of" (defScope s_table_of) T.table_of.f cdv A outer s H E).nox (defBody s_table_of) (td_table_of T.CW.C T.CE.C) := by
  have hu := hr.units
  have hu9 := hu9_of hu
  have hu0 := hr.units0
  have sc := sc_table_of
  exact (dss_cons (ds_asg (de_call (ok_looked_for T) (hr.mono (by decide)) rfl T.looked_for.g T.looked_for.F.kp T.looked_for.b (da_cons (dv 0) (da_cons (dv 1) da_nil))) (dg_tupK K rfl rfl (dgs_cons (dg_name sc.nd (i := 4) rfl (by first | exact Or.inl rfl | exact Or.inr rfl)) (dgs_cons (dg_name sc.nd (i := 5) rfl (by first | exact Or.inl rfl | exact Or.inr rfl)) dgs_nil)))) (dss_cons (ds_if (dt_cmp (opr_eq hu) (opl_eq hu) (dv 4) de_str (nomark _)) (dss_one (ds_ret de_non)) dss_nil) (dss_cons (ds_set (i := 2) sc.nd rfl (by first | exact Or.inl rfl | exact Or.inr rfl) (de_callTy call_tuple_of calll_tuple rfl T.tuple rfl (da_cons (de_lc rfl sc.nd (blkOk_by (own := [(("house" : Str), 6)]) rfl) (di_range1 rfl T.range (da_cons (de_callB callr_len calll_len rfl T.len rfl (da_cons (de_fld (dv 0) T.CW.cls T.n_dealers rfl) da_nil)) da_nil)) (fun s H C cl fp => (dg_name sc.nd (i := 6) rfl (by first | exact Or.inl rfl | exact Or.inr rfl))) (fun s H C cl fp => dts_nil) (fun s H C cl fp => (de_getX hu9 (dv 5) (de_call (ok_worth_name T) (hr.mono (by decide)) rfl T.worth_name.g T.worth_name.F.kp T.worth_name.b (da_cons (dv 6) da_nil)) (T.ZERO.de rfl) ⟨rfl, rfl, rfl, rfl⟩)) (by decide)) da_nil))) (dss_cons (ds_set (i := 3) sc.nd rfl (by first | exact Or.inl rfl | exact Or.inr rfl) (de_lst da_nil)) (dss_cons (ds_for PassesOwn.never rfl (di_enum rfl T.enumerate (da_cons (de_fld (dv 0) T.CW.cls T.n_dealers rfl) da_nil)) (dg_tupK K rfl rfl (dgs_cons (dg_name sc.nd (i := 6) rfl (by first | exact Or.inl rfl | exact Or.inr rfl)) (dgs_cons (dg_name sc.nd (i := 7) rfl (by first | exact Or.inl rfl | exact Or.inr rfl)) dgs_nil))) (dss_cons (ds_setLc rfl sc.nd rfl rfl (sw_true rfl rfl rfl rfl) (blkOk_by (own := [(("standing" : Str), 9)]) rfl) (di_range2 rfl T.range (da_cons de_int (da_cons (de_callB callr_len calll_len rfl T.len rfl (da_cons (dv 7) da_nil)) da_nil))) (fun s H C cl fp => (dg_name sc.nd (i := 9) rfl (by first | exact Or.inl rfl | exact Or.inr rfl))) (fun s H C cl fp => dts_nil) (fun s H C cl fp => (de_getX hu9 (dv 5) (de_tup (da_cons (dv 6) (da_cons (dv 9) da_nil))) (T.ZERO.de rfl) ⟨rfl, rfl, rfl, rfl⟩)) (by decide)) (dss_one (ds_append (pv 3) (de_callTy call_tuple_of calll_tuple rfl T.tuple rfl (da_cons (de_cat (de_lst (da_cons (T.ZERO.de rfl) da_nil)) (dv 8)) da_nil)) ⟨rfl, rfl, rfl, rfl, rfl⟩)))) (dss_one (ds_ret (de_tup (da_cons (dv 2) (da_cons (de_callTy call_tuple_of calll_tuple rfl T.tuple rfl (da_cons (dv 3) da_nil)) da_nil))))))))))
theorem ok_table_of (T : Tx K mg) : FnOk P w K mg base CX0 8 T.table_of.f T.table_of.fd ["web", "prices"] (spD w K (pp_table_of T.CW.C T.CE.C)) :=
  ok_of T.table_of.F sc_table_of (by decide) len_table_of (dd_table_of T) hp_table_of
theorem sc_needed_table : FnScope ["web", "prices", "found"] ["web", "prices"] (defScope s_needed_table) := ⟨rfl, rfl, rfl, by decide +kernel, rfl, by decide +kernel, by decide +kernel⟩
theorem dd_needed_table (T : Tx K mg) (cdv : Value) (A : Around) (outer : List Env) (s : Shared) (H : Hp) (E : XK) (hr : Room 8 (A.deeper (envOfC "needed_table" (defScope s_needed_table) s.heap.objs.size T.needed_table.f cdv))) : DSs (cxOf CX0 P w K mg base ["web", "prices", "found"] "needed_table" (defScope s_needed_table) T.needed_table.f cdv A outer s H E).nox (defBody s_needed_table) (td_needed_table T.CW.C T.CE.C) := by
  have hu := hr.units
  have hu9 := hu9_of hu
  have hu0 := hr.units0
  have sc := sc_needed_table
  exact (dss_cons (ds_set (i := 2) sc.nd rfl (by first | exact Or.inl rfl | exact Or.inr rfl) (de_call (ok_table_of T) (hr.mono (by decide)) rfl T.table_of.g T.table_of.F.kp T.table_of.b (da_cons (dv 0) (da_cons (dv 1) da_nil)))) (dss_cons (ds_if (dt_cmp op_isN opl_is (dv 2) de_non (nomark _)) (dss_one ds_never) dss_nil) (dss_one (ds_ret (dv 2)))))
theorem ok_needed_table (T : Tx K mg) : FnOk P w K mg base CX0 9 T.needed_table.f T.needed_table.fd ["web", "prices"] (spD w K (pp_needed_table T.CW.C T.CE.C)) :=
  ok_of T.needed_table.F sc_needed_table (by decide) len_needed_table (dd_needed_table T) hp_needed_table
end
end DL
set_option Elab.async false
set_option linter.all false
set_option maxRecDepth 100000
namespace DL
open PySem PySem.Spec PyProof.Rows L2
section
variable {P : Program} {w : World} {K : PySem.W.Frag} {mg : Str → Option Value} {base : Heap}
theorem sc_told_worth : FnScope ["worths", "load", "worth", "many"] ["worths", "load"] (defScope s_told_worth) := ⟨rfl, rfl, rfl, by decide +kernel, rfl, by decide +kernel, by decide +kernel⟩
theorem dd_told_worth (T : Tx K mg) (cdv : Value) (A : Around) (outer : List Env) (s : Shared) (H : Hp) (E : XK) (hr : Room 4 (A.deeper (envOfC "told_worth" (defScope s_told_worth) s.heap.objs.size T.told_worth.f cdv))) : DSs (cxOf CX0 P w K mg base ["worths", "load", "worth", "many"] "told_worth" (defScope s_told_worth) T.told_worth.f cdv A outer s H E).nox (defBody s_told_worth) (td_told_worth T.CW.C T.CE.C) := by
  have hu := hr.units
  have hu9 := hu9_of hu
  have hu0 := hr.units0
  have sc := sc_told_worth
  exact (dss_one (ds_ret (de_call (ok_total T) (hr.mono (by decide)) rfl T.total.g T.total.F.kp T.total.b (da_cons (de_lc rfl sc.nd (blkOk_by (own := [(("worth" : Str), 2), (("many" : Str), 3)]) rfl) (di_zip rfl T.zip (da_cons (dv 0) (da_cons (dv 1) da_nil))) (fun s H C cl fp => (dg_tupK K rfl rfl (dgs_cons (dg_name sc.nd (i := 2) rfl (by first | exact Or.inl rfl | exact Or.inr rfl)) (dgs_cons (dg_name sc.nd (i := 3) rfl (by first | exact Or.inl rfl | exact Or.inr rfl)) dgs_nil)))) (fun s H C cl fp => dts_nil) (fun s H C cl fp => (de_call (ok_times T) (hr.mono (by decide)) rfl T.times.g T.times.F.kp T.times.b (da_cons (dv 2) (da_cons (de_call (ok_whole T) (hr.mono (by decide)) rfl T.whole.g T.whole.F.kp T.whole.b (da_cons (dv 3) da_nil)) da_nil)))) (by decide)) da_nil))))
theorem ok_told_worth (T : Tx K mg) : FnOk P w K mg base CX0 5 T.told_worth.f T.told_worth.fd ["worths", "load"] (spD w K (pp_told_worth T.CW.C T.CE.C)) :=
  ok_of T.told_worth.F sc_told_worth (by decide) len_told_worth (dd_told_worth T) hp_told_worth
theorem sc_told_leads : FnScope ["leads", "ends", "row", "end"] ["leads", "ends"] (defScope s_told_leads) := ⟨rfl, rfl, rfl, by decide +kernel, rfl, by decide +kernel, by decide +kernel⟩
theorem dd_told_leads (T : Tx K mg) (cdv : Value) (A : Around) (outer : List Env) (s : Shared) (H : Hp) (E : XK) (hr : Room 4 (A.deeper (envOfC "told_leads" (defScope s_told_leads) s.heap.objs.size T.told_leads.f cdv))) : DSs (cxOf CX0 P w K mg base ["leads", "ends", "row", "end"] "told_leads" (defScope s_told_leads) T.told_leads.f cdv A outer s H E).nox (defBody s_told_leads) (td_told_leads T.CW.C T.CE.C) := by
  have hu := hr.units
  have hu9 := hu9_of hu
  have hu0 := hr.units0
  have sc := sc_told_leads
  exact (dss_one (ds_ret (de_call (ok_total T) (hr.mono (by decide)) rfl T.total.g T.total.F.kp T.total.b (da_cons (de_lc rfl sc.nd (blkOk_by (own := [(("row" : Str), 2), (("end" : Str), 3)]) rfl) (di_zip rfl T.zip (da_cons (dv 0) (da_cons (dv 1) da_nil))) (fun s H C cl fp => (dg_tupK K rfl rfl (dgs_cons (dg_name sc.nd (i := 2) rfl (by first | exact Or.inl rfl | exact Or.inr rfl)) (dgs_cons (dg_name sc.nd (i := 3) rfl (by first | exact Or.inl rfl | exact Or.inr rfl)) dgs_nil)))) (fun s H C cl fp => dts_nil) (fun s H C cl fp => (de_item hu9 (dv 2) (dv 3))) (by decide)) da_nil))))
theorem ok_told_leads (T : Tx K mg) : FnOk P w K mg base CX0 5 T.told_leads.f T.told_leads.fd ["leads", "ends"] (spD w K (pp_told_leads T.CW.C T.CE.C)) :=
  ok_of T.told_leads.F sc_told_leads (by decide) len_told_leads (dd_told_leads T) hp_told_leads
end
end DL
set_option Elab.async false
set_option linter.all false
set_option maxRecDepth 100000
namespace DL
open PySem PySem.Spec PyProof.Rows L2
section
variable {P : Program} {w : World} {K : PySem.W.Frag} {mg : Str → Option Value} {base : Heap}
theorem sc_is_standing : FnScope ["thing", "cups", "houses", "standings", "pair"] ["thing", "cups", "houses", "standings"] (defScope s_is_standing) := ⟨rfl, rfl, rfl, by decide +kernel, rfl, by decide +kernel, by decide +kernel⟩
theorem dd_is_standing (T : Tx K mg) (cdv : Value) (A : Around) (outer : List Env) (s : Shared) (H : Hp) (E : XK) (hr : Room 2 (A.deeper (envOfC "is_standing" (defScope s_is_standing) s.heap.objs.size T.is_standing.f cdv))) : DSs (cxOf CX0 P w K mg base ["thing", "cups", "houses", "standings", "pair"] "is_standing" (defScope s_is_standing) T.is_standing.f cdv A outer s H E).nox (defBody s_is_standing) (td_is_standing T.CW.C T.CE.C) := by
  have hu := hr.units
  have hu9 := hu9_of hu
  have hu0 := hr.units0
  have sc := sc_is_standing
  exact (dss_cons (ds_if (DW.dt (dw_or (dt_not (dt_val (de_isiTuple rfl T.isinstance rfl T.tuple (dv 0)))) (dw_or1 (dt_not (dt_chain op_le op_le opl_le opl_le de_int (de_callB callr_len calll_len rfl T.len rfl (da_cons (dv 0) da_nil)) (intG T.MOST_STEPS rfl)))))) (dss_one (ds_ret de_bl)) dss_nil) (dss_cons (ds_for PassesOwn.never rfl (di_tup (dv 0)) (dg_name sc.nd (i := 4) rfl (by first | exact Or.inl rfl | exact Or.inr rfl)) (dss_one (ds_if (DW.dt (dw_or (dt_not (dt_val (de_call (ok_is_pair T) (hr.mono (by decide)) rfl T.is_pair.g T.is_pair.F.kp T.is_pair.b (da_cons (dv 4) da_nil)))) (dw_or (dt_not (dt_val (de_call (ok_is_within T) (hr.mono (by decide)) rfl T.is_within.g T.is_within.F.kp T.is_within.b (da_cons (de_item hu9 (dv 4) de_int) (da_cons (de_neg (dv 1)) (da_cons (de_sub (dv 2) de_int) da_nil)))))) (dw_or1 (dt_not (dt_val (de_call (ok_is_within T) (hr.mono (by decide)) rfl T.is_within.g T.is_within.F.kp T.is_within.b (da_cons (de_item hu9 (dv 4) de_int) (da_cons de_int (da_cons (de_sub (dv 3) de_int) da_nil)))))))))) (dss_one (ds_ret de_bl)) dss_nil))) (dss_one (ds_ret (de_call (ok_is_rising T) (hr.mono (by decide)) rfl T.is_rising.g T.is_rising.F.kp T.is_rising.b (da_cons (dv 0) da_nil))))))
theorem ok_is_standing (T : Tx K mg) : FnOk P w K mg base CX0 3 T.is_standing.f T.is_standing.fd ["thing", "cups", "houses", "standings"] (spD w K (pp_is_standing T.CW.C T.CE.C)) :=
  ok_of T.is_standing.F sc_is_standing (by decide) len_is_standing (dd_is_standing T) hp_is_standing
theorem sc_is_dealer : FnScope ["thing", "cups", "houses", "part"] ["thing", "cups", "houses"] (defScope s_is_dealer) := ⟨rfl, rfl, rfl, by decide +kernel, rfl, by decide +kernel, by decide +kernel⟩
theorem dd_is_dealer (T : Tx K mg) (cdv : Value) (A : Around) (outer : List Env) (s : Shared) (H : Hp) (E : XK) (hr : Room 3 (A.deeper (envOfC "is_dealer" (defScope s_is_dealer) s.heap.objs.size T.is_dealer.f cdv))) : DSs (cxOf CX0 P w K mg base ["thing", "cups", "houses", "part"] "is_dealer" (defScope s_is_dealer) T.is_dealer.f cdv A outer s H E).nox (defBody s_is_dealer) (td_is_dealer T.CW.C T.CE.C) := by
  have hu := hr.units
  have hu9 := hu9_of hu
  have hu0 := hr.units0
  have sc := sc_is_dealer
  exact (dss_cons (ds_if (DW.dt (dw_or (dt_not (dt_val (de_isiTuple rfl T.isinstance rfl T.tuple (dv 0)))) (dw_or1 (dt_not (dt_chain op_le op_le opl_le opl_le de_int (de_callB callr_len calll_len rfl T.len rfl (da_cons (dv 0) da_nil)) (intG T.MOST_STANDINGS rfl)))))) (dss_one (ds_ret de_bl)) dss_nil) (dss_one (ds_ret (de_callB (cr_all rfl) calll_all rfl T.all rfl (da_cons (de_lc rfl sc.nd (blkOk_by (own := [(("part" : Str), 3)]) rfl) (di_tup (dv 0)) (fun s H C cl fp => (dg_name sc.nd (i := 3) rfl (by first | exact Or.inl rfl | exact Or.inr rfl))) (fun s H C cl fp => dts_nil) (fun s H C cl fp => (de_call (ok_is_standing T) (hr.mono (by decide)) rfl T.is_standing.g T.is_standing.F.kp T.is_standing.b (da_cons (dv 3) (da_cons (dv 1) (da_cons (dv 2) (da_cons (de_callB callr_len calll_len rfl T.len rfl (da_cons (dv 0) da_nil)) da_nil)))))) (by decide)) da_nil)))))
theorem ok_is_dealer (T : Tx K mg) : FnOk P w K mg base CX0 4 T.is_dealer.f T.is_dealer.fd ["thing", "cups", "houses"] (spD w K (pp_is_dealer T.CW.C T.CE.C)) :=
  ok_of T.is_dealer.F sc_is_dealer (by decide) len_is_dealer (dd_is_dealer T) hp_is_dealer
theorem sc_met_from : FnScope ["begin", "goals", "found", "waiting", "goal"] ["begin", "goals"] (defScope s_met_from) := ⟨rfl, rfl, rfl, by decide +kernel, rfl, by decide +kernel, by decide +kernel⟩
theorem dd_met_from (T : Tx K mg) (cdv : Value) (A : Around) (outer : List Env) (s : Shared) (H : Hp) (E : XK) (hr : Room 0 (A.deeper (envOfC "met_from" (defScope s_met_from) s.heap.objs.size T.met_from.f cdv))) : DSs (cxOf CX0 P w K mg base ["begin", "goals", "found", "waiting", "goal"] "met_from" (defScope s_met_from) T.met_from.f cdv A outer s H E).nox (defBody s_met_from) (td_met_from T.CW.C T.CE.C) := by
  have hu := hr.units
  have hu9 := hu9_of hu
  have hu0 := hr.units0
  have sc := sc_met_from
  exact (dss_cons (ds_set (i := 2) sc.nd rfl (by first | exact Or.inl rfl | exact Or.inr rfl) de_dnew) (dss_cons (ds_set (i := 3) sc.nd rfl (by first | exact Or.inl rfl | exact Or.inr rfl) (de_callTy (callr_list rfl) calll_list rfl T.list rfl (da_cons (de_item hu9 (dv 1) (dv 0)) da_nil))) (dss_cons (ds_while PassesOwn.never (dt_cmp op_gt opl_gt (de_callB callr_len calll_len rfl T.len rfl (da_cons (dv 3) da_nil)) de_int (nomark _)) (dss_cons (ds_setPop (i := 3) (j := 4) sc.nd rfl (by first | exact Or.inl rfl | exact Or.inr rfl) (pv 3) (by decide)) (dss_one (ds_if (dt_cmp (opr_notIn hu9) opl_in (dv 4) (dv 2) (by with_unfolding_all rfl)) (dss_cons (ds_dset hu9 (pv 2) (dv 4) de_bl) (dss_one (ds_if (dt_cmp (opr_in hu9) opl_in (dv 4) (dv 1) (by with_unfolding_all rfl)) (dss_one (ds_extend (pv 3) (de_callTy (callr_list rfl) calll_list rfl T.list rfl (da_cons (de_item hu9 (dv 1) (dv 4)) da_nil)) ⟨rfl, rfl, rfl, rfl, rfl⟩)) dss_nil))) dss_nil)))) (dss_one (ds_ret (de_sortL hu rfl T.sorted (da_cons (de_callTy (callr_list rfl) calll_list rfl T.list rfl (da_cons (dv 2) da_nil)) da_nil)))))))
theorem ok_met_from (T : Tx K mg) : FnOk P w K mg base CX0 1 T.met_from.f T.met_from.fd ["begin", "goals"] (spD w K (pp_met_from T.CW.C T.CE.C)) :=
  ok_of T.met_from.F sc_met_from (by decide) len_met_from (dd_met_from T) hp_met_from
end
end DL
set_option Elab.async false
set_option linter.all false
set_option maxRecDepth 100000
namespace DL
open PySem PySem.Spec PyProof.Rows L2
section
variable {P : Program} {w : World} {K : PySem.W.Frag} {mg : Str → Option Value} {base : Heap}
theorem sc_is_joined : FnScope ["dealer", "goals", "pair", "at", "part", "begin"] ["dealer"] (defScope s_is_joined) := ⟨rfl, rfl, rfl, by decide +kernel, rfl, by decide +kernel, by decide +kernel⟩
theorem dd_is_joined (T : Tx K mg) (cdv : Value) (A : Around) (outer : List Env) (s : Shared) (H : Hp) (E : XK) (hr : Room 1 (A.deeper (envOfC "is_joined" (defScope s_is_joined) s.heap.objs.size T.is_joined.f cdv))) : DSs (cxOf CX0 P w K mg base ["dealer", "goals", "pair", "at", "part", "begin"] "is_joined" (defScope s_is_joined) T.is_joined.f cdv A outer s H E).nox (defBody s_is_joined) (td_is_joined T.CW.C T.CE.C) := by
  have hu := hr.units
  have hu9 := hu9_of hu
  have hu0 := hr.units0
  have sc := sc_is_joined
  exact (dss_cons (ds_set (i := 1) sc.nd rfl (by first | exact Or.inl rfl | exact Or.inr rfl) (de_dc hu9 rfl sc.nd (blkOk_by (own := [(("at" : Str), 3), (("part" : Str), 4)]) rfl) (di_enum rfl T.enumerate (da_cons (dv 0) da_nil)) (fun s H C cl fp => (dg_tupK K rfl rfl (dgs_cons (dg_name sc.nd (i := 3) rfl (by first | exact Or.inl rfl | exact Or.inr rfl)) (dgs_cons (dg_name sc.nd (i := 4) rfl (by first | exact Or.inl rfl | exact Or.inr rfl)) dgs_nil)))) (fun s H C cl fp => dts_nil) (fun s H C cl fp => (dv 3)) (fun s H C cl fp => (de_lc rfl sc.nd (blkOk_by (own := [(("pair" : Str), 2)]) rfl) (di_tup (dv 4)) (fun s H C cl fp => (dg_name sc.nd (i := 2) rfl (by first | exact Or.inl rfl | exact Or.inr rfl))) (fun s H C cl fp => dts_nil) (fun s H C cl fp => (de_item hu9 (dv 2) de_int)) (by decide))) (by decide))) (dss_share 1 (dss_one (ds_ret (de_callB (cr_all rfl) calll_all rfl T.all rfl (da_cons (de_lc rfl sc.nd (blkOk_by (own := [(("begin" : Str), 5)]) rfl) (di_keys (dv 1)) (fun s H C cl fp => (dg_name sc.nd (i := 5) rfl (by first | exact Or.inl rfl | exact Or.inr rfl))) (fun s H C cl fp => dts_nil) (fun s H C cl fp => (de_cmp (opr_eq hu) (opl_eq hu) (de_callB callr_len calll_len rfl T.len rfl (da_cons (de_lc rfl sc.nd (blkOk_by (own := [(("at" : Str), 3)]) rfl) (di_list (de_call (ok_met_from T) (hr.mono (by decide)) rfl T.met_from.g T.met_from.F.kp T.met_from.b (da_cons (dv 5) (da_cons (dv 1) da_nil)))) (fun s H C cl fp => (dg_name sc.nd (i := 3) rfl (by first | exact Or.inl rfl | exact Or.inr rfl))) (fun s H C cl fp => (dts_one (dt_cmp (opr_ne hu) (opl_ne hu) (dv 3) (dv 5) (nomark _)))) (fun s H C cl fp => (dv 3)) (by decide)) da_nil)) (de_sub (de_callB callr_len calll_len rfl T.len rfl (da_cons (dv 0) da_nil)) de_int) (nomark _))) (by decide)) da_nil))))))
theorem ok_is_joined (T : Tx K mg) : FnOk P w K mg base CX0 2 T.is_joined.f T.is_joined.fd ["dealer"] (spD w K (pp_is_joined T.CW.C T.CE.C)) :=
  ok_of T.is_joined.F sc_is_joined (by decide) len_is_joined (dd_is_joined T) hp_is_joined
theorem sc_doors_of : FnScope ["dealers", "found", "house", "dealer", "part", "pair"] ["dealers"] (defScope s_doors_of) := ⟨rfl, rfl, rfl, by decide +kernel, rfl, by decide +kernel, by decide +kernel⟩
theorem dd_doors_of (T : Tx K mg) (cdv : Value) (A : Around) (outer : List Env) (s : Shared) (H : Hp) (E : XK) (hr : Room 0 (A.deeper (envOfC "doors_of" (defScope s_doors_of) s.heap.objs.size T.doors_of.f cdv))) : DSs (cxOf CX0 P w K mg base ["dealers", "found", "house", "dealer", "part", "pair"] "doors_of" (defScope s_doors_of) T.doors_of.f cdv A outer s H E).nox (defBody s_doors_of) (td_doors_of T.CW.C T.CE.C) := by
  have hu := hr.units
  have hu9 := hu9_of hu
  have hu0 := hr.units0
  have sc := sc_doors_of
  exact (dss_cons (ds_set (i := 1) sc.nd rfl (by first | exact Or.inl rfl | exact Or.inr rfl) de_dnew) (dss_cons (ds_for PassesOwn.never rfl (di_enum rfl T.enumerate (da_cons (dv 0) da_nil)) (dg_tupK K rfl rfl (dgs_cons (dg_name sc.nd (i := 2) rfl (by first | exact Or.inl rfl | exact Or.inr rfl)) (dgs_cons (dg_name sc.nd (i := 3) rfl (by first | exact Or.inl rfl | exact Or.inr rfl)) dgs_nil))) (dss_one (ds_dset hu9 (pv 1) (dv 2) (de_sortedD rfl hu rfl T.sorted (da_cons (de_dc2 hu9 rfl sc.nd (blkOk_by (own := [(("part" : Str), 4), (("pair" : Str), 5)]) rfl) (di_tup (dv 3)) (fun s H C cl fp => (dg_name sc.nd (i := 4) rfl (by first | exact Or.inl rfl | exact Or.inr rfl))) (fun s H C cl fp => (di_tup (dv 4))) (fun s H C cl fp => (dg_name sc.nd (i := 5) rfl (by first | exact Or.inl rfl | exact Or.inr rfl))) (fun s H C cl fp => (de_item hu9 (dv 5) de_int)) (fun s H C cl fp => de_bl) (by decide) (vs1 := [5]) (by decide) (by decide)) da_nil))))) (dss_one (ds_ret (dv 1)))))
theorem ok_doors_of (T : Tx K mg) : FnOk P w K mg base CX0 1 T.doors_of.f T.doors_of.fd ["dealers"] (spD w K (pp_doors_of T.CW.C T.CE.C)) :=
  ok_of T.doors_of.F sc_doors_of (by decide) len_doors_of (dd_doors_of T) hp_doors_of
theorem sc_check_web : FnScope ["cups", "dealers", "goals", "house", "dealer"] ["cups", "dealers"] (defScope s_check_web) := ⟨rfl, rfl, rfl, by decide +kernel, rfl, by decide +kernel, by decide +kernel⟩
theorem dd_check_web (T : Tx K mg) (cdv : Value) (A : Around) (outer : List Env) (s : Shared) (H : Hp) (E : XK) (hr : Room 4 (A.deeper (envOfC "check_web" (defScope s_check_web) s.heap.objs.size T.check_web.f cdv))) : DSs (cxOf CX0 P w K mg base ["cups", "dealers", "goals", "house", "dealer"] "check_web" (defScope s_check_web) T.check_web.f cdv A outer s H E).nox (defBody s_check_web) (td_check_web T.CW.C T.CE.C) := by
  have hu := hr.units
  have hu9 := hu9_of hu
  have hu0 := hr.units0
  have sc := sc_check_web
  exact (dss_cons (ds_if (dt_not (dt_val (de_call (ok_is_within T) (hr.mono (by decide)) rfl T.is_within.g T.is_within.F.kp T.is_within.b (da_cons (dv 0) (da_cons de_int (da_cons (intG T.MOST_CUPS rfl) da_nil)))))) (dss_one ds_never) dss_nil) (dss_cons (ds_if (DW.dt (dw_or (dt_not (dt_val (de_isiTuple rfl T.isinstance rfl T.tuple (dv 1)))) (dw_or1 (dt_not (dt_chain op_le op_le opl_le opl_le de_int (de_callB callr_len calll_len rfl T.len rfl (da_cons (dv 1) da_nil)) (intG T.MOST_HOUSES rfl)))))) (dss_one ds_never) dss_nil) (dss_cons (ds_for PassesOwn.never rfl (di_enum rfl T.enumerate (da_cons (dv 1) da_nil)) (dg_tupK K rfl rfl (dgs_cons (dg_name sc.nd (i := 3) rfl (by first | exact Or.inl rfl | exact Or.inr rfl)) (dgs_cons (dg_name sc.nd (i := 4) rfl (by first | exact Or.inl rfl | exact Or.inr rfl)) dgs_nil))) (dss_one (ds_if (dt_not (dt_val (de_call (ok_is_dealer T) (hr.mono (by decide)) rfl T.is_dealer.g T.is_dealer.F.kp T.is_dealer.b (da_cons (dv 4) (da_cons (dv 0) (da_cons (de_callB callr_len calll_len rfl T.len rfl (da_cons (dv 1) da_nil)) da_nil)))))) (dss_one ds_never) dss_nil))) (dss_cons (ds_for PassesOwn.never rfl (di_enum rfl T.enumerate (da_cons (dv 1) da_nil)) (dg_tupK K rfl rfl (dgs_cons (dg_name sc.nd (i := 3) rfl (by first | exact Or.inl rfl | exact Or.inr rfl)) (dgs_cons (dg_name sc.nd (i := 4) rfl (by first | exact Or.inl rfl | exact Or.inr rfl)) dgs_nil))) (dss_one (ds_if (dt_not (dt_val (de_call (ok_is_joined T) (hr.mono (by decide)) rfl T.is_joined.g T.is_joined.F.kp T.is_joined.b (da_cons (dv 4) da_nil)))) (dss_one ds_never) dss_nil))) (dss_cons (ds_set (i := 2) sc.nd rfl (by first | exact Or.inl rfl | exact Or.inr rfl) (de_call (ok_doors_of T) (hr.mono (by decide)) rfl T.doors_of.g T.doors_of.F.kp T.doors_of.b (da_cons (dv 1) da_nil))) (dss_one (ds_for PassesOwn.never rfl (di_range1 rfl T.range (da_cons (de_callB callr_len calll_len rfl T.len rfl (da_cons (dv 1) da_nil)) da_nil)) (dg_name sc.nd (i := 3) rfl (by first | exact Or.inl rfl | exact Or.inr rfl)) (dss_one (ds_if (dt_cmp op_ge opl_ge (de_callB (cr_min rfl) calll_min rfl T.min rfl (da_cons (de_call (ok_met_from T) (hr.mono (by decide)) rfl T.met_from.g T.met_from.F.kp T.met_from.b (da_cons (dv 3) (da_cons (dv 2) da_nil))) da_nil)) de_int (nomark _)) (dss_one ds_never) dss_nil)))))))))
theorem ok_check_web (T : Tx K mg) : FnOk P w K mg base CX0 5 T.check_web.f T.check_web.fd ["cups", "dealers"] (spD w K (pp_check_web T.CW.C T.CE.C)) :=
  ok_of T.check_web.F sc_check_web (by decide) len_check_web (dd_check_web T) hp_check_web
end
end DL
set_option Elab.async false
set_option linter.all false
set_option maxRecDepth 100000
namespace DL
open PySem PySem.Spec PyProof.Rows L2
section
variable {P : Program} {w : World} {K : PySem.W.Frag} {mg : Str → Option Value} {base : Heap}
theorem sc_behind : FnScope ["web", "triple", "house", "number", "waiting", "ends", "cups", "door", "later", "part"] ["web", "triple", "house", "number"] (defScope s_behind) := ⟨rfl, rfl, rfl, by decide +kernel, rfl, by decide +kernel, by decide +kernel⟩
theorem dd_behind (T : Tx K mg) (cdv : Value) (A : Around) (outer : List Env) (s : Shared) (H : Hp) (E : XK) (hr : Room 0 (A.deeper (envOfC "behind" (defScope s_behind) s.heap.objs.size T.behind.f cdv))) : DSs (cxOf CX0 P w K mg base ["web", "triple", "house", "number", "waiting", "ends", "cups", "door", "later", "part"] "behind" (defScope s_behind) T.behind.f cdv A outer s H E).nox (defBody s_behind) (td_behind T.CW.C T.CE.C) := by
  have hu := hr.units
  have hu9 := hu9_of hu
  have hu0 := hr.units0
  have sc := sc_behind
  exact (dss_cons (ds_copy3 (i := 4) (j := 5) (k := 6) rfl sc.nd rfl rfl rfl rfl rfl rfl (blkOk_by (own := [(("part" : Str), 9)]) rfl) (di_tup (dv 1)) (fun s H C cl fp => (dg_name sc.nd (i := 9) rfl (by first | exact Or.inl rfl | exact Or.inr rfl))) (fun s H C cl fp => (de_callTy (callr_list rfl) calll_list rfl T.list rfl (da_cons (dv 9) da_nil))) (by decide)) (dss_cons (ds_asg (de_item hu9 (de_item hu9 (de_item hu9 (de_fld (dv 0) T.CW.cls T.n_dealers rfl) (dv 2)) (de_item hu9 (dv 5) (dv 2))) (dv 3)) (dg_tupK K rfl rfl (dgs_cons (dg_name sc.nd (i := 7) rfl (by first | exact Or.inl rfl | exact Or.inr rfl)) (dgs_cons (dg_name sc.nd (i := 8) rfl (by first | exact Or.inl rfl | exact Or.inr rfl)) dgs_nil)))) (dss_cons (ds_laug (pv 4) (dv 2) de_int ip_sub) (dss_cons (ds_lset (pv 5) (dv 2) (dv 8)) (dss_cons (ds_if (dt_cmp (opr_lt hu0) opl_lt (dv 7) de_int (nomark _)) (dss_one (ds_laug (pv 6) (de_sub de_negI (dv 7)) de_int ip_add)) (dss_one (ds_laug (pv 4) (dv 7) de_int ip_add))) (dss_one (ds_ret (de_tup (da_cons (de_callTy call_tuple_of calll_tuple rfl T.tuple rfl (da_cons (dv 4) da_nil)) (da_cons (de_callTy call_tuple_of calll_tuple rfl T.tuple rfl (da_cons (dv 5) da_nil)) (da_cons (de_callTy call_tuple_of calll_tuple rfl T.tuple rfl (da_cons (dv 6) da_nil)) da_nil)))))))))))
theorem ok_behind (T : Tx K mg) : FnOk P w K mg base CX0 1 T.behind.f T.behind.fd ["web", "triple", "house", "number"] (spD w K (pp_behind T.CW.C T.CE.C)) :=
  ok_of T.behind.F sc_behind (by decide) len_behind (dd_behind T) hp_behind
theorem sc_moves_at : FnScope ["web", "triple", "found", "waiting", "ends", "cups", "house", "dealer", "number"] ["web", "triple"] (defScope s_moves_at) := ⟨rfl, rfl, rfl, by decide +kernel, rfl, by decide +kernel, by decide +kernel⟩
theorem dd_moves_at (T : Tx K mg) (cdv : Value) (A : Around) (outer : List Env) (s : Shared) (H : Hp) (E : XK) (hr : Room 0 (A.deeper (envOfC "moves_at" (defScope s_moves_at) s.heap.objs.size T.moves_at.f cdv))) : DSs (cxOf CX0 P w K mg base ["web", "triple", "found", "waiting", "ends", "cups", "house", "dealer", "number"] "moves_at" (defScope s_moves_at) T.moves_at.f cdv A outer s H E).nox (defBody s_moves_at) (td_moves_at T.CW.C T.CE.C) := by
  have hu := hr.units
  have hu9 := hu9_of hu
  have hu0 := hr.units0
  have sc := sc_moves_at
  exact (dss_cons (ds_asg (dv 1) (dg_tupK K rfl rfl (dgs_cons (dg_name sc.nd (i := 3) rfl (by first | exact Or.inl rfl | exact Or.inr rfl)) (dgs_cons (dg_name sc.nd (i := 4) rfl (by first | exact Or.inl rfl | exact Or.inr rfl)) (dgs_cons (dg_name sc.nd (i := 5) rfl (by first | exact Or.inl rfl | exact Or.inr rfl)) dgs_nil))))) (dss_cons (ds_set (i := 2) sc.nd rfl (by first | exact Or.inl rfl | exact Or.inr rfl) (de_lst da_nil)) (dss_cons (ds_for PassesOwn.never rfl (di_enum rfl T.enumerate (da_cons (de_fld (dv 0) T.CW.cls T.n_dealers rfl) da_nil)) (dg_tupK K rfl rfl (dgs_cons (dg_name sc.nd (i := 6) rfl (by first | exact Or.inl rfl | exact Or.inr rfl)) (dgs_cons (dg_name sc.nd (i := 7) rfl (by first | exact Or.inl rfl | exact Or.inr rfl)) dgs_nil))) (dss_one (ds_if (dt_cmp op_gt opl_gt (de_item hu9 (dv 3) (dv 6)) de_int (nomark _)) (dss_one (ds_extend (pv 2) (de_lc rfl sc.nd (blkOk_by (own := [(("number" : Str), 8)]) rfl) (di_range1 rfl T.range (da_cons (de_callB callr_len calll_len rfl T.len rfl (da_cons (de_item hu9 (dv 7) (de_item hu9 (dv 4) (dv 6))) da_nil)) da_nil)) (fun s H C cl fp => (dg_name sc.nd (i := 8) rfl (by first | exact Or.inl rfl | exact Or.inr rfl))) (fun s H C cl fp => dts_nil) (fun s H C cl fp => (de_tup (da_cons (dv 6) (da_cons (dv 8) da_nil)))) (by decide)) ⟨rfl, rfl, rfl, rfl, rfl⟩)) dss_nil))) (dss_one (ds_ret (dv 2))))))
theorem ok_moves_at (T : Tx K mg) : FnOk P w K mg base CX0 1 T.moves_at.f T.moves_at.fd ["web", "triple"] (spD w K (pp_moves_at T.CW.C T.CE.C)) :=
  ok_of T.moves_at.F sc_moves_at (by decide) len_moves_at (dd_moves_at T) hp_moves_at
theorem sc_all_triples : FnScope ["web", "load", "first", "found", "waiting", "at", "here", "move", "later"] ["web", "load"] (defScope s_all_triples) := ⟨rfl, rfl, rfl, by decide +kernel, rfl, by decide +kernel, by decide +kernel⟩
theorem dd_all_triples (T : Tx K mg) (cdv : Value) (A : Around) (outer : List Env) (s : Shared) (H : Hp) (E : XK) (hr : Room 1 (A.deeper (envOfC "all_triples" (defScope s_all_triples) s.heap.objs.size T.all_triples.f cdv))) : DSs (cxOf CX0 P w K mg base ["web", "load", "first", "found", "waiting", "at", "here", "move", "later"] "all_triples" (defScope s_all_triples) T.all_triples.f cdv A outer s H E).nox (defBody s_all_triples) (td_all_triples T.CW.C T.CE.C) := by
  have hu := hr.units
  have hu9 := hu9_of hu
  have hu0 := hr.units0
  have sc := sc_all_triples
  exact (dss_cons (ds_set (i := 2) sc.nd rfl (by first | exact Or.inl rfl | exact Or.inr rfl) (de_tup (da_cons (dv 1) (da_cons (de_rep (de_tup (da_cons de_int da_nil)) (de_callB callr_len calll_len rfl T.len rfl (da_cons (de_fld (dv 0) T.CW.cls T.n_dealers rfl) da_nil))) (da_cons (de_rep (de_tup (da_cons de_int da_nil)) (de_fld (dv 0) T.CW.cls T.n_cups rfl)) da_nil))))) (dss_cons (ds_set (i := 3) sc.nd rfl (by first | exact Or.inl rfl | exact Or.inr rfl) (de_dispT hu9 (dv 2) de_non)) (dss_cons (ds_set (i := 4) sc.nd rfl (by first | exact Or.inl rfl | exact Or.inr rfl) (de_lst (da_cons (dv 2) da_nil))) (dss_cons (ds_set (i := 5) sc.nd rfl (by first | exact Or.inl rfl | exact Or.inr rfl) de_int) (dss_cons (ds_while PassesOwn.never (dt_cmp (opr_lt hu0) opl_lt (dv 5) (de_callB callr_len calll_len rfl T.len rfl (da_cons (dv 4) da_nil)) (nomark _)) (dss_cons (ds_set (i := 6) sc.nd rfl (by first | exact Or.inl rfl | exact Or.inr rfl) (de_item hu9 (dv 4) (dv 5))) (dss_cons (ds_augI (i := 5) sc.nd rfl (by first | exact Or.inl rfl | exact Or.inr rfl) de_int ip_add) (dss_one (ds_for PassesOwn.never rfl (di_list (de_call (ok_moves_at T) (hr.mono (by decide)) rfl T.moves_at.g T.moves_at.F.kp T.moves_at.b (da_cons (dv 0) (da_cons (dv 6) da_nil)))) (dg_name sc.nd (i := 7) rfl (by first | exact Or.inl rfl | exact Or.inr rfl)) (dss_cons (ds_set (i := 8) sc.nd rfl (by first | exact Or.inl rfl | exact Or.inr rfl) (de_call (ok_behind T) (hr.mono (by decide)) rfl T.behind.g T.behind.F.kp T.behind.b (da_cons (dv 0) (da_cons (dv 6) (da_cons (de_item hu9 (dv 7) de_int) (da_cons (de_item hu9 (dv 7) de_int) da_nil)))))) (dss_one (ds_if (dt_cmp (opr_notIn hu9) opl_in (dv 8) (dv 3) (by with_unfolding_all rfl)) (dss_cons (ds_if (dt_cmp (opr_eq hu) (opl_eq hu) (de_callB callr_len calll_len rfl T.len rfl (da_cons (dv 3) da_nil)) (intG T.MOST_TRIPLES rfl) (nomark _)) (dss_one ds_never) dss_nil) (dss_cons (ds_dset hu9 (pv 3) (dv 8) (de_tup (da_cons (dv 6) (da_cons (dv 7) da_nil)))) (dss_one (ds_append (pv 4) (dv 8) ⟨rfl, rfl, rfl, rfl, rfl⟩)))) dss_nil)))))))) (dss_one (ds_ret (dv 3))))))))
theorem ok_all_triples (T : Tx K mg) : FnOk P w K mg base CX0 2 T.all_triples.f T.all_triples.fd ["web", "load"] (spD w K (pp_all_triples T.CW.C T.CE.C)) :=
  ok_of T.all_triples.F sc_all_triples (by decide) len_all_triples (dd_all_triples T) hp_all_triples
theorem sc_is_over : FnScope ["triple"] ["triple"] (defScope s_is_over) := ⟨rfl, rfl, rfl, by decide +kernel, rfl, by decide +kernel, by decide +kernel⟩
theorem dd_is_over (T : Tx K mg) (cdv : Value) (A : Around) (outer : List Env) (s : Shared) (H : Hp) (E : XK) (hr : Room 0 (A.deeper (envOfC "is_over" (defScope s_is_over) s.heap.objs.size T.is_over.f cdv))) : DSs (cxOf CX0 P w K mg base ["triple"] "is_over" (defScope s_is_over) T.is_over.f cdv A outer s H E).nox (defBody s_is_over) (td_is_over T.CW.C T.CE.C) := by
  have hu := hr.units
  have hu9 := hu9_of hu
  have hu0 := hr.units0
  have sc := sc_is_over
  exact (dss_one (ds_ret (de_cmp (opr_eq hu) (opl_eq hu) (de_callB (cr_sumT rfl) calll_sumT rfl T.sum rfl (da_cons (de_item hu9 (dv 0) de_int) da_nil)) de_int (nomark _))))
theorem ok_is_over (T : Tx K mg) : FnOk P w K mg base CX0 1 T.is_over.f T.is_over.fd ["triple"] (spD w K (pp_is_over T.CW.C T.CE.C)) :=
  ok_of T.is_over.F sc_is_over (by decide) len_is_over (dd_is_over T) hp_is_over
theorem sc_ends_in : FnScope ["triples", "triple"] ["triples"] (defScope s_ends_in) := ⟨rfl, rfl, rfl, by decide +kernel, rfl, by decide +kernel, by decide +kernel⟩
theorem dd_ends_in (T : Tx K mg) (cdv : Value) (A : Around) (outer : List Env) (s : Shared) (H : Hp) (E : XK) (hr : Room 1 (A.deeper (envOfC "ends_in" (defScope s_ends_in) s.heap.objs.size T.ends_in.f cdv))) : DSs (cxOf CX0 P w K mg base ["triples", "triple"] "ends_in" (defScope s_ends_in) T.ends_in.f cdv A outer s H E).nox (defBody s_ends_in) (td_ends_in T.CW.C T.CE.C) := by
  have hu := hr.units
  have hu9 := hu9_of hu
  have hu0 := hr.units0
  have sc := sc_ends_in
  exact (dss_one (ds_ret (de_sortL hu rfl T.sorted (da_cons (de_lc rfl sc.nd (blkOk_by (own := [(("triple" : Str), 1)]) rfl) (di_keys (dv 0)) (fun s H C cl fp => (dg_name sc.nd (i := 1) rfl (by first | exact Or.inl rfl | exact Or.inr rfl))) (fun s H C cl fp => (dts_one (dt_val (de_call (ok_is_over T) (hr.mono (by decide)) rfl T.is_over.g T.is_over.F.kp T.is_over.b (da_cons (dv 1) da_nil))))) (fun s H C cl fp => (de_from (dv 1))) (by decide)) da_nil))))
theorem ok_ends_in (T : Tx K mg) : FnOk P w K mg base CX0 2 T.ends_in.f T.ends_in.fd ["triples"] (spD w K (pp_ends_in T.CW.C T.CE.C)) :=
  ok_of T.ends_in.F sc_ends_in (by decide) len_ends_in (dd_ends_in T) hp_ends_in
theorem sc_most_of : FnScope ["web", "prices", "load", "best", "worths", "leads", "ends", "cups", "lead"] ["web", "prices", "load"] (defScope s_most_of) := ⟨rfl, rfl, rfl, by decide +kernel, rfl, by decide +kernel, by decide +kernel⟩
theorem dd_most_of (T : Tx K mg) (cdv : Value) (A : Around) (outer : List Env) (s : Shared) (H : Hp) (E : XK) (hr : Room 9 (A.deeper (envOfC "most_of" (defScope s_most_of) s.heap.objs.size T.most_of.f cdv))) : DSs (cxOf CX0 P w K mg base ["web", "prices", "load", "best", "worths", "leads", "ends", "cups", "lead"] "most_of" (defScope s_most_of) T.most_of.f cdv A outer s H E).nox (defBody s_most_of) (td_most_of T.CW.C T.CE.C) := by
  have hu := hr.units
  have hu9 := hu9_of hu
  have hu0 := hr.units0
  have sc := sc_most_of
  exact (dss_cons (ds_expr (de_call (ok_check_prices T) (hr.mono (by decide)) rfl T.check_prices.g T.check_prices.F.kp T.check_prices.b (da_cons (dv 0) (da_cons (dv 1) da_nil)))) (dss_cons (ds_asg (de_call (ok_needed_table T) (hr.mono (by decide)) rfl T.needed_table.g T.needed_table.F.kp T.needed_table.b (da_cons (dv 0) (da_cons (dv 1) da_nil))) (dg_tupK K rfl rfl (dgs_cons (dg_name sc.nd (i := 4) rfl (by first | exact Or.inl rfl | exact Or.inr rfl)) (dgs_cons (dg_name sc.nd (i := 5) rfl (by first | exact Or.inl rfl | exact Or.inr rfl)) dgs_nil)))) (dss_cons (ds_expr (de_call (ok_check_load T) (hr.mono (by decide)) rfl T.check_load.g T.check_load.F.kp T.check_load.b (da_cons (dv 0) (da_cons (dv 2) da_nil)))) (dss_cons (ds_set (i := 3) sc.nd rfl (by first | exact Or.inl rfl | exact Or.inr rfl) de_non) (dss_cons (ds_for PassesOwn.never rfl (di_list (de_call (ok_ends_in T) (hr.mono (by decide)) rfl T.ends_in.g T.ends_in.F.kp T.ends_in.b (da_cons (de_call (ok_all_triples T) (hr.mono (by decide)) rfl T.all_triples.g T.all_triples.F.kp T.all_triples.b (da_cons (dv 0) (da_cons (dv 2) da_nil))) da_nil))) (dg_tupK K rfl rfl (dgs_cons (dg_name sc.nd (i := 6) rfl (by first | exact Or.inl rfl | exact Or.inr rfl)) (dgs_cons (dg_name sc.nd (i := 7) rfl (by first | exact Or.inl rfl | exact Or.inr rfl)) dgs_nil))) (dss_cons (ds_set (i := 8) sc.nd rfl (by first | exact Or.inl rfl | exact Or.inr rfl) (de_call (ok_told_leads T) (hr.mono (by decide)) rfl T.told_leads.g T.told_leads.F.kp T.told_leads.b (da_cons (dv 5) (da_cons (dv 6) da_nil)))) (dss_one (ds_if (DW.dt (dw_or (dt_cmp op_isN opl_is (dv 3) de_non (nomark _)) (dw_or1 (dt_val (de_call (ok_is_less T) (hr.mono (by decide)) rfl T.is_less.g T.is_less.F.kp T.is_less.b (da_cons (dv 3) (da_cons (dv 8) da_nil))))))) (dss_one (ds_set (i := 3) sc.nd rfl (by first | exact Or.inl rfl | exact Or.inr rfl) (dv 8))) dss_nil)))) (dss_one (ds_ret (de_call (ok_plus T) (hr.mono (by decide)) rfl T.plus.g T.plus.F.kp T.plus.b (da_cons (de_call (ok_told_worth T) (hr.mono (by decide)) rfl T.told_worth.g T.told_worth.F.kp T.told_worth.b (da_cons (dv 4) (da_cons (dv 2) da_nil))) (da_cons (dv 3) da_nil))))))))))
theorem ok_most_of (T : Tx K mg) : FnOk P w K mg base CX0 10 T.most_of.f T.most_of.fd ["web", "prices", "load"] (spD w K (pp_most_of T.CW.C T.CE.C)) :=
  ok_of T.most_of.F sc_most_of (by decide) len_most_of (dd_most_of T) hp_most_of
end
end DL
set_option Elab.async false
set_option linter.all false
set_option maxRecDepth 100000
namespace DL
open PySem PySem.Spec PyProof.Rows L2
section
variable {P : Program} {w : World} {K : PySem.W.Frag} {mg : Str → Option Value} {base : Heap}
theorem sc_law_doors : FnScope ["_law_dice_here", "_law_houses", "_law_cups", "_law_lead", "_law_found", "_law_k"] ["_law_dice_here", "_law_houses", "_law_cups", "_law_lead"] (defScope s_law_doors) := ⟨rfl, rfl, rfl, by decide +kernel, rfl, by decide +kernel, by decide +kernel⟩
theorem dd_law_doors (T : Tx K mg) (cdv : Value) (A : Around) (outer : List Env) (s : Shared) (H : Hp) (E : XK) (hr : Room 1 (A.deeper (envOfC "_law_doors" (defScope s_law_doors) s.heap.objs.size T.law_doors.f cdv))) : DSs (cxOf CX0 P w K mg base ["_law_dice_here", "_law_houses", "_law_cups", "_law_lead", "_law_found", "_law_k"] "_law_doors" (defScope s_law_doors) T.law_doors.f cdv A outer s H E).nox (defBody s_law_doors) (td_law_doors T.CW.C T.CE.C) := by
  have hu := hr.units
  have hu9 := hu9_of hu
  have hu0 := hr.units0
  have sc := sc_law_doors
  exact (dss_cons (ds_set (i := 4) sc.nd rfl (by first | exact Or.inl rfl | exact Or.inr rfl) (de_lst (da_cons (de_ifExp (DW.dt (dw_and (dt_cmp op_ge opl_ge (dv 3) de_int (nomark _)) (dw_and1 (dt_cmp op_gt opl_gt (de_call (ok_law_draw T) (hr.mono (by decide)) rfl T.law_draw.g T.law_draw.F.kp T.law_draw.b (da_cons (dv 0) (da_cons de_int da_nil))) de_int (nomark _))))) (dv 3) (de_sub de_negI (de_call (ok_law_draw T) (hr.mono (by decide)) rfl T.law_draw.g T.law_draw.F.kp T.law_draw.b (da_cons (dv 0) (da_cons (dv 2) da_nil))))) da_nil))) (dss_cons (ds_for PassesOwn.never rfl (di_range1 rfl T.range (da_cons (de_call (ok_law_draw T) (hr.mono (by decide)) rfl T.law_draw.g T.law_draw.F.kp T.law_draw.b (da_cons (dv 0) (da_cons de_int da_nil))) da_nil)) (dg_name sc.nd (i := 5) rfl (by first | exact Or.inl rfl | exact Or.inr rfl)) (dss_one (ds_append (pv 4) (de_ifExp (dt_cmp op_gt opl_gt (de_call (ok_law_draw T) (hr.mono (by decide)) rfl T.law_draw.g T.law_draw.F.kp T.law_draw.b (da_cons (dv 0) (da_cons de_int da_nil))) de_int (nomark _)) (de_call (ok_law_draw T) (hr.mono (by decide)) rfl T.law_draw.g T.law_draw.F.kp T.law_draw.b (da_cons (dv 0) (da_cons (dv 1) da_nil))) (de_sub de_negI (de_call (ok_law_draw T) (hr.mono (by decide)) rfl T.law_draw.g T.law_draw.F.kp T.law_draw.b (da_cons (dv 0) (da_cons (dv 2) da_nil))))) ⟨rfl, rfl, rfl, rfl, rfl⟩))) (dss_one (ds_ret (dv 4)))))
theorem ok_law_doors (T : Tx K mg) : FnOk P w K mg base CX0 2 T.law_doors.f T.law_doors.fd ["_law_dice_here", "_law_houses", "_law_cups", "_law_lead"] (spD w K (pp_law_doors T.CW.C T.CE.C)) :=
  ok_of T.law_doors.F sc_law_doors (by decide) len_law_doors (dd_law_doors T) hp_law_doors
theorem sc_law_dealer : FnScope ["_law_dice_here", "_law_houses", "_law_cups", "_law_lead", "_law_most", "_law_many", "_law_found", "_law_standing", "_law_doors_here", "_law_steps_here", "_law_door_here"] ["_law_dice_here", "_law_houses", "_law_cups", "_law_lead", "_law_most"] (defScope s_law_dealer) := ⟨rfl, rfl, rfl, by decide +kernel, rfl, by decide +kernel, by decide +kernel⟩
theorem dd_law_dealer (T : Tx K mg) (cdv : Value) (A : Around) (outer : List Env) (s : Shared) (H : Hp) (E : XK) (hr : Room 2 (A.deeper (envOfC "_law_dealer" (defScope s_law_dealer) s.heap.objs.size T.law_dealer.f cdv))) : DSs (cxOf CX0 P w K mg base ["_law_dice_here", "_law_houses", "_law_cups", "_law_lead", "_law_most", "_law_many", "_law_found", "_law_standing", "_law_doors_here", "_law_steps_here", "_law_door_here"] "_law_dealer" (defScope s_law_dealer) T.law_dealer.f cdv A outer s H E).nox (defBody s_law_dealer) (td_law_dealer T.CW.C T.CE.C) := by
  have hu := hr.units
  have hu9 := hu9_of hu
  have hu0 := hr.units0
  have sc := sc_law_dealer
  exact (dss_cons (ds_set (i := 5) sc.nd rfl (by first | exact Or.inl rfl | exact Or.inr rfl) (de_add de_int (de_call (ok_law_draw T) (hr.mono (by decide)) rfl T.law_draw.g T.law_draw.F.kp T.law_draw.b (da_cons (dv 0) (da_cons (dv 4) da_nil))))) (dss_cons (ds_set (i := 6) sc.nd rfl (by first | exact Or.inl rfl | exact Or.inr rfl) (de_lst da_nil)) (dss_cons (ds_for PassesOwn.never rfl (di_range1 rfl T.range (da_cons (dv 5) da_nil)) (dg_name sc.nd (i := 7) rfl (by first | exact Or.inl rfl | exact Or.inr rfl)) (dss_cons (ds_set (i := 8) sc.nd rfl (by first | exact Or.inl rfl | exact Or.inr rfl) (de_call (ok_law_doors T) (hr.mono (by decide)) rfl T.law_doors.g T.law_doors.F.kp T.law_doors.b (da_cons (dv 0) (da_cons (dv 1) (da_cons (dv 2) (da_cons (dv 3) da_nil)))))) (dss_cons (ds_set (i := 9) sc.nd rfl (by first | exact Or.inl rfl | exact Or.inr rfl) (de_dispT hu9 (de_tup (da_cons (de_item hu9 (dv 8) de_int) (da_cons (de_mod (de_callTy call_int1 calll_int rfl T.int rfl (da_cons (de_add (dv 7) de_int) da_nil)) (dv 5)) da_nil))) de_bl)) (dss_cons (ds_for PassesOwn.never rfl (di_list (de_from (dv 8))) (dg_name sc.nd (i := 10) rfl (by first | exact Or.inl rfl | exact Or.inr rfl)) (dss_one (ds_dset hu9 (pv 9) (de_tup (da_cons (dv 10) (da_cons (de_call (ok_law_draw T) (hr.mono (by decide)) rfl T.law_draw.g T.law_draw.F.kp T.law_draw.b (da_cons (dv 0) (da_cons (dv 5) da_nil))) da_nil))) de_bl))) (dss_one (ds_append (pv 6) (de_callTy call_tuple_of calll_tuple rfl T.tuple rfl (da_cons (de_sortL hu rfl T.sorted (da_cons (de_callTy (callr_list rfl) calll_list rfl T.list rfl (da_cons (dv 9) da_nil)) da_nil)) da_nil)) ⟨rfl, rfl, rfl, rfl, rfl⟩)))))) (dss_one (ds_ret (de_callTy call_tuple_of calll_tuple rfl T.tuple rfl (da_cons (dv 6) da_nil)))))))
theorem ok_law_dealer (T : Tx K mg) : FnOk P w K mg base CX0 3 T.law_dealer.f T.law_dealer.fd ["_law_dice_here", "_law_houses", "_law_cups", "_law_lead", "_law_most"] (spD w K (pp_law_dealer T.CW.C T.CE.C)) :=
  ok_of T.law_dealer.F sc_law_dealer (by decide) len_law_dealer (dd_law_dealer T) hp_law_dealer
theorem sc_law_web : FnScope ["_law_dice_here", "_law_least", "_law_most", "_law_standings", "_law_houses", "_law_cups", "_law_order", "_law_left", "_law_k", "_law_found", "_law_lead", "_law_dealer_here", "_law_house"] ["_law_dice_here", "_law_least", "_law_most", "_law_standings"] (defScope s_law_web) := ⟨rfl, rfl, rfl, by decide +kernel, rfl, by decide +kernel, by decide +kernel⟩
theorem dd_law_web (T : Tx K mg) (cdv : Value) (A : Around) (outer : List Env) (s : Shared) (H : Hp) (E : XK) (hr : Room 3 (A.deeper (envOfC "_law_web" (defScope s_law_web) s.heap.objs.size T.law_web.f cdv))) : DSs (cxOf CX0 P w K mg base ["_law_dice_here", "_law_least", "_law_most", "_law_standings", "_law_houses", "_law_cups", "_law_order", "_law_left", "_law_k", "_law_found", "_law_lead", "_law_dealer_here", "_law_house"] "_law_web" (defScope s_law_web) T.law_web.f cdv A outer s H E).nox (defBody s_law_web) (td_law_web T.CW.C T.CE.C) := by
  have hu := hr.units
  have hu9 := hu9_of hu
  have hu0 := hr.units0
  have sc := sc_law_web
  exact (dss_cons (ds_set (i := 4) sc.nd rfl (by first | exact Or.inl rfl | exact Or.inr rfl) (de_add (dv 1) (de_call (ok_law_draw T) (hr.mono (by decide)) rfl T.law_draw.g T.law_draw.F.kp T.law_draw.b (da_cons (dv 0) (da_cons (de_add (de_sub (dv 2) (dv 1)) de_int) da_nil))))) (dss_cons (ds_set (i := 5) sc.nd rfl (by first | exact Or.inl rfl | exact Or.inr rfl) (de_add de_int (de_call (ok_law_draw T) (hr.mono (by decide)) rfl T.law_draw.g T.law_draw.F.kp T.law_draw.b (da_cons (dv 0) (da_cons de_int da_nil))))) (dss_cons (ds_set (i := 6) sc.nd rfl (by first | exact Or.inl rfl | exact Or.inr rfl) (de_lst da_nil)) (dss_cons (ds_set (i := 7) sc.nd rfl (by first | exact Or.inl rfl | exact Or.inr rfl) (de_listRange rfl T.list rfl T.range rfl (dv 4))) (dss_cons (ds_for PassesOwn.never rfl (di_range1 rfl T.range (da_cons (dv 4) da_nil)) (dg_name sc.nd (i := 8) rfl (by first | exact Or.inl rfl | exact Or.inr rfl)) (dss_one (ds_appPop (i := 7) (j := 6) (by decide) (pv 6) (pv 7) (de_call (ok_law_draw T) (hr.mono (by decide)) rfl T.law_draw.g T.law_draw.F.kp T.law_draw.b (da_cons (dv 0) (da_cons (de_callB callr_len calll_len rfl T.len rfl (da_cons (dv 7) da_nil)) da_nil))) ⟨rfl, rfl, rfl, rfl, rfl⟩ ⟨rfl, rfl, rfl, rfl, rfl⟩))) (dss_cons (ds_setLc rfl sc.nd rfl rfl (sw_true rfl rfl rfl rfl) (blkOk_by (own := [(("_law_house" : Str), 12)]) rfl) (di_range1 rfl T.range (da_cons (dv 4) da_nil)) (fun s H C cl fp => (dg_name sc.nd (i := 12) rfl (by first | exact Or.inl rfl | exact Or.inr rfl))) (fun s H C cl fp => dts_nil) (fun s H C cl fp => (de_tup da_nil)) (by decide)) (dss_cons (ds_for PassesOwn.never rfl (di_range1 rfl T.range (da_cons (dv 4) da_nil)) (dg_name sc.nd (i := 8) rfl (by first | exact Or.inl rfl | exact Or.inr rfl)) (dss_cons (ds_set (i := 10) sc.nd rfl (by first | exact Or.inl rfl | exact Or.inr rfl) (de_ifExp (dt_cmp op_gt opl_gt (dv 8) de_int (nomark _)) (de_item hu9 (dv 6) (de_call (ok_law_draw T) (hr.mono (by decide)) rfl T.law_draw.g T.law_draw.F.kp T.law_draw.b (da_cons (dv 0) (da_cons (dv 8) da_nil)))) de_negI)) (dss_cons (ds_set (i := 11) sc.nd rfl (by first | exact Or.inl rfl | exact Or.inr rfl) (de_call (ok_law_dealer T) (hr.mono (by decide)) rfl T.law_dealer.g T.law_dealer.F.kp T.law_dealer.b (da_cons (dv 0) (da_cons (dv 4) (da_cons (dv 5) (da_cons (dv 10) (da_cons (dv 3) da_nil))))))) (dss_one (ds_lset (pv 9) (de_item hu9 (dv 6) (dv 8)) (dv 11)))))) (dss_one (ds_ret (de_tup (da_cons (dv 5) (da_cons (de_callTy call_tuple_of calll_tuple rfl T.tuple rfl (da_cons (dv 9) da_nil)) da_nil))))))))))))
theorem ok_law_web (T : Tx K mg) : FnOk P w K mg base CX0 4 T.law_web.f T.law_web.fd ["_law_dice_here", "_law_least", "_law_most", "_law_standings"] (spD w K (pp_law_web T.CW.C T.CE.C)) :=
  ok_of T.law_web.F sc_law_web (by decide) len_law_web (dd_law_web T) hp_law_web
theorem sc_law_planted : FnScope ["_law_dice_here", "_law_dealers", "_law_worths", "_law_leads", "_law_dealer_here", "_law_prices", "_law_step", "_law_row", "_law_k", "_law_door_here", "_law_price"] ["_law_dice_here", "_law_dealers"] (defScope s_law_planted) := ⟨rfl, rfl, rfl, by decide +kernel, rfl, by decide +kernel, by decide +kernel⟩
theorem dd_law_planted (T : Tx K mg) (cdv : Value) (A : Around) (outer : List Env) (s : Shared) (H : Hp) (E : XK) (hr : Room 2 (A.deeper (envOfC "_law_planted" (defScope s_law_planted) s.heap.objs.size T.law_planted.f cdv))) : DSs (cxOf CX0 P w K mg base ["_law_dice_here", "_law_dealers", "_law_worths", "_law_leads", "_law_dealer_here", "_law_prices", "_law_step", "_law_row", "_law_k", "_law_door_here", "_law_price"] "_law_planted" (defScope s_law_planted) T.law_planted.f cdv A outer s H E).nox (defBody s_law_planted) (td_law_planted T.CW.C T.CE.C) := by
  have hu := hr.units
  have hu9 := hu9_of hu
  have hu0 := hr.units0
  have sc := sc_law_planted
  exact (dss_cons (ds_set (i := 2) sc.nd rfl (by first | exact Or.inl rfl | exact Or.inr rfl) (de_lst da_nil)) (dss_cons (ds_set (i := 3) sc.nd rfl (by first | exact Or.inl rfl | exact Or.inr rfl) (de_lst da_nil)) (dss_cons (ds_for PassesOwn.never rfl (di_tup (dv 1)) (dg_name sc.nd (i := 4) rfl (by first | exact Or.inl rfl | exact Or.inr rfl)) (dss_cons (ds_append (pv 2) (de_call (ok_law_fraction T) (hr.mono (by decide)) rfl T.law_fraction.g T.law_fraction.F.kp T.law_fraction.b (da_cons (de_sub (de_call (ok_law_draw T) (hr.mono (by decide)) rfl T.law_draw.g T.law_draw.F.kp T.law_draw.b (da_cons (dv 0) (da_cons de_int da_nil))) de_int) (da_cons (de_add de_int (de_call (ok_law_draw T) (hr.mono (by decide)) rfl T.law_draw.g T.law_draw.F.kp T.law_draw.b (da_cons (dv 0) (da_cons de_int da_nil)))) da_nil))) ⟨rfl, rfl, rfl, rfl, rfl⟩) (dss_cons (ds_set (i := 7) sc.nd rfl (by first | exact Or.inl rfl | exact Or.inr rfl) (de_lst (da_cons (de_tup (da_cons de_int (da_cons de_int da_nil))) da_nil))) (dss_cons (ds_for PassesOwn.never rfl (di_range1 rfl T.range (da_cons (de_sub (de_callB callr_len calll_len rfl T.len rfl (da_cons (dv 4) da_nil)) de_int) da_nil)) (dg_name sc.nd (i := 8) rfl (by first | exact Or.inl rfl | exact Or.inr rfl)) (dss_one (ds_append (pv 7) (de_call (ok_law_fraction T) (hr.mono (by decide)) rfl T.law_fraction.g T.law_fraction.F.kp T.law_fraction.b (da_cons (de_sub (de_call (ok_law_draw T) (hr.mono (by decide)) rfl T.law_draw.g T.law_draw.F.kp T.law_draw.b (da_cons (dv 0) (da_cons de_int da_nil))) de_int) (da_cons (de_add de_int (de_call (ok_law_draw T) (hr.mono (by decide)) rfl T.law_draw.g T.law_draw.F.kp T.law_draw.b (da_cons (dv 0) (da_cons de_int da_nil)))) da_nil))) ⟨rfl, rfl, rfl, rfl, rfl⟩))) (dss_one (ds_append (pv 3) (de_callTy call_tuple_of calll_tuple rfl T.tuple rfl (da_cons (dv 7) da_nil)) ⟨rfl, rfl, rfl, rfl, rfl⟩)))))) (dss_cons (ds_set (i := 5) sc.nd rfl (by first | exact Or.inl rfl | exact Or.inr rfl) de_dnew) (dss_cons (ds_for PassesOwn.never rfl (di_list (de_call (ok_law_steps T) (hr.mono (by decide)) rfl T.law_steps.g T.law_steps.F.kp T.law_steps.b (da_cons (dv 1) da_nil))) (dg_name sc.nd (i := 6) rfl (by first | exact Or.inl rfl | exact Or.inr rfl)) (dss_cons (ds_set (i := 9) sc.nd rfl (by first | exact Or.inl rfl | exact Or.inr rfl) (de_call (ok_law_door T) (hr.mono (by decide)) rfl T.law_door.g T.law_door.F.kp T.law_door.b (da_cons (dv 1) (da_cons (dv 6) da_nil)))) (dss_cons (ds_set (i := 10) sc.nd rfl (by first | exact Or.inl rfl | exact Or.inr rfl) (de_call (ok_law_sum T) (hr.mono (by decide)) rfl T.law_sum.g T.law_sum.F.kp T.law_sum.b (da_cons (de_item hu9 (de_item hu9 (dv 3) (de_item hu9 (dv 6) de_int)) (de_call (ok_law_next T) (hr.mono (by decide)) rfl T.law_next.g T.law_next.F.kp T.law_next.b (da_cons (dv 1) (da_cons (dv 6) da_nil)))) (da_cons (de_item hu9 (de_item hu9 (dv 3) (de_item hu9 (dv 6) de_int)) (de_item hu9 (dv 6) de_int)) (da_cons de_negI da_nil))))) (dss_cons (ds_set (i := 10) sc.nd rfl (by first | exact Or.inl rfl | exact Or.inr rfl) (de_call (ok_law_sum T) (hr.mono (by decide)) rfl T.law_sum.g T.law_sum.F.kp T.law_sum.b (da_cons (dv 10) (da_cons (de_item hu9 (dv 2) (de_item hu9 (dv 6) de_int)) (da_cons de_int da_nil))))) (dss_cons (ds_if (dt_cmp op_ge opl_ge (dv 9) de_int (nomark _)) (dss_one (ds_set (i := 10) sc.nd rfl (by first | exact Or.inl rfl | exact Or.inr rfl) (de_call (ok_law_sum T) (hr.mono (by decide)) rfl T.law_sum.g T.law_sum.F.kp T.law_sum.b (da_cons (dv 10) (da_cons (de_item hu9 (dv 2) (dv 9)) (da_cons de_negI da_nil)))))) dss_nil) (dss_one (ds_if (DW.dt (dw_or (dt_cmp (opr_ne hu) (opl_ne hu) (de_item hu9 (dv 10) de_int) de_int (nomark _)) (dw_or1 (dt_cmp (opr_eq hu) (opl_eq hu) (de_call (ok_law_draw T) (hr.mono (by decide)) rfl T.law_draw.g T.law_draw.F.kp T.law_draw.b (da_cons (dv 0) (da_cons de_int da_nil))) de_int (nomark _))))) (dss_one (ds_dset hu9 (pv 5) (dv 6) (dv 10))) dss_nil))))))) (dss_share 5 (dss_one (ds_ret (de_tup (da_cons (de_callTy call_tuple_of calll_tuple rfl T.tuple rfl (da_cons (dv 2) da_nil)) (da_cons (de_callTy call_tuple_of calll_tuple rfl T.tuple rfl (da_cons (dv 3) da_nil)) (da_cons (dv 5) da_nil))))))))))))
theorem ok_law_planted (T : Tx K mg) : FnOk P w K mg base CX0 3 T.law_planted.f T.law_planted.fd ["_law_dice_here", "_law_dealers"] (spD w K (pp_law_planted T.CW.C T.CE.C)) :=
  ok_of T.law_planted.F sc_law_planted (by decide) len_law_planted (dd_law_planted T) hp_law_planted
theorem sc_law_load : FnScope ["_law_dice_here", "_law_dealers", "_law_most", "_law_least", "_law_dealer_here"] ["_law_dice_here", "_law_dealers", "_law_most", "_law_least"] (defScope s_law_load) := ⟨rfl, rfl, rfl, by decide +kernel, rfl, by decide +kernel, by decide +kernel⟩
theorem dd_law_load (T : Tx K mg) (cdv : Value) (A : Around) (outer : List Env) (s : Shared) (H : Hp) (E : XK) (hr : Room 1 (A.deeper (envOfC "_law_load" (defScope s_law_load) s.heap.objs.size T.law_load.f cdv))) : DSs (cxOf CX0 P w K mg base ["_law_dice_here", "_law_dealers", "_law_most", "_law_least", "_law_dealer_here"] "_law_load" (defScope s_law_load) T.law_load.f cdv A outer s H E).nox (defBody s_law_load) (td_law_load T.CW.C T.CE.C) := by
  have hu := hr.units
  have hu9 := hu9_of hu
  have hu0 := hr.units0
  have sc := sc_law_load
  exact (dss_one (ds_ret (de_callTy call_tuple_of calll_tuple rfl T.tuple rfl (da_cons (de_lc rfl sc.nd (blkOk_by (own := [(("_law_dealer_here" : Str), 4)]) rfl) (di_tup (dv 1)) (fun s H C cl fp => (dg_name sc.nd (i := 4) rfl (by first | exact Or.inl rfl | exact Or.inr rfl))) (fun s H C cl fp => dts_nil) (fun s H C cl fp => (de_add (dv 3) (de_call (ok_law_draw T) (hr.mono (by decide)) rfl T.law_draw.g T.law_draw.F.kp T.law_draw.b (da_cons (dv 0) (da_cons (de_add (de_sub (dv 2) (dv 3)) de_int) da_nil))))) (by decide)) da_nil))))
theorem ok_law_load (T : Tx K mg) : FnOk P w K mg base CX0 2 T.law_load.f T.law_load.fd ["_law_dice_here", "_law_dealers", "_law_most", "_law_least"] (spD w K (pp_law_load T.CW.C T.CE.C)) :=
  ok_of T.law_load.F sc_law_load (by decide) len_law_load (dd_law_load T) hp_law_load
theorem sc_law_behind : FnScope ["_law_dealers", "_law_triple", "_law_house", "_law_number", "_law_waiting", "_law_ends", "_law_filled", "_law_door_here", "_law_end", "_law_part"] ["_law_dealers", "_law_triple", "_law_house", "_law_number"] (defScope s_law_behind) := ⟨rfl, rfl, rfl, by decide +kernel, rfl, by decide +kernel, by decide +kernel⟩
theorem dd_law_behind (T : Tx K mg) (cdv : Value) (A : Around) (outer : List Env) (s : Shared) (H : Hp) (E : XK) (hr : Room 0 (A.deeper (envOfC "_law_behind" (defScope s_law_behind) s.heap.objs.size T.law_behind.f cdv))) : DSs (cxOf CX0 P w K mg base ["_law_dealers", "_law_triple", "_law_house", "_law_number", "_law_waiting", "_law_ends", "_law_filled", "_law_door_here", "_law_end", "_law_part"] "_law_behind" (defScope s_law_behind) T.law_behind.f cdv A outer s H E).nox (defBody s_law_behind) (td_law_behind T.CW.C T.CE.C) := by
  have hu := hr.units
  have hu9 := hu9_of hu
  have hu0 := hr.units0
  have sc := sc_law_behind
  exact (dss_cons (ds_copy3 (i := 4) (j := 5) (k := 6) rfl sc.nd rfl rfl rfl rfl rfl rfl (blkOk_by (own := [(("_law_part" : Str), 9)]) rfl) (di_tup (dv 1)) (fun s H C cl fp => (dg_name sc.nd (i := 9) rfl (by first | exact Or.inl rfl | exact Or.inr rfl))) (fun s H C cl fp => (de_callTy (callr_list rfl) calll_list rfl T.list rfl (da_cons (dv 9) da_nil))) (by decide)) (dss_cons (ds_asg (de_item hu9 (de_item hu9 (de_item hu9 (dv 0) (dv 2)) (de_item hu9 (dv 5) (dv 2))) (dv 3)) (dg_tupK K rfl rfl (dgs_cons (dg_name sc.nd (i := 7) rfl (by first | exact Or.inl rfl | exact Or.inr rfl)) (dgs_cons (dg_name sc.nd (i := 8) rfl (by first | exact Or.inl rfl | exact Or.inr rfl)) dgs_nil)))) (dss_cons (ds_lset (pv 4) (dv 2) (de_sub (de_item hu9 (dv 4) (dv 2)) de_int)) (dss_cons (ds_lset (pv 5) (dv 2) (dv 8)) (dss_cons (ds_if (dt_cmp (opr_lt hu0) opl_lt (dv 7) de_int (nomark _)) (dss_one (ds_lset (pv 6) (de_sub de_negI (dv 7)) (de_add (de_item hu9 (dv 6) (de_sub de_negI (dv 7))) de_int))) (dss_one (ds_lset (pv 4) (dv 7) (de_add (de_item hu9 (dv 4) (dv 7)) de_int)))) (dss_one (ds_ret (de_tup (da_cons (de_callTy call_tuple_of calll_tuple rfl T.tuple rfl (da_cons (dv 4) da_nil)) (da_cons (de_callTy call_tuple_of calll_tuple rfl T.tuple rfl (da_cons (dv 5) da_nil)) (da_cons (de_callTy call_tuple_of calll_tuple rfl T.tuple rfl (da_cons (dv 6) da_nil)) da_nil)))))))))))
theorem ok_law_behind (T : Tx K mg) : FnOk P w K mg base CX0 1 T.law_behind.f T.law_behind.fd ["_law_dealers", "_law_triple", "_law_house", "_law_number"] (spD w K (pp_law_behind T.CW.C T.CE.C)) :=
  ok_of T.law_behind.F sc_law_behind (by decide) len_law_behind (dd_law_behind T) hp_law_behind
theorem sc_law_triples : FnScope ["_law_cups", "_law_dealers", "_law_load_here", "_law_prices", "_law_most", "_law_first", "_law_found", "_law_level", "_law_later", "_law_here", "_law_house", "_law_many", "_law_bill", "_law_here_standing", "_law_number", "_law_there", "_law_cost"] ["_law_cups", "_law_dealers", "_law_load_here", "_law_prices", "_law_most"] (defScope s_law_triples) := ⟨rfl, rfl, rfl, by decide +kernel, rfl, by decide +kernel, by decide +kernel⟩
theorem dd_law_triples (T : Tx K mg) (cdv : Value) (A : Around) (outer : List Env) (s : Shared) (H : Hp) (E : XK) (hr : Room 2 (A.deeper (envOfC "_law_triples" (defScope s_law_triples) s.heap.objs.size T.law_triples.f cdv))) : DSs (cxOf CX0 P w K mg base ["_law_cups", "_law_dealers", "_law_load_here", "_law_prices", "_law_most", "_law_first", "_law_found", "_law_level", "_law_later", "_law_here", "_law_house", "_law_many", "_law_bill", "_law_here_standing", "_law_number", "_law_there", "_law_cost"] "_law_triples" (defScope s_law_triples) T.law_triples.f cdv A outer s H E).nox (defBody s_law_triples) (td_law_triples T.CW.C T.CE.C) := by
  have hu := hr.units
  have hu9 := hu9_of hu
  have hu0 := hr.units0
  have sc := sc_law_triples
  exact (dss_cons (ds_set (i := 5) sc.nd rfl (by first | exact Or.inl rfl | exact Or.inr rfl) (de_tup (da_cons (dv 2) (da_cons (de_rep (de_tup (da_cons de_int da_nil)) (de_callB callr_len calll_len rfl T.len rfl (da_cons (dv 1) da_nil))) (da_cons (de_rep (de_tup (da_cons de_int da_nil)) (dv 0)) da_nil))))) (dss_cons (ds_set (i := 6) sc.nd rfl (by first | exact Or.inl rfl | exact Or.inr rfl) (de_dispT hu9 (dv 5) (de_tup (da_cons de_int (da_cons (de_tup (da_cons de_int (da_cons de_int da_nil))) da_nil))))) (dss_cons (ds_set (i := 7) sc.nd rfl (by first | exact Or.inl rfl | exact Or.inr rfl) (de_lst (da_cons (dv 5) da_nil))) (dss_share 7 (dss_cons (ds_while PassesOwn.never (dt_cmp op_gt opl_gt (de_callB callr_len calll_len rfl T.len rfl (da_cons (dv 7) da_nil)) de_int (nomark _)) (dss_cons (ds_set (i := 8) sc.nd rfl (by first | exact Or.inl rfl | exact Or.inr rfl) (de_lst da_nil)) (dss_cons (ds_for PassesOwn.never rfl (di_list (dv 7)) (dg_name sc.nd (i := 9) rfl (by first | exact Or.inl rfl | exact Or.inr rfl)) (dss_cons (ds_asg (de_item hu9 (dv 6) (dv 9)) (dg_tupK K rfl rfl (dgs_cons (dg_name sc.nd (i := 11) rfl (by first | exact Or.inl rfl | exact Or.inr rfl)) (dgs_cons (dg_name sc.nd (i := 12) rfl (by first | exact Or.inl rfl | exact Or.inr rfl)) dgs_nil)))) (dss_one (ds_for PassesOwn.never rfl (di_range1 rfl T.range (da_cons (de_callB callr_len calll_len rfl T.len rfl (da_cons (dv 1) da_nil)) da_nil)) (dg_name sc.nd (i := 10) rfl (by first | exact Or.inl rfl | exact Or.inr rfl)) (dss_cons (ds_set (i := 13) sc.nd rfl (by first | exact Or.inl rfl | exact Or.inr rfl) (de_item hu9 (de_item hu9 (dv 9) de_int) (dv 10))) (dss_one (ds_for PassesOwn.never rfl (di_range1 rfl T.range (da_cons (de_ifExp (dt_cmp op_gt opl_gt (de_item hu9 (de_item hu9 (dv 9) de_int) (dv 10)) de_int (nomark _)) (de_callB callr_len calll_len rfl T.len rfl (da_cons (de_item hu9 (de_item hu9 (dv 1) (dv 10)) (dv 13)) da_nil)) de_int) da_nil)) (dg_name sc.nd (i := 14) rfl (by first | exact Or.inl rfl | exact Or.inr rfl)) (dss_cons (ds_set (i := 15) sc.nd rfl (by first | exact Or.inl rfl | exact Or.inr rfl) (de_call (ok_law_behind T) (hr.mono (by decide)) rfl T.law_behind.g T.law_behind.F.kp T.law_behind.b (da_cons (dv 1) (da_cons (dv 9) (da_cons (dv 10) (da_cons (dv 14) da_nil)))))) (dss_one (ds_if (dt_cmp (opr_notIn hu9) opl_in (dv 15) (dv 6) (by with_unfolding_all rfl)) (dss_cons (ds_set (i := 16) sc.nd rfl (by first | exact Or.inl rfl | exact Or.inr rfl) (de_call (ok_law_sum T) (hr.mono (by decide)) rfl T.law_sum.g T.law_sum.F.kp T.law_sum.b (da_cons (dv 12) (da_cons (de_getX hu9 (dv 3) (de_tup (da_cons (dv 10) (da_cons (dv 13) (da_cons (dv 14) da_nil)))) (de_tup (da_cons de_int (da_cons de_int da_nil))) ⟨rfl, rfl, rfl, rfl⟩) (da_cons de_int da_nil))))) (dss_cons (ds_dset hu9 (pv 6) (dv 15) (de_tup (da_cons (de_add (dv 11) de_int) (da_cons (dv 16) da_nil)))) (dss_one (ds_append (pv 8) (dv 15) ⟨rfl, rfl, rfl, rfl, rfl⟩)))) dss_nil)))))))))) (dss_cons (ds_if (dt_cmp op_gt opl_gt (de_callB callr_len calll_len rfl T.len rfl (da_cons (dv 6) da_nil)) (dv 4) (nomark _)) (dss_one (ds_ret de_non)) dss_nil) (dss_share 8 (dss_one (ds_set (i := 7) sc.nd rfl (by first | exact Or.inl rfl | exact Or.inr rfl) (dv 8)))))))) (dss_one (ds_ret (dv 6))))))))
theorem ok_law_triples (T : Tx K mg) : FnOk P w K mg base CX0 3 T.law_triples.f T.law_triples.fd ["_law_cups", "_law_dealers", "_law_load_here", "_law_prices", "_law_most"] (spD w K (pp_law_triples T.CW.C T.CE.C)) :=
  ok_of T.law_triples.F sc_law_triples (by decide) len_law_triples (dd_law_triples T) hp_law_triples
theorem sc_law_bills : FnScope ["_law_triples_here", "_law_triple"] ["_law_triples_here"] (defScope s_law_bills) := ⟨rfl, rfl, rfl, by decide +kernel, rfl, by decide +kernel, by decide +kernel⟩
theorem dd_law_bills (T : Tx K mg) (cdv : Value) (A : Around) (outer : List Env) (s : Shared) (H : Hp) (E : XK) (hr : Room 0 (A.deeper (envOfC "_law_bills" (defScope s_law_bills) s.heap.objs.size T.law_bills.f cdv))) : DSs (cxOf CX0 P w K mg base ["_law_triples_here", "_law_triple"] "_law_bills" (defScope s_law_bills) T.law_bills.f cdv A outer s H E).nox (defBody s_law_bills) (td_law_bills T.CW.C T.CE.C) := by
  have hu := hr.units
  have hu9 := hu9_of hu
  have hu0 := hr.units0
  have sc := sc_law_bills
  exact (dss_one (ds_ret (de_lc rfl sc.nd (blkOk_by (own := [(("_law_triple" : Str), 1)]) rfl) (di_keys (dv 0)) (fun s H C cl fp => (dg_name sc.nd (i := 1) rfl (by first | exact Or.inl rfl | exact Or.inr rfl))) (fun s H C cl fp => (dts_one (dt_cmp (opr_eq hu) (opl_eq hu) (de_callB (cr_sumT rfl) calll_sumT rfl T.sum rfl (da_cons (de_item hu9 (dv 1) de_int) da_nil)) de_int (nomark _)))) (fun s H C cl fp => (de_item hu9 (de_item hu9 (dv 0) (dv 1)) de_int)) (by decide))))
theorem ok_law_bills (T : Tx K mg) : FnOk P w K mg base CX0 1 T.law_bills.f T.law_bills.fd ["_law_triples_here"] (spD w K (pp_law_bills T.CW.C T.CE.C)) :=
  ok_of T.law_bills.F sc_law_bills (by decide) len_law_bills (dd_law_bills T) hp_law_bills
theorem sc_law_greatest : FnScope ["_law_bills_here", "_law_best", "_law_one"] ["_law_bills_here"] (defScope s_law_greatest) := ⟨rfl, rfl, rfl, by decide +kernel, rfl, by decide +kernel, by decide +kernel⟩
theorem dd_law_greatest (T : Tx K mg) (cdv : Value) (A : Around) (outer : List Env) (s : Shared) (H : Hp) (E : XK) (hr : Room 1 (A.deeper (envOfC "_law_greatest" (defScope s_law_greatest) s.heap.objs.size T.law_greatest.f cdv))) : DSs (cxOf CX0 P w K mg base ["_law_bills_here", "_law_best", "_law_one"] "_law_greatest" (defScope s_law_greatest) T.law_greatest.f cdv A outer s H E).nox (defBody s_law_greatest) (td_law_greatest T.CW.C T.CE.C) := by
  have hu := hr.units
  have hu9 := hu9_of hu
  have hu0 := hr.units0
  have sc := sc_law_greatest
  exact (dss_cons (ds_set (i := 1) sc.nd rfl (by first | exact Or.inl rfl | exact Or.inr rfl) (de_item hu9 (dv 0) de_int)) (dss_cons (ds_for PassesOwn.never rfl (di_list (dv 0)) (dg_name sc.nd (i := 2) rfl (by first | exact Or.inl rfl | exact Or.inr rfl)) (dss_one (ds_if (dt_val (de_call (ok_law_less T) (hr.mono (by decide)) rfl T.law_less.g T.law_less.F.kp T.law_less.b (da_cons (dv 1) (da_cons (dv 2) da_nil)))) (dss_one (ds_set (i := 1) sc.nd rfl (by first | exact Or.inl rfl | exact Or.inr rfl) (dv 2))) dss_nil))) (dss_one (ds_ret (dv 1)))))
theorem ok_law_greatest (T : Tx K mg) : FnOk P w K mg base CX0 2 T.law_greatest.f T.law_greatest.fd ["_law_bills_here"] (spD w K (pp_law_greatest T.CW.C T.CE.C)) :=
  ok_of T.law_greatest.F sc_law_greatest (by decide) len_law_greatest (dd_law_greatest T) hp_law_greatest
theorem sc_law_turned_about : FnScope ["_law_prices", "_law_step"] ["_law_prices"] (defScope s_law_turned_about) := ⟨rfl, rfl, rfl, by decide +kernel, rfl, by decide +kernel, by decide +kernel⟩
theorem dd_law_turned_about (T : Tx K mg) (cdv : Value) (A : Around) (outer : List Env) (s : Shared) (H : Hp) (E : XK) (hr : Room 0 (A.deeper (envOfC "_law_turned_about" (defScope s_law_turned_about) s.heap.objs.size T.law_turned_about.f cdv))) : DSs (cxOf CX0 P w K mg base ["_law_prices", "_law_step"] "_law_turned_about" (defScope s_law_turned_about) T.law_turned_about.f cdv A outer s H E).nox (defBody s_law_turned_about) (td_law_turned_about T.CW.C T.CE.C) := by
  have hu := hr.units
  have hu9 := hu9_of hu
  have hu0 := hr.units0
  have sc := sc_law_turned_about
  exact (dss_one (ds_ret (de_dictOf rfl hu rfl T.dict (da_cons (de_lc rfl sc.nd (blkOk_by (own := [(("_law_step" : Str), 1)]) rfl) (di_keys (dv 0)) (fun s H C cl fp => (dg_name sc.nd (i := 1) rfl (by first | exact Or.inl rfl | exact Or.inr rfl))) (fun s H C cl fp => dts_nil) (fun s H C cl fp => (de_tup (da_cons (dv 1) (da_cons (de_tup (da_cons (de_neg (de_item hu9 (de_item hu9 (dv 0) (dv 1)) de_int)) (da_cons (de_item hu9 (de_item hu9 (dv 0) (dv 1)) de_int) da_nil))) da_nil)))) (by decide)) da_nil))))
theorem ok_law_turned_about (T : Tx K mg) : FnOk P w K mg base CX0 1 T.law_turned_about.f T.law_turned_about.fd ["_law_prices"] (spD w K (pp_law_turned_about T.CW.C T.CE.C)) :=
  ok_of T.law_turned_about.F sc_law_turned_about (by decide) len_law_turned_about (dd_law_turned_about T) hp_law_turned_about
end
end DL
set_option Elab.async false
set_option linter.all false
set_option maxRecDepth 100000
/-! DDWebI: what Web.__init__ stores. -/
namespace DL
open PySem PySem.Spec PyProof.Rows L2
def pp_Web (CW CE : Addr) : PP := fun ds Q => ∃ (c : Int) (dl : Dl), ds = [D.int c, dlD dl] ∧ WOk c dl ∧ Q (.a .non)
theorem DiceOk.mk_ {F : Fx} {O : Addr → Prop} {H : Hp} {a x C dx : Addr} {fs : List (Str × V)} (h : DiceOk F O H a) (hx : H x = some (.ins C dx fs)) : DiceOk F (fun b => O b ∨ b = x) H a := by
  obtain ⟨c, ns, a1, a2, a3, a4, h1, h2, h3⟩ := h
  refine ⟨c, ns, a1, a2, a3, a4, h1, ?_, h3⟩
  cases h2 with
  | l g1 g2 g3 =>
    have := g3.of_ints
    subst this
    refine .l g1 (fun z => ?_) .ints
    rcases z with z | z
    · exact g2 z
    · rw [z, hx] at g1; cases g1
section
variable {P : Program} {w : World} {K : PySem.W.Frag} {mg : Str → Option Value} {base : Heap}
theorem sc_Web_init : FnScope ["self", "cups", "dealers"] ["self", "cups", "dealers"] (defScope s_Web_init) := ⟨rfl, rfl, rfl, by decide +kernel, rfl, by decide +kernel, by decide +kernel⟩
theorem ok_Web_init (T : Tx K mg) : FnOk P w K mg base CX0 6 T.Web_init.f T.Web_init.fd ["self", "cups", "dealers"] (spMk w K T.CW.C ["cups", "dealers"] (pp_Web T.CW.C T.CE.C)) := by
  refine T.Web_init.F.ok sc_Web_init (fun vs H Q E h => ?_) (fun cdv A outer s H vs Q E hr h => ?_)
  · obtain ⟨x, dx, us, de, O, ds, Qd, rfl, hl, _⟩ := h
    rw [List.length_cons, hl]; rfl
  · obtain ⟨x, dx, us, de, O, ds, Qd, rfl, hl, hx, nO, nd, hO, hd, hi, ⟨c, dl, ed, wk, hq⟩, kk⟩ := h
    obtain ⟨v1, v2, rfl⟩ := len2 hl
    refine ⟨_, pss_cons (ps_expr (pe_call (ok_check_web T) (hr.mono (by decide)) rfl T.check_web.g T.check_web.F.kp T.check_web.b .nil pass0 (pa_cons (pv 1) (pa_cons (pv 2) pa_nil)))) (pss_cons (ps_fld (pv 0) (pv 1) rfl) (pss_one (ps_fld (pv 0) (pv 2) rfl))), ?_⟩
    have e2 : ¬ (("cups" : Str) = "dealers") := by decide +kernel
    have p2 : putF "dealers" v2 (putF "cups" v1 []) = (["cups", "dealers"] : List Str).zip [v1, v2] := by
      show (if ("cups" : Str) = "dealers" then _ else (("cups" : Str), v1) :: putF "dealers" v2 []) = _
      rw [if_neg e2]; rfl
    refine ⟨v1, rfl, v2, rfl, ?_⟩
    refine ⟨de, fun b => O b ∨ b = x, ds, fun _ => True, fun b z => ?_, fun b eb => ⟨.inl (hd b eb).1, (hd b eb).2.mk_ hx⟩, hi, ⟨c, dl, ed, wk, trivial⟩, fun d v H1 _ h1 h2 _ => ?_⟩
    · rcases z with z | z
      · exact hO b z
      · exact ⟨_, by rw [z]; exact hx⟩
    have hx1 : H1 x = some (.ins T.CW.C dx []) := h1 x _ hx nd
    refine ⟨v1, rfl, .ref x, rfl, x, T.CW.C, dx, [], rfl, hx1, T.CW.cls, T.n_cups, by decide, v2, rfl, .ref x, rfl, x, T.CW.C, dx, _, rfl, upd_same, T.CW.cls, T.n_dealers, by show 1 < 1000; decide, ?_⟩
    rw [p2]
    have old : ∀ b o, H1 b = some o → b ≠ x → (upd (upd H1 x (.ins T.CW.C dx (putF "cups" v1 []))) x (.ins T.CW.C dx ((["cups", "dealers"] : List Str).zip [v1, v2]))) b = some o := fun b o e n => by rw [upd_ne n, upd_ne n]; exact e
    have ne : ∀ b, de = some b → b ≠ x := fun b eb z => nd (by rw [eb, z])
    refine kk _ [v1, v2] hq (fun b o e n nde => old b o (h1 b o e nde) n) (fun b eb => ?_) (hi.mono (fun b o e n => old b o (h1 b o e fun z => n (.inl (hd b z).1)) fun z => n (.inr z)) fun _ _ _ z => .inl z) rfl upd_same
    have d1 : DiceOk ⟨w, K, de⟩ O H1 b := (h2 b eb).mono (fun _ z => z) (fun _ _ z _ => z) fun _ _ _ z => .inl z
    exact (d1.fld (ne b eb) hx1).fld (ne b eb) upd_same
end
end DL
set_option Elab.async false
set_option linter.all false
set_option maxRecDepth 100000
set_option exponentiation.threshold 20000
namespace DL
open PySem PySem.Spec PyProof.Rows L2
/-! one turn of the law -/
def td_law_q1 (CW CE : Addr) : TDS := (tdIfS (tdOr (tdB (tdOp (rdEq not) (tdCall (pp_most_of CW CE) (tdCons (tdVar 3) (tdCons (tdCall (pp_law_turned_about CW CE) (tdCons (tdVar 10) tdNil)) (tdCons (tdVar 4) tdNil)))) (tdVar 14))) (tdB (tdOp (rdEq not) (tdCall (pp_most_of CW CE) (tdCons (tdVar 3) (tdCons tdDNew (tdCons (tdVar 4) tdNil)))) (tdTup (tdCons (tdC (D.int 0)) (tdCons (tdC (D.int 1)) tdNil)))))) (tdRet (tdC (D.bl false))) tdNext)
def td_law_q2 (CW CE : Addr) : TDS := (tdSeq (tdSet 14 (tdCall (pp_law_greatest CW CE) (tdCons (tdLc (tdiL (tdVar 11)) (tgTup 2 (tgCons (tgName 16) (tgCons (tgName 17) tgNil))) tdYes (tdTup (tdCons (tdUn (fun i => .int (-i)) (tdVar 16)) (tdCons (tdVar 17) tdNil))) [16, 17]) tdNil))) (td_law_q1 CW CE))
def td_law_q3 (CW CE : Addr) : TDS := (tdShare 13 (tdSeq (tdIfS (tdOr (tdB (tdOp (rdEq not) (tdCall (pp_most_of CW CE) (tdCons (tdVar 3) (tdCons (tdVar 10) (tdCons (tdVar 4) tdNil)))) (tdVar 12))) (tdB (tdOp (rdEq not) (tdCall (pp_most_of CW CE) (tdCons (tdVar 3) (tdCons (tdVar 13) (tdCons (tdVar 4) tdNil)))) (tdVar 12)))) (tdRet (tdC (D.bl false))) tdNext) (td_law_q2 CW CE)))
def td_law_q4 (CW CE : Addr) : TDS := (tdSeq (tdSet 13 (tdCB rdDictOf (tdCons (tdLc (tdiL (tdCall (pp_law_steps CW CE) (tdCons (tdVar 7) tdNil))) (tgName 15) tdYes (tdTup (tdCons (tdVar 15) (tdCons (tdGetX (tdVar 10) (tdVar 15) (tdTup (tdCons (tdC (D.int 0)) (tdCons (tdC (D.int 1)) tdNil)))) tdNil))) [15]) tdNil))) (td_law_q3 CW CE))
def td_law_q5 (CW CE : Addr) : TDS := (tdSeq (tdSet 12 (tdCall (pp_law_greatest CW CE) (tdCons (tdVar 11) tdNil))) (td_law_q4 CW CE))
def td_law_q6 (CW CE : Addr) : TDS := (tdIfS (tdB (tdOp (rdIs not) (tdVar 5) (tdC D.non))) (tdSeq (tdSet 11 (tdCall (pp_law_bills CW CE) (tdCons (tdVar 5) tdNil))) (td_law_q5 CW CE)) tdNext)
def td_law_q7 (CW CE : Addr) : TDS := (tdSeq (tdSet 5 (tdCall (pp_law_triples CW CE) (tdCons (tdVar 6) (tdCons (tdVar 7) (tdCons (tdVar 4) (tdCons (tdVar 10) (tdCons (tdC (D.int 500)) tdNil))))))) (td_law_q6 CW CE))
def td_law_q8 (CW CE : Addr) : TDS := (tdSeq (tdSet 4 (tdCall (pp_law_load CW CE) (tdCons (tdVar 1) (tdCons (tdVar 7) (tdCons (tdOp rdAdd (tdC (D.int 1)) (tdCall (pp_law_draw CW CE) (tdCons (tdVar 1) (tdCons (tdC (D.int 3)) tdNil)))) (tdCons (tdC (D.int 0)) tdNil)))))) (td_law_q7 CW CE))
def td_law_q9 (CW CE : Addr) : TDS := (tdSeq (tdSet 3 (tdMake CW ["cups", "dealers"] (pp_Web CW CE) (tdCons (tdVar 6) (tdCons (tdVar 7) tdNil)))) (td_law_q8 CW CE))
def td_law_q10 (CW CE : Addr) : TDS := (tdSeq (tdAsg (tdCall (pp_law_planted CW CE) (tdCons (tdVar 1) (tdCons (tdVar 7) tdNil))) (tgTup 3 (tgCons (tgName 8) (tgCons (tgName 9) (tgCons (tgName 10) tgNil))))) (td_law_q9 CW CE))
def td_law_b11 (CW CE : Addr) : TDS := (tdSeq (tdAsg (tdCall (pp_law_web CW CE) (tdCons (tdVar 1) (tdCons (tdC (D.int 1)) (tdCons (tdC (D.int 3)) (tdCons (tdC (D.int 3)) tdNil))))) (tgTup 2 (tgCons (tgName 6) (tgCons (tgName 7) tgNil)))) (td_law_q10 CW CE))
def td_law_s2 (CW CE : Addr) : TDS := (tdRet (tdC (D.bl true)))
def td_law_s1 (CW CE : Addr) : TDS := (tdSeq (tdFor (tdiRng1 (tdCons (tdC (D.int 3)) tdNil)) (tgName 2) (td_law_b11 CW CE)) (td_law_s2 CW CE))
/-! prices otherwise -/
theorem look_neg (r : Rw) (k : NestedKey) : look (r.map fun x => (x.1, -x.2)) k = - look r k := by
  unfold look
  rw [aget_mapG (f := fun q : Rat => -q)]
  cases aget r k with
  | none => show (0 : Rat) = -0; grind
  | some q => rfl
theorem price_neg (ps : Prs) (x : Nat × Nat × Nat) : price (negP ps) x = - price ps x := by
  rw [price_enc, price_enc, ← look_neg]
  congr 1
  unfold encP negP
  rw [List.map_map, List.map_map]; rfl
theorem sumT_neg (v : NestedKey → Rat) : ∀ ts : List Trm, sumT ts (fun k => - v k) = - sumT ts v
  | [] => by show (0 : Rat) = -0; grind
  | y :: ts => by
    have := sumT_neg v ts
    unfold sumT at *
    rw [List.map_cons, List.map_cons, List.sum_cons, List.sum_cons, this]
    grind
theorem sumT_zero : ∀ ts : List Trm, sumT ts (fun _ => 0) = 0
  | [] => rfl
  | y :: ts => by
    have := sumT_zero ts
    unfold sumT at *
    rw [List.map_cons, List.sum_cons, this]
    grind
theorem tells_neg {dl : Dl} {ps : Prs} {v : NestedKey → Rat} (h : Tells dl ps v) : Tells dl (negP ps) fun k => - v k := fun x p e => by rw [sumT_neg, h x p e, price_neg]
theorem tells_zero (dl : Dl) : Tells dl [] fun _ => 0 := fun x p e => by rw [sumT_zero]; rfl
theorem isz_neg {K : Int} {L : Nat} {q : Rat} (h : Isz K L q) : Isz K L (-q) := by
  obtain ⟨z, a, b⟩ := h
  refine ⟨-z, ?_, by omega⟩
  rw [Rat.intCast_neg, ← a]
  grind
theorem small_neg {dl : Dl} {ps : Prs} (h : Small12 dl ps) : Small12 dl (negP ps) := fun x => by rw [price_neg]; exact isz_neg (h x)
theorem prok_neg {dl : Dl} {ps : Prs} (h : PrsOk dl ps) : PrsOk dl (negP ps) where
  at_ := fun x hx => by
    obtain ⟨y, hy, rfl⟩ := List.mem_map.mp hx
    exact h.at_ y hy
  ok := fun x hx => by
    obtain ⟨y, hy, rfl⟩ := List.mem_map.mp hx
    have := h.ok y hy
    unfold PrOk at *
    rw [Rat.neg_num, Rat.neg_den, Int.natAbs_neg]
    exact this
  ln := by unfold negP; rw [List.length_map]; exact h.ln
theorem wv_neg (v : NestedKey → Rat) (h : Nat) : wv (fun k => - v k) h = - wv v h := rfl
theorem lv_neg (v : NestedKey → Rat) (h s : Nat) : lv (fun k => - v k) h s = - lv v h s := by
  unfold lv
  split
  · grind
  · rfl
theorem wsum_neg (v : NestedKey → Rat) : ∀ (xs : List Nat) (h : Nat), wsum (fun k => - v k) h xs = - wsum v h xs
  | [], _ => by show (0 : Rat) = -0; grind
  | x :: r, h => by
    show (x : Rat) * wv (fun k => - v k) h + wsum (fun k => - v k) (h + 1) r = -((x : Rat) * wv v h + wsum v (h + 1) r)
    rw [wsum_neg v r (h + 1), wv_neg]; grind
theorem lsum_neg (v : NestedKey → Rat) : ∀ (xs : List Nat) (h : Nat), lsum (fun k => - v k) h xs = - lsum v h xs
  | [], _ => by show (0 : Rat) = -0; grind
  | x :: r, h => by
    show lv (fun k => - v k) h x + lsum (fun k => - v k) (h + 1) r = -(lv v h x + lsum v (h + 1) r)
    rw [lsum_neg v r (h + 1), lv_neg]; grind
theorem bv_neg (v : NestedKey → Rat) (load : List Nat) (t : Tri) : bv (fun k => - v k) load t = - bv v load t := by
  unfold bv
  rw [wsum_neg, wsum_neg, lsum_neg]; grind
theorem wsum_nought : ∀ (xs : List Nat) (h : Nat), wsum (fun _ => 0) h xs = 0
  | [], _ => rfl
  | x :: r, h => by
    show (x : Rat) * (0 : Rat) + wsum (fun _ => 0) (h + 1) r = 0
    rw [wsum_nought r (h + 1)]; grind
theorem lsum_nought : ∀ (xs : List Nat) (h : Nat), lsum (fun _ => 0) h xs = 0
  | [], _ => rfl
  | x :: r, h => by
    show lv (fun _ => 0) h x + lsum (fun _ => 0) (h + 1) r = 0
    rw [lsum_nought r (h + 1)]
    have : lv (fun _ => 0) h x = 0 := by unfold lv; split <;> rfl
    rw [this]; grind
theorem bv_nought (load : List Nat) (t : Tri) : bv (fun _ => 0) load t = 0 := by
  unfold bv
  rw [wsum_nought, wsum_nought, lsum_nought]; grind
/-! the prices told of all steps -/
def wholeP (dl : Dl) (ps : Prs) : Prs := (stepsOf dl).map fun x => (x, price ps x)
theorem stepsIn_nodup (h s n : Nat) : (stepsIn h s n).Nodup := by
  unfold stepsIn
  exact List.pairwise_map.mpr (List.nodup_range.imp fun h e => h (by injection e with _ e; injection e))
theorem stepsDealer_nodup (h : Nat) : ∀ (d : List (List Pr)) (s : Nat), (stepsDealer h s d).Nodup
  | [], _ => List.nodup_nil
  | st :: r, s => by
    show (stepsIn h s st.length ++ stepsDealer h (s + 1) r).Nodup
    rw [List.nodup_append]
    refine ⟨stepsIn_nodup h s _, stepsDealer_nodup h r (s + 1), fun a ha b hb e => ?_⟩
    subst e
    unfold stepsIn at ha
    obtain ⟨i, _, rfl⟩ := List.mem_map.mp ha
    obtain ⟨_, i, _, _, e, _⟩ := (stepsDealer_mem r (s + 1)).mp hb
    simp only at e
    omega
theorem stepsAll_nodup : ∀ (dl : Dl) (h : Nat), (stepsAll h dl).Nodup
  | [], _ => List.nodup_nil
  | d :: r, h => by
    show (stepsDealer h 0 d ++ stepsAll (h + 1) r).Nodup
    rw [List.nodup_append]
    refine ⟨stepsDealer_nodup h d 0, stepsAll_nodup r (h + 1), fun a ha b hb e => ?_⟩
    subst e
    have h1 := ((stepsDealer_mem d 0).mp ha).1
    obtain ⟨j, _, _, _, _, e, _⟩ := (stepsAll_mem r (h + 1)).mp hb
    omega
theorem steps_nodup (dl : Dl) : (stepsOf dl).Nodup := stepsAll_nodup dl 0
theorem whole_keys (dl : Dl) (ps : Prs) : (wholeP dl ps).map (·.1) = stepsOf dl := by
  unfold wholeP
  rw [List.map_map]
  conv => rhs; rw [← List.map_id (stepsOf dl)]
  rfl
theorem whole_price {dl : Dl} {ps : Prs} {x : Nat × Nat × Nat} (hx : x ∈ stepsOf dl) : price (wholeP dl ps) x = price ps x :=
  (price_mem (ps := wholeP dl ps) (by rw [whole_keys]; exact steps_nodup dl) (y := (x, price ps x)) (List.mem_map.mpr ⟨x, hx, rfl⟩)).1
theorem whole_tells {dl : Dl} {ps : Prs} {v : NestedKey → Rat} (h : Tells dl ps v) : Tells dl (wholeP dl ps) v := fun x p e => by
  rw [h x p e, whole_price (steps_mem.mpr (by rw [e]; rfl))]
theorem small_whole {dl : Dl} {ps : Prs} (h : Small12 dl ps) : Small12 dl (wholeP dl ps) := fun x => by
  by_cases hx : x ∈ stepsOf dl
  · rw [whole_price hx]; exact h x
  · rw [price_enc, look_no fun z => hx (by rw [← whole_keys dl ps]; exact mem_enc.mp z)]
    exact Isz.zero.mono (Nat.zero_le _)
theorem prok_whole {c : Int} {dl : Dl} {ps : Prs} (w : WOk c dl) (h : PrsOk dl ps) : PrsOk dl (wholeP dl ps) where
  at_ := fun y hy => by
    obtain ⟨x, hx, rfl⟩ := List.mem_map.mp hy
    exact steps_mem.mp hx
  ok := fun y hy => by
    obtain ⟨x, hx, rfl⟩ := List.mem_map.mp hy
    show PrOk (price ps x)
    by_cases z : x ∈ ps.map (·.1)
    · rw [price_enc]
      obtain ⟨q, e1, e2⟩ := aget_mem (kvs := encP ps) (k := stepK x) (mem_enc.mpr z)
      obtain ⟨u, hu, e3⟩ := List.mem_map.mp e2
      have : look (encP ps) (stepK x) = q := by unfold look; rw [e1]; rfl
      rw [this]
      injection e3 with _ e3
      rw [← e3]
      exact h.ok u hu
    · rw [price_enc, look_no fun h => z (mem_enc.mp h)]
      exact ⟨by decide, by decide⟩
  ln := by
    have := w.steps
    unfold wholeP
    rw [List.length_map]
    omega
theorem eq_fr (q : Rat) : (not (decide (([q.num, (q.den : Int)] : List Int) = [q.num, (q.den : Int)]))) = false := by simp
theorem eq_fr0 : (not (decide (([(0 : Rat).num, ((0 : Rat).den : Int)] : List Int) = [0, 1]))) = false := by simp
theorem law_turn {CW CE : Addr} {Dd : DEnds} {v0 x2 x3 x4 x5 x6 x7 x8 x9 x10 x11 x12 x13 x14 : Slot} (k : ∀ y3 y4 y5 y6 y7 y8 y9 y10 y11 y12 y13 y14, Dd.nx [v0, .sh .die, x2, y3, y4, y5, y6, y7, y8, y9, y10, y11, y12, y13, y14, .un, .un, .un]) :
    td_law_b11 CW CE Dd [v0, .sh .die, x2, x3, x4, x5, x6, x7, x8, x9, x10, x11, x12, x13, x14, .un, .un, .un] := by
  refine ⟨rfl, rfl, fun c dl w => ⟨rfl, rfl, rfl, ?_⟩⟩
  try dsimp only
  show td_law_q10 CW CE _ [v0, .sh .die, x2, x3, x4, x5, .sh (D.int c), .sh (dlD dl), x8, x9, x10, x11, x12, x13, x14, .un, .un, .un]
  refine ⟨rfl, c, dl, rfl, w, fun dW dL v ps hv tl pok nd s12 => ⟨rfl, rfl, rfl, ?_⟩⟩
  try dsimp only
  show td_law_q9 CW CE _ [v0, .sh .die, x2, x3, x4, x5, .sh (D.int c), .sh (dlD dl), .sh dW, .sh dL, .sh (pricesD ps), x11, x12, x13, x14, .un, .un, .un]
  refine ⟨rfl, rfl, c, dl, rfl, w, rfl, ?_⟩
  try dsimp only
  show td_law_q8 CW CE _ [v0, .sh .die, x2, .sh (webD CW c dl), x4, x5, .sh (D.int c), .sh (dlD dl), .sh dW, .sh dL, .sh (pricesD ps), x11, x12, x13, x14, .un, .un, .un]
  refine ⟨rfl, 3, rfl, by decide, by decide, fun n n0 n3 => ⟨rfl, dl, 1 + n, rfl, w.h2, by omega, by omega, fun load hl h3 => ⟨rfl, ?_⟩⟩⟩
  have w2 := w.h2
  have hs : load.sum ≤ 9 := load_sum (n := 3) (by omega) h3
  try dsimp only
  show td_law_q7 CW CE _ [v0, .sh .die, x2, .sh (webD CW c dl), .sh (natsD load), x5, .sh (D.int c), .sh (dlD dl), .sh dW, .sh dL, .sh (pricesD ps), x11, x12, x13, x14, .un, .un, .un]
  refine ⟨rfl, c, dl, load, ps, v, rfl, w, hl, hs, hv, tl, s12, ⟨rfl, k _ _ _ _ _ _ _ _ _ _ _ _⟩, fun xs ndx F hx => ⟨rfl, ?_⟩⟩
  have hL : (xs.map (·.1)).length ≤ 500 := by rw [List.length_map]; exact hx
  -- the bills
  have mem : ∀ q : Rat, q ∈ ((xs.map (·.1)).filter overB).map (bv v load) ↔ ∃ t ∈ xs.map (·.1), t.1.sum = 0 ∧ bv v load t = q := fun q => by
    rw [List.mem_map]
    constructor
    · rintro ⟨t, ht, e⟩
      obtain ⟨h1, h2⟩ := List.mem_filter.mp ht
      exact ⟨t, h1, of_decide_eq_true h2, e⟩
    · rintro ⟨t, h1, h2, e⟩
      exact ⟨t, List.mem_filter.mpr ⟨h1, decide_eq_true h2⟩, e⟩
  have ne : ((xs.map (·.1)).filter overB).map (bv v load) ≠ [] := by
    obtain ⟨t, ht, h0⟩ := over_ex w hl F
    exact List.ne_nil_of_mem ((mem _).mpr ⟨t, ht, h0, rfl⟩)
  have sm : ∀ q ∈ ((xs.map (·.1)).filter overB).map (bv v load), Sm q := fun q hq => by
    obtain ⟨t, ht, _, e⟩ := (mem q).mp hq
    rw [← e]
    exact isz_sm12 ((F.rch t ht).isz w hl hs hv) (by decide)
  generalize hqs : ((xs.map (·.1)).filter overB).map (bv v load) = qs at mem ne sm
  try dsimp only
  show td_law_q6 CW CE _ [v0, .sh .die, x2, .sh (webD CW c dl), .sh (natsD load), .sh (.d (kvT v load xs)), .sh (D.int c), .sh (dlD dl), .sh dW, .sh dL, .sh (pricesD ps), x11, x12, x13, x14, .un, .un, .un]
  refine ⟨rfl, v, load, xs, rfl, hx, rfl, ?_⟩
  rw [hqs]
  try dsimp only
  show td_law_q5 CW CE _ [v0, .sh .die, x2, .sh (webD CW c dl), .sh (natsD load), .sh (.d (kvT v load xs)), .sh (D.int c), .sh (dlD dl), .sh dW, .sh dL, .sh (pricesD ps), .sh (.l (qs.map fr)), x12, x13, x14, .un, .un, .un]
  refine ⟨rfl, qs, rfl, ne, sm, fun q hq hmax => ⟨rfl, ?_⟩⟩
  try dsimp only
  show td_law_q4 CW CE _ [v0, .sh .die, x2, .sh (webD CW c dl), .sh (natsD load), .sh (.d (kvT v load xs)), .sh (D.int c), .sh (dlD dl), .sh dW, .sh dL, .sh (pricesD ps), .sh (.l (qs.map fr)), .sh (fr q), x13, x14, .un, .un, .un]
  -- the prices told of all steps
  refine ⟨unAt1 rfl, rfl, c, dl, rfl, w, rfl, ?_⟩
  have st := w.steps
  refine lcL_map (fun d => .t [d, fr (price ps (unStep d))]) .sh rfl _ _ _ (fun x hx C hc => ?_) (by rw [List.length_map]; exact sz (by simp; omega)) ?_
  · obtain ⟨y, hy, rfl⟩ := List.mem_map.mp hx
    rw [unStep_step] at hc
    have epr : ((aget (ps.map fun x => (stepK x.1, fr x.2)) (stepK y)).getD (.t (List.map D.int [0, 1]))) = fr (price ps y) := by
      rw [fr0, show (ps.map fun x => (stepK x.1, fr x.2)) = (encP ps).map fun x => (x.1, fr x.2) by unfold encP; rw [List.map_map]; rfl, getD_fr]
      rfl
    refine ⟨rfl, sz (show 2 ≤ 16777216 by decide), stepK y, rfl, kk_price ps y, rfl, rfl, sz (show 2 ≤ 16777216 by decide), ?_⟩
    show C (.t [stepD y, (aget (ps.map fun x => (stepK x.1, fr x.2)) (stepK y)).getD (.t (List.map D.int [0, 1]))]) .sh
    rw [epr]
    exact hc
  rw [List.nil_append, List.map_map]
  refine ⟨(wholeP dl ps).map fun x : (Nat × Nat × Nat) × Rat => (stepK x.1, fr x.2), ?_, fun k hk => ?_, ?_, ?_, rfl, ?_⟩
  · unfold wholeP
    rw [List.map_map, List.map_map]
    apply List.map_congr_left
    intro y hy
    show D.t [stepD y, fr (price ps (unStep (stepD y)))] = D.t [ofKey (stepK y), fr (price ps y)]
    rw [unStep_step]; rfl
  · rw [List.map_map] at hk
    obtain ⟨y, _, rfl⟩ := List.mem_map.mp hk
    exact ⟨⟨_, rfl⟩, stepK_depth _⟩
  · rw [List.map_map]
    have : ((wholeP dl ps).map (·.1)).Nodup := by rw [whole_keys]; exact steps_nodup dl
    exact List.pairwise_map.mpr ((List.pairwise_map.mp this).imp fun h e => h (stepK_inj e))
  · rw [List.length_map]
    unfold wholeP
    rw [List.length_map]
    exact sz (by omega)
  try dsimp only
  show td_law_q3 CW CE _ [v0, .sh .die, x2, .sh (webD CW c dl), .sh (natsD load), .sh (.d (kvT v load xs)), .sh (D.int c), .sh (dlD dl), .sh dW, .sh dL, .sh (pricesD ps), .sh (.l (qs.map fr)), .sh (fr q), .ow (pricesD (wholeP dl ps)), x14, .un, .un, .un]
  -- the four answers
  have uniq : ∀ {v' : NestedKey → Rat} {g : Rat → Rat} {r : Rat}, (∀ t, bv v' load t = g (bv v load t)) → (∃ z ∈ qs, g z = r) → (∀ z ∈ qs, g z ≤ r) → ∀ q', (∃ t ∈ xs.map (·.1), t.1.sum = 0 ∧ bv v' load t = q') → (∀ t ∈ xs.map (·.1), t.1.sum = 0 → bv v' load t ≤ q') → q' = r := fun {v' g r} hg ⟨z, hz, ez⟩ hle q' ⟨t, ht, h0, e⟩ hle' => by
    have a : q' ≤ r := by
      rw [← e, hg]
      exact hle _ ((mem _).mpr ⟨t, ht, h0, rfl⟩)
    have b : r ≤ q' := by
      obtain ⟨t2, ht2, h02, e2⟩ := (mem z).mp hz
      have := hle' t2 ht2 h02
      rw [hg, e2, ez] at this
      exact this
    exact Rat.le_antisymm a b
  refine ⟨rfl, c, dl, ps, v, load, xs.map (·.1), rfl, w, pok, s12, tl, hl, h3, F, hL, fun q1 a1 a2 => ?_⟩
  have e1 : q1 = q := uniq (v' := v) (g := id) (fun _ => rfl) ⟨q, hq, rfl⟩ hmax q1 a1 a2
  subst e1
  refine ifN (eq_fr q1) ?_
  refine ⟨rfl, c, dl, wholeP dl ps, v, load, xs.map (·.1), rfl, w, prok_whole w pok, small_whole s12, whole_tells tl, hl, h3, F, hL, fun q2 b1 b2 => ?_⟩
  have e2 : q2 = q1 := uniq (v' := v) (g := id) (fun _ => rfl) ⟨q1, hq, rfl⟩ hmax q2 b1 b2
  subst e2
  refine ifN (eq_fr q2) ?_
  try dsimp only
  show td_law_q2 CW CE _ [v0, .sh .die, x2, .sh (webD CW c dl), .sh (natsD load), .sh (.d (kvT v load xs)), .sh (D.int c), .sh (dlD dl), .sh dW, .sh dL, .sh (pricesD ps), .sh (.l (qs.map fr)), .sh (fr q2), .sh (pricesD (wholeP dl ps)), x14, .un, .un, .un]
  -- turned about
  refine ⟨fun j hj => (by rcases List.mem_cons.mp hj with e | e; · subst e; rfl
                          · rw [List.mem_singleton.mp e]; rfl), rfl, ?_⟩
  have lq : qs.length ≤ 500 := by
    rw [← hqs, List.length_map]
    have := List.length_filter_le overB (xs.map (·.1))
    omega
  refine lcL_map (fun d => fr (-(unfr d))) .sh rfl _ _ _ (fun x hx C hc => ?_) (by rw [List.length_map]; exact sz (by simp; omega)) ?_
  · obtain ⟨y, hy, rfl⟩ := List.mem_map.mp hx
    rw [unfr_fr, fr_neg] at hc
    exact ⟨rfl, rfl, rfl, sz (show 2 ≤ 16777216 by decide), hc⟩
  rw [List.nil_append, List.map_map]
  have en : qs.map ((fun d => fr (-(unfr d))) ∘ fr) = (qs.map fun z => -z).map fr := by
    rw [List.map_map]
    apply List.map_congr_left
    intro y _
    show fr (-(unfr (fr y))) = fr (-y)
    rw [unfr_fr]
  rw [en]
  refine ⟨rfl, qs.map fun z => -z, rfl, fun z => ne (List.map_eq_nil_iff.mp z), fun z hz => ?_, fun r hr rmax => ⟨rfl, ?_⟩⟩
  · obtain ⟨y, hy, rfl⟩ := List.mem_map.mp hz
    have := sm y hy
    unfold Sm at *
    rw [Rat.neg_num, Rat.neg_den, Int.natAbs_neg]
    exact this
  obtain ⟨y, hy, ey⟩ := List.mem_map.mp hr
  try dsimp only
  show td_law_q1 CW CE _ [v0, .sh .die, x2, .sh (webD CW c dl), .sh (natsD load), .sh (.d (kvT v load xs)), .sh (D.int c), .sh (dlD dl), .sh dW, .sh dL, .sh (pricesD ps), .sh (.l (qs.map fr)), .sh (fr q2), .sh (pricesD (wholeP dl ps)), .sh (fr r), .un, .un, .un]
  refine ⟨rfl, ps, rfl, nd, pok.ln, rfl, c, dl, negP ps, (fun k => - v k), load, xs.map (·.1), rfl, w, prok_neg pok, small_neg s12, tells_neg tl, hl, h3, F, hL, fun q3 d1 d2 => ?_⟩
  have e3 : q3 = r := uniq (g := fun z => -z) (bv_neg v load) ⟨y, hy, ey⟩ (fun z hz => rmax _ (List.mem_map.mpr ⟨z, hz, rfl⟩)) q3 d1 d2
  subst e3
  refine ifN (eq_fr q3) ?_
  refine ⟨rfl, c, dl, [], (fun _ => 0), load, xs.map (·.1), rfl, w, ⟨(fun x h => nomatch h), (fun x h => nomatch h), Nat.zero_le _⟩, fun x => ?_, tells_zero dl, hl, h3, F, hL, fun q4 d1 d2 => ?_⟩
  · exact Isz.zero.mono (Nat.zero_le _)
  have e4 : q4 = 0 := uniq (g := fun _ => 0) (fun t => bv_nought load t) ⟨y, hy, rfl⟩ (fun z hz => Rat.le_refl) q4 d1 d2
  subst e4
  exact ⟨rfl, two_ok, k _ _ _ _ _ _ _ _ _ _ _ _⟩
theorem law_loop {CW CE : Addr} {Dd : DEnds} {v0 : Slot} : ∀ (m : Nat) (lo : Int) (x2 x3 x4 x5 x6 x7 x8 x9 x10 x11 x12 x13 x14 : Slot), (∀ y2 y3 y4 y5 y6 y7 y8 y9 y10 y11 y12 y13 y14, Dd.nx [v0, .sh .die, y2, y3, y4, y5, y6, y7, y8, y9, y10, y11, y12, y13, y14, .un, .un, .un]) →
    tdForL (tgName 2) (td_law_b11 CW CE) (ups lo m) Dd [v0, .sh .die, x2, x3, x4, x5, x6, x7, x8, x9, x10, x11, x12, x13, x14, .un, .un, .un]
  | 0, _, _, _, _, _, _, _, _, _, _, _, _, _, _, k => k _ _ _ _ _ _ _ _ _ _ _ _ _
  | m + 1, lo, _, _, _, _, _, _, _, _, _, _, _, _, _, k => law_turn (CW := CW) (CE := CE) fun _ _ _ _ _ _ _ _ _ _ _ _ => law_loop m (lo + 1) _ _ _ _ _ _ _ _ _ _ _ _ _ k
theorem hp_law_s1 {CW CE : Addr} {Dd : DEnds} {v0 : Slot} (k : Dd.rt (D.bl true)) : td_law_s1 CW CE Dd [v0, .sh .die, .un, .un, .un, .un, .un, .un, .un, .un, .un, .un, .un, .un, .un, .un, .un, .un] := by
  refine ⟨by decide, by decide, ?_⟩
  exact law_loop (CW := CW) (CE := CE) 3 0 _ _ _ _ _ _ _ _ _ _ _ _ _ fun _ _ _ _ _ _ _ _ _ _ _ _ _ => k
end DL
set_option Elab.async false
set_option linter.all false
set_option maxRecDepth 100000
set_option exponentiation.threshold 20000
/-! DDLawX: the script is read, the law itself. -/
namespace DL
open PySem PySem.Spec PyProof.Rows L2
/-- the script as data: an address, what stands there -/
def ScrD (K : PySem.W.Frag) (d : D) (ns : List Int) : Prop := (∃ x, d = .raw x ∧ (x = .lst (ns.map V.int) ∨ ∃ o, x = .frz o (.lst (ns.map V.int)))) ∨ (∃ p, d = .at p ∧ ∀ H, SqL K H p (ns.map V.int))
def tdUptoS (K : PySem.W.Frag) (hi : Int) (te : TDE) : TDE := fun E Q => te E fun d f => f.ok = true ∧ ∃ ns, ScrD K d ns ∧ Q (.l (cutD (ns.map D.int) none (some hi))) .fr
def pp_law_diceK (K : PySem.W.Frag) : PP := fun ds Q => ∃ (d : D) (ns : List Int), ds = [d] ∧ ScrD K d ns ∧ ns.length ≤ 63 ∧ ∀ ms : List Int, (∀ m ∈ ms, 0 ≤ m) → Q (diceD ms 0 0 1 0)
def td_law_diceK (K : PySem.W.Frag) : TDS := (tdRet (tdLst (tdCons (tdLc (tdiL (tdUptoS K 63 (tdVar 0))) (tgName 1) tdYes (tdCB rdAbs (tdCons (tdCB rdInt (tdCons (tdVar 1) tdNil)) tdNil)) [1]) (tdCons (tdC (D.int 0)) (tdCons (tdC (D.int 0)) (tdCons (tdC (D.int 1)) (tdCons (tdC (D.int 0)) tdNil)))))))
theorem len_law_diceK {K : PySem.W.Frag} : ∀ (ds : List D) (Qd : D → Prop), pp_law_diceK K ds Qd → ds.length = 1 := fun ds Qd ⟨_, _, e, _⟩ => by rw [e]; rfl
def absD (d : D) : D := D.int (if unint d < 0 then -(unint d) else unint d)
theorem hp_law_diceK {K : PySem.W.Frag} : ∀ (ds : List D) (Qd : D → Prop), pp_law_diceK K ds Qd → td_law_diceK K { nx := fun _ => Qd (.a .non), rt := Qd } (env0 2 ds) := by
  rintro ds Qd ⟨d, ns, rfl, hs, hl, q⟩
  obtain ⟨ms, em, hm⟩ : ∃ ms : List Int, cutD (ns.map D.int) none (some 63) = ms.map D.int ∧ ms.length ≤ 63 := by
    refine ⟨(ns.drop (HT.sIx (ns.map D.int).length 0 none)).take (HT.sIx (ns.map D.int).length (ns.map D.int).length (some 63) - HT.sIx (ns.map D.int).length 0 none), ?_, ?_⟩
    · unfold cutD
      rw [List.map_take, List.map_drop]
    · rw [List.length_take, List.length_drop]; omega
  refine ⟨unAt1 rfl, rfl, ns, hs, rfl, ?_⟩
  show tdLcL _ _ _ _ (cutD (ns.map D.int) none (some 63)) [] _
  rw [em]
  refine lcL_map absD .sh rfl _ _ _ (fun x hx C hc => ?_) (by rw [List.length_map]; exact sz (by simp; omega)) ?_
  · obtain ⟨y, hy, rfl⟩ := List.mem_map.mp hx
    exact hc
  rw [List.nil_append, List.map_map]
  refine ⟨rfl, sz (show 5 ≤ 16777216 by decide), ?_⟩
  have e2 : ms.map (absD ∘ D.int) = (ms.map fun i => if i < 0 then -i else i).map D.int := by rw [List.map_map]; rfl
  show Qd (.l [.l (ms.map (absD ∘ D.int)), D.int 0, D.int 0, D.int 1, D.int 0])
  rw [e2]
  refine q (ms.map fun i => if i < 0 then -i else i) fun m hm => ?_
  obtain ⟨i, _, rfl⟩ := List.mem_map.mp hm
  split <;> omega
theorem ScrD.sq {F : Fx} {O : Addr → Prop} {H : Hp} {d : D} {v : V} {ns : List Int} {K : PySem.W.Frag} (s : ScrD K d ns) (h : Is F O H d v) : ∃ p, v = .ref p ∧ SqL K H p (ns.map V.int) := by
  rcases s with ⟨x, rfl, hx⟩ | ⟨p, rfl, hp⟩
  · cases h with
    | raw h1 h2 =>
      refine ⟨_, rfl, ?_⟩
      rcases hx with rfl | ⟨o, rfl⟩
      · exact .inl (.inl h1)
      · exact .inl (.inr ⟨o, h1⟩)
  · cases h
    exact ⟨p, rfl, hp H⟩
theorem de_uptoS {X : Cx} {e : Expr} {te : TDE} {hi : Int} {j : Nat} {pos p2 q2 : Pos} {K : PySem.W.Frag} (he : DE X e te) (hK : X.K = K := by rfl) : DE X (.Subscript e (.Slice none (some (.Constant (.int hi) j p2)) none q2) pos) (tdUptoS K hi te) :=
  ⟨fun F B ps E σ H Qd Q hF r t k => Run.of (pe_upto peR) (he.run F B ps E σ H _ _ hF r t fun d f v H1 q p => by
    obtain ⟨ok, ns, hs, q⟩ := q
    obtain ⟨r1, h⟩ := p.sh ok
    obtain ⟨a, rfl, sq⟩ := hs.sq h
    subst hK
    refine ⟨hi, rfl, .inl ⟨a, _, rfl, sq, fun p hp => k _ .fr _ _ q (r1.laid (d := .l _) hp ⟨_, upd_same, (cutD_is .ints).laid hp⟩)⟩⟩)⟩
section
variable {P : Program} {w : World} {K : PySem.W.Frag} {mg : Str → Option Value} {base : Heap}
theorem sc_law_dice : FnScope ["_law_script", "_law_cell"] ["_law_script"] (defScope s_law_dice) := ⟨rfl, rfl, rfl, by decide +kernel, rfl, by decide +kernel, by decide +kernel⟩
theorem dd_law_dice (T : Tx K mg) (cdv : Value) (A : Around) (outer : List Env) (s : Shared) (H : Hp) (E : XK) (hr : Room 0 (A.deeper (envOfC "_law_dice" (defScope s_law_dice) s.heap.objs.size T.law_dice.f cdv))) : DSs (cxOf CX0 P w K mg base ["_law_script", "_law_cell"] "_law_dice" (defScope s_law_dice) T.law_dice.f cdv A outer s H E).nox (defBody s_law_dice) (td_law_diceK K) := by
  have hu := hr.units
  have hu9 := hu9_of hu
  have hu0 := hr.units0
  have sc := sc_law_dice
  exact (dss_one (ds_ret (de_lst (da_cons (de_lc rfl sc.nd (blkOk_by (own := [(("_law_cell" : Str), 1)]) rfl) (di_list (de_uptoS (dv 0))) (fun s H C cl fp => (dg_name sc.nd (i := 1) rfl (by first | exact Or.inl rfl | exact Or.inr rfl))) (fun s H C cl fp => dts_nil) (fun s H C cl fp => (de_callB call_abs calll_abs rfl T.abs rfl (da_cons (de_callTy call_int1 calll_int rfl T.int rfl (da_cons (dv 1) da_nil)) da_nil))) (by decide)) (da_cons de_int (da_cons de_int (da_cons de_int (da_cons de_int da_nil))))))))
theorem ok_law_dice (T : Tx K mg) : FnOk P w K mg base CX0 1 T.law_dice.f T.law_dice.fd ["_law_script"] (spD w K (pp_law_diceK K)) :=
  ok_of T.law_dice.F sc_law_dice (by decide) len_law_diceK (dd_law_dice T) hp_law_diceK
theorem sc_law : FnScope ["_law_script", "_law_dice_here", "_law_turn", "_law_web_here", "_law_load_here", "_law_triples_here", "_law_cups", "_law_dealers", "_law_worths", "_law_leads", "_law_prices", "_law_bills_here", "_law_due", "_law_whole", "_law_least", "_law_step", "_law_top", "_law_bottom"] ["_law_script"] (defScope s_law) := ⟨rfl, rfl, rfl, by decide +kernel, rfl, by decide +kernel, by decide +kernel⟩
abbrev law_st : Stmt := (defBody s_law).headD (.Pass ⟨0, 0, 0, 0⟩)
abbrev law_rest : List Stmt := (defBody s_law).tail
theorem dd_law0 (T : Tx K mg) (cdv : Value) (A : Around) (outer : List Env) (s : Shared) (H : Hp) (E : XK) (hr : Room 10 (A.deeper (envOfC "law" (defScope s_law) s.heap.objs.size T.law.f cdv))) : DS (cxOf CX0 P w K mg base ["_law_script", "_law_dice_here", "_law_turn", "_law_web_here", "_law_load_here", "_law_triples_here", "_law_cups", "_law_dealers", "_law_worths", "_law_leads", "_law_prices", "_law_bills_here", "_law_due", "_law_whole", "_law_least", "_law_step", "_law_top", "_law_bottom"] "law" (defScope s_law) T.law.f cdv A outer s H E).nox law_st (tdSet 1 (tdCall (pp_law_diceK K) (tdCons (tdVar 0) tdNil))) := by
  have hu := hr.units
  have hu9 := hu9_of hu
  have hu0 := hr.units0
  have sc := sc_law
  exact (ds_set (i := 1) sc.nd rfl (by first | exact Or.inl rfl | exact Or.inr rfl) (de_call (ok_law_dice T) (hr.mono (by decide)) rfl T.law_dice.g T.law_dice.F.kp T.law_dice.b (da_cons (dv 0) da_nil)))
theorem dd_law1 (T : Tx K mg) (cdv : Value) (A : Around) (outer : List Env) (s : Shared) (H : Hp) (E : XK) (hr : Room 10 (A.deeper (envOfC "law" (defScope s_law) s.heap.objs.size T.law.f cdv))) : DSs (cxOf CX0 P w K mg base ["_law_script", "_law_dice_here", "_law_turn", "_law_web_here", "_law_load_here", "_law_triples_here", "_law_cups", "_law_dealers", "_law_worths", "_law_leads", "_law_prices", "_law_bills_here", "_law_due", "_law_whole", "_law_least", "_law_step", "_law_top", "_law_bottom"] "law" (defScope s_law) T.law.f cdv A outer s H E).nox law_rest (td_law_s1 T.CW.C T.CE.C) := by
  have hu := hr.units
  have hu9 := hu9_of hu
  have hu0 := hr.units0
  have sc := sc_law
  exact (dss_cons (ds_for PassesOwn.never rfl (di_range1 rfl T.range (da_cons de_int da_nil)) (dg_name sc.nd (i := 2) rfl (by first | exact Or.inl rfl | exact Or.inr rfl)) (dss_cons (ds_asg (de_call (ok_law_web T) (hr.mono (by decide)) rfl T.law_web.g T.law_web.F.kp T.law_web.b (da_cons (dv 1) (da_cons de_int (da_cons de_int (da_cons de_int da_nil))))) (dg_tupK K rfl rfl (dgs_cons (dg_name sc.nd (i := 6) rfl (by first | exact Or.inl rfl | exact Or.inr rfl)) (dgs_cons (dg_name sc.nd (i := 7) rfl (by first | exact Or.inl rfl | exact Or.inr rfl)) dgs_nil)))) (dss_cons (ds_asg (de_call (ok_law_planted T) (hr.mono (by decide)) rfl T.law_planted.g T.law_planted.F.kp T.law_planted.b (da_cons (dv 1) (da_cons (dv 7) da_nil))) (dg_tupK K rfl rfl (dgs_cons (dg_name sc.nd (i := 8) rfl (by first | exact Or.inl rfl | exact Or.inr rfl)) (dgs_cons (dg_name sc.nd (i := 9) rfl (by first | exact Or.inl rfl | exact Or.inr rfl)) (dgs_cons (dg_name sc.nd (i := 10) rfl (by first | exact Or.inl rfl | exact Or.inr rfl)) dgs_nil))))) (dss_cons (ds_set (i := 3) sc.nd rfl (by first | exact Or.inl rfl | exact Or.inr rfl) (de_make (names := ["cups", "dealers"]) T.CW.mk_ (ok_Web_init T) (hr.mono (by decide)) rfl T.CW.g T.Web_init.b (da_cons (dv 6) (da_cons (dv 7) da_nil)))) (dss_cons (ds_set (i := 4) sc.nd rfl (by first | exact Or.inl rfl | exact Or.inr rfl) (de_call (ok_law_load T) (hr.mono (by decide)) rfl T.law_load.g T.law_load.F.kp T.law_load.b (da_cons (dv 1) (da_cons (dv 7) (da_cons (de_add de_int (de_call (ok_law_draw T) (hr.mono (by decide)) rfl T.law_draw.g T.law_draw.F.kp T.law_draw.b (da_cons (dv 1) (da_cons de_int da_nil)))) (da_cons de_int da_nil)))))) (dss_cons (ds_set (i := 5) sc.nd rfl (by first | exact Or.inl rfl | exact Or.inr rfl) (de_call (ok_law_triples T) (hr.mono (by decide)) rfl T.law_triples.g T.law_triples.F.kp T.law_triples.b (da_cons (dv 6) (da_cons (dv 7) (da_cons (dv 4) (da_cons (dv 10) (da_cons de_int da_nil))))))) (dss_one (ds_if (dt_cmp op_notN opl_isNot (dv 5) de_non (nomark _)) (dss_cons (ds_set (i := 11) sc.nd rfl (by first | exact Or.inl rfl | exact Or.inr rfl) (de_call (ok_law_bills T) (hr.mono (by decide)) rfl T.law_bills.g T.law_bills.F.kp T.law_bills.b (da_cons (dv 5) da_nil))) (dss_cons (ds_set (i := 12) sc.nd rfl (by first | exact Or.inl rfl | exact Or.inr rfl) (de_call (ok_law_greatest T) (hr.mono (by decide)) rfl T.law_greatest.g T.law_greatest.F.kp T.law_greatest.b (da_cons (dv 11) da_nil))) (dss_cons (ds_set (i := 13) sc.nd rfl (by first | exact Or.inl rfl | exact Or.inr rfl) (de_dictOf rfl hu rfl T.dict (da_cons (de_lc rfl sc.nd (blkOk_by (own := [(("_law_step" : Str), 15)]) rfl) (di_list (de_call (ok_law_steps T) (hr.mono (by decide)) rfl T.law_steps.g T.law_steps.F.kp T.law_steps.b (da_cons (dv 7) da_nil))) (fun s H C cl fp => (dg_name sc.nd (i := 15) rfl (by first | exact Or.inl rfl | exact Or.inr rfl))) (fun s H C cl fp => dts_nil) (fun s H C cl fp => (de_tup (da_cons (dv 15) (da_cons (de_getX hu9 (dv 10) (dv 15) (de_tup (da_cons de_int (da_cons de_int da_nil))) ⟨rfl, rfl, rfl, rfl⟩) da_nil)))) (by decide)) da_nil))) (dss_share 13 (dss_cons (ds_if (DW.dt (dw_or (dt_cmp (opr_ne hu) (opl_ne hu) (de_call (ok_most_of T) (hr.mono (by decide)) rfl T.most_of.g T.most_of.F.kp T.most_of.b (da_cons (dv 3) (da_cons (dv 10) (da_cons (dv 4) da_nil)))) (dv 12) (nomark _)) (dw_or1 (dt_cmp (opr_ne hu) (opl_ne hu) (de_call (ok_most_of T) (hr.mono (by decide)) rfl T.most_of.g T.most_of.F.kp T.most_of.b (da_cons (dv 3) (da_cons (dv 13) (da_cons (dv 4) da_nil)))) (dv 12) (nomark _))))) (dss_one (ds_ret de_bl)) dss_nil) (dss_cons (ds_set (i := 14) sc.nd rfl (by first | exact Or.inl rfl | exact Or.inr rfl) (de_call (ok_law_greatest T) (hr.mono (by decide)) rfl T.law_greatest.g T.law_greatest.F.kp T.law_greatest.b (da_cons (de_lc rfl sc.nd (blkOk_by (own := [(("_law_top" : Str), 16), (("_law_bottom" : Str), 17)]) rfl) (di_list (dv 11)) (fun s H C cl fp => (dg_tupK K rfl rfl (dgs_cons (dg_name sc.nd (i := 16) rfl (by first | exact Or.inl rfl | exact Or.inr rfl)) (dgs_cons (dg_name sc.nd (i := 17) rfl (by first | exact Or.inl rfl | exact Or.inr rfl)) dgs_nil)))) (fun s H C cl fp => dts_nil) (fun s H C cl fp => (de_tup (da_cons (de_neg (dv 16)) (da_cons (dv 17) da_nil)))) (by decide)) da_nil))) (dss_one (ds_if (DW.dt (dw_or (dt_cmp (opr_ne hu) (opl_ne hu) (de_call (ok_most_of T) (hr.mono (by decide)) rfl T.most_of.g T.most_of.F.kp T.most_of.b (da_cons (dv 3) (da_cons (de_call (ok_law_turned_about T) (hr.mono (by decide)) rfl T.law_turned_about.g T.law_turned_about.F.kp T.law_turned_about.b (da_cons (dv 10) da_nil)) (da_cons (dv 4) da_nil)))) (dv 14) (nomark _)) (dw_or1 (dt_cmp (opr_ne hu) (opl_ne hu) (de_call (ok_most_of T) (hr.mono (by decide)) rfl T.most_of.g T.most_of.F.kp T.most_of.b (da_cons (dv 3) (da_cons de_dnew (da_cons (dv 4) da_nil)))) (de_tup (da_cons de_int (da_cons de_int da_nil))) (nomark _))))) (dss_one (ds_ret de_bl)) dss_nil)))))))) dss_nil)))))))) (dss_one (ds_ret de_bl)))
def spLaw (K : PySem.W.Frag) : Sp := fun vs H Q _ => ∃ (a : Addr) (ns : List Int), vs = [.ref a] ∧ SqL K H a (ns.map V.int) ∧ ns.length ≤ 63 ∧ ∀ H', Q (.bl true) H'
theorem ok_law (T : Tx K mg) : FnOk P w K mg base CX0 11 T.law.f T.law.fd ["_law_script"] (spLaw K) := by
  refine T.law.F.ok sc_law (fun vs H Q E h => ?_) (fun cdv A outer s H vs Q E hr h => ?_)
  · obtain ⟨a, ns, rfl, _⟩ := h; rfl
  · obtain ⟨a, ns, rfl, hS, hl, kk⟩ := h
    refine ⟨_, (pss_cons (psR (st := law_st)) (pssR (st := law_rest)) : PSs _ (law_st :: law_rest) _), ?_⟩
    obtain ⟨d, scr, hi⟩ : ∃ d, ScrD K d ns ∧ Is ⟨w, K, none⟩ (fun _ => False) H d (.ref a) := by
      rcases hS with (h | ⟨o, h⟩) | h
      · exact ⟨.raw _, .inl ⟨_, rfl, .inl rfl⟩, .raw h id⟩
      · exact ⟨.raw _, .inl ⟨_, rfl, .inr ⟨o, rfl⟩⟩, .raw h id⟩
      · exact ⟨.at a, .inr ⟨a, rfl, fun H => .inr h⟩, .at⟩
    have r := R_start (F := ⟨w, K, none⟩) (O := fun _ => False) (ds := [d]) (vs := [.ref a]) (H := H) (N := ["_law_script", "_law_dice_here", "_law_turn", "_law_web_here", "_law_load_here", "_law_triples_here", "_law_cups", "_law_dealers", "_law_worths", "_law_leads", "_law_prices", "_law_bills_here", "_law_due", "_law_whole", "_law_least", "_law_step", "_law_top", "_law_bottom"]) (fun _ z => z.elim) (fun _ z => nomatch z) (.cons hi .nil) (by show 1 ≤ 18; decide)
    refine (dd_law0 T cdv A outer s H E hr).run ⟨w, K, none⟩ _ _ _ _ H { nx := fun E' => ∃ ms : List Int, (∀ m ∈ ms, 0 ≤ m) ∧ E' = .sh d :: .sh (diceD ms 0 0 1 0) :: List.replicate 16 .un, rt := fun _ => False } _ ⟨rfl, rfl⟩ r ⟨rfl, d, ns, rfl, scr, hl, fun ms hm => ⟨rfl, ms, hm, rfl⟩⟩ ⟨fun E' σ' H' q r' => ?_, fun _ _ _ q _ => q.elim, fun _ _ _ q _ => q.elim, fun _ _ _ q _ => q.elim⟩
    obtain ⟨ms, hm, rfl⟩ := q
    obtain ⟨v0, e0, h0⟩ := r'.sh 0 d rfl
    obtain ⟨v1, e1, h1⟩ := r'.sh 1 _ rfl
    obtain ⟨p0, rfl, _⟩ := scr.sq h0
    obtain ⟨vs, hl2, p, rfl, hp⟩ := is_lst h1
    have len := r'.len
    unfold diceD at hl2
    cases hl2 with
    | cons g1 hl2 =>
    cases hl2 with
    | cons g2 hl2 =>
    cases hl2 with
    | cons g3 hl2 =>
    cases hl2 with
    | cons g4 hl2 =>
    cases hl2 with
    | cons g5 hl2 =>
    cases hl2
    cases g2; cases g3; cases g4; cases g5
    cases g1 with
    | @l c vc _ c1 c2 c3 =>
    have z : vc = ms.map V.int := c3.of_ints
    subst z
    have only : ∀ {i : Nat} {sl : Slot}, (Slot.sh (.at p0) :: Slot.sh D.die :: List.replicate 16 Slot.un)[i]? = some sl → (i = 0 ∧ sl = .sh (.at p0)) ∨ (i = 1 ∧ sl = .sh .die) ∨ sl = .un := fun {i sl} e => by
      match i, e with
      | 0, e => have e : some (Slot.sh (.at p0)) = some sl := e; cases e; exact .inl ⟨rfl, rfl⟩
      | 1, e => have e : some (Slot.sh D.die) = some sl := e; cases e; exact .inr (.inl ⟨rfl, rfl⟩)
      | i + 2, e =>
        have e : (List.replicate 16 Slot.un)[i]? = some sl := e
        have := List.mem_of_getElem? e
        rw [List.mem_replicate] at this
        exact .inr (.inr this.2)
    have cp : c ≠ p := fun z => by
      rw [z, hp] at c1
      injection c1 with c1
      injection c1 with c1
      cases ms with
      | nil => cases c1
      | cons m ms => injection c1 with c1 _; cases c1
    have own_p : ∀ b, own ⟨fun _ => none, fun b => b = p, []⟩ (Slot.sh (.at p0) :: Slot.sh D.die :: List.replicate 16 Slot.un) σ' b → b = p := fun b z => by
      rcases z with z | ⟨i, d, e1, _⟩
      · exact z
      · rcases only e1 with ⟨_, z⟩ | ⟨_, z⟩ | z <;> cases z
    have r2 : R ⟨w, K, some p⟩ ⟨fun _ => none, fun b => b = p, []⟩ [] (Slot.sh (.at p0) :: Slot.sh D.die :: List.replicate 16 Slot.un) σ' H' := by
      refine ⟨by rw [← len]; rfl, fun a o e _ => (nomatch e), fun b z => (by have z : b = p := z; rw [z]; exact ⟨_, hp⟩), fun b z => ?_, fun i d e => ?_, fun i d e => ?_, fun i j d d' b e1 _ _ _ => ?_, fun i v e => ?_, fun q hq => (nomatch hq), fun q hq => (nomatch hq)⟩
      · cases z
        exact ⟨rfl, c, ms, 0, 0, 1, 0, hp, .l c1 (fun z => cp (own_p c z)) .ints, hm, by decide, by decide, by decide, by decide⟩
      · rcases only e with ⟨rfl, z⟩ | ⟨rfl, z⟩ | z
        · cases z; exact ⟨_, e0, .at⟩
        · cases z; exact ⟨_, e1, .die rfl⟩
        · cases z
      · rcases only e with ⟨_, z⟩ | ⟨_, z⟩ | z <;> cases z
      · rcases only e1 with ⟨_, z⟩ | ⟨_, z⟩ | z <;> cases z
      · rcases only e with ⟨_, z⟩ | ⟨_, z⟩ | z <;> cases z
    refine (dd_law1 T cdv A outer s H E hr).run ⟨w, K, some p⟩ _ _ _ σ' H' { nx := fun _ => False, rt := fun x => x = D.bl true } _ ⟨rfl, rfl⟩ r2 (hp_law_s1 (CW := T.CW.C) (CE := T.CE.C) rfl) ⟨fun _ _ _ q _ => q.elim, fun x v H2 q h => ?_, fun _ _ _ q _ => q.elim, fun _ _ _ q _ => q.elim⟩
    subst q
    obtain ⟨_, _, h3⟩ := h
    cases h3
    exact kk H2
end
end DL
set_option Elab.async false
set_option linter.all false
set_option maxRecDepth 100000
set_option maxHeartbeats 0
/-! HEnd: what the top wrote, as Tx. -/
namespace DL
open PySem PySem.Spec PyProof.Rows L2
theorem defAt_of {K : PySem.W.Frag} {mg : Str → Option Value} {fa : List He.Fa} {fn : List He.FnD} {x qual : Str} {st : Stmt} {ps : List Str} (c : He.SaysE fa fn K) (i : Nat) (at_ : Str × Option Str) (h : fn[i]? = some ⟨at_, x, qual, defArgs st, defBody st, defScope st⟩) (kp : PySem.W.keepIn K (.ref (He.fAd K at_)) = true)
    (hb : ∀ (kV doc pm : Value) (an : Option Addr) (cdv ct : Value) (us : List Value), us.length = ps.length → bindArgs (PySem.W.fnOf x qual (defArgs st) (defBody st) (defScope st) .none kV doc pm an cdv ct) ⟨us, []⟩ = pure (ps.zip us)) : ∃ D : DefAt K mg x qual st ps, D.f = He.fAd K at_ := by
  obtain ⟨oc, od, osl, kV, doc, pm, an, cdv, ct, l, cd⟩ := c.def_ i h
  have F := fun_mk (x := x) (qual := qual) (st := st) l cd kp
  exact ⟨⟨_, _, F, F.binds hb⟩, rfl⟩
theorem defG_of {K : PySem.W.Frag} {mg : Str → Option Value} {fa : List He.Fa} {fn : List He.FnD} {x : Str} {st : Stmt} {ps : List Str} (c : He.SaysE fa fn K) (i : Nat) (h : fn[i]? = some ⟨(x, none), x, x, defArgs st, defBody st, defScope st⟩) (kp : PySem.W.keepIn K (.ref (He.ga K x)) = true) (g : mg x = some (.ref (He.ga K x)))
    (hb : ∀ (kV doc pm : Value) (an : Option Addr) (cdv ct : Value) (us : List Value), us.length = ps.length → bindArgs (PySem.W.fnOf x x (defArgs st) (defBody st) (defScope st) .none kV doc pm an cdv ct) ⟨us, []⟩ = pure (ps.zip us)) : Nonempty (DefG K mg x st ps) := by
  obtain ⟨D, e⟩ := defAt_of (mg := mg) c i (x, none) h kp hb
  exact ⟨⟨D, by rw [e]; exact g⟩⟩
theorem tupG_of {K : PySem.W.Frag} {mg : Str → Option Value} {x : Str} {ns : List Int} (g : mg x = some (.ref (He.ga K x))) (h : He.tupB K x (ns.map He.Dv.int) = true) : Nonempty (TupG K mg x ns) := by
  have t := He.tupB_ok h fun _ => none
  rw [List.map_map] at t
  rcases t with (t | ⟨_, t⟩) | t
  · cases t
  · cases t
  · exact ⟨⟨_, g, t⟩⟩
theorem tx_of {K : PySem.W.Frag} {mg : Str → Option Value} {h : Heap} (X : K.In h) (G : h.Ns mainGlobals mg) (cx : SaysX K) : Nonempty (Tx K mg) := by
  obtain ⟨c0, c1, c2, tu⟩ := cx
  obtain ⟨tz, to⟩ := He.ba tu
  obtain ⟨d_common⟩ := defG_of (K := K) (mg := mg) (x := "common") (st := s_common) (ps := ["one", "other"]) c0 0 rfl (He.keep_ok (c0.fact 1 rfl)) (He.glo_ok X G (c0.fact 0 rfl)) (fun _ _ _ _ _ _ us hl => match us, hl with | [_, _], _ => rfl)
  obtain ⟨d_made⟩ := defG_of (K := K) (mg := mg) (x := "made") (st := s_made) (ps := ["top", "bottom"]) c0 1 rfl (He.keep_ok (c0.fact 3 rfl)) (He.glo_ok X G (c0.fact 2 rfl)) (fun _ _ _ _ _ _ us hl => match us, hl with | [_, _], _ => rfl)
  obtain ⟨d_whole⟩ := defG_of (K := K) (mg := mg) (x := "whole") (st := s_whole) (ps := ["number"]) c0 2 rfl (He.keep_ok (c0.fact 5 rfl)) (He.glo_ok X G (c0.fact 4 rfl)) (fun _ _ _ _ _ _ us hl => match us, hl with | [_], _ => rfl)
  obtain ⟨d_plus⟩ := defG_of (K := K) (mg := mg) (x := "plus") (st := s_plus) (ps := ["one", "other"]) c0 3 rfl (He.keep_ok (c0.fact 7 rfl)) (He.glo_ok X G (c0.fact 6 rfl)) (fun _ _ _ _ _ _ us hl => match us, hl with | [_, _], _ => rfl)
  obtain ⟨d_minus⟩ := defG_of (K := K) (mg := mg) (x := "minus") (st := s_minus) (ps := ["one", "other"]) c0 4 rfl (He.keep_ok (c0.fact 9 rfl)) (He.glo_ok X G (c0.fact 8 rfl)) (fun _ _ _ _ _ _ us hl => match us, hl with | [_, _], _ => rfl)
  obtain ⟨d_times⟩ := defG_of (K := K) (mg := mg) (x := "times") (st := s_times) (ps := ["one", "other"]) c0 5 rfl (He.keep_ok (c0.fact 11 rfl)) (He.glo_ok X G (c0.fact 10 rfl)) (fun _ _ _ _ _ _ us hl => match us, hl with | [_, _], _ => rfl)
  obtain ⟨d_over⟩ := defG_of (K := K) (mg := mg) (x := "over") (st := s_over) (ps := ["one", "other"]) c0 6 rfl (He.keep_ok (c0.fact 13 rfl)) (He.glo_ok X G (c0.fact 12 rfl)) (fun _ _ _ _ _ _ us hl => match us, hl with | [_, _], _ => rfl)
  obtain ⟨d_is_less⟩ := defG_of (K := K) (mg := mg) (x := "is_less") (st := s_is_less) (ps := ["one", "other"]) c0 7 rfl (He.keep_ok (c0.fact 15 rfl)) (He.glo_ok X G (c0.fact 14 rfl)) (fun _ _ _ _ _ _ us hl => match us, hl with | [_, _], _ => rfl)
  obtain ⟨d_total⟩ := defG_of (K := K) (mg := mg) (x := "total") (st := s_total) (ps := ["fractions"]) c0 8 rfl (He.keep_ok (c0.fact 17 rfl)) (He.glo_ok X G (c0.fact 16 rfl)) (fun _ _ _ _ _ _ us hl => match us, hl with | [_], _ => rfl)
  obtain ⟨d_is_fraction⟩ := defG_of (K := K) (mg := mg) (x := "is_fraction") (st := s_is_fraction) (ps := ["thing"]) c0 9 rfl (He.keep_ok (c0.fact 19 rfl)) (He.glo_ok X G (c0.fact 18 rfl)) (fun _ _ _ _ _ _ us hl => match us, hl with | [_], _ => rfl)
  obtain ⟨d_is_number⟩ := defG_of (K := K) (mg := mg) (x := "is_number") (st := s_is_number) (ps := ["thing"]) c0 10 rfl (He.keep_ok (c0.fact 21 rfl)) (He.glo_ok X G (c0.fact 20 rfl)) (fun _ _ _ _ _ _ us hl => match us, hl with | [_], _ => rfl)
  obtain ⟨d_is_within⟩ := defG_of (K := K) (mg := mg) (x := "is_within") (st := s_is_within) (ps := ["thing", "least", "most"]) c0 11 rfl (He.keep_ok (c0.fact 23 rfl)) (He.glo_ok X G (c0.fact 22 rfl)) (fun _ _ _ _ _ _ us hl => match us, hl with | [_, _, _], _ => rfl)
  obtain ⟨d_is_pair⟩ := defG_of (K := K) (mg := mg) (x := "is_pair") (st := s_is_pair) (ps := ["thing"]) c0 12 rfl (He.keep_ok (c0.fact 25 rfl)) (He.glo_ok X G (c0.fact 24 rfl)) (fun _ _ _ _ _ _ us hl => match us, hl with | [_], _ => rfl)
  obtain ⟨d_is_triple⟩ := defG_of (K := K) (mg := mg) (x := "is_triple") (st := s_is_triple) (ps := ["thing"]) c0 13 rfl (He.keep_ok (c0.fact 27 rfl)) (He.glo_ok X G (c0.fact 26 rfl)) (fun _ _ _ _ _ _ us hl => match us, hl with | [_], _ => rfl)
  obtain ⟨d_is_rising⟩ := defG_of (K := K) (mg := mg) (x := "is_rising") (st := s_is_rising) (ps := ["items"]) c0 14 rfl (He.keep_ok (c0.fact 29 rfl)) (He.glo_ok X G (c0.fact 28 rfl)) (fun _ _ _ _ _ _ us hl => match us, hl with | [_], _ => rfl)
  obtain ⟨d_is_house⟩ := defG_of (K := K) (mg := mg) (x := "is_house") (st := s_is_house) (ps := ["web", "thing"]) c0 15 rfl (He.keep_ok (c0.fact 31 rfl)) (He.glo_ok X G (c0.fact 30 rfl)) (fun _ _ _ _ _ _ us hl => match us, hl with | [_, _], _ => rfl)
  obtain ⟨d_is_step⟩ := defG_of (K := K) (mg := mg) (x := "is_step") (st := s_is_step) (ps := ["web", "thing"]) c0 16 rfl (He.keep_ok (c0.fact 33 rfl)) (He.glo_ok X G (c0.fact 32 rfl)) (fun _ _ _ _ _ _ us hl => match us, hl with | [_, _], _ => rfl)
  obtain ⟨d_is_load⟩ := defG_of (K := K) (mg := mg) (x := "is_load") (st := s_is_load) (ps := ["web", "thing"]) c0 17 rfl (He.keep_ok (c0.fact 35 rfl)) (He.glo_ok X G (c0.fact 34 rfl)) (fun _ _ _ _ _ _ us hl => match us, hl with | [_, _], _ => rfl)
  obtain ⟨d_check_load⟩ := defG_of (K := K) (mg := mg) (x := "check_load") (st := s_check_load) (ps := ["web", "thing"]) c0 18 rfl (He.keep_ok (c0.fact 37 rfl)) (He.glo_ok X G (c0.fact 36 rfl)) (fun _ _ _ _ _ _ us hl => match us, hl with | [_, _], _ => rfl)
  obtain ⟨d_is_price⟩ := defG_of (K := K) (mg := mg) (x := "is_price") (st := s_is_price) (ps := ["thing"]) c0 19 rfl (He.keep_ok (c0.fact 39 rfl)) (He.glo_ok X G (c0.fact 38 rfl)) (fun _ _ _ _ _ _ us hl => match us, hl with | [_], _ => rfl)
  obtain ⟨d_check_prices⟩ := defG_of (K := K) (mg := mg) (x := "check_prices") (st := s_check_prices) (ps := ["web", "thing"]) c0 20 rfl (He.keep_ok (c0.fact 41 rfl)) (He.glo_ok X G (c0.fact 40 rfl)) (fun _ _ _ _ _ _ us hl => match us, hl with | [_, _], _ => rfl)
  obtain ⟨d_with_times⟩ := defG_of (K := K) (mg := mg) (x := "with_times") (st := s_with_times) (ps := ["one", "other", "factor"]) c0 21 rfl (He.keep_ok (c0.fact 43 rfl)) (He.glo_ok X G (c0.fact 42 rfl)) (fun _ _ _ _ _ _ us hl => match us, hl with | [_, _, _], _ => rfl)
  obtain ⟨d_without_noughts⟩ := defG_of (K := K) (mg := mg) (x := "without_noughts") (st := s_without_noughts) (ps := ["row"]) c0 22 rfl (He.keep_ok (c0.fact 45 rfl)) (He.glo_ok X G (c0.fact 44 rfl)) (fun _ _ _ _ _ _ us hl => match us, hl with | [_], _ => rfl)
  have k_Equation_init := (He.meth_ok (c1.fact 47 rfl)).kp
  obtain ⟨d_Equation_init, e_Equation_init⟩ := defAt_of (K := K) (mg := mg) (x := "__init__") (qual := "Equation.__init__") (st := s_Equation_init) (ps := ["self", "row", "right", "mix"]) c0 23 ("Equation", some "__init__") rfl k_Equation_init (fun _ _ _ _ _ _ us hl => match us, hl with | [_, _, _, _], _ => rfl)
  have k_Equation_less := (He.meth_ok (c1.fact 48 rfl)).kp
  obtain ⟨d_Equation_less, e_Equation_less⟩ := defAt_of (K := K) (mg := mg) (x := "less") (qual := "Equation.less") (st := s_Equation_less) (ps := ["self", "other", "factor"]) c1 0 ("Equation", some "less") rfl k_Equation_less (fun _ _ _ _ _ _ us hl => match us, hl with | [_, _, _], _ => rfl)
  obtain ⟨d_solved⟩ := defG_of (K := K) (mg := mg) (x := "solved") (st := s_solved) (ps := ["rows", "rights"]) c1 1 rfl (He.keep_ok (c1.fact 1 rfl)) (He.glo_ok X G (c1.fact 0 rfl)) (fun _ _ _ _ _ _ us hl => match us, hl with | [_, _], _ => rfl)
  obtain ⟨d_values_of⟩ := defG_of (K := K) (mg := mg) (x := "values_of") (st := s_values_of) (ps := ["heads"]) c1 2 rfl (He.keep_ok (c1.fact 3 rfl)) (He.glo_ok X G (c1.fact 2 rfl)) (fun _ _ _ _ _ _ us hl => match us, hl with | [_], _ => rfl)
  obtain ⟨d_is_standing⟩ := defG_of (K := K) (mg := mg) (x := "is_standing") (st := s_is_standing) (ps := ["thing", "cups", "houses", "standings"]) c1 3 rfl (He.keep_ok (c1.fact 5 rfl)) (He.glo_ok X G (c1.fact 4 rfl)) (fun _ _ _ _ _ _ us hl => match us, hl with | [_, _, _, _], _ => rfl)
  obtain ⟨d_is_dealer⟩ := defG_of (K := K) (mg := mg) (x := "is_dealer") (st := s_is_dealer) (ps := ["thing", "cups", "houses"]) c1 4 rfl (He.keep_ok (c1.fact 7 rfl)) (He.glo_ok X G (c1.fact 6 rfl)) (fun _ _ _ _ _ _ us hl => match us, hl with | [_, _, _], _ => rfl)
  obtain ⟨d_met_from⟩ := defG_of (K := K) (mg := mg) (x := "met_from") (st := s_met_from) (ps := ["begin", "goals"]) c1 5 rfl (He.keep_ok (c1.fact 9 rfl)) (He.glo_ok X G (c1.fact 8 rfl)) (fun _ _ _ _ _ _ us hl => match us, hl with | [_, _], _ => rfl)
  obtain ⟨d_is_joined⟩ := defG_of (K := K) (mg := mg) (x := "is_joined") (st := s_is_joined) (ps := ["dealer"]) c1 6 rfl (He.keep_ok (c1.fact 11 rfl)) (He.glo_ok X G (c1.fact 10 rfl)) (fun _ _ _ _ _ _ us hl => match us, hl with | [_], _ => rfl)
  obtain ⟨d_doors_of⟩ := defG_of (K := K) (mg := mg) (x := "doors_of") (st := s_doors_of) (ps := ["dealers"]) c1 7 rfl (He.keep_ok (c1.fact 13 rfl)) (He.glo_ok X G (c1.fact 12 rfl)) (fun _ _ _ _ _ _ us hl => match us, hl with | [_], _ => rfl)
  obtain ⟨d_check_web⟩ := defG_of (K := K) (mg := mg) (x := "check_web") (st := s_check_web) (ps := ["cups", "dealers"]) c1 8 rfl (He.keep_ok (c1.fact 15 rfl)) (He.glo_ok X G (c1.fact 14 rfl)) (fun _ _ _ _ _ _ us hl => match us, hl with | [_, _], _ => rfl)
  have k_Web_init := (He.meth_ok (c0.fact 49 rfl)).kp
  obtain ⟨d_Web_init, e_Web_init⟩ := defAt_of (K := K) (mg := mg) (x := "__init__") (qual := "Web.__init__") (st := s_Web_init) (ps := ["self", "cups", "dealers"]) c1 9 ("Web", some "__init__") rfl k_Web_init (fun _ _ _ _ _ _ us hl => match us, hl with | [_, _, _], _ => rfl)
  obtain ⟨d_all_steps⟩ := defG_of (K := K) (mg := mg) (x := "all_steps") (st := s_all_steps) (ps := ["web"]) c1 10 rfl (He.keep_ok (c1.fact 17 rfl)) (He.glo_ok X G (c1.fact 16 rfl)) (fun _ _ _ _ _ _ us hl => match us, hl with | [_], _ => rfl)
  obtain ⟨d_door_at⟩ := defG_of (K := K) (mg := mg) (x := "door_at") (st := s_door_at) (ps := ["web", "step"]) c1 11 rfl (He.keep_ok (c1.fact 19 rfl)) (He.glo_ok X G (c1.fact 18 rfl)) (fun _ _ _ _ _ _ us hl => match us, hl with | [_, _], _ => rfl)
  obtain ⟨d_next_at⟩ := defG_of (K := K) (mg := mg) (x := "next_at") (st := s_next_at) (ps := ["web", "step"]) c1 12 rfl (He.keep_ok (c1.fact 21 rfl)) (He.glo_ok X G (c1.fact 20 rfl)) (fun _ _ _ _ _ _ us hl => match us, hl with | [_, _], _ => rfl)
  obtain ⟨d_price_of⟩ := defG_of (K := K) (mg := mg) (x := "price_of") (st := s_price_of) (ps := ["prices", "step"]) c1 13 rfl (He.keep_ok (c1.fact 23 rfl)) (He.glo_ok X G (c1.fact 22 rfl)) (fun _ _ _ _ _ _ us hl => match us, hl with | [_, _], _ => rfl)
  obtain ⟨d_worth_name⟩ := defG_of (K := K) (mg := mg) (x := "worth_name") (st := s_worth_name) (ps := ["door"]) c1 14 rfl (He.keep_ok (c1.fact 25 rfl)) (He.glo_ok X G (c1.fact 24 rfl)) (fun _ _ _ _ _ _ us hl => match us, hl with | [_], _ => rfl)
  obtain ⟨d_equation_of⟩ := defG_of (K := K) (mg := mg) (x := "equation_of") (st := s_equation_of) (ps := ["web", "step"]) c1 15 rfl (He.keep_ok (c1.fact 27 rfl)) (He.glo_ok X G (c1.fact 26 rfl)) (fun _ _ _ _ _ _ us hl => match us, hl with | [_, _], _ => rfl)
  obtain ⟨d_looked_for⟩ := defG_of (K := K) (mg := mg) (x := "looked_for") (st := s_looked_for) (ps := ["web", "prices"]) c1 16 rfl (He.keep_ok (c1.fact 29 rfl)) (He.glo_ok X G (c1.fact 28 rfl)) (fun _ _ _ _ _ _ us hl => match us, hl with | [_, _], _ => rfl)
  obtain ⟨d_table_of⟩ := defG_of (K := K) (mg := mg) (x := "table_of") (st := s_table_of) (ps := ["web", "prices"]) c1 17 rfl (He.keep_ok (c1.fact 31 rfl)) (He.glo_ok X G (c1.fact 30 rfl)) (fun _ _ _ _ _ _ us hl => match us, hl with | [_, _], _ => rfl)
  obtain ⟨d_needed_table⟩ := defG_of (K := K) (mg := mg) (x := "needed_table") (st := s_needed_table) (ps := ["web", "prices"]) c1 18 rfl (He.keep_ok (c1.fact 33 rfl)) (He.glo_ok X G (c1.fact 32 rfl)) (fun _ _ _ _ _ _ us hl => match us, hl with | [_, _], _ => rfl)
  obtain ⟨d_told_worth⟩ := defG_of (K := K) (mg := mg) (x := "told_worth") (st := s_told_worth) (ps := ["worths", "load"]) c1 19 rfl (He.keep_ok (c1.fact 35 rfl)) (He.glo_ok X G (c1.fact 34 rfl)) (fun _ _ _ _ _ _ us hl => match us, hl with | [_, _], _ => rfl)
  obtain ⟨d_told_leads⟩ := defG_of (K := K) (mg := mg) (x := "told_leads") (st := s_told_leads) (ps := ["leads", "ends"]) c1 20 rfl (He.keep_ok (c1.fact 37 rfl)) (He.glo_ok X G (c1.fact 36 rfl)) (fun _ _ _ _ _ _ us hl => match us, hl with | [_, _], _ => rfl)
  obtain ⟨d_behind⟩ := defG_of (K := K) (mg := mg) (x := "behind") (st := s_behind) (ps := ["web", "triple", "house", "number"]) c1 21 rfl (He.keep_ok (c1.fact 39 rfl)) (He.glo_ok X G (c1.fact 38 rfl)) (fun _ _ _ _ _ _ us hl => match us, hl with | [_, _, _, _], _ => rfl)
  obtain ⟨d_moves_at⟩ := defG_of (K := K) (mg := mg) (x := "moves_at") (st := s_moves_at) (ps := ["web", "triple"]) c1 22 rfl (He.keep_ok (c1.fact 41 rfl)) (He.glo_ok X G (c1.fact 40 rfl)) (fun _ _ _ _ _ _ us hl => match us, hl with | [_, _], _ => rfl)
  obtain ⟨d_all_triples⟩ := defG_of (K := K) (mg := mg) (x := "all_triples") (st := s_all_triples) (ps := ["web", "load"]) c1 23 rfl (He.keep_ok (c1.fact 43 rfl)) (He.glo_ok X G (c1.fact 42 rfl)) (fun _ _ _ _ _ _ us hl => match us, hl with | [_, _], _ => rfl)
  obtain ⟨d_is_over⟩ := defG_of (K := K) (mg := mg) (x := "is_over") (st := s_is_over) (ps := ["triple"]) c2 0 rfl (He.keep_ok (c2.fact 1 rfl)) (He.glo_ok X G (c2.fact 0 rfl)) (fun _ _ _ _ _ _ us hl => match us, hl with | [_], _ => rfl)
  obtain ⟨d_ends_in⟩ := defG_of (K := K) (mg := mg) (x := "ends_in") (st := s_ends_in) (ps := ["triples"]) c2 1 rfl (He.keep_ok (c2.fact 3 rfl)) (He.glo_ok X G (c2.fact 2 rfl)) (fun _ _ _ _ _ _ us hl => match us, hl with | [_], _ => rfl)
  obtain ⟨d_most_of⟩ := defG_of (K := K) (mg := mg) (x := "most_of") (st := s_most_of) (ps := ["web", "prices", "load"]) c2 2 rfl (He.keep_ok (c2.fact 5 rfl)) (He.glo_ok X G (c2.fact 4 rfl)) (fun _ _ _ _ _ _ us hl => match us, hl with | [_, _, _], _ => rfl)
  obtain ⟨d_law_dice⟩ := defG_of (K := K) (mg := mg) (x := "_law_dice") (st := s_law_dice) (ps := ["_law_script"]) c2 3 rfl (He.keep_ok (c2.fact 7 rfl)) (He.glo_ok X G (c2.fact 6 rfl)) (fun _ _ _ _ _ _ us hl => match us, hl with | [_], _ => rfl)
  obtain ⟨d_law_draw⟩ := defG_of (K := K) (mg := mg) (x := "_law_draw") (st := s_law_draw) (ps := ["_law_dice_here", "_law_sides"]) c2 4 rfl (He.keep_ok (c2.fact 9 rfl)) (He.glo_ok X G (c2.fact 8 rfl)) (fun _ _ _ _ _ _ us hl => match us, hl with | [_, _], _ => rfl)
  obtain ⟨d_law_doors⟩ := defG_of (K := K) (mg := mg) (x := "_law_doors") (st := s_law_doors) (ps := ["_law_dice_here", "_law_houses", "_law_cups", "_law_lead"]) c2 5 rfl (He.keep_ok (c2.fact 11 rfl)) (He.glo_ok X G (c2.fact 10 rfl)) (fun _ _ _ _ _ _ us hl => match us, hl with | [_, _, _, _], _ => rfl)
  obtain ⟨d_law_dealer⟩ := defG_of (K := K) (mg := mg) (x := "_law_dealer") (st := s_law_dealer) (ps := ["_law_dice_here", "_law_houses", "_law_cups", "_law_lead", "_law_most"]) c2 6 rfl (He.keep_ok (c2.fact 13 rfl)) (He.glo_ok X G (c2.fact 12 rfl)) (fun _ _ _ _ _ _ us hl => match us, hl with | [_, _, _, _, _], _ => rfl)
  obtain ⟨d_law_web⟩ := defG_of (K := K) (mg := mg) (x := "_law_web") (st := s_law_web) (ps := ["_law_dice_here", "_law_least", "_law_most", "_law_standings"]) c2 7 rfl (He.keep_ok (c2.fact 15 rfl)) (He.glo_ok X G (c2.fact 14 rfl)) (fun _ _ _ _ _ _ us hl => match us, hl with | [_, _, _, _], _ => rfl)
  obtain ⟨d_law_steps⟩ := defG_of (K := K) (mg := mg) (x := "_law_steps") (st := s_law_steps) (ps := ["_law_dealers"]) c2 8 rfl (He.keep_ok (c2.fact 17 rfl)) (He.glo_ok X G (c2.fact 16 rfl)) (fun _ _ _ _ _ _ us hl => match us, hl with | [_], _ => rfl)
  obtain ⟨d_law_door⟩ := defG_of (K := K) (mg := mg) (x := "_law_door") (st := s_law_door) (ps := ["_law_dealers", "_law_step"]) c2 9 rfl (He.keep_ok (c2.fact 19 rfl)) (He.glo_ok X G (c2.fact 18 rfl)) (fun _ _ _ _ _ _ us hl => match us, hl with | [_, _], _ => rfl)
  obtain ⟨d_law_next⟩ := defG_of (K := K) (mg := mg) (x := "_law_next") (st := s_law_next) (ps := ["_law_dealers", "_law_step"]) c2 10 rfl (He.keep_ok (c2.fact 21 rfl)) (He.glo_ok X G (c2.fact 20 rfl)) (fun _ _ _ _ _ _ us hl => match us, hl with | [_, _], _ => rfl)
  obtain ⟨d_law_fraction⟩ := defG_of (K := K) (mg := mg) (x := "_law_fraction") (st := s_law_fraction) (ps := ["_law_top", "_law_bottom"]) c2 11 rfl (He.keep_ok (c2.fact 23 rfl)) (He.glo_ok X G (c2.fact 22 rfl)) (fun _ _ _ _ _ _ us hl => match us, hl with | [_, _], _ => rfl)
  obtain ⟨d_law_sum⟩ := defG_of (K := K) (mg := mg) (x := "_law_sum") (st := s_law_sum) (ps := ["_law_one", "_law_other", "_law_sign"]) c2 12 rfl (He.keep_ok (c2.fact 25 rfl)) (He.glo_ok X G (c2.fact 24 rfl)) (fun _ _ _ _ _ _ us hl => match us, hl with | [_, _, _], _ => rfl)
  obtain ⟨d_law_planted⟩ := defG_of (K := K) (mg := mg) (x := "_law_planted") (st := s_law_planted) (ps := ["_law_dice_here", "_law_dealers"]) c2 13 rfl (He.keep_ok (c2.fact 27 rfl)) (He.glo_ok X G (c2.fact 26 rfl)) (fun _ _ _ _ _ _ us hl => match us, hl with | [_, _], _ => rfl)
  obtain ⟨d_law_less⟩ := defG_of (K := K) (mg := mg) (x := "_law_less") (st := s_law_less) (ps := ["_law_one", "_law_other"]) c2 14 rfl (He.keep_ok (c2.fact 29 rfl)) (He.glo_ok X G (c2.fact 28 rfl)) (fun _ _ _ _ _ _ us hl => match us, hl with | [_, _], _ => rfl)
  obtain ⟨d_law_load⟩ := defG_of (K := K) (mg := mg) (x := "_law_load") (st := s_law_load) (ps := ["_law_dice_here", "_law_dealers", "_law_most", "_law_least"]) c2 15 rfl (He.keep_ok (c2.fact 31 rfl)) (He.glo_ok X G (c2.fact 30 rfl)) (fun _ _ _ _ _ _ us hl => match us, hl with | [_, _, _, _], _ => rfl)
  obtain ⟨d_law_behind⟩ := defG_of (K := K) (mg := mg) (x := "_law_behind") (st := s_law_behind) (ps := ["_law_dealers", "_law_triple", "_law_house", "_law_number"]) c2 16 rfl (He.keep_ok (c2.fact 33 rfl)) (He.glo_ok X G (c2.fact 32 rfl)) (fun _ _ _ _ _ _ us hl => match us, hl with | [_, _, _, _], _ => rfl)
  obtain ⟨d_law_triples⟩ := defG_of (K := K) (mg := mg) (x := "_law_triples") (st := s_law_triples) (ps := ["_law_cups", "_law_dealers", "_law_load_here", "_law_prices", "_law_most"]) c2 17 rfl (He.keep_ok (c2.fact 35 rfl)) (He.glo_ok X G (c2.fact 34 rfl)) (fun _ _ _ _ _ _ us hl => match us, hl with | [_, _, _, _, _], _ => rfl)
  obtain ⟨d_law_bills⟩ := defG_of (K := K) (mg := mg) (x := "_law_bills") (st := s_law_bills) (ps := ["_law_triples_here"]) c2 18 rfl (He.keep_ok (c2.fact 37 rfl)) (He.glo_ok X G (c2.fact 36 rfl)) (fun _ _ _ _ _ _ us hl => match us, hl with | [_], _ => rfl)
  obtain ⟨d_law_greatest⟩ := defG_of (K := K) (mg := mg) (x := "_law_greatest") (st := s_law_greatest) (ps := ["_law_bills_here"]) c2 19 rfl (He.keep_ok (c2.fact 39 rfl)) (He.glo_ok X G (c2.fact 38 rfl)) (fun _ _ _ _ _ _ us hl => match us, hl with | [_], _ => rfl)
  obtain ⟨d_law_turned_about⟩ := defG_of (K := K) (mg := mg) (x := "_law_turned_about") (st := s_law_turned_about) (ps := ["_law_prices"]) c2 20 rfl (He.keep_ok (c2.fact 41 rfl)) (He.glo_ok X G (c2.fact 40 rfl)) (fun _ _ _ _ _ _ us hl => match us, hl with | [_], _ => rfl)
  obtain ⟨d_law⟩ := defG_of (K := K) (mg := mg) (x := "law") (st := s_law) (ps := ["_law_script"]) c2 21 rfl (He.keep_ok (c2.fact 43 rfl)) (He.glo_ok X G (c2.fact 42 rfl)) (fun _ _ _ _ _ _ us hl => match us, hl with | [_], _ => rfl)
  obtain ⟨d_ZERO⟩ := tupG_of (K := K) (mg := mg) (x := "ZERO") (ns := [0, 1]) (He.glo_ok X G (c2.fact 44 rfl)) tz
  obtain ⟨d_ONE⟩ := tupG_of (K := K) (mg := mg) (x := "ONE") (ns := [1, 1]) (He.glo_ok X G (c2.fact 45 rfl)) to
  exact ⟨{
    common := d_common,
    made := d_made,
    whole := d_whole,
    plus := d_plus,
    minus := d_minus,
    times := d_times,
    over := d_over,
    is_less := d_is_less,
    total := d_total,
    is_fraction := d_is_fraction,
    is_number := d_is_number,
    is_within := d_is_within,
    is_pair := d_is_pair,
    is_triple := d_is_triple,
    is_rising := d_is_rising,
    is_house := d_is_house,
    is_step := d_is_step,
    is_load := d_is_load,
    check_load := d_check_load,
    is_price := d_is_price,
    check_prices := d_check_prices,
    with_times := d_with_times,
    without_noughts := d_without_noughts,
    Equation_init := d_Equation_init,
    Equation_less := d_Equation_less,
    solved := d_solved,
    values_of := d_values_of,
    is_standing := d_is_standing,
    is_dealer := d_is_dealer,
    met_from := d_met_from,
    is_joined := d_is_joined,
    doors_of := d_doors_of,
    check_web := d_check_web,
    Web_init := d_Web_init,
    all_steps := d_all_steps,
    door_at := d_door_at,
    next_at := d_next_at,
    price_of := d_price_of,
    worth_name := d_worth_name,
    equation_of := d_equation_of,
    looked_for := d_looked_for,
    table_of := d_table_of,
    needed_table := d_needed_table,
    told_worth := d_told_worth,
    told_leads := d_told_leads,
    behind := d_behind,
    moves_at := d_moves_at,
    all_triples := d_all_triples,
    is_over := d_is_over,
    ends_in := d_ends_in,
    most_of := d_most_of,
    law_dice := d_law_dice,
    law_draw := d_law_draw,
    law_doors := d_law_doors,
    law_dealer := d_law_dealer,
    law_web := d_law_web,
    law_steps := d_law_steps,
    law_door := d_law_door,
    law_next := d_law_next,
    law_fraction := d_law_fraction,
    law_sum := d_law_sum,
    law_planted := d_law_planted,
    law_less := d_law_less,
    law_load := d_law_load,
    law_behind := d_law_behind,
    law_triples := d_law_triples,
    law_bills := d_law_bills,
    law_greatest := d_law_greatest,
    law_turned_about := d_law_turned_about,
    law := d_law,
    ZERO := d_ZERO,
    ONE := d_ONE,
    CW := ⟨He.ga K "Web", He.glo_ok X G (c0.fact 46 rfl), He.cls_ok (c0.fact 47 rfl), by rw [e_Web_init]; exact He.mkr_ok (c0.fact 48 rfl)⟩,
    CE := ⟨He.ga K "Equation", He.glo_ok X G (c1.fact 44 rfl), He.cls_ok (c1.fact 45 rfl), by rw [e_Equation_init]; exact He.mkr_ok (c1.fact 46 rfl)⟩,
    n_cups := He.noat_ok (c0.fact 50 rfl),
    n_dealers := He.noat_ok (c0.fact 51 rfl),
    n_row := He.noat_ok (c1.fact 49 rfl),
    n_right := He.noat_ok (c1.fact 50 rfl),
    n_mix := He.noat_ok (c1.fact 51 rfl),
    less := by rw [e_Equation_less]; exact He.meth_ok (c1.fact 48 rfl),
    MOST_TOP := He.int_ok X G (c2.fact 46 rfl),
    MOST_BOTTOM := He.int_ok X G (c2.fact 47 rfl),
    MOST_CUPS := He.int_ok X G (c2.fact 48 rfl),
    MOST_HOUSES := He.int_ok X G (c2.fact 49 rfl),
    MOST_STANDINGS := He.int_ok X G (c2.fact 50 rfl),
    MOST_STEPS := He.int_ok X G (c2.fact 51 rfl),
    MOST_TRIPLES := He.int_ok X G (c2.fact 52 rfl),
    len := He.free_ok X G (c2.fact 53 rfl),
    abs := He.free_ok X G (c2.fact 54 rfl),
    int := He.free_ok X G (c2.fact 55 rfl),
    all := He.free_ok X G (c2.fact 56 rfl),
    min := He.free_ok X G (c2.fact 57 rfl),
    sum := He.free_ok X G (c2.fact 58 rfl),
    tuple := He.free_ok X G (c2.fact 59 rfl),
    list := He.free_ok X G (c2.fact 60 rfl),
    dict := He.free_ok X G (c2.fact 61 rfl),
    isinstance := He.free_ok X G (c2.fact 62 rfl),
    sorted := He.free_ok X G (c2.fact 63 rfl),
    range := He.free_ok X G (c2.fact 64 rfl),
    enumerate := He.free_ok X G (c2.fact 65 rfl),
    zip := He.free_ok X G (c2.fact 66 rfl),
    reversed := He.free_ok X G (c2.fact 67 rfl),
    bool := He.free_ok X G (c2.fact 68 rfl) }⟩
end DL
set_option Elab.async false
open PySem PySem.W PySem.Calls PyProof.Rows
set_option maxRecDepth 100000 in
set_option maxHeartbeats 0 in
theorem PySem.Challenge.cw_lastdoors_k53_whole_greatest_bills_of_sm_holds : PySem.Challenge.rw_lastdoors_k53_whole_greatest_bills_of_sm.Holds := by
  w_on; o_law
  refine HandSHeadRun.head_any (r := DL.hR) (q := DL.hq) (H := DL.hk) (ob := DL.hob) (M := 6000) (loose := DL.hnames) (d := HandSHeadRun.topDef DL.hR.prog 91) (kwd := []) DL.hob_eq (by kernel_rfl) (fun s => by kernel_rfl) DL.hrun (by kernel_rfl) (by kernel_rfl) (by kernel_rfl) (by rfl) (by first | assumption | decide +kernel) (by decide +kernel) ⟨rfl, rfl, rfl, rfl, rfl, by decide +kernel⟩ ?hw ?hc
  case hw => w_witness2
  case hc =>
    refine L2.walk_ofE (l := PySem.Challenge.rw_lastdoors_k53_whole_greatest_bills_of_sm) (n := 63) (k := 11) (x := "_law_script") (CX := L2.CX0) rfl (by decide) (by kernel_rfl) ⟨rfl, by decide, by decide⟩ ?F (fun _ _ _ _ z => z)
    intro w mg fa h Y G hmg0
    obtain ⟨K, KX, c⟩ := Y
    have hmg : mg ("law" : PySem.Str) = some (.ref fa) := by
      have e : (HandSHeadRun.topDef DL.hR.prog 91).name = ("law" : PySem.Str) := by kernel_rfl
      rw [← e]
      exact hmg0
    obtain ⟨T⟩ := DL.tx_of KX G c
    have e := hmg.symm.trans T.law.g
    injection e with e
    injection e with e
    subst e
    refine ⟨K, T.law.fd, DL.spLaw K, KX, ?hb, fun H a ns hl _ hS => ⟨a, ns, rfl, hS, hl, fun _ => rfl⟩, fun base _ _ => DL.ok_law T⟩
    intro s u
    obtain ⟨oc, od, kV, doc, pm, an, cdv, ct, osl, efd, _⟩ := T.law.F.ex
    rw [efd]
    exact .of_eq rfl
