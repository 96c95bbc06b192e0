import PyProof.Rows.All
import Wide.All
import OpenK.AllK
import Wide.FinOn
import KE.KStateDown
import Lean
import HandS.ForMost
import HandS.ForExc
import HandS.More
import HandS.Conv
import HandS.Defaults
import HandS.Lambda
import HandS.EndTab
import HandS.HeadWalk
import HandS.Head0
import HandS.Head1
import HandS.Head2
import HandS.HeadHook1
import HandS.HeadHook2
import HandS.HeadHook3
import HandS.HeadHook4
import PySem.Challenge.RW_fanglue_k48_whole_meets_folded
import KE.KeyNested
import KE.KDictKeyed
import HandS.Walk
import HandS.Wide
import HandS.Deep
import HandS.SetKeys
import HandS.Text
import PyProof.StrOps2
import PyProof.ListStr
import HandS.WrittenGet
import PyProof.Rows.TupDisplay
import KE.GoesEnum
import HandS.Iter
set_option Elab.async false
set_option linter.all false
set_option maxRecDepth 100000
set_option maxHeartbeats 0
namespace Fg
open PySem PySem.Spec PyProof.Rows L2
def top (i : Nat) : Stmt := PySem.Challenge.pw_fanglue_k48_whole_meets_folded.main.body.getD i (.Pass ⟨0, 0, 0, 0⟩)
abbrev s_common_part : Stmt := top 8
abbrev s_fraction : Stmt := top 9
abbrev s_first_gaps : Stmt := top 15
abbrev s_between : Stmt := top 16
abbrev s_opened : Stmt := top 17
abbrev s_gap_to_open : Stmt := top 18
abbrev s_all_gaps : Stmt := top 19
abbrev s_mark_of : Stmt := top 20
abbrev s_put_behind : Stmt := top 26
abbrev s_shortened : Stmt := top 27
abbrev s_steps_word : Stmt := top 28
abbrev s_steps_of : Stmt := top 29
abbrev s_word_of : Stmt := top 30
abbrev s_goes_back : Stmt := top 33
abbrev s_met_from : Stmt := top 34
abbrev s_told_anew : Stmt := top 35
abbrev s_numbered : Stmt := top 36
abbrev s_led_by : Stmt := top 37
abbrev s_led_on : Stmt := top 38
abbrev s_place_of : Stmt := top 39
abbrev s_fan_of : Stmt := top 40
abbrev s_led_pairs : Stmt := top 42
abbrev s_met_states : Stmt := top 43
abbrev s_meet : Stmt := top 44
abbrev s_is_within : Stmt := top 45
abbrev s_turned : Stmt := top 46
abbrev s_Fold___init__ : Stmt := inClass (top 49) 0
abbrev s_head_of : Stmt := top 50
abbrev s_new_place : Stmt := top 51
abbrev s_half_behind : Stmt := top 52
abbrev s_third_behind : Stmt := top 53
abbrev s_walked : Stmt := top 54
abbrev s_both_behind : Stmt := top 55
abbrev s_put_together : Stmt := top 56
abbrev s_heads_alone : Stmt := top 57
abbrev s_without : Stmt := top 58
abbrev s_is_bare : Stmt := top 59
abbrev s_pruned_once : Stmt := top 60
abbrev s_pruned : Stmt := top 61
abbrev s_folded : Stmt := top 62
abbrev s__law_cell_at : Stmt := top 64
abbrev s__law_big : Stmt := top 65
abbrev s__law_digit : Stmt := top 66
abbrev s__law_fractions : Stmt := top 67
abbrev s__law_marks : Stmt := top 68
abbrev s__law_fan : Stmt := top 69
abbrev s__law_tiles : Stmt := top 70
abbrev s__law_gaps : Stmt := top 71
abbrev s__law_links : Stmt := top 72
abbrev s__law_anew : Stmt := top 73
abbrev s__law_table : Stmt := top 74
abbrev s__law_times : Stmt := top 75
abbrev s__law_contrary : Stmt := top 76
abbrev s__law_turning : Stmt := top 77
abbrev s__law_between : Stmt := top 78
abbrev s__law_glue : Stmt := top 79
abbrev s__law_own : Stmt := top 80
abbrev s__law_drawn : Stmt := top 81
abbrev s__law_word : Stmt := top 82
abbrev s__law_told : Stmt := top 83
abbrev s__law_turnings : Stmt := top 84
abbrev s_law : Stmt := top 85
def d_common_part : He.DefD := ⟨("common_part", none), "common_part", "common_part", defArgs s_common_part, defBody s_common_part, defScope s_common_part, [], []⟩
def d_fraction : He.DefD := ⟨("fraction", none), "fraction", "fraction", defArgs s_fraction, defBody s_fraction, defScope s_fraction, [], []⟩
def d_first_gaps : He.DefD := ⟨("first_gaps", none), "first_gaps", "first_gaps", defArgs s_first_gaps, defBody s_first_gaps, defScope s_first_gaps, [], []⟩
def d_between : He.DefD := ⟨("between", none), "between", "between", defArgs s_between, defBody s_between, defScope s_between, [], []⟩
def d_opened : He.DefD := ⟨("opened", none), "opened", "opened", defArgs s_opened, defBody s_opened, defScope s_opened, [], []⟩
def d_gap_to_open : He.DefD := ⟨("gap_to_open", none), "gap_to_open", "gap_to_open", defArgs s_gap_to_open, defBody s_gap_to_open, defScope s_gap_to_open, [], []⟩
def d_all_gaps : He.DefD := ⟨("all_gaps", none), "all_gaps", "all_gaps", defArgs s_all_gaps, defBody s_all_gaps, defScope s_all_gaps, [], []⟩
def d_mark_of : He.DefD := ⟨("mark_of", none), "mark_of", "mark_of", defArgs s_mark_of, defBody s_mark_of, defScope s_mark_of, [], []⟩
def d_put_behind : He.DefD := ⟨("put_behind", none), "put_behind", "put_behind", defArgs s_put_behind, defBody s_put_behind, defScope s_put_behind, [], []⟩
def d_shortened : He.DefD := ⟨("shortened", none), "shortened", "shortened", defArgs s_shortened, defBody s_shortened, defScope s_shortened, [], []⟩
def d_steps_word : He.DefD := ⟨("steps_word", none), "steps_word", "steps_word", defArgs s_steps_word, defBody s_steps_word, defScope s_steps_word, [], []⟩
def d_steps_of : He.DefD := ⟨("steps_of", none), "steps_of", "steps_of", defArgs s_steps_of, defBody s_steps_of, defScope s_steps_of, [], []⟩
def d_word_of : He.DefD := ⟨("word_of", none), "word_of", "word_of", defArgs s_word_of, defBody s_word_of, defScope s_word_of, [], []⟩
def d_goes_back : He.DefD := ⟨("goes_back", none), "goes_back", "goes_back", defArgs s_goes_back, defBody s_goes_back, defScope s_goes_back, [], []⟩
def d_met_from : He.DefD := ⟨("met_from", none), "met_from", "met_from", defArgs s_met_from, defBody s_met_from, defScope s_met_from, [], []⟩
def d_told_anew : He.DefD := ⟨("told_anew", none), "told_anew", "told_anew", defArgs s_told_anew, defBody s_told_anew, defScope s_told_anew, [], []⟩
def d_numbered : He.DefD := ⟨("numbered", none), "numbered", "numbered", defArgs s_numbered, defBody s_numbered, defScope s_numbered, [], []⟩
def d_led_by : He.DefD := ⟨("led_by", none), "led_by", "led_by", defArgs s_led_by, defBody s_led_by, defScope s_led_by, [], []⟩
def d_led_on : He.DefD := ⟨("led_on", none), "led_on", "led_on", defArgs s_led_on, defBody s_led_on, defScope s_led_on, [], []⟩
def d_place_of : He.DefD := ⟨("place_of", none), "place_of", "place_of", defArgs s_place_of, defBody s_place_of, defScope s_place_of, [], []⟩
def d_fan_of : He.DefD := ⟨("fan_of", none), "fan_of", "fan_of", defArgs s_fan_of, defBody s_fan_of, defScope s_fan_of, [], []⟩
def d_led_pairs : He.DefD := ⟨("led_pairs", none), "led_pairs", "led_pairs", defArgs s_led_pairs, defBody s_led_pairs, defScope s_led_pairs, [], []⟩
def d_met_states : He.DefD := ⟨("met_states", none), "met_states", "met_states", defArgs s_met_states, defBody s_met_states, defScope s_met_states, [], []⟩
def d_meet : He.DefD := ⟨("meet", none), "meet", "meet", defArgs s_meet, defBody s_meet, defScope s_meet, [], []⟩
def d_is_within : He.DefD := ⟨("is_within", none), "is_within", "is_within", defArgs s_is_within, defBody s_is_within, defScope s_is_within, [], []⟩
def d_turned : He.DefD := ⟨("turned", none), "turned", "turned", defArgs s_turned, defBody s_turned, defScope s_turned, [], []⟩
def d_head_of : He.DefD := ⟨("head_of", none), "head_of", "head_of", defArgs s_head_of, defBody s_head_of, defScope s_head_of, [], []⟩
def d_new_place : He.DefD := ⟨("new_place", none), "new_place", "new_place", defArgs s_new_place, defBody s_new_place, defScope s_new_place, [], []⟩
def d_half_behind : He.DefD := ⟨("half_behind", none), "half_behind", "half_behind", defArgs s_half_behind, defBody s_half_behind, defScope s_half_behind, [], []⟩
def d_third_behind : He.DefD := ⟨("third_behind", none), "third_behind", "third_behind", defArgs s_third_behind, defBody s_third_behind, defScope s_third_behind, [], []⟩
def d_walked : He.DefD := ⟨("walked", none), "walked", "walked", defArgs s_walked, defBody s_walked, defScope s_walked, [], []⟩
def d_both_behind : He.DefD := ⟨("both_behind", none), "both_behind", "both_behind", defArgs s_both_behind, defBody s_both_behind, defScope s_both_behind, [], []⟩
def d_put_together : He.DefD := ⟨("put_together", none), "put_together", "put_together", defArgs s_put_together, defBody s_put_together, defScope s_put_together, [], []⟩
def d_heads_alone : He.DefD := ⟨("heads_alone", none), "heads_alone", "heads_alone", defArgs s_heads_alone, defBody s_heads_alone, defScope s_heads_alone, [], []⟩
def d_without : He.DefD := ⟨("without", none), "without", "without", defArgs s_without, defBody s_without, defScope s_without, [], []⟩
def d_is_bare : He.DefD := ⟨("is_bare", none), "is_bare", "is_bare", defArgs s_is_bare, defBody s_is_bare, defScope s_is_bare, [], []⟩
def d_pruned_once : He.DefD := ⟨("pruned_once", none), "pruned_once", "pruned_once", defArgs s_pruned_once, defBody s_pruned_once, defScope s_pruned_once, [], []⟩
def d_pruned : He.DefD := ⟨("pruned", none), "pruned", "pruned", defArgs s_pruned, defBody s_pruned, defScope s_pruned, [], []⟩
def d_folded : He.DefD := ⟨("folded", none), "folded", "folded", defArgs s_folded, defBody s_folded, defScope s_folded, [], []⟩
def d__law_cell_at : He.DefD := ⟨("_law_cell_at", none), "_law_cell_at", "_law_cell_at", defArgs s__law_cell_at, defBody s__law_cell_at, defScope s__law_cell_at, [], []⟩
def d__law_big : He.DefD := ⟨("_law_big", none), "_law_big", "_law_big", defArgs s__law_big, defBody s__law_big, defScope s__law_big, [], []⟩
def d__law_digit : He.DefD := ⟨("_law_digit", none), "_law_digit", "_law_digit", defArgs s__law_digit, defBody s__law_digit, defScope s__law_digit, [], []⟩
def d__law_fractions : He.DefD := ⟨("_law_fractions", none), "_law_fractions", "_law_fractions", defArgs s__law_fractions, defBody s__law_fractions, defScope s__law_fractions, [], []⟩
def d__law_marks : He.DefD := ⟨("_law_marks", none), "_law_marks", "_law_marks", defArgs s__law_marks, defBody s__law_marks, defScope s__law_marks, [], []⟩
def d__law_fan : He.DefD := ⟨("_law_fan", none), "_law_fan", "_law_fan", defArgs s__law_fan, defBody s__law_fan, defScope s__law_fan, [], []⟩
def d__law_tiles : He.DefD := ⟨("_law_tiles", none), "_law_tiles", "_law_tiles", defArgs s__law_tiles, defBody s__law_tiles, defScope s__law_tiles, [], []⟩
def d__law_gaps : He.DefD := ⟨("_law_gaps", none), "_law_gaps", "_law_gaps", defArgs s__law_gaps, defBody s__law_gaps, defScope s__law_gaps, [], []⟩
def d__law_links : He.DefD := ⟨("_law_links", none), "_law_links", "_law_links", defArgs s__law_links, defBody s__law_links, defScope s__law_links, [], []⟩
def d__law_anew : He.DefD := ⟨("_law_anew", none), "_law_anew", "_law_anew", defArgs s__law_anew, defBody s__law_anew, defScope s__law_anew, [], []⟩
def d__law_table : He.DefD := ⟨("_law_table", none), "_law_table", "_law_table", defArgs s__law_table, defBody s__law_table, defScope s__law_table, [], []⟩
def d__law_times : He.DefD := ⟨("_law_times", none), "_law_times", "_law_times", defArgs s__law_times, defBody s__law_times, defScope s__law_times, [], []⟩
def d__law_contrary : He.DefD := ⟨("_law_contrary", none), "_law_contrary", "_law_contrary", defArgs s__law_contrary, defBody s__law_contrary, defScope s__law_contrary, [], []⟩
def d__law_turning : He.DefD := ⟨("_law_turning", none), "_law_turning", "_law_turning", defArgs s__law_turning, defBody s__law_turning, defScope s__law_turning, [], []⟩
def d__law_between : He.DefD := ⟨("_law_between", none), "_law_between", "_law_between", defArgs s__law_between, defBody s__law_between, defScope s__law_between, [], []⟩
def d__law_glue : He.DefD := ⟨("_law_glue", none), "_law_glue", "_law_glue", defArgs s__law_glue, defBody s__law_glue, defScope s__law_glue, [], []⟩
def d__law_own : He.DefD := ⟨("_law_own", none), "_law_own", "_law_own", defArgs s__law_own, defBody s__law_own, defScope s__law_own, [], []⟩
def d__law_drawn : He.DefD := ⟨("_law_drawn", none), "_law_drawn", "_law_drawn", defArgs s__law_drawn, defBody s__law_drawn, defScope s__law_drawn, [], []⟩
def d__law_word : He.DefD := ⟨("_law_word", none), "_law_word", "_law_word", defArgs s__law_word, defBody s__law_word, defScope s__law_word, [], []⟩
def d__law_told : He.DefD := ⟨("_law_told", none), "_law_told", "_law_told", defArgs s__law_told, defBody s__law_told, defScope s__law_told, [], []⟩
def d__law_turnings : He.DefD := ⟨("_law_turnings", none), "_law_turnings", "_law_turnings", defArgs s__law_turnings, defBody s__law_turnings, defScope s__law_turnings, [], []⟩
def d_law : He.DefD := ⟨("law", none), "law", "law", defArgs s_law, defBody s_law, defScope s_law, [], []⟩
def d_Fold_init : He.DefD := ⟨("Fold", some "__init__"), "__init__", "Fold.__init__", defArgs s_Fold___init__, defBody s_Fold___init__, defScope s_Fold___init__, [], []⟩
def fn : List He.DefD := [d_common_part, d_fraction, d_first_gaps, d_between, d_opened, d_gap_to_open, d_all_gaps, d_mark_of, d_put_behind, d_shortened, d_steps_word, d_steps_of, d_word_of, d_goes_back, d_met_from, d_told_anew, d_numbered, d_led_by, d_led_on, d_place_of, d_fan_of, d_led_pairs, d_met_states, d_meet, d_is_within, d_turned, d_head_of, d_new_place, d_half_behind, d_third_behind, d_walked, d_both_behind, d_put_together, d_heads_alone, d_without, d_is_bare, d_pruned_once, d_pruned, d_folded, d__law_cell_at, d__law_big, d__law_digit, d__law_fractions, d__law_marks, d__law_fan, d__law_tiles, d__law_gaps, d__law_links, d__law_anew, d__law_table, d__law_times, d__law_contrary, d__law_turning, d__law_between, d__law_glue, d__law_own, d__law_drawn, d__law_word, d__law_told, d__law_turnings, d_law, d_Fold_init]
def fa : List He.Fa := [.glo "common_part", .glo "fraction", .glo "first_gaps", .glo "between", .glo "opened", .glo "gap_to_open", .glo "all_gaps", .glo "mark_of", .glo "put_behind", .glo "shortened", .glo "steps_word", .glo "steps_of", .glo "word_of", .glo "goes_back", .glo "met_from", .glo "told_anew", .glo "numbered", .glo "led_by", .glo "led_on", .glo "place_of", .glo "fan_of", .glo "led_pairs", .glo "met_states", .glo "meet", .glo "is_within", .glo "turned", .glo "head_of", .glo "new_place", .glo "half_behind", .glo "third_behind", .glo "walked", .glo "both_behind", .glo "put_together", .glo "heads_alone", .glo "without", .glo "is_bare", .glo "pruned_once", .glo "pruned", .glo "folded", .glo "_law_cell_at", .glo "_law_big", .glo "_law_digit", .glo "_law_fractions", .glo "_law_marks", .glo "_law_fan", .glo "_law_tiles", .glo "_law_gaps", .glo "_law_links", .glo "_law_anew", .glo "_law_table", .glo "_law_times", .glo "_law_contrary", .glo "_law_turning", .glo "_law_between", .glo "_law_glue", .glo "_law_own", .glo "_law_drawn", .glo "_law_word", .glo "_law_told", .glo "_law_turnings", .glo "law", .free "len", .free "abs", .free "max", .free "min", .free "range", .free "list", .free "tuple", .free "enumerate", .free "dict", .free "int", .free "any", .free "zip", .cls "Fold", .glo "Fold", .noat "Fold" "halves", .noat "Fold" "thirds", .noat "Fold" "heads", .mkr "Fold", .glo "TooMany", .keep "TooMany", .exm "TooMany" "TooMany" true, .int "MOST_LETTERS_words" 2000, .int "MOST_RAW" 12000, .int "MOST" 60, .int "MOST_LETTERS_folding" 200, .glo "ENDLESS", .glo "NOUGHT", .glo "ONE", .glo "LESS", .glo "TWO_FRACTIONS", .glo "POWERS", .glo "THIRDS"]
def tabs : List He.Tab := [((fun K => He.ga K "POWERS"), ["r", "q"])]
def tf : List He.Defn := [("meet", none)]
def ex (K : PySem.W.Frag) : Bool := He.tupB K "ENDLESS" [.int 1, .int 0] && (He.tupB K "NOUGHT" [.int 0, .int 1] && (He.tupB K "ONE" [.int 1, .int 1] && (He.tupB K "LESS" [.int (-1), .int 1] &&
  (He.tupB K "TWO_FRACTIONS" [.glo "ENDLESS", .glo "NOUGHT"] && (He.tupB K "THIRDS" [.str "", .str "r", .str "q"] && (He.valsB K (He.ga K "POWERS") [("r", .int 1), ("q", .int 2)] &&
  (PySem.W.excIn K (He.ga K "TooMany") (.ref (He.ga K "FanError") :: He.veBase) "ValueError.__new__" && (decide (PySem.W.subIn K (.ref (He.ga K "TooMany")) (.type "BaseException") = some true) && decide (PySem.W.typeIn K (.ref (He.ga K "TooMany")) = some (.type "type"))))))))))
def loose0 : List PySem.Str := ["__name__", "FanError", "NoFraction", "NoTable", "TooLong", "TooMany", "Fold", "common_part", "fraction", "first_gaps", "between", "opened", "gap_to_open", "all_gaps", "mark_of", "put_behind", "shortened", "steps_word", "steps_of", "word_of", "goes_back", "met_from", "told_anew", "numbered", "led_by", "led_on", "place_of", "fan_of", "led_pairs", "met_states"]
def loose1 : List PySem.Str := ["meet", "is_within", "turned", "head_of", "new_place", "half_behind", "third_behind", "walked", "both_behind", "put_together", "heads_alone", "without", "is_bare", "pruned_once", "pruned", "folded", "_law_cell_at", "_law_big", "_law_digit", "_law_fractions", "_law_marks", "_law_fan", "_law_tiles", "_law_gaps", "_law_links", "_law_anew", "_law_table", "_law_times", "_law_contrary", "_law_turning"]
def loose2 : List PySem.Str := ["_law_between", "_law_glue", "_law_own", "_law_drawn", "_law_word", "_law_told", "_law_turnings", "ENDLESS", "NOUGHT", "ONE", "LESS", "TWO_FRACTIONS", "MOST_LETTERS_words", "MOST_RAW", "POWERS", "THIRDS", "MOST", "MOST_LETTERS_folding"]
def loose : List PySem.Str := loose0 ++ loose1 ++ loose2
abbrev R : PySem.W.OpenRow := PySem.W.OpenLaw.row PySem.Challenge.rw_fanglue_k48_whole_meets_folded
abbrev hk : PySem.W.Hook := He.hookX 4 fa fn tabs tf ex
def ob (s : PySem.W.SharedT) : He.AlX := He.obsX 4 fa fn tabs tf ex (HandSHeadRun.getT s)
theorem ob_eq (s : PySem.W.SharedT) : ob s = hk.obs s.abs := He.obsX_eq (HandSHeadRun.getT_eq s)
abbrev lawI : Nat := 85
end Fg
namespace Fg
open PySem PySem.Spec PyProof.Rows L2
def ex2 (K : PySem.W.Frag) : Bool := He.tupB K "ENDLESS" [.int 1, .int 0] && (He.tupB K "NOUGHT" [.int 0, .int 1] && (He.tupB K "ONE" [.int 1, .int 1] && (He.tupB K "LESS" [.int (-1), .int 1] &&
  (He.tupB K "TWO_FRACTIONS" [.glo "ENDLESS", .glo "NOUGHT"] && (He.tupB K "THIRDS" [.str "", .str "r", .str "q"] && (He.valsB K (He.ga K "POWERS") [("r", .int 1), ("q", .int 2)] &&
  (PySem.W.excIn K (He.ga K "TooMany") He.veBase "ValueError.__new__" && (decide (PySem.W.subIn K (.ref (He.ga K "TooMany")) (.type "BaseException") = some true) && decide (PySem.W.typeIn K (.ref (He.ga K "TooMany")) = some (.type "type"))))))))))
abbrev hk2 : PySem.W.Hook := He.hookX 4 fa fn tabs tf ex2
def ob2 (s : PySem.W.SharedT) : He.AlX := He.obsX 4 fa fn tabs tf ex2 (HandSHeadRun.getT s)
theorem ob2_eq (s : PySem.W.SharedT) : ob2 s = hk2.obs s.abs := He.obsX_eq (HandSHeadRun.getT_eq s)
noncomputable abbrev ee (w : World) (os : OsState) := HandSHeadRun.endF (HandSHeadRun.stepQ (HandSHeadRun.denQ HandSHeadRun.tabQ) R.prog w) 6000 R.prog w os
def See1 (w : World) : Prop := ∀ os : OsState, ((ee w os).map fun s => (HandSHeadRun.looksF R.prog (PySem.W.boot_heap w.params) s.abs, HandSHeadRun.seenQ (PySem.W.view R.prog [lawI]) loose (importedModules R.prog.main.body) (fun s => PySem.W.xlAt (PySem.W.view R.prog [lawI]) [] s && PySem.W.recOk R.toRowW.records s) s.abs)) = some (true, PySem.W.openGood (PySem.W.view R.prog [lawI]) loose)
def See2 (w : World) : Prop := ∀ os : OsState, (ee w os).map ob2 = some (hk2.val w)
theorem see1 (w : World) : See1 w := by
  refine PySem.W.byRow2 "special-get-raises" (P := See1) ?_ ?_ w
  · intro w os
    kernel_rfl
  · intro w os
    kernel_rfl
theorem see2 (w : World) : See2 w := by
  refine PySem.W.byRow2 "special-get-raises" (P := See2) ?_ ?_ w
  · intro w os
    kernel_rfl
  · intro w os
    kernel_rfl
theorem map3 {α β γ δ : Type} {e : Option α} {f : α → β} {g : α → γ} {h : α → δ} {b : β} {c : γ} {d : δ} (h1 : (e.map fun s => (f s, g s)) = some (b, c)) (h2 : e.map h = some d) : (e.map fun s => (f s, g s, h s)) = some (b, c, d) := by
  cases e with
  | none => cases h1
  | some a =>
    have q1 : (f a, g a) = (b, c) := Option.some.inj h1
    have q2 : h a = d := Option.some.inj h2
    have q3 : f a = b := congrArg Prod.fst q1
    have q4 : g a = c := congrArg Prod.snd q1
    show some (f a, g a, h a) = some (b, c, d)
    rw [q2, q3, q4]
theorem runE (w : World) : HandSHeadRun.RunEq R (PySem.W.view R.prog [lawI]) hk2 ob2 6000 loose w := fun os => map3 (see1 w os) (see2 w os)
end Fg
/-! words of the half turn and the third turn, and their matrices -/
namespace Fg
inductive L where
  | s | r | q
  deriving DecidableEq
structure Mat where
  a : Int
  b : Int
  c : Int
  d : Int
  deriving DecidableEq
namespace Mat
def mul (x y : Mat) : Mat := ⟨x.a * y.a + x.b * y.c, x.a * y.b + x.b * y.d, x.c * y.a + x.d * y.c, x.c * y.b + x.d * y.d⟩
def one : Mat := ⟨1, 0, 0, 1⟩
def neg (x : Mat) : Mat := ⟨-x.a, -x.b, -x.c, -x.d⟩
def inv (x : Mat) : Mat := ⟨x.d, -x.b, -x.c, x.a⟩
def det (x : Mat) : Int := x.a * x.d - x.b * x.c
def norm (x : Mat) : Mat := if x.c < 0 ∨ (x.c = 0 ∧ x.d < 0) then x.neg else x
@[ext] theorem ext' {x y : Mat} (h1 : x.a = y.a) (h2 : x.b = y.b) (h3 : x.c = y.c) (h4 : x.d = y.d) : x = y := by
  cases x; cases y; simp_all
theorem mul_assoc (x y z : Mat) : (x.mul y).mul z = x.mul (y.mul z) := by
  apply ext' <;> simp only [mul] <;> grind
theorem one_mul (x : Mat) : one.mul x = x := by
  apply ext' <;> simp [mul, one]
theorem mul_one (x : Mat) : x.mul one = x := by
  apply ext' <;> simp [mul, one]
theorem neg_mul (x y : Mat) : x.neg.mul y = (x.mul y).neg := by
  apply ext' <;> simp only [mul, neg] <;> grind
theorem mul_neg (x y : Mat) : x.mul y.neg = (x.mul y).neg := by
  apply ext' <;> simp only [mul, neg] <;> grind
theorem neg_neg (x : Mat) : x.neg.neg = x := by
  apply ext' <;> simp [neg]
theorem det_mul (x y : Mat) : (x.mul y).det = x.det * y.det := by
  simp only [mul, det]; grind
theorem det_neg (x : Mat) : x.neg.det = x.det := by
  simp only [neg, det]; grind
theorem det_inv (x : Mat) : x.inv.det = x.det := by
  simp only [inv, det]; grind
theorem inv_mul (x : Mat) (h : x.det = 1) : x.inv.mul x = one := by
  simp only [det] at h
  apply ext' <;> simp only [mul, inv, one] <;> grind
theorem mul_inv (x : Mat) (h : x.det = 1) : x.mul x.inv = one := by
  simp only [det] at h
  apply ext' <;> simp only [mul, inv, one] <;> grind
theorem inv_mul_rev (x y : Mat) : (x.mul y).inv = y.inv.mul x.inv := by
  apply ext' <;> simp only [mul, inv] <;> grind
theorem inv_neg (x : Mat) : x.neg.inv = x.inv.neg := by
  apply ext' <;> simp [inv, neg]
theorem inv_inv (x : Mat) : x.inv.inv = x := by
  apply ext' <;> simp [inv]
end Mat
open Mat
/-- one turning: the same, or with all signs turned -/
def Eqv (x y : Mat) : Prop := x = y ∨ x = y.neg
theorem Eqv.refl (x : Mat) : Eqv x x := .inl rfl
theorem Eqv.symm {x y : Mat} (h : Eqv x y) : Eqv y x := by
  rcases h with h | h
  · exact .inl h.symm
  · exact .inr (by rw [h, neg_neg])
theorem Eqv.trans {x y z : Mat} (h : Eqv x y) (g : Eqv y z) : Eqv x z := by
  rcases h with h | h <;> rcases g with g | g <;> subst h <;> subst g
  · exact .inl rfl
  · exact .inr rfl
  · exact .inr rfl
  · exact .inl (neg_neg _)
theorem Eqv.neg (x : Mat) : Eqv x.neg x := .inr rfl
theorem Eqv.mul {x y z w : Mat} (h : Eqv x y) (g : Eqv z w) : Eqv (x.mul z) (y.mul w) := by
  rcases h with h | h <;> rcases g with g | g <;> subst h <;> subst g
  · exact .inl rfl
  · exact .inr (mul_neg _ _)
  · exact .inr (neg_mul _ _)
  · exact .inl (by rw [neg_mul, mul_neg, neg_neg])
theorem Eqv.inv {x y : Mat} (h : Eqv x y) : Eqv x.inv y.inv := by
  rcases h with h | h <;> subst h
  · exact .inl rfl
  · exact .inr (inv_neg _)
theorem Eqv.det {x y : Mat} (h : Eqv x y) : x.det = y.det := by
  rcases h with h | h <;> subst h
  · rfl
  · exact det_neg _
theorem norm_eqv (x : Mat) : Eqv x.norm x := by
  unfold norm
  split
  · exact .inr rfl
  · exact .inl rfl
/-- a turning as it is kept -/
def Nrm (x : Mat) : Prop := x.det = 1 ∧ (0 < x.c ∨ (x.c = 0 ∧ x.d = 1))
theorem norm_nrm (x : Mat) (h : x.det = 1) : Nrm x.norm := by
  have h' := h
  simp only [Mat.det] at h'
  unfold norm
  split
  · rename_i g
    refine ⟨by rw [det_neg]; exact h, ?_⟩
    rcases g with g | ⟨g1, g2⟩
    · left; simp only [neg]; omega
    · right
      refine ⟨by simp only [neg]; omega, ?_⟩
      simp only [neg]
      rw [g1] at h'
      have h1 : x.a * x.d = 1 := by omega
      have : x.d ∣ 1 := ⟨x.a, by rw [Int.mul_comm]; exact h1.symm⟩
      have h2 := Int.le_of_dvd (by decide) (Int.neg_dvd.mpr this)
      omega
  · rename_i g
    refine ⟨h, ?_⟩
    by_cases hc : 0 < x.c
    · exact .inl hc
    · have hc0 : x.c = 0 := by omega
      refine .inr ⟨hc0, ?_⟩
      rw [hc0] at h'
      have h1 : x.a * x.d = 1 := by omega
      have : x.d ∣ 1 := ⟨x.a, by rw [Int.mul_comm]; exact h1.symm⟩
      have h2 := Int.le_of_dvd (by decide) this
      have : x.d ≠ 0 := by
        intro e; rw [e] at h1; simp at h1
      omega
theorem nrm_eq {x y : Mat} (hx : Nrm x) (hy : Nrm y) (h : Eqv x y) : x = y := by
  rcases h with h | h
  · exact h
  · subst h
    obtain ⟨_, h1⟩ := hx
    obtain ⟨_, h2⟩ := hy
    simp only [neg] at h1
    omega
/-! ### words -/
abbrev Wd := List L
def lm : L → Mat
  | .s => ⟨0, -1, 1, 0⟩
  | .r => ⟨0, -1, 1, -1⟩
  | .q => ⟨1, -1, 1, 0⟩
def ev : Wd → Mat
  | [] => one
  | x :: w => (lm x).mul (ev w)
theorem ev_append (u v : Wd) : ev (u ++ v) = (ev u).mul (ev v) := by
  induction u with
  | nil => simp [ev, one_mul]
  | cons x u ih => simp [ev, ih, mul_assoc]
theorem ev_det (w : Wd) : (ev w).det = 1 := by
  induction w with
  | nil => rfl
  | cons x w ih =>
    rw [ev, det_mul, ih]
    cases x <;> rfl
def linv : L → L
  | .s => .s
  | .r => .q
  | .q => .r
def winv (w : Wd) : Wd := (w.map linv).reverse
theorem winv_cons (x : L) (w : Wd) : winv (x :: w) = winv w ++ [linv x] := by simp [winv]
theorem winv_append (u v : Wd) : winv (u ++ v) = winv v ++ winv u := by simp [winv]
theorem linv_linv (x : L) : linv (linv x) = x := by cases x <;> rfl
theorem winv_winv (w : Wd) : winv (winv w) = w := by
  simp [winv, Function.comp_def, linv_linv]
theorem winv_length (w : Wd) : (winv w).length = w.length := by simp [winv]
theorem ev_winv (w : Wd) : Eqv (ev (winv w)) (ev w).inv := by
  induction w with
  | nil => exact .inl rfl
  | cons x w ih =>
    rw [winv_cons, ev_append]
    have h1 : Eqv (ev [linv x]) (lm x).inv := by
      cases x <;> (simp only [ev, linv, mul_one, lm, Mat.inv]; first | exact .inl rfl | exact .inr rfl)
    have h2 := ih.mul h1
    rw [← inv_mul_rev] at h2
    exact h2
/-! ### shortening: a row is kept from behind -/
def put : Wd → L → Wd
  | [], x => [x]
  | .s :: t, .s => t
  | .s :: t, .r => .r :: .s :: t
  | .s :: t, .q => .q :: .s :: t
  | .r :: t, .s => .s :: .r :: t
  | .q :: t, .s => .s :: .q :: t
  | .r :: t, .r => .q :: t
  | .r :: t, .q => t
  | .q :: t, .r => t
  | .q :: t, .q => .r :: t
def act (u w : Wd) : Wd := w.foldl put u
def redR (w : Wd) : Wd := act [] w
def red (w : Wd) : Wd := (redR w).reverse
/-- no two letters beside one another of one kind -/
def isS : L → Bool
  | .s => true
  | _ => false
def Alt : Wd → Prop
  | [] => True
  | [_] => True
  | x :: y :: t => isS x ≠ isS y ∧ Alt (y :: t)
theorem Alt.tail {x : L} {t : Wd} (h : Alt (x :: t)) : Alt t := by
  cases t with
  | nil => trivial
  | cons y t => exact h.2
theorem Alt.cons {x : L} {t : Wd} (h : Alt t) (g : ∀ y ∈ t.head?, isS x ≠ isS y) : Alt (x :: t) := by
  cases t with
  | nil => trivial
  | cons y t => exact ⟨g y (by simp), h⟩
theorem put_alt (u : Wd) (x : L) (h : Alt u) : Alt (put u x) := by
  cases u with
  | nil => cases x <;> trivial
  | cons y t =>
    have ht := h.tail
    cases y <;> cases x <;> simp only [put] <;> first | exact ht | exact ⟨by decide, h⟩ | (cases t with
      | nil => trivial
      | cons z t => exact ⟨by have := h.1; cases z <;> simp_all [isS], h.2⟩)
theorem act_alt (w : Wd) : ∀ (u : Wd), Alt u → Alt (act u w) := by
  induction w with
  | nil => intro u h; exact h
  | cons x w ih => intro u h; exact ih _ (put_alt u x h)
theorem put_ss (u : Wd) (h : Alt u) : put (put u .s) .s = u := by
  cases u with
  | nil => rfl
  | cons y t => cases y <;> simp only [put] <;> (cases t with
    | nil => simp [put]
    | cons z t => have := h.1; cases z <;> simp_all [isS, put])
theorem put_q (u : Wd) (h : Alt u) : put u .q = put (put u .r) .r := by
  cases u with
  | nil => rfl
  | cons y t => cases y <;> simp only [put] <;> (cases t with
    | nil => simp [put]
    | cons z t => have := h.1; cases z <;> simp_all [isS, put])
theorem put_rrr (u : Wd) (h : Alt u) : put (put (put u .r) .r) .r = u := by
  cases u with
  | nil => rfl
  | cons y t => cases y <;> simp only [put] <;> (cases t with
    | nil => simp [put]
    | cons z t => have := h.1; cases z <;> simp_all [isS, put])
theorem put_rq (u : Wd) (h : Alt u) : put (put u .r) .q = u := by
  rw [put_q _ (put_alt _ _ h), put_rrr u h]
theorem put_qr (u : Wd) (h : Alt u) : put (put u .q) .r = u := by
  rw [put_q _ h, put_rrr u h]
theorem put_qq (u : Wd) (h : Alt u) : put (put u .q) .q = put u .r := by
  have h1 := put_alt u .r h
  have h2 := put_alt _ .r h1
  rw [put_q u h, put_q _ h2, put_rrr u h]
theorem put_linv (u : Wd) (x : L) (h : Alt u) : put (put u x) (linv x) = u := by
  cases x
  · exact put_ss u h
  · exact put_rq u h
  · exact put_qr u h
theorem act_append (u v w : Wd) : act u (v ++ w) = act (act u v) w := by simp [act]
theorem act_winv (w : Wd) : ∀ (u : Wd), Alt u → act (act u w) (winv w) = u := by
  induction w with
  | nil => intro u _; rfl
  | cons x w ih =>
    intro u h
    show act (act (put u x) w) (winv (x :: w)) = u
    rw [winv_cons, act_append, ih _ (put_alt u x h)]
    exact put_linv u x h
theorem act_snoc (u w : Wd) (x : L) : act u (w ++ [x]) = put (act u w) x := by simp [act]
theorem act_put (x R : Wd) (y : L) (h : Alt x) : act x (put R y).reverse = put (act x R.reverse) y := by
  cases R with
  | nil => rfl
  | cons z t =>
    have ha := act_alt t.reverse x h
    have e : act x (z :: t).reverse = put (act x t.reverse) z := by rw [List.reverse_cons, act_snoc]
    rw [e]
    cases z <;> cases y <;> simp only [put, List.reverse_cons, act_append] <;> simp only [act, List.foldl_cons, List.foldl_nil] <;> first
      | rfl
      | exact (put_ss _ ha).symm
      | exact put_q _ ha
      | exact (put_rq _ ha).symm
      | exact (put_qr _ ha).symm
      | exact (put_qq _ ha).symm
theorem act_red (x w : Wd) (h : Alt x) : act x w = act x (red w) := by
  have key : ∀ (n : Nat) (w : Wd), w.length = n → act x w = act x (red w) := by
    intro n
    induction n with
    | zero => intro w hw; rw [List.length_eq_zero_iff.mp hw]; rfl
    | succ n ih =>
      intro w hw
      obtain ⟨v, y, rfl⟩ : ∃ v y, w = v ++ [y] := ⟨w.dropLast, w.getLast (by intro e; rw [e] at hw; simp at hw), (List.dropLast_concat_getLast _).symm⟩
      have hv : v.length = n := by simp at hw; exact hw
      have e : red (v ++ [y]) = (put (redR v) y).reverse := by rw [red, redR, act_snoc]; rfl
      rw [act_snoc, e, act_put x _ y h, ih v hv]; rfl
  exact key _ w rfl
theorem redR_alt (w : Wd) : Alt (redR w) := act_alt w [] trivial
instance (x y : Mat) : Decidable (Eqv x y) := inferInstanceAs (Decidable (x = y ∨ x = y.neg))
theorem ev_tail (t u v : Wd) (h : Eqv (ev u) (ev v)) : Eqv (ev (t ++ u)) (ev (t ++ v)) := by
  rw [ev_append, ev_append]
  exact (Eqv.refl _).mul h
theorem ev_put (R : Wd) (y : L) : Eqv (ev (put R y).reverse) (ev (R.reverse ++ [y])) := by
  cases R with
  | nil => exact .refl _
  | cons z t =>
    have e : (z :: t).reverse ++ [y] = t.reverse ++ [z, y] := by simp
    rw [e]
    cases z <;> cases y <;> simp only [put, List.reverse_cons, List.append_assoc, List.cons_append, List.nil_append]
    · simpa using ev_tail t.reverse [] [.s, .s] (by decide)
    · exact .refl _
    · exact .refl _
    · exact .refl _
    · exact ev_tail t.reverse [.q] [.r, .r] (by decide)
    · simpa using ev_tail t.reverse [] [.r, .q] (by decide)
    · exact .refl _
    · simpa using ev_tail t.reverse [] [.q, .r] (by decide)
    · exact ev_tail t.reverse [.r] [.q, .q] (by decide)
theorem ev_redR (w : Wd) : ∀ (u : Wd), Eqv (ev (act u w).reverse) (ev (u.reverse ++ w)) := by
  induction w with
  | nil => intro u; simp [act, Eqv.refl]
  | cons x w ih =>
    intro u
    have h1 := ih (put u x)
    have h2 : Eqv (ev ((put u x).reverse ++ w)) (ev (u.reverse ++ x :: w)) := by
      rw [ev_append, show u.reverse ++ x :: w = (u.reverse ++ [x]) ++ w by simp, ev_append]
      exact (ev_put u x).mul (.refl _)
    exact h1.trans h2
theorem ev_red (w : Wd) : Eqv (ev (red w)) (ev w) := by
  have := ev_redR w []
  simpa [red, redR] using this
theorem Alt.snoc {w : Wd} {y : L} (h : Alt w) (g : ∀ z ∈ w.getLast?, isS z ≠ isS y) : Alt (w ++ [y]) := by
  induction w with
  | nil => trivial
  | cons x w ih =>
    cases w with
    | nil => exact ⟨g x (by simp), trivial⟩
    | cons z w =>
      refine ⟨h.1, ih h.2 ?_⟩
      intro v hv
      exact g v (by simpa using hv)
theorem Alt.reverse {w : Wd} (h : Alt w) : Alt w.reverse := by
  induction w with
  | nil => trivial
  | cons x w ih =>
    rw [List.reverse_cons]
    refine (ih h.tail).snoc ?_
    intro z hz
    rw [List.getLast?_reverse] at hz
    cases w with
    | nil => simp at hz
    | cons y w =>
      simp at hz
      subst hz
      exact h.1.symm
theorem red_alt (w : Wd) : Alt (red w) := (redR_alt w).reverse
/-! ### nothing is told by the empty short word alone -/
def ap (M : Mat) (v : Int × Int) : Int × Int := (M.a * v.1 + M.b * v.2, M.c * v.1 + M.d * v.2)
theorem ap_mul (M N : Mat) (v : Int × Int) : ap (M.mul N) v = ap M (ap N v) := by
  simp only [ap, Mat.mul, Prod.mk.injEq]
  constructor <;> grind
def size (v : Int × Int) : Nat := v.1.natAbs + v.2.natAbs
/-- v lies where a letter takes it to the other side -/
def Side (x : L) (v : Int × Int) : Prop := match x with
  | .s => (0 < v.1 ∧ v.2 < 0) ∨ (v.1 < 0 ∧ 0 < v.2)
  | _ => (0 < v.1 ∧ 0 < v.2) ∨ (v.1 < 0 ∧ v.2 < 0)
theorem side_step {x y : L} {v : Int × Int} (h : isS x ≠ isS y) (g : Side y v) : Side x (ap (lm x) v) ∧ size v ≤ size (ap (lm x) v) ∧ (x ≠ .s → size v < size (ap (lm x) v)) := by
  obtain ⟨p, q⟩ := v
  cases x <;> cases y <;> simp_all only [isS, Side, ap, lm, size, ne_eq, not_true_eq_false, reduceCtorEq, not_false_eq_true, forall_const, true_implies, Bool.true_eq_false, Bool.false_eq_true, false_implies, and_true] <;> omega
def other : L → L
  | .s => .r
  | _ => .s
def far : L → Int × Int
  | .s => (1, 1)
  | _ => (1, -1)
theorem side_word (w : Wd) (x : L) (h : Alt (x :: w)) : ∃ v, Side x (ap (ev (x :: w)) v) ∧ size v ≤ size (ap (ev (x :: w)) v) ∧ ((∃ y ∈ x :: w, y ≠ .s) → size v < size (ap (ev (x :: w)) v)) := by
  induction w generalizing x with
  | nil =>
    have g : Side (other x) (far x) := by cases x <;> simp [Side, other, far]
    have k := side_step (x := x) (y := other x) (by cases x <;> simp [isS, other]) g
    refine ⟨far x, ?_⟩
    have e : ev [x] = lm x := by simp [ev, mul_one]
    rw [e]
    refine ⟨k.1, k.2.1, ?_⟩
    rintro ⟨y, hy, hn⟩
    simp at hy
    subst hy
    exact k.2.2 hn
  | cons y w ih =>
    obtain ⟨v, h1, h2, h3⟩ := ih y h.2
    refine ⟨v, ?_⟩
    have e : ap (ev (x :: y :: w)) v = ap (lm x) (ap (ev (y :: w)) v) := by rw [ev, ap_mul]
    rw [e]
    obtain ⟨k1, k2, k3⟩ := side_step h.1 h1
    refine ⟨k1, Nat.le_trans h2 k2, ?_⟩
    rintro ⟨z, hz, hn⟩
    rcases List.mem_cons.mp hz with rfl | hz
    · exact Nat.lt_of_le_of_lt h2 (k3 hn)
    · exact Nat.lt_of_lt_of_le (h3 ⟨z, hz, hn⟩) k2
theorem alt_trivial (w : Wd) (h : Alt w) (e : Eqv (ev w) one) : w = [] := by
  cases w with
  | nil => rfl
  | cons x w =>
    exfalso
    obtain ⟨v, h1, h2, h3⟩ := side_word w x h
    have hs : size (ap (ev (x :: w)) v) = size v := by
      rcases e with e | e <;> rw [e] <;> simp [ap, one, neg, size]
    by_cases hy : ∃ y ∈ x :: w, y ≠ .s
    · have := h3 hy; omega
    · have hx : x = .s := Decidable.byContradiction fun n => hy ⟨x, by simp, n⟩
      have hw : w = [] := by
        cases w with
        | nil => rfl
        | cons y w =>
          have hy2 : y = .s := Decidable.byContradiction fun n => hy ⟨y, by simp, n⟩
          have := h.1
          rw [hx, hy2] at this
          exact absurd rfl this
      subst hx hw
      rcases e with e | e <;> exact absurd e (by decide)
/-- each turning is that of one short word -/
theorem red_unique {u v : Wd} (h : Eqv (ev u) (ev v)) : red u = red v := by
  have e1 : Eqv (ev (winv u ++ v)) one := by
    rw [ev_append]
    have := (ev_winv u).mul h.symm
    rw [inv_mul _ (ev_det u)] at this
    exact this
  have e2 : red (winv u ++ v) = [] := alt_trivial _ (red_alt _) ((ev_red _).trans e1)
  have a := redR_alt u
  have k : act (redR u) (winv u ++ v) = redR u := by rw [act_red _ _ a, e2]; rfl
  rw [act_append] at k
  have k2 : act (redR u) (winv u) = [] := act_winv u [] trivial
  rw [k2] at k
  show (redR u).reverse = (redR v).reverse
  rw [← k]; rfl
theorem put_length (u : Wd) (x : L) : (put u x).length ≤ u.length + 1 := by
  cases u with
  | nil => simp [put]
  | cons y t => cases y <;> cases x <;> simp [put] <;> omega
theorem act_length (w : Wd) : ∀ u : Wd, (act u w).length ≤ u.length + w.length := by
  induction w with
  | nil => intro u; simp [act]
  | cons x w ih =>
    intro u
    have h1 := ih (put u x)
    have h2 := put_length u x
    show (act (put u x) w).length ≤ _
    simp only [List.length_cons]
    omega
theorem red_length (w : Wd) : (red w).length ≤ w.length := by
  have := act_length w []
  simp only [red, redR, List.length_reverse, List.length_nil] at *
  omega
end Fg
/-! the short word of a turning: its steps, and how many letters they have -/
namespace Fg
open Mat
/-- how many subtractions lead two numbers to an end -/
def N (x y : Nat) : Nat := if x = 0 ∨ y = 0 then 0 else if y ≤ x then 1 + N (x - y) y else 1 + N x (y - x)
termination_by x + y
theorem N_zr (x : Nat) : N x 0 = 0 := by rw [N]; simp
theorem N_zl (y : Nat) : N 0 y = 0 := by rw [N]; simp
theorem N_al (x y : Nat) (h : 0 < y) : N (x + y) y = 1 + N x y := by
  rw [N, if_neg (by omega), if_pos (by omega), Nat.add_sub_cancel]
theorem N_ar (x y : Nat) (h : 0 < x) (h2 : 0 < y) : N x (x + y) = 1 + N x y := by
  rw [N, if_neg (by omega), if_neg (by omega)]
  congr 2; omega
theorem N_symm (x y : Nat) : N x y = N y x := by
  have key : ∀ (n x y : Nat), x + y ≤ n → N x y = N y x := by
    intro n
    induction n with
    | zero => intro x y h; have : x = 0 := by omega
              have : y = 0 := by omega
              subst_vars; rfl
    | succ n ih =>
      intro x y h
      by_cases h1 : x = 0
      · subst h1; rw [N_zl, N_zr]
      by_cases h2 : y = 0
      · subst h2; rw [N_zl, N_zr]
      rcases Nat.lt_trichotomy x y with g | g | g
      · obtain ⟨z, rfl⟩ : ∃ z, y = x + z := ⟨y - x, by omega⟩
        rw [N_ar x z (by omega) (by omega), Nat.add_comm x z, N_al z x (by omega), ih x z (by omega)]
      · subst g; rfl
      · obtain ⟨z, rfl⟩ : ∃ z, x = y + z := ⟨x - y, by omega⟩
        rw [N_ar y z (by omega) (by omega), Nat.add_comm y z, N_al z y (by omega), ih z y (by omega)]
  exact key _ x y (Nat.le_refl _)
theorem N_mul (k x y : Nat) (h : 0 < y) : N (x + k * y) y = k + N x y := by
  induction k with
  | zero => simp
  | succ k ih =>
    have : x + (k + 1) * y = (x + k * y) + y := by rw [Nat.succ_mul]; omega
    rw [this, N_al _ _ h, ih]; omega
theorem N_one (x : Nat) : N x 1 = x := by
  have := N_mul x 0 1 (by decide)
  simpa [N_zl] using this
theorem N_flip (z y : Nat) (h1 : 0 < z) (h2 : z < y) : N (y - z) y = N z y := by
  obtain ⟨u, rfl⟩ : ∃ u, y = z + u := ⟨y - z, by omega⟩
  have e : z + u - z = u := by omega
  rw [e, N_ar z u h1 (by omega), Nat.add_comm z u, N_ar u z (by omega) h1, N_symm]
theorem N_sub (p q : Int) : N (p - q).natAbs q.natAbs ≤ N p.natAbs q.natAbs + 1 := by
  by_cases hq : q = 0
  · subst hq; simp [N_zr]
  by_cases hp : p = 0
  · subst hp
    have : (0 - q).natAbs = 0 + q.natAbs := by omega
    rw [this, N_al _ _ (by omega), N_zl]
    omega
  by_cases h1 : (0 < p ∧ 0 < q) ∨ (p < 0 ∧ q < 0)
  · by_cases h2 : q.natAbs ≤ p.natAbs
    · have e : p.natAbs = (p - q).natAbs + q.natAbs := by omega
      rw [e, N_al _ _ (by omega)]; omega
    · have e : q.natAbs = p.natAbs + (p - q).natAbs := by omega
      rw [e, N_ar p.natAbs _ (by omega) (by omega), Nat.add_comm p.natAbs, N_symm (p - q).natAbs, ← Nat.add_comm p.natAbs]
      have : N (p.natAbs + (p - q).natAbs) (p - q).natAbs = 1 + N p.natAbs (p - q).natAbs := N_al _ _ (by omega)
      omega
  · have e : (p - q).natAbs = p.natAbs + q.natAbs := by omega
    rw [e, N_al _ _ (by omega)]; omega
theorem N_add (p q : Int) : N (p + q).natAbs q.natAbs ≤ N p.natAbs q.natAbs + 1 := by
  have := N_sub p (-q)
  simpa using this
theorem N_times (k : Nat) (p q : Int) : N (p - k * q).natAbs q.natAbs ≤ N p.natAbs q.natAbs + k ∧ N (p + k * q).natAbs q.natAbs ≤ N p.natAbs q.natAbs + k := by
  induction k with
  | zero => simp
  | succ k ih =>
    constructor
    · have := N_sub (p - k * q) q
      have e : p - (k + 1 : Nat) * q = p - k * q - q := by rw [Int.natCast_add, Int.add_mul]; simp; omega
      rw [e]; omega
    · have := N_add (p + k * q) q
      have e : p + (k + 1 : Nat) * q = p + k * q + q := by rw [Int.natCast_add, Int.add_mul]; simp; omega
      rw [e]; omega
theorem N_timesI (k p q : Int) : N (p - k * q).natAbs q.natAbs ≤ N p.natAbs q.natAbs + k.natAbs := by
  rcases Int.natAbs_eq k with h | h
  · have := (N_times k.natAbs p q).1
    rw [← h] at this; exact this
  · have := (N_times k.natAbs p q).2
    have e : p - k * q = p + (k.natAbs : Int) * q := by
      have : (k.natAbs : Int) = -k := by omega
      rw [this, Int.neg_mul]; omega
    rw [e]; exact this
theorem N_letter (x : L) (M : Mat) : N ((lm x).mul M).a.natAbs ((lm x).mul M).c.natAbs ≤ N M.a.natAbs M.c.natAbs + 1 := by
  cases x
  · have e1 : ((lm .s).mul M).a = -M.c := by simp [lm, Mat.mul]
    have e2 : ((lm .s).mul M).c = M.a := by simp [lm, Mat.mul]
    rw [e1, e2, Int.natAbs_neg, N_symm]; omega
  · have e1 : ((lm .r).mul M).a = -M.c := by simp [lm, Mat.mul]
    have e2 : ((lm .r).mul M).c = M.a - M.c := by simp [lm, Mat.mul]; omega
    rw [e1, e2, Int.natAbs_neg, N_symm]
    exact N_sub _ _
  · have e1 : ((lm .q).mul M).a = M.a - M.c := by simp [lm, Mat.mul]; omega
    have e2 : ((lm .q).mul M).c = M.a := by simp [lm, Mat.mul]
    rw [e1, e2]
    have e : (M.a - M.c).natAbs = (M.c - M.a).natAbs := by omega
    have := N_sub M.c M.a
    rw [e, N_symm M.a.natAbs]; exact this
theorem N_letter2 (x : L) (M : Mat) : N ((lm x).mul M).b.natAbs ((lm x).mul M).d.natAbs ≤ N M.b.natAbs M.d.natAbs + 1 := by
  have := N_letter x ⟨M.b, M.a, M.d, M.c⟩
  simpa [Mat.mul] using this
theorem N_word (w : Wd) : N (ev w).a.natAbs (ev w).c.natAbs ≤ w.length ∧ N (ev w).b.natAbs (ev w).d.natAbs ≤ w.length := by
  induction w with
  | nil => simp [ev, one, N_zr, N_zl]
  | cons x w ih =>
    have h1 := N_letter x (ev w)
    have h2 := N_letter2 x (ev w)
    simp only [ev, List.length_cons]
    omega
/-! ### the steps -/
def nx (M : Mat) : Mat := ⟨0 - M.c, 0 - M.d, M.a - M.a.fdiv M.c * M.c, M.b - M.a.fdiv M.c * M.d⟩
inductive Steps : Mat → List Int → Nat → Prop where
  | zero {M : Mat} : M.c = 0 → Steps M [M.b * M.d] (2 * M.b.natAbs)
  | step {M : Mat} {l : List Int} {n : Nat} : M.c ≠ 0 → Steps (nx M) l n → Steps M (M.a.fdiv M.c :: l) (2 * (M.a.fdiv M.c).natAbs + 1 + n)
def rep (w : Wd) (n : Nat) : Wd := (List.replicate n w).flatten
def sw (k : Int) : Wd := if 0 < k then rep [.q, .s] k.toNat else rep [.s, .r] (0 - k).toNat
def rawW : List Int → Wd
  | [] => []
  | [k] => sw k
  | k :: l => sw k ++ .s :: rawW l
theorem rep_length (w : Wd) (n : Nat) : (rep w n).length = n * w.length := by
  simp [rep]
theorem sw_length (k : Int) : (sw k).length = 2 * k.natAbs := by
  unfold sw
  split <;> rw [rep_length] <;> simp only [List.length_cons, List.length_nil] <;> omega
def up (k : Int) : Mat := ⟨1, k, 0, 1⟩
theorem up_add (j k : Int) : (up j).mul (up k) = up (j + k) := by
  apply Mat.ext' <;> simp [up, Mat.mul]
  omega
theorem ev_rep_qs (n : Nat) : Eqv (ev (rep [.q, .s] n)) (up n) := by
  induction n with
  | zero => exact .inl rfl
  | succ n ih =>
    have e : rep [.q, .s] (n + 1) = [.q, .s] ++ rep [.q, .s] n := by simp [rep, List.replicate_succ]
    rw [e, ev_append]
    have h := Eqv.mul (by decide : Eqv (ev [.q, .s]) (up 1)) ih
    rw [up_add] at h
    have : (1 : Int) + n = ((n + 1 : Nat) : Int) := by omega
    rw [this] at h; exact h
theorem ev_rep_sr (n : Nat) : Eqv (ev (rep [.s, .r] n)) (up (-n)) := by
  induction n with
  | zero => exact .inl rfl
  | succ n ih =>
    have e : rep [.s, .r] (n + 1) = [.s, .r] ++ rep [.s, .r] n := by simp [rep, List.replicate_succ]
    rw [e, ev_append]
    have h := Eqv.mul (by decide : Eqv (ev [.s, .r]) (up (-1))) ih
    rw [up_add] at h
    have : (-1 : Int) + -n = -((n + 1 : Nat) : Int) := by omega
    rw [this] at h; exact h
theorem ev_sw (k : Int) : Eqv (ev (sw k)) (up k) := by
  unfold sw
  split
  · have := ev_rep_qs k.toNat
    rwa [show ((k.toNat : Nat) : Int) = k by omega] at this
  · have := ev_rep_sr (0 - k).toNat
    rwa [show -(((0 - k).toNat : Nat) : Int) = k by omega] at this
theorem steps_ne {M : Mat} {l : List Int} {n : Nat} (h : Steps M l n) : l ≠ [] := by
  cases h <;> simp
theorem rawW_cons (k : Int) {l : List Int} (h : l ≠ []) : rawW (k :: l) = sw k ++ .s :: rawW l := by
  cases l with
  | nil => exact absurd rfl h
  | cons x l => rfl
theorem nx_det {M : Mat} (h : M.det = 1) : (nx M).det = 1 := by
  simp only [Mat.det, nx] at *
  grind
theorem unit_of {a d : Int} (h : a * d = 1) : (a = 1 ∧ d = 1) ∨ (a = -1 ∧ d = -1) := by
  have h1 : d ∣ 1 := ⟨a, by rw [Int.mul_comm]; exact h.symm⟩
  have h2 := Int.le_of_dvd (by decide) h1
  have h3 := Int.le_of_dvd (by decide) (Int.neg_dvd.mpr h1)
  have : d ≠ 0 := by intro e; rw [e] at h; simp at h
  have : d = 1 ∨ d = -1 := by omega
  rcases this with e | e <;> subst e <;> omega
theorem steps_ev {M : Mat} {l : List Int} {n : Nat} (h : Steps M l n) : M.det = 1 → Eqv (ev (rawW l)) M ∧ (rawW l).length ≤ n := by
  induction h with
  | @zero M hc =>
    intro hd
    simp only [Mat.det, hc] at hd
    have hu := unit_of (a := M.a) (d := M.d) (by omega)
    refine ⟨(ev_sw _).trans ?_, ?_⟩
    · obtain ⟨a, b, c, d⟩ := M
      simp only at hc hu
      subst hc
      rcases hu with ⟨rfl, rfl⟩ | ⟨rfl, rfl⟩
      · left; simp [up]
      · right; simp [up, Mat.neg]
    · show (sw _).length ≤ _
      rw [sw_length]
      rcases hu with ⟨_, e⟩ | ⟨_, e⟩ <;> rw [e] <;> simp
  | @step M l n hc h ih =>
    intro hd
    obtain ⟨i1, i2⟩ := ih (nx_det hd)
    have hl := steps_ne h
    rw [rawW_cons _ hl]
    refine ⟨?_, ?_⟩
    · rw [ev_append]
      have e1 : Eqv (ev (.s :: rawW l)) ((lm .s).mul (nx M)) := (Eqv.refl _).mul i1
      refine ((ev_sw _).mul e1).trans (.inr ?_)
      apply Mat.ext' <;> simp only [up, Mat.mul, lm, nx, Mat.neg] <;> grind
    · simp only [List.length_append, List.length_cons, sw_length]
      omega
/-- the first column loses as much as the step is long -/
theorem N_drop {a c : Int} (h : 0 < c) : (a.fdiv c).natAbs + N c.natAbs (a - a.fdiv c * c).natAbs ≤ N a.natAbs c.natAbs + 1 := by
  have hk : a.fdiv c = a / c := Int.fdiv_eq_ediv_of_nonneg a (by omega)
  rw [hk]
  have hm : a - a / c * c = a % c := by
    have := Int.mul_ediv_add_emod a c
    rw [Int.mul_comm]; omega
  rw [hm]
  have m0 := Int.emod_nonneg a (show c ≠ 0 by omega)
  have m1 := Int.emod_lt_of_pos a h
  have hd := Int.mul_ediv_add_emod a c
  by_cases ha : 0 ≤ a
  · have hk0 : 0 ≤ a / c := Int.ediv_nonneg ha (by omega)
    have e : a.natAbs = (a % c).natAbs + (a / c).natAbs * c.natAbs := by
      have : ((a % c).natAbs + (a / c).natAbs * c.natAbs : Nat) = ((a % c) + (a / c) * c : Int) := by
        rw [Int.natCast_add, Int.natCast_mul]
        rw [Int.natAbs_of_nonneg m0, Int.natAbs_of_nonneg hk0, Int.natAbs_of_nonneg (by omega : 0 ≤ c)]
      rw [Int.mul_comm] at hd
      omega
    rw [e, N_mul _ _ _ (by omega), N_symm]
    omega
  · have hk0 : a / c < 0 := Int.ediv_neg_of_neg_of_pos (by omega) h
    by_cases hz : a % c = 0
    · rw [hz]
      have e : a.natAbs = 0 + (a / c).natAbs * c.natAbs := by
        have : ((a / c).natAbs * c.natAbs : Nat) = (-(a / c) * c : Int) := by
          rw [Int.natCast_mul, Int.natAbs_of_nonneg (by omega : 0 ≤ c), show ((a / c).natAbs : Int) = -(a / c) by omega]
        rw [Int.mul_comm, hz] at hd
        rw [Int.neg_mul] at this
        omega
      rw [e, N_mul _ _ _ (by omega), N_zl, show (0 : Int).natAbs = 0 from rfl, N_zr]
      omega
    · have e : a.natAbs = (c.natAbs - (a % c).natAbs) + ((a / c).natAbs - 1) * c.natAbs := by
        have : (((a / c).natAbs - 1 : Nat) * c.natAbs : Nat) = ((-(a / c) - 1) * c : Int) := by
          rw [Int.natCast_mul, Int.natAbs_of_nonneg (by omega : 0 ≤ c), show (((a / c).natAbs - 1 : Nat) : Int) = -(a / c) - 1 by omega]
        rw [Int.sub_mul, Int.neg_mul] at this
        rw [Int.mul_comm] at hd
        omega
      rw [e, N_mul _ _ _ (by omega), N_flip _ _ (by omega) (by omega), N_symm]
      omega
theorem steps_later (m : Nat) : ∀ M : Mat, M.det = 1 → 0 ≤ M.c → M.c.natAbs = m → M.c < -M.a → ∃ l n, Steps M l n ∧ n ≤ 9 * N M.a.natAbs M.c.natAbs + 2 * N M.b.natAbs M.d.natAbs := by
  induction m using Nat.strongRecOn with
  | ind m ih =>
    intro M hd hc hm ha
    by_cases hz : M.c = 0
    · refine ⟨_, _, .zero hz, ?_⟩
      simp only [Mat.det, hz] at hd
      have hu := unit_of (a := M.a) (d := M.d) (by omega)
      have : M.d.natAbs = 1 := by omega
      rw [this, N_one]; omega
    · have hp : 0 < M.c := by omega
      have hk : M.a.fdiv M.c = M.a / M.c := Int.fdiv_eq_ediv_of_nonneg M.a (by omega)
      have hm' : M.a - M.a.fdiv M.c * M.c = M.a % M.c := by
        have := Int.mul_ediv_add_emod M.a M.c
        rw [hk, Int.mul_comm]; omega
      have m0 := Int.emod_nonneg M.a (show M.c ≠ 0 by omega)
      have m1 := Int.emod_lt_of_pos M.a hp
      have h1 : 0 ≤ (nx M).c := by show 0 ≤ M.a - M.a.fdiv M.c * M.c; omega
      have h2 : (nx M).c < -(nx M).a := by show M.a - M.a.fdiv M.c * M.c < -(0 - M.c); omega
      obtain ⟨l, n, hs, hn⟩ := ih (nx M).c.natAbs (by show (M.a - M.a.fdiv M.c * M.c).natAbs < m; omega) (nx M) (nx_det hd) h1 rfl h2
      refine ⟨_, _, .step hz hs, ?_⟩
      have d1 := N_drop (a := M.a) hp
      have d2 := N_timesI (M.a.fdiv M.c) M.b M.d
      have e1 : (nx M).a.natAbs = M.c.natAbs := by show (0 - M.c).natAbs = _; omega
      have e2 : (nx M).b.natAbs = M.d.natAbs := by show (0 - M.d).natAbs = _; omega
      have e3 : (nx M).c = M.a - M.a.fdiv M.c * M.c := rfl
      have e4 : (nx M).d = M.b - M.a.fdiv M.c * M.d := rfl
      rw [e1, e2, e3, e4, N_symm M.d.natAbs] at hn
      have hk2 : 2 ≤ (M.a.fdiv M.c).natAbs := by
        rw [hk]
        have : M.a / M.c < -1 := by
          rw [Int.ediv_lt_iff_lt_mul hp]; omega
        omega
      omega
theorem steps_of (M : Mat) (hd : M.det = 1) (hc : 0 ≤ M.c) : ∃ l n, Steps M l n ∧ n ≤ 9 * N M.a.natAbs M.c.natAbs + 2 * N M.b.natAbs M.d.natAbs + 10 := by
  by_cases hz : M.c = 0
  · refine ⟨_, _, .zero hz, ?_⟩
    simp only [Mat.det, hz] at hd
    have hu := unit_of (a := M.a) (d := M.d) (by omega)
    have : M.d.natAbs = 1 := by omega
    rw [this, N_one]; omega
  · have hp : 0 < M.c := by omega
    have hk : M.a.fdiv M.c = M.a / M.c := Int.fdiv_eq_ediv_of_nonneg M.a (by omega)
    have hm' : M.a - M.a.fdiv M.c * M.c = M.a % M.c := by
      have := Int.mul_ediv_add_emod M.a M.c
      rw [hk, Int.mul_comm]; omega
    have m0 := Int.emod_nonneg M.a (show M.c ≠ 0 by omega)
    have m1 := Int.emod_lt_of_pos M.a hp
    have h1 : 0 ≤ (nx M).c := by show 0 ≤ M.a - M.a.fdiv M.c * M.c; omega
    have h2 : (nx M).c < -(nx M).a := by show M.a - M.a.fdiv M.c * M.c < -(0 - M.c); omega
    obtain ⟨l, n, hs, hn⟩ := steps_later _ (nx M) (nx_det hd) h1 rfl h2
    refine ⟨_, _, .step hz hs, ?_⟩
    have d1 := N_drop (a := M.a) hp
    have d2 := N_timesI (M.a.fdiv M.c) M.b M.d
    have e1 : (nx M).a.natAbs = M.c.natAbs := by show (0 - M.c).natAbs = _; omega
    have e2 : (nx M).b.natAbs = M.d.natAbs := by show (0 - M.d).natAbs = _; omega
    have e3 : (nx M).c = M.a - M.a.fdiv M.c * M.c := rfl
    have e4 : (nx M).d = M.b - M.a.fdiv M.c * M.d := rfl
    rw [e1, e2, e3, e4, N_symm M.d.natAbs] at hn
    omega
theorem Eqv.abs {x y : Mat} (h : Eqv x y) : x.a.natAbs = y.a.natAbs ∧ x.b.natAbs = y.b.natAbs ∧ x.c.natAbs = y.c.natAbs ∧ x.d.natAbs = y.d.natAbs := by
  rcases h with h | h <;> subst h <;> simp [Mat.neg]
/-- the word of a turning that some word tells: it is told, and it is that word shortened -/
theorem word_of {M : Mat} {w : Wd} (h : Nrm M) (e : Eqv (ev w) M) : ∃ l n, Steps M l n ∧ n ≤ 11 * w.length + 10 ∧ red (rawW l) = red w ∧ (rawW l).length ≤ n := by
  have hc : 0 ≤ M.c := by rcases h.2 with g | g <;> omega
  obtain ⟨l, n, hs, hn⟩ := steps_of M h.1 hc
  obtain ⟨h1, h2⟩ := steps_ev hs h.1
  refine ⟨l, n, hs, ?_, red_unique (h1.trans e.symm), h2⟩
  obtain ⟨n1, n2⟩ := N_word w
  obtain ⟨e1, e2, e3, e4⟩ := e.abs
  rw [e1, e3] at n1
  rw [e2, e4] at n2
  omega
end Fg
/-! systems of places led by s and by r; places as they are met; tables -/
namespace Fg
/-- s twice and r three times lead back, on the places P -/
structure Sys {κ : Type} (P : κ → Prop) (s r : κ → κ) : Prop where
  ps : ∀ x, P x → P (s x)
  pr : ∀ x, P x → P (r x)
  ss : ∀ x, P x → s (s x) = x
  rrr : ∀ x, P x → r (r (r x)) = x
section
variable {κ : Type} (s r : κ → κ)
def lstep : L → κ → κ
  | .s, x => s x
  | .r, x => r x
  | .q, x => r (r x)
def run (w : Wd) (x : κ) : κ := w.foldl (fun p l => lstep s r l p) x
end
section
variable {κ : Type} {P : κ → Prop} {s r : κ → κ}
theorem run_nil (x : κ) : run s r [] x = x := rfl
theorem run_cons (l : L) (w : Wd) (x : κ) : run s r (l :: w) x = run s r w (lstep s r l x) := rfl
theorem run_append (u v : Wd) (x : κ) : run s r (u ++ v) x = run s r v (run s r u x) := by simp [run]
theorem Sys.step (S : Sys P s r) (l : L) {x : κ} (h : P x) : P (lstep s r l x) := by
  cases l
  · exact S.ps x h
  · exact S.pr x h
  · exact S.pr _ (S.pr x h)
theorem Sys.run (S : Sys P s r) (w : Wd) : ∀ {x : κ}, P x → P (run s r w x) := by
  induction w with
  | nil => intro x h; exact h
  | cons l w ih => intro x h; exact ih (S.step l h)
theorem Sys.linv (S : Sys P s r) (l : L) {x : κ} (h : P x) : lstep s r (linv l) (lstep s r l x) = x := by
  cases l
  · exact S.ss x h
  · exact S.rrr x h
  · exact S.rrr x h
theorem Sys.winv (S : Sys P s r) (w : Wd) : ∀ {x : κ}, P x → Fg.run s r (winv w) (Fg.run s r w x) = x := by
  induction w with
  | nil => intro x _; rfl
  | cons l w ih =>
    intro x h
    have e : Fg.run s r (l :: w) x = Fg.run s r w (lstep s r l x) := rfl
    rw [winv_cons, run_append, e, ih (S.step l h)]
    exact S.linv l h
theorem Sys.run_put (S : Sys P s r) (R : Wd) (y : L) {x : κ} (h : P x) : Fg.run s r (put R y).reverse x = lstep s r y (Fg.run s r R.reverse x) := by
  cases R with
  | nil => rfl
  | cons z t =>
    have e : Fg.run s r (z :: t).reverse x = lstep s r z (Fg.run s r t.reverse x) := by rw [List.reverse_cons, run_append]; rfl
    have p := S.run t.reverse h
    rw [e]
    cases z <;> cases y <;> simp only [put, List.reverse_cons, run_append] <;> first
      | rfl
      | exact (S.ss _ p).symm
      | exact (S.rrr _ p).symm
      | (show r _ = r (r (r (r _))); rw [S.rrr _ p])
theorem Sys.run_act (S : Sys P s r) (w : Wd) : ∀ (R : Wd) {x : κ}, P x → Fg.run s r (act R w).reverse x = Fg.run s r w (Fg.run s r R.reverse x) := by
  induction w with
  | nil => intro R x _; rfl
  | cons y w ih =>
    intro R x h
    show Fg.run s r (act (put R y) w).reverse x = _
    rw [ih (put R y) h, S.run_put R y h]; rfl
theorem Sys.run_red (S : Sys P s r) (w : Wd) {x : κ} (h : P x) : Fg.run s r (red w) x = Fg.run s r w x := S.run_act w [] h
/-- one turning leads to one place -/
theorem Sys.run_eqv (S : Sys P s r) {u v : Wd} (e : Eqv (ev u) (ev v)) {x : κ} (h : P x) : Fg.run s r u x = Fg.run s r v x := by
  rw [← S.run_red u h, ← S.run_red v h, red_unique e]
end
/-! ### places as they are met -/
section
variable {κ : Type} [DecidableEq κ]
def pushN (m : List κ) (y : κ) : List κ := if y ∈ m then m else m ++ [y]
def bfs (s r : κ → κ) : Nat → List κ → Nat → List κ
  | 0, m, _ => m
  | f + 1, m, i => match m[i]? with
    | none => m
    | some x => bfs s r f (pushN (pushN m (s x)) (r x)) (i + 1)
theorem mem_pushN {m : List κ} {y z : κ} : z ∈ pushN m y ↔ z ∈ m ∨ z = y := by
  unfold pushN
  split
  · rename_i h
    constructor
    · exact .inl
    · rintro (g | rfl)
      · exact g
      · exact h
  · simp
theorem pushN_prefix (m : List κ) (y : κ) : m <+: pushN m y := by
  unfold pushN
  split
  · exact List.prefix_refl _
  · exact List.prefix_append _ _
theorem pushN_nodup {m : List κ} (y : κ) (h : m.Nodup) : (pushN m y).Nodup := by
  unfold pushN
  split
  · exact h
  · rename_i g
    rw [List.nodup_append]
    refine ⟨h, by simp, ?_⟩
    intro a ha b hb
    simp at hb
    subst hb
    intro e; subst e; exact g ha
variable {s r : κ → κ}
theorem bfs_prefix : ∀ (f : Nat) (m : List κ) (i : Nat), m <+: bfs s r f m i := by
  intro f
  induction f with
  | zero => intro m i; exact List.prefix_refl _
  | succ f ih =>
    intro m i
    unfold bfs
    split
    · exact List.prefix_refl _
    · exact ((pushN_prefix _ _).trans (pushN_prefix _ _)).trans (ih _ _)
theorem bfs_nodup : ∀ (f : Nat) (m : List κ) (i : Nat), m.Nodup → (bfs s r f m i).Nodup := by
  intro f
  induction f with
  | zero => intro m i h; exact h
  | succ f ih =>
    intro m i h
    unfold bfs
    split
    · exact h
    · exact ih _ _ (pushN_nodup _ (pushN_nodup _ h))
theorem bfs_all {P : κ → Prop} (hs : ∀ x, P x → P (s x)) (hr : ∀ x, P x → P (r x)) : ∀ (f : Nat) (m : List κ) (i : Nat), (∀ x ∈ m, P x) → ∀ x ∈ bfs s r f m i, P x := by
  intro f
  induction f with
  | zero => intro m i h; exact h
  | succ f ih =>
    intro m i h
    unfold bfs
    split
    · exact h
    · rename_i x hx
      refine ih _ _ ?_
      have px := h x (List.mem_of_getElem? hx)
      intro y hy
      rcases mem_pushN.mp hy with hy | rfl
      · rcases mem_pushN.mp hy with hy | rfl
        · exact h y hy
        · exact hs x px
      · exact hr x px
theorem prefix_len {l m : List κ} (h : l <+: m) : l.length ≤ m.length := h.length_le
theorem prefix_get {l m : List κ} (h : l <+: m) {i : Nat} {x : κ} (e : l[i]? = some x) : m[i]? = some x := by
  obtain ⟨t, rfl⟩ := h
  rw [List.getElem?_append_left (by
    have := (List.getElem?_eq_some_iff.mp e).1
    exact this)]
  exact e
/-- more fuel than is asked for changes nothing -/
theorem bfs_fuel : ∀ (f : Nat) (m : List κ) (i : Nat), (bfs s r f m i).length ≤ f + i → ∀ f', (bfs s r f m i).length ≤ f' + i → bfs s r f' m i = bfs s r f m i := by
  intro f
  induction f with
  | zero =>
    intro m i h f' _
    have e : bfs s r 0 m i = m := rfl
    rw [e] at h ⊢
    cases f' with
    | zero => rfl
    | succ f' =>
      unfold bfs
      rw [List.getElem?_eq_none (by omega)]
  | succ f ih =>
    intro m i h f' h'
    cases hx : m[i]? with
    | none =>
      have e : bfs s r (f + 1) m i = m := by unfold bfs; rw [hx]
      rw [e]
      cases f' with
      | zero => rfl
      | succ f' => unfold bfs; rw [hx]
    | some x =>
      have e : bfs s r (f + 1) m i = bfs s r f (pushN (pushN m (s x)) (r x)) (i + 1) := by
        conv => lhs; unfold bfs
        rw [hx]
      have hl : i < m.length := (List.getElem?_eq_some_iff.mp hx).1
      have hp := prefix_len (bfs_prefix (s := s) (r := r) (f + 1) m i)
      rw [e] at h h' hp ⊢
      cases f' with
      | zero => omega
      | succ f' =>
        have e' : bfs s r (f' + 1) m i = bfs s r f' (pushN (pushN m (s x)) (r x)) (i + 1) := by
          conv => lhs; unfold bfs
          rw [hx]
        rw [e']
        exact ih _ _ (by omega) f' (by omega)
/-- what is met is closed -/
theorem bfs_closed : ∀ (f : Nat) (m : List κ) (i : Nat), (bfs s r f m i).length ≤ f + i → (∀ j x, j < i → m[j]? = some x → s x ∈ m ∧ r x ∈ m) → ∀ x ∈ bfs s r f m i, s x ∈ bfs s r f m i ∧ r x ∈ bfs s r f m i := by
  intro f
  induction f with
  | zero =>
    intro m i h g x hx
    obtain ⟨j, hj⟩ := List.mem_iff_getElem?.mp hx
    have e : bfs s r 0 m i = m := rfl
    rw [e] at h hj ⊢
    exact g j x (Nat.lt_of_lt_of_le (List.getElem?_eq_some_iff.mp hj).1 (by omega)) hj
  | succ f ih =>
    intro m i h g
    cases hx : m[i]? with
    | none =>
      have e : bfs s r (f + 1) m i = m := by unfold bfs; rw [hx]
      rw [e]
      intro x hm
      obtain ⟨j, hj⟩ := List.mem_iff_getElem?.mp hm
      have h1 := (List.getElem?_eq_some_iff.mp hj).1
      have h2 := List.getElem?_eq_none_iff.mp hx
      exact g j x (by omega) hj
    | some x =>
      have e : bfs s r (f + 1) m i = bfs s r f (pushN (pushN m (s x)) (r x)) (i + 1) := by
        conv => lhs; unfold bfs
        rw [hx]
      rw [e] at h ⊢
      refine ih _ _ (by omega) ?_
      intro j y hj hy
      have old : m[j]? = some y := by
        have hl : i < m.length := (List.getElem?_eq_some_iff.mp hx).1
        have hj2 : j < m.length := by omega
        obtain ⟨t, ht⟩ := (pushN_prefix m (s x)).trans (pushN_prefix _ (r x))
        rw [← ht, List.getElem?_append_left hj2] at hy
        exact hy
      by_cases hji : j = i
      · subst hji
        rw [hx] at old
        obtain rfl := Option.some.inj old
        exact ⟨mem_pushN.mpr (.inl (mem_pushN.mpr (.inr rfl))), mem_pushN.mpr (.inr rfl)⟩
      · obtain ⟨a, b⟩ := g j y (by omega) old
        exact ⟨mem_pushN.mpr (.inl (mem_pushN.mpr (.inl a))), mem_pushN.mpr (.inl (mem_pushN.mpr (.inl b)))⟩
/-- each place but the first one comes of one ahead -/
def Comes (s r : κ → κ) (m : List κ) : Prop := ∀ j y, 0 < j → m[j]? = some y → ∃ i x, i < j ∧ m[i]? = some x ∧ (y = s x ∨ y = r x)
theorem comes_push {m : List κ} {i : Nat} {x y : κ} (h : Comes s r m) (hx : m[i]? = some x) (hy : y = s x ∨ y = r x) : Comes s r (pushN m y) := by
  unfold pushN
  split
  · exact h
  · intro j z hj hz
    have hl : i < m.length := (List.getElem?_eq_some_iff.mp hx).1
    by_cases g : j < m.length
    · rw [List.getElem?_append_left g] at hz
      obtain ⟨k, u, k1, k2, k3⟩ := h j z hj hz
      exact ⟨k, u, k1, by rw [List.getElem?_append_left (by omega)]; exact k2, k3⟩
    · have hz2 := (List.getElem?_eq_some_iff.mp hz).1
      simp at hz2
      have : j = m.length := by omega
      subst this
      simp at hz
      subst hz
      exact ⟨i, x, hl, by rw [List.getElem?_append_left hl]; exact hx, hy⟩
theorem bfs_comes : ∀ (f : Nat) (m : List κ) (i : Nat), Comes s r m → Comes s r (bfs s r f m i) := by
  intro f
  induction f with
  | zero => intro m i h; exact h
  | succ f ih =>
    intro m i h
    unfold bfs
    split
    · exact h
    · rename_i x hx
      refine ih _ _ ?_
      have h1 := comes_push (s := s) (r := r) h hx (.inl rfl : s x = s x ∨ s x = r x)
      exact comes_push h1 (prefix_get (pushN_prefix _ _) hx) (.inr rfl)
end
section
variable {κ κ' : Type} [DecidableEq κ] [DecidableEq κ'] {s r : κ → κ} {s' r' : κ' → κ'}
theorem pushN_map (φ : κ → κ') {m : List κ} {y : κ} (inj : ∀ x ∈ m, φ x = φ y → x = y) : pushN (m.map φ) (φ y) = (pushN m y).map φ := by
  unfold pushN
  have e : φ y ∈ m.map φ ↔ y ∈ m := by
    constructor
    · intro h
      obtain ⟨x, hx, e⟩ := List.mem_map.mp h
      rw [← inj x hx e]; exact hx
    · intro h; exact List.mem_map.mpr ⟨y, h, rfl⟩
  by_cases h : y ∈ m
  · rw [if_pos h, if_pos (e.mpr h)]
  · rw [if_neg h, if_neg (fun g => h (e.mp g))]; simp
/-- meeting goes along with a map that tells places apart -/
theorem bfs_map (φ : κ → κ') {P : κ → Prop} (hs : ∀ x, P x → P (s x)) (hr : ∀ x, P x → P (r x)) (inj : ∀ x y, P x → P y → φ x = φ y → x = y)
    (es : ∀ x, P x → φ (s x) = s' (φ x)) (er : ∀ x, P x → φ (r x) = r' (φ x)) : ∀ (f : Nat) (m : List κ) (i : Nat), (∀ x ∈ m, P x) → bfs s' r' f (m.map φ) i = (bfs s r f m i).map φ := by
  intro f
  induction f with
  | zero => intro m i _; rfl
  | succ f ih =>
    intro m i h
    unfold bfs
    rw [List.getElem?_map]
    cases hx : m[i]? with
    | none => rfl
    | some x =>
      have px := h x (List.mem_of_getElem? hx)
      show bfs s' r' f (pushN (pushN (m.map φ) (s' (φ x))) (r' (φ x))) (i + 1) = _
      have h1 : ∀ y ∈ pushN m (s x), P y := fun y hy => by
        rcases mem_pushN.mp hy with hy | rfl
        · exact h y hy
        · exact hs x px
      rw [← es x px, ← er x px, pushN_map φ (fun y hy => inj y _ (h y hy) (hs x px)), pushN_map φ (fun y hy => inj y _ (h1 y hy) (hr x px))]
      refine ih _ _ ?_
      intro y hy
      rcases mem_pushN.mp hy with hy | rfl
      · exact h1 y hy
      · exact hr x px
end
/-! ### tables -/
structure Tab where
  hs : List Nat
  ts : List Nat
  deriving DecidableEq
def Tab.n (T : Tab) : Nat := T.hs.length
def Tab.s (T : Tab) (x : Nat) : Nat := T.hs.getD x 0
def Tab.r (T : Tab) (x : Nat) : Nat := T.ts.getD x 0
structure Valid (T : Tab) : Prop where
  pos : 0 < T.n
  len : T.ts.length = T.n
  sys : Sys (fun x => x < T.n) T.s T.r
  can : bfs T.s T.r T.n [0] 0 = List.range T.n
section
variable {κ : Type} [DecidableEq κ]
def tabOf (s r : κ → κ) (m : List κ) : Tab := ⟨m.map fun x => m.idxOf (s x), m.map fun x => m.idxOf (r x)⟩
variable {s r : κ → κ} {P : κ → Prop}
/-- all that meeting tells -/
structure Met (s r : κ → κ) (first : κ) (m : List κ) : Prop where
  nd : m.Nodup
  hd : m[0]? = some first
  cl : ∀ x ∈ m, s x ∈ m ∧ r x ∈ m
  co : Comes s r m
  eq : ∀ f, m.length ≤ f → bfs s r f [first] 0 = m
theorem met_of (S : Sys P s r) {first : κ} (h1 : P first) (U : List κ) (hU : ∀ x, P x → x ∈ U) : Met s r first (bfs s r U.length [first] 0) ∧ (∀ x ∈ bfs s r U.length [first] 0, P x) ∧ (bfs s r U.length [first] 0).length ≤ U.length := by
  have nd : (bfs s r U.length [first] 0).Nodup := bfs_nodup _ _ _ (by simp)
  have all := bfs_all (s := s) (r := r) (P := P) S.ps S.pr U.length [first] 0 (by simpa using h1)
  have le : (bfs s r U.length [first] 0).length ≤ U.length := nd.length_le_of_subset fun x hx => hU x (all x hx)
  refine ⟨⟨nd, prefix_get (bfs_prefix U.length [first] 0) rfl, bfs_closed _ _ _ (by omega) (fun j x hj => by omega), bfs_comes _ _ _ (fun j y hj hy => ?_), fun f hf => bfs_fuel _ _ _ (by omega) f (by omega)⟩, all, le⟩
  have := (List.getElem?_eq_some_iff.mp hy).1
  simp at this
  omega
theorem Met.pos {first : κ} {m : List κ} (M : Met s r first m) : 0 < m.length := (List.getElem?_eq_some_iff.mp M.hd).1
theorem idx_inj {m : List κ} {x y : κ} (hx : x ∈ m) (e : m.idxOf x = m.idxOf y) : x = y := by
  have h1 := List.idxOf_lt_length_of_mem hx
  have e1 : m[m.idxOf x]'h1 = x := List.getElem_idxOf h1
  have h2 : m.idxOf y < m.length := by rw [← e]; exact h1
  have e2 : m[m.idxOf y]'h2 = y := List.getElem_idxOf h2
  rw [← e1, ← e2]
  congr 1
theorem idx_get {m : List κ} (nd : m.Nodup) {i : Nat} {x : κ} (h : m[i]? = some x) : m.idxOf x = i := by
  obtain ⟨hi, e⟩ := List.getElem?_eq_some_iff.mp h
  rw [← e]
  exact nd.idxOf_getElem i hi
theorem getD_map {α : Type} {m : List α} {f : α → Nat} {i : Nat} {x : α} (h : m[i]? = some x) : (m.map f).getD i 0 = f x := by
  rw [List.getD_eq_getElem?_getD, List.getElem?_map, h]; rfl
theorem tabOf_n (m : List κ) : (tabOf s r m).n = m.length := by simp [tabOf, Tab.n]
theorem tabOf_s {m : List κ} {i : Nat} {x : κ} (h : m[i]? = some x) : (tabOf s r m).s i = m.idxOf (s x) := getD_map (f := fun x => m.idxOf (s x)) h
theorem tabOf_r {m : List κ} {i : Nat} {x : κ} (h : m[i]? = some x) : (tabOf s r m).r i = m.idxOf (r x) := getD_map (f := fun x => m.idxOf (r x)) h
theorem map_idxOf {m : List κ} (nd : m.Nodup) : m.map m.idxOf = List.range m.length := by
  apply List.ext_getElem?
  intro i
  rw [List.getElem?_map]
  by_cases h : i < m.length
  · rw [List.getElem?_eq_getElem h, List.getElem?_range h]
    show some (m.idxOf m[i]) = _
    rw [nd.idxOf_getElem i h]
  · rw [List.getElem?_eq_none (by omega), List.getElem?_eq_none (by simpa using h)]; rfl
theorem Met.get {first : κ} {m : List κ} (M : Met s r first m) {i : Nat} (h : i < m.length) : m[i]? = some m[i] := List.getElem?_eq_getElem h
theorem Met.valid {first : κ} {m : List κ} (M : Met s r first m) (S : Sys P s r) (all : ∀ x ∈ m, P x) : Valid (tabOf s r m) := by
  have hn := tabOf_n (s := s) (r := r) m
  have es : ∀ x ∈ m, m.idxOf (s x) = (tabOf s r m).s (m.idxOf x) := fun x hx => by
    have h := List.idxOf_lt_length_of_mem hx
    rw [tabOf_s (x := x) (by rw [List.getElem?_eq_getElem h]; rw [List.getElem_idxOf h])]
  have er : ∀ x ∈ m, m.idxOf (r x) = (tabOf s r m).r (m.idxOf x) := fun x hx => by
    have h := List.idxOf_lt_length_of_mem hx
    rw [tabOf_r (x := x) (by rw [List.getElem?_eq_getElem h]; rw [List.getElem_idxOf h])]
  have ix : ∀ i, i < m.length → ∃ x ∈ m, m.idxOf x = i := fun i hi => ⟨m[i], List.getElem_mem hi, M.nd.idxOf_getElem i hi⟩
  refine ⟨by rw [hn]; exact M.pos, by simp [tabOf, Tab.n], ⟨?_, ?_, ?_, ?_⟩, ?_⟩
  · intro i hi
    rw [hn] at hi ⊢
    obtain ⟨x, hx, rfl⟩ := ix i hi
    rw [← es x hx]
    exact List.idxOf_lt_length_of_mem (M.cl x hx).1
  · intro i hi
    rw [hn] at hi ⊢
    obtain ⟨x, hx, rfl⟩ := ix i hi
    rw [← er x hx]
    exact List.idxOf_lt_length_of_mem (M.cl x hx).2
  · intro i hi
    rw [hn] at hi
    obtain ⟨x, hx, rfl⟩ := ix i hi
    rw [← es x hx, ← es _ (M.cl x hx).1, S.ss x (all x hx)]
  · intro i hi
    rw [hn] at hi
    obtain ⟨x, hx, rfl⟩ := ix i hi
    have h1 := (M.cl x hx).2
    rw [← er x hx, ← er _ h1, ← er _ (M.cl _ h1).2, S.rrr x (all x hx)]
  · rw [hn, ← map_idxOf M.nd]
    have h := bfs_map (s := s) (r := r) (s' := (tabOf s r m).s) (r' := (tabOf s r m).r) m.idxOf (P := fun x => x ∈ m) (fun x hx => (M.cl x hx).1) (fun x hx => (M.cl x hx).2) (fun x y hx _ e => idx_inj hx e) es er m.length [first] 0 (by
      intro x hx
      simp at hx
      subst hx
      exact List.mem_of_getElem? M.hd)
    rw [M.eq m.length (Nat.le_refl _)] at h
    have e0 : m.idxOf first = 0 := idx_get M.nd M.hd
    rw [← h]
    simp [e0]
/-- a place met is reached by a word -/
theorem Met.reach {first : κ} {m : List κ} (M : Met s r first m) : ∀ x ∈ m, ∃ w, run s r w first = x := by
  have key : ∀ (j : Nat) (x : κ), m[j]? = some x → ∃ w, run s r w first = x := by
    intro j
    induction j using Nat.strongRecOn with
    | ind j ih =>
      intro x hx
      by_cases h0 : j = 0
      · subst h0
        rw [M.hd] at hx
        exact ⟨[], Option.some.inj hx⟩
      · obtain ⟨i, y, hi, hy, e⟩ := M.co j x (by omega) hx
        obtain ⟨w, hw⟩ := ih i hi y hy
        rcases e with e | e
        · exact ⟨w ++ [.s], by rw [run_append, hw, e]; rfl⟩
        · exact ⟨w ++ [.r], by rw [run_append, hw, e]; rfl⟩
  intro x hx
  obtain ⟨j, hj⟩ := List.mem_iff_getElem?.mp hx
  exact key j x hj
end
theorem Valid.met {T : Tab} (V : Valid T) : Met T.s T.r 0 (List.range T.n) := by
  have h := met_of V.sys V.pos (List.range T.n) fun x hx => List.mem_range.mpr hx
  rw [List.length_range, V.can] at h
  exact h.1
theorem Valid.reach {T : Tab} (V : Valid T) {x : Nat} (h : x < T.n) : ∃ w, run T.s T.r w 0 = x := V.met.reach x (List.mem_range.mpr h)
/-- each place but 0 comes of a lesser one -/
theorem Valid.comes {T : Tab} (V : Valid T) {x : Nat} (h : x < T.n) (h0 : 0 < x) : ∃ y, y < x ∧ (x = T.s y ∨ x = T.r y) := by
  obtain ⟨i, y, hi, hy, e⟩ := V.met.co x x h0 (List.getElem?_range h)
  have : i < T.n := by omega
  rw [List.getElem?_range this] at hy
  obtain rfl := Option.some.inj hy
  exact ⟨i, hi, e⟩
/-- what is met in a system that looks like a table from its first place is the table -/
theorem met_tab {κ : Type} [DecidableEq κ] {s r : κ → κ} {first : κ} {m : List κ} (M : Met s r first m) {T : Tab} (V : Valid T) (φ : κ → Nat) (h0 : φ first = 0) (inj : ∀ x y, x ∈ m → y ∈ m → φ x = φ y → x = y)
    (es : ∀ x ∈ m, φ (s x) = T.s (φ x)) (er : ∀ x ∈ m, φ (r x) = T.r (φ x)) : tabOf s r m = T := by
  have hm : first ∈ m := List.mem_of_getElem? M.hd
  have h : ∀ f, bfs T.s T.r f [0] 0 = (bfs s r f [first] 0).map φ := fun f => by
    have := bfs_map (s := s) (r := r) (s' := T.s) (r' := T.r) φ (P := fun x => x ∈ m) (fun x hx => (M.cl x hx).1) (fun x hx => (M.cl x hx).2) inj es er f [first] 0 (by simpa using hm)
    simpa [h0] using this
  have hF := h (m.length + T.n)
  rw [M.eq _ (by omega), V.met.eq _ (by simp)] at hF
  have hn : m.length = T.n := by
    have := congrArg List.length hF
    simpa using this.symm
  have at_ : ∀ i x, m[i]? = some x → φ x = i := fun i x hx => by
    have h1 : (List.range T.n)[i]? = some (φ x) := by rw [hF, List.getElem?_map, hx]; rfl
    have h2 := (List.getElem?_eq_some_iff.mp hx).1
    rw [List.getElem?_range (by omega)] at h1
    exact (Option.some.inj h1).symm
  have ix : ∀ x ∈ m, m.idxOf x = φ x := fun x hx => by
    obtain ⟨j, hj⟩ := List.mem_iff_getElem?.mp hx
    rw [idx_get M.nd hj, at_ j x hj]
  have e1 : (m.map fun x => m.idxOf (s x)) = T.hs := by
    apply List.ext_getElem?
    intro i
    rw [List.getElem?_map]
    by_cases hi : i < m.length
    · rw [List.getElem?_eq_getElem hi]
      have hx : m[i] ∈ m := List.getElem_mem hi
      show some (m.idxOf (s m[i])) = _
      rw [ix _ (M.cl _ hx).1, es _ hx, at_ i _ (List.getElem?_eq_getElem hi)]
      have : i < T.hs.length := by show i < T.n; omega
      rw [List.getElem?_eq_getElem this, Tab.s, List.getD_eq_getElem?_getD, List.getElem?_eq_getElem this]; rfl
    · rw [List.getElem?_eq_none (by omega), List.getElem?_eq_none (by show T.n ≤ i; omega)]; rfl
  have e2 : (m.map fun x => m.idxOf (r x)) = T.ts := by
    apply List.ext_getElem?
    intro i
    rw [List.getElem?_map]
    by_cases hi : i < m.length
    · rw [List.getElem?_eq_getElem hi]
      have hx : m[i] ∈ m := List.getElem_mem hi
      show some (m.idxOf (r m[i])) = _
      rw [ix _ (M.cl _ hx).2, er _ hx, at_ i _ (List.getElem?_eq_getElem hi)]
      have : i < T.ts.length := by rw [V.len]; omega
      rw [List.getElem?_eq_getElem this, Tab.r, List.getD_eq_getElem?_getD, List.getElem?_eq_getElem this]; rfl
    · rw [List.getElem?_eq_none (by omega), List.getElem?_eq_none (by rw [V.len]; omega)]; rfl
  show (⟨_, _⟩ : Tab) = T
  rw [e1, e2]
/-! ### places divide -/
def cnt (φ : Nat → Nat) (n y : Nat) : Nat := ((List.range n).filter fun x => φ x == y).length
theorem cnt_le {T : Tab} {φ : Nat → Nat} {n : Nat} {y z : Nat} (f : Nat → Nat) (hf : ∀ x, x < n → f x < n) (inj : ∀ x y, x < n → y < n → f x = f y → x = y) (h : ∀ x, x < n → φ x = y → φ (f x) = z) : cnt φ n y ≤ cnt φ n z := by
  unfold cnt
  rw [← List.length_map (f := f)]
  refine List.Nodup.length_le_of_subset ?_ ?_
  · rw [List.Nodup, List.pairwise_map]
    refine List.Pairwise.imp_of_mem ?_ (List.Pairwise.filter _ List.nodup_range)
    intro a b ha hb hab e
    have h1 := List.mem_range.mp (List.mem_filter.mp ha).1
    have h2 := List.mem_range.mp (List.mem_filter.mp hb).1
    exact hab (inj a b h1 h2 e)
  · intro v hv
    obtain ⟨x, hx, rfl⟩ := List.mem_map.mp hv
    obtain ⟨h1, h2⟩ := List.mem_filter.mp hx
    have h1 := List.mem_range.mp h1
    exact List.mem_filter.mpr ⟨List.mem_range.mpr (hf x h1), by simpa using h x h1 (by simpa using h2)⟩
theorem sum_cnt (φ : Nat → Nat) (m : Nat) : ∀ l : List Nat, (∀ x ∈ l, φ x < m) → ((List.range m).map fun y => (l.filter fun x => φ x == y).length).sum = l.length := by
  intro l
  induction l with
  | nil =>
    intro _
    have e : ∀ k, ((List.range k).map fun y => (([] : List Nat).filter fun x => φ x == y).length).sum = 0 := by
      intro k
      induction k with
      | zero => rfl
      | succ k ih => rw [List.range_succ, List.map_append, List.sum_append, ih]; rfl
    rw [e]; rfl
  | cons x l ih =>
    intro h
    have h1 := ih fun y hy => h y (List.mem_cons_of_mem _ hy)
    have h2 := h x (by simp)
    have e : ∀ k, k ≤ m → ((List.range k).map fun y => ((x :: l).filter fun x => φ x == y).length).sum = ((List.range k).map fun y => (l.filter fun x => φ x == y).length).sum + (if φ x < k then 1 else 0) := by
      intro k
      induction k with
      | zero => intro _; simp
      | succ k ihk =>
        intro hk
        rw [List.range_succ, List.map_append, List.map_append, List.sum_append, List.sum_append, ihk (by omega)]
        simp only [List.map_cons, List.map_nil, List.sum_cons, List.sum_nil, List.filter_cons]
        by_cases g : φ x = k
        · simp only [g, beq_self_eq_true, if_true, List.length_cons, Nat.lt_irrefl, if_false, Nat.lt_succ_self]; omega
        · have : (φ x == k) = false := by simpa using g
          rw [this]
          have e2 : (if φ x < k + 1 then 1 else 0) = (if φ x < k then 1 else 0) := by
            by_cases g2 : φ x < k
            · rw [if_pos g2, if_pos (show φ x < k + 1 by omega)]
            · rw [if_neg g2, if_neg (show ¬ φ x < k + 1 by omega)]
          rw [e2]
          simp only [Bool.false_eq_true, if_false]
          omega
    rw [e m (Nat.le_refl _), h1, if_pos h2, List.length_cons]
theorem sum_const (c : Nat) (f : Nat → Nat) (m : Nat) (h : ∀ y, y < m → f y = c) : ((List.range m).map f).sum = m * c := by
  induction m with
  | zero => simp
  | succ m ih =>
    rw [List.range_succ, List.map_append, List.sum_append, ih fun y hy => h y (by omega)]
    simp [h m (by omega), Nat.succ_mul]
/-- a table that lies over another one: its places are a multiple -/
theorem places_divide {T F : Tab} (V : Valid T) (W : Valid F) (φ : Nat → Nat) (hφ : ∀ x, x < T.n → φ x < F.n) (h0 : φ 0 = 0) (es : ∀ x, x < T.n → φ (T.s x) = F.s (φ x)) (er : ∀ x, x < T.n → φ (T.r x) = F.r (φ x)) : F.n ∣ T.n := by
  have sinj : ∀ x y, x < T.n → y < T.n → T.s x = T.s y → x = y := fun x y hx hy e => by rw [← V.sys.ss x hx, ← V.sys.ss y hy, e]
  have rinj : ∀ x y, x < T.n → y < T.n → T.r x = T.r y → x = y := fun x y hx hy e => by rw [← V.sys.rrr x hx, ← V.sys.rrr y hy, e]
  have a1 : ∀ y, y < F.n → cnt φ T.n y ≤ cnt φ T.n (F.s y) := fun y _ => cnt_le (T := T) T.s V.sys.ps sinj fun x hx e => by rw [es x hx, e]
  have a2 : ∀ y, y < F.n → cnt φ T.n y ≤ cnt φ T.n (F.r y) := fun y _ => cnt_le (T := T) T.r V.sys.pr rinj fun x hx e => by rw [er x hx, e]
  have b1 : ∀ y, y < F.n → cnt φ T.n (F.s y) = cnt φ T.n y := fun y hy => by
    have h1 := a1 y hy
    have h2 := a1 _ (W.sys.ps y hy)
    rw [W.sys.ss y hy] at h2
    omega
  have b2 : ∀ y, y < F.n → cnt φ T.n (F.r y) = cnt φ T.n y := fun y hy => by
    have h1 := a2 y hy
    have h2 := a2 _ (W.sys.pr y hy)
    have h3 := a2 _ (W.sys.pr _ (W.sys.pr y hy))
    rw [W.sys.rrr y hy] at h3
    omega
  have c : ∀ y, y < F.n → cnt φ T.n y = cnt φ T.n 0 := by
    intro y
    induction y using Nat.strongRecOn with
    | ind y ih =>
      intro hy
      by_cases hz : y = 0
      · rw [hz]
      · obtain ⟨x, hx, e⟩ := W.comes hy (by omega)
        rcases e with e | e
        · rw [e, b1 x (by omega), ih x hx (by omega)]
        · rw [e, b2 x (by omega), ih x hx (by omega)]
  have t := sum_cnt φ F.n (List.range T.n) fun x hx => hφ x (List.mem_range.mp hx)
  rw [List.length_range] at t
  have t2 := sum_const (cnt φ T.n 0) (fun y => cnt φ T.n y) F.n c
  exact ⟨_, t.symm.trans t2⟩
end Fg
/-! folding: places led on as far as is known, and put together -/
namespace Fg
structure Fo where
  hs : List (Option Nat)
  ts : List (Option Nat)
  hd : List Nat
def Fo.n (F : Fo) : Nat := F.hd.length
def lk (l : List (Option Nat)) (x : Nat) : Option Nat := l.getD x none
/-- the place that stands for a place -/
def root (hd : List Nat) (x : Nat) : Nat := if _h : hd.getD x x < x then root hd (hd.getD x x) else x
termination_by x
theorem root_le (hd : List Nat) : ∀ x, root hd x ≤ x := by
  intro x
  induction x using Nat.strongRecOn with
  | ind x ih =>
    rw [root]
    split
    · rename_i h
      have := ih _ h; omega
    · exact Nat.le_refl _
theorem root_step {hd : List Nat} {x : Nat} (h : hd.getD x x ≤ x) : root hd (hd.getD x x) = root hd x := by
  conv => rhs; rw [root]
  by_cases g : hd.getD x x < x
  · rw [dif_pos g]
  · rw [dif_neg g]
    have e : hd.getD x x = x := by omega
    rw [e, root, dif_neg (by omega)]
theorem root_fix {hd : List Nat} {x : Nat} (h : hd.getD x x = x) : root hd x = x := by
  rw [root, dif_neg (by omega)]
/-- heads lie at or below -/
def Low (hd : List Nat) : Prop := ∀ x, hd.getD x x ≤ x
theorem root_is {hd : List Nat} (L : Low hd) : ∀ x, hd.getD (root hd x) (root hd x) = root hd x := by
  intro x
  induction x using Nat.strongRecOn with
  | ind x ih =>
    by_cases h : hd.getD x x < x
    · rw [← root_step (L x)]; exact ih _ h
    · have e : hd.getD x x = x := by have := L x; omega
      rw [root_fix e]; exact e
theorem root_root {hd : List Nat} (L : Low hd) (x : Nat) : root hd (root hd x) = root hd x := root_fix (root_is L x)
theorem getD_set (l : List Nat) (i v x : Nat) (hi : i < l.length) : (l.set i v).getD x x = if x = i then v else l.getD x x := by
  simp only [List.getD_eq_getElem?_getD]
  by_cases h : x = i
  · subst h; simp [hi]
  · rw [if_neg h, List.getElem?_set_ne (fun e => h e.symm)]
theorem low_set {hd : List Nat} (L : Low hd) {a b : Nat} (hb : b < hd.length) (h : a < b) : Low (hd.set b a) := by
  intro x
  rw [getD_set _ _ _ _ hb]
  split
  · omega
  · exact L x
theorem root_set {hd : List Nat} (L : Low hd) {a b : Nat} (hb : b < hd.length) (h : a < b) (ra : hd.getD a a = a) (rb : hd.getD b b = b) : ∀ x, root (hd.set b a) x = if root hd x = b then a else root hd x := by
  intro x
  have L' := low_set L hb h
  induction x using Nat.strongRecOn with
  | ind x ih =>
    by_cases hx : x = b
    · subst hx
      have e1 : (hd.set x a).getD x x = a := by rw [getD_set _ _ _ _ hb, if_pos rfl]
      rw [← root_step (L' x), e1, root_fix rb, if_pos rfl]
      have e2 : (hd.set x a).getD a a = a := by rw [getD_set _ _ _ _ hb, if_neg (by omega)]; exact ra
      exact root_fix e2
    · have e1 : (hd.set b a).getD x x = hd.getD x x := by rw [getD_set _ _ _ _ hb, if_neg hx]
      by_cases g : hd.getD x x < x
      · rw [← root_step (L' x), e1, ih _ g, root_step (L x)]
      · have e : hd.getD x x = x := by have := L x; omega
        rw [root_fix (e1.trans e), root_fix e, if_neg hx]
theorem getD_app (l : List Nat) (v x : Nat) : (l ++ [v]).getD x x = if x = l.length then v else l.getD x x := by
  simp only [List.getD_eq_getElem?_getD]
  by_cases h : x = l.length
  · subst h; simp
  · rw [if_neg h]
    by_cases g : x < l.length
    · rw [List.getElem?_append_left g]
    · rw [List.getElem?_eq_none (by simp; omega), List.getElem?_eq_none (by omega)]
theorem low_app {hd : List Nat} (L : Low hd) : Low (hd ++ [hd.length]) := by
  intro x
  rw [getD_app]
  split
  · omega
  · exact L x
theorem root_app {hd : List Nat} (L : Low hd) : ∀ x, root (hd ++ [hd.length]) x = root hd x := by
  intro x
  induction x using Nat.strongRecOn with
  | ind x ih =>
    have e : (hd ++ [hd.length]).getD x x = hd.getD x x := by
      rw [getD_app]
      split
      · rename_i h
        subst h
        simp
      · rfl
    by_cases g : hd.getD x x < x
    · rw [← root_step (low_app L x), e, ih _ g, root_step (L x)]
    · have e2 : hd.getD x x = x := by have := L x; omega
      rw [root_fix (e.trans e2), root_fix e2]
theorem root_out {hd : List Nat} {x : Nat} (h : hd.length ≤ x) : root hd x = x := root_fix (by simp [List.getD_eq_getElem?_getD, List.getElem?_eq_none h])
/-! ### what is one, with what waits -/
inductive Same2 (hd : List Nat) (wt : List (Nat × Nat)) : Nat → Nat → Prop where
  | root {x y : Nat} : root hd x = root hd y → Same2 hd wt x y
  | wait {x y : Nat} : (x, y) ∈ wt → Same2 hd wt x y
  | symm {x y : Nat} : Same2 hd wt x y → Same2 hd wt y x
  | trans {x y z : Nat} : Same2 hd wt x y → Same2 hd wt y z → Same2 hd wt x z
theorem Same2.mono {hd hd' : List Nat} {wt wt' : List (Nat × Nat)} (h1 : ∀ x y, Fg.root hd x = Fg.root hd y → Same2 hd' wt' x y) (h2 : ∀ x y, (x, y) ∈ wt → Same2 hd' wt' x y) {x y : Nat} (h : Same2 hd wt x y) : Same2 hd' wt' x y := by
  induction h with
  | root h => exact h1 _ _ h
  | wait h => exact h2 _ _ h
  | symm _ ih => exact ih.symm
  | trans _ _ ih1 ih2 => exact ih1.trans ih2
theorem Same2.nil {hd : List Nat} {x y : Nat} (h : Same2 hd [] x y) : Fg.root hd x = Fg.root hd y := by
  induction h with
  | root h => exact h
  | wait h => simp at h
  | symm _ ih => exact ih.symm
  | trans _ _ ih1 ih2 => exact ih1.trans ih2
/-! ### leads -/
structure Lead (hd : List Nat) (wt : List (Nat × Nat)) (l : List (Option Nat)) : Prop where
  ln : l.length = hd.length
  bd : ∀ x y, lk l x = some y → y < hd.length
  cp : ∀ x y, lk l x = some y → ∃ y', lk l (root hd x) = some y' ∧ Same2 hd wt y' y
def Back2 (hd : List Nat) (wt : List (Nat × Nat)) (l : List (Option Nat)) : Prop := ∀ x y, lk l x = some y → ∃ z, lk l y = some z ∧ Same2 hd wt z x
def Back3 (hd : List Nat) (wt : List (Nat × Nat)) (l : List (Option Nat)) : Prop := ∀ x y, lk l x = some y → ∃ z u, lk l y = some z ∧ lk l z = some u ∧ Same2 hd wt u x
theorem lk_lt {l : List (Option Nat)} {x y : Nat} (h : lk l x = some y) : x < l.length := by
  unfold lk at h
  rw [List.getD_eq_getElem?_getD] at h
  by_cases g : x < l.length
  · exact g
  · rw [List.getElem?_eq_none (by omega)] at h; simp at h
theorem lk_set (l : List (Option Nat)) (i x : Nat) (v : Option Nat) (hi : i < l.length) : lk (l.set i v) x = if x = i then v else lk l x := by
  unfold lk
  simp only [List.getD_eq_getElem?_getD]
  by_cases h : x = i
  · subst h; simp [hi]
  · rw [if_neg h, List.getElem?_set_ne (fun e => h e.symm)]
theorem lk_app (l : List (Option Nat)) (v : Option Nat) (x : Nat) : lk (l ++ [v]) x = if x = l.length then v else lk l x := by
  unfold lk
  simp only [List.getD_eq_getElem?_getD]
  by_cases h : x = l.length
  · subst h; simp
  · rw [if_neg h]
    by_cases g : x < l.length
    · rw [List.getElem?_append_left g]
    · rw [List.getElem?_eq_none (by simp; omega), List.getElem?_eq_none (by omega)]
/-- what both_behind does and tells -/
def bothB (l : List (Option Nat)) (a b : Nat) : List (Option Nat) × List (Nat × Nat) := match lk l b with
  | none => (l, [])
  | some y => match lk l a with
    | none => (l.set a (some y), [])
    | some z => (l, [(z, y)])
theorem bothB_len (l : List (Option Nat)) (a b : Nat) : (bothB l a b).1.length = l.length ∧ (bothB l a b).2.length ≤ 1 := by
  unfold bothB
  split
  · simp
  · split <;> simp
theorem bothB_old {l : List (Option Nat)} {a b x y : Nat} (ha : a < l.length) (h : lk l x = some y) : lk (bothB l a b).1 x = some y := by
  unfold bothB
  split
  · exact h
  · split
    · rename_i g
      show lk (l.set a _) x = _
      rw [lk_set _ _ _ _ ha]
      split
      · rename_i e; subst e; rw [g] at h; cases h
      · exact h
    · exact h
theorem bothB_new {l : List (Option Nat)} {a b x y : Nat} (ha : a < l.length) (h : lk (bothB l a b).1 x = some y) : lk l x = some y ∨ (x = a ∧ lk l a = none ∧ lk l b = some y) := by
  unfold bothB at h
  split at h
  · exact .inl h
  · rename_i v hv
    split at h
    · rename_i g
      have h : lk (l.set a (some v)) x = some y := h
      rw [lk_set _ _ _ _ ha] at h
      split at h
      · rename_i e
        exact .inr ⟨e, g, by rw [hv]; exact h⟩
      · exact .inl h
    · exact .inl h
theorem bothB_at {l : List (Option Nat)} {a b y : Nat} (ha : a < l.length) (h : lk l b = some y) : ∃ y', lk (bothB l a b).1 a = some y' ∧ (y' = y ∨ (y', y) ∈ (bothB l a b).2) := by
  unfold bothB
  rw [h]
  cases g : lk l a with
  | none => exact ⟨y, by show lk (l.set a (some y)) a = _; rw [lk_set _ _ _ _ ha, if_pos rfl], .inl rfl⟩
  | some z => exact ⟨z, g, .inr (by simp)⟩
theorem bothB_mem {l : List (Option Nat)} {a b x y : Nat} (h : (x, y) ∈ (bothB l a b).2) : lk l a = some x ∧ lk l b = some y := by
  unfold bothB at h
  split at h
  · simp at h
  · split at h
    · simp at h
    · rename_i v hv _ z hz
      simp at h
      obtain ⟨rfl, rfl⟩ := h
      exact ⟨hz, hv⟩
section
variable {hd : List Nat} {wt : List (Nat × Nat)} {l : List (Option Nat)} {a b : Nat}
/-- one place stands for another: what is asked is kept -/
theorem Lead.merge (Lo : Low hd) (hb : b < hd.length) (hab : a < b) (ra : hd.getD a a = a) (rb : hd.getD b b = b) (K : Lead hd wt l) {wt' : List (Nat × Nat)}
    (mo : ∀ x y, Same2 hd wt x y → Same2 (hd.set b a) wt' x y) (hw : ∀ p ∈ (bothB l a b).2, p ∈ wt') : Lead (hd.set b a) wt' (bothB l a b).1 := by
  have ha : a < l.length := by rw [K.ln]; omega
  refine ⟨by rw [(bothB_len l a b).1, List.length_set, K.ln], fun x y h => ?_, fun x y h => ?_⟩
  · rw [List.length_set]
    rcases bothB_new ha h with h | ⟨_, _, h⟩
    · exact K.bd _ _ h
    · exact K.bd _ _ h
  · rw [root_set Lo hb hab ra rb]
    rcases bothB_new ha h with h | ⟨rfl, h1, h2⟩
    · obtain ⟨y', e, q⟩ := K.cp x y h
      by_cases g : root hd x = b
      · rw [if_pos g]
        rw [g] at e
        obtain ⟨y2, e2, q2⟩ := bothB_at ha e
        refine ⟨y2, e2, ?_⟩
        rcases q2 with rfl | q2
        · exact mo _ _ q
        · exact (Same2.wait (hw _ q2)).trans (mo _ _ q)
      · rw [if_neg g]
        exact ⟨y', bothB_old ha e, mo _ _ q⟩
    · rw [root_fix ra, if_neg (by omega)]
      exact ⟨y, h, .root rfl⟩
theorem Back2.merge (hb : b < hd.length) (hab : a < b) (K : Lead hd wt l) (B : Back2 hd wt l) {wt' : List (Nat × Nat)} (mo : ∀ x y, Same2 hd wt x y → Same2 (hd.set b a) wt' x y) (one : Same2 (hd.set b a) wt' b a) : Back2 (hd.set b a) wt' (bothB l a b).1 := by
  have ha : a < l.length := by rw [K.ln]; omega
  intro x y h
  rcases bothB_new ha h with h | ⟨rfl, _, h⟩
  · obtain ⟨z, e, q⟩ := B x y h
    exact ⟨z, bothB_old ha e, mo _ _ q⟩
  · obtain ⟨z, e, q⟩ := B b y h
    exact ⟨z, bothB_old ha e, (mo _ _ q).trans one⟩
theorem Back3.merge (hb : b < hd.length) (hab : a < b) (K : Lead hd wt l) (B : Back3 hd wt l) {wt' : List (Nat × Nat)} (mo : ∀ x y, Same2 hd wt x y → Same2 (hd.set b a) wt' x y) (one : Same2 (hd.set b a) wt' b a) : Back3 (hd.set b a) wt' (bothB l a b).1 := by
  have ha : a < l.length := by rw [K.ln]; omega
  intro x y h
  rcases bothB_new ha h with h | ⟨rfl, _, h⟩
  · obtain ⟨z, u, e1, e2, q⟩ := B x y h
    exact ⟨z, u, bothB_old ha e1, bothB_old ha e2, mo _ _ q⟩
  · obtain ⟨z, u, e1, e2, q⟩ := B b y h
    exact ⟨z, u, bothB_old ha e1, bothB_old ha e2, (mo _ _ q).trans one⟩
end
/-! ### the state -/
structure FI (F : Fo) (wt : List (Nat × Nat)) : Prop where
  pos : 0 < F.n
  low : Low F.hd
  lh : Lead F.hd wt F.hs
  lt : Lead F.hd wt F.ts
  b2 : Back2 F.hd wt F.hs
  b3 : Back3 F.hd wt F.ts
  wb : ∀ p ∈ wt, p.1 < F.n ∧ p.2 < F.n
/-- a map of the places into a system -/
structure Hom {κ : Type} (P : κ → Prop) (s r : κ → κ) (F : Fo) (f : Nat → κ) : Prop where
  ps : ∀ x, x < F.n → P (f x)
  eh : ∀ x y, lk F.hs x = some y → f y = s (f x)
  et : ∀ x y, lk F.ts x = some y → f y = r (f x)
  hd : ∀ x, f (F.hd.getD x x) = f x
theorem Hom.root {κ : Type} {P : κ → Prop} {s r : κ → κ} {F : Fo} {f : Nat → κ} (H : Hom P s r F f) (x : Nat) : f (Fg.root F.hd x) = f x := by
  induction x using Nat.strongRecOn with
  | ind x ih =>
    rw [Fg.root]
    split
    · rename_i h
      rw [ih _ h, H.hd]
    · rfl
/-- going on by letters, up to what is one -/
def EdgeOf (hd : List Nat) (l : List (Option Nat)) (x y : Nat) : Prop := ∃ x' y', Fg.root hd x' = Fg.root hd x ∧ lk l x' = some y' ∧ Fg.root hd y' = Fg.root hd y
def Go (F : Fo) : L → Nat → Nat → Prop
  | .s, x, y => EdgeOf F.hd F.hs x y
  | .r, x, y => EdgeOf F.hd F.ts x y
  | .q, x, y => ∃ z, EdgeOf F.hd F.ts x z ∧ EdgeOf F.hd F.ts z y
def Walk (F : Fo) : Wd → Nat → Nat → Prop
  | [], x, y => Fg.root F.hd x = Fg.root F.hd y
  | c :: w, x, y => ∃ z, Go F c x z ∧ Walk F w z y
/-- a later state: what was known is known -/
structure Ext (F G : Fo) : Prop where
  n : F.n ≤ G.n
  hs : ∀ x y, lk F.hs x = some y → lk G.hs x = some y
  ts : ∀ x y, lk F.ts x = some y → lk G.ts x = some y
  rt : ∀ x y, Fg.root F.hd x = Fg.root F.hd y → Fg.root G.hd x = Fg.root G.hd y
theorem Ext.refl (F : Fo) : Ext F F := ⟨Nat.le_refl _, fun _ _ h => h, fun _ _ h => h, fun _ _ h => h⟩
theorem Ext.trans {F G H : Fo} (a : Ext F G) (b : Ext G H) : Ext F H := ⟨Nat.le_trans a.n b.n, fun x y h => b.hs x y (a.hs x y h), fun x y h => b.ts x y (a.ts x y h), fun x y h => b.rt x y (a.rt x y h)⟩
theorem Ext.go {F G : Fo} (e : Ext F G) {c : L} {x y : Nat} (h : Go F c x y) : Go G c x y := by
  cases c
  · obtain ⟨x', y', h1, h2, h3⟩ := h
    exact ⟨x', y', e.rt _ _ h1, e.hs _ _ h2, e.rt _ _ h3⟩
  · obtain ⟨x', y', h1, h2, h3⟩ := h
    exact ⟨x', y', e.rt _ _ h1, e.ts _ _ h2, e.rt _ _ h3⟩
  · obtain ⟨z, ⟨x', y', h1, h2, h3⟩, ⟨x2, y2, k1, k2, k3⟩⟩ := h
    exact ⟨z, ⟨x', y', e.rt _ _ h1, e.ts _ _ h2, e.rt _ _ h3⟩, ⟨x2, y2, e.rt _ _ k1, e.ts _ _ k2, e.rt _ _ k3⟩⟩
theorem Ext.walk {F G : Fo} (e : Ext F G) (w : Wd) : ∀ {x y : Nat}, Walk F w x y → Walk G w x y := by
  induction w with
  | nil => intro x y h; exact e.rt _ _ h
  | cons c w ih => intro x y ⟨z, h1, h2⟩; exact ⟨z, e.go h1, ih h2⟩
theorem go_left {F : Fo} {c : L} {x x' y : Nat} (e : Fg.root F.hd x = Fg.root F.hd x') (h : Go F c x y) : Go F c x' y := by
  cases c
  · obtain ⟨u, v, h1, h2, h3⟩ := h
    exact ⟨u, v, h1.trans e, h2, h3⟩
  · obtain ⟨u, v, h1, h2, h3⟩ := h
    exact ⟨u, v, h1.trans e, h2, h3⟩
  · obtain ⟨z, ⟨u, v, h1, h2, h3⟩, k⟩ := h
    exact ⟨z, ⟨u, v, h1.trans e, h2, h3⟩, k⟩
theorem go_right {F : Fo} {c : L} {x y y' : Nat} (e : Fg.root F.hd y = Fg.root F.hd y') (h : Go F c x y) : Go F c x y' := by
  cases c
  · obtain ⟨u, v, h1, h2, h3⟩ := h
    exact ⟨u, v, h1, h2, h3.trans e⟩
  · obtain ⟨u, v, h1, h2, h3⟩ := h
    exact ⟨u, v, h1, h2, h3.trans e⟩
  · obtain ⟨z, k, ⟨u, v, h1, h2, h3⟩⟩ := h
    exact ⟨z, k, ⟨u, v, h1, h2, h3.trans e⟩⟩
theorem walk_left {F : Fo} {w : Wd} {x x' y : Nat} (e : Fg.root F.hd x = Fg.root F.hd x') (h : Walk F w x y) : Walk F w x' y := by
  cases w with
  | nil => exact e.symm.trans h
  | cons c w => obtain ⟨z, h1, h2⟩ := h; exact ⟨z, go_left e h1, h2⟩
theorem walk_append {F : Fo} (u v : Wd) : ∀ {x y : Nat}, Walk F (u ++ v) x y ↔ ∃ z, Walk F u x z ∧ Walk F v z y := by
  induction u with
  | nil =>
    intro x y
    constructor
    · intro h; exact ⟨x, rfl, h⟩
    · rintro ⟨z, h1, h2⟩; exact walk_left h1.symm h2
  | cons c u ih =>
    intro x y
    constructor
    · rintro ⟨z, h1, h2⟩
      obtain ⟨t, k1, k2⟩ := ih.mp h2
      exact ⟨t, ⟨z, h1, k1⟩, k2⟩
    · rintro ⟨t, ⟨z, h1, k1⟩, k2⟩
      exact ⟨z, h1, ih.mpr ⟨t, k1, k2⟩⟩
theorem walk_right {F : Fo} {w : Wd} {x y y' : Nat} (e : Fg.root F.hd y = Fg.root F.hd y') (h : Walk F w x y) : Walk F w x y' := by
  have := (walk_append w [] (F := F) (x := x) (y := y')).mpr ⟨y, h, e⟩
  simpa using this
theorem walk_one {F : Fo} {c : L} {x y : Nat} : Walk F [c] x y ↔ Go F c x y := by
  constructor
  · rintro ⟨z, h1, h2⟩; exact go_right h2 h1
  · intro h; exact ⟨y, h, rfl⟩
/-! ### a step of putting together -/
def mergeF (F : Fo) (a b : Nat) : Fo := ⟨(bothB F.hs a b).1, (bothB F.ts a b).1, F.hd.set b a⟩
def roots (hd : List Nat) : Nat := ((List.range hd.length).filter fun x => hd.getD x x == x).length
theorem filter_erase (l : List Nat) (p : Nat → Bool) (b : Nat) (hb : b ∈ l) (nd : l.Nodup) (h : p b = true) : (l.filter fun x => p x && !(x == b)).length + 1 = (l.filter p).length := by
  induction l with
  | nil => simp at hb
  | cons x l ih =>
    rw [List.nodup_cons] at nd
    by_cases hx : x = b
    · subst hx
      simp only [List.filter_cons, beq_self_eq_true, Bool.not_true, Bool.and_false, h, if_true, List.length_cons]
      have e : (l.filter fun y => p y && !(y == x)) = l.filter p := by
        apply List.filter_congr
        intro y hy
        have : (y == x) = false := by
          rw [beq_eq_false_iff_ne]; intro e; subst e; exact nd.1 hy
        simp [this]
      rw [e]; simp
    · have hb2 : b ∈ l := by
        rcases List.mem_cons.mp hb with e | e
        · exact absurd e.symm hx
        · exact e
      have hxb : (x == b) = false := by simpa using hx
      have := ih hb2 nd.2
      simp only [List.filter_cons, hxb, Bool.not_false, Bool.and_true]
      split
      · simp only [List.length_cons]; omega
      · exact this
theorem roots_set {hd : List Nat} {a b : Nat} (hb : b < hd.length) (h : a < b) (rb : hd.getD b b = b) : roots (hd.set b a) + 1 = roots hd := by
  unfold roots
  rw [List.length_set]
  have e : ((List.range hd.length).filter fun x => (hd.set b a).getD x x == x) = (List.range hd.length).filter fun x => (hd.getD x x == x) && !(x == b) := by
    apply List.filter_congr
    intro x hx
    rw [getD_set _ _ _ _ hb]
    by_cases g : x = b
    · subst g
      rw [if_pos rfl]
      have : (a == x) = false := by rw [beq_eq_false_iff_ne]; omega
      simp [this]
    · rw [if_neg g]
      have : (x == b) = false := by simpa using g
      simp [this]
  rw [e]
  exact filter_erase _ (fun x => hd.getD x x == x) b (List.mem_range.mpr hb) List.nodup_range (by simpa using rb)
section
variable {F : Fo} {x y : Nat} {wt : List (Nat × Nat)}
theorem root_lt (L : Low F.hd) (h : x < F.n) : Fg.root F.hd x < F.n := Nat.lt_of_le_of_lt (root_le _ _) h
/-- the two are one already -/
theorem FI.skip (I : FI F ((x, y) :: wt)) (e : Fg.root F.hd x = Fg.root F.hd y) : FI F wt := by
  have mo : ∀ u v, Same2 F.hd ((x, y) :: wt) u v → Same2 F.hd wt u v := fun u v h => by
    refine h.mono (fun _ _ h => .root h) fun p q hp => ?_
    rcases List.mem_cons.mp hp with h | h
    · injection h with h1 h2
      subst h1 h2
      exact .root e
    · exact .wait h
  refine ⟨I.pos, I.low, ⟨I.lh.ln, I.lh.bd, fun u v h => ?_⟩, ⟨I.lt.ln, I.lt.bd, fun u v h => ?_⟩, fun u v h => ?_, fun u v h => ?_, fun p hp => I.wb p (List.mem_cons_of_mem _ hp)⟩
  · obtain ⟨z, e, q⟩ := I.lh.cp u v h; exact ⟨z, e, mo _ _ q⟩
  · obtain ⟨z, e, q⟩ := I.lt.cp u v h; exact ⟨z, e, mo _ _ q⟩
  · obtain ⟨z, e, q⟩ := I.b2 u v h; exact ⟨z, e, mo _ _ q⟩
  · obtain ⟨z, t, e, e2, q⟩ := I.b3 u v h; exact ⟨z, t, e, e2, mo _ _ q⟩
/-- one is put to the other -/
theorem FI.merge (I : FI F ((x, y) :: wt)) {a b : Nat} (hab : a < b) (h : (a = Fg.root F.hd x ∧ b = Fg.root F.hd y) ∨ (a = Fg.root F.hd y ∧ b = Fg.root F.hd x)) :
    FI (mergeF F a b) ((bothB F.ts a b).2 ++ ((bothB F.hs a b).2 ++ wt)) ∧ Ext F (mergeF F a b) ∧ roots (mergeF F a b).hd + 1 = roots F.hd ∧ (mergeF F a b).n = F.n ∧ b < F.n ∧
    ∀ {κ : Type} (P : κ → Prop) (s r : κ → κ) (f : Nat → κ), Hom P s r F f → (∀ p ∈ (x, y) :: wt, f p.1 = f p.2) → Hom P s r (mergeF F a b) f ∧ ∀ p ∈ (bothB F.ts a b).2 ++ ((bothB F.hs a b).2 ++ wt), f p.1 = f p.2 := by
  obtain ⟨bx, by_⟩ := I.wb (x, y) (by simp)
  have ra : F.hd.getD a a = a := by rcases h with ⟨rfl, _⟩ | ⟨rfl, _⟩ <;> exact root_is I.low _
  have rb : F.hd.getD b b = b := by rcases h with ⟨_, rfl⟩ | ⟨_, rfl⟩ <;> exact root_is I.low _
  have hb : b < F.hd.length := by rcases h with ⟨_, rfl⟩ | ⟨_, rfl⟩ <;> exact root_lt I.low (by assumption)
  have ha : a < F.hd.length := by omega
  have rs := root_set I.low hb hab ra rb
  have rt : ∀ u v, Fg.root F.hd u = Fg.root F.hd v → Fg.root (F.hd.set b a) u = Fg.root (F.hd.set b a) v := fun u v e => by rw [rs, rs, e]
  have one : Fg.root (F.hd.set b a) b = Fg.root (F.hd.set b a) a := by
    rw [rs, rs, root_fix ra, root_fix rb, if_pos rfl, if_neg (by omega)]
  have xy : Fg.root (F.hd.set b a) x = Fg.root (F.hd.set b a) y := by
    rw [rs, rs]
    rcases h with ⟨e1, e2⟩ | ⟨e1, e2⟩
    · rw [← e1, ← e2, if_neg (by omega), if_pos rfl]
    · rw [← e1, ← e2, if_pos rfl, if_neg (by omega)]
  have mo : ∀ u v, Same2 F.hd ((x, y) :: wt) u v → Same2 (F.hd.set b a) ((bothB F.ts a b).2 ++ ((bothB F.hs a b).2 ++ wt)) u v := fun u v q => by
    refine q.mono (fun _ _ e => .root (rt _ _ e)) fun p q hp => ?_
    rcases List.mem_cons.mp hp with h | h
    · injection h with h1 h2
      subst h1 h2
      exact .root xy
    · exact .wait (by simp [h])
  refine ⟨⟨by show 0 < (F.hd.set b a).length; rw [List.length_set]; exact I.pos, low_set I.low hb hab, ?_, ?_, ?_, ?_, fun p hp => ?_⟩, ⟨by show F.hd.length ≤ (F.hd.set b a).length; simp, fun u v e => bothB_old (by rw [I.lh.ln]; exact ha) e, fun u v e => bothB_old (by rw [I.lt.ln]; exact ha) e, rt⟩, roots_set hb hab rb, by show (F.hd.set b a).length = _; simp [Fo.n], hb, ?_⟩
  · exact I.lh.merge I.low hb hab ra rb mo fun p hp => by simp [hp]
  · exact I.lt.merge I.low hb hab ra rb mo fun p hp => by simp [hp]
  · exact I.b2.merge hb hab I.lh mo (.root one)
  · exact I.b3.merge hb hab I.lt mo (.root one)
  · show p.1 < (F.hd.set b a).length ∧ p.2 < (F.hd.set b a).length
    rw [List.length_set]
    rcases List.mem_append.mp hp with hp | hp
    · obtain ⟨e1, e2⟩ := bothB_mem (x := p.1) (y := p.2) hp
      exact ⟨I.lt.bd _ _ e1, I.lt.bd _ _ e2⟩
    · rcases List.mem_append.mp hp with hp | hp
      · obtain ⟨e1, e2⟩ := bothB_mem (x := p.1) (y := p.2) hp
        exact ⟨I.lh.bd _ _ e1, I.lh.bd _ _ e2⟩
      · exact I.wb p (List.mem_cons_of_mem _ hp)
  · intro κ P s r f H hw
    have fxy : f x = f y := hw (x, y) (by simp)
    have fab : f a = f b := by
      rcases h with ⟨e1, e2⟩ | ⟨e1, e2⟩
      · rw [e1, e2, H.root, H.root, fxy]
      · rw [e1, e2, H.root, H.root, fxy]
    refine ⟨⟨fun u hu => H.ps u (by have : u < (F.hd.set b a).length := hu; rw [List.length_set] at this; exact this), fun u v e => ?_, fun u v e => ?_, fun u => ?_⟩, fun p hp => ?_⟩
    · rcases bothB_new (by rw [I.lh.ln]; exact ha) e with e | ⟨rfl, _, e⟩
      · exact H.eh _ _ e
      · rw [H.eh _ _ e, fab]
    · rcases bothB_new (by rw [I.lt.ln]; exact ha) e with e | ⟨rfl, _, e⟩
      · exact H.et _ _ e
      · rw [H.et _ _ e, fab]
    · show f ((F.hd.set b a).getD u u) = f u
      rw [getD_set _ _ _ _ hb]
      split
      · rename_i e; rw [e, fab]
      · exact H.hd u
    · rcases List.mem_append.mp hp with hp | hp
      · obtain ⟨e1, e2⟩ := bothB_mem (x := p.1) (y := p.2) hp
        rw [H.et _ _ e1, H.et _ _ e2, fab]
      · rcases List.mem_append.mp hp with hp | hp
        · obtain ⟨e1, e2⟩ := bothB_mem (x := p.1) (y := p.2) hp
          rw [H.eh _ _ e1, H.eh _ _ e2, fab]
        · exact hw p (List.mem_cons_of_mem _ hp)
end
end Fg
/-! folding: places made, words walked; folded places are complete where the group has a table -/
namespace Fg
def addF (F : Fo) : Fo := ⟨F.hs ++ [none], F.ts ++ [none], F.hd ++ [F.n]⟩
def halfF (F : Fo) (p : Nat) : Fo := ⟨((F.hs ++ [none]).set p (some F.n)).set F.n (some p), F.ts ++ [none], F.hd ++ [F.n]⟩
def thirdF (F : Fo) (p : Nat) : Fo := ⟨F.hs ++ [none] ++ [none], (((F.ts ++ [none] ++ [none]).set p (some F.n)).set F.n (some (F.n + 1))).set (F.n + 1) (some p), F.hd ++ [F.n] ++ [F.n + 1]⟩
def halfB (F : Fo) (p : Nat) : Fo × Nat := match lk F.hs p with
  | none => (halfF F p, F.n)
  | some y => (F, root F.hd y)
def thirdB (F : Fo) (p : Nat) : Fo × Nat := match lk F.ts p with
  | none => (thirdF F p, F.n)
  | some y => (F, root F.hd y)
def stepF : L → Fo → Nat → Fo × Nat
  | .s, F, p => halfB F p
  | .r, F, p => thirdB F p
  | .q, F, p => thirdB (thirdB F p).1 (thirdB F p).2
def walkF (w : Wd) (F : Fo) (p : Nat) : Fo × Nat := w.foldl (fun G c => stepF c G.1 G.2) (F, p)
theorem lk_out {l : List (Option Nat)} {x : Nat} (h : l.length ≤ x) : lk l x = none := by
  unfold lk
  rw [List.getD_eq_getElem?_getD, List.getElem?_eq_none h]; rfl
theorem lk_none (l : List (Option Nat)) (x : Nat) : lk (l ++ [none]) x = lk l x := by
  rw [lk_app]
  split
  · rename_i h; rw [lk_out (by omega)]
  · rfl
theorem root_n (F : Fo) (x : Nat) (h : F.n ≤ x) : root F.hd x = x := root_out h
def Con (F : Fo) : Prop := ∀ x, x < F.n → ∃ w, Walk F w 0 x
/-- maps go on -/
structure HomExt (F G : Fo) : Prop where
  go : ∀ {κ : Type} (P : κ → Prop) (s r : κ → κ) (f : Nat → κ), Sys P s r → Hom P s r F f → ∃ g, Hom P s r G g ∧ ∀ x, x < F.n → g x = f x
theorem HomExt.refl (F : Fo) : HomExt F F := ⟨fun P s r f _ H => ⟨f, H, fun _ _ => rfl⟩⟩
theorem HomExt.trans {F G H : Fo} (e : F.n ≤ G.n) (a : HomExt F G) (b : HomExt G H) : HomExt F H := ⟨fun P s r f S h => by
  obtain ⟨g, h1, e1⟩ := a.go P s r f S h
  obtain ⟨k, h2, e2⟩ := b.go P s r g S h1
  exact ⟨k, h2, fun x hx => (e2 x (by omega)).trans (e1 x hx)⟩⟩
/-- what a step leaves -/
structure Stepped (F : Fo) (p : Nat) (w : Wd) (G : Fo) (y : Nat) : Prop where
  fi : FI G []
  con : Con G
  ext : Ext F G
  lt : y < G.n
  rt : root G.hd y = y
  go : Walk G w p y
  hom : HomExt F G
  sz : G.n ≤ F.n + 4 * w.length
section
variable {F : Fo} {p : Nat}
theorem FI.lk_lt (I : FI F []) {x y : Nat} (h : lk F.hs x = some y) : x < F.n := by
  have := Fg.lk_lt h
  rw [I.lh.ln] at this; exact this
theorem FI.lk_lt3 (I : FI F []) {x y : Nat} (h : lk F.ts x = some y) : x < F.n := by
  have := Fg.lk_lt h
  rw [I.lt.ln] at this; exact this
theorem half_lk (I : FI F []) (hp : p < F.n) (x : Nat) : lk (halfF F p).hs x = if x = F.n then some p else if x = p then some F.n else lk F.hs x := by
  show lk (((F.hs ++ [none]).set p (some F.n)).set F.n (some p)) x = _
  have hl : F.hs.length = F.n := I.lh.ln
  rw [lk_set _ _ _ _ (by simp [hl]), lk_set _ _ _ _ (by simp [hl]; omega), lk_none]
theorem half_ok (I : FI F []) (C : Con F) (hp : p < F.n) (hr : root F.hd p = p) (hn : lk F.hs p = none) : Stepped F p [.s] (halfF F p) F.n := by
  have L := I.low
  have ra : ∀ x, root (halfF F p).hd x = root F.hd x := root_app L
  have kh := half_lk I hp
  have kt : ∀ x, lk (halfF F p).ts x = lk F.ts x := lk_none F.ts
  have hl : F.hs.length = F.n := I.lh.ln
  have hl2 : F.ts.length = F.n := I.lt.ln
  have hN : (halfF F p).n = F.n + 1 := by show (F.hd ++ [F.n]).length = _; simp [Fo.n]
  have rn : root (halfF F p).hd F.n = F.n := by rw [ra, root_n F _ (Nat.le_refl _)]
  have old : ∀ x y, lk F.hs x = some y → lk (halfF F p).hs x = some y := fun x y h => by
    rw [kh, if_neg (by have := I.lk_lt h; omega), if_neg (by intro e; subst e; rw [hn] at h; cases h)]; exact h
  have q : ∀ {x y}, Same2 F.hd [] x y → Same2 (halfF F p).hd [] x y := fun h => h.mono (fun x y e => .root (by rw [ra, ra]; exact e)) fun _ _ h => by simp at h
  have ext : Ext F (halfF F p) := ⟨by omega, old, fun x y h => by rw [kt]; exact h, fun x y h => by rw [ra, ra]; exact h⟩
  have go : Go (halfF F p) .s p F.n := ⟨p, F.n, rfl, by rw [kh, if_neg (by omega), if_pos rfl], rfl⟩
  refine ⟨⟨by omega, low_app L, ⟨?_, ?_, ?_⟩, ⟨?_, ?_, ?_⟩, ?_, ?_, by simp⟩, ?_, ext, by omega, rn, ⟨F.n, go, rfl⟩, ?_, by simp only [List.length_cons, List.length_nil]; omega⟩
  · show (((F.hs ++ [none]).set p (some F.n)).set F.n (some p)).length = (F.hd ++ [F.n]).length
    simp [hl]; rfl
  · intro x y h
    show y < (halfF F p).n
    rw [kh] at h
    split at h
    · injection h with h; omega
    · split at h
      · injection h with h; omega
      · have := I.lh.bd _ _ h
        have : y < F.n := this
        omega
  · intro x y h
    rw [ra]
    have h0 := h
    rw [kh] at h
    split at h
    · rename_i e
      subst e
      rw [root_n F _ (Nat.le_refl _)]
      exact ⟨y, h0, .root rfl⟩
    · split at h
      · rename_i e
        subst e
        rw [hr]
        exact ⟨y, h0, .root rfl⟩
      · obtain ⟨y', e, k⟩ := I.lh.cp x y h
        exact ⟨y', old _ _ e, q k⟩
  · show (F.ts ++ [none]).length = (F.hd ++ [F.n]).length
    simp [hl2]; rfl
  · intro x y h
    rw [kt] at h
    have h1 := I.lt.bd _ _ h
    show y < (halfF F p).n
    have : y < F.n := h1
    omega
  · intro x y h
    rw [kt] at h
    rw [ra]
    obtain ⟨y', e, k⟩ := I.lt.cp x y h
    exact ⟨y', by rw [kt]; exact e, q k⟩
  · intro x y h
    rw [kh] at h
    split at h
    · rename_i e
      subst e
      injection h with h
      subst h
      exact ⟨F.n, by rw [kh, if_neg (by omega), if_pos rfl], .root rfl⟩
    · split at h
      · rename_i e
        subst e
        injection h with h
        subst h
        exact ⟨x, by rw [kh, if_pos rfl], .root rfl⟩
      · obtain ⟨z, e, k⟩ := I.b2 x y h
        exact ⟨z, old _ _ e, q k⟩
  · intro x y h
    rw [kt] at h
    obtain ⟨z, u, e1, e2, k⟩ := I.b3 x y h
    exact ⟨z, u, by rw [kt]; exact e1, by rw [kt]; exact e2, q k⟩
  · intro x hx
    by_cases e : x = F.n
    · subst e
      obtain ⟨w, hw⟩ := C p hp
      exact ⟨w ++ [.s], (walk_append w [.s]).mpr ⟨p, ext.walk w hw, walk_one.mpr go⟩⟩
    · obtain ⟨w, hw⟩ := C x (by omega)
      exact ⟨w, ext.walk w hw⟩
  · constructor
    intro κ P s r f S H
    refine ⟨fun x => if x = F.n then s (f p) else f x, ⟨fun x hx => ?_, fun x y h => ?_, fun x y h => ?_, fun x => ?_⟩, fun x hx => if_neg (by omega)⟩
    · show P (if x = F.n then s (f p) else f x)
      split
      · exact S.ps _ (H.ps p hp)
      · exact H.ps x (by omega)
    · rw [kh] at h
      show (if y = F.n then s (f p) else f y) = s (if x = F.n then s (f p) else f x)
      split at h
      · rename_i e
        injection h with h
        subst h
        rw [if_neg (by omega), if_pos e, S.ss _ (H.ps p hp)]
      · rename_i e1
        split at h
        · rename_i e
          subst e
          injection h with h
          subst h
          rw [if_pos rfl, if_neg e1]
        · have h1 : y < F.n := I.lh.bd _ _ h
          rw [if_neg (by omega), if_neg e1]
          exact H.eh _ _ h
    · rw [kt] at h
      have h1 : y < F.n := I.lt.bd _ _ h
      have h2 := I.lk_lt3 h
      show (if y = F.n then s (f p) else f y) = r (if x = F.n then s (f p) else f x)
      rw [if_neg (by omega), if_neg (by omega)]
      exact H.et _ _ h
    · show (if (F.hd ++ [F.n]).getD x x = F.n then s (f p) else f ((F.hd ++ [F.n]).getD x x)) = if x = F.n then s (f p) else f x
      rw [getD_app]
      by_cases e : x = F.n
      · subst e
        rw [if_pos (show F.n = F.hd.length from rfl), if_pos rfl]
      · rw [if_neg (show ¬ x = F.hd.length from e), if_neg e]
        by_cases g : x < F.n
        · have := L x
          rw [if_neg (by omega)]
          exact H.hd x
        · have : F.hd.getD x x = x := by
            rw [List.getD_eq_getElem?_getD, List.getElem?_eq_none (by show F.n ≤ x; omega)]; rfl
          rw [this, if_neg e]
theorem third_lk (I : FI F []) (hp : p < F.n) (x : Nat) : lk (thirdF F p).ts x = if x = F.n + 1 then some p else if x = F.n then some (F.n + 1) else if x = p then some F.n else lk F.ts x := by
  show lk ((((F.ts ++ [none] ++ [none]).set p (some F.n)).set F.n (some (F.n + 1))).set (F.n + 1) (some p)) x = _
  have hl : F.ts.length = F.n := I.lt.ln
  rw [lk_set _ _ _ _ (by simp [hl]), lk_set _ _ _ _ (by simp [hl]), lk_set _ _ _ _ (by simp [hl]; omega), lk_none, lk_none]
theorem third_ok (I : FI F []) (C : Con F) (hp : p < F.n) (hr : root F.hd p = p) (hn : lk F.ts p = none) : Stepped F p [.r] (thirdF F p) F.n := by
  have L := I.low
  have L1 := low_app L
  have hl : F.hs.length = F.n := I.lh.ln
  have hl2 : F.ts.length = F.n := I.lt.ln
  have ea : F.hd ++ [F.n] ++ [F.n + 1] = (F.hd ++ [F.hd.length]) ++ [(F.hd ++ [F.hd.length]).length] := by simp [Fo.n]
  have ra : ∀ x, root (thirdF F p).hd x = root F.hd x := fun x => by
    show root (F.hd ++ [F.n] ++ [F.n + 1]) x = _
    rw [ea, root_app L1, root_app L]
  have kt := third_lk I hp
  have kh : ∀ x, lk (thirdF F p).hs x = lk F.hs x := fun x => by
    show lk (F.hs ++ [none] ++ [none]) x = _
    rw [lk_none, lk_none]
  have hN : (thirdF F p).n = F.n + 2 := by show (F.hd ++ [F.n] ++ [F.n + 1]).length = _; simp [Fo.n]
  have rn : root (thirdF F p).hd F.n = F.n := by rw [ra, root_n F _ (Nat.le_refl _)]
  have rn1 : root (thirdF F p).hd (F.n + 1) = F.n + 1 := by rw [ra, root_n F _ (Nat.le_succ _)]
  have old : ∀ x y, lk F.ts x = some y → lk (thirdF F p).ts x = some y := fun x y h => by
    have := I.lk_lt3 h
    rw [kt, if_neg (by omega), if_neg (by omega), if_neg (by intro e; subst e; rw [hn] at h; cases h)]; exact h
  have k0 : lk (thirdF F p).ts p = some F.n := by rw [kt, if_neg (by omega), if_neg (by omega), if_pos rfl]
  have k1 : lk (thirdF F p).ts F.n = some (F.n + 1) := by rw [kt, if_neg (by omega), if_pos rfl]
  have k2 : lk (thirdF F p).ts (F.n + 1) = some p := by rw [kt, if_pos rfl]
  have cs : ∀ {x y}, lk (thirdF F p).ts x = some y → (x = F.n + 1 ∧ y = p) ∨ (x = F.n ∧ y = F.n + 1) ∨ (x = p ∧ y = F.n) ∨ lk F.ts x = some y := fun {x y} h => by
    rw [kt] at h
    split at h
    · injection h with h; exact .inl ⟨by assumption, h.symm⟩
    · split at h
      · injection h with h; exact .inr (.inl ⟨by assumption, h.symm⟩)
      · split at h
        · injection h with h; exact .inr (.inr (.inl ⟨by assumption, h.symm⟩))
        · exact .inr (.inr (.inr h))
  have q : ∀ {x y}, Same2 F.hd [] x y → Same2 (thirdF F p).hd [] x y := fun h => h.mono (fun x y e => .root (by rw [ra, ra]; exact e)) fun _ _ h => by simp at h
  have ext : Ext F (thirdF F p) := ⟨by omega, fun x y h => by rw [kh]; exact h, old, fun x y h => by rw [ra, ra]; exact h⟩
  have go : Go (thirdF F p) .r p F.n := ⟨p, F.n, rfl, k0, rfl⟩
  have go2 : Go (thirdF F p) .r F.n (F.n + 1) := ⟨F.n, F.n + 1, rfl, k1, rfl⟩
  refine ⟨⟨by omega, by show Low (F.hd ++ [F.n] ++ [F.n + 1]); rw [ea]; exact low_app L1, ⟨?_, ?_, ?_⟩, ⟨?_, ?_, ?_⟩, ?_, ?_, by simp⟩, ?_, ext, by omega, rn, ⟨F.n, go, rfl⟩, ?_, by simp only [List.length_cons, List.length_nil]; omega⟩
  · show (F.hs ++ [none] ++ [none]).length = (F.hd ++ [F.n] ++ [F.n + 1]).length
    simp [hl]; rfl
  · intro x y h
    rw [kh] at h
    have h1 : y < F.n := I.lh.bd _ _ h
    show y < (thirdF F p).n
    omega
  · intro x y h
    rw [kh] at h
    rw [ra]
    obtain ⟨y', e, k⟩ := I.lh.cp x y h
    exact ⟨y', by rw [kh]; exact e, q k⟩
  · show ((((F.ts ++ [none] ++ [none]).set p (some F.n)).set F.n (some (F.n + 1))).set (F.n + 1) (some p)).length = (F.hd ++ [F.n] ++ [F.n + 1]).length
    simp [hl2]; rfl
  · intro x y h
    show y < (thirdF F p).n
    rcases cs h with ⟨_, e⟩ | ⟨_, e⟩ | ⟨_, e⟩ | h
    · omega
    · omega
    · omega
    · have : y < F.n := I.lt.bd _ _ h
      omega
  · intro x y h
    rw [ra]
    rcases cs h with ⟨e, _⟩ | ⟨e, _⟩ | ⟨e, _⟩ | h'
    · rw [root_n F x (by omega)]; exact ⟨y, h, .root rfl⟩
    · rw [root_n F x (by omega)]; exact ⟨y, h, .root rfl⟩
    · rw [show root F.hd x = x by rw [e]; exact hr]; exact ⟨y, h, .root rfl⟩
    · obtain ⟨y', e, k⟩ := I.lt.cp x y h'
      exact ⟨y', old _ _ e, q k⟩
  · intro x y h
    rw [kh] at h
    obtain ⟨z, e, k⟩ := I.b2 x y h
    exact ⟨z, by rw [kh]; exact e, q k⟩
  · intro x y h
    rcases cs h with ⟨e1, e2⟩ | ⟨e1, e2⟩ | ⟨e1, e2⟩ | h'
    · subst e1 e2; exact ⟨_, _, k0, k1, .root rfl⟩
    · subst e1 e2; exact ⟨_, _, k2, k0, .root rfl⟩
    · subst e1 e2; exact ⟨_, _, k1, k2, .root rfl⟩
    · obtain ⟨z, u, e1, e2, k⟩ := I.b3 x y h'
      exact ⟨z, u, old _ _ e1, old _ _ e2, q k⟩
  · intro x hx
    by_cases e : x < F.n
    · obtain ⟨w, hw⟩ := C x e
      exact ⟨w, ext.walk w hw⟩
    · obtain ⟨w, hw⟩ := C p hp
      have h1 : Walk (thirdF F p) (w ++ [.r]) 0 F.n := (walk_append w [.r]).mpr ⟨p, ext.walk w hw, walk_one.mpr go⟩
      by_cases e2 : x = F.n
      · subst e2; exact ⟨_, h1⟩
      · have e3 : x = F.n + 1 := by omega
        subst e3
        exact ⟨(w ++ [.r]) ++ [.r], (walk_append _ [.r]).mpr ⟨_, h1, walk_one.mpr go2⟩⟩
  · constructor
    intro κ P s r f S H
    have pp := H.ps p hp
    have g0 : ∀ x, x < F.n → (if x = F.n then r (f p) else if x = F.n + 1 then r (r (f p)) else f x) = f x := fun x hx => by rw [if_neg (by omega), if_neg (by omega)]
    have g1 : (if F.n = F.n then r (f p) else if F.n = F.n + 1 then r (r (f p)) else f F.n) = r (f p) := if_pos rfl
    have g2 : (if F.n + 1 = F.n then r (f p) else if F.n + 1 = F.n + 1 then r (r (f p)) else f (F.n + 1)) = r (r (f p)) := by rw [if_neg (by omega), if_pos rfl]
    refine ⟨fun x => if x = F.n then r (f p) else if x = F.n + 1 then r (r (f p)) else f x, ⟨fun x hx => ?_, fun x y h => ?_, fun x y h => ?_, fun x => ?_⟩, g0⟩
    · by_cases e : x < F.n
      · show P (if x = F.n then r (f p) else if x = F.n + 1 then r (r (f p)) else f x)
        rw [g0 x e]; exact H.ps x e
      · by_cases e2 : x = F.n
        · subst e2
          show P (if F.n = F.n then r (f p) else if F.n = F.n + 1 then r (r (f p)) else f F.n)
          rw [g1]; exact S.pr _ pp
        · have e3 : x = F.n + 1 := by omega
          subst e3
          show P (if F.n + 1 = F.n then r (f p) else if F.n + 1 = F.n + 1 then r (r (f p)) else f (F.n + 1))
          rw [g2]; exact S.pr _ (S.pr _ pp)
    · rw [kh] at h
      have h1 : y < F.n := I.lh.bd _ _ h
      have h2 := I.lk_lt h
      show (if y = F.n then r (f p) else if y = F.n + 1 then r (r (f p)) else f y) = s (if x = F.n then r (f p) else if x = F.n + 1 then r (r (f p)) else f x)
      rw [g0 y h1, g0 x h2]
      exact H.eh _ _ h
    · show (if y = F.n then r (f p) else if y = F.n + 1 then r (r (f p)) else f y) = r (if x = F.n then r (f p) else if x = F.n + 1 then r (r (f p)) else f x)
      rcases cs h with ⟨e1, e2⟩ | ⟨e1, e2⟩ | ⟨e1, e2⟩ | h'
      · subst e1 e2; rw [g2, g0 _ hp, S.rrr _ pp]
      · subst e1 e2; rw [g2, g1]
      · subst e1 e2; rw [g1, g0 _ hp]
      · have h1 : y < F.n := I.lt.bd _ _ h'
        rw [g0 y h1, g0 x (I.lk_lt3 h')]
        exact H.et _ _ h'
    · show (if (F.hd ++ [F.n] ++ [F.n + 1]).getD x x = F.n then r (f p) else if (F.hd ++ [F.n] ++ [F.n + 1]).getD x x = F.n + 1 then r (r (f p)) else f ((F.hd ++ [F.n] ++ [F.n + 1]).getD x x)) = if x = F.n then r (f p) else if x = F.n + 1 then r (r (f p)) else f x
      have e0 : (F.hd ++ [F.n]).length = F.n + 1 := by simp [Fo.n]
      rw [getD_app, getD_app, e0]
      by_cases e1 : x = F.n + 1
      · rw [if_pos e1, e1]
      · rw [if_neg e1]
        by_cases e2 : x = F.n
        · rw [if_pos (show x = F.hd.length from e2), e2]
        · rw [if_neg (show ¬ x = F.hd.length from e2)]
          by_cases g : x < F.n
          · have := L x
            rw [g0 _ (by omega), g0 x g]; exact H.hd x
          · have : F.hd.getD x x = x := by
              rw [List.getD_eq_getElem?_getD, List.getElem?_eq_none (by show F.n ≤ x; omega)]; rfl
            rw [this]
theorem halfB_ok (I : FI F []) (C : Con F) (hp : p < F.n) (hr : root F.hd p = p) : Stepped F p [.s] (halfB F p).1 (halfB F p).2 := by
  unfold halfB
  cases h : lk F.hs p with
  | none => exact half_ok I C hp hr h
  | some y =>
    have hy : y < F.n := I.lh.bd _ _ h
    exact ⟨I, C, .refl F, root_lt I.low hy, root_root I.low y, ⟨root F.hd y, ⟨p, y, rfl, h, (root_root I.low y).symm⟩, rfl⟩, .refl F, by simp⟩
theorem thirdB_ok (I : FI F []) (C : Con F) (hp : p < F.n) (hr : root F.hd p = p) : Stepped F p [.r] (thirdB F p).1 (thirdB F p).2 := by
  unfold thirdB
  cases h : lk F.ts p with
  | none => exact third_ok I C hp hr h
  | some y =>
    have hy : y < F.n := I.lt.bd _ _ h
    exact ⟨I, C, .refl F, root_lt I.low hy, root_root I.low y, ⟨root F.hd y, ⟨p, y, rfl, h, (root_root I.low y).symm⟩, rfl⟩, .refl F, by simp⟩
end
theorem thirdB_n (F : Fo) (p : Nat) : (thirdB F p).1.n ≤ F.n + 2 := by
  unfold thirdB
  split
  · show (F.hd ++ [F.n] ++ [F.n + 1]).length ≤ _; simp [Fo.n]
  · simp
theorem stepF_ok {F : Fo} {p : Nat} (c : L) (I : FI F []) (C : Con F) (hp : p < F.n) (hr : root F.hd p = p) : Stepped F p [c] (stepF c F p).1 (stepF c F p).2 := by
  cases c
  · exact halfB_ok I C hp hr
  · exact thirdB_ok I C hp hr
  · have a := thirdB_ok I C hp hr
    have b := thirdB_ok a.fi a.con a.lt a.rt
    have n1 := thirdB_n F p
    have n2 := thirdB_n (thirdB F p).1 (thirdB F p).2
    refine ⟨b.fi, b.con, a.ext.trans b.ext, b.lt, b.rt, ?_, a.hom.trans a.ext.n b.hom, by simp only [List.length_cons, List.length_nil]; show (thirdB (thirdB F p).1 (thirdB F p).2).1.n ≤ _; omega⟩
    refine ⟨_, ⟨(thirdB F p).2, b.ext.go (walk_one.mp a.go), walk_one.mp b.go⟩, rfl⟩
theorem walkF_ok (w : Wd) : ∀ {F : Fo} {p : Nat}, FI F [] → Con F → p < F.n → root F.hd p = p → Stepped F p w (walkF w F p).1 (walkF w F p).2 := by
  induction w with
  | nil => intro F p I C hp hr; exact ⟨I, C, .refl F, hp, hr, rfl, .refl F, Nat.le_refl _⟩
  | cons c w ih =>
    intro F p I C hp hr
    have a := stepF_ok c I C hp hr
    have b := ih a.fi a.con a.lt a.rt
    show Stepped F p (c :: w) (walkF w (stepF c F p).1 (stepF c F p).2).1 (walkF w (stepF c F p).1 (stepF c F p).2).2
    refine ⟨b.fi, b.con, a.ext.trans b.ext, b.lt, b.rt, ⟨_, b.ext.go (walk_one.mp a.go), b.go⟩, a.hom.trans a.ext.n b.hom, ?_⟩
    have h1 := a.sz
    have h2 := b.sz
    simp only [List.length_cons, List.length_nil] at *
    omega
/-- more may wait -/
theorem FI.more {F : Fo} {wt : List (Nat × Nat)} (I : FI F wt) {x y : Nat} (hx : x < F.n) (hy : y < F.n) : FI F ((x, y) :: wt) := by
  have mo : ∀ u v, Same2 F.hd wt u v → Same2 F.hd ((x, y) :: wt) u v := fun u v h => h.mono (fun _ _ h => .root h) fun p q hp => .wait (List.mem_cons_of_mem _ hp)
  refine ⟨I.pos, I.low, ⟨I.lh.ln, I.lh.bd, fun u v h => ?_⟩, ⟨I.lt.ln, I.lt.bd, fun u v h => ?_⟩, fun u v h => ?_, fun u v h => ?_, fun p hp => ?_⟩
  · obtain ⟨z, e, q⟩ := I.lh.cp u v h; exact ⟨z, e, mo _ _ q⟩
  · obtain ⟨z, e, q⟩ := I.lt.cp u v h; exact ⟨z, e, mo _ _ q⟩
  · obtain ⟨z, e, q⟩ := I.b2 u v h; exact ⟨z, e, mo _ _ q⟩
  · obtain ⟨z, t, e, e2, q⟩ := I.b3 u v h; exact ⟨z, t, e, e2, mo _ _ q⟩
  · rcases List.mem_cons.mp hp with rfl | hp
    · exact ⟨hx, hy⟩
    · exact I.wb p hp
/-- what putting together leaves, from a state F in which x and y are to be one -/
structure Put (F : Fo) (x y : Nat) (G : Fo) (wt : List (Nat × Nat)) : Prop where
  fi : FI G wt
  ext : Ext F G
  n : G.n = F.n
  one : Same2 G.hd wt x y
  hom : ∀ {κ : Type} (P : κ → Prop) (s r : κ → κ) (f : Nat → κ), Hom P s r F f → f x = f y → Hom P s r G f ∧ ∀ p ∈ wt, f p.1 = f p.2
theorem Put.start {F : Fo} (I : FI F []) {x y : Nat} (hx : x < F.n) (hy : y < F.n) : Put F x y F [(x, y)] :=
  ⟨I.more hx hy, .refl F, rfl, .wait (by simp), fun P s r f H e => ⟨H, fun p hp => by simp at hp; subst hp; exact e⟩⟩
theorem Put.skip {F G : Fo} {x y a b : Nat} {wt : List (Nat × Nat)} (R : Put F x y G ((a, b) :: wt)) (e : root G.hd a = root G.hd b) : Put F x y G wt := by
  refine ⟨R.fi.skip e, R.ext, R.n, ?_, fun P s r f H k => ?_⟩
  · refine R.one.mono (fun _ _ h => .root h) fun p q hp => ?_
    rcases List.mem_cons.mp hp with h | h
    · injection h with h1 h2
      subst h1 h2
      exact .root e
    · exact .wait h
  · obtain ⟨h1, h2⟩ := R.hom P s r f H k
    exact ⟨h1, fun p hp => h2 p (List.mem_cons_of_mem _ hp)⟩
theorem Put.merge {F G : Fo} {x y u v a b : Nat} {wt : List (Nat × Nat)} (R : Put F x y G ((u, v) :: wt)) (hab : a < b) (h : (a = root G.hd u ∧ b = root G.hd v) ∨ (a = root G.hd v ∧ b = root G.hd u)) :
    Put F x y (mergeF G a b) ((bothB G.ts a b).2 ++ ((bothB G.hs a b).2 ++ wt)) ∧ roots (mergeF G a b).hd + 1 = roots G.hd ∧ b < G.n := by
  obtain ⟨m1, m2, m3, m4, m5, m6⟩ := R.fi.merge hab h
  have ra : G.hd.getD a a = a := by rcases h with ⟨rfl, _⟩ | ⟨rfl, _⟩ <;> exact root_is R.fi.low _
  have rb : G.hd.getD b b = b := by rcases h with ⟨_, rfl⟩ | ⟨_, rfl⟩ <;> exact root_is R.fi.low _
  refine ⟨⟨m1, R.ext.trans m2, m4.trans R.n, ?_, fun P s r f H k => ?_⟩, m3, m5⟩
  · refine R.one.mono (fun _ _ h => .root (m2.rt _ _ h)) fun p q hp => ?_
    rcases List.mem_cons.mp hp with e | e
    · injection e with e1 e2
      subst e1 e2
      refine .root ?_
      show root (G.hd.set b a) p = root (G.hd.set b a) q
      rw [root_set R.fi.low m5 hab ra rb, root_set R.fi.low m5 hab ra rb]
      rcases h with ⟨h1, h2⟩ | ⟨h1, h2⟩
      · rw [← h1, ← h2, if_neg (by omega), if_pos rfl]
      · rw [← h1, ← h2, if_pos rfl, if_neg (by omega)]
    · exact .wait (by simp [e])
  · obtain ⟨h1, h2⟩ := R.hom P s r f H k
    exact m6 P s r f h1 h2
/-! ### the words folded so far -/
structure Folded (F : Fo) (ws : List Wd) : Prop where
  fi : FI F []
  con : Con F
  rd : ∀ w ∈ ws, Walk F w 0 0
  sound : ∀ {κ : Type} (P : κ → Prop) (s r : κ → κ) (p : κ), Sys P s r → P p → (∀ w ∈ ws, run s r w p = p) → ∃ f, Hom P s r F f ∧ f 0 = p
def F0 : Fo := ⟨[none], [none], [0]⟩
theorem lk_F0 (x : Nat) : lk [none] x = none := by
  unfold lk
  cases x <;> rfl
theorem folded_start : Folded F0 [] := by
  have L : Low [0] := by intro x; cases x <;> simp [List.getD_eq_getElem?_getD]
  have k : ∀ x y, ¬ lk [none] x = some y := fun x y h => by rw [lk_F0] at h; cases h
  have I : FI F0 [] := ⟨by decide, L, ⟨rfl, fun x y h => absurd h (k x y), fun x y h => absurd h (k x y)⟩, ⟨rfl, fun x y h => absurd h (k x y), fun x y h => absurd h (k x y)⟩, fun x y h => absurd h (k x y), fun x y h => absurd h (k x y), by simp⟩
  refine ⟨I, fun x hx => ?_, by simp, fun P s r p S hp _ => ?_⟩
  · have : x = 0 := by have : x < 1 := hx; omega
    subst this
    exact ⟨[], rfl⟩
  · refine ⟨fun _ => p, ⟨fun _ _ => hp, fun x y h => absurd h (k x y), fun x y h => absurd h (k x y), fun _ => rfl⟩, rfl⟩
theorem hom_walk {κ : Type} {P : κ → Prop} {s r : κ → κ} {F : Fo} {f : Nat → κ} (H : Hom P s r F f) (w : Wd) : ∀ {x y : Nat}, Walk F w x y → f y = run s r w (f x) := by
  have edge : ∀ {l : List (Option Nat)} {g : κ → κ}, (∀ x y, lk l x = some y → f y = g (f x)) → ∀ {x y}, EdgeOf F.hd l x y → f y = g (f x) := by
    intro l g h x y hxy
    obtain ⟨x', y', e1, e2, e3⟩ := hxy
    rw [← H.root y, ← e3, H.root, h _ _ e2, ← H.root x', e1, H.root]
  induction w with
  | nil =>
    intro x y h
    have h : root F.hd x = root F.hd y := h
    rw [← H.root y, ← h, H.root]; rfl
  | cons c w ih =>
    intro x y ⟨z, h1, h2⟩
    rw [ih h2, run_cons]
    congr 1
    cases c
    · exact edge H.eh h1
    · exact edge H.et h1
    · obtain ⟨t, k1, k2⟩ := h1
      rw [edge H.et k2, edge H.et k1]; rfl
/-- one word more -/
theorem Folded.word {F G : Fo} {ws : List Wd} {w : Wd} (A : Folded F ws) (R : Put (walkF w F 0).1 (walkF w F 0).2 0 G []) : Folded G (ws ++ [w]) := by
  have p0 : root F.hd 0 = 0 := Nat.le_zero.mp (root_le _ _)
  have St := walkF_ok w A.fi A.con A.fi.pos p0
  have e := St.ext.trans R.ext
  refine ⟨R.fi, fun x hx => ?_, fun v hv => ?_, fun P s r p S hp hw => ?_⟩
  · rw [R.n] at hx
    obtain ⟨v, hv⟩ := St.con x hx
    exact ⟨v, R.ext.walk v hv⟩
  · rcases List.mem_append.mp hv with hv | hv
    · exact e.walk v (A.rd v hv)
    · simp at hv
      subst hv
      exact walk_right R.one.nil (R.ext.walk v St.go)
  · obtain ⟨f, H, f0⟩ := A.sound P s r p S hp fun v hv => hw v (by simp [hv])
    obtain ⟨g, H2, e2⟩ := St.hom.go P s r f S H
    have g0 : g 0 = p := by rw [e2 0 A.fi.pos, f0]
    have g1 := hom_walk H2 w St.go
    rw [g0, hw w (by simp)] at g1
    exact ⟨g, (R.hom P s r g H2 (by rw [g1, g0])).1, g0⟩
end Fg
/-! folded places are complete, and tell the table -/
namespace Fg
theorem Alt.append {a b : Wd} (ha : Alt a) (hb : Alt b) (h : ∀ x ∈ a.getLast?, ∀ y ∈ b.head?, isS x ≠ isS y) : Alt (a ++ b) := by
  induction a with
  | nil => exact hb
  | cons x a ih =>
    cases a with
    | nil =>
      cases b with
      | nil => trivial
      | cons y b => exact ⟨h x (by simp) y (by simp), hb⟩
    | cons z a =>
      refine ⟨ha.1, ih ha.2 fun u hu y hy => h u ?_ y hy⟩
      simpa using hu
theorem Alt.map {w : Wd} (h : Alt w) : Alt (w.map linv) := by
  induction w with
  | nil => trivial
  | cons x w ih =>
    cases w with
    | nil => trivial
    | cons y w =>
      refine ⟨?_, ih h.2⟩
      have := h.1
      cases x <;> cases y <;> simp_all [isS, linv]
theorem Alt.winv {w : Wd} (h : Alt w) : Alt (winv w) := h.map.reverse
theorem rep_succ (w : Wd) (n : Nat) : rep w (n + 1) = w ++ rep w n := by simp [rep, List.replicate_succ]
theorem rep_succ' (w : Wd) (n : Nat) : rep w (n + 1) = rep w n ++ w := by simp [rep, List.replicate_succ']
theorem alt_rs (n : Nat) : Alt (rep [.r, .s] n) ∧ (∀ x ∈ (rep [.r, .s] n).getLast?, isS x = true) ∧ (∀ x ∈ (rep [.r, .s] n).head?, isS x = false) := by
  induction n with
  | zero => exact ⟨trivial, by simp [rep], by simp [rep]⟩
  | succ n ih =>
    rw [rep_succ]
    refine ⟨Alt.append ⟨by decide, trivial⟩ ih.1 fun x hx y hy => ?_, ?_, by simp [isS]⟩
    · simp at hx
      subst hx
      rw [ih.2.2 y hy]; decide
    · intro x hx
      rw [List.getLast?_append] at hx
      cases h : (rep [.r, .s] n).getLast? with
      | none => rw [h] at hx; simp at hx; subst hx; rfl
      | some y => rw [h] at hx; simp at hx; subst hx; exact ih.2.1 _ (by rw [h]; simp)
theorem alt_sr (n : Nat) : Alt (rep [.s, .r] n) ∧ (∀ x ∈ (rep [.s, .r] n).getLast?, isS x = false) ∧ (∀ x ∈ (rep [.s, .r] n).head?, isS x = true) := by
  induction n with
  | zero => exact ⟨trivial, by simp [rep], by simp [rep]⟩
  | succ n ih =>
    rw [rep_succ]
    refine ⟨Alt.append ⟨by decide, trivial⟩ ih.1 fun x hx y hy => ?_, ?_, by simp [isS]⟩
    · simp at hx
      subst hx
      rw [ih.2.2 y hy]; decide
    · intro x hx
      rw [List.getLast?_append] at hx
      cases h : (rep [.s, .r] n).getLast? with
      | none => rw [h] at hx; simp at hx; subst hx; rfl
      | some y => rw [h] at hx; simp at hx; subst hx; exact ih.2.1 _ (by rw [h]; simp)
/-! ### a place comes back -/
def iter (f : Nat → Nat) : Nat → Nat → Nat
  | 0, x => x
  | k + 1, x => iter f k (f x)
theorem iter_lt {f : Nat → Nat} {n : Nat} (hf : ∀ x, x < n → f x < n) : ∀ k x, x < n → iter f k x < n := by
  intro k
  induction k with
  | zero => intro x h; exact h
  | succ k ih => intro x h; exact ih _ (hf x h)
theorem iter_add (f : Nat → Nat) (j k x : Nat) : iter f (j + k) x = iter f k (iter f j x) := by
  induction j generalizing x with
  | zero => simp [iter]
  | succ j ih => rw [Nat.succ_add]; exact ih (f x)
theorem iter_inj {f : Nat → Nat} {n : Nat} (hf : ∀ x, x < n → f x < n) (inj : ∀ x y, x < n → y < n → f x = f y → x = y) : ∀ k x y, x < n → y < n → iter f k x = iter f k y → x = y := by
  intro k
  induction k with
  | zero => intro x y _ _ e; exact e
  | succ k ih => intro x y hx hy e; exact inj x y hx hy (ih _ _ (hf x hx) (hf y hy) e)
theorem comes_back {f : Nat → Nat} {n : Nat} (hf : ∀ x, x < n → f x < n) (inj : ∀ x y, x < n → y < n → f x = f y → x = y) {x : Nat} (hx : x < n) : ∃ k, iter f (k + 1) x = x := by
  refine Classical.byContradiction fun no => ?_
  have key : ∀ i j, i < j → iter f i x ≠ iter f j x := fun i j hij e => by
    obtain ⟨d, rfl⟩ : ∃ d, j = (d + 1) + i := ⟨j - i - 1, by omega⟩
    rw [iter_add] at e
    have := iter_inj hf inj i x _ hx (iter_lt hf _ _ hx) e
    exact no ⟨d, this.symm⟩
  have nd : ((List.range (n + 1)).map fun i => iter f i x).Nodup := by
    rw [List.Nodup, List.pairwise_map]
    refine List.Pairwise.imp ?_ List.pairwise_lt_range
    intro a b hab
    exact key a b hab
  have := nd.length_le_of_subset (l₂ := List.range n) fun y hy => by
    obtain ⟨i, _, rfl⟩ := List.mem_map.mp hy
    exact List.mem_range.mpr (iter_lt hf i x hx)
  simp at this
  omega
section
variable {T : Tab}
theorem Valid.run_lt (V : Valid T) (w : Wd) {x : Nat} (h : x < T.n) : run T.s T.r w x < T.n := V.sys.run w h
theorem run_rep (w : Wd) (k x : Nat) : run T.s T.r (rep w k) x = iter (run T.s T.r w) k x := by
  induction k generalizing x with
  | zero => rfl
  | succ k ih => rw [rep_succ, run_append, ih]; rfl
theorem Valid.back (V : Valid T) (w : Wd) {x : Nat} (h : x < T.n) : ∃ k, run T.s T.r (rep w (k + 1)) x = x := by
  obtain ⟨k, e⟩ := comes_back (f := run T.s T.r w) (fun y hy => V.run_lt w hy) (fun y z hy hz e => by rw [← V.sys.winv w hy, ← V.sys.winv w hz, e]) h
  exact ⟨k, by rw [run_rep]; exact e⟩
/-- a loop at a place, which begins and ends with r or q -/
theorem Valid.loop (V : Valid T) {x : Nat} (h : x < T.n) : ∃ u, Alt u ∧ u ≠ [] ∧ (∀ y ∈ u.head?, isS y = false) ∧ (∀ y ∈ u.getLast?, isS y = false) ∧ run T.s T.r u x = x := by
  obtain ⟨j, hj⟩ := V.back [.r, .s] h
  obtain ⟨k, hk⟩ := V.back [.s, .r] h
  have e : Eqv (ev (rep [.r, .s] j ++ ([.q] ++ rep [.s, .r] k))) (ev (rep [.r, .s] (j + 1) ++ rep [.s, .r] (k + 1))) := by
    rw [rep_succ', rep_succ, List.append_assoc, ← List.append_assoc ([L.r, L.s] : Wd)]
    refine ev_tail _ _ _ ?_
    rw [ev_append [.q], ev_append]
    exact (by decide : Eqv (ev [.q]) (ev ([.r, .s] ++ [.s, .r]))).mul (.refl _)
  have a1 := alt_rs j
  have a2 := alt_sr k
  have b : Alt ([.q] ++ rep [.s, .r] k) := Alt.append trivial a2.1 fun y hy z hz => by
    simp at hy
    subst hy
    rw [a2.2.2 z hz]; decide
  refine ⟨rep [.r, .s] j ++ ([.q] ++ rep [.s, .r] k), Alt.append a1.1 b fun y hy z hz => ?_, by simp, ?_, ?_, ?_⟩
  · simp at hz
    subst hz
    rw [a1.2.1 y hy]; decide
  · intro y hy
    rw [List.head?_append] at hy
    cases h : (rep [.r, .s] j).head? with
    | none => rw [h] at hy; simp at hy; subst hy; rfl
    | some z => rw [h] at hy; simp at hy; subst hy; exact a1.2.2 _ (by rw [h]; simp)
  · intro y hy
    rw [List.getLast?_append] at hy
    have : (([.q] : Wd) ++ rep [.s, .r] k).getLast? = some (((rep [.s, .r] k).getLast?).getD .q) := by
      rw [List.getLast?_append]
      cases (rep [.s, .r] k).getLast? <;> rfl
    rw [this] at hy
    simp at hy
    subst hy
    cases h : (rep [.s, .r] k).getLast? with
    | none => rfl
    | some z => exact a2.2.1 _ (by rw [h]; simp)
  · rw [V.sys.run_eqv e h, run_append, hj, hk]
/-- any short word goes on to a short one that leads from 0 to 0 -/
theorem Valid.extend (V : Valid T) {w : Wd} (hw : Alt w) : ∃ u, Alt (w ++ u) ∧ run T.s T.r (w ++ u) 0 = 0 := by
  have p := V.run_lt w V.pos
  have back : run T.s T.r (Fg.winv w) (run T.s T.r w 0) = 0 := V.sys.winv w V.pos
  have hd : ∀ y ∈ (Fg.winv w).head?, ∀ z ∈ w.getLast?, isS y = isS z := fun y hy z hz => by
    rw [Fg.winv, List.head?_reverse, List.getLast?_map, hz] at hy
    simp at hy
    subst hy
    cases z <;> rfl
  by_cases c : ∀ z ∈ w.getLast?, isS z = true
  · obtain ⟨u, u1, u0, u2, u3, u4⟩ := V.loop p
    have a1 : Alt (w ++ u) := Alt.append hw u1 fun y hy z hz => by rw [c y hy, u2 z hz]; decide
    refine ⟨u ++ Fg.winv w, ?_, by rw [run_append, run_append, u4, back]⟩
    rw [← List.append_assoc]
    refine Alt.append a1 hw.winv fun y hy z hz => ?_
    have hy2 : y ∈ u.getLast? := by
      rw [List.getLast?_append] at hy
      cases h : u.getLast? with
      | none => rw [List.getLast?_eq_none_iff] at h; exact absurd h u0
      | some v => rw [h] at hy; simpa using hy
    rw [u3 y hy2]
    cases h : w.getLast? with
    | none =>
      rw [List.getLast?_eq_none_iff] at h
      subst h
      simp [Fg.winv] at hz
    | some v =>
      rw [hd z hz v (by rw [h]; simp), c v (by rw [h]; simp)]; decide
  · obtain ⟨v, hv, nv⟩ : ∃ v, w.getLast? = some v ∧ isS v = false := by
      cases h : w.getLast? with
      | none => exact absurd (fun z hz => by rw [h] at hz; simp at hz) c
      | some v =>
        refine ⟨v, rfl, ?_⟩
        cases g : isS v with
        | false => rfl
        | true => exact absurd (fun z hz => by rw [h] at hz; simp at hz; subst hz; exact g) c
    obtain ⟨u, u1, u0, u2, u3, u4⟩ := V.loop (V.sys.ps _ p)
    have a0 : Alt (u ++ [.s]) := Alt.append u1 trivial fun y hy z hz => by
      simp at hz
      subst hz
      rw [u3 y hy]; decide
    have a1 : Alt ([.s] ++ (u ++ [.s])) := Alt.append trivial a0 fun y hy z hz => by
      simp at hy
      subst hy
      have : z ∈ u.head? := by
        rw [List.head?_append] at hz
        cases h : u.head? with
        | none => rw [List.head?_eq_none_iff] at h; exact absurd h u0
        | some v => rw [h] at hz; simpa using hz
      rw [u2 z this]; decide
    have a2 : Alt (w ++ ([.s] ++ (u ++ [.s]))) := Alt.append hw a1 fun y hy z hz => by
      simp at hz
      subst hz
      rw [hv] at hy
      simp at hy
      subst hy
      rw [nv]; decide
    refine ⟨([.s] ++ (u ++ [.s])) ++ Fg.winv w, ?_, ?_⟩
    · rw [← List.append_assoc]
      refine Alt.append a2 hw.winv fun y hy z hz => ?_
      have hy2 : y = .s := by
        have e : w ++ ([.s] ++ (u ++ [.s])) = (w ++ ([.s] ++ u)) ++ [.s] := by simp
        rw [e, List.getLast?_concat] at hy
        simpa using hy.symm
      subst hy2
      rw [hd z hz v (by rw [hv]; simp), nv]; decide
    · rw [run_append, run_append, run_append, run_append]
      have e1 : run T.s T.r [.s] (run T.s T.r w 0) = T.s (run T.s T.r w 0) := rfl
      rw [e1, u4]
      have e2 : run T.s T.r [.s] (T.s (run T.s T.r w 0)) = run T.s T.r w 0 := V.sys.ss _ p
      rw [e2, back]
end
/-! ### going on in what is folded -/
section
variable {F : Fo}
theorem FI.dets (I : FI F []) {l : List (Option Nat)} (K : Lead F.hd [] l) {x y z : Nat} (h1 : EdgeOf F.hd l x y) (h2 : EdgeOf F.hd l x z) : root F.hd y = root F.hd z := by
  obtain ⟨a, b, e1, e2, e3⟩ := h1
  obtain ⟨c, d, k1, k2, k3⟩ := h2
  obtain ⟨u, p1, p2⟩ := K.cp _ _ e2
  obtain ⟨v, q1, q2⟩ := K.cp _ _ k2
  rw [e1] at p1
  rw [k1, p1] at q1
  injection q1 with q1
  subst q1
  rw [← e3, ← k3, ← p2.nil, q2.nil]
theorem FI.back2 (I : FI F []) {x y : Nat} (h : EdgeOf F.hd F.hs x y) : EdgeOf F.hd F.hs y x := by
  obtain ⟨a, b, e1, e2, e3⟩ := h
  obtain ⟨z, k1, k2⟩ := I.b2 _ _ e2
  exact ⟨b, z, e3, k1, k2.nil.trans e1⟩
theorem FI.back3 (I : FI F []) {x y : Nat} (h : EdgeOf F.hd F.ts x y) : ∃ z, EdgeOf F.hd F.ts y z ∧ EdgeOf F.hd F.ts z x := by
  obtain ⟨a, b, e1, e2, e3⟩ := h
  obtain ⟨z, u, k1, k2, k3⟩ := I.b3 _ _ e2
  exact ⟨z, ⟨b, z, e3, k1, rfl⟩, ⟨z, u, rfl, k2, k3.nil.trans e1⟩⟩
theorem FI.go_linv (I : FI F []) {c : L} {x y : Nat} (h : Go F c x y) : Go F (linv c) y x := by
  cases c
  · exact I.back2 h
  · exact I.back3 h
  · obtain ⟨z, h1, h2⟩ := h
    obtain ⟨u, k1, k2⟩ := I.back3 h1
    have e : root F.hd y = root F.hd u := I.dets I.lt h2 k1
    exact go_left (c := .r) e.symm k2
theorem FI.walk_winv (I : FI F []) (w : Wd) : ∀ {x y : Nat}, Walk F w x y → Walk F (winv w) y x := by
  induction w with
  | nil => intro x y h; exact Eq.symm h
  | cons c w ih =>
    intro x y ⟨z, h1, h2⟩
    rw [winv_cons]
    exact (walk_append _ _).mpr ⟨z, ih h2, walk_one.mpr (I.go_linv h1)⟩
theorem FI.go_det (I : FI F []) {c : L} {x y z : Nat} (h1 : Go F c x y) (h2 : Go F c x z) : root F.hd y = root F.hd z := by
  cases c
  · exact I.dets I.lh h1 h2
  · exact I.dets I.lt h1 h2
  · obtain ⟨a, p1, p2⟩ := h1
    obtain ⟨b, q1, q2⟩ := h2
    have e := I.dets I.lt p1 q1
    exact I.dets I.lt (go_left (c := .r) e p2) q2
theorem FI.walk_det (I : FI F []) (w : Wd) : ∀ {x y z : Nat}, Walk F w x y → Walk F w x z → root F.hd y = root F.hd z := by
  induction w with
  | nil => intro x y z h1 h2; exact Eq.trans (Eq.symm h1) h2
  | cons c w ih =>
    intro x y z ⟨a, p1, p2⟩ ⟨b, q1, q2⟩
    exact ih (walk_left (I.go_det p1 q1) p2) q2
theorem FI.walk_put (I : FI F []) (R : Wd) (c : L) {x y : Nat} (h : Walk F (R.reverse ++ [c]) x y) : Walk F (put R c).reverse x y := by
  cases R with
  | nil => exact h
  | cons z t =>
    rw [List.reverse_cons, List.append_assoc] at h
    obtain ⟨u, h1, h2⟩ := (walk_append _ _).mp h
    obtain ⟨v, k1, k2⟩ := (walk_append [z] [c]).mp h2
    have k1 := walk_one.mp k1
    have k2 := walk_one.mp k2
    have done : ∀ {e : L}, Go F e u y → Walk F (t.reverse ++ [e]) x y := fun g => (walk_append _ _).mpr ⟨u, h1, walk_one.mpr g⟩
    have gone : root F.hd u = root F.hd y → Walk F t.reverse x y := fun e => walk_right e h1
    cases z <;> cases c <;> simp only [put, List.reverse_cons]
    · exact gone (I.go_det (I.go_linv k1) k2)
    · exact (walk_append _ _).mpr ⟨v, (walk_append _ _).mpr ⟨u, h1, walk_one.mpr k1⟩, walk_one.mpr k2⟩
    · exact (walk_append _ _).mpr ⟨v, (walk_append _ _).mpr ⟨u, h1, walk_one.mpr k1⟩, walk_one.mpr k2⟩
    · exact (walk_append _ _).mpr ⟨v, (walk_append _ _).mpr ⟨u, h1, walk_one.mpr k1⟩, walk_one.mpr k2⟩
    · exact done (e := .q) ⟨v, k1, k2⟩
    · exact gone (I.go_det (I.go_linv k1) k2)
    · exact (walk_append _ _).mpr ⟨v, (walk_append _ _).mpr ⟨u, h1, walk_one.mpr k1⟩, walk_one.mpr k2⟩
    · exact gone (I.go_det (I.go_linv k1) k2)
    · obtain ⟨a, a1, a2⟩ := k1
      obtain ⟨b, b1, b2⟩ := k2
      obtain ⟨d, d1, d2⟩ := I.back3 a1
      have e1 : root F.hd d = root F.hd v := I.dets I.lt d1 a2
      have e2 : root F.hd u = root F.hd b := I.dets I.lt (go_left (c := .r) e1 d2) b1
      exact done (e := .r) (go_left (c := .r) e2.symm b2)
theorem FI.walk_act (I : FI F []) (w : Wd) : ∀ (R : Wd) {x y : Nat}, Walk F (R.reverse ++ w) x y → Walk F (act R w).reverse x y := by
  induction w with
  | nil => intro R x y h; simpa [act] using h
  | cons c w ih =>
    intro R x y h
    show Walk F (act (put R c) w).reverse x y
    refine ih _ ?_
    have h2 : Walk F ((R.reverse ++ [c]) ++ w) x y := by simpa using h
    obtain ⟨z, h3, h4⟩ := (walk_append _ _).mp h2
    exact (walk_append _ _).mpr ⟨z, I.walk_put R c h3, h4⟩
theorem FI.walk_red (I : FI F []) (w : Wd) {x y : Nat} (h : Walk F w x y) : Walk F (red w) x y := I.walk_act w [] (by simpa using h)
end
theorem red_self {w : Wd} (h : Alt w) : red w = w := by
  have h1 := act_red [] w trivial
  have key : ∀ (v : Wd) (R : Wd), Alt (R.reverse ++ v) → act R v = v.reverse ++ R := by
    intro v
    induction v with
    | nil => intro R _; rfl
    | cons c v ih =>
      intro R ha
      have e : put R c = c :: R := by
        cases R with
        | nil => rfl
        | cons z t =>
          have h2 : Alt ([z] ++ (c :: v)) := by
            have := ha
            rw [List.reverse_cons, List.append_assoc] at this
            clear ih ha
            generalize t.reverse = u at this
            induction u with
            | nil => exact this
            | cons a u ihu => exact ihu this.tail
          have := h2.1
          cases z <;> cases c <;> simp_all [put, isS]
      show act (put R c) v = _
      rw [e, ih (c :: R) (by simpa using ha)]
      simp
  have := key w [] (by simpa using h)
  simp [red, redR, this]
/-- the turnings that words tell which lead from 0 to 0 -/
def InL (F : Fo) (M : Mat) : Prop := ∃ v, Eqv (ev v) M ∧ Walk F v 0 0
theorem InL.one (F : Fo) : InL F Mat.one := ⟨[], .refl _, rfl⟩
theorem InL.mul {F : Fo} {M N : Mat} (a : InL F M) (b : InL F N) : InL F (M.mul N) := by
  obtain ⟨u, u1, u2⟩ := a
  obtain ⟨v, v1, v2⟩ := b
  exact ⟨u ++ v, by rw [ev_append]; exact u1.mul v1, (walk_append _ _).mpr ⟨0, u2, v2⟩⟩
theorem InL.inv {F : Fo} (I : FI F []) {M : Mat} (a : InL F M) : InL F M.inv := by
  obtain ⟨u, u1, u2⟩ := a
  exact ⟨winv u, (ev_winv u).trans u1.inv, I.walk_winv u u2⟩
theorem InL.eqv {F : Fo} {M N : Mat} (a : InL F M) (e : Eqv M N) : InL F N := by
  obtain ⟨u, u1, u2⟩ := a
  exact ⟨u, u1.trans e, u2⟩
/-- all that keeps the table's first place is told -/
def Gen (T : Tab) (F : Fo) : Prop := ∀ w, run T.s T.r w 0 = 0 → InL F (ev w)
section
variable {T : Tab} {F : Fo}
theorem gen_loop (I : FI F []) (G : Gen T F) {w : Wd} (h : run T.s T.r w 0 = 0) : Walk F (red w) 0 0 := by
  obtain ⟨v, e, k⟩ := G w h
  rw [← red_unique e]
  exact I.walk_red v k
theorem gen_walk (V : Valid T) (I : FI F []) (G : Gen T F) {w : Wd} (h : Alt w) : ∃ x, Walk F w 0 x := by
  obtain ⟨u, h1, h2⟩ := V.extend h
  have k := gen_loop I G h2
  rw [red_self h1] at k
  obtain ⟨x, k1, _⟩ := (walk_append _ _).mp k
  exact ⟨x, k1⟩
theorem edge_some {l : List (Option Nat)} (K : Lead F.hd [] l) {x y : Nat} (h : EdgeOf F.hd l x y) : ∃ y', lk l (root F.hd x) = some y' ∧ root F.hd y' = root F.hd y := by
  obtain ⟨a, b, e1, e2, e3⟩ := h
  obtain ⟨y', k1, k2⟩ := K.cp _ _ e2
  exact ⟨y', by rw [← e1]; exact k1, k2.nil.trans e3⟩
/-- each place is led on by s and by r -/
theorem fold_complete (V : Valid T) (I : FI F []) (C : Con F) (G : Gen T F) {x : Nat} (hx : x < F.n) (hr : root F.hd x = x) : (∃ y, lk F.hs x = some y) ∧ ∃ y, lk F.ts x = some y := by
  obtain ⟨w0, hw0⟩ := C x hx
  have hw := I.walk_red w0 hw0
  have ha := red_alt w0
  generalize red w0 = w at hw ha
  have last : ∀ {v : Wd} {c : L}, w = v ++ [c] → ∃ z, Go F c z x := fun e => by
    rw [e] at hw
    obtain ⟨z, _, k⟩ := (walk_append _ _).mp hw
    exact ⟨z, walk_one.mp k⟩
  have next : ∀ {c : L}, Alt (w ++ [c]) → ∃ z, Go F c x z := fun h => by
    obtain ⟨z, k⟩ := gen_walk V I G h
    obtain ⟨u, k1, k2⟩ := (walk_append _ _).mp k
    exact ⟨z, go_left (I.walk_det w k1 hw) (walk_one.mp k2)⟩
  have hs : (∃ z, Go F .s x z) → ∃ y, lk F.hs x = some y := fun ⟨z, k⟩ => by
    obtain ⟨y, e, _⟩ := edge_some I.lh k
    rw [hr] at e
    exact ⟨y, e⟩
  have ht : (∃ z, Go F .r x z) → ∃ y, lk F.ts x = some y := fun ⟨z, k⟩ => by
    obtain ⟨y, e, _⟩ := edge_some I.lt k
    rw [hr] at e
    exact ⟨y, e⟩
  by_cases e : w = []
  · subst e
    exact ⟨hs (next trivial), ht (next trivial)⟩
  · obtain ⟨v, c, rfl⟩ : ∃ v c, w = v ++ [c] := ⟨w.dropLast, w.getLast e, (List.dropLast_concat_getLast e).symm⟩
    obtain ⟨z, k⟩ := last rfl
    have gl : ∀ {a : L}, a ∈ (v ++ [c]).getLast? → a = c := fun h => by simpa using h.symm
    cases c
    · refine ⟨hs ⟨z, I.go_linv k⟩, ht (next (Alt.append ha trivial fun a h1 b h2 => ?_))⟩
      rw [gl h1]
      simp at h2
      subst h2; decide
    · refine ⟨hs (next (Alt.append ha trivial fun a h1 b h2 => ?_)), ht ?_⟩
      · rw [gl h1]
        simp at h2
        subst h2; decide
      · obtain ⟨u, k1, _⟩ := I.back3 k
        exact ⟨u, k1⟩
    · refine ⟨hs (next (Alt.append ha trivial fun a h1 b h2 => ?_)), ht ?_⟩
      · rw [gl h1]
        simp at h2
        subst h2; decide
      · obtain ⟨u, _, k2⟩ := k
        obtain ⟨t, k3, _⟩ := I.back3 k2
        exact ⟨t, k3⟩
end
/-! ### the places that stand for themselves -/
def Full (F : Fo) : Prop := ∀ x, x < F.n → root F.hd x = x → (∃ y, lk F.hs x = some y) ∧ ∃ y, lk F.ts x = some y
def qs (F : Fo) (x : Nat) : Nat := root F.hd ((lk F.hs x).getD 0)
def qr (F : Fo) (x : Nat) : Nat := root F.hd ((lk F.ts x).getD 0)
def Hd (F : Fo) (x : Nat) : Prop := x < F.n ∧ F.hd.getD x x = x
section
variable {F : Fo}
theorem Hd.root {x : Nat} (h : Hd F x) : Fg.root F.hd x = x := root_fix h.2
theorem FI.hd_root (I : FI F []) {x : Nat} (h : x < F.n) : Hd F (Fg.root F.hd x) := ⟨root_lt I.low h, root_is I.low x⟩
theorem hd0 (I : FI F []) : Hd F 0 := ⟨I.pos, Nat.le_zero.mp (I.low 0)⟩
theorem qs_at {x y : Nat} (h : lk F.hs x = some y) : qs F x = root F.hd y := by rw [qs, h]; rfl
theorem qr_at {x y : Nat} (h : lk F.ts x = some y) : qr F x = root F.hd y := by rw [qr, h]; rfl
theorem go_qs (I : FI F []) (U : Full F) {x : Nat} (h : Hd F x) : Go F .s x (qs F x) := by
  obtain ⟨⟨y, e⟩, _⟩ := U x h.1 h.root
  exact ⟨x, y, rfl, e, by rw [qs_at e, root_root I.low]⟩
theorem go_qr (I : FI F []) (U : Full F) {x : Nat} (h : Hd F x) : Go F .r x (qr F x) := by
  obtain ⟨_, ⟨y, e⟩⟩ := U x h.1 h.root
  exact ⟨x, y, rfl, e, by rw [qr_at e, root_root I.low]⟩
theorem hd_qs (I : FI F []) (U : Full F) {x : Nat} (h : Hd F x) : Hd F (qs F x) := by
  obtain ⟨⟨y, e⟩, _⟩ := U x h.1 h.root
  rw [qs_at e]
  exact I.hd_root (I.lh.bd _ _ e)
theorem hd_qr (I : FI F []) (U : Full F) {x : Nat} (h : Hd F x) : Hd F (qr F x) := by
  obtain ⟨_, ⟨y, e⟩⟩ := U x h.1 h.root
  rw [qr_at e]
  exact I.hd_root (I.lt.bd _ _ e)
theorem q_sys (I : FI F []) (U : Full F) : Sys (Hd F) (qs F) (qr F) := by
  refine ⟨fun x h => hd_qs I U h, fun x h => hd_qr I U h, fun x h => ?_, fun x h => ?_⟩
  · have h1 := hd_qs I U h
    have e := I.go_det (c := .s) (I.go_linv (go_qs I U h)) (go_qs I U h1)
    rw [h.root, (hd_qs I U h1).root] at e
    exact e.symm
  · have h1 := hd_qr I U h
    have h2 := hd_qr I U h1
    obtain ⟨z, k1, k2⟩ := I.back3 (go_qr I U h)
    have e1 := I.go_det (c := .r) k1 (go_qr I U h1)
    have e2 := I.go_det (c := .r) (go_left (c := .r) e1 k2) (go_qr I U h2)
    rw [h.root, (hd_qr I U h2).root] at e2
    exact e2.symm
theorem walk_q (I : FI F []) (U : Full F) (w : Wd) : ∀ {x : Nat}, Hd F x → Walk F w x (run (qs F) (qr F) w x) := by
  induction w with
  | nil => intro x _; rfl
  | cons c w ih =>
    intro x h
    cases c
    · exact ⟨_, go_qs I U h, ih (hd_qs I U h)⟩
    · exact ⟨_, go_qr I U h, ih (hd_qr I U h)⟩
    · exact ⟨_, ⟨_, go_qr I U h, go_qr I U (hd_qr I U h)⟩, ih (hd_qr I U (hd_qr I U h))⟩
theorem run_q (I : FI F []) (U : Full F) {w : Wd} {x y : Nat} (hx : Hd F x) (h : Walk F w x y) : run (qs F) (qr F) w x = root F.hd y := by
  have e := I.walk_det w (walk_q I U w hx) h
  rw [((q_sys I U).run w hx).root] at e
  exact e
def headsOf (F : Fo) : List Nat := (List.range F.n).filter fun x => F.hd.getD x x == x
theorem mem_heads {x : Nat} : x ∈ headsOf F ↔ Hd F x := by
  simp [headsOf, Hd]
end
/-- the table that folded places tell -/
def foldTab (F : Fo) : Tab := tabOf (qs F) (qr F) (bfs (qs F) (qr F) (headsOf F).length [0] 0)
section
variable {F : Fo}
theorem fold_met (I : FI F []) (U : Full F) : Met (qs F) (qr F) 0 (bfs (qs F) (qr F) (headsOf F).length [0] 0) ∧ (∀ x ∈ bfs (qs F) (qr F) (headsOf F).length [0] 0, Hd F x) := by
  have h := met_of (q_sys I U) (hd0 I) (headsOf F) fun x hx => mem_heads.mpr hx
  exact ⟨h.1, h.2.1⟩
theorem fold_valid (I : FI F []) (U : Full F) : Valid (foldTab F) := (fold_met I U).1.valid (q_sys I U) (fold_met I U).2
/-- words lead in the table as in what is folded -/
theorem fold_run (I : FI F []) (U : Full F) (w : Wd) {x : Nat} (hx : x ∈ bfs (qs F) (qr F) (headsOf F).length [0] 0) :
    run (foldTab F).s (foldTab F).r w ((bfs (qs F) (qr F) (headsOf F).length [0] 0).idxOf x) = (bfs (qs F) (qr F) (headsOf F).length [0] 0).idxOf (run (qs F) (qr F) w x) := by
  obtain ⟨M, A⟩ := fold_met I U
  have at_ : ∀ {x}, x ∈ bfs (qs F) (qr F) (headsOf F).length [0] 0 → (bfs (qs F) (qr F) (headsOf F).length [0] 0)[(bfs (qs F) (qr F) (headsOf F).length [0] 0).idxOf x]? = some x := fun hx => by
    have h := List.idxOf_lt_length_of_mem hx
    rw [List.getElem?_eq_getElem h, List.getElem_idxOf h]
  induction w generalizing x with
  | nil => rfl
  | cons c w ih =>
    obtain ⟨c1, c2⟩ := M.cl x hx
    rw [run_cons, run_cons]
    cases c
    · show run _ _ w ((foldTab F).s _) = _
      rw [show (foldTab F).s _ = _ from tabOf_s (at_ hx)]
      exact ih c1
    · show run _ _ w ((foldTab F).r _) = _
      rw [show (foldTab F).r _ = _ from tabOf_r (at_ hx)]
      exact ih c2
    · show run _ _ w ((foldTab F).r ((foldTab F).r _)) = _
      rw [show (foldTab F).r ((bfs (qs F) (qr F) (headsOf F).length [0] 0).idxOf x) = _ from tabOf_r (at_ hx), show (foldTab F).r _ = _ from tabOf_r (at_ c2)]
      exact ih (M.cl _ c2).2
variable {T : Tab}
/-- what keeps the table's first place keeps the folded one's -/
theorem fold_keeps (I : FI F []) (U : Full F) (G : Gen T F) {w : Wd} (h : run T.s T.r w 0 = 0) : run (foldTab F).s (foldTab F).r w 0 = 0 := by
  have k := gen_loop I G h
  have e : run (qs F) (qr F) (red w) 0 = 0 := by
    rw [run_q I U (hd0 I) k, root_fix (hd0 I).2]
  rw [(q_sys I U).run_red w (hd0 I)] at e
  obtain ⟨M, A⟩ := fold_met I U
  have h0 := List.mem_of_getElem? M.hd
  have i0 := idx_get M.nd M.hd
  have := fold_run I U w h0
  rw [i0, e, i0] at this
  exact this
/-- the folded table lies over the table -/
theorem fold_over (I : FI F []) (U : Full F) (V : Valid T) (G : Gen T F) : ∃ φ : Nat → Nat, (∀ x, x < T.n → φ x < (foldTab F).n) ∧ φ 0 = 0 ∧ (∀ x, x < T.n → φ (T.s x) = (foldTab F).s (φ x)) ∧ ∀ x, x < T.n → φ (T.r x) = (foldTab F).r (φ x) := by
  have W := fold_valid I U
  have same : ∀ u v : Wd, run T.s T.r u 0 = run T.s T.r v 0 → run (foldTab F).s (foldTab F).r u 0 = run (foldTab F).s (foldTab F).r v 0 := fun u v e => by
    have h1 : run T.s T.r (u ++ winv v) 0 = 0 := by rw [run_append, e]; exact V.sys.winv v V.pos
    have h2 := fold_keeps I U G h1
    rw [run_append] at h2
    have h3 := W.sys.winv (winv v) (W.sys.run u W.pos)
    rw [h2, winv_winv] at h3
    exact h3.symm
  have wd : ∀ x, ∃ w, x < T.n → run T.s T.r w 0 = x := fun x => by
    by_cases h : x < T.n
    · obtain ⟨w, e⟩ := V.reach h
      exact ⟨w, fun _ => e⟩
    · exact ⟨[], fun g => absurd g h⟩
  refine ⟨fun x => run (foldTab F).s (foldTab F).r (Classical.choose (wd x)) 0, fun x hx => W.sys.run _ W.pos, ?_, fun x hx => ?_, fun x hx => ?_⟩
  · exact same _ [] (Classical.choose_spec (wd 0) V.pos)
  · have e1 := Classical.choose_spec (wd x) hx
    have e2 := Classical.choose_spec (wd (T.s x)) (V.sys.ps x hx)
    have := same (Classical.choose (wd (T.s x))) (Classical.choose (wd x) ++ [.s]) (by rw [e2, run_append, e1]; rfl)
    rw [run_append] at this
    exact this
  · have e1 := Classical.choose_spec (wd x) hx
    have e2 := Classical.choose_spec (wd (T.r x)) (V.sys.pr x hx)
    have := same (Classical.choose (wd (T.r x))) (Classical.choose (wd x) ++ [.r]) (by rw [e2, run_append, e1]; rfl)
    rw [run_append] at this
    exact this
/-- where nothing else is told, it is the table -/
theorem fold_is (I : FI F []) (U : Full F) (V : Valid T) (G : Gen T F) (C : Con F) {f : Nat → Nat} (H : Hom (fun x => x < T.n) T.s T.r F f) (f0 : f 0 = 0) : foldTab F = T := by
  obtain ⟨M, A⟩ := fold_met I U
  have es : ∀ x, Hd F x → f (qs F x) = T.s (f x) := fun x h => by
    obtain ⟨⟨y, e⟩, _⟩ := U x h.1 h.root
    rw [qs_at e, H.root, H.eh _ _ e]
  have er : ∀ x, Hd F x → f (qr F x) = T.r (f x) := fun x h => by
    obtain ⟨_, ⟨y, e⟩⟩ := U x h.1 h.root
    rw [qr_at e, H.root, H.et _ _ e]
  refine met_tab M V f f0 (fun x y hx hy e => ?_) (fun x hx => es x (A x hx)) fun x hx => er x (A x hx)
  have hx := A x hx
  have hy := A y hy
  obtain ⟨u, hu⟩ := C x hx.1
  obtain ⟨v, hv⟩ := C y hy.1
  have fu := hom_walk H u hu
  have fv := hom_walk H v hv
  rw [f0] at fu fv
  have h1 : run T.s T.r (u ++ winv v) 0 = 0 := by rw [run_append, ← fu, e, fv]; exact V.sys.winv v V.pos
  have k := gen_loop I G h1
  have e2 : run (qs F) (qr F) (red (u ++ winv v)) 0 = 0 := by rw [run_q I U (hd0 I) k, root_fix (hd0 I).2]
  rw [(q_sys I U).run_red _ (hd0 I), run_append, run_q I U (hd0 I) hu, hx.root] at e2
  have e3 := run_q I U (hd0 I) hv
  rw [hy.root] at e3
  have h3 := (q_sys I U).winv (winv v) hx
  rw [e2, winv_winv, e3] at h3
  exact h3.symm
end
end Fg
/-! the fan of a table: its gaps, opened tile by tile -/
namespace Fg
abbrev Fr := Int × Int
def cross (u v : Fr) : Int := u.1 * v.2 - u.2 * v.1
/-- the turning whose edge two neighbours are -/
def betw (u v : Fr) : Mat := Mat.norm ⟨u.1, cross u v * v.1, u.2, cross u v * v.2⟩
abbrev inf : Fr := (1, 0)
abbrev GapL := List (Fr × Nat)
/-- where the next gap begins -/
def hdF : GapL → Fr
  | [] => inf
  | (u, _) :: _ => u
/-- an edge from u to v, the first one's or a later one's -/
def EdgeOk (u v : Fr) : Prop := (u = inf ∧ v.2 = 1) ∨ (0 < u.2 ∧ cross u v = -1 ∧ 0 ≤ v.2)
def mid (u v : Fr) : Fr := if u = inf then (v.1 - 1, v.2) else (u.1 + v.1, u.2 + v.2)
/-- each gap's turning is told by its place's word -/
def Chain (tw : Nat → Wd) : GapL → Prop
  | [] => True
  | (u, p) :: g => EdgeOk u (hdF g) ∧ Eqv (ev (tw p)) (betw u (hdF g)) ∧ Chain tw g
theorem betw_eqv (u v : Fr) : Eqv (betw u v) ⟨u.1, cross u v * v.1, u.2, cross u v * v.2⟩ := norm_eqv _
theorem edge_first {u v : Fr} (h : EdgeOk u v) : EdgeOk u (mid u v) ∧ EdgeOk (mid u v) v := by
  rcases h with ⟨rfl, h⟩ | ⟨h1, h2, h3⟩
  · have e : mid inf v = (v.1 - 1, v.2) := if_pos rfl
    rw [e]
    refine ⟨.inl ⟨rfl, h⟩, .inr ⟨by simp only; omega, ?_, by omega⟩⟩
    simp only [cross]
    rw [h]; omega
  · have hn : ¬ u = inf := fun e => by rw [e] at h1; exact absurd h1 (by decide)
    have e : mid u v = (u.1 + v.1, u.2 + v.2) := if_neg hn
    rw [e]
    simp only [cross] at h2
    refine ⟨.inr ⟨h1, ?_, by simp only; omega⟩, .inr ⟨by simp only; omega, ?_, h3⟩⟩
    · simp only [cross]; grind
    · simp only [cross]; grind
theorem betw_r {u v : Fr} (h : EdgeOk u v) : Eqv ((betw u v).mul (ev [.s, .r])) (betw u (mid u v)) := by
  refine ((betw_eqv u v).mul (.refl _)).trans (Eqv.trans ?_ (betw_eqv u (mid u v)).symm)
  rcases h with ⟨rfl, h⟩ | ⟨h1, h2, h3⟩
  · have e : mid inf v = (v.1 - 1, v.2) := if_pos rfl
    rw [e]
    right
    apply Mat.ext' <;> simp only [Mat.mul, ev, lm, Mat.one, Mat.neg, cross, h] <;> omega
  · have hn : ¬ u = inf := fun e => by rw [e] at h1; exact absurd h1 (by decide)
    have e : mid u v = (u.1 + v.1, u.2 + v.2) := if_neg hn
    have c : cross u (u.1 + v.1, u.2 + v.2) = -1 := by simp only [cross] at *; grind
    rw [e, c, h2]
    right
    apply Mat.ext' <;> simp only [Mat.mul, ev, lm, Mat.one, Mat.neg] <;> omega
theorem betw_q {u v : Fr} (h : EdgeOk u v) : Eqv ((betw u v).mul (ev [.s, .q])) (betw (mid u v) v) := by
  refine ((betw_eqv u v).mul (.refl _)).trans (Eqv.trans ?_ (betw_eqv (mid u v) v).symm)
  have c2 := (edge_first h).2
  rcases h with ⟨rfl, h⟩ | ⟨h1, h2, h3⟩
  · have e : mid inf v = (v.1 - 1, v.2) := if_pos rfl
    have c : cross (v.1 - 1, v.2) v = -1 := by simp only [cross]; rw [h]; omega
    rw [e, c]
    left
    apply Mat.ext' <;> simp only [Mat.mul, ev, lm, Mat.one, cross, h] <;> omega
  · have hn : ¬ u = inf := fun e => by rw [e] at h1; exact absurd h1 (by decide)
    have e : mid u v = (u.1 + v.1, u.2 + v.2) := if_neg hn
    have c : cross (u.1 + v.1, u.2 + v.2) v = -1 := by simp only [cross] at *; grind
    rw [e, c, h2]
    right
    apply Mat.ext' <;> simp only [Mat.mul, ev, lm, Mat.one, Mat.neg] <;> omega
/-- the gaps behind one that is opened -/
def openL (u : Fr) (p1 p2 : Nat) (g : GapL) : GapL := (u, p1) :: (mid u (hdF g), p2) :: g
def places (g : GapL) : List Nat := g.map (·.2)
theorem hdF_app (a b : GapL) (u : Fr) (p q : Nat) (c d : GapL) : hdF (a ++ (u, p) :: c) = hdF (a ++ (u, q) :: d) := by
  cases a with
  | nil => rfl
  | cons x a => rfl
theorem chain_open {tw tw' : Nat → Wd} {u : Fr} {p p1 p2 : Nat} {g : GapL} : ∀ (a : GapL), Chain tw (a ++ (u, p) :: g) → (∀ x ∈ places a, tw' x = tw x) → (∀ x ∈ places g, tw' x = tw x) →
    Eqv (ev (tw' p1)) ((ev (tw p)).mul (ev [.s, .r])) → Eqv (ev (tw' p2)) ((ev (tw p)).mul (ev [.s, .q])) → Chain tw' (a ++ openL u p1 p2 g) := by
  have same : ∀ (g : GapL), Chain tw g → (∀ x ∈ places g, tw' x = tw x) → Chain tw' g := by
    intro g
    induction g with
    | nil => intro _ _; trivial
    | cons x g ih =>
      intro h k
      obtain ⟨v, q⟩ := x
      obtain ⟨h1, h2, h3⟩ := h
      exact ⟨h1, by rw [k q (by simp [places])]; exact h2, ih h3 fun y hy => k y (by simp only [places, List.map_cons] at *; exact List.mem_cons_of_mem _ hy)⟩
  intro a
  induction a with
  | nil =>
    intro h _ kg e1 e2
    obtain ⟨h1, h2, h3⟩ := h
    obtain ⟨m1, m2⟩ := edge_first h1
    exact ⟨m1, e1.trans ((h2.mul (.refl _)).trans (betw_r h1)), m2, e2.trans ((h2.mul (.refl _)).trans (betw_q h1)), same g h3 kg⟩
  | cons x a ih =>
    intro h ka kg e1 e2
    obtain ⟨v, q⟩ := x
    obtain ⟨h1, h2, h3⟩ := h
    have e : hdF (a ++ openL u p1 p2 g) = hdF (a ++ (u, p) :: g) := hdF_app a [] u p1 p _ _
    refine ⟨?_, ?_, ih h3 (fun y hy => ka y (by simp only [places, List.map_cons] at *; exact List.mem_cons_of_mem _ hy)) kg e1 e2⟩
    · show EdgeOk v (hdF (a ++ openL u p1 p2 g))
      rw [e]; exact h1
    · show Eqv (ev (tw' q)) (betw v (hdF (a ++ openL u p1 p2 g)))
      rw [e, ka q (by simp [places])]; exact h2
/-- all that is known of gaps and of the places that are used -/
structure GI (T : Tab) (g : GapL) (used : List Nat) (k : Nat) (tw : Nat → Wd) : Prop where
  fst : hdF g = inf ∧ g ≠ []
  ch : Chain tw g
  gl : g.length = k + 2
  kp : 1 ≤ k
  nd : (places g).Nodup
  sub : ∀ x ∈ places g, x ∈ used
  un : used.Nodup
  ul : used.length = 3 * k
  ub : ∀ x ∈ used, x < T.n
  ur : ∀ x ∈ used, T.r x ∈ used ∧ T.r x ≠ x ∧ Eqv ((ev (tw x)).mul (ev [.r])) (ev (tw (T.r x)))
  rn : ∀ x ∈ used, run T.s T.r (tw x) 0 = x
  wl : ∀ x ∈ used, (tw x).length ≤ 2 * k + 1
  inn : ∀ x ∈ used, x ∉ places g → T.s x ∈ used ∧ T.s x ∉ places g ∧ Eqv ((ev (tw x)).mul (ev [.s])) (ev (tw (T.s x)))
  bas : (0 ∈ used ∧ Eqv (ev (tw 0)) Mat.one) ∨ (T.r 0 = 0 ∧ T.s 0 ∈ places g ∧ Eqv (ev (tw (T.s 0))) (ev [.s]))
theorem GI.few {T : Tab} {g : GapL} {used : List Nat} {k : Nat} {tw : Nat → Wd} (h : GI T g used k tw) : 3 * k ≤ T.n := by
  have := h.un.length_le_of_subset (l₂ := List.range T.n) fun x hx => List.mem_range.mpr (h.ub x hx)
  rw [h.ul] at this
  simpa using this
/-- the gaps of the first tile -/
def firstG (T : Tab) : GapL := if T.r 0 ≠ 0 then [(inf, 0), ((0, 1), T.r 0), ((1, 1), T.r (T.r 0))] else [(inf, T.r (T.s 0)), ((-1, 1), T.r (T.r (T.s 0))), ((0, 1), T.s 0)]
theorem three {T : Tab} (V : Valid T) {y : Nat} (hy : y < T.n) (h : T.r y ≠ y) : T.r (T.r y) ≠ y ∧ T.r (T.r y) ≠ T.r y ∧ T.r (T.r (T.r y)) = y := by
  have e := V.sys.rrr y hy
  refine ⟨fun q => h ?_, fun q => h ?_, e⟩
  · rw [q] at e; exact e
  · rw [q, q] at e; exact e
theorem small_n {T : Tab} (V : Valid T) (h3 : 3 ≤ T.n) (hr : T.r 0 = 0) : T.s 0 ≠ 0 ∧ T.r (T.s 0) ≠ T.s 0 := by
  have all : ∀ D : Nat → Prop, D 0 → (∀ x, D x → D (T.s x) ∧ D (T.r x)) → ∀ x, x < T.n → D x := fun D d0 dc x hx => by
    obtain ⟨w, e⟩ := V.reach hx
    have key : ∀ (w : Wd) (y : Nat), D y → D (run T.s T.r w y) := by
      intro w
      induction w with
      | nil => intro y h; exact h
      | cons c w ih =>
        intro y h
        refine ih _ ?_
        cases c
        · exact (dc y h).1
        · exact (dc y h).2
        · exact (dc _ (dc y h).2).2
    rw [← e]; exact key w 0 d0
  have s0 : T.s 0 ≠ 0 := fun e => by
    have := all (fun x => x = 0) rfl (fun x hx => by subst hx; exact ⟨e, hr⟩) 1 (by omega)
    omega
  refine ⟨s0, fun e => ?_⟩
  have ss := V.sys.ss 0 V.pos
  have h := all (fun x => x = 0 ∨ x = T.s 0) (.inl rfl) (fun x hx => by
    rcases hx with rfl | rfl
    · exact ⟨.inr rfl, .inl hr⟩
    · exact ⟨.inl ss, .inr e⟩)
  have h1 := h 1 (by omega)
  have h2 := h 2 (by omega)
  omega
theorem first_ok {T : Tab} (V : Valid T) (h3 : 3 ≤ T.n) : ∃ tw, GI T (firstG T) (places (firstG T)) 1 tw := by
  unfold firstG
  by_cases h : T.r 0 ≠ 0
  · rw [if_pos h]
    obtain ⟨a, b, c⟩ := three V V.pos h
    have l1 := V.sys.pr 0 V.pos
    have l2 := V.sys.pr _ l1
    let tw : Nat → Wd := fun x => if x = 0 then [] else if x = T.r 0 then [.r] else [.q]
    have t0 : tw 0 = [] := if_pos rfl
    have t1 : tw (T.r 0) = [.r] := by show (if T.r 0 = 0 then _ else _) = _; rw [if_neg h, if_pos rfl]
    have t2 : tw (T.r (T.r 0)) = [.q] := by show (if T.r (T.r 0) = 0 then _ else _) = _; rw [if_neg a, if_neg b]
    refine ⟨tw, ⟨⟨rfl, by simp⟩, ?_, rfl, by omega, ?_, fun x hx => hx, ?_, rfl, ?_, ?_, ?_, ?_, fun x hx hn => absurd hx hn, .inl ⟨by simp [places], by rw [t0]; exact .refl _⟩⟩⟩
    · have c1 : cross ((0, 1) : Fr) (1, 1) = -1 := by decide
      have c2 : cross ((1, 1) : Fr) inf = -1 := by decide
      refine ⟨.inl ⟨rfl, rfl⟩, ?_, .inr ⟨by decide, c1, (by decide : (0 : Int) ≤ 1)⟩, ?_, .inr ⟨by decide, c2, by decide⟩, ?_, trivial⟩
      · rw [t0]; exact (by decide : Eqv (ev []) (betw inf (0, 1)))
      · rw [t1]; exact (by decide : Eqv (ev [.r]) (betw (0, 1) (1, 1)))
      · rw [t2]; exact (by decide : Eqv (ev [.q]) (betw (1, 1) inf))
    · simp only [places, List.map_cons, List.map_nil, List.nodup_cons, List.mem_cons, List.not_mem_nil, or_false, not_or, not_false_eq_true, List.nodup_nil, and_true]
      exact ⟨⟨fun e => h e.symm, fun e => a e.symm⟩, fun e => b e.symm⟩
    · simp only [places, List.map_cons, List.map_nil, List.nodup_cons, List.mem_cons, List.not_mem_nil, or_false, not_or, not_false_eq_true, List.nodup_nil, and_true]
      exact ⟨⟨fun e => h e.symm, fun e => a e.symm⟩, fun e => b e.symm⟩
    · intro x hx
      simp only [places, List.map_cons, List.map_nil, List.mem_cons, List.not_mem_nil, or_false] at hx
      rcases hx with rfl | rfl | rfl
      · exact V.pos
      · exact l1
      · exact l2
    · intro x hx
      simp only [places, List.map_cons, List.map_nil, List.mem_cons, List.not_mem_nil, or_false] at hx ⊢
      rcases hx with rfl | rfl | rfl
      · exact ⟨.inr (.inl rfl), h, by rw [t0, t1]; decide⟩
      · exact ⟨.inr (.inr rfl), b, by rw [t1, t2]; decide⟩
      · exact ⟨.inl c, fun e => a (by rw [c] at e; exact e.symm), by rw [t2, c, t0]; decide⟩
    · intro x hx
      simp only [places, List.map_cons, List.map_nil, List.mem_cons, List.not_mem_nil, or_false] at hx
      rcases hx with rfl | rfl | rfl
      · rw [t0]; rfl
      · rw [t1]; rfl
      · rw [t2]; rfl
    · intro x hx
      simp only [places, List.map_cons, List.map_nil, List.mem_cons, List.not_mem_nil, or_false] at hx
      rcases hx with rfl | rfl | rfl
      · rw [t0]; decide
      · rw [t1]; decide
      · rw [t2]; decide
  · have h0 : T.r 0 = 0 := Decidable.byContradiction h
    rw [if_neg h]
    obtain ⟨s0, sr⟩ := small_n V h3 h0
    have l0 := V.sys.ps 0 V.pos
    obtain ⟨a, b, c⟩ := three V l0 sr
    have l1 := V.sys.pr _ l0
    have l2 := V.sys.pr _ l1
    let tw : Nat → Wd := fun x => if x = T.s 0 then [.s] else if x = T.r (T.s 0) then [.s, .r] else [.s, .q]
    have t0 : tw (T.s 0) = [.s] := if_pos rfl
    have t1 : tw (T.r (T.s 0)) = [.s, .r] := by show (if T.r (T.s 0) = T.s 0 then _ else _) = _; rw [if_neg sr, if_pos rfl]
    have t2 : tw (T.r (T.r (T.s 0))) = [.s, .q] := by show (if T.r (T.r (T.s 0)) = T.s 0 then _ else _) = _; rw [if_neg a, if_neg b]
    have nod : (places [(inf, T.r (T.s 0)), ((-1, 1), T.r (T.r (T.s 0))), ((0, 1), T.s 0)]).Nodup := by
      simp only [places, List.map_cons, List.map_nil, List.nodup_cons, List.mem_cons, List.not_mem_nil, or_false, not_or, not_false_eq_true, List.nodup_nil, and_true]
      exact ⟨⟨fun e => b e.symm, sr⟩, a⟩
    refine ⟨tw, ⟨⟨rfl, by simp⟩, ?_, rfl, by omega, nod, fun x hx => hx, nod, rfl, ?_, ?_, ?_, ?_, fun x hx hn => absurd hx hn, .inr ⟨h0, by simp [places], by rw [t0]; exact .refl _⟩⟩⟩
    · have c1 : cross ((-1, 1) : Fr) (0, 1) = -1 := by decide
      have c2 : cross ((0, 1) : Fr) inf = -1 := by decide
      refine ⟨.inl ⟨rfl, rfl⟩, ?_, .inr ⟨by decide, c1, (by decide : (0 : Int) ≤ 1)⟩, ?_, .inr ⟨by decide, c2, by decide⟩, ?_, trivial⟩
      · rw [t1]; exact (by decide : Eqv (ev [.s, .r]) (betw inf (-1, 1)))
      · rw [t2]; exact (by decide : Eqv (ev [.s, .q]) (betw (-1, 1) (0, 1)))
      · rw [t0]; exact (by decide : Eqv (ev [.s]) (betw (0, 1) inf))
    · intro x hx
      simp only [places, List.map_cons, List.map_nil, List.mem_cons, List.not_mem_nil, or_false] at hx
      rcases hx with rfl | rfl | rfl
      · exact l1
      · exact l2
      · exact l0
    · intro x hx
      simp only [places, List.map_cons, List.map_nil, List.mem_cons, List.not_mem_nil, or_false] at hx ⊢
      rcases hx with rfl | rfl | rfl
      · exact ⟨.inr (.inl rfl), b, by rw [t1, t2]; decide⟩
      · exact ⟨.inr (.inr c), fun e => a (by rw [c] at e; exact e.symm), by rw [t2, c, t0]; decide⟩
      · exact ⟨.inl rfl, sr, by rw [t0, t1]; decide⟩
    · intro x hx
      simp only [places, List.map_cons, List.map_nil, List.mem_cons, List.not_mem_nil, or_false] at hx
      rcases hx with rfl | rfl | rfl
      · rw [t1]; rfl
      · rw [t2]; rfl
      · rw [t0]; rfl
    · intro x hx
      simp only [places, List.map_cons, List.map_nil, List.mem_cons, List.not_mem_nil, or_false] at hx
      rcases hx with rfl | rfl | rfl
      · rw [t1]; decide
      · rw [t2]; decide
      · rw [t0]; decide
/-- a gap is opened -/
theorem open_ok {T : Tab} (V : Valid T) {a g : GapL} {u : Fr} {p : Nat} {used : List Nat} {k : Nat} {tw : Nat → Wd} (h : GI T (a ++ (u, p) :: g) used k tw) (h1 : T.r (T.s p) ≠ T.s p) (h2 : T.s p ∉ used) :
    ∃ tw', GI T (a ++ openL u (T.r (T.s p)) (T.r (T.r (T.s p))) g) (used ++ [T.s p, T.r (T.s p), T.r (T.r (T.s p))]) (k + 1) tw' := by
  have pg : p ∈ places (a ++ (u, p) :: g) := by simp [places]
  have pu := h.sub p pg
  have lp := h.ub p pu
  have ly := V.sys.ps p lp
  obtain ⟨d1, d2, d3⟩ := three V ly h1
  have n1 : T.r (T.s p) ∉ used := fun q => h2 (by rw [← d3]; exact (h.ur _ (h.ur _ q).1).1)
  have n2 : T.r (T.r (T.s p)) ∉ used := fun q => h2 (by rw [← d3]; exact (h.ur _ q).1)
  have ss : T.s (T.s p) = p := V.sys.ss p lp
  generalize hy : T.s p = y at *
  let tw' : Nat → Wd := fun x => if x = y then tw p ++ [.s] else if x = T.r y then tw p ++ [.s, .r] else if x = T.r (T.r y) then tw p ++ [.s, .q] else tw x
  have t0 : tw' y = tw p ++ [.s] := if_pos rfl
  have t1 : tw' (T.r y) = tw p ++ [.s, .r] := by show (if T.r y = y then _ else _) = _; rw [if_neg h1, if_pos rfl]
  have t2 : tw' (T.r (T.r y)) = tw p ++ [.s, .q] := by show (if T.r (T.r y) = y then _ else _) = _; rw [if_neg d1, if_neg d2, if_pos rfl]
  have to : ∀ x ∈ used, tw' x = tw x := fun x hx => by
    have e0 : ¬ x = y := fun e => h2 (by rw [← e]; exact hx)
    have e1 : ¬ x = T.r y := fun e => n1 (by rw [← e]; exact hx)
    have e2 : ¬ x = T.r (T.r y) := fun e => n2 (by rw [← e]; exact hx)
    show (if x = y then _ else _) = _
    rw [if_neg e0, if_neg e1, if_neg e2]
  have pa : ∀ x, x ∈ places (a ++ (u, p) :: g) ↔ x ∈ places a ∨ x = p ∨ x ∈ places g := fun x => by simp [places]
  have pb : ∀ x, x ∈ places (a ++ openL u (T.r y) (T.r (T.r y)) g) ↔ x ∈ places a ∨ x = T.r y ∨ x = T.r (T.r y) ∨ x ∈ places g := fun x => by simp [places, openL]
  have nd : (places a).Nodup ∧ (p ∉ places g ∧ (places g).Nodup) ∧ ∀ x ∈ places a, x ≠ p ∧ x ∉ places g := by
    have := h.nd
    have e : places (a ++ (u, p) :: g) = places a ++ p :: places g := by simp [places]
    rw [e, List.nodup_append, List.nodup_cons] at this
    obtain ⟨q1, q2, q3⟩ := this
    exact ⟨q1, q2, fun x hx => ⟨q3 x hx p (by simp), fun hg => q3 x hx x (by simp [hg]) rfl⟩⟩
  have mu : ∀ x, x ∈ used ++ [y, T.r y, T.r (T.r y)] ↔ x ∈ used ∨ x = y ∨ x = T.r y ∨ x = T.r (T.r y) := fun x => by simp
  have rp := h.rn p pu
  refine ⟨tw', ⟨⟨?_, by simp [openL]⟩, ?_, ?_, by omega, ?_, ?_, ?_, ?_, ?_, ?_, ?_, ?_, ?_, ?_⟩⟩
  · rw [show hdF (a ++ openL u (T.r y) (T.r (T.r y)) g) = hdF (a ++ (u, p) :: g) from hdF_app a [] u _ _ _ _]
    exact h.fst.1
  · refine chain_open a h.ch (fun x hx => to x (h.sub x ((pa x).mpr (.inl hx)))) (fun x hx => to x (h.sub x ((pa x).mpr (.inr (.inr hx))))) ?_ ?_
    · rw [t1, ev_append]; exact .refl _
    · rw [t2, ev_append]; exact .refl _
  · have := h.gl
    simp only [List.length_append, List.length_cons, openL] at *
    omega
  · have e : places (a ++ openL u (T.r y) (T.r (T.r y)) g) = places a ++ T.r y :: T.r (T.r y) :: places g := by simp [places, openL]
    rw [e, List.nodup_append, List.nodup_cons, List.nodup_cons]
    have ug : ∀ x ∈ places g, x ∈ used := fun x hx => h.sub x ((pa x).mpr (.inr (.inr hx)))
    have ua : ∀ x ∈ places a, x ∈ used := fun x hx => h.sub x ((pa x).mpr (.inl hx))
    refine ⟨nd.1, ⟨?_, fun q => n2 (ug _ q), nd.2.1.2⟩, ?_⟩
    · rw [List.mem_cons, not_or]
      exact ⟨fun q => d2 q.symm, fun q => n1 (ug _ q)⟩
    · intro x hx z hz q
      subst q
      rcases List.mem_cons.mp hz with e | hz
      · exact n1 (e ▸ ua x hx)
      · rcases List.mem_cons.mp hz with e | hz
        · exact n2 (e ▸ ua x hx)
        · exact (nd.2.2 x hx).2 hz
  · intro x hx
    rw [mu]
    rcases (pb x).mp hx with q | q | q | q
    · exact .inl (h.sub x ((pa x).mpr (.inl q)))
    · exact .inr (.inr (.inl q))
    · exact .inr (.inr (.inr q))
    · exact .inl (h.sub x ((pa x).mpr (.inr (.inr q))))
  · rw [List.nodup_append]
    refine ⟨h.un, ?_, ?_⟩
    · simp only [List.nodup_cons, List.mem_cons, List.not_mem_nil, or_false, not_or, not_false_eq_true, List.nodup_nil, and_true]
      exact ⟨⟨fun e => h1 e.symm, fun e => d1 e.symm⟩, fun e => d2 e.symm⟩
    · intro x hx z hz e
      subst e
      simp only [List.mem_cons, List.not_mem_nil, or_false] at hz
      rcases hz with e | e | e
      · exact h2 (e ▸ hx)
      · exact n1 (e ▸ hx)
      · exact n2 (e ▸ hx)
  · have := h.ul
    simp only [List.length_append, List.length_cons, List.length_nil]
    omega
  · intro x hx
    rcases (mu x).mp hx with q | rfl | rfl | rfl
    · exact h.ub x q
    · exact ly
    · exact V.sys.pr _ ly
    · exact V.sys.pr _ (V.sys.pr _ ly)
  · intro x hx
    rcases (mu x).mp hx with q | rfl | rfl | rfl
    · obtain ⟨k1, k2, k3⟩ := h.ur x q
      exact ⟨(mu _).mpr (.inl k1), k2, by rw [to x q, to _ k1]; exact k3⟩
    · refine ⟨(mu _).mpr (.inr (.inr (.inl rfl))), h1, ?_⟩
      rw [t0, t1, ← ev_append, List.append_assoc]
      exact .refl _
    · refine ⟨(mu _).mpr (.inr (.inr (.inr rfl))), d2, ?_⟩
      rw [t1, t2, ← ev_append, List.append_assoc]
      exact ev_tail _ _ _ (by decide)
    · refine ⟨(mu _).mpr (.inr (.inl d3)), fun e => d1 (by rw [d3] at e; exact e.symm), ?_⟩
      rw [t2, d3, t0, ← ev_append, List.append_assoc]
      exact ev_tail _ _ _ (by decide)
  · intro x hx
    rcases (mu x).mp hx with q | rfl | rfl | rfl
    · rw [to x q]; exact h.rn x q
    · rw [t0, run_append, rp]; exact hy
    · rw [t1, run_append, rp]
      show T.r (T.s p) = _
      rw [hy]
    · rw [t2, run_append, rp]
      show T.r (T.r (T.s p)) = _
      rw [hy]
  · intro x hx
    have := h.wl p pu
    rcases (mu x).mp hx with q | rfl | rfl | rfl
    · rw [to x q]
      have := h.wl x q
      omega
    · rw [t0]; simp only [List.length_append, List.length_cons, List.length_nil]; omega
    · rw [t1]; simp only [List.length_append, List.length_cons, List.length_nil]; omega
    · rw [t2]; simp only [List.length_append, List.length_cons, List.length_nil]; omega
  · intro x hx hn
    have nyp : y ∉ places (a ++ openL u (T.r y) (T.r (T.r y)) g) := fun q => by
      rcases (pb y).mp q with q | q | q | q
      · exact h2 (h.sub y ((pa y).mpr (.inl q)))
      · exact h1 q.symm
      · exact d1 q.symm
      · exact h2 (h.sub y ((pa y).mpr (.inr (.inr q))))
    have npp : p ∉ places (a ++ openL u (T.r y) (T.r (T.r y)) g) := fun q => by
      rcases (pb p).mp q with q | q | q | q
      · exact (nd.2.2 p q).1 rfl
      · exact n1 (q ▸ pu)
      · exact n2 (q ▸ pu)
      · exact nd.2.1.1 q
    rcases (mu x).mp hx with q | e | e | e
    · by_cases xp : x = p
      · subst xp
        rw [hy]
        refine ⟨(mu _).mpr (.inr (.inl rfl)), nyp, ?_⟩
        rw [to x q, t0, ev_append]
        exact .refl _
      · have hn2 : x ∉ places (a ++ (u, p) :: g) := fun z => by
          rcases (pa x).mp z with z | z | z
          · exact hn ((pb x).mpr (.inl z))
          · exact xp z
          · exact hn ((pb x).mpr (.inr (.inr (.inr z))))
        obtain ⟨k1, k2, k3⟩ := h.inn x q hn2
        refine ⟨(mu _).mpr (.inl k1), fun z => ?_, by rw [to x q, to _ k1]; exact k3⟩
        rcases (pb _).mp z with z | z | z | z
        · exact k2 ((pa _).mpr (.inl z))
        · exact n1 (z ▸ k1)
        · exact n2 (z ▸ k1)
        · exact k2 ((pa _).mpr (.inr (.inr z)))
    · subst e
      rw [ss]
      refine ⟨(mu _).mpr (.inl pu), npp, ?_⟩
      rw [t0, to p pu, ← ev_append, List.append_assoc]
      have := ev_tail (tw p) ([.s] ++ [.s]) [] (by decide)
      simpa using this
    · exact absurd ((pb x).mpr (.inr (.inl e))) hn
    · exact absurd ((pb x).mpr (.inr (.inr (.inl e)))) hn
  · rcases h.bas with ⟨q1, q2⟩ | ⟨q1, q2, q3⟩
    · exact .inl ⟨(mu _).mpr (.inl q1), by rw [to 0 q1]; exact q2⟩
    · right
      have q4 := h.sub _ q2
      refine ⟨q1, ?_, by rw [to _ q4]; exact q3⟩
      rw [pb]
      rcases (pa _).mp q2 with z | z | z
      · exact .inl z
      · exfalso
        have : y = 0 := by rw [← hy, ← z, V.sys.ss 0 V.pos]
        rw [this] at h1
        exact h1 q1
      · exact .inr (.inr (.inr z))
end Fg
/-! the glues of a table's fan tell its group -/
namespace Fg
inductive Mk where
  | half | third | pair (j : Nat)
  deriving DecidableEq
def markOf (T : Tab) (ps : List Nat) (p : Nat) : Mk := if T.s p = p then .half else if T.r (T.s p) = T.s p then .third else .pair (ps.idxOf (T.s p))
def nmul (x y : Mat) : Mat := (x.mul y).norm
def ninv (x : Mat) : Mat := x.inv.norm
def srsM : Mat := ⟨-1, -1, 1, 0⟩
def frAt (fr : List Fr) (i : Nat) : Fr := fr.getD i inf
def gapM (fr : List Fr) (i : Nat) : Mat := betw (frAt fr i) (frAt fr ((i + 1) % fr.length))
def glueM (fr : List Fr) (mk : List Mk) (i : Nat) : Mat := match mk.getD i .half with
  | .half => nmul (nmul (gapM fr i) (lm .s)) (ninv (gapM fr i))
  | .third => nmul (nmul (gapM fr i) srsM) (ninv (gapM fr i))
  | .pair j => nmul (nmul (gapM fr j) (lm .s)) (ninv (gapM fr i))
def isOwn (mk : List Mk) (i : Nat) : Bool := match mk.getD i .half with
  | .pair j => decide (i < j)
  | _ => true
def own (mk : List Mk) : List Nat := (List.range mk.length).filter (isOwn mk)
theorem nmul_eqv {a b x y : Mat} (h : Eqv a x) (g : Eqv b y) : Eqv (nmul a b) (x.mul y) := (norm_eqv _).trans (h.mul g)
theorem ninv_eqv {a x : Mat} (h : Eqv a x) : Eqv (ninv a) x.inv := (norm_eqv _).trans h.inv
/-- what is asked of the fan -/
structure FanOk (T : Tab) (fr : List Fr) (mk : List Mk) : Prop where
  ln : mk.length = fr.length
  lo : 2 ≤ fr.length
  hi : fr.length ≤ 22
  words : ∃ gw : Nat → Wd, (∀ i ∈ own mk, Nrm (glueM fr mk i) ∧ Eqv (ev (gw i)) (glueM fr mk i) ∧ run T.s T.r (gw i) 0 = 0 ∧ (gw i).length ≤ 90) ∧
    ∀ F : Fo, FI F [] → (∀ i ∈ own mk, InL F (ev (gw i))) → Gen T F
  edge : ∀ i, i < fr.length → ∃ w : Wd, w.length ≤ 41 ∧ Eqv (ev w) (gapM fr i)
  mark : ∀ i j, mk.getD i .half = .pair j → j < fr.length
theorem chain_get {tw : Nat → Wd} : ∀ {g : GapL} {i : Nat} {u : Fr} {p : Nat}, Chain tw g → g[i]? = some (u, p) → EdgeOk u (hdF (g.drop (i + 1))) ∧ Eqv (ev (tw p)) (betw u (hdF (g.drop (i + 1)))) := by
  intro g
  induction g with
  | nil => intro i u p _ h; simp at h
  | cons x g ih =>
    intro i u p h e
    obtain ⟨v, q⟩ := x
    obtain ⟨h1, h2, h3⟩ := h
    cases i with
    | zero =>
      simp at e
      obtain ⟨rfl, rfl⟩ := e
      exact ⟨h1, h2⟩
    | succ i =>
      simp at e
      exact ih h3 e
theorem hdF_drop {g : GapL} (hf : hdF g = inf) (i : Nat) (hi : i < g.length) : hdF (g.drop (i + 1)) = frAt (g.map (·.1)) ((i + 1) % (g.map (·.1)).length) := by
  unfold frAt
  rw [List.length_map]
  by_cases h : i + 1 < g.length
  · rw [Nat.mod_eq_of_lt h, List.drop_eq_getElem_cons h, List.getD_eq_getElem?_getD, List.getElem?_map, List.getElem?_eq_getElem h]
    generalize g[i + 1] = x
    obtain ⟨v, q⟩ := x
    rfl
  · have e : i + 1 = g.length := by omega
    rw [e, Nat.mod_self, List.drop_eq_nil_of_le (Nat.le_refl _)]
    cases g with
    | nil => simp at hi
    | cons x g => obtain ⟨v, q⟩ := x; exact hf.symm
theorem frAt_map {g : GapL} {i : Nat} {u : Fr} {p : Nat} (e : g[i]? = some (u, p)) : frAt (g.map (·.1)) i = u := by
  unfold frAt
  rw [List.getD_eq_getElem?_getD, List.getElem?_map, e]; rfl
theorem gap_eqv {T : Tab} {g : GapL} {used : List Nat} {k : Nat} {tw : Nat → Wd} (h : GI T g used k tw) {i : Nat} {u : Fr} {p : Nat} (e : g[i]? = some (u, p)) : Eqv (ev (tw p)) (gapM (g.map (·.1)) i) := by
  have hi := (List.getElem?_eq_some_iff.mp e).1
  have := (chain_get h.ch e).2
  unfold gapM
  rw [frAt_map e, ← hdF_drop h.fst.1 i hi]
  exact this
/-- a turning there, another, and back -/
def conj (x y z : Mat) : Mat := (x.mul y).mul z.inv
section
variable {T : Tab} {g : GapL} {used : List Nat} {k : Nat} {tw : Nat → Wd} {F : Fo}
theorem inl_one {F : Fo} {x y z : Mat} (h : z.det = 1) (e : Eqv (x.mul y) z) : InL F (conj x y z) := by
  refine (InL.one F).eqv ?_
  have := e.symm.mul (Eqv.refl z.inv)
  rw [Mat.mul_inv z h] at this
  exact this
/-- the turnings that the table's first place keeps are told by the glues -/
theorem gen_of (V : Valid T) (h : GI T g used k tw) (stop : ∀ p ∈ places g, T.r (T.s p) = T.s p ∨ T.s p ∈ used) (I : FI F [])
    (g1 : ∀ p ∈ places g, T.s p = p → InL F (conj (ev (tw p)) (lm .s) (ev (tw p)))) (g2 : ∀ p ∈ places g, T.s p ≠ p → T.r (T.s p) = T.s p → InL F (conj (ev (tw p)) (ev [.s, .r, .s]) (ev (tw p))))
    (g3 : ∀ p ∈ places g, T.s p ≠ p → T.s p ∈ places g → InL F (conj (ev (tw p)) (lm .s) (ev (tw (T.s p))))) : Gen T F := by
  let t : Nat → Mat := fun x => if x ∈ used then ev (tw x) else ev (tw (T.s x) ++ [.s])
  have tu : ∀ x, x ∈ used → t x = ev (tw x) := fun x hx => if_pos hx
  have tn : ∀ x, x ∉ used → t x = ev (tw (T.s x) ++ [.s]) := fun x hx => if_neg hx
  have td : ∀ x, (t x).det = 1 := fun x => by
    by_cases hx : x ∈ used
    · rw [tu x hx]; exact ev_det _
    · rw [tn x hx]; exact ev_det _
  let D : Nat → Prop := fun x => x < T.n ∧ (x ∈ used ∨ (T.r x = x ∧ T.s x ∈ places g ∧ x ∉ used))
  have d0 : D 0 := by
    refine ⟨V.pos, ?_⟩
    rcases h.bas with ⟨q, _⟩ | ⟨q1, q2, _⟩
    · exact .inl q
    · by_cases q : 0 ∈ used
      · exact .inl q
      · exact .inr ⟨q1, q2, q⟩
  have ds : ∀ x, D x → D (T.s x) := fun x ⟨hl, hx⟩ => by
    refine ⟨V.sys.ps x hl, ?_⟩
    rcases hx with hx | ⟨_, hx, _⟩
    · by_cases hg : x ∈ places g
      · by_cases q : T.s x ∈ used
        · exact .inl q
        · rcases stop x hg with q2 | q2
          · exact .inr ⟨q2, by rw [V.sys.ss x hl]; exact hg, q⟩
          · exact absurd q2 q
      · exact .inl (h.inn x hx hg).1
    · exact .inl (h.sub _ hx)
  have dr : ∀ x, D x → D (T.r x) := fun x ⟨hl, hx⟩ => by
    refine ⟨V.sys.pr x hl, ?_⟩
    rcases hx with hx | hx
    · exact .inl (h.ur x hx).1
    · rw [hx.1]; exact .inr hx
  have ks : ∀ x, D x → InL F (conj (t x) (lm .s) (t (T.s x))) := fun x ⟨hl, hx⟩ => by
    have ss := V.sys.ss x hl
    rcases hx with hx | ⟨h1, h2, h3⟩
    · by_cases hg : x ∈ places g
      · by_cases e : T.s x = x
        · rw [e, tu x hx]
          exact g1 x hg e
        · by_cases q : T.s x ∈ used
          · rw [tu x hx, tu _ q]
            have hp : T.s x ∈ places g := Decidable.byContradiction fun z => by
              have := (h.inn _ q z).2.1
              rw [ss] at this
              exact this hg
            exact g3 x hg e hp
          · refine inl_one (td _) ?_
            rw [tu x hx, tn _ q, ss, ev_append]
            exact (Eqv.refl _).mul (by decide)
      · obtain ⟨k1, k2, k3⟩ := h.inn x hx hg
        refine inl_one (td _) ?_
        rw [tu x hx, tu _ k1]
        exact ((Eqv.refl _).mul (by decide : Eqv (lm .s) (ev [.s]))).trans k3
    · refine inl_one (td _) ?_
      rw [tn x h3, tu _ (h.sub _ h2), ev_append, Mat.mul_assoc]
      have : Eqv ((ev (tw (T.s x))).mul ((ev [.s]).mul (lm .s))) ((ev (tw (T.s x))).mul Mat.one) := (Eqv.refl _).mul (by decide)
      rw [Mat.mul_one] at this
      exact this
  have kr : ∀ x, D x → InL F (conj (t x) (lm .r) (t (T.r x))) := fun x ⟨hl, hx⟩ => by
    have ss := V.sys.ss x hl
    rcases hx with hx | ⟨h1, h2, h3⟩
    · obtain ⟨k1, k2, k3⟩ := h.ur x hx
      refine inl_one (td _) ?_
      rw [tu x hx, tu _ k1]
      exact ((Eqv.refl _).mul (by decide : Eqv (lm .r) (ev [.r]))).trans k3
    · rw [h1, tn x h3]
      have ne : T.s (T.s x) ≠ T.s x := fun e => by
        rw [ss] at e
        exact h3 (by rw [e]; exact h.sub _ h2)
      have k := g2 (T.s x) h2 ne (by rw [ss]; exact h1)
      refine k.eqv ?_
      unfold conj
      have e1 : (ev (tw (T.s x) ++ [.s])).inv = (ev [.s]).inv.mul (ev (tw (T.s x))).inv := by rw [ev_append, Mat.inv_mul_rev]
      rw [e1, ev_append, ← Mat.mul_assoc]
      refine Eqv.mul ?_ (.refl _)
      rw [Mat.mul_assoc, Mat.mul_assoc]
      exact (Eqv.refl _).mul (by decide)
  have cj : ∀ {x y z v u : Mat}, z.det = 1 → InL F (x.mul z.inv) → InL F (conj z y v) → InL F ((x.mul y).mul v.inv) := fun {x y z v u} hd a b => by
    have := a.mul b
    refine this.eqv ?_
    unfold conj
    have e : (x.mul z.inv).mul ((z.mul y).mul v.inv) = (x.mul y).mul v.inv := by
      rw [Mat.mul_assoc, Mat.mul_assoc z, ← Mat.mul_assoc z.inv, Mat.inv_mul z hd, Mat.one_mul, ← Mat.mul_assoc]
    rw [e]
    exact .refl _
  have key : ∀ (w : Wd) (u : Wd) (x : Nat), D x → InL F ((ev u).mul (t x).inv) → D (run T.s T.r w x) ∧ InL F ((ev (u ++ w)).mul (t (run T.s T.r w x)).inv) := by
    intro w
    induction w with
    | nil => intro u x hx hu; exact ⟨hx, by rw [List.append_nil]; exact hu⟩
    | cons c w ih =>
      intro u x hx hu
      have e : u ++ c :: w = (u ++ [c]) ++ w := by simp
      rw [e]
      have eu : ∀ c : L, ev (u ++ [c]) = (ev u).mul (lm c) := fun c => by rw [ev_append]; simp [ev, Mat.mul_one]
      cases c
      · refine ih (u ++ [.s]) (T.s x) (ds x hx) ?_
        rw [eu]
        exact cj (u := Mat.one) (td x) hu (ks x hx)
      · refine ih (u ++ [.r]) (T.r x) (dr x hx) ?_
        rw [eu]
        exact cj (u := Mat.one) (td x) hu (kr x hx)
      · refine ih (u ++ [.q]) (T.r (T.r x)) (dr _ (dr x hx)) ?_
        rw [eu]
        have a1 := cj (u := Mat.one) (td x) hu (kr x hx)
        have a2 := cj (u := Mat.one) (td _) a1 (kr _ (dr x hx))
        refine a2.eqv ?_
        refine Eqv.mul ?_ (.refl _)
        rw [Mat.mul_assoc]
        exact (Eqv.refl _).mul (by decide)
  have t0 : Eqv (t 0) Mat.one := by
    rcases h.bas with ⟨q, e⟩ | ⟨q1, q2, e⟩
    · rw [tu 0 q]; exact e
    · by_cases q : 0 ∈ used
      · exfalso
        exact (h.ur 0 q).2.1 q1
      · rw [tn 0 q, ev_append]
        exact (e.mul (Eqv.refl (ev [.s]))).trans (by decide)
  intro w hw
  obtain ⟨_, k⟩ := key w [] 0 d0 (by
    refine (InL.one F).eqv ?_
    show Eqv Mat.one (Mat.one.mul (t 0).inv)
    rw [Mat.one_mul]
    exact (t0.inv).symm)
  rw [hw] at k
  refine k.eqv ?_
  have := (Eqv.refl (ev ([] ++ w))).mul t0.inv
  have e : (ev ([] ++ w)).mul Mat.one.inv = ev w := by
    show (ev w).mul Mat.one = _
    rw [Mat.mul_one]
  rw [e] at this
  exact this
end
theorem inl_conj_inv {F : Fo} (I : FI F []) {x z : Mat} (h : InL F (conj x (lm .s) z)) : InL F (conj z (lm .s) x) := by
  refine (h.inv I).eqv ?_
  unfold conj
  rw [Mat.inv_mul_rev, Mat.inv_inv, Mat.inv_mul_rev, ← Mat.mul_assoc]
  refine Eqv.mul ?_ (.refl _)
  exact (Eqv.refl _).mul (by decide)
/-- the fan of a table with a tile -/
theorem fan_ok {T : Tab} (V : Valid T) (h60 : T.n ≤ 60) {g : GapL} {used : List Nat} {k : Nat} {tw : Nat → Wd} (h : GI T g used k tw) (stop : ∀ p ∈ places g, T.r (T.s p) = T.s p ∨ T.s p ∈ used) :
    FanOk T (g.map (·.1)) ((places g).map (markOf T (places g))) := by
  have hk : k ≤ 20 := by have := h.few; omega
  have hl := h.gl
  have pl : (places g).length = g.length := by simp [places]
  have fl : (g.map (·.1)).length = g.length := by simp
  have ml : ((places g).map (markOf T (places g))).length = g.length := by simp [places]
  have at_ : ∀ i, i < g.length → ∃ u p, g[i]? = some (u, p) ∧ (places g)[i]? = some p := fun i hi => ⟨g[i].1, g[i].2, by rw [List.getElem?_eq_getElem hi], by simp [places, hi]⟩
  have mk_at : ∀ {i u p}, g[i]? = some (u, p) → ((places g).map (markOf T (places g))).getD i .half = markOf T (places g) p := fun {i u p} e => by
    rw [List.getD_eq_getElem?_getD, List.getElem?_map, places, List.getElem?_map, e]; rfl
  have mem : ∀ {i u p}, g[i]? = some (u, p) → p ∈ places g := fun {i u p} e => List.mem_map.mpr ⟨(u, p), List.mem_of_getElem? e, rfl⟩
  have inv_at : ∀ {p}, p ∈ places g → ∃ u, g[(places g).idxOf p]? = some (u, p) := fun {p} hp => by
    have hi := List.idxOf_lt_length_of_mem hp
    obtain ⟨u, q, e1, e2⟩ := at_ _ (by rw [← pl]; exact hi)
    rw [List.getElem?_eq_getElem hi, List.getElem_idxOf hi] at e2
    exact ⟨u, by rw [e1, ← Option.some.inj e2]⟩
  have idx_of : ∀ {i u p}, g[i]? = some (u, p) → (places g).idxOf p = i := fun {i u p} e => idx_get h.nd (by rw [places, List.getElem?_map, e]; rfl)
  have lt : ∀ {p}, p ∈ places g → p < T.n := fun hp => h.ub _ (h.sub _ hp)
  have pair : ∀ {p}, p ∈ places g → T.s p ≠ p → T.r (T.s p) ≠ T.s p → T.s p ∈ places g := fun {p} hp _ h2 => by
    rcases stop p hp with q | q
    · exact absurd q h2
    · refine Decidable.byContradiction fun z => ?_
      have := (h.inn _ q z).2.1
      rw [V.sys.ss p (lt hp)] at this
      exact this hp
  let gw : Nat → Wd := fun i => match g[i]? with
    | none => []
    | some (_, p) => if T.s p = p then tw p ++ [.s] ++ winv (tw p) else if T.r (T.s p) = T.s p then tw p ++ [.s, .r, .s] ++ winv (tw p) else tw (T.s p) ++ [.s] ++ winv (tw p)
  have gw_at : ∀ {i u p}, g[i]? = some (u, p) → gw i = if T.s p = p then tw p ++ [.s] ++ winv (tw p) else if T.r (T.s p) = T.s p then tw p ++ [.s, .r, .s] ++ winv (tw p) else tw (T.s p) ++ [.s] ++ winv (tw p) := fun {i u p} e => by
    show (match g[i]? with | none => [] | some (_, p) => _) = _
    rw [e]
  have cw : ∀ (a b c : Wd), Eqv (ev (a ++ b ++ winv c)) (conj (ev a) (ev b) (ev c)) := fun a b c => by
    rw [ev_append, ev_append]
    exact (Eqv.refl _).mul (ev_winv c)
  refine ⟨by rw [ml, fl], by rw [fl]; have := h.kp; omega, by rw [fl]; omega, ⟨gw, ?_, ?_⟩, ?_, ?_⟩
  · intro i hi
    have hi2 := List.mem_range.mp (List.mem_filter.mp hi).1
    rw [ml] at hi2
    obtain ⟨u, p, e, e2⟩ := at_ i hi2
    have hp := mem e
    have lp := h.wl p (h.sub p hp)
    have ge := gap_eqv h e
    have rp := h.rn p (h.sub p hp)
    have bk : run T.s T.r (winv (tw p)) p = 0 := by
      have := V.sys.winv (tw p) V.pos
      rw [rp] at this
      exact this
    have es : Eqv (ev [.s]) (lm .s) := by decide
    have key : Eqv (ev (gw i)) (glueM (g.map (·.1)) ((places g).map (markOf T (places g))) i) ∧ (glueM (g.map (·.1)) ((places g).map (markOf T (places g))) i) = Mat.norm (glueM (g.map (·.1)) ((places g).map (markOf T (places g))) i) ∧ run T.s T.r (gw i) 0 = 0 ∧ (gw i).length ≤ 90 := by
      have idem : ∀ {x : Mat}, x.det = 1 → x.norm = x.norm.norm := fun {x} hd => by
        have n1 := norm_nrm x hd
        exact nrm_eq n1 (norm_nrm _ n1.1) (norm_eqv _).symm
      have dg : ∀ {a b c : Mat}, a.det = 1 → b.det = 1 → c.det = 1 → ((nmul a b).mul (ninv c)).det = 1 := fun {a b c} ha hb hc => by
        unfold nmul ninv
        rw [Mat.det_mul, (norm_eqv _).det, (norm_eqv _).det, Mat.det_mul, Mat.det_inv, ha, hb, hc]; rfl
      have dgap : (gapM (g.map (·.1)) i).det = 1 := by rw [← ge.det]; exact ev_det _
      rw [gw_at e]
      unfold glueM
      rw [mk_at e]
      unfold markOf
      by_cases c1 : T.s p = p
      · rw [if_pos c1, if_pos c1]
        refine ⟨((cw _ _ _).trans ?_), idem (dg dgap rfl dgap), ?_, ?_⟩
        · exact ((nmul_eqv (nmul_eqv ge.symm (Eqv.refl _)) (ninv_eqv ge.symm)).trans (((Eqv.refl _).mul es.symm).mul (.refl _))).symm
        · rw [run_append, run_append, rp]
          show run T.s T.r (winv (tw p)) (T.s p) = 0
          rw [c1]; exact bk
        · simp only [List.length_append, List.length_cons, List.length_nil, winv_length]; omega
      · rw [if_neg c1, if_neg c1]
        by_cases c2 : T.r (T.s p) = T.s p
        · rw [if_pos c2, if_pos c2]
          have e3 : Eqv (ev [.s, .r, .s]) srsM := by decide
          refine ⟨((cw _ _ _).trans ?_), idem (dg dgap rfl dgap), ?_, ?_⟩
          · exact ((nmul_eqv (nmul_eqv ge.symm (Eqv.refl _)) (ninv_eqv ge.symm)).trans (((Eqv.refl _).mul e3.symm).mul (.refl _))).symm
          · rw [run_append, run_append, rp]
            show run T.s T.r (winv (tw p)) (T.s (T.r (T.s p))) = 0
            rw [c2, V.sys.ss p (lt hp)]; exact bk
          · simp only [List.length_append, List.length_cons, List.length_nil, winv_length]; omega
        · rw [if_neg c2, if_neg c2]
          have hq := pair hp c1 c2
          obtain ⟨v, ej⟩ := inv_at hq
          have gj := gap_eqv h ej
          have dj : (gapM (g.map (·.1)) ((places g).idxOf (T.s p))).det = 1 := by rw [← gj.det]; exact ev_det _
          have lq := h.wl _ (h.sub _ hq)
          refine ⟨((cw _ _ _).trans ?_), idem (dg dj rfl dgap), ?_, ?_⟩
          · exact ((nmul_eqv (nmul_eqv gj.symm (Eqv.refl _)) (ninv_eqv ge.symm)).trans (((Eqv.refl _).mul es.symm).mul (.refl _))).symm
          · rw [run_append, run_append, h.rn _ (h.sub _ hq)]
            show run T.s T.r (winv (tw p)) (T.s (T.s p)) = 0
            rw [V.sys.ss p (lt hp)]; exact bk
          · simp only [List.length_append, List.length_cons, List.length_nil, winv_length]; omega
    obtain ⟨k1, k2, k3, k4⟩ := key
    refine ⟨?_, k1, k3, k4⟩
    rw [k2]
    exact norm_nrm _ (by rw [← k1.det]; exact ev_det _)
  · intro F I gl
    have isown : ∀ {i}, i < g.length → isOwn ((places g).map (markOf T (places g))) i = true → i ∈ own ((places g).map (markOf T (places g))) := fun {i} hi ho => List.mem_filter.mpr ⟨List.mem_range.mpr (by rw [ml]; exact hi), ho⟩
    refine gen_of V h stop I (fun p hp c1 => ?_) (fun p hp c1 c2 => ?_) (fun p hp c1 hq => ?_)
    · obtain ⟨u, e⟩ := inv_at hp
      have hi := (List.getElem?_eq_some_iff.mp e).1
      have ho : isOwn ((places g).map (markOf T (places g))) ((places g).idxOf p) = true := by
        unfold isOwn
        rw [mk_at e, markOf, if_pos c1]
      have k := gl _ (isown hi ho)
      rw [gw_at e, if_pos c1] at k
      exact k.eqv ((cw _ _ _).trans (((Eqv.refl _).mul (by decide)).mul (.refl _)))
    · obtain ⟨u, e⟩ := inv_at hp
      have hi := (List.getElem?_eq_some_iff.mp e).1
      have ho : isOwn ((places g).map (markOf T (places g))) ((places g).idxOf p) = true := by
        unfold isOwn
        rw [mk_at e, markOf, if_neg c1, if_pos c2]
      have k := gl _ (isown hi ho)
      rw [gw_at e, if_neg c1, if_pos c2] at k
      exact k.eqv (cw _ _ _)
    · have nr : ∀ {q}, q ∈ places g → T.r q ≠ q := fun hq => (h.ur _ (h.sub _ hq)).2.1
      obtain ⟨u, e⟩ := inv_at hp
      obtain ⟨v, ej⟩ := inv_at hq
      have hi := (List.getElem?_eq_some_iff.mp e).1
      have hj := (List.getElem?_eq_some_iff.mp ej).1
      have ss := V.sys.ss p (lt hp)
      have c3 : T.s (T.s p) ≠ T.s p := fun z => c1 (by rw [ss] at z; exact z.symm)
      have ne : (places g).idxOf p ≠ (places g).idxOf (T.s p) := fun z => c1 (idx_inj hp z).symm
      by_cases lt1 : (places g).idxOf p < (places g).idxOf (T.s p)
      · have ho : isOwn ((places g).map (markOf T (places g))) ((places g).idxOf p) = true := by
          unfold isOwn
          rw [mk_at e, markOf, if_neg c1, if_neg (nr hq)]
          exact decide_eq_true lt1
        have k := gl _ (isown hi ho)
        rw [gw_at e, if_neg c1, if_neg (nr hq)] at k
        exact inl_conj_inv I (k.eqv ((cw _ _ _).trans (((Eqv.refl _).mul (by decide)).mul (.refl _))))
      · have ho : isOwn ((places g).map (markOf T (places g))) ((places g).idxOf (T.s p)) = true := by
          unfold isOwn
          rw [mk_at ej, markOf, if_neg c3, ss, if_neg (nr hp)]
          exact decide_eq_true (by omega)
        have k := gl _ (isown hj ho)
        rw [gw_at ej, if_neg c3, ss, if_neg (nr hp)] at k
        exact k.eqv ((cw _ _ _).trans (((Eqv.refl _).mul (by decide)).mul (.refl _)))
  · intro i hi
    rw [fl] at hi
    obtain ⟨u, p, e, _⟩ := at_ i hi
    have := h.wl p (h.sub p (mem e))
    exact ⟨tw p, by omega, gap_eqv h e⟩
  · intro i j e
    rw [fl]
    by_cases hi : i < g.length
    · obtain ⟨u, p, e1, _⟩ := at_ i hi
      rw [mk_at e1] at e
      unfold markOf at e
      by_cases c1 : T.s p = p
      · rw [if_pos c1] at e; cases e
      · rw [if_neg c1] at e
        by_cases c2 : T.r (T.s p) = T.s p
        · rw [if_pos c2] at e; cases e
        · rw [if_neg c2] at e
          injection e with e
          subst e
          have := List.idxOf_lt_length_of_mem (pair (mem e1) c1 c2)
          rw [pl] at this
          exact this
    · rw [List.getD_eq_getElem?_getD, List.getElem?_eq_none (by rw [ml]; omega)] at e
      cases e
/-! ### tables of one and of two places -/
theorem valid_one {T : Tab} (V : Valid T) (h : T.n = 1) : T.s 0 = 0 ∧ T.r 0 = 0 := by
  have a := V.sys.ps 0 V.pos
  have b := V.sys.pr 0 V.pos
  omega
theorem valid_two {T : Tab} (V : Valid T) (h : T.n = 2) : T.s 0 = 1 ∧ T.s 1 = 0 ∧ T.r 0 = 0 ∧ T.r 1 = 1 := by
  have a0 := V.sys.ps 0 V.pos
  have b0 := V.sys.pr 0 V.pos
  have a1 := V.sys.ps 1 (by omega)
  have b1 := V.sys.pr 1 (by omega)
  have r0 := V.sys.rrr 0 V.pos
  have r1 := V.sys.rrr 1 (by omega)
  have s0 := V.sys.ss 0 V.pos
  have hr : T.r 0 = 0 ∧ T.r 1 = 1 := by
    rcases (show T.r 0 = 0 ∨ T.r 0 = 1 by omega) with e | e
    · refine ⟨e, ?_⟩
      rcases (show T.r 1 = 0 ∨ T.r 1 = 1 by omega) with e1 | e1
      · rw [e1, e, e] at r1; omega
      · exact e1
    · rcases (show T.r 1 = 0 ∨ T.r 1 = 1 by omega) with e1 | e1
      · rw [e, e1, e] at r0; omega
      · rw [e, e1, e1] at r0; omega
  obtain ⟨y, hy, e⟩ := V.comes (x := 1) (by omega) (by omega)
  have : y = 0 := by omega
  subst this
  have es : T.s 0 = 1 := by rcases e with e | e <;> omega
  rw [es] at s0
  exact ⟨es, s0, hr.1, hr.2⟩
def frTwo : List Fr := [inf, (0, 1)]
theorem own_two (a b : Mk) (ha : a = .half ∨ a = .third) (hb : b = .half ∨ b = .third) : own [a, b] = [0, 1] := by
  rcases ha with rfl | rfl <;> rcases hb with rfl | rfl <;> rfl
theorem edge_two (i : Nat) (hi : i < frTwo.length) : ∃ w : Wd, w.length ≤ 41 ∧ Eqv (ev w) (gapM frTwo i) := by
  have : i = 0 ∨ i = 1 := by simp [frTwo] at hi; omega
  rcases this with rfl | rfl
  · exact ⟨[], by decide, by decide⟩
  · exact ⟨[.s], by decide, by decide⟩
theorem fan_one {T : Tab} (V : Valid T) (h : T.n = 1) : FanOk T frTwo [.half, .third] := by
  obtain ⟨a, b⟩ := valid_one V h
  refine ⟨rfl, by decide, by decide, ⟨fun i => if i = 0 then [.s] else [.r], ?_, ?_⟩, edge_two, ?_⟩
  · intro i hi
    rw [own_two _ _ (.inl rfl) (.inr rfl)] at hi
    simp at hi
    rcases hi with rfl | rfl
    · exact ⟨⟨by decide, by decide⟩, by decide, by show T.s 0 = 0; exact a, by decide⟩
    · exact ⟨⟨by decide, by decide⟩, by decide, by show T.r 0 = 0; exact b, by decide⟩
  · intro F I gl w _
    rw [own_two _ _ (.inl rfl) (.inr rfl)] at gl
    have gs : InL F (ev [.s]) := gl 0 (by simp)
    have gr : InL F (ev [.r]) := gl 1 (by simp)
    induction w with
    | nil => exact .one F
    | cons c w ih =>
      rename_i hw
      have ih := ih (by
        have : run T.s T.r w 0 < T.n := V.run_lt w V.pos
        omega)
      have e : ev (c :: w) = (lm c).mul (ev w) := rfl
      rw [e]
      refine InL.mul ?_ ih
      cases c
      · exact gs.eqv (by decide)
      · exact gr.eqv (by decide)
      · exact (gr.mul gr).eqv (by decide)
  · intro i j e
    match i, e with
    | 0, e => cases e
    | 1, e => cases e
    | i + 2, e => cases e
theorem fan_two {T : Tab} (V : Valid T) (h : T.n = 2) : FanOk T frTwo [.third, .third] := by
  obtain ⟨a0, a1, b0, b1⟩ := valid_two V h
  refine ⟨rfl, by decide, by decide, ⟨fun i => if i = 0 then [.s, .r, .s] else [.r], ?_, ?_⟩, edge_two, ?_⟩
  · intro i hi
    rw [own_two _ _ (.inr rfl) (.inr rfl)] at hi
    simp at hi
    rcases hi with rfl | rfl
    · exact ⟨⟨by decide, by decide⟩, by decide, by show T.s (T.r (T.s 0)) = 0; rw [a0, b1, a1], by decide⟩
    · exact ⟨⟨by decide, by decide⟩, by decide, by show T.r 0 = 0; exact b0, by decide⟩
  · intro F I gl
    rw [own_two _ _ (.inr rfl) (.inr rfl)] at gl
    have g0 : InL F (ev [.s, .r, .s]) := gl 0 (by simp)
    have g1 : InL F (ev [.r]) := gl 1 (by simp)
    let t : Nat → Wd := fun x => if x = 0 then [] else [.s]
    have key : ∀ (w u : Wd) (x : Nat), (x = 0 ∨ x = 1) → InL F ((ev u).mul (ev (t x)).inv) → (run T.s T.r w x = 0 ∨ run T.s T.r w x = 1) ∧ InL F ((ev (u ++ w)).mul (ev (t (run T.s T.r w x))).inv) := by
      intro w
      induction w with
      | nil => intro u x hx hu; exact ⟨hx, by rw [List.append_nil]; exact hu⟩
      | cons c w ih =>
        intro u x hx hu
        have e : u ++ c :: w = (u ++ [c]) ++ w := by simp
        rw [e, run_cons]
        have step : ∀ (y : Nat) (v : Wd), InL F (ev v) → Eqv ((ev [c]).mul (ev (t y)).inv) ((ev (t x)).inv.mul (ev v)) → InL F ((ev (u ++ [c])).mul (ev (t y)).inv) := fun y v hv k => by
          rw [ev_append, Mat.mul_assoc]
          refine (hu.mul hv).eqv ?_
          rw [Mat.mul_assoc]
          exact (Eqv.refl _).mul k.symm
        cases c
        · rcases hx with rfl | rfl
          · refine ih _ _ (.inr a0) ?_
            exact step (T.s 0) [] (.one F) (by rw [a0]; decide)
          · refine ih _ _ (.inl a1) ?_
            exact step (T.s 1) [] (.one F) (by rw [a1]; decide)
        · rcases hx with rfl | rfl
          · refine ih _ _ (.inl b0) ?_
            exact step (T.r 0) [.r] g1 (by rw [b0]; decide)
          · refine ih _ _ (.inr b1) ?_
            exact step (T.r 1) [.s, .r, .s] g0 (by rw [b1]; decide)
        · rcases hx with rfl | rfl
          · refine ih _ _ (.inl (by show T.r (T.r 0) = 0; rw [b0, b0])) ?_
            refine step (T.r (T.r 0)) ([.r] ++ [.r]) (by rw [ev_append]; exact g1.mul g1) (by rw [b0, b0]; decide)
          · refine ih _ _ (.inr (by show T.r (T.r 1) = 1; rw [b1, b1])) ?_
            refine step (T.r (T.r 1)) ([.s, .r, .s] ++ [.s, .r, .s]) (by rw [ev_append]; exact g0.mul g0) (by rw [b1, b1]; decide)
    intro w hw
    obtain ⟨_, k⟩ := key w [] 0 (.inl rfl) (.one F)
    rw [hw] at k
    refine k.eqv ?_
    show Eqv ((ev w).mul (ev []).inv) (ev w)
    have : (ev ([] : Wd)).inv = Mat.one := rfl
    rw [this, Mat.mul_one]
    exact .refl _
  · intro i j e
    match i, e with
    | 0, e => cases e
    | 1, e => cases e
    | i + 2, e => cases e
end Fg
/-! what the law asks of folded glues -/
namespace Fg
/-- the short word of a turning, told without too many letters on the way -/
def WordOf (M : Mat) (w : Wd) : Prop := ∃ l n, Steps M l n ∧ n ≤ 2000 ∧ w = red (rawW l) ∧ (rawW l).length ≤ n
theorem word_told {M : Mat} {w : Wd} (h : Nrm M) (e : Eqv (ev w) M) (hl : w.length ≤ 100) : WordOf M (red w) := by
  obtain ⟨l, n, h1, h2, h3, h4⟩ := word_of h e
  exact ⟨l, n, h1, by omega, h3.symm, h4⟩
/-- the glues of a table's fan, and their words -/
structure FanWords (T : Tab) (is : List Nat) (gm : Nat → Mat) (v : Nat → Wd) : Prop where
  told : ∀ i ∈ is, WordOf (gm i) (v i) ∧ (v i).length ≤ 90
  back : ∀ i ∈ is, run T.s T.r (v i) 0 = 0
  gen : ∀ F : Fo, FI F [] → (∀ i ∈ is, Walk F (v i) 0 0) → Gen T F
theorem fan_words {T : Tab} (V : Valid T) {fr : List Fr} {mk : List Mk} (K : FanOk T fr mk) : ∃ v, FanWords T (own mk) (glueM fr mk) v := by
  obtain ⟨gw, h1, h2⟩ := K.words
  refine ⟨fun i => red (gw i), fun i hi => ?_, fun i hi => ?_, fun F I h => ?_⟩
  · obtain ⟨a, b, _, d⟩ := h1 i hi
    exact ⟨word_told a b (by omega), Nat.le_trans (red_length _) d⟩
  · rw [V.sys.run_red _ V.pos]
    exact (h1 i hi).2.2.1
  · refine h2 F I fun i hi => ?_
    exact ⟨red (gw i), ev_red _, h i hi⟩
/-- the glues of one fan, folded -/
theorem fold_one {T : Tab} (V : Valid T) {is : List Nat} {gm : Nat → Mat} {v : Nat → Wd} (W : FanWords T is gm v) {F : Fo} (A : Folded F (is.map v)) : Full F ∧ foldTab F = T := by
  have G : Gen T F := W.gen F A.fi fun i hi => A.rd _ (List.mem_map.mpr ⟨i, hi, rfl⟩)
  have U : Full F := fun x hx hr => fold_complete V A.fi A.con G hx hr
  refine ⟨U, ?_⟩
  obtain ⟨f, H, f0⟩ := A.sound (fun x => x < T.n) T.s T.r 0 V.sys V.pos fun w hw => by
    obtain ⟨i, hi, rfl⟩ := List.mem_map.mp hw
    exact W.back i hi
  exact fold_is A.fi U V G A.con H f0
/-- a table over which another one lies: their first places and leads go along -/
def Over (T F : Tab) : Prop := ∃ φ : Nat → Nat, (∀ x, x < T.n → φ x < F.n) ∧ φ 0 = 0 ∧ (∀ x, x < T.n → φ (T.s x) = F.s (φ x)) ∧ ∀ x, x < T.n → φ (T.r x) = F.r (φ x)
/-- the glues of two fans, folded together -/
theorem fold_two {T S : Tab} (V : Valid T) (V' : Valid S) {is js : List Nat} {gm gm' : Nat → Mat} {v v' : Nat → Wd} (W : FanWords T is gm v) (W' : FanWords S js gm' v') {F : Fo} (A : Folded F (is.map v ++ js.map v')) :
    Full F ∧ Valid (foldTab F) ∧ Over T (foldTab F) ∧ Over S (foldTab F) ∧ (foldTab F).n ∣ T.n ∧ (foldTab F).n ∣ S.n := by
  have G : Gen T F := W.gen F A.fi fun i hi => A.rd _ (List.mem_append_left _ (List.mem_map.mpr ⟨i, hi, rfl⟩))
  have G' : Gen S F := W'.gen F A.fi fun i hi => A.rd _ (List.mem_append_right _ (List.mem_map.mpr ⟨i, hi, rfl⟩))
  have U : Full F := fun x hx hr => fold_complete V A.fi A.con G hx hr
  have X := fold_valid A.fi U
  have O := fold_over A.fi U V G
  have O' := fold_over A.fi U V' G'
  refine ⟨U, X, O, O', ?_, ?_⟩
  · obtain ⟨φ, h1, h2, h3, h4⟩ := O
    exact places_divide V X φ h1 h2 h3 h4
  · obtain ⟨φ, h1, h2, h3, h4⟩ := O'
    exact places_divide V' X φ h1 h2 h3 h4
/-- numbered from another place -/
def anew (T : Tab) (p : Nat) : Tab := tabOf T.s T.r (bfs T.s T.r T.n [p] 0)
theorem anew_met {T : Tab} (V : Valid T) {p : Nat} (hp : p < T.n) : Met T.s T.r p (bfs T.s T.r T.n [p] 0) ∧ (bfs T.s T.r T.n [p] 0).length = T.n ∧ (∀ x ∈ bfs T.s T.r T.n [p] 0, x < T.n) ∧ Valid (anew T p) ∧ (anew T p).n = T.n := by
  have h := met_of V.sys hp (List.range T.n) fun x hx => List.mem_range.mpr hx
  rw [List.length_range] at h
  obtain ⟨M, all, le⟩ := h
  have closed : ∀ (w : Wd) (x : Nat), x ∈ bfs T.s T.r T.n [p] 0 → run T.s T.r w x ∈ bfs T.s T.r T.n [p] 0 := by
    intro w
    induction w with
    | nil => intro x h; exact h
    | cons c w ih =>
      intro x h
      refine ih _ ?_
      cases c
      · exact (M.cl x h).1
      · exact (M.cl x h).2
      · exact (M.cl _ (M.cl x h).2).2
  have mem : ∀ x, x < T.n → x ∈ bfs T.s T.r T.n [p] 0 := fun x hx => by
    obtain ⟨u, hu⟩ := V.reach hp
    obtain ⟨v, hv⟩ := V.reach hx
    have h1 : run T.s T.r (winv u ++ v) p = x := by
      rw [run_append, ← hu, V.sys.winv u V.pos, hv]
    rw [← h1]
    exact closed _ _ (List.mem_of_getElem? M.hd)
  have ge : T.n ≤ (bfs T.s T.r T.n [p] 0).length := by
    have := List.nodup_range.length_le_of_subset (l₁ := List.range T.n) (l₂ := bfs T.s T.r T.n [p] 0) fun x hx => mem x (List.mem_range.mp hx)
    simpa using this
  have en : (bfs T.s T.r T.n [p] 0).length = T.n := by omega
  exact ⟨M, en, all, M.valid V.sys all, by rw [anew, tabOf_n, en]⟩
/-- the meet of two tables: pairs of places as they are met -/
def ms (T S : Tab) (x : Nat × Nat) : Nat × Nat := (T.s x.1, S.s x.2)
def mr (T S : Tab) (x : Nat × Nat) : Nat × Nat := (T.r x.1, S.r x.2)
theorem meet_sys {T S : Tab} (V : Valid T) (W : Valid S) : Sys (fun x : Nat × Nat => x.1 < T.n ∧ x.2 < S.n) (ms T S) (mr T S) :=
  ⟨fun x h => ⟨V.sys.ps _ h.1, W.sys.ps _ h.2⟩, fun x h => ⟨V.sys.pr _ h.1, W.sys.pr _ h.2⟩, fun x h => by
    show (T.s (T.s x.1), S.s (S.s x.2)) = x
    rw [V.sys.ss _ h.1, W.sys.ss _ h.2], fun x h => by
    show (T.r (T.r (T.r x.1)), S.r (S.r (S.r x.2))) = x
    rw [V.sys.rrr _ h.1, W.sys.rrr _ h.2]⟩
def allPairs (n m : Nat) : List (Nat × Nat) := (List.range n).flatMap fun x => (List.range m).map fun y => (x, y)
theorem mem_allPairs {n m : Nat} {x : Nat × Nat} (h : x.1 < n ∧ x.2 < m) : x ∈ allPairs n m := by
  obtain ⟨a, b⟩ := x
  exact List.mem_flatMap.mpr ⟨a, List.mem_range.mpr h.1, List.mem_map.mpr ⟨b, List.mem_range.mpr h.2, rfl⟩⟩
def meetL (T S : Tab) : List (Nat × Nat) := bfs (ms T S) (mr T S) (allPairs T.n S.n).length [(0, 0)] 0
theorem meet_met {T S : Tab} (V : Valid T) (W : Valid S) : Met (ms T S) (mr T S) (0, 0) (meetL T S) ∧ (∀ x ∈ meetL T S, x.1 < T.n ∧ x.2 < S.n) ∧ Valid (tabOf (ms T S) (mr T S) (meetL T S)) := by
  have h := met_of (meet_sys V W) (first := (0, 0)) ⟨V.pos, W.pos⟩ (allPairs T.n S.n) fun x hx => mem_allPairs hx
  exact ⟨h.1, h.2.1, h.1.valid (meet_sys V W) h.2.1⟩
/-! ### sizes -/
def Small (k : Nat) (M : Mat) : Prop := M.a.natAbs ≤ k ∧ M.b.natAbs ≤ k ∧ M.c.natAbs ≤ k ∧ M.d.natAbs ≤ k
theorem small_word (w : Wd) : Small (2 ^ w.length) (ev w) := by
  induction w with
  | nil => exact ⟨by decide, by decide, by decide, by decide⟩
  | cons c w ih =>
    obtain ⟨h1, h2, h3, h4⟩ := ih
    have e : 2 ^ (c :: w).length = 2 * 2 ^ w.length := by rw [List.length_cons, Nat.pow_succ]; omega
    rw [e]
    generalize 2 ^ w.length = k at *
    have e2 : ev (c :: w) = (lm c).mul (ev w) := rfl
    rw [e2]
    cases c <;> simp only [Small, lm, Mat.mul] <;> omega
theorem Small.eqv {k : Nat} {M N : Mat} (h : Small k M) (e : Eqv M N) : Small k N := by
  obtain ⟨a, b, c, d⟩ := e.abs
  obtain ⟨h1, h2, h3, h4⟩ := h
  exact ⟨by omega, by omega, by omega, by omega⟩
theorem Small.le {k j : Nat} {M : Mat} (h : Small k M) (e : k ≤ j) : Small j M := by
  obtain ⟨h1, h2, h3, h4⟩ := h
  exact ⟨by omega, by omega, by omega, by omega⟩
end Fg
/-! the law's own table of a fan: fractions, tiles, sides -/
namespace Fg
/-- those beside one another in a row -/
def prs : List Fr → List (Fr × Fr)
  | a :: b :: t => (a, b) :: prs (b :: t)
  | _ => []
def UniP : List Fr → Prop
  | a :: b :: t => cross a b = -1 ∧ UniP (b :: t)
  | _ => True
abbrev minf : Fr := (-1, 0)
abbrev nought : Fr := (0, 1)
theorem prs_app (p : List Fr) (a : Fr) (q : List Fr) : prs (p ++ a :: q) = prs (p ++ [a]) ++ prs (a :: q) := by
  induction p with
  | nil => rfl
  | cons x p ih =>
    cases p with
    | nil => rfl
    | cons y p => simp only [List.cons_append, prs] at *; rw [ih]
theorem uni_app (p : List Fr) (a : Fr) (q : List Fr) : UniP (p ++ a :: q) ↔ UniP (p ++ [a]) ∧ UniP (a :: q) := by
  induction p with
  | nil => simp [UniP]
  | cons x p ih =>
    cases p with
    | nil => simp [UniP]
    | cons y p => simp only [List.cons_append, UniP] at *; rw [ih, and_assoc]
/-- the fractions of a fan behind 1/0 -/
structure FrOk (L : List Fr) : Prop where
  uni : UniP (minf :: (L ++ [inf]))
  pos : ∀ x ∈ L, 0 < x.2
  nt : nought ∈ L
theorem cross_id (a m b : Fr) : cross a b * m.2 = cross a m * b.2 + cross m b * a.2 := by
  simp only [cross]; grind
theorem neg_of_mul {x y : Int} (h : x * y < 0) (hy : 0 < y) : x < 0 := by
  refine Decidable.byContradiction fun n => ?_
  have := Int.mul_nonneg (show 0 ≤ x by omega) (show 0 ≤ y by omega)
  omega
theorem cross_chain {a : Fr} {l : List Fr} (h : UniP (a :: l)) (ha : 0 < a.2) (hl : ∀ x ∈ l, 0 < x.2) : ∀ b ∈ l, cross a b < 0 := by
  induction l generalizing a with
  | nil => simp
  | cons b t ih =>
    obtain ⟨h1, h2⟩ := h
    intro c hc
    rcases List.mem_cons.mp hc with rfl | hc
    · omega
    · have hb := hl b (by simp)
      have k := ih h2 hb (fun x hx => hl x (by simp [hx])) c hc
      have e := cross_id a b c
      refine neg_of_mul (y := b.2) ?_ hb
      rw [e, h1]
      have k2 : cross b c * a.2 ≤ -1 * a.2 := Int.mul_le_mul_of_nonneg_right (by omega) (by omega)
      have := hl c (by simp [hc])
      omega
theorem uni_nodup {l : List Fr} (h : UniP l) (hl : ∀ x ∈ l, 0 < x.2) : l.Nodup := by
  induction l with
  | nil => exact .nil
  | cons a t ih =>
    have ht : UniP t := by
      cases t with
      | nil => trivial
      | cons b t => exact h.2
    rw [List.nodup_cons]
    refine ⟨fun hm => ?_, ih ht fun x hx => hl x (by simp [hx])⟩
    have := cross_chain h (hl a (by simp)) (fun x hx => hl x (by simp [hx])) a hm
    simp only [cross] at this
    have e : a.1 * a.2 - a.2 * a.1 = 0 := by rw [Int.mul_comm a.1]; omega
    omega
theorem uni_tail {a : Fr} {l : List Fr} (h : UniP (a :: l)) : UniP l := by
  cases l with
  | nil => trivial
  | cons b t => exact h.2
theorem uni_left {l : List Fr} {z : Fr} (h : UniP (l ++ [z])) : UniP l := by
  induction l with
  | nil => trivial
  | cons a t ih =>
    cases t with
    | nil => trivial
    | cons b t => exact ⟨h.1, ih h.2⟩
theorem FrOk.nodup {L : List Fr} (h : FrOk L) : L.Nodup := uni_nodup (uni_left (uni_tail h.uni)) h.pos
theorem FrOk.noinf {L : List Fr} (h : FrOk L) : inf ∉ L := fun q => absurd (h.pos _ q) (by decide)
/-! ### there is an ear -/
/-- none of t, on the way from a to z, could be taken out -/
def NoEar (z : Fr) : Fr → List Fr → Prop
  | _, [] => True
  | a, [_] => (cross a z).natAbs ≠ 1
  | a, b :: c :: t => (cross a c).natAbs ≠ 1 ∧ NoEar z b (c :: t)
theorem no_ear {a : Fr} {t : List Fr} (b : Fr) (h : UniP (a :: b :: (t ++ [inf]))) (hp : ∀ x ∈ b :: t, 0 < x.2) (ha : 0 < a.2) (hab : a.2 ≤ b.2) : ¬ NoEar inf a (b :: t) := by
  induction t generalizing a b with
  | nil =>
    intro n
    obtain ⟨h1, h2, _⟩ := h
    have e := cross_id a b inf
    have hb := hp b (by simp)
    have n : (cross a inf).natAbs ≠ 1 := n
    rw [h1, h2] at e
    have ez : inf.2 = 0 := rfl
    rw [ez] at e
    have : cross a inf < 0 := neg_of_mul (y := b.2) (by omega) hb
    have k : cross a inf ≤ -2 := by omega
    have := Int.mul_le_mul_of_nonneg_right k (show 0 ≤ b.2 by omega)
    omega
  | cons c t ih =>
    intro n
    obtain ⟨n1, n2⟩ := n
    obtain ⟨h1, h2, h3⟩ := h
    have e := cross_id a b c
    have hb := hp b (by simp)
    have hc := hp c (by simp)
    rw [h1, h2] at e
    have : cross a c < 0 := neg_of_mul (y := b.2) (by omega) hb
    have k : cross a c ≤ -2 := by omega
    have := Int.mul_le_mul_of_nonneg_right k (show 0 ≤ b.2 by omega)
    exact ih c ⟨h2, h3⟩ (fun x hx => hp x (by simp [hx])) hb (by omega) n2
/-- an ear: one whose two neighbours are neighbours -/
def Ear (z0 : Fr) (L : List Fr) (l1 : List Fr) (m : Fr) (l2 : List Fr) : Prop := L = l1 ++ m :: l2 ∧ (cross ((z0 :: l1).getLast (by simp)) ((l2 ++ [inf]).head (by simp))).natAbs = 1
theorem glast (l : List Fr) (x : Fr) (h : l ++ [x] ≠ []) : (l ++ [x]).getLast h = x := by simp
theorem glast2 (y : Fr) (l : List Fr) (x : Fr) (h : y :: (l ++ [x]) ≠ []) : (y :: (l ++ [x])).getLast h = x := by
  rw [List.getLast_cons (by simp), glast]
theorem ear_right {a : Fr} {t : List Fr} (h : ¬ NoEar inf a t) : ∃ l1 m l2, t = l1 ++ m :: l2 ∧ (cross ((a :: l1).getLast (by simp)) ((l2 ++ [inf]).head (by simp))).natAbs = 1 := by
  induction t generalizing a with
  | nil => exact absurd trivial h
  | cons b t ih =>
    cases t with
    | nil => exact ⟨[], b, [], rfl, Decidable.byContradiction h⟩
    | cons c t =>
      by_cases g : (cross a c).natAbs = 1
      · exact ⟨[], b, c :: t, rfl, g⟩
      · obtain ⟨l1, m, l2, e1, e2⟩ := ih (a := b) fun n => h ⟨g, n⟩
        exact ⟨b :: l1, m, l2, by rw [e1]; rfl, by
          rw [List.getLast_cons (by simp)]
          exact e2⟩
def refl (x : Fr) : Fr := (-x.1, x.2)
theorem cross_refl (a b : Fr) : cross (refl b) (refl a) = cross a b := by
  simp only [cross, refl]; grind
theorem refl_refl (a : Fr) : refl (refl a) = a := by simp [refl]
theorem uni_reverse {l : List Fr} (h : UniP l) : UniP (l.reverse.map refl) := by
  induction l with
  | nil => trivial
  | cons a t ih =>
    cases t with
    | nil => trivial
    | cons b t =>
      have k := ih h.2
      rw [List.reverse_cons, List.map_append] at k ⊢
      rw [List.reverse_cons, List.map_append, List.append_assoc]
      show UniP (_ ++ refl b :: [refl a])
      rw [uni_app]
      refine ⟨by simpa using k, ?_, trivial⟩
      rw [cross_refl]; exact h.1
/-- a row of two or more has an ear other than 0/1 -/
theorem ear_exists {L : List Fr} (h : FrOk L) (h2 : 2 ≤ L.length) : ∃ l1 m l2, m ≠ nought ∧ L = l1 ++ m :: l2 ∧ (cross ((minf :: l1).getLast (by simp)) ((l2 ++ [inf]).head (by simp))).natAbs = 1 := by
  obtain ⟨p, t, e⟩ := List.append_of_mem h.nt
  have nd := h.nodup
  subst e
  rw [List.nodup_append, List.nodup_cons] at nd
  obtain ⟨nd1, ⟨nd2, _⟩, nd3⟩ := nd
  cases t with
  | cons b t =>
    have hu : UniP (nought :: b :: (t ++ [inf])) := by
      have := h.uni
      have e0 : minf :: (p ++ nought :: b :: t ++ [inf]) = (minf :: p) ++ nought :: b :: (t ++ [inf]) := by simp
      rw [e0] at this
      exact ((uni_app (minf :: p) nought _).mp this).2
    have hb := h.pos b (by simp)
    have no := no_ear b hu (fun x hx => h.pos x (by simp at hx ⊢; rcases hx with hx | hx <;> simp [hx])) (by decide) (by show (1 : Int) ≤ b.2; omega)
    obtain ⟨l1, m, l2, e1, e2⟩ := ear_right no
    refine ⟨p ++ nought :: l1, m, l2, fun q => ?_, by rw [e1]; simp, ?_⟩
    · exact nd2 (by rw [e1, ← q]; simp)
    · have e : (minf :: (p ++ nought :: l1)).getLast (by simp) = (nought :: l1).getLast (by simp) := by
        rw [List.getLast_cons (by simp), List.getLast_append_of_ne_nil (by simp) (by simp)]
      rw [e]; exact e2
  | nil =>
    obtain ⟨p, b, rfl⟩ : ∃ q b, p = q ++ [b] := by
      have : p ≠ [] := fun e => by subst e; simp at h2
      exact ⟨p.dropLast, p.getLast this, (List.dropLast_concat_getLast this).symm⟩
    have hu := uni_reverse h.uni
    have e : (minf :: (p ++ [b] ++ [nought] ++ [inf])).reverse.map refl = refl inf :: nought :: refl b :: ((p.reverse.map refl) ++ [inf]) := by
      simp [refl]
    rw [e] at hu
    have hu2 : UniP (nought :: refl b :: ((p.reverse.map refl) ++ [inf])) := hu.2
    have hp : ∀ x ∈ refl b :: p.reverse.map refl, 0 < x.2 := by
      intro x hx
      rcases List.mem_cons.mp hx with rfl | hx
      · exact h.pos b (by simp)
      · obtain ⟨y, hy, rfl⟩ := List.mem_map.mp hx
        exact h.pos y (by simp at hy; simp [hy])
    have hb : (1 : Int) ≤ (refl b).2 := hp _ (by simp)
    have no := no_ear (refl b) hu2 hp (by decide) hb
    obtain ⟨l1, m, l2, e1, e2⟩ := ear_right no
    have e3 : p ++ [b] = (l2.reverse.map refl) ++ refl m :: (l1.reverse.map refl) := by
      have := congrArg (fun l => (l.map refl).reverse) e1
      simp only [List.map_cons, List.map_map, List.reverse_cons, List.map_append, List.reverse_append, List.map_reverse] at this
      have id : refl ∘ refl = id := by funext x; exact refl_refl x
      rw [id, List.map_id, List.reverse_reverse, refl_refl] at this
      rw [this]
      simp
    have hm : refl m ≠ nought := fun q => nd3 (refl m) (by rw [e3]; simp) nought (by simp) q
    refine ⟨l2.reverse.map refl, refl m, (l1.reverse.map refl) ++ [nought], hm, by rw [e3]; simp, ?_⟩
    have a1 : (minf :: l2.reverse.map refl).getLast (by simp) = refl ((l2 ++ [inf]).head (by simp)) := by
      cases l2 with
      | nil => rfl
      | cons x l2 => simp only [List.reverse_cons, List.map_append, List.map_cons, List.map_nil, glast2, List.cons_append, List.head_cons]
    have a2 : ((l1.reverse.map refl) ++ [nought] ++ [inf]).head (by simp) = refl ((nought :: l1).getLast (by simp)) := by
      rcases List.eq_nil_or_concat l1 with rfl | ⟨q, y, rfl⟩
      · rfl
      · simp only [List.concat_eq_append, List.reverse_append, List.reverse_cons, List.reverse_nil, List.nil_append, List.cons_append, List.map_cons, List.head_cons, glast2]
    rw [a1, a2, cross_refl]
    exact e2
/-- an ear is taken out -/
theorem ear_out {l1 l2 : List Fr} {m : Fr} (h : FrOk (l1 ++ m :: l2)) (hm : m ≠ nought) (he : (cross ((minf :: l1).getLast (by simp)) ((l2 ++ [inf]).head (by simp))).natAbs = 1) : FrOk (l1 ++ l2) := by
  obtain ⟨pre, a, ea⟩ : ∃ pre a, minf :: l1 = pre ++ [a] := ⟨(minf :: l1).dropLast, (minf :: l1).getLast (by simp), (List.dropLast_concat_getLast _).symm⟩
  obtain ⟨b, q, eb⟩ : ∃ b q, l2 ++ [inf] = b :: q := by
    cases l2 with
    | nil => exact ⟨_, _, rfl⟩
    | cons x l2 => exact ⟨_, _, rfl⟩
  have ha : (minf :: l1).getLast (by simp) = a := by simp only [ea, glast]
  have hb : (l2 ++ [inf]).head (by simp) = b := by simp only [eb, List.head_cons]
  rw [ha, hb] at he
  have hu := h.uni
  have e1 : minf :: (l1 ++ m :: l2 ++ [inf]) = pre ++ a :: m :: b :: q := by
    have : minf :: (l1 ++ m :: l2 ++ [inf]) = (minf :: l1) ++ m :: (l2 ++ [inf]) := by simp
    rw [this, ea, eb]; simp
  have e2 : minf :: (l1 ++ l2 ++ [inf]) = pre ++ a :: b :: q := by
    have : minf :: (l1 ++ l2 ++ [inf]) = (minf :: l1) ++ (l2 ++ [inf]) := by simp
    rw [this, ea, eb]; simp
  rw [e1, uni_app] at hu
  obtain ⟨u1, u2, u3, u4⟩ := hu
  have pm : 0 < m.2 := h.pos m (by simp)
  have pa : 0 ≤ a.2 := by
    have : a ∈ minf :: l1 := by rw [ea]; simp
    rcases List.mem_cons.mp this with e | hx
    · rw [e]; decide
    · have := h.pos a (by simp [hx]); omega
  have pb : 0 ≤ b.2 := by
    have : b ∈ l2 ++ [inf] := by rw [eb]; simp
    rcases List.mem_append.mp this with hx | hx
    · have := h.pos b (by simp [hx]); omega
    · simp at hx; rw [hx]; decide
  have k := cross_id a m b
  rw [u2, u3] at k
  have kn : ¬ 0 < cross a b := fun g => by
    have := Int.mul_pos g pm
    omega
  refine ⟨?_, fun x hx => h.pos x (by simp at hx ⊢; rcases hx with hx | hx <;> simp [hx]), ?_⟩
  · rw [e2, uni_app]
    exact ⟨u1, by omega, u4⟩
  · have := h.nt
    simp at this ⊢
    rcases this with q | q | q
    · exact .inl q
    · exact absurd q.symm hm
    · exact .inr q
/-- one between two neighbours is put in -/
theorem put_mid {l1 l2 : List Fr} {a b : Fr} {L : List Fr} (h : FrOk L) (e : minf :: (L ++ [inf]) = l1 ++ a :: b :: l2) : ∃ L', minf :: (L' ++ [inf]) = l1 ++ a :: (a.1 + b.1, a.2 + b.2) :: b :: l2 ∧ FrOk L' ∧ L'.length = L.length + 1 := by
  have hu := h.uni
  rw [e, uni_app] at hu
  obtain ⟨u1, u2, u3⟩ := hu
  have nn : ∀ x ∈ minf :: (L ++ [inf]), 0 ≤ x.2 := by
    intro x hx
    simp at hx
    rcases hx with rfl | hx | rfl
    · decide
    · have := h.pos x hx; omega
    · decide
  have pa : 0 ≤ a.2 := nn a (by rw [e]; simp)
  have pb : 0 ≤ b.2 := nn b (by rw [e]; simp)
  have pm : 0 < a.2 + b.2 := by
    refine Decidable.byContradiction fun g => ?_
    have za : a.2 = 0 := by omega
    have zb : b.2 = 0 := by omega
    simp only [cross, za, zb] at u2
    omega
  have c1 : cross a (a.1 + b.1, a.2 + b.2) = -1 := by simp only [cross] at *; grind
  have c2 : cross (a.1 + b.1, a.2 + b.2) b = -1 := by simp only [cross] at *; grind
  cases l1 with
  | nil =>
    have e' : minf = a ∧ L ++ [inf] = b :: l2 := by simpa using e
    obtain ⟨rfl, e'⟩ := e'
    refine ⟨(minf.1 + b.1, minf.2 + b.2) :: L, by simp [e'], ⟨?_, ?_, by simp [h.nt]⟩, by simp⟩
    · show UniP (minf :: ((minf.1 + b.1, minf.2 + b.2) :: (L ++ [inf])))
      rw [e']
      exact ⟨c1, c2, u3⟩
    · intro x hx
      rcases List.mem_cons.mp hx with rfl | hx
      · exact pm
      · exact h.pos x hx
  | cons x l1 =>
    have e' : minf = x ∧ L ++ [inf] = l1 ++ a :: b :: l2 := by simpa using e
    obtain ⟨rfl, e'⟩ := e'
    have key : ∃ l3, b :: l2 = l3 ++ [inf] ∧ L = l1 ++ a :: l3 := by
      have k : (l1 ++ a :: b :: l2).getLast (by simp) = inf := by simp only [← e', glast]
      have k2 : (l1 ++ a :: b :: l2).dropLast = L := by rw [← e']; simp
      refine ⟨(b :: l2).dropLast, ?_, ?_⟩
      · have : (b :: l2).getLast (by simp) = inf := by
          rw [List.getLast_append_of_ne_nil (by simp) (by simp), List.getLast_cons (by simp)] at k
          exact k
        rw [← this, List.dropLast_concat_getLast]
      · rw [← k2, List.dropLast_append_of_ne_nil (by simp)]
        simp
    obtain ⟨l3, k1, k2⟩ := key
    refine ⟨l1 ++ a :: (a.1 + b.1, a.2 + b.2) :: l3, by simp [k1], ⟨?_, ?_, ?_⟩, by rw [k2]; simp; omega⟩
    · have : minf :: (l1 ++ a :: (a.1 + b.1, a.2 + b.2) :: l3 ++ [inf]) = (minf :: l1) ++ a :: (a.1 + b.1, a.2 + b.2) :: b :: l2 := by simp [k1]
      rw [this, uni_app]
      exact ⟨u1, c1, c2, u3⟩
    · intro x hx
      have hL : ∀ x, x ∈ l1 ∨ x = a ∨ x ∈ l3 → 0 < x.2 := fun x hx => h.pos x (by rw [k2]; simp; exact hx)
      simp at hx
      rcases hx with hx | hx | hx | hx
      · exact hL x (.inl hx)
      · exact hL x (.inr (.inl hx))
      · rw [hx]; exact pm
      · exact hL x (.inr (.inr hx))
    · have := h.nt
      rw [k2] at this
      simp at this ⊢
      rcases this with q | q | q
      · exact .inl q
      · exact .inr (.inl q)
      · exact .inr (.inr (.inr q))
theorem fr_start : FrOk [nought] := ⟨⟨by decide, by decide, trivial⟩, by decide, by decide⟩
end Fg
/-! the sides of the tiles, and the places of the law's own table -/
namespace Fg
abbrev Sd := Fr × Fr
abbrev Tile := Fr × Fr × Fr
def path (L : List Fr) : List Fr := inf :: (L ++ [inf])
def gapsL (L : List Fr) : List Sd := prs (path L)
def sides (ts : List Tile) : List Sd := ts.flatMap fun t => [(t.1, t.2.1), (t.2.1, t.2.2), (t.2.2, t.1)]
def leads3 (ts : List Tile) : List (Sd × Sd) := ts.flatMap fun t => [((t.1, t.2.1), (t.2.1, t.2.2)), ((t.2.1, t.2.2), (t.2.2, t.1)), ((t.2.2, t.1), (t.1, t.2.1))]
theorem mem_prs {l : List Fr} {a b : Fr} : (a, b) ∈ prs l ↔ ∃ p q, l = p ++ a :: b :: q := by
  induction l with
  | nil => simp [prs]
  | cons x t ih =>
    cases t with
    | nil =>
      simp only [prs, List.not_mem_nil, false_iff]
      rintro ⟨p, q, e⟩
      have := congrArg List.length e
      simp at this
      omega
    | cons y t =>
      simp only [prs, List.mem_cons, Prod.mk.injEq, ih]
      constructor
      · rintro (⟨rfl, rfl⟩ | ⟨p, q, e⟩)
        · exact ⟨[], t, rfl⟩
        · exact ⟨x :: p, q, by rw [e]; rfl⟩
      · rintro ⟨p, q, e⟩
        cases p with
        | nil => simp at e; exact .inl ⟨e.1.symm, e.2.1.symm⟩
        | cons z p =>
          simp at e
          exact .inr ⟨p, q, e.2⟩
theorem nodup_split {α : Type} {p p' : List α} {a : α} {q q' : List α} (h : (p ++ a :: q).Nodup) (e : p ++ a :: q = p' ++ a :: q') : p = p' ∧ q = q' := by
  induction p generalizing p' with
  | nil =>
    cases p' with
    | nil => simp at e; exact ⟨rfl, e⟩
    | cons x p' =>
      simp at e
      obtain ⟨rfl, e⟩ := e
      simp at h
      rw [e] at h
      simp at h
  | cons x p ih =>
    cases p' with
    | nil =>
      simp at e
      obtain ⟨rfl, e⟩ := e
      simp at h
    | cons y p' =>
      simp at e
      obtain ⟨rfl, e⟩ := e
      simp at h
      obtain ⟨e1, e2⟩ := ih (by simpa using h.2) e
      exact ⟨by rw [e1], e2⟩
section
variable {L : List Fr} (nd : L.Nodup) (ni : inf ∉ L)
/-- what stands behind, what stands ahead, is one -/
theorem gap_fun {L : List Fr} (nd : L.Nodup) (ni : inf ∉ L) {a b c : Fr} (h1 : (a, b) ∈ gapsL L) (h2 : (a, c) ∈ gapsL L) : b = c := by
  obtain ⟨p, q, e1⟩ := mem_prs.mp h1
  obtain ⟨p', q', e2⟩ := mem_prs.mp h2
  have k1 : inf :: L = p ++ a :: (b :: q).dropLast := by
    have := congrArg List.dropLast e1
    rw [path, ← List.cons_append, List.dropLast_concat, List.dropLast_append_of_ne_nil (by simp)] at this
    simpa using this
  have k2 : inf :: L = p' ++ a :: (c :: q').dropLast := by
    have := congrArg List.dropLast e2
    rw [path, ← List.cons_append, List.dropLast_concat, List.dropLast_append_of_ne_nil (by simp)] at this
    simpa using this
  have n : (inf :: L).Nodup := List.nodup_cons.mpr ⟨ni, nd⟩
  obtain ⟨rfl, _⟩ := nodup_split (by rw [← k1]; exact n) (k1.symm.trans k2)
  rw [e1] at e2
  simp at e2
  exact e2.1
theorem gap_inj {L : List Fr} (nd : L.Nodup) (ni : inf ∉ L) {a b c : Fr} (h1 : (a, b) ∈ gapsL L) (h2 : (c, b) ∈ gapsL L) : a = c := by
  obtain ⟨p, q, e1⟩ := mem_prs.mp h1
  obtain ⟨p', q', e2⟩ := mem_prs.mp h2
  have k1 : L ++ [inf] = (p ++ [a]).tail ++ b :: q := by
    have := congrArg List.tail e1
    cases p <;> simpa [path] using this
  have k2 : L ++ [inf] = (p' ++ [c]).tail ++ b :: q' := by
    have := congrArg List.tail e2
    cases p' <;> simpa [path] using this
  have n : (L ++ [inf]).Nodup := by
    rw [List.nodup_append]
    exact ⟨nd, by simp, fun x hx y hy e => by simp at hy; subst hy; subst e; exact ni hx⟩
  obtain ⟨_, rfl⟩ := nodup_split (by rw [← k1]; exact n) (k1.symm.trans k2)
  have e3 : p ++ [a] ++ b :: q = p' ++ [c] ++ b :: q := by simpa using e1.symm.trans e2
  have e4 := List.append_cancel_right e3
  have := congrArg List.getLast? e4
  simpa using this
theorem gap_one {L : List Fr} (nd : L.Nodup) (ni : inf ∉ L) (h2 : 2 ≤ L.length) {a b : Fr} (h : (a, b) ∈ gapsL L) : (b, a) ∉ gapsL L := by
  intro g
  obtain ⟨p, q, e⟩ := mem_prs.mp h
  cases p with
  | nil =>
    simp [path] at e
    obtain ⟨rfl, e⟩ := e
    cases L with
    | nil => simp at h2
    | cons x L =>
      simp at e
      obtain ⟨rfl, e⟩ := e
      cases L with
      | nil => simp at h2
      | cons y L =>
        have k : (x, y) ∈ gapsL (x :: y :: L) := mem_prs.mpr ⟨[inf], L ++ [inf], rfl⟩
        have := gap_fun nd ni g k
        apply ni
        rw [this]; simp
  | cons z p =>
    simp [path] at e
    obtain ⟨rfl, e⟩ := e
    cases q with
    | nil =>
      have e' : L = p ++ [a] ∧ b = inf := by
        have : L ++ [inf] = (p ++ [a]) ++ [b] := by simpa using e
        obtain ⟨h1, h2⟩ := List.append_inj' this rfl
        exact ⟨h1, by simpa using h2.symm⟩
      obtain ⟨e1, rfl⟩ := e'
      cases p with
      | nil => rw [e1] at h2; simp at h2
      | cons y p =>
        have k : (inf, y) ∈ gapsL L := mem_prs.mpr ⟨[], p ++ [a] ++ [inf], by rw [path, e1]; simp⟩
        have := gap_fun nd ni g k
        rw [e1, this, List.nodup_append] at nd
        exact nd.2.2 y (by simp) y (by simp) rfl
    | cons y q =>
      have k : (b, y) ∈ gapsL L := mem_prs.mpr ⟨inf :: p ++ [a], q, by rw [path, e]; simp⟩
      have hy := gap_fun nd ni g k
      subst hy
      have n : (L ++ [inf]).Nodup := by
        rw [List.nodup_append]
        exact ⟨nd, by simp, fun x hx y hy e => by simp at hy; subst hy; subst e; exact ni hx⟩
      rw [e, List.nodup_append] at n
      have := (List.nodup_cons.mp n.2.1).1
      simp at this
theorem gap_mem {L : List Fr} {a b : Fr} (h : (a, b) ∈ gapsL L) : (a = inf ∨ a ∈ L) ∧ (b = inf ∨ b ∈ L) := by
  obtain ⟨p, q, e⟩ := mem_prs.mp h
  have ha : a ∈ path L := by rw [e]; simp
  have hb : b ∈ path L := by rw [e]; simp
  simp [path] at ha hb
  constructor
  · rcases ha with h | h | h <;> simp [h]
  · rcases hb with h | h | h <;> simp [h]
end
def Vx (L : List Fr) (x : Fr) : Prop := x = inf ∨ x ∈ L
/-- the tiles taken out so farF, L what is left of L0 -/
structure Poly (L0 L : List Fr) (ts : List Tile) : Prop where
  fr : FrOk L
  sub : ∀ x ∈ L, x ∈ L0
  len : L0.length = L.length + ts.length
  i1 : ∀ a b, (a, b) ∈ gapsL L0 → Vx L a → Vx L b → (a, b) ∈ gapsL L
  i2 : ∀ x y, (x, y) ∈ sides ts → Vx L x → Vx L y → (y, x) ∈ gapsL L
  i3 : ∀ a b, (a, b) ∈ gapsL L → (a, b) ∈ gapsL L0 ∨ (b, a) ∈ sides ts
  i4 : ∀ a b, (a, b) ∈ gapsL L0 → (a, b) ∈ sides ts ∨ (a, b) ∈ gapsL L
  i5 : ∀ x y, (x, y) ∈ sides ts → (x, y) ∈ gapsL L0 ∨ (y, x) ∈ sides ts ∨ (y, x) ∈ gapsL L
  i6 : ∀ x y, (x, y) ∈ sides ts → (y, x) ∉ gapsL L0
  nd : (sides ts).Nodup
theorem poly_start {L : List Fr} (h : FrOk L) : Poly L L [] :=
  ⟨h, fun _ hx => hx, by simp, fun a b h _ _ => h, by simp [sides], fun a b h => .inl h, fun a b h => .inr h, by simp [sides], by simp [sides], by simp [sides]⟩
/-- the fractions ahead of and behind one of the row -/
def nearF (l1 : List Fr) : Fr := (inf :: l1).getLast (by simp)
def farF (l2 : List Fr) : Fr := (l2 ++ [inf]).head (by simp)
theorem path_split (l1 : List Fr) (m : Fr) (l2 : List Fr) : ∃ p q, path (l1 ++ m :: l2) = p ++ nearF l1 :: m :: farF l2 :: q ∧ path (l1 ++ l2) = p ++ nearF l1 :: farF l2 :: q ∧ inf :: l1 = p ++ [nearF l1] ∧ l2 ++ [inf] = farF l2 :: q := by
  have e1 : inf :: l1 = (inf :: l1).dropLast ++ [nearF l1] := (List.dropLast_concat_getLast _).symm
  have e2 : l2 ++ [inf] = farF l2 :: (l2 ++ [inf]).tail := by
    cases l2 <;> rfl
  refine ⟨_, _, ?_, ?_, e1, e2⟩
  · have : path (l1 ++ m :: l2) = (inf :: l1) ++ m :: (l2 ++ [inf]) := by simp [path]
    rw [this, e2]
    conv => lhs; rw [e1]
    simp
  · have : path (l1 ++ l2) = (inf :: l1) ++ (l2 ++ [inf]) := by simp [path]
    rw [this, e2]
    conv => lhs; rw [e1]
    simp
theorem gaps_out {l1 l2 : List Fr} {m : Fr} : (∀ e, e ∈ gapsL (l1 ++ m :: l2) ↔ (e = (nearF l1, m) ∨ e = (m, farF l2)) ∨ (e ∈ gapsL (l1 ++ m :: l2) ∧ e ∈ gapsL (l1 ++ l2))) ∧ (nearF l1, m) ∈ gapsL (l1 ++ m :: l2) ∧ (m, farF l2) ∈ gapsL (l1 ++ m :: l2) ∧ (nearF l1, farF l2) ∈ gapsL (l1 ++ l2) ∧
    ∀ e ∈ gapsL (l1 ++ l2), e = (nearF l1, farF l2) ∨ e ∈ gapsL (l1 ++ m :: l2) := by
  obtain ⟨p, q, e1, e2, _, _⟩ := path_split l1 m l2
  have k1 : gapsL (l1 ++ m :: l2) = prs (p ++ [nearF l1]) ++ ((nearF l1, m) :: (m, farF l2) :: prs (farF l2 :: q)) := by
    rw [gapsL, e1, prs_app]; rfl
  have k2 : gapsL (l1 ++ l2) = prs (p ++ [nearF l1]) ++ ((nearF l1, farF l2) :: prs (farF l2 :: q)) := by
    rw [gapsL, e2, prs_app]; rfl
  rw [k1, k2]
  refine ⟨fun e => ?_, by simp, by simp, by simp, fun e he => ?_⟩
  · simp only [List.mem_append, List.mem_cons]
    constructor
    · rintro (h | h | h | h)
      · exact .inr ⟨.inl h, .inl h⟩
      · exact .inl (.inl h)
      · exact .inl (.inr h)
      · exact .inr ⟨.inr (.inr (.inr h)), .inr (.inr h)⟩
    · rintro ((h | h) | ⟨h, _⟩)
      · exact .inr (.inl h)
      · exact .inr (.inr (.inl h))
      · exact h
  · simp only [List.mem_append, List.mem_cons] at he ⊢
    rcases he with h | h | h
    · exact .inr (.inl h)
    · exact .inl h
    · exact .inr (.inr (.inr (.inr h)))
theorem vx_near (l1 l2 : List Fr) : Vx (l1 ++ l2) (nearF l1) ∧ Vx (l1 ++ l2) (farF l2) := by
  constructor
  · have : nearF l1 ∈ inf :: l1 := List.getLast_mem _
    rcases List.mem_cons.mp this with h | h
    · exact .inl h
    · exact .inr (by simp [h])
  · have : farF l2 ∈ l2 ++ [inf] := List.head_mem _
    rcases List.mem_append.mp this with h | h
    · exact .inr (by simp [h])
    · exact .inl (by simpa using h)
theorem mem_sides_snoc {ts : List Tile} {a m b x y : Fr} : (x, y) ∈ sides (ts ++ [(a, m, b)]) ↔ (x, y) ∈ sides ts ∨ (x = a ∧ y = m) ∨ (x = m ∧ y = b) ∨ (x = b ∧ y = a) := by
  simp [sides]
/-- a tile is taken out -/
theorem poly_step {L0 : List Fr} {l1 l2 : List Fr} {m : Fr} {ts : List Tile} (P : Poly L0 (l1 ++ m :: l2) ts) (hm : m ≠ nought) (he : (cross (nearF l1) (farF l2)).natAbs = 1) (h2 : 2 ≤ (l1 ++ m :: l2).length) :
    Poly L0 (l1 ++ l2) (ts ++ [(nearF l1, m, farF l2)]) := by
  have nd := P.fr.nodup
  have ni := P.fr.noinf
  obtain ⟨g1, g2, g3, g4, g5⟩ := gaps_out (l1 := l1) (m := m) (l2 := l2)
  obtain ⟨vn, vf⟩ := vx_near l1 l2
  have nm : m ∉ l1 ++ l2 := by
    rw [List.nodup_append, List.nodup_cons] at nd
    intro h
    rcases List.mem_append.mp h with h | h
    · exact nd.2.2 m h m (by simp) rfl
    · exact nd.2.1.1 h
  have mi : m ≠ inf := fun e => ni (by rw [e]; simp)
  have nvm : ¬ Vx (l1 ++ l2) m := fun h => h.elim mi nm
  have up : ∀ {x}, Vx (l1 ++ l2) x → Vx (l1 ++ m :: l2) x := fun h => by
    rcases h with h | h
    · exact .inl h
    · exact .inr (by simp at h ⊢; rcases h with h | h <;> simp [h])
  have vm : Vx (l1 ++ m :: l2) m := .inr (by simp)
  have n1 : nearF l1 ≠ m := fun e => nvm (e ▸ vn)
  have n2 : farF l2 ≠ m := fun e => nvm (e ▸ vf)
  have two : ∀ {a b}, (a, b) ∈ gapsL (l1 ++ m :: l2) → (b, a) ∉ gapsL (l1 ++ m :: l2) := fun h => gap_one nd ni h2 h
  have keep : ∀ {a b}, (a, b) ∈ gapsL (l1 ++ m :: l2) → Vx (l1 ++ l2) a → Vx (l1 ++ l2) b → (a, b) ∈ gapsL (l1 ++ l2) := fun {a b} h ha hb => by
    rcases (g1 _).mp h with (e | e) | h
    · injection e with e1 e2; exact absurd (e2 ▸ hb) nvm
    · injection e with e1 e2; exact absurd (e1 ▸ ha) nvm
    · exact h.2
  have he' : (cross ((minf :: l1).getLast (by simp)) ((l2 ++ [inf]).head (by simp))).natAbs = 1 := by
    cases l1 with
    | nil =>
      show (cross minf (farF l2)).natAbs = 1
      have he : (cross inf (farF l2)).natAbs = 1 := he
      simp only [cross] at he ⊢
      omega
    | cons x l1 =>
      rw [List.getLast_cons (by simp)]
      have : nearF (x :: l1) = (x :: l1).getLast (by simp) := List.getLast_cons (by simp)
      rw [this] at he
      exact he
  refine ⟨ear_out P.fr hm he', fun x hx => P.sub x (by simp at hx ⊢; rcases hx with h | h <;> simp [h]), ?_, ?_, ?_, ?_, ?_, ?_, ?_, ?_⟩
  · have := P.len
    simp only [List.length_append, List.length_cons, List.length_nil] at *
    omega
  · intro a b h ha hb
    exact keep (P.i1 a b h (up ha) (up hb)) ha hb
  · intro x y h hx hy
    rcases mem_sides_snoc.mp h with h | ⟨e1, e2⟩ | ⟨e1, e2⟩ | ⟨e1, e2⟩
    · exact keep (P.i2 x y h (up hx) (up hy)) hy hx
    · exact absurd (e2 ▸ hy) nvm
    · exact absurd (e1 ▸ hx) nvm
    · rw [e1, e2]; exact g4
  · intro a b h
    rcases g5 _ h with e | h
    · injection e with e1 e2
      exact .inr (mem_sides_snoc.mpr (.inr (.inr (.inr ⟨e2, e1⟩))))
    · rcases P.i3 a b h with q | q
      · exact .inl q
      · exact .inr (mem_sides_snoc.mpr (.inl q))
  · intro a b h
    rcases P.i4 a b h with q | q
    · exact .inl (mem_sides_snoc.mpr (.inl q))
    · rcases (g1 _).mp q with (e | e) | q
      · injection e with e1 e2; exact .inl (mem_sides_snoc.mpr (.inr (.inl ⟨e1, e2⟩)))
      · injection e with e1 e2; exact .inl (mem_sides_snoc.mpr (.inr (.inr (.inl ⟨e1, e2⟩))))
      · exact .inr q.2
  · intro x y h
    have old : ∀ {x y}, (y, x) ∈ gapsL (l1 ++ m :: l2) → (y, x) ∈ sides (ts ++ [(nearF l1, m, farF l2)]) ∨ (y, x) ∈ gapsL (l1 ++ l2) := fun {x y} q => by
      rcases (g1 _).mp q with (e | e) | q
      · injection e with e1 e2; exact .inl (mem_sides_snoc.mpr (.inr (.inl ⟨e1, e2⟩)))
      · injection e with e1 e2; exact .inl (mem_sides_snoc.mpr (.inr (.inr (.inl ⟨e1, e2⟩))))
      · exact .inr q.2
    rcases mem_sides_snoc.mp h with h | ⟨e1, e2⟩ | ⟨e1, e2⟩ | ⟨e1, e2⟩
    · rcases P.i5 x y h with q | q | q
      · exact .inl q
      · exact .inr (.inl (mem_sides_snoc.mpr (.inl q)))
      · exact .inr (old q)
    · rw [e1, e2]
      rcases P.i3 _ _ g2 with q | q
      · exact .inl q
      · exact .inr (.inl (mem_sides_snoc.mpr (.inl q)))
    · rw [e1, e2]
      rcases P.i3 _ _ g3 with q | q
      · exact .inl q
      · exact .inr (.inl (mem_sides_snoc.mpr (.inl q)))
    · rw [e1, e2]
      exact .inr (.inr g4)
  · intro x y h q
    rcases mem_sides_snoc.mp h with h | ⟨e1, e2⟩ | ⟨e1, e2⟩ | ⟨e1, e2⟩
    · exact P.i6 x y h q
    · subst e1 e2; exact two g2 (P.i1 _ _ q vm (up vn))
    · subst e1 e2; exact two g3 (P.i1 _ _ q (up vf) vm)
    · subst e1 e2
      have := P.i1 _ _ q (up vn) (up vf)
      exact n2 (gap_fun nd ni this g2)
  · have e : sides (ts ++ [(nearF l1, m, farF l2)]) = sides ts ++ [(nearF l1, m), (m, farF l2), (farF l2, nearF l1)] := by simp [sides]
    rw [e, List.nodup_append]
    refine ⟨P.nd, ?_, ?_⟩
    · simp only [List.nodup_cons, List.mem_cons, List.not_mem_nil, or_false, not_or, not_false_eq_true, List.nodup_nil, and_true, Prod.mk.injEq, not_and]
      refine ⟨⟨fun e _ => n1 e, fun e e2 => n1 e2.symm⟩, fun e _ => n2 e.symm⟩
    · intro x hx y hy exy
      subst exy
      simp only [List.mem_cons, List.not_mem_nil, or_false] at hy
      rcases hy with rfl | rfl | rfl
      · exact two g2 (P.i2 _ _ hx (up vn) vm)
      · exact two g3 (P.i2 _ _ hx vm (up vf))
      · have := P.i2 _ _ hx (up vf) (up vn)
        exact n2 (gap_fun nd ni this g2)
end Fg
/-! the places of the law's own table, led by s and by r -/
namespace Fg
inductive LK where
  | num (i : Nat)
  | side (e : Sd)
  deriving DecidableEq
structure MkOk (mk : List Mk) (n : Nat) : Prop where
  ln : mk.length = n
  pr : ∀ i j : Nat, mk[i]? = some (Mk.pair j) → j ≠ i ∧ mk[j]? = some (Mk.pair i)
/-- marks while gaps are left -/
structure MkIn (mk : List Mk) (left : List Nat) (n : Nat) : Prop where
  ok : MkOk mk n
  nd : left.Nodup
  hf : ∀ i ∈ left, mk[i]? = some Mk.half
theorem MkIn.start (n : Nat) : MkIn (List.replicate n .half) (List.range n) n := by
  refine ⟨⟨by simp, fun i j h => ?_⟩, List.nodup_range, fun i hi => ?_⟩
  · rw [List.getElem?_replicate] at h
    split at h <;> simp at h
  · rw [List.getElem?_replicate, if_pos (List.mem_range.mp hi)]
theorem MkIn.half {mk : List Mk} {g : Nat} {left : List Nat} {n : Nat} (h : MkIn mk (g :: left) n) : MkIn mk left n :=
  ⟨h.ok, (List.nodup_cons.mp h.nd).2, fun i hi => h.hf i (by simp [hi])⟩
theorem MkIn.third {mk : List Mk} {g : Nat} {left : List Nat} {n : Nat} (h : MkIn mk (g :: left) n) : MkIn (mk.set g .third) left n := by
  have hg := h.hf g (by simp)
  obtain ⟨hn, nd⟩ := List.nodup_cons.mp h.nd
  refine ⟨⟨by rw [List.length_set]; exact h.ok.ln, fun i j e => ?_⟩, nd, fun i hi => ?_⟩
  · by_cases ei : i = g
    · subst ei
      rw [List.getElem?_set_self (List.getElem?_eq_some_iff.mp hg).1] at e
      cases e
    · rw [List.getElem?_set_ne (Ne.symm ei)] at e
      obtain ⟨e1, e2⟩ := h.ok.pr i j e
      refine ⟨e1, ?_⟩
      by_cases ej : j = g
      · subst ej; rw [hg] at e2; cases e2
      · rw [List.getElem?_set_ne (Ne.symm ej)]; exact e2
  · have : i ≠ g := fun e => hn (e ▸ hi)
    rw [List.getElem?_set_ne (Ne.symm this)]
    exact h.hf i (by simp [hi])
theorem MkIn.pair {mk : List Mk} {g o : Nat} {left : List Nat} {n : Nat} (h : MkIn mk (g :: left) n) {k : Nat} (hk : left[k]? = some o) : MkIn ((mk.set g (.pair o)).set o (.pair g)) (left.eraseIdx k) n := by
  have hg := h.hf g (by simp)
  have mo : o ∈ left := List.mem_of_getElem? hk
  have ho := h.hf o (by simp [mo])
  obtain ⟨hn, nd⟩ := List.nodup_cons.mp h.nd
  have ne : o ≠ g := fun e => hn (e ▸ mo)
  have lg := (List.getElem?_eq_some_iff.mp hg).1
  have lo := (List.getElem?_eq_some_iff.mp ho).1
  have at_ : ∀ i, ((mk.set g (.pair o)).set o (.pair g))[i]? = if i = o then some (.pair g) else if i = g then some (.pair o) else mk[i]? := fun i => by
    by_cases e1 : i = o
    · subst e1; rw [if_pos rfl, List.getElem?_set_self (by simpa using lo)]
    · rw [if_neg e1, List.getElem?_set_ne (Ne.symm e1)]
      by_cases e2 : i = g
      · subst e2; rw [if_pos rfl, List.getElem?_set_self lg]
      · rw [if_neg e2, List.getElem?_set_ne (Ne.symm e2)]
  have sub : ∀ i ∈ left.eraseIdx k, i ∈ left ∧ i ≠ o := fun i hi => by
    have m := List.mem_of_mem_eraseIdx hi
    refine ⟨m, fun e => ?_⟩
    subst e
    obtain ⟨hk1, hk2⟩ := List.getElem?_eq_some_iff.mp hk
    have e : left = left.take k ++ i :: left.drop (k + 1) := by
      rw [← hk2, List.getElem_cons_drop, List.take_append_drop]
    rw [List.eraseIdx_eq_take_drop_succ] at hi
    rw [e, List.nodup_append, List.nodup_cons] at nd
    rcases List.mem_append.mp hi with q | q
    · exact nd.2.2 i q i (by simp) rfl
    · exact nd.2.1.1 q
  refine ⟨⟨by simp [h.ok.ln], fun i j e => ?_⟩, List.Nodup.sublist (List.eraseIdx_sublist ..) nd, fun i hi => ?_⟩
  · rw [at_] at e
    by_cases e1 : i = o
    · rw [if_pos e1] at e
      injection e with e
      injection e with e
      subst e e1
      exact ⟨Ne.symm ne, by rw [at_, if_neg (Ne.symm ne), if_pos rfl]⟩
    · rw [if_neg e1] at e
      by_cases e2 : i = g
      · rw [if_pos e2] at e
        injection e with e
        injection e with e
        subst e e2
        exact ⟨ne, by rw [at_, if_pos rfl]⟩
      · rw [if_neg e2] at e
        obtain ⟨k1, k2⟩ := h.ok.pr i j e
        refine ⟨k1, ?_⟩
        rw [at_, if_neg (fun q => by subst q; rw [ho] at k2; cases k2), if_neg (fun q => by subst q; rw [hg] at k2; cases k2)]
        exact k2
  · obtain ⟨m, k2⟩ := sub i hi
    rw [at_, if_neg k2, if_neg (show ¬ i = g from fun q => hn (by rw [← q]; exact m))]
    exact h.hf i (by simp [m])
theorem prs_fst (l : List Fr) : (prs l).map (·.1) = l.dropLast := by
  induction l with
  | nil => rfl
  | cons a t ih =>
    cases t with
    | nil => rfl
    | cons b t => simp only [prs, List.map_cons, List.dropLast]; rw [ih]
theorem gapsL_fst (L : List Fr) : (gapsL L).map (·.1) = inf :: L := by
  rw [gapsL, prs_fst, path, ← List.cons_append, List.dropLast_concat]
theorem gapsL_length (L : List Fr) : (gapsL L).length = L.length + 1 := by
  have := congrArg List.length (gapsL_fst L)
  simpa using this
theorem nodup_of_map {α β : Type} (f : α → β) {l : List α} (h : (l.map f).Nodup) : l.Nodup := by
  rw [List.Nodup, List.pairwise_map] at h
  exact List.Pairwise.imp (fun n e => n (by rw [e])) h
theorem gapsL_nodup {L : List Fr} (h : FrOk L) : (gapsL L).Nodup := nodup_of_map (·.1) (by rw [gapsL_fst]; exact List.nodup_cons.mpr ⟨h.noinf, h.nodup⟩)
theorem leads3_fst (ts : List Tile) : (leads3 ts).map (·.1) = sides ts := by
  simp [leads3, sides, List.map_flatMap]
theorem lookup_of {α β : Type} [DecidableEq α] {l : List (α × β)} (nd : (l.map (·.1)).Nodup) {k : α} {v : β} (h : (k, v) ∈ l) : l.lookup k = some v := by
  induction l with
  | nil => simp at h
  | cons x l ih =>
    obtain ⟨a, b⟩ := x
    rw [List.map_cons, List.nodup_cons] at nd
    rcases List.mem_cons.mp h with e | h
    · injection e with e1 e2
      subst e1 e2
      simp [List.lookup]
    · have : k ≠ a := fun e => nd.1 (List.mem_map.mpr ⟨(k, v), h, e⟩)
      have e : (k == a) = false := by simpa using this
      rw [List.lookup_cons, e]
      exact ih nd.2 h
def lkOf {α β : Type} [DecidableEq α] (l : List (α × β)) (k : α) : Option β := l.lookup k
def ixOf {α : Type} [DecidableEq α] (l : List α) (x : α) : Nat := l.idxOf x
theorem ixOf_lt {α : Type} [DecidableEq α] {l : List α} {x : α} (h : x ∈ l) : ixOf l x < l.length := List.idxOf_lt_length_of_mem h
theorem ixOf_get {α : Type} [DecidableEq α] {l : List α} {x : α} (h : x ∈ l) : l[ixOf l x]? = some x := by
  have h1 := ixOf_lt h
  rw [List.getElem?_eq_getElem h1]
  exact congrArg some (List.getElem_idxOf h1)
theorem ixOf_eq {α : Type} [DecidableEq α] {l : List α} {i : Nat} {x : α} (nd : l.Nodup) (h : l[i]? = some x) : ixOf l x = i := idx_get nd h
theorem lkOf_of {α β : Type} [DecidableEq α] {l : List (α × β)} (nd : (l.map (·.1)).Nodup) {k : α} {v : β} (h : (k, v) ∈ l) : lkOf l k = some v := lookup_of nd h
def tSd (ts : List Tile) (e : Sd) : Sd := (lkOf (leads3 ts) e).getD e
section
variable {ts : List Tile} (nd : (sides ts).Nodup)
theorem tSd_at {ts : List Tile} (nd : (sides ts).Nodup) {a m b : Fr} (h : (a, m, b) ∈ ts) : tSd ts (a, m) = (m, b) ∧ tSd ts (m, b) = (b, a) ∧ tSd ts (b, a) = (a, m) := by
  have n : ((leads3 ts).map (·.1)).Nodup := by rw [leads3_fst]; exact nd
  have k : ∀ {e f}, (e, f) ∈ leads3 ts → tSd ts e = f := fun h => by rw [tSd, lkOf_of n h]; rfl
  exact ⟨k (List.mem_flatMap.mpr ⟨_, h, by simp⟩), k (List.mem_flatMap.mpr ⟨_, h, by simp⟩), k (List.mem_flatMap.mpr ⟨_, h, by simp⟩)⟩
theorem mem_sides {ts : List Tile} {e : Sd} : e ∈ sides ts ↔ ∃ a m b, (a, m, b) ∈ ts ∧ (e = (a, m) ∨ e = (m, b) ∨ e = (b, a)) := by
  constructor
  · intro h
    obtain ⟨⟨a, m, b⟩, h1, h2⟩ := List.mem_flatMap.mp h
    exact ⟨a, m, b, h1, by simpa using h2⟩
  · rintro ⟨a, m, b, h1, h2⟩
    exact List.mem_flatMap.mpr ⟨_, h1, by simpa using h2⟩
theorem tSd_ok {ts : List Tile} (nd : (sides ts).Nodup) {e : Sd} (h : e ∈ sides ts) : tSd ts e ∈ sides ts ∧ tSd ts (tSd ts (tSd ts e)) = e := by
  obtain ⟨a, m, b, h1, h2⟩ := mem_sides.mp h
  obtain ⟨k1, k2, k3⟩ := tSd_at nd h1
  have s1 : (a, m) ∈ sides ts := mem_sides.mpr ⟨a, m, b, h1, .inl rfl⟩
  have s2 : (m, b) ∈ sides ts := mem_sides.mpr ⟨a, m, b, h1, .inr (.inl rfl)⟩
  have s3 : (b, a) ∈ sides ts := mem_sides.mpr ⟨a, m, b, h1, .inr (.inr rfl)⟩
  rcases h2 with rfl | rfl | rfl
  · exact ⟨by rw [k1]; exact s2, by rw [k1, k2, k3]⟩
  · exact ⟨by rw [k2]; exact s3, by rw [k2, k3, k1]⟩
  · exact ⟨by rw [k3]; exact s1, by rw [k3, k1, k2]⟩
end
def markK (gs : List Sd) (e : Sd) : Mk → LK
  | .half => .side e
  | .third => .num (ixOf gs e)
  | .pair j => .side (gs.getD j (inf, inf))
/-- where s leads -/
def hK (gs : List Sd) (mk : List Mk) : LK → LK
  | .num i => .side (gs.getD i (inf, inf))
  | .side e => if e ∈ gs then markK gs e (mk.getD (ixOf gs e) .half) else .side (e.2, e.1)
/-- where r leads -/
def tK (ts : List Tile) : LK → LK
  | .num i => .num i
  | .side e => .side (tSd ts e)
def PK (mk : List Mk) (ts : List Tile) : LK → Prop
  | .num i => mk[i]? = some .third
  | .side e => e ∈ sides ts
section
variable {L0 : List Fr} {ts : List Tile} {mk : List Mk}
theorem two_gaps {a b : Fr} (h : (a, b) ∈ gapsL [nought]) : (b, a) ∈ gapsL [nought] := by
  have e : gapsL [nought] = [(inf, nought), (nought, inf)] := rfl
  rw [e] at h ⊢
  simp only [List.mem_cons, List.not_mem_nil, or_false, Prod.mk.injEq] at h ⊢
  rcases h with ⟨rfl, rfl⟩ | ⟨rfl, rfl⟩
  · exact .inr ⟨rfl, rfl⟩
  · exact .inl ⟨rfl, rfl⟩
theorem gap_side (F : FrOk L0) (P : Poly L0 [nought] ts) (h2 : 2 ≤ L0.length) {e : Sd} (h : e ∈ gapsL L0) : e ∈ sides ts := by
  obtain ⟨a, b⟩ := e
  rcases P.i4 a b h with q | q
  · exact q
  · rcases P.i3 b a (two_gaps q) with k | k
    · exact absurd k (gap_one F.nodup F.noinf h2 h)
    · exact k
theorem turn_side (P : Poly L0 [nought] ts) {a b : Fr} (h : (a, b) ∈ sides ts) (hn : (a, b) ∉ gapsL L0) : (b, a) ∈ sides ts := by
  rcases P.i5 a b h with q | q | q
  · exact absurd q hn
  · exact q
  · rcases P.i3 a b (two_gaps q) with k | k
    · exact absurd k hn
    · exact k
theorem getD_get {α : Type} {l : List α} {i : Nat} {x d : α} (h : l[i]? = some x) : l.getD i d = x := by
  rw [List.getD_eq_getElem?_getD, h]; rfl
theorem link_sys (F : FrOk L0) (P : Poly L0 [nought] ts) (h2 : 2 ≤ L0.length) (M : MkOk mk (L0.length + 1)) : Sys (PK mk ts) (hK (gapsL L0) mk) (tK ts) := by
  have nd := gapsL_nodup F
  have gl := gapsL_length L0
  have gp : ∀ i, i < (gapsL L0).length → (gapsL L0)[i]? = some ((gapsL L0).getD i (inf, inf)) ∧ (gapsL L0).getD i (inf, inf) ∈ gapsL L0 := fun i hi => by
    have e := List.getElem?_eq_getElem hi
    rw [getD_get e]
    exact ⟨e, List.getElem_mem hi⟩
  have il : ∀ {i : Nat} {x : Mk}, mk[i]? = some x → i < (gapsL L0).length := fun h => by
    have := (List.getElem?_eq_some_iff.mp h).1
    rw [M.ln] at this
    omega
  have ix : ∀ {i}, i < (gapsL L0).length → ixOf (gapsL L0) ((gapsL L0).getD i (inf, inf)) = i := fun {i} hi => ixOf_eq nd (gp i hi).1
  have mkat : ∀ {e}, e ∈ gapsL L0 → ∃ x, mk[ixOf (gapsL L0) e]? = some x ∧ mk.getD (ixOf (gapsL L0) e) .half = x := fun {e} he => by
    have h1 := ixOf_lt he
    have h3 : ixOf (gapsL L0) e < mk.length := by rw [M.ln]; omega
    exact ⟨_, List.getElem?_eq_getElem h3, getD_get (List.getElem?_eq_getElem h3)⟩
  have gx : ∀ {e}, e ∈ gapsL L0 → (gapsL L0).getD (ixOf (gapsL L0) e) (inf, inf) = e := fun {e} he => by
    exact getD_get (ixOf_get he)
  refine ⟨fun x h => ?_, fun x h => ?_, fun x h => ?_, fun x h => ?_⟩
  · cases x with
    | num i => exact gap_side F P h2 (gp i (il h)).2
    | side e =>
      have h : e ∈ sides ts := h
      by_cases he : e ∈ gapsL L0
      · obtain ⟨x, m1, m2⟩ := mkat he
        show PK mk ts (hK (gapsL L0) mk (.side e))
        rw [hK, if_pos he, m2]
        cases x with
        | half => exact h
        | third => exact m1
        | pair j =>
          obtain ⟨_, k⟩ := M.pr _ _ m1
          exact gap_side F P h2 (gp j (il k)).2
      · show PK mk ts (hK (gapsL L0) mk (.side e))
        rw [hK, if_neg he]
        exact turn_side P h he
  · cases x with
    | num i => exact h
    | side e => exact (tSd_ok P.nd h).1
  · cases x with
    | num i =>
      have h : mk[i]? = some .third := h
      have hi := il h
      show hK (gapsL L0) mk (.side ((gapsL L0).getD i (inf, inf))) = _
      rw [hK, if_pos (gp i hi).2, ix hi, getD_get h]
      show LK.num (ixOf (gapsL L0) _) = _
      rw [ix hi]
    | side e =>
      have h : e ∈ sides ts := h
      by_cases he : e ∈ gapsL L0
      · obtain ⟨x, m1, m2⟩ := mkat he
        have e0 : hK (gapsL L0) mk (.side e) = markK (gapsL L0) e x := by rw [hK, if_pos he, m2]
        rw [e0]
        cases x with
        | half => exact e0
        | third => show LK.side ((gapsL L0).getD (ixOf (gapsL L0) e) (inf, inf)) = _; rw [gx he]
        | pair j =>
          obtain ⟨_, k⟩ := M.pr _ _ m1
          have hj := il k
          show hK (gapsL L0) mk (.side ((gapsL L0).getD j (inf, inf))) = _
          rw [hK, if_pos (gp j hj).2, ix hj, getD_get k]
          show LK.side ((gapsL L0).getD (ixOf (gapsL L0) e) (inf, inf)) = _
          rw [gx he]
      · have e0 : hK (gapsL L0) mk (.side e) = .side (e.2, e.1) := by rw [hK, if_neg he]
        rw [e0]
        have n2 : (e.2, e.1) ∉ gapsL L0 := P.i6 e.1 e.2 h
        show hK (gapsL L0) mk (.side (e.2, e.1)) = _
        rw [hK, if_neg n2]
  · cases x with
    | num i => rfl
    | side e =>
      show LK.side (tSd ts (tSd ts (tSd ts e))) = _
      rw [(tSd_ok P.nd h).2]
end
def linkU (mk : List Mk) (ts : List Tile) : List LK := (sides ts).map .side ++ (List.range mk.length).map .num
theorem mem_linkU {mk : List Mk} {ts : List Tile} {x : LK} (h : PK mk ts x) : x ∈ linkU mk ts := by
  cases x with
  | num i => exact List.mem_append_right _ (List.mem_map.mpr ⟨i, List.mem_range.mpr (List.getElem?_eq_some_iff.mp h).1, rfl⟩)
  | side e => exact List.mem_append_left _ (List.mem_map.mpr ⟨e, h, rfl⟩)
theorem sides_length (ts : List Tile) : (sides ts).length = 3 * ts.length := by
  induction ts with
  | nil => rfl
  | cons t ts ih =>
    have e : sides (t :: ts) = [(t.1, t.2.1), (t.2.1, t.2.2), (t.2.2, t.1)] ++ sides ts := rfl
    rw [e, List.length_append, ih]
    simp only [List.length_cons, List.length_nil]; omega
theorem linkU_length (mk : List Mk) (ts : List Tile) : (linkU mk ts).length = 3 * ts.length + mk.length := by
  simp [linkU, sides_length]
/-- the first place -/
def firstK (L0 : List Fr) (mk : List Mk) (ts : List Tile) : LK := if (inf, nought) ∈ sides ts then .side (inf, nought) else hK (gapsL L0) mk (.side ((gapsL L0).getD L0.length (inf, inf)))
theorem firstK_ok {L0 : List Fr} {ts : List Tile} {mk : List Mk} (F : FrOk L0) (P : Poly L0 [nought] ts) (h2 : 2 ≤ L0.length) (M : MkOk mk (L0.length + 1)) : PK mk ts (firstK L0 mk ts) := by
  unfold firstK
  split
  · assumption
  · refine (link_sys F P h2 M).ps _ ?_
    have hi : L0.length < (gapsL L0).length := by rw [gapsL_length]; omega
    rw [getD_get (List.getElem?_eq_getElem hi)]
    exact gap_side F P h2 (List.getElem_mem hi)
/-! ### two fractions -/
def P2 (mk : List Mk) : LK → Prop
  | .num i => mk[i]? = some .third
  | .side _ => False
def h2K (mk : List Mk) : LK → LK
  | .num i => if mk[1 - i]? = some .third then .num (1 - i) else .num i
  | .side e => .side e
theorem two_sys {mk : List Mk} (M : MkOk mk 2) : Sys (P2 mk) (h2K mk) id := by
  have lt : ∀ {i x}, mk[i]? = some x → i < 2 := fun h => by
    have := (List.getElem?_eq_some_iff.mp h).1
    rw [M.ln] at this; exact this
  refine ⟨fun x h => ?_, fun x h => h, fun x h => ?_, fun x h => rfl⟩
  · cases x with
    | num i =>
      show P2 mk (if mk[1 - i]? = some .third then .num (1 - i) else .num i)
      split
      · assumption
      · exact h
    | side e => exact h
  · cases x with
    | num i =>
      have h : mk[i]? = some .third := h
      have hi := lt h
      show h2K mk (if mk[1 - i]? = some .third then .num (1 - i) else .num i) = _
      split
      · show (if mk[1 - (1 - i)]? = some .third then LK.num (1 - (1 - i)) else .num (1 - i)) = _
        have e : 1 - (1 - i) = i := by omega
        rw [e, if_pos h]
      · rename_i hn
        show (if mk[1 - i]? = some .third then LK.num (1 - i) else .num i) = _
        rw [if_neg hn]
    | side e => exact h.elim
def firstTwo (mk : List Mk) : LK := if mk[1]? = some .third then .num 1 else .num 0
theorem firstTwo_ok {mk : List Mk} (M : MkOk mk 2) (h : Mk.third ∈ mk) : P2 mk (firstTwo mk) := by
  unfold firstTwo
  split
  · assumption
  · rename_i hn
    obtain ⟨i, hi, e⟩ := List.mem_iff_getElem.mp h
    rw [M.ln] at hi
    have : i = 0 := by
      refine Decidable.byContradiction fun g => hn ?_
      have : i = 1 := by omega
      subst this
      rw [List.getElem?_eq_getElem (by rw [M.ln]; omega), e]
    subst this
    show mk[0]? = some .third
    rw [List.getElem?_eq_getElem (by rw [M.ln]; omega), e]
theorem mem_two {mk : List Mk} (M : MkOk mk 2) {x : LK} (h : P2 mk x) : x ∈ [LK.num 0, .num 1] := by
  cases x with
  | num i =>
    have h : mk[i]? = some .third := h
    have := (List.getElem?_eq_some_iff.mp h).1
    rw [M.ln] at this
    have : i = 0 ∨ i = 1 := by omega
    rcases this with rfl | rfl <;> simp
  | side e => exact h.elim
end Fg
/-! dicts whose keys are whole numbers, None, and tuples within tuples, together -/
namespace FgD
open PySem PySem.Spec
/-- a key that is no text -/
def okK (k : NestedKey) : Prop := k.depth ≤ 8 ∧ ∀ x, k ≠ .text x
def KE (w : World) (h : Heap) (k : NestedKey) (e : DictEntry) : Prop := NestedIs h k e.key ∧ e.hash = k.hash w ∧ okK k
abbrev KeysAre (w : World) (h : Heap) : List NestedKey → List DictEntry → Prop := Paired (KE w h)
theorem keys_get {w : World} {h : Heap} : ∀ {ks : List NestedKey} {es : List DictEntry}, KeysAre w h ks es → ∀ {i : Nat} {e : DictEntry}, es[i]? = some e → ∃ k, ks[i]? = some k ∧ KE w h k e
  | _, _, .nil, i, e, q => by simp at q
  | _, _, .cons r t, 0, e, q => by simp at q; subst q; exact ⟨_, rfl, r⟩
  | _, _, .cons r t, i + 1, e, q => by
    obtain ⟨k, h1, h2⟩ := keys_get t (i := i) (e := e) (by simpa using q)
    exact ⟨k, by simpa using h1, h2⟩
theorem keys_get' {w : World} {h : Heap} : ∀ {ks : List NestedKey} {es : List DictEntry}, KeysAre w h ks es → ∀ {i : Nat} {k : NestedKey}, ks[i]? = some k → ∃ e, es[i]? = some e ∧ KE w h k e
  | _, _, .nil, i, e, q => by simp at q
  | _, _, .cons r t, 0, e, q => by simp at q; subst q; exact ⟨_, rfl, r⟩
  | _, _, .cons r t, i + 1, e, q => by
    obtain ⟨k, h1, h2⟩ := keys_get' t (i := i) (k := e) (by simpa using q)
    exact ⟨k, by simpa using h1, h2⟩
section
variable {prog : Program} {w : World} {A : Around} {E : Value → Shared → Prop} {s : Shared} {d : Addr} {o : Obj} {es : Array DictEntry} {ep : Nat} {ks : List NestedKey} {k : NestedKey} {key : Value}
theorem eq_key {k k' : NestedKey} {u v : Value} {Q : Bool → Shared → Prop} (hu : A.units + 8 < cLine) (h1 : NestedIs s.heap k u) (h2 : NestedIs s.heap k' v) (hd : okK k) (h : Q (decide (k = k')) s) : wpAny (model prog w) A (eqBool u v) Q E s :=
  eqAt_key k k' A s u v h1 h2 (by have := hd.1; omega) prog w E Q (by rw [← NestedKey.decide_eq]; exact h)
theorem tell_quiet {stored : List Value} {Q : Bool → Shared → Prop} (hk : NestedIs s.heap k key) (hd : okK k) (hst : ∀ v ∈ stored, ∃ k', NestedIs s.heap k' v ∧ okK k') (h : Q false s) : wpAny (model prog w) A (tableMayTell key stored) Q E s := by
  unfold tableMayTell
  split
  · exact wpAny_pure h
  · refine wpAny_bind (quiet_key k key 8 s hk hd.1 A E _ ?_)
    simp only [Bool.not_true, Bool.false_eq_true, if_false]
    refine wpAny_bind ?_
    refine wpAny_forIn_list _ (fun left r s' => s' = s ∧ r = (none, ()) ∧ ∀ v ∈ left, v ∈ stored) _ ?_ ?_ _ _ ⟨rfl, rfl, fun _ q => q⟩
    · rintro v left r s' ⟨rfl, rfl, hl⟩
      obtain ⟨k', h1, h2⟩ := hst v (hl v (List.mem_cons_self ..))
      refine wpAny_bind (quiet_key k' v 8 s' h1 h2.1 A E _ ?_)
      simp only [Bool.not_true, Bool.false_eq_true, if_false]
      exact wpAny_pure ⟨rfl, rfl, fun u q => hl u (List.mem_cons_of_mem _ q)⟩
    · rintro r s' ⟨rfl, rfl, _⟩
      exact wpAny_pure h
/-- the places of a hash -/
abbrev spots (es : Array DictEntry) (h : Int) : List Nat := placesWithHash es.size (fun i => es[i]?.map (·.hash)) h
theorem mem_spots {h : Int} {i : Nat} : i ∈ spots es h ↔ ∃ e, es[i]? = some e ∧ e.hash = h := by
  unfold spots placesWithHash
  rw [List.mem_filter, List.mem_range]
  constructor
  · rintro ⟨h1, h2⟩
    refine ⟨es[i], by simp [h1], ?_⟩
    simpa [h1] using h2
  · rintro ⟨e, h1, h2⟩
    obtain ⟨hi, he⟩ := Array.getElem?_eq_some_iff.mp h1
    exact ⟨hi, by simp [h1, h2]⟩
theorem spots_nodup {h : Int} : (spots es h).Nodup := List.Pairwise.filter _ List.nodup_range
/-- what a search has found: nothing in what was gone over, or the key's place -/
def Seen (ks : List NestedKey) (k : NestedKey) (gone : List Nat) : Option Nat → Prop
  | none => ∀ j ∈ gone, ks[j]? ≠ some k
  | some j => ks[j]? = some k ∧ j ∈ gone
theorem find_in (hu : A.units + 8 < cLine) (hk : NestedIs s.heap k key) (hok : okK k) (ho : s.heap.get? d = some o) (hd : o.data = .dict es ep) (he : KeysAre w s.heap ks es.toList) (hn : ks.Nodup) {Q : Option Nat → Shared → Prop}
    (hnone : k ∉ ks → Q none s) (hsome : ∀ j, ks[j]? = some k → Q (some j) s) : wpAny (model prog w) A (dictFind d key (k.hash w)) Q E s := by
  have at_ : ∀ {i e}, es[i]? = some e → ∃ k', ks[i]? = some k' ∧ KE w s.heap k' e := fun {i e} h => keys_get he (by rw [Array.getElem?_toList]; exact h)
  have all : ∀ {j}, ks[j]? = some k → j ∈ spots es (k.hash w) := fun {j} h => by
    obtain ⟨e, h1, h2⟩ := keys_get' he h
    exact mem_spots.mpr ⟨e, by rw [← Array.getElem?_toList]; exact h1, h2.2.1⟩
  have uniq : ∀ {i j}, ks[i]? = some k → ks[j]? = some k → i = j := fun {i j} h1 h2 => by
    obtain ⟨a1, a2⟩ := List.getElem?_eq_some_iff.mp h1
    obtain ⟨b1, b2⟩ := List.getElem?_eq_some_iff.mp h2
    have e1 := hn.idxOf_getElem i a1
    have e2 := hn.idxOf_getElem j b1
    rw [a2] at e1
    rw [b2] at e2
    exact e1.symm.trans e2
  have fin : ∀ {hit}, Seen ks k (spots es (k.hash w)) hit → Q hit s := fun {hit} h => by
    cases hit with
    | none =>
      refine hnone fun hm => ?_
      obtain ⟨j, hj⟩ := List.mem_iff_getElem?.mp hm
      exact h j (all hj) hj
    | some j => exact hsome j h.1
  have st : ∀ v ∈ (spots es (k.hash w)).filterMap (fun i => es[i]?.map (·.key)), ∃ k', NestedIs s.heap k' v ∧ okK k' := fun v hv => by
    obtain ⟨i, _, hi⟩ := List.mem_filterMap.mp hv
    cases hx : es[i]? with
    | none => rw [hx] at hi; cases hi
    | some e =>
      rw [hx] at hi
      obtain ⟨k', _, h1, _, h3⟩ := at_ hx
      injection hi with hi
      subst hi
      exact ⟨k', h1, h3⟩
  unfold dictFind
  try with_reducible refine wpAny_holding ?_
  refine wpAny_bind (wpAny_dictEntries ho hd ?_)
  -- the loop of the careful search
  have careful : ∀ tells : Bool, tells = false → wpAny (model prog w) A (do
      if tells && decide (((spots es (k.hash w)).filterMap (fun i => es[i]?.map (·.key))).length ≥ 2) then unsupported "dict.find:order-among-keys-of-one-hash"
      let mut hit : Option Nat := none
      for i in spots es (k.hash w) do
        if let some e := es[i]? then
          if e.hash == k.hash w then
            let before ← dictEpoch d (keyPart key)
            let same ← eqBool e.key key
            if (← dictEpoch d (keyPart key)) != before then unsupported "dict.changed-during-lookup"
            if same then
              if hit.isSome then unsupported "dict.find:order-among-keys-of-one-hash"
              rule "dict.find.hit"
              if ((spots es (k.hash w)).filterMap (fun i => es[i]?.map (·.key))).length < 2 then return some i
              hit := some i
            else
              rule "dict.find.same-hash-other-key"
              if tells && !(0 ≤ k.hash w && k.hash w < 32) then unsupported "dict.find:asked-again-or-not-hangs-on-the-table"
      return hit) Q E s := by
    rintro tells rfl
    simp only [Bool.false_and, Bool.false_eq_true, if_false]
    first
      | refine wpAny_bind ?_
      | (refine wpAny_bind (wpAny_pure ?_); refine wpAny_bind ?_)
    refine wpAny_forIn_list _ (fun left b s' => s' = s ∧ ∃ gone hit, b = (none, hit) ∧ spots es (k.hash w) = gone ++ left ∧ Seen ks k gone hit) _ ?_ ?_ _ _ ⟨rfl, [], none, rfl, rfl, by simp [Seen]⟩
    · rintro i left b s' ⟨rfl, gone, hit, rfl, hg, hs⟩
      obtain ⟨e, hx, hh⟩ := mem_spots.mp (show i ∈ spots es (k.hash w) by rw [hg]; simp)
      obtain ⟨k', hk', h1, h2, h3⟩ := at_ hx
      rw [hx]
      dsimp only
      rw [if_pos (by rw [hh]; exact beq_self_eq_true _)]
      refine wpAny_bind (wpAny_dictEpoch ho hd (wpAny_bind (eq_key hu h1 hk h3 (wpAny_bind (wpAny_dictEpoch ho hd ?_)))))
      rw [if_neg (by simp)]
      have gone' : spots es (k.hash w) = (gone ++ [i]) ++ left := by rw [hg]; simp
      by_cases q : k' = k
      · rw [decide_eq_true q]
        subst q
        have hn : hit = none := by
          cases hit with
          | none => rfl
          | some j =>
            have := uniq hs.1 hk'
            subst this
            have nd := spots_nodup (es := es) (h := k'.hash w)
            rw [hg, List.nodup_append] at nd
            exact absurd rfl (nd.2.2 j hs.2 j (by simp))
        subst hn
        simp only [Option.isSome_none, Bool.false_eq_true, if_false, if_true]
        first | refine wpAny_bind (wpAny_pure ?_) | skip
        refine wpAny_bind (wpAny_rule ?_)
        split
        · exact wpAny_pure (wpAny_pure (hsome i hk'))
        · exact wpAny_pure ⟨rfl, gone ++ [i], some i, rfl, gone', hk', by simp⟩
      · rw [decide_eq_false q]
        simp only [Bool.false_eq_true, if_false]
        refine wpAny_bind (wpAny_rule ?_)
        have hs' : Seen ks k (gone ++ [i]) hit := by
          cases hit with
          | none =>
            intro j hj hj2
            rcases List.mem_append.mp hj with hj | hj
            · exact hs j hj hj2
            · simp at hj
              subst hj
              rw [hk'] at hj2
              exact q (Option.some.inj hj2)
          | some j => exact ⟨hs.1, by simp [hs.2]⟩
        first
          | exact wpAny_pure ⟨rfl, gone ++ [i], hit, rfl, gone', hs'⟩
          | exact wpAny_bind (wpAny_pure (wpAny_pure ⟨rfl, gone ++ [i], hit, rfl, gone', hs'⟩))
    · rintro b s' ⟨rfl, gone, hit, rfl, hg, hs⟩
      rw [List.append_nil] at hg
      rw [← hg] at hs
      exact wpAny_pure (fin hs)
  have plain : wpAny (model prog w) A (dictWalkPlain d key (k.hash w) es (spots es (k.hash w))) Q E s := by
    unfold dictWalkPlain
    first
      | refine wpAny_bind ?_
      | skip
    refine wpAny_forIn_list _ (fun left b s' => s' = s ∧ ∃ gone, b = (none, ()) ∧ spots es (k.hash w) = gone ++ left ∧ Seen ks k gone none) _ ?_ ?_ _ _ ⟨rfl, [], rfl, rfl, by simp [Seen]⟩
    · rintro i left b s' ⟨rfl, gone, rfl, hg, hs⟩
      obtain ⟨e, hx, hh⟩ := mem_spots.mp (show i ∈ spots es (k.hash w) by rw [hg]; simp)
      obtain ⟨k', hk', h1, h2, h3⟩ := at_ hx
      rw [hx]
      dsimp only
      rw [if_pos (by rw [hh]; exact beq_self_eq_true _)]
      refine wpAny_bind (wpAny_dictEpoch ho hd (wpAny_bind (eq_key hu h1 hk h3 (wpAny_bind (wpAny_dictEpoch ho hd ?_)))))
      rw [if_neg (by simp)]
      have gone' : spots es (k.hash w) = (gone ++ [i]) ++ left := by rw [hg]; simp
      by_cases q : k' = k
      · rw [decide_eq_true q]
        subst q
        simp only [if_true]
        first | refine wpAny_bind (wpAny_pure ?_) | skip
        refine wpAny_bind (wpAny_rule ?_)
        exact wpAny_pure (wpAny_pure (hsome i hk'))
      · rw [decide_eq_false q]
        simp only [Bool.false_eq_true, if_false]
        have hs' : Seen ks k (gone ++ [i]) none := by
          intro j hj hj2
          rcases List.mem_append.mp hj with hj | hj
          · exact hs j hj hj2
          · simp at hj
            subst hj
            rw [hk'] at hj2
            exact q (Option.some.inj hj2)
        refine wpAny_bind (wpAny_rule ?_)
        exact wpAny_pure ⟨rfl, gone ++ [i], rfl, gone', hs'⟩
    · rintro b s' ⟨rfl, gone, rfl, hg, hs⟩
      rw [List.append_nil] at hg
      rw [← hg] at hs
      exact wpAny_pure (fin hs)
  cases hk with
  | text x t => exact absurd rfl (hok.2 x)
  | none =>
    dsimp only
    by_cases hp : ((Value.none :: (spots es (NestedKey.hash w .none)).filterMap (fun i => es[i]?.map (·.key))).all carriedByValue) = true
    · rw [if_pos hp]
      exact plain
    · rw [if_neg hp]
      by_cases hq : ((spots es (NestedKey.hash w .none)).filterMap (fun i => es[i]?.map (·.key)) == [Value.none]) = true
      · rw [if_pos hq]
        exact wpAny_bind (wpAny_pure (careful false rfl))
      · rw [if_neg hq]
        exact wpAny_bind (tell_quiet .none hok st (careful false rfl))
  | @bool b i e =>
    dsimp only
    by_cases hp : ((Value.bool b :: (spots es (NestedKey.hash w (.num i))).filterMap (fun i => es[i]?.map (·.key))).all carriedByValue) = true
    · rw [if_pos hp]
      exact plain
    · rw [if_neg hp]
      by_cases hq : ((spots es (NestedKey.hash w (.num i))).filterMap (fun i => es[i]?.map (·.key)) == [Value.bool b]) = true
      · rw [if_pos hq]
        exact wpAny_bind (wpAny_pure (careful false rfl))
      · rw [if_neg hq]
        exact wpAny_bind (tell_quiet (.bool e) hok st (careful false rfl))
  | int i t =>
    dsimp only
    by_cases hp : ((Value.int i t :: (spots es (NestedKey.hash w (.num i))).filterMap (fun i => es[i]?.map (·.key))).all carriedByValue) = true
    · rw [if_pos hp]
      exact plain
    · rw [if_neg hp]
      by_cases hq : ((spots es (NestedKey.hash w (.num i))).filterMap (fun i => es[i]?.map (·.key)) == [Value.int i t]) = true
      · rw [if_pos hq]
        exact wpAny_bind (wpAny_pure (careful false rfl))
      · rw [if_neg hq]
        exact wpAny_bind (tell_quiet (.int i t) hok st (careful false rfl))
  | @tup a oa vs n kks h1 h2 h3 h4 =>
    have hk : NestedIs s.heap (.tup kks) (.ref a) := .tup h1 h2 h3 h4
    dsimp only
    rw [if_neg (by simp [carriedByValue])]
    have hany : ¬ (es.any fun e => e.key == Value.ref a && e.hash != NestedKey.hash w (.tup kks)) = true := by
      rw [Array.any_eq_true]
      rintro ⟨i, hi, hc⟩
      have hx : es[i]? = some es[i] := by simp [hi]
      obtain ⟨k', _, g1, g2, _⟩ := at_ hx
      simp only [Bool.and_eq_true, beq_iff_eq, bne_iff_ne] at hc
      obtain ⟨c1, c2⟩ := hc
      rw [c1] at g1
      have := NestedIs.inj _ _ _ g1 hk
      subst this
      exact c2 g2
    rw [if_neg hany]
    by_cases hq : ((spots es (NestedKey.hash w (.tup kks))).filterMap (fun i => es[i]?.map (·.key)) == [Value.ref a]) = true
    · rw [if_pos hq]
      exact wpAny_bind (wpAny_pure (careful false rfl))
    · rw [if_neg hq]
      exact wpAny_bind (tell_quiet hk hok st (careful false rfl))
end
end FgD
/-! FgA1: a layer of data over the hand layer: values as data (tuples by their items), the mutable things by their addresses; what an expression, a test, a statement brings about, told of data alone. -/
namespace FgA
open PySem PySem.Spec PyProof.Rows L2 FgD

/-- what a value is, told as data: tuples by their items; mutable things by their address -/
inductive Dt where
  | non
  | bl (b : Bool)
  | int (i : Int)
  | str (x : Str)
  | tup (l : List Dt)
  | ref (p : Addr)

mutual
inductive Im (K : PySem.W.Frag) (H : Hp) : V → Dt → Prop
  | non : Im K H .non .non
  | bl (b : Bool) : Im K H (.bl b) (.bl b)
  | int (i : Int) : Im K H (.int i) (.int i)
  | str (x : Str) : Im K H (.str x) (.str x)
  | ref (p : Addr) : Im K H (.ref p) (.ref p)
  | tup {a : Addr} {xs : List V} {ds : List Dt} : SqT K H a xs → Ims K H xs ds → Im K H (.ref a) (.tup ds)
inductive Ims (K : PySem.W.Frag) (H : Hp) : List V → List Dt → Prop
  | nil : Ims K H [] []
  | cons {v : V} {vs : List V} {d : Dt} {ds : List Dt} : Im K H v d → Ims K H vs ds → Ims K H (v :: vs) (d :: ds)
end

/-- the tuples stay -/
def Kt (K : PySem.W.Frag) (H H' : Hp) : Prop := ∀ a xs, SqT K H a xs → SqT K H' a xs
variable {K : PySem.W.Frag} {H H' H'' : Hp}
theorem Kt.refl : Kt K H H := fun _ _ h => h
theorem Kt.trans (a : Kt K H H') (b : Kt K H' H'') : Kt K H H'' := fun p xs h => b p xs (a p xs h)
def notTup : Option HO → Prop
  | some (.tup _) => False
  | some (.frz _ (.tup _)) => False
  | _ => True
theorem Kt.upd {p : Addr} {o : HO} (h : notTup (H p)) : Kt K H (upd H p o) := by
  intro a xs q
  rcases q with q | q
  · by_cases e : a = p
    · subst e
      rcases q with q | ⟨o', q⟩ <;> rw [q] at h <;> exact h.elim
    · refine .inl ?_
      rcases q with q | ⟨o', q⟩
      · exact .inl (by rw [upd_ne e]; exact q)
      · exact .inr ⟨o', by rw [upd_ne e]; exact q⟩
  · exact .inr q
theorem Kt.new {p : Addr} {o : HO} (h : H p = none) : Kt K H (L2.upd H p o) := Kt.upd (by rw [h]; trivial)
theorem Kt.lst {p : Addr} {o : HO} {xs : List V} (h : H p = some (.lst xs)) : Kt K H (L2.upd H p o) := Kt.upd (by rw [h]; trivial)
theorem Kt.dK {p : Addr} {o : HO} {xs} (h : H p = some (.dK xs)) : Kt K H (L2.upd H p o) := Kt.upd (by rw [h]; trivial)
theorem Kt.ext {p : Addr} {o : HO} {xs} (h : H p = some (.ext xs)) : Kt K H (L2.upd H p o) := Kt.upd (by rw [h]; trivial)
theorem Kt.ins {p : Addr} {o : HO} {C dx fs} (h : H p = some (.ins C dx fs)) : Kt K H (L2.upd H p o) := Kt.upd (by rw [h]; trivial)

mutual
theorem Im.kt (k : Kt K H H') : ∀ {v : V} {d : Dt}, Im K H v d → Im K H' v d
  | _, _, .non => .non
  | _, _, .bl b => .bl b
  | _, _, .int i => .int i
  | _, _, .str i => .str i
  | _, _, .ref i => .ref i
  | _, _, .tup h hs => .tup (k _ _ h) (Ims.kt k hs)
theorem Ims.kt (k : Kt K H H') : ∀ {v : List V} {d : List Dt}, Ims K H v d → Ims K H' v d
  | _, _, .nil => .nil
  | _, _, .cons h hs => .cons (Im.kt k h) (Ims.kt k hs)
end
theorem Ims.len : ∀ {v : List V} {d : List Dt}, Ims K H v d → v.length = d.length
  | _, _, .nil => rfl
  | _, _, .cons _ hs => congrArg (· + 1) (Ims.len hs)
theorem Ims.get : ∀ {v : List V} {d : List Dt}, Ims K H v d → ∀ (i : Nat) {x : Dt}, d[i]? = some x → ∃ y, v[i]? = some y ∧ Im K H y x
  | _, _, .nil, _, _, h => by simp at h
  | _, _, .cons a _, 0, _, h => ⟨_, rfl, by cases h; exact a⟩
  | _, _, .cons _ hs, i + 1, _, h => Ims.get hs i (by simpa using h)
theorem Ims.getV : ∀ {v : List V} {d : List Dt}, Ims K H v d → ∀ (i : Nat) {y : V}, v[i]? = some y → ∃ x, d[i]? = some x ∧ Im K H y x
  | _, _, .nil, _, _, h => by simp at h
  | _, _, .cons a _, 0, _, h => ⟨_, rfl, by cases h; exact a⟩
  | _, _, .cons _ hs, i + 1, _, h => Ims.getV hs i (by simpa using h)
theorem Ims.app : ∀ {v w : List V} {d e : List Dt}, Ims K H v d → Ims K H w e → Ims K H (v ++ w) (d ++ e)
  | _, _, _, _, .nil, h => h
  | _, _, _, _, .cons a hs, h => .cons a (Ims.app hs h)
theorem Ims.take : ∀ {v : List V} {d : List Dt}, Ims K H v d → ∀ n, Ims K H (v.take n) (d.take n)
  | _, _, .nil, n => by simp; exact .nil
  | _, _, .cons a hs, 0 => .nil
  | _, _, .cons a hs, n + 1 => .cons a (hs.take n)
theorem Ims.drop : ∀ {v : List V} {d : List Dt}, Ims K H v d → ∀ n, Ims K H (v.drop n) (d.drop n)
  | _, _, .nil, n => by simp; exact .nil
  | _, _, .cons a hs, 0 => .cons a hs
  | _, _, .cons a hs, n + 1 => hs.drop n
theorem Ims.set : ∀ {v : List V} {d : List Dt} {x : V} {y : Dt}, Ims K H v d → Im K H x y → ∀ n, Ims K H (v.set n x) (d.set n y)
  | _, _, _, _, .nil, _, n => .nil
  | _, _, _, _, .cons a hs, h, 0 => .cons h hs
  | _, _, _, _, .cons a hs, h, n + 1 => .cons a (hs.set h n)
theorem Ims.eraseIdx : ∀ {v : List V} {d : List Dt}, Ims K H v d → ∀ n, Ims K H (v.eraseIdx n) (d.eraseIdx n)
  | _, _, .nil, n => .nil
  | _, _, .cons a hs, 0 => hs
  | _, _, .cons a hs, n + 1 => .cons a (hs.eraseIdx n)
theorem Ims.dropLast : ∀ {v : List V} {d : List Dt}, Ims K H v d → Ims K H v.dropLast d.dropLast := fun h => by
  rw [List.dropLast_eq_take, List.dropLast_eq_take, h.len]; exact h.take _

/-! a key of a dict with keys of many kinds, as data -/
mutual
def dtOf : NestedKey → Dt
  | .none => .non
  | .num i => .int i
  | .text x => .str x
  | .tup l => .tup (dtOfs l)
def dtOfs : List NestedKey → List Dt
  | [] => []
  | k :: ks => dtOf k :: dtOfs ks
end
/-- an entry as it stands, by key, hash and value -/
def EnIs (x : V × Int × V) (e : DictEntry) : Prop := RelV x.1 e.key ∧ e.hash = x.2.1 ∧ RelV x.2.2 e.val
/-- a dict with keys of many kinds -/
def DdO (a : Addr) (xs : List (V × Int × V)) : HO := .ext fun h => (a == sysModules) = false ∧ xs.length ≤ sizeLine ∧ ∃ o es ep, h.get? a = some o ∧ o.ExactDict ∧ o.data = .dict es ep ∧ Paired EnIs xs es.toList
def NstOk (K : PySem.W.Frag) (w : World) (H : Hp) (xs : List (V × Int × V)) (kvs : List (NestedKey × Dt)) : Prop :=
  Paired (fun (x : V × Int × V) (kv : NestedKey × Dt) => Im K H x.1 (dtOf kv.1) ∧ x.2.1 = kv.1.hash w ∧ okK kv.1 ∧ Im K H x.2.2 kv.2) xs kvs ∧ (kvs.map (·.1)).Nodup

/-- mutable things -/
inductive Mo where
  | nst (w : World) (kvs : List (NestedKey × Dt))
  | nfz (w : World) (kvs : List (NestedKey × Dt))
  | lst (ds : List Dt)
  | rl (ds : List Dt)
  | dic (kvs : List (Key × Dt))
  | ins (C : Addr) (fs : List (Str × Dt))
  | oth (φ : PySem.W.Frag → Hp → Addr → Prop)

def MoOk (K : PySem.W.Frag) (H : Hp) (p : Addr) : Mo → Prop
  | .lst ds => ∃ vs, H p = some (.lst vs) ∧ Ims K H vs ds
  | .rl ds => ∃ o vs, H p = some (.frz o (.lst vs)) ∧ Ims K H vs ds
  | .dic kvs => ∃ ks, H p = some (.dK ks) ∧ Paired (fun (a : Key × V) (b : Key × Dt) => a.1 = b.1 ∧ Im K H a.2 b.2) ks kvs
  | .ins C fs => ∃ dx gs, H p = some (.ins C dx gs) ∧ Paired (fun (a : Str × V) (b : Str × Dt) => a.1 = b.1 ∧ Im K H a.2 b.2) gs fs
  | .nst w kvs => ∃ xs, H p = some (DdO p xs) ∧ NstOk K w H xs kvs
  | .nfz w kvs => ∃ o xs, H p = some (.frz o (DdO p xs)) ∧ NstOk K w H xs kvs
  | .oth φ => H p ≠ none ∧ (∀ H', Kt K H H' → H' p = H p → φ K H' p)
theorem paired_imp {α β : Type} {F G : α → β → Prop} (h : ∀ a b, F a b → G a b) : ∀ {xs : List α} {ys : List β}, Paired F xs ys → Paired G xs ys
  | _, _, .nil => .nil
  | _, _, .cons a r => .cons (h _ _ a) (paired_imp h r)
theorem NstOk.kt {w : World} {xs : List (V × Int × V)} {kvs : List (NestedKey × Dt)} (h : NstOk K w H xs kvs) (k : Kt K H H') : NstOk K w H' xs kvs :=
  ⟨paired_imp (fun a b q => ⟨q.1.kt k, q.2.1, q.2.2.1, q.2.2.2.kt k⟩) h.1, h.2⟩
theorem MoOk.kt {p : Addr} {m : Mo} (h : MoOk K H p m) (k : Kt K H H') (e : H' p = H p) : MoOk K H' p m := by
  cases m with
  | lst ds => obtain ⟨vs, h1, h2⟩ := h; exact ⟨vs, e.trans h1, h2.kt k⟩
  | rl ds => obtain ⟨o, vs, h1, h2⟩ := h; exact ⟨o, vs, e.trans h1, h2.kt k⟩
  | dic kvs => obtain ⟨vs, h1, h2⟩ := h; exact ⟨vs, e.trans h1, paired_imp (fun a b q => ⟨q.1, q.2.kt k⟩) h2⟩
  | ins C fs => obtain ⟨dx, vs, h1, h2⟩ := h; exact ⟨dx, vs, e.trans h1, paired_imp (fun a b q => ⟨q.1, q.2.kt k⟩) h2⟩
  | nst w kvs => obtain ⟨xs, h1, h2⟩ := h; exact ⟨xs, e.trans h1, h2.kt k⟩
  | nfz w kvs => obtain ⟨o, xs, h1, h2⟩ := h; exact ⟨o, xs, e.trans h1, h2.kt k⟩
  | oth φ => exact ⟨by rw [e]; exact h.1, fun H2 k2 e2 => h.2 H2 (k.trans k2) (e2.trans e)⟩
theorem MoOk.some {p : Addr} {m : Mo} (h : MoOk K H p m) : H p ≠ none := by
  cases m with
  | lst ds => obtain ⟨vs, h1, h2⟩ := h; rw [h1]; simp
  | rl ds => obtain ⟨o, vs, h1, h2⟩ := h; rw [h1]; simp
  | dic kvs => obtain ⟨vs, h1, h2⟩ := h; rw [h1]; simp
  | ins C fs => obtain ⟨dx, vs, h1, h2⟩ := h; rw [h1]; simp
  | nst w kvs => obtain ⟨vs, h1, h2⟩ := h; rw [h1]; simp
  | nfz w kvs => obtain ⟨o, vs, h1, h2⟩ := h; rw [h1]; simp
  | oth φ => exact h.1
abbrev Eta := Addr → Option Mo
def up (η : Eta) (p : Addr) (m : Mo) : Eta := fun q => if q = p then some m else η q
theorem up_same {η : Eta} {p : Addr} {m : Mo} : up η p m p = some m := if_pos rfl
theorem up_ne {η : Eta} {p q : Addr} {m : Mo} (h : q ≠ p) : up η p m q = η q := if_neg h
def HAb (K : PySem.W.Frag) (H : Hp) (η : Eta) : Prop := ∀ p m, η p = some m → MoOk K H p m
theorem HAb.free {η : Eta} {p : Addr} (h : HAb K H η) (e : H p = none) : η p = none := by
  cases q : η p with
  | none => rfl
  | some m => exact absurd e (h p m q).some
theorem HAb.new {η : Eta} {p : Addr} {o : HO} (h : HAb K H η) (e : H p = none) : HAb K (upd H p o) η := by
  intro q m hq
  have hne : q ≠ p := fun z => (h q m hq).some (z ▸ e)
  exact (h q m hq).kt (Kt.new e) (upd_ne hne)
theorem HAb.mut {η : Eta} {p : Addr} {o : HO} {m : Mo} (h : HAb K H η) (k : Kt K H (upd H p o)) (n : MoOk K (upd H p o) p m) : HAb K (upd H p o) (up η p m) := by
  intro q m' hq
  by_cases e : q = p
  · subst e
    rw [up_same] at hq
    cases hq
    exact n
  · rw [up_ne e] at hq
    exact (h q m' hq).kt k (upd_ne e)

abbrev Rho := List (Option Dt)
def Vs (K : PySem.W.Frag) (H : Hp) (σ : L2.St) (ρ : Rho) : Prop := σ.length = ρ.length ∧ ∀ (i : Nat) (d : Dt), ρ[i]? = some (some d) → ∃ v, σ[i]? = some (some v) ∧ Im K H v d
theorem Vs.kt {σ : L2.St} {ρ : Rho} (h : Vs K H σ ρ) (k : Kt K H H') : Vs K H' σ ρ := ⟨h.1, fun i d e => by
  obtain ⟨v, h1, h2⟩ := h.2 i d e; exact ⟨v, h1, h2.kt k⟩⟩
theorem Vs.set {σ : L2.St} {ρ : Rho} {v : V} {d : Dt} (h : Vs K H σ ρ) (i : Nat) (m : Im K H v d) : Vs K H (σ.set i (some v)) (ρ.set i (some d)) := by
  refine ⟨by rw [List.length_set, List.length_set]; exact h.1, fun j e hj => ?_⟩
  by_cases ij : i = j
  · subst ij
    by_cases hl : i < ρ.length
    · rw [List.getElem?_set_self hl] at hj
      cases hj
      exact ⟨v, by rw [List.getElem?_set_self (h.1 ▸ hl)], m⟩
    · rw [List.getElem?_eq_none (by rw [List.length_set]; omega)] at hj
      cases hj
  · rw [List.getElem?_set_ne ij] at hj
    obtain ⟨v', h1, h2⟩ := h.2 j e hj
    exact ⟨v', by rw [List.getElem?_set_ne ij]; exact h1, h2⟩
def wipeR (ρ : Rho) : List Nat → Rho
  | [] => ρ
  | v :: vs => (wipeR ρ vs).set v none
theorem Vs.wipe1 {σ : L2.St} {ρ : Rho} (h : Vs K H σ ρ) (i : Nat) : Vs K H (σ.set i none) (ρ.set i none) := by
  refine ⟨by rw [List.length_set, List.length_set]; exact h.1, fun j e hj => ?_⟩
  by_cases ij : i = j
  · subst ij
    rw [List.getElem?_set] at hj
    simp only [if_pos] at hj
    split at hj <;> cases hj
  · rw [List.getElem?_set_ne ij] at hj
    obtain ⟨v', h1, h2⟩ := h.2 j e hj
    exact ⟨v', by rw [List.getElem?_set_ne ij]; exact h1, h2⟩
theorem Vs.wipe {σ : L2.St} {ρ : Rho} (h : Vs K H σ ρ) : ∀ vs : List Nat, Vs K H (wipe σ vs) (wipeR ρ vs)
  | [] => h
  | v :: vs => (h.wipe vs).wipe1 v
theorem Vs.start {vs : List V} {ds : List Dt} (h : Ims K H vs ds) (n : Nat) : Vs K H (vs.map some ++ List.replicate n none) (ds.map some ++ List.replicate n none) := by
  refine ⟨by simp [h.len], fun i d e => ?_⟩
  by_cases hl : i < ds.length
  · rw [List.getElem?_append_left (by simpa using hl), List.getElem?_map] at e
    cases q : ds[i]? with
    | none => rw [q] at e; cases e
    | some x =>
      rw [q] at e
      cases e
      obtain ⟨y, h1, h2⟩ := h.get i q
      exact ⟨y, by rw [List.getElem?_append_left (by simpa [h.len] using hl), List.getElem?_map, h1]; rfl, h2⟩
  · rw [List.getElem?_append_right (by simpa using Nat.le_of_not_lt hl)] at e
    rw [List.getElem?_replicate] at e
    split at e <;> cases e

/-! ### what an expression brings about -/
def Out (K : PySem.W.Frag) (H : Hp) (Q : Dt → Eta → Prop) (R : VK) : Prop := ∀ d η v H', Kt K H H' → Im K H' v d → HAb K H' η → Q d η → R v H'
def OutB (K : PySem.W.Frag) (H : Hp) (Q : Bool → Eta → Prop) (R : Bool → Hp → Prop) : Prop := ∀ b η H', Kt K H H' → HAb K H' η → Q b η → R b H'
def OutA (K : PySem.W.Frag) (H : Hp) (Q : List Dt → Eta → Prop) (R : List V → Hp → Prop) : Prop := ∀ ds η vs H', Kt K H H' → Ims K H' vs ds → HAb K H' η → Q ds η → R vs H'
theorem Out.kt {Q : Dt → Eta → Prop} {R : VK} (h : Out K H Q R) (k : Kt K H H') : Out K H' Q R := fun d η v H2 k2 => h d η v H2 (k.trans k2)
theorem OutB.kt {Q : Bool → Eta → Prop} {R : Bool → Hp → Prop} (h : OutB K H Q R) (k : Kt K H H') : OutB K H' Q R := fun d η H2 k2 => h d η H2 (k.trans k2)
theorem OutA.kt {Q : List Dt → Eta → Prop} {R : List V → Hp → Prop} (h : OutA K H Q R) (k : Kt K H H') : OutA K H' Q R := fun d η v H2 k2 => h d η v H2 (k.trans k2)
def AX (K : PySem.W.Frag) (t : TE) (ρ : Rho) (η : Eta) (Q : Dt → Eta → Prop) : Prop := ∀ σ H R, Vs K H σ ρ → HAb K H η → Out K H Q R → t σ H R
def ATt (K : PySem.W.Frag) (t : TT) (ρ : Rho) (η : Eta) (Q : Bool → Eta → Prop) : Prop := ∀ σ H R, Vs K H σ ρ → HAb K H η → OutB K H Q R → t σ H R
def AAt (K : PySem.W.Frag) (t : TA) (ρ : Rho) (η : Eta) (Q : List Dt → Eta → Prop) : Prop := ∀ σ H R, Vs K H σ ρ → HAb K H η → OutA K H Q R → t σ H R
def AR (K : PySem.W.Frag) (r : R2) (d e : Dt) (η : Eta) (Q : Dt → Eta → Prop) : Prop := ∀ x y H R, Im K H x d → Im K H y e → HAb K H η → Out K H Q R → r x y H R
def AC (K : PySem.W.Frag) (r : List V → Hp → VK → Prop) (ds : List Dt) (η : Eta) (Q : Dt → Eta → Prop) : Prop := ∀ xs H R, Ims K H xs ds → HAb K H η → Out K H Q R → r xs H R

structure AEnds where
  nx : Rho → Eta → Prop
  rt : Dt → Eta → Prop
  bk : Rho → Eta → Prop := fun _ _ => False
  ct : Rho → Eta → Prop := fun _ _ => False
structure Le (K : PySem.W.Frag) (H : Hp) (E : AEnds) (D : Ends) : Prop where
  nx : ∀ ρ η σ H', Kt K H H' → Vs K H' σ ρ → HAb K H' η → E.nx ρ η → D.nx σ H'
  rt : Out K H E.rt D.rt
  bk : ∀ ρ η σ H', Kt K H H' → Vs K H' σ ρ → HAb K H' η → E.bk ρ η → D.bk σ H'
  ct : ∀ ρ η σ H', Kt K H H' → Vs K H' σ ρ → HAb K H' η → E.ct ρ η → D.ct σ H'
theorem Le.kt {E : AEnds} {D : Ends} (h : Le K H E D) (k : Kt K H H') : Le K H' E D :=
  ⟨fun ρ η σ H2 k2 => h.nx ρ η σ H2 (k.trans k2), h.rt.kt k, fun ρ η σ H2 k2 => h.bk ρ η σ H2 (k.trans k2), fun ρ η σ H2 k2 => h.ct ρ η σ H2 (k.trans k2)⟩
def ASt (K : PySem.W.Frag) (t : TS) (ρ : Rho) (η : Eta) (E : AEnds) : Prop := ∀ D σ H, Vs K H σ ρ → HAb K H η → Le K H E D → t D σ H
def AGt (K : PySem.W.Frag) (g : TG) (d : Dt) (ρ : Rho) (η : Eta) (Q : Rho → Eta → Prop) : Prop :=
  ∀ v σ H (R : L2.St → Hp → Prop), Im K H v d → Vs K H σ ρ → HAb K H η → (∀ ρ' η' σ' H', Kt K H H' → Vs K H' σ' ρ' → HAb K H' η' → Q ρ' η' → R σ' H') → g v σ H R
end FgA
/-! FgA2: the judgements at the syntax itself, and the rules of names, numbers, tests, plain statements. -/
namespace FgA
open PySem PySem.Spec PyProof.Rows L2

/-! ### the weakest reading of a piece of syntax -/
def tW (X : Cx) (e : Expr) : TE := fun σ H R => ∀ (pins : List (Addr × Obj)) (s : Shared), Inv X pins σ H s → wpAny (model X.prog X.w) X.A (eval e X.env) (EP X pins σ R) X.xe s
def tWT (X : Cx) (e : Expr) : TT := fun σ H R => ∀ (pins : List (Addr × Obj)) (s : Shared), Inv X pins σ H s → wpAny (model X.prog X.w) X.A (isTrue e X.env (eval e X.env)) (TP X pins σ R) X.xe s
def tWW (X : Cx) (e : Expr) : TT := fun σ H R => ∀ (whole : Sem Value) (pins : List (Addr × Obj)) (s : Shared), Inv X pins σ H s → wpAny (model X.prog X.w) X.A (isTrue e X.env whole) (TP X pins σ R) X.xe s
def tWA (X : Cx) (es : List Expr) : TA := fun σ H R => ∀ (pos : Pos) (pins : List (Addr × Obj)) (s : Shared), Inv X pins σ H s → wpAny (model X.prog X.w) X.A (spliced (backTo pos (starEach es X.env))) (AP X pins σ R) X.xe s
def tWS (X : Cx) (st : Stmt) : TS := fun D σ H => ∀ (pins : List (Addr × Obj)) (s : Shared), Inv X pins σ H s → wpAny (model X.prog X.w) X.A (exec st X.env) (SP X pins D) X.xe s
def tWSs (X : Cx) (st : List Stmt) : TS := fun D σ H => ∀ (pins : List (Addr × Obj)) (s : Shared), Inv X pins σ H s → wpAny (model X.prog X.w) X.A (execs st X.env) (SP X pins D) X.xe s
def tWG (X : Cx) (target : Expr) : TG := fun v σ H Q => ∀ (pins : List (Addr × Obj)) (s : Shared) (u : Value), Inv X pins σ H s → RelV v u → wpAny (model X.prog X.w) X.A (assign target X.env u) (fun _ s' => ∃ σ' H', Inv X pins σ' H' s' ∧ Q σ' H') X.xe s
variable {X : Cx}
theorem peW (e : Expr) : PE X e (tW X e) := ⟨fun pins s σ H Q I h => h pins s I⟩
theorem ptW (e : Expr) : PT X e (tWT X e) := ⟨fun pins s σ H Q I h => h pins s I⟩
theorem pwW (e : Expr) : PW X e (tWW X e) := ⟨fun whole pins s σ H Q I h => h whole pins s I⟩
theorem paW (e : List Expr) : PA X e (tWA X e) := ⟨fun pos pins s σ H Q I h => h pos pins s I⟩
theorem psW (e : Stmt) : PS X e (tWS X e) := ⟨fun pins s σ H Q I h => h pins s I⟩
theorem pssW (e : List Stmt) : PSs X e (tWSs X e) := ⟨fun pins s σ H Q I h => h pins s I⟩
theorem pgW (e : Expr) : PG X e (tWG X e) := ⟨fun pins s σ H v u Q I r h => h pins s u I r⟩

structure AE (X : Cx) (e : Expr) (ρ : Rho) (η : Eta) (Q : Dt → Eta → Prop) : Prop where
  run : AX X.K (tW X e) ρ η Q
def pick (T F : Eta → Prop) (b : Bool) (η : Eta) : Prop := (b = true → T η) ∧ (b = false → F η)
structure AT (X : Cx) (e : Expr) (ρ : Rho) (η : Eta) (T F : Eta → Prop) : Prop where
  run : ATt X.K (tWT X e) ρ η (pick T F)
structure AW (X : Cx) (e : Expr) (ρ : Rho) (η : Eta) (T F : Eta → Prop) : Prop where
  run : ATt X.K (tWW X e) ρ η (pick T F)
structure AA (X : Cx) (es : List Expr) (ρ : Rho) (η : Eta) (Q : List Dt → Eta → Prop) : Prop where
  run : AAt X.K (tWA X es) ρ η Q
structure AS (X : Cx) (st : Stmt) (ρ : Rho) (η : Eta) (E : AEnds) : Prop where
  run : ASt X.K (tWS X st) ρ η E
structure ASs (X : Cx) (st : List Stmt) (ρ : Rho) (η : Eta) (E : AEnds) : Prop where
  run : ASt X.K (tWSs X st) ρ η E
structure AG (X : Cx) (tg : Expr) (d : Dt) (ρ : Rho) (η : Eta) (Q : Rho → Eta → Prop) : Prop where
  run : AGt X.K (tWG X tg) d ρ η Q

theorem AX.of {e : Expr} {t : TE} {ρ : Rho} {η : Eta} {Q : Dt → Eta → Prop} (h : PE X e t) (a : AX X.K t ρ η Q) : AE X e ρ η Q := ⟨fun σ H R v b o pins s I => h.run pins s σ H R I (a σ H R v b o)⟩
theorem ATt.of {e : Expr} {t : TT} {ρ : Rho} {η : Eta} {T F : Eta → Prop} (h : PT X e t) (a : ATt X.K t ρ η (pick T F)) : AT X e ρ η T F := ⟨fun σ H R v b o pins s I => h.run pins s σ H R I (a σ H R v b o)⟩
theorem ATt.ofW {e : Expr} {t : TT} {ρ : Rho} {η : Eta} {T F : Eta → Prop} (h : PW X e t) (a : ATt X.K t ρ η (pick T F)) : AW X e ρ η T F := ⟨fun σ H R v b o w pins s I => h.run w pins s σ H R I (a σ H R v b o)⟩
theorem AAt.of {e : List Expr} {t : TA} {ρ : Rho} {η : Eta} {Q : List Dt → Eta → Prop} (h : PA X e t) (a : AAt X.K t ρ η Q) : AA X e ρ η Q := ⟨fun σ H R v b o pos pins s I => h.run pos pins s σ H R I (a σ H R v b o)⟩
theorem ASt.of {e : Stmt} {t : TS} {ρ : Rho} {η : Eta} {Q : AEnds} (h : PS X e t) (a : ASt X.K t ρ η Q) : AS X e ρ η Q := ⟨fun D σ H v b o pins s I => h.run pins s σ H D I (a D σ H v b o)⟩
theorem ASt.ofs {e : List Stmt} {t : TS} {ρ : Rho} {η : Eta} {Q : AEnds} (h : PSs X e t) (a : ASt X.K t ρ η Q) : ASs X e ρ η Q := ⟨fun D σ H v b o pins s I => h.run pins s σ H D I (a D σ H v b o)⟩
theorem AGt.of {e : Expr} {t : TG} {d : Dt} {ρ : Rho} {η : Eta} {Q : Rho → Eta → Prop} (h : PG X e t) (a : AGt X.K t d ρ η Q) : AG X e d ρ η Q := ⟨fun v σ H R m vs b o pins s u I r => h.run pins s σ H v u R I r (a v σ H R m vs b o)⟩
variable {K : PySem.W.Frag} {ρ : Rho} {η : Eta} {Q : Dt → Eta → Prop} {QA : List Dt → Eta → Prop}
theorem AX.mono {t : TE} {Q' : Dt → Eta → Prop} (h : AX K t ρ η Q) (k : ∀ d η', Q d η' → Q' d η') : AX K t ρ η Q' := fun σ H R v b o => h σ H R v b fun d η' v' H' k' m b' q => o d η' v' H' k' m b' (k d η' q)
theorem ax_val {t : TE} {d : Dt} (h : ∀ σ H, Vs K H σ ρ → HAb K H η → ∀ R : VK, (∀ v, Im K H v d → R v H) → t σ H R) (q : Q d η) : AX K t ρ η Q :=
  fun σ H R v b o => h σ H v b R fun x m => o d η x H Kt.refl m b q

theorem AE.mono {e : Expr} {Q' : Dt → Eta → Prop} (h : AE X e ρ η Q) (k : ∀ d η', Q d η' → Q' d η') : AE X e ρ η Q' := ⟨h.run.mono k⟩
/-! ### where one stands -/
structure At (X : Cx) (N : List Str) (sc : Scope) (k : Nat) : Prop where
  eN : X.N = N
  nd : N.Nodup
  eS : X.env.scope = sc
  calm : X.calm = true
  room : Room k X.A
  pass : PassesOwn (model X.prog X.w) X.A X.env X.xe
/-- the built-in names that stay built-in -/
structure Bt (X : Cx) : Prop where
  len : X.mg "len" = none
  abs : X.mg "abs" = none
  min : X.mg "min" = none
  max : X.mg "max" = none
  int : X.mg "int" = none
  range : X.mg "range" = none
  enumerate : X.mg "enumerate" = none
  list : X.mg "list" = none
  tuple : X.mg "tuple" = none
  dict : X.mg "dict" = none
  any : X.mg "any" = none
variable {N : List Str} {sc : Scope} {k : Nat}
theorem At.gl (A : At X N sc k) {x : Str} (h : sc.names.lookup x = some .globalImplicit) : Gl X x := by
  show X.env.scope.names.lookup x = _
  rw [A.eS]; exact h
theorem At.hu (A : At X N sc k) : X.A.units + 64 < cLine := A.room.units

theorem ae_name (A : At X N sc k) (i : Nat) {x : Str} {pos : Pos} {d : Dt} (hN : N[i]? = some x) (hρ : ρ[i]? = some (some d)) (q : Q d η) (hv : Vis sc x := by first | exact Or.inl rfl | exact Or.inr (Or.inl rfl) | exact Or.inr (Or.inr rfl))
    (hd : (x == ("__debug__" : Str)) = false := by decide) (hcd : (x == ("__classdict__" : Str)) = false := by decide) : AE X (.Name x pos) ρ η Q := by
  refine AX.of (pe_var (i := i) (by rw [A.eN]; exact hN) (by rw [A.eS]; exact hv) hd hcd) ?_
  intro σ H R v b o
  obtain ⟨y, h1, h2⟩ := v.2 i d hρ
  exact ⟨y, h1, o d η y H Kt.refl h2 b q⟩
theorem ae_int {i : Int} {j pos} (q : Q (.int i) η) : AE X (.Constant (.int i) j pos) ρ η Q := AX.of pe_int fun σ H R v b o => o _ η _ H Kt.refl (.int i) b q
theorem ae_bl {i : Bool} {j pos} (q : Q (.bl i) η) : AE X (.Constant (.bool i) j pos) ρ η Q := AX.of pe_bl fun σ H R v b o => o _ η _ H Kt.refl (.bl i) b q
theorem ae_non {j pos} (q : Q .non η) : AE X (.Constant .none j pos) ρ η Q := AX.of pe_non fun σ H R v b o => o _ η _ H Kt.refl .non b q
theorem ae_str {x : Str} {j pos} (q : Q (.str x) η) : AE X (.Constant (.str x) j pos) ρ η Q := AX.of pe_str fun σ H R v b o => o _ η _ H Kt.refl (.str x) b q
/-- a name of the module that holds a value for good -/
structure GV (X : Cx) (x : Str) (d : Dt) : Prop where
  ex : ∃ v u, X.mg x = some u ∧ RelV v u ∧ ∀ H, Im X.K H v d
theorem ae_glob (A : At X N sc k) {x : Str} {pos : Pos} {d : Dt} (g : GV X x d) (q : Q d η) (hg : sc.names.lookup x = some .globalImplicit := by rfl) (hd : (x == ("__debug__" : Str)) = false := by decide) : AE X (.Name x pos) ρ η Q := by
  obtain ⟨v, u, h1, h2, h3⟩ := g.ex
  exact AX.of (pe_glob (A.gl hg) h1 h2 hd) fun σ H R vs b o => o _ η _ H Kt.refl (h3 H) b q

/-! ### operators -/
theorem ax_op {r : R2} {ta tb : TE} (h : AX K ta ρ η fun d1 η1 => AX K tb ρ η1 fun d2 η2 => AR K r d1 d2 η2 Q) : AX K (tOp r ta tb) ρ η Q := by
  intro σ H R v b o
  refine h σ H _ v b fun d1 η1 x H1 k1 m1 b1 q1 => ?_
  refine q1 σ H1 _ (v.kt k1) b1 fun d2 η2 y H2 k2 m2 b2 q2 => ?_
  exact q2 x y H2 R (m1.kt k2) m2 b2 (o.kt (k1.trans k2))
inductive addD (η : Eta) (Q : Dt → Eta → Prop) : Dt → Dt → Prop
  | int {i j : Int} : Q (.int (i + j)) η → addD η Q (.int i) (.int j)
  | str {i j : Str} : i.length + j.length ≤ sizeLine → Q (.str (i ++ j)) η → addD η Q (.str i) (.str j)
  | lst {p q : Addr} {xs ys : List Dt} : η p = some (.lst xs) → η q = some (.lst ys) → xs.length + ys.length ≤ sizeLine → (∀ r, η r = none → Q (.ref r) (up η r (.lst (xs ++ ys)))) → addD η Q (.ref p) (.ref q)
theorem Im.int_inv {H : Hp} {v : V} {i : Int} (h : Im K H v (.int i)) : v = .int i := by cases h; rfl
theorem Im.str_inv {H : Hp} {v : V} {i : Str} (h : Im K H v (.str i)) : v = .str i := by cases h; rfl
theorem Im.bl_inv {H : Hp} {v : V} {i : Bool} (h : Im K H v (.bl i)) : v = .bl i := by cases h; rfl
theorem Im.ref_inv {H : Hp} {v : V} {i : Addr} (h : Im K H v (.ref i)) : v = .ref i := by cases h; rfl
theorem Im.non_inv {H : Hp} {v : V} (h : Im K H v .non) : v = .non := by cases h; rfl
theorem Im.tup_inv {H : Hp} {v : V} {ds : List Dt} (h : Im K H v (.tup ds)) : ∃ a xs, v = .ref a ∧ SqT K H a xs ∧ Ims K H xs ds := by
  cases h with
  | tup a b => exact ⟨_, _, rfl, a, b⟩
theorem HAb.newM {H : Hp} {p : Addr} {o : HO} {m : Mo} (h : HAb K H η) (e : H p = none) (n : MoOk K (upd H p o) p m) : HAb K (upd H p o) (up η p m) := h.mut (Kt.new e) n
theorem MoOk.mk_lst {H : Hp} {p : Addr} {vs : List V} {ds : List Dt} (k : Kt K H (upd H p (.lst vs))) (h : Ims K H vs ds) : MoOk K (upd H p (.lst vs)) p (.lst ds) := ⟨vs, upd_same, h.kt k⟩
theorem ar_add {d e : Dt} (h : addD η Q d e) : AR K (fun x y H R => rI0 (fun i j => .int (i + j)) x y H R ∨ (∃ i j, x = .str i ∧ y = .str j ∧ i.length + j.length ≤ sizeLine ∧ R (.str (i ++ j)) H) ∨ rCat x y H R) d e η Q := by
  intro x y H R mx my b o
  cases h with
  | @int i j h => exact .inl ⟨i, j, mx.int_inv, my.int_inv, o _ η _ H Kt.refl (.int _) b h⟩
  | @str i j h1 h2 => exact .inr (.inl ⟨i, j, mx.str_inv, my.str_inv, h1, o _ η _ H Kt.refl (.str _) b h2⟩)
  | @lst p q xs ys h1 h2 h3 h4 =>
    obtain ⟨vs, a1, a2⟩ := b _ _ h1
    obtain ⟨ws, c1, c2⟩ := b _ _ h2
    refine .inr (.inr ⟨p, q, vs, ws, mx.ref_inv, my.ref_inv, a1, c1, by rw [a2.len, c2.len]; exact h3, fun r hr => ?_⟩)
    exact o _ _ _ _ (Kt.new hr) (.ref r) (b.newM hr (MoOk.mk_lst (Kt.new hr) (a2.app c2))) (h4 r (b.free hr))
theorem ae_add {a b : Expr} {pos : Pos} (h : AE X a ρ η fun d1 η1 => AE X b ρ η1 fun d2 η2 => addD η2 Q d1 d2) : AE X (.BinOp a .Add b pos) ρ η Q := by
  refine AX.of (pe_op (OpR.or op_add (OpR.or op_add_str op_cat)) (peW a) (peW b)) (ax_op ?_)
  exact h.run.mono fun d1 η1 q => q.run.mono fun d2 η2 q2 => ar_add q2
inductive iiD (C : Int → Int → Prop) (g : Int → Int → Dt) (η : Eta) (Q : Dt → Eta → Prop) : Dt → Dt → Prop
  | mk {i j : Int} : C i j → Q (g i j) η → iiD C g η Q (.int i) (.int j)
theorem ar_ii {C : Int → Int → Prop} {g : Int → Int → V} {g' : Int → Int → Dt} (hg : ∀ H i j, Im K H (g i j) (g' i j)) {d e : Dt} (h : iiD C g' η Q d e) : AR K (rI C g) d e η Q := by
  intro x y H R mx my b o
  cases h with
  | @mk i j h1 h2 => exact ⟨i, j, mx.int_inv, my.int_inv, h1, o _ η _ H Kt.refl (hg H i j) b h2⟩
theorem ar_ii0 {g : Int → Int → V} {g' : Int → Int → Dt} (hg : ∀ H i j, Im K H (g i j) (g' i j)) {d e : Dt} (h : iiD (fun _ _ => True) g' η Q d e) : AR K (rI0 g) d e η Q := by
  intro x y H R mx my b o
  cases h with
  | @mk i j h1 h2 => exact ⟨i, j, mx.int_inv, my.int_inv, o _ η _ H Kt.refl (hg H i j) b h2⟩
theorem iiT {C : Int → Int → Prop} {g : Int → Int → Dt} {i j : Int} (hc : C i j) (q : Q (g i j) η) : iiD C g η Q (.int i) (.int j) := .mk hc q
theorem ae_sub {a b : Expr} {pos : Pos} (h : AE X a ρ η fun d1 η1 => AE X b ρ η1 fun d2 η2 => iiD (fun _ _ => True) (fun i j => .int (i - j)) η2 Q d1 d2) : AE X (.BinOp a .Sub b pos) ρ η Q :=
  AX.of (pe_op op_sub (peW a) (peW b)) (ax_op (h.run.mono fun d1 η1 q => q.run.mono fun d2 η2 q2 => ar_ii0 (fun _ _ _ => .int _) q2))
theorem ae_mod {a b : Expr} {pos : Pos} (h : AE X a ρ η fun d1 η1 => AE X b ρ η1 fun d2 η2 => iiD (fun _ j => j ≠ 0) (fun i j => .int (i.fmod j)) η2 Q d1 d2) : AE X (.BinOp a .Mod b pos) ρ η Q :=
  AX.of (pe_op op_modN (peW a) (peW b)) (ax_op (h.run.mono fun d1 η1 q => q.run.mono fun d2 η2 q2 => ar_ii (fun _ _ _ => .int _) q2))

/-! ### tests -/
variable {T F : Eta → Prop}
theorem at_val {e : Expr} (h : AE X e ρ η fun d η1 => ∃ b, d = .bl b ∧ (b = true → T η1) ∧ (b = false → F η1)) (he : ∀ whole, isTrue e X.env whole = (do let v ← whole; standAt e.pos; holding [v] (truthy v)) := by intro _; rfl) : AT X e ρ η T F := by
  refine ATt.of (pt_val (peW e) he) ?_
  intro σ H R v b o
  refine h.run σ H _ v b fun d η1 x H1 k1 m1 b1 q1 => ?_
  obtain ⟨c, rfl, q⟩ := q1
  exact ⟨c, m1.bl_inv, o c η1 H1 k1 b1 q⟩
theorem at_not {e : Expr} {pos : Pos} (h : AT X e ρ η F T) : AT X (.UnaryOp .Not e pos) ρ η T F := by
  refine ATt.of (pt_not (ptW e)) ?_
  intro σ H R v b o
  refine h.run σ H _ v b fun c η1 H1 k1 b1 q => o _ η1 H1 k1 b1 ?_
  cases c with
  | true => exact ⟨fun z => (by cases z), fun _ => q.1 rfl⟩
  | false => exact ⟨fun _ => q.2 rfl, fun z => (by cases z)⟩
theorem aw_and1 {a : Expr} {pos : Pos} (h : AT X a ρ η T F) : AW X (.BoolOp .And [a] pos) ρ η T F := ATt.ofW (pw_and1 (ptW a)) h.run
theorem aw_or1 {a : Expr} {pos : Pos} (h : AT X a ρ η T F) : AW X (.BoolOp .Or [a] pos) ρ η T F := ATt.ofW (pw_or1 (ptW a)) h.run
theorem aw_and {a b : Expr} {rest : List Expr} {pos : Pos} (h : AT X a ρ η (fun η1 => AW X (.BoolOp .And (b :: rest) pos) ρ η1 T F) F) : AW X (.BoolOp .And (a :: b :: rest) pos) ρ η T F := by
  refine ATt.ofW (pw_and (ptW a) (pwW _)) ?_
  intro σ H R v b' o
  refine h.run σ H _ v b' fun c η1 H1 k1 b1 q => ?_
  cases c with
  | true => exact (q.1 rfl).run σ H1 R (v.kt k1) b1 (o.kt k1)
  | false => exact o _ η1 H1 k1 b1 ⟨fun z => (by cases z), q.2⟩
theorem aw_or {a b : Expr} {rest : List Expr} {pos : Pos} (h : AT X a ρ η T (fun η1 => AW X (.BoolOp .Or (b :: rest) pos) ρ η1 T F)) : AW X (.BoolOp .Or (a :: b :: rest) pos) ρ η T F := by
  refine ATt.ofW (pw_or (ptW a) (pwW _)) ?_
  intro σ H R v b' o
  refine h.run σ H _ v b' fun c η1 H1 k1 b1 q => ?_
  cases c with
  | false => exact (q.2 rfl).run σ H1 R (v.kt k1) b1 (o.kt k1)
  | true => exact o _ η1 H1 k1 b1 ⟨q.1, fun z => (by cases z)⟩
theorem at_bool {op : BoolOp} {es : List Expr} {pos : Pos} (h : AW X (.BoolOp op es pos) ρ η T F) : AT X (.BoolOp op es pos) ρ η T F :=
  ⟨fun σ H R v b o pins s I => h.run σ H R v b o _ pins s I⟩
theorem pick.mono {T' F' : Eta → Prop} {b : Bool} (h : pick T F b η) (t : T η → T' η) (f : F η → F' η) : pick T' F' b η := ⟨fun z => t (h.1 z), fun z => f (h.2 z)⟩

/-! ### arguments, tuples, lists -/
theorem aa_nil (q : QA [] η) : AA X [] ρ η QA := AAt.of pa_nil fun σ H R v b o => o [] η [] H Kt.refl .nil b q
theorem aa_cons {e : Expr} {es : List Expr} (h : AE X e ρ η fun d η1 => AA X es ρ η1 fun ds η2 => QA (d :: ds) η2) (hs : starEach (e :: es) X.env = (false, eval e X.env) :: starEach es X.env := by rfl) : AA X (e :: es) ρ η QA := by
  refine AAt.of (pa_cons (peW e) (paW es) hs) ?_
  intro σ H R v b o
  refine h.run σ H _ v b fun d η1 x H1 k1 m1 b1 q1 => ?_
  exact q1.run σ H1 _ (v.kt k1) b1 fun ds η2 xs H2 k2 m2 b2 q2 => o _ η2 _ H2 (k1.trans k2) (.cons (m1.kt k2) m2) b2 q2
theorem ae_tup {es : List Expr} {x1 : _} {pos : Pos} (h : AA X es ρ η fun ds η1 => ds.length ≤ sizeLine ∧ Q (.tup ds) η1) : AE X (.Tuple es x1 pos) ρ η Q := by
  refine AX.of (pe_tup (paW es)) ?_
  intro σ H R v b o
  refine h.run σ H _ v b fun ds η1 xs H1 k1 m1 b1 q1 => ⟨by rw [m1.len]; exact q1.1, fun p hp => ?_⟩
  exact o _ η1 _ _ (k1.trans (Kt.new hp)) (.tup (SqT.of upd_same) (m1.kt (Kt.new hp))) (b1.new hp) q1.2
theorem ae_lst {es : List Expr} {pos : Pos} (h : AA X es ρ η fun ds η1 => ds.length ≤ sizeLine ∧ ∀ p, η1 p = none → Q (.ref p) (up η1 p (.lst ds))) : AE X (.List es pos) ρ η Q := by
  refine AX.of (pe_lst (paW es)) ?_
  intro σ H R v b o
  refine h.run σ H _ v b fun ds η1 xs H1 k1 m1 b1 q1 => ⟨by rw [m1.len]; exact q1.1, fun p hp => ?_⟩
  exact o _ _ _ _ (k1.trans (Kt.new hp)) (.ref p) (b1.newM hp (MoOk.mk_lst (Kt.new hp) m1)) (q1.2 p (b1.free hp))

/-! ### statements -/
variable {E : AEnds}
theorem as_nil (q : E.nx ρ η) : ASs X [] ρ η E := ASt.ofs pss_nil fun D σ H v b l => l.nx ρ η σ H Kt.refl v b q
theorem as_cons {st : Stmt} {rest : List Stmt} (h : AS X st ρ η { E with nx := fun ρ1 η1 => ASs X rest ρ1 η1 E }) : ASs X (st :: rest) ρ η E := by
  refine ASt.ofs (pss_cons (psW st) (pssW rest)) ?_
  intro D σ H v b l
  exact h.run _ σ H v b ⟨fun ρ1 η1 σ1 H1 k1 v1 b1 q => q.run D σ1 H1 v1 b1 (l.kt k1), l.rt, l.bk, l.ct⟩
theorem as_one {st : Stmt} (h : AS X st ρ η E) : ASs X [st] ρ η E := ASt.ofs (pss_one (psW st)) h.run
theorem as_ret {e : Expr} {pos : Pos} (h : AE X e ρ η E.rt) : AS X (.Return (some e) pos) ρ η E :=
  ASt.of (ps_ret (peW e)) fun D σ H v b l => h.run σ H _ v b l.rt
theorem as_pass {pos : Pos} (q : E.nx ρ η) : AS X (.Pass pos) ρ η E := ASt.of ps_pass fun D σ H v b l => l.nx ρ η σ H Kt.refl v b q
theorem as_break {pos : Pos} (q : E.bk ρ η) : AS X (.Break pos) ρ η E := ASt.of ps_break fun D σ H v b l => l.bk ρ η σ H Kt.refl v b q
theorem as_expr {e : Expr} {pos : Pos} (h : AE X e ρ η fun _ η1 => E.nx ρ η1) (hs : swapsWith e none pos.line X.env = pure false := by rfl) : AS X (.Expr e pos) ρ η E :=
  ASt.of (ps_expr (peW e) hs) fun D σ H v b l => h.run σ H _ v b fun d η1 x H1 k1 m1 b1 q => l.nx ρ η1 σ H1 k1 (v.kt k1) b1 q
theorem as_if {c : Expr} {a b : List Stmt} {pos : Pos} (h : AT X c ρ η (fun η1 => ASs X a ρ η1 E) (fun η1 => ASs X b ρ η1 E)) : AS X (.If c a b pos) ρ η E := by
  refine ASt.of (ps_if (ptW c) (pssW a) (pssW b)) ?_
  intro D σ H v b' l
  refine h.run σ H _ v b' fun t η1 H1 k1 b1 q => ?_
  cases t with
  | true => exact (q.1 rfl).run D σ H1 (v.kt k1) b1 (l.kt k1)
  | false => exact (q.2 rfl).run D σ H1 (v.kt k1) b1 (l.kt k1)
/-! targets -/
theorem ag_name (A : At X N sc k) (i : Nat) {x : Str} {pos : Pos} {d : Dt} {QG : Rho → Eta → Prop} (hN : N[i]? = some x) (q : QG (ρ.set i (some d)) η)
    (hx : Loc sc x := by first | exact .inl rfl | exact .inr rfl) (hf : X.fn x = true ∨ sc.names.lookup x = some .local := by first | exact .inr rfl | exact .inl rfl | assumption) : AG X (.Name x pos) d ρ η QG := by
  refine AGt.of (pg_name (i := i) (by rw [A.eN]; exact A.nd) (by rw [A.eN]; exact hN) (by rw [A.eS]; exact hx) (by rw [A.eS]; exact hf)) ?_
  intro v σ H R m vs b o
  exact o _ η _ H Kt.refl (vs.set i m) b q
theorem agt_cons {t : TG} {u : TGs} {d : Dt} {ds : List Dt} {v : List V} {σ : L2.St} {H : Hp} {R : L2.St → Hp → Prop} {Q1 : Rho → Eta → Prop} (h : AGt K t d ρ η Q1) (m : Ims K H v (d :: ds)) (vs : Vs K H σ ρ) (b : HAb K H η)
    (k : ∀ w ρ1 η1 σ1 H1, Kt K H H1 → Ims K H1 w ds → Vs K H1 σ1 ρ1 → HAb K H1 η1 → Q1 ρ1 η1 → u w σ1 H1 R) : gCons t u v σ H R := by
  cases m with
  | @cons x xs _ _ m1 m2 => exact ⟨x, xs, rfl, h x σ H _ m1 vs b fun ρ1 η1 σ1 H1 k1 v1 b1 q1 => k xs ρ1 η1 σ1 H1 k1 (m2.kt k1) v1 b1 q1⟩
theorem agt_nil {v : List V} {σ : L2.St} {H : Hp} {R : L2.St → Hp → Prop} (m : Ims K H v []) (q : R σ H) : gNil v σ H R := by
  cases m; exact ⟨rfl, q⟩
variable {QG : Rho → Eta → Prop}
theorem ag_tup2 (A : At X N sc k) {e1 e2 : Expr} {c : _} {pos : Pos} {d1 d2 : Dt} (h : AG X e1 d1 ρ η fun ρ1 η1 => AG X e2 d2 ρ1 η1 QG)
    (s1 : (assignEach [e1, e2] X.env).map (·.2) = assign e1 X.env :: (assignEach [e2] X.env).map (·.2) := by rfl) (s2 : (assignEach [e2] X.env).map (·.2) = assign e2 X.env :: (assignEach [] X.env).map (·.2) := by rfl)
    (hn : (assignEach [e1, e2] X.env).length = 2 := by rfl) (hst : (assignEach [e1, e2] X.env).findIdx? (·.1) = none := by rfl) : AG X (.Tuple [e1, e2] c pos) (.tup [d1, d2]) ρ η QG := by
  refine AGt.of (pg_tup (n := 2) A.calm (pgs_cons (pgW e1) (pgs_cons (pgW e2) pgs_nil s2) s1) hn hst) ?_
  intro v σ H R m vs b o
  obtain ⟨a, xs, rfl, hs, hi⟩ := m.tup_inv
  refine ⟨a, xs, rfl, hs, hi.len, ?_⟩
  refine agt_cons h.run hi vs b fun w ρ1 η1 σ1 H1 k1 m1 v1 b1 q1 => ?_
  refine agt_cons q1.run m1 v1 b1 fun w2 ρ2 η2 σ2 H2 k2 m2 v2 b2 q2 => ?_
  exact agt_nil m2 (o _ _ _ _ (k1.trans k2) v2 b2 q2)
theorem ag_tup3 (A : At X N sc k) {e1 e2 e3 : Expr} {c : _} {pos : Pos} {d1 d2 d3 : Dt} (h : AG X e1 d1 ρ η fun ρ1 η1 => AG X e2 d2 ρ1 η1 fun ρ2 η2 => AG X e3 d3 ρ2 η2 QG)
    (s1 : (assignEach [e1, e2, e3] X.env).map (·.2) = assign e1 X.env :: (assignEach [e2, e3] X.env).map (·.2) := by rfl) (s2 : (assignEach [e2, e3] X.env).map (·.2) = assign e2 X.env :: (assignEach [e3] X.env).map (·.2) := by rfl)
    (s3 : (assignEach [e3] X.env).map (·.2) = assign e3 X.env :: (assignEach [] X.env).map (·.2) := by rfl)
    (hn : (assignEach [e1, e2, e3] X.env).length = 3 := by rfl) (hst : (assignEach [e1, e2, e3] X.env).findIdx? (·.1) = none := by rfl) : AG X (.Tuple [e1, e2, e3] c pos) (.tup [d1, d2, d3]) ρ η QG := by
  refine AGt.of (pg_tup (n := 3) A.calm (pgs_cons (pgW e1) (pgs_cons (pgW e2) (pgs_cons (pgW e3) pgs_nil s3) s2) s1) hn hst) ?_
  intro v σ H R m vs b o
  obtain ⟨a, xs, rfl, hs, hi⟩ := m.tup_inv
  refine ⟨a, xs, rfl, hs, hi.len, ?_⟩
  refine agt_cons h.run hi vs b fun w ρ1 η1 σ1 H1 k1 m1 v1 b1 q1 => ?_
  refine agt_cons q1.run m1 v1 b1 fun w2 ρ2 η2 σ2 H2 k2 m2 v2 b2 q2 => ?_
  refine agt_cons q2.run m2 v2 b2 fun w3 ρ3 η3 σ3 H3 k3 m3 v3 b3 q3 => ?_
  exact agt_nil m3 (o _ _ _ _ ((k1.trans k2).trans k3) v3 b3 q3)
theorem ag_tup4 (A : At X N sc k) {e1 e2 e3 e4 : Expr} {c : _} {pos : Pos} {d1 d2 d3 d4 : Dt} (h : AG X e1 d1 ρ η fun ρ1 η1 => AG X e2 d2 ρ1 η1 fun ρ2 η2 => AG X e3 d3 ρ2 η2 fun ρ3 η3 => AG X e4 d4 ρ3 η3 QG)
    (s1 : (assignEach [e1, e2, e3, e4] X.env).map (·.2) = assign e1 X.env :: (assignEach [e2, e3, e4] X.env).map (·.2) := by rfl) (s2 : (assignEach [e2, e3, e4] X.env).map (·.2) = assign e2 X.env :: (assignEach [e3, e4] X.env).map (·.2) := by rfl)
    (s3 : (assignEach [e3, e4] X.env).map (·.2) = assign e3 X.env :: (assignEach [e4] X.env).map (·.2) := by rfl) (s4 : (assignEach [e4] X.env).map (·.2) = assign e4 X.env :: (assignEach [] X.env).map (·.2) := by rfl)
    (hn : (assignEach [e1, e2, e3, e4] X.env).length = 4 := by rfl) (hst : (assignEach [e1, e2, e3, e4] X.env).findIdx? (·.1) = none := by rfl) : AG X (.Tuple [e1, e2, e3, e4] c pos) (.tup [d1, d2, d3, d4]) ρ η QG := by
  refine AGt.of (pg_tup (n := 4) A.calm (pgs_cons (pgW e1) (pgs_cons (pgW e2) (pgs_cons (pgW e3) (pgs_cons (pgW e4) pgs_nil s4) s3) s2) s1) hn hst) ?_
  intro v σ H R m vs b o
  obtain ⟨a, xs, rfl, hs, hi⟩ := m.tup_inv
  refine ⟨a, xs, rfl, hs, hi.len, ?_⟩
  refine agt_cons h.run hi vs b fun w ρ1 η1 σ1 H1 k1 m1 v1 b1 q1 => ?_
  refine agt_cons q1.run m1 v1 b1 fun w2 ρ2 η2 σ2 H2 k2 m2 v2 b2 q2 => ?_
  refine agt_cons q2.run m2 v2 b2 fun w3 ρ3 η3 σ3 H3 k3 m3 v3 b3 q3 => ?_
  refine agt_cons q3.run m3 v3 b3 fun w4 ρ4 η4 σ4 H4 k4 m4 v4 b4 q4 => ?_
  exact agt_nil m4 (o _ _ _ _ (((k1.trans k2).trans k3).trans k4) v4 b4 q4)
theorem as_asg {tg e : Expr} {pos : Pos} (h : AE X e ρ η fun d η1 => AG X tg d ρ η1 E.nx) (hs : swapsWithSole [tg] e pos.line X.env = pure false := by rfl) (hw : swappedStores [tg] e X.env = pure none := by rfl)
    (h1 : (assignEach [tg] X.env).map (·.2) = [assign tg X.env] := by rfl) : AS X (.Assign [tg] e pos) ρ η E := by
  refine ASt.of (ps_asg (peW e) (pgW tg) hs hw h1) ?_
  intro D σ H v b l
  refine h.run σ H _ v b fun d η1 x H1 k1 m1 b1 q1 => ?_
  exact q1.run x σ H1 _ m1 (v.kt k1) b1 fun ρ' η' σ' H' k' v' b' q' => l.nx ρ' η' σ' H' (k1.trans k') v' b' q'
theorem as_set (A : At X N sc k) (i : Nat) {x : Str} {e : Expr} {pos pos' : Pos} (hN : N[i]? = some x) (h : AE X e ρ η fun d η1 => E.nx (ρ.set i (some d)) η1)
    (hx : Loc sc x := by first | exact .inl rfl | exact .inr rfl) (hf : X.fn x = true ∨ sc.names.lookup x = some .local := by first | exact .inr rfl | exact .inl rfl | assumption)
    (hs : swapsWith e (some (.Name x pos')) pos.line X.env = pure false := by rfl) : AS X (.Assign [.Name x pos'] e pos) ρ η E := by
  refine ASt.of (ps_set (i := i) (by rw [A.eN]; exact A.nd) (by rw [A.eN]; exact hN) (by rw [A.eS]; exact hx) (peW e) hs (by rw [A.eS]; exact hf)) ?_
  intro D σ H v b l
  exact h.run σ H _ v b fun d η1 y H1 k1 m1 b1 q1 => l.nx _ η1 _ H1 k1 ((v.kt k1).set i m1) b1 q1
end FgA
/-! FgA3: what is walked, loops, comprehensions, told of data. -/
namespace FgA
open PySem PySem.Spec PyProof.Rows L2
variable {X : Cx} {K : PySem.W.Frag} {H H' : Hp} {ρ : Rho} {η : Eta} {Q : Dt → Eta → Prop} {E : AEnds} {N : List Str} {sc : Scope} {k : Nat}

theorem Kt.same (s : Same H H') : Kt K H H' := by
  intro a xs h
  rcases h with (h | ⟨o, h⟩) | h
  · exact .inl (.inl (s _ _ h))
  · exact .inl (.inr ⟨o, s _ _ h⟩)
  · exact .inr h
theorem HAb.same (s : Same H H') (h : HAb K H η) : HAb K H' η := by
  intro p m e
  have q := h p m e
  refine q.kt (Kt.same s) ?_
  cases z : H p with
  | none => exact absurd z q.some
  | some o => exact s p o z
theorem same_new {p : Addr} {o : HO} (h : H p = none) : Same H (upd H p o) := fun b x e => by
  rw [upd_ne (ne_of_none e h)]; exact e
/-! ### forgetting what is no longer wanted -/
def Sub (η η' : Eta) : Prop := ∀ p m, η p = some m → η' p = some m
theorem Sub.refl : Sub η η := fun _ _ h => h
theorem Sub.trans {η1 η2 η3 : Eta} (a : Sub η1 η2) (b : Sub η2 η3) : Sub η1 η3 := fun p m h => b p m (a p m h)
theorem Sub.up {η : Eta} {p : Addr} {m : Mo} (h : η p = none) : Sub η (up η p m) := fun q m' e => by
  have : q ≠ p := fun z => by rw [z, h] at e; cases e
  rw [up_ne this]; exact e
theorem Sub.up' {η η' : Eta} {p : Addr} {m : Mo} (s : Sub η η') (h : η p = none) : Sub η (FgA.up η' p m) := fun q m' e => by
  have : q ≠ p := fun z => by rw [z, h] at e; cases e
  rw [up_ne this]; exact s q m' e
theorem sub_both {η' : Eta} {p : Addr} {m : Mo} (s : Sub η η') : Sub (FgA.up η p m) (FgA.up η' p m) := fun q m' e => by
  by_cases h : q = p
  · subst h; rw [up_same] at e ⊢; exact e
  · rw [up_ne h] at e ⊢; exact s q m' e
theorem HAb.sub {η' : Eta} (h : HAb K H η') (s : Sub η η') : HAb K H η := fun p m e => h p m (s p m e)
theorem up_up {p : Addr} {m m' : Mo} : up (up η p m) p m' = up η p m' := by
  funext q
  by_cases e : q = p
  · subst e; rw [up_same, up_same]
  · rw [up_ne e, up_ne e, up_ne e]
theorem ae_forget {e : Expr} {η' : Eta} (s : Sub η η') (h : AE X e ρ η Q) : AE X e ρ η' Q := ⟨fun σ H R v b o => h.run σ H R v (b.sub s) o⟩
theorem ass_forget {e : List Stmt} {η' : Eta} (s : Sub η η') (h : ASs X e ρ η E) : ASs X e ρ η' E := ⟨fun D σ H v b l => h.run D σ H v (b.sub s) l⟩
theorem at_forget {e : Expr} {η' : Eta} {T F : Eta → Prop} (s : Sub η η') (h : AT X e ρ η T F) : AT X e ρ η' T F := ⟨fun σ H R v b o => h.run σ H R v (b.sub s) o⟩
theorem ax_forget {t : TE} {η' : Eta} (s : Sub η η') (h : AX K t ρ η Q) : AX K t ρ η' Q := fun σ H R v b o => h σ H R v (b.sub s) o
theorem ast_forget {t : TS} {η' : Eta} (s : Sub η η') (h : ASt K t ρ η E) : ASt K t ρ η' E := fun D σ H v b l => h D σ H v (b.sub s) l
theorem att_forget {t : TT} {η' : Eta} {P : Bool → Eta → Prop} (s : Sub η η') (h : ATt K t ρ η P) : ATt K t ρ η' P := fun σ H R v b o => h σ H R v (b.sub s) o
theorem Out.sub {H : Hp} {R : VK} (h : Out K H Q R) : Out K H (fun d η' => ∃ η0, Sub η0 η' ∧ Q d η0) R := fun d η' v H' k m b ⟨η0, s, q⟩ => h d η0 v H' k m (b.sub s) q
/-- the slots may be told with less -/
def LessR (ρ ρ' : Rho) : Prop := ρ.length = ρ'.length ∧ ∀ (i : Nat) (d : Dt), ρ[i]? = some (some d) → ρ'[i]? = some (some d)
theorem Vs.less {ρ' : Rho} {σ : L2.St} (h : Vs K H σ ρ') (l : LessR ρ ρ') : Vs K H σ ρ := ⟨h.1.trans l.1.symm, fun i d e => h.2 i d (l.2 i d e)⟩

/-! ### walks -/
structure AWk (K : PySem.W.Frag) (J : It) (H1 : Hp) (n : Nat) (GE : Eta → Prop) (Y : Nat → Dt → Prop) : Prop where
  w : Walk J n (fun H => Kt K H1 H ∧ ∃ η, HAb K H η ∧ GE η) (fun i H x H' => Same H H' ∧ ∃ d, Im K H' x d ∧ Y i d)
abbrev RWk := Nat → (Eta → Prop) → (Nat → Dt → Prop) → Eta → Prop
def AIt (K : PySem.W.Frag) (wi : TI) (ρ : Rho) (η : Eta) (R : RWk) : Prop :=
  ∀ σ H (S : It → Hp → Prop), Vs K H σ ρ → HAb K H η → (∀ J n GE Y η1 H1, Kt K H H1 → HAb K H1 η1 → R n GE Y η1 → AWk K J H1 n GE Y → S J H1) → wi σ H S
def tWI (X : Cx) (tg iter : Expr) : TI := fun σ H R => ∀ (pins : List (Addr × Obj)) (s : Shared), Inv X pins σ H s → wpAny (model X.prog X.w) X.A (eval iter X.env) (fun v s1 => wpAny (model X.prog X.w) X.A (pyIter v) (PIE X pins σ tg R) X.xe s1) X.xe s
theorem piW (tg iter : Expr) : PI X tg iter (tWI X tg iter) := ⟨fun pins s σ H R I h => h pins s I⟩
structure AI (X : Cx) (tg iter : Expr) (ρ : Rho) (η : Eta) (R : RWk) : Prop where
  run : AIt X.K (tWI X tg iter) ρ η R
theorem AIt.of {tg iter : Expr} {wi : TI} {R : RWk} (h : PI X tg iter wi) (a : AIt X.K wi ρ η R) : AI X tg iter ρ η R := ⟨fun σ H S v b o pins s I => h.run pins s σ H S I (a σ H S v b o)⟩
theorem awk_list {p : Addr} {ds : List Dt} : AWk K (Itl K p) H ds.length (fun η => η p = some (.lst ds)) (fun i x => ds[i]? = some x) := by
  refine ⟨⟨fun i H2 hi g => ?_, fun H2 g => ?_, fun i H2 x H3 hi g y => ?_⟩⟩
  · obtain ⟨_, η, b, e⟩ := g
    obtain ⟨vs, h1, h2⟩ := b _ _ e
    exact ⟨vs, vs[i]'(h2.len ▸ hi), SqL.of h1, by simp⟩
  · obtain ⟨_, η, b, e⟩ := g
    obtain ⟨vs, h1, h2⟩ := b _ _ e
    exact ⟨vs, SqL.of h1, by rw [h2.len]; exact Nat.le_refl _⟩
  · obtain ⟨_, η, b, e⟩ := g
    obtain ⟨vs, h1, h2⟩ := b _ _ e
    obtain ⟨rfl, y⟩ := y
    obtain ⟨d, a1, a2⟩ := h2.getV i (y vs (SqL.of h1))
    exact ⟨Same.refl _, d, a2, a1⟩
theorem awk_tup {p : Addr} {xs : List V} {ds : List Dt} (hs : SqT K H p xs) (hi : Ims K H xs ds) : AWk K (Itt K p) H ds.length (fun _ => True) (fun i x => ds[i]? = some x) := by
  refine ⟨⟨fun i H2 hl g => ?_, fun H2 g => ?_, fun i H2 x H3 hl g y => ?_⟩⟩
  · exact ⟨xs, xs[i]'(hi.len ▸ hl), g.1 _ _ hs, by simp⟩
  · exact ⟨xs, g.1 _ _ hs, by rw [hi.len]; exact Nat.le_refl _⟩
  · obtain ⟨rfl, y⟩ := y
    obtain ⟨d, a1, a2⟩ := (hi.kt g.1).getV i (y xs (g.1 _ _ hs))
    exact ⟨Same.refl _, d, a2, a1⟩
theorem awk_range {lo : Int} {n : Nat} : AWk K (Itr lo n) H n (fun _ => True) (fun i x => x = .int (lo + i)) := by
  refine ⟨⟨fun i H2 hl g => hl, fun H2 g => Nat.le_refl _, fun i H2 x H3 hl g y => ?_⟩⟩
  obtain ⟨rfl, rfl⟩ := y
  exact ⟨Same.refl _, _, .int _, rfl⟩
theorem awk_str {z : Str} : AWk K (Its z) H z.cps.size (fun _ => True) (fun i x => ∃ c, z.cps[i]? = some c ∧ x = .str ⟨#[c]⟩) := by
  refine ⟨⟨fun i H2 hl g => hl, fun H2 g => Nat.le_refl _, fun i H2 x H3 hl g y => ?_⟩⟩
  obtain ⟨rfl, c, h1, rfl⟩ := y
  exact ⟨Same.refl _, _, .str _, c, h1, rfl⟩
theorem awk_enum {p : Addr} {ds : List Dt} : AWk K (Ite K p) H ds.length (fun η => η p = some (.lst ds)) (fun i x => ∃ y, ds[i]? = some y ∧ x = .tup [.int (i : Nat), y]) := by
  refine ⟨⟨fun i H2 hi g => ?_, fun H2 g => ?_, fun i H2 x H3 hi g y => ?_⟩⟩
  · obtain ⟨_, η, b, e⟩ := g
    obtain ⟨vs, h1, h2⟩ := b _ _ e
    exact ⟨vs, vs[i]'(h2.len ▸ hi), SqL.of h1, by simp⟩
  · obtain ⟨_, η, b, e⟩ := g
    obtain ⟨vs, h1, h2⟩ := b _ _ e
    exact ⟨vs, SqL.of h1, by rw [h2.len]; exact Nat.le_refl _⟩
  · obtain ⟨_, η, b, e⟩ := g
    obtain ⟨vs, h1, h2⟩ := b _ _ e
    obtain ⟨T, z, rfl, hT, rfl, y⟩ := y
    obtain ⟨d, a1, a2⟩ := h2.getV i (y vs (SqL.of h1))
    exact ⟨same_new hT, _, .tup (SqT.of upd_same) (.cons (.int _) (.cons (a2.kt (Kt.new hT)) .nil)), d, a1, rfl⟩
/-- enumerate of a tuple that stands -/
theorem ai_list {tg l : Expr} {R : RWk} (h : AE X l ρ η fun d η1 => ∃ p ds, d = .ref p ∧ η1 p = some (.lst ds) ∧ R ds.length (fun η => η p = some (.lst ds)) (fun i x => ds[i]? = some x) η1) : AI X tg l ρ η R := by
  refine AIt.of (pi_list (peW l)) ?_
  intro σ H S v b o
  refine h.run σ H _ v b fun d η1 x H1 k1 m1 b1 q1 => ?_
  obtain ⟨p, ds, rfl, e, q⟩ := q1
  obtain ⟨vs, h1, h2⟩ := b1 _ _ e
  exact ⟨p, m1.ref_inv, ⟨vs, SqL.of h1⟩, o _ _ _ _ η1 H1 k1 b1 q awk_list⟩
theorem ai_tup {tg l : Expr} {R : RWk} (h : AE X l ρ η fun d η1 => ∃ ds, d = .tup ds ∧ R ds.length (fun _ => True) (fun i x => ds[i]? = some x) η1) : AI X tg l ρ η R := by
  refine AIt.of (pi_tup (peW l)) ?_
  intro σ H S v b o
  refine h.run σ H _ v b fun d η1 x H1 k1 m1 b1 q1 => ?_
  obtain ⟨ds, rfl, q⟩ := q1
  obtain ⟨a, xs, rfl, hs, hi⟩ := m1.tup_inv
  exact ⟨a, rfl, ⟨xs, hs⟩, o _ _ _ _ η1 H1 k1 b1 q (awk_tup hs hi)⟩
theorem ai_str {tg l : Expr} {R : RWk} (h : AE X l ρ η fun d η1 => ∃ z, d = .str z ∧ R z.cps.size (fun _ => True) (fun i x => ∃ c, z.cps[i]? = some c ∧ x = .str ⟨#[c]⟩) η1) : AI X tg l ρ η R := by
  refine AIt.of (pi_str (peW l)) ?_
  intro σ H S v b o
  refine h.run σ H _ v b fun d η1 x H1 k1 m1 b1 q1 => ?_
  obtain ⟨z, rfl, q⟩ := q1
  exact ⟨z, m1.str_inv, o _ _ _ _ η1 H1 k1 b1 q awk_str⟩
theorem ai_range1 (A : At X N sc k) (B : Bt X) {tg a : Expr} {p pos : Pos} {R : RWk} (h : AE X a ρ η fun d η1 => ∃ j : Int, d = .int j ∧ -(2 ^ 62) ≤ j ∧ j < 2 ^ 62 ∧ R j.toNat (fun _ => True) (fun i x => x = .int (0 + i)) η1)
    (hg : sc.names.lookup ("range" : Str) = some .globalImplicit := by rfl) (hs : starEach [a] X.env = [(false, eval a X.env)] := by rfl) : AI X tg (.Call (.Name "range" p) [a] [] pos) ρ η R := by
  refine AIt.of (pi_range1 (A.gl hg) B.range (paW [a]) hs) ?_
  intro σ H S v b o
  refine (aa_cons (QA := fun ds η1 => ∃ j : Int, ds = [.int j] ∧ -(2 ^ 62) ≤ j ∧ j < 2 ^ 62 ∧ R j.toNat (fun _ => True) (fun i x => x = .int (0 + i)) η1) (h.mono fun d η1 q => ?_) hs).run σ H _ v b fun ds η1 xs H1 k1 m1 b1 q1 => ?_
  · obtain ⟨j, rfl, q⟩ := q
    exact aa_nil ⟨j, rfl, q⟩
  · obtain ⟨j, rfl, h1, h2, q⟩ := q1
    cases m1 with
    | cons a1 a2 =>
      cases a2
      exact ⟨j, by rw [a1.int_inv], h1, h2, o _ _ _ _ η1 H1 k1 b1 q awk_range⟩
theorem ai_range2 (A : At X N sc k) (B : Bt X) {tg a c : Expr} {p pos : Pos} {R : RWk} (h : AE X a ρ η fun d η1 => AE X c ρ η1 fun d2 η2 => ∃ i j : Int, d = .int i ∧ d2 = .int j ∧ (-(2 ^ 62) ≤ i ∧ i < 2 ^ 62 ∧ -(2 ^ 62) ≤ j ∧ j < 2 ^ 62) ∧ R (j - i).toNat (fun _ => True) (fun n x => x = .int (i + n)) η2)
    (hg : sc.names.lookup ("range" : Str) = some .globalImplicit := by rfl) (hs : starEach [a, c] X.env = [(false, eval a X.env), (false, eval c X.env)] := by rfl)
    (hs1 : starEach [a, c] X.env = (false, eval a X.env) :: starEach [c] X.env := by rfl) (hs2 : starEach [c] X.env = (false, eval c X.env) :: starEach [] X.env := by rfl) : AI X tg (.Call (.Name "range" p) [a, c] [] pos) ρ η R := by
  refine AIt.of (pi_range2 (A.gl hg) B.range (paW [a, c]) hs hs2) ?_
  intro σ H S v b o
  refine (aa_cons (QA := fun ds η1 => ∃ i j : Int, ds = [.int i, .int j] ∧ (-(2 ^ 62) ≤ i ∧ i < 2 ^ 62 ∧ -(2 ^ 62) ≤ j ∧ j < 2 ^ 62) ∧ R (j - i).toNat (fun _ => True) (fun n x => x = .int (i + n)) η1) (h.mono fun d η1 q => aa_cons (q.mono fun d2 η2 q2 => ?_) hs2) hs1).run σ H _ v b fun ds η1 xs H1 k1 m1 b1 q1 => ?_
  · obtain ⟨i, j, rfl, rfl, q⟩ := q2
    exact aa_nil ⟨i, j, rfl, q⟩
  · obtain ⟨i, j, rfl, h1, q⟩ := q1
    cases m1 with
    | cons a1 a2 =>
      cases a2 with
      | cons a3 a4 =>
        cases a4
        exact ⟨i, j, by rw [a1.int_inv, a3.int_inv], h1, o _ _ _ _ η1 H1 k1 b1 q awk_range⟩
theorem ai_enum (A : At X N sc k) (B : Bt X) {a : Expr} {p pos tpos : Pos} {elts : List Expr} {kk : Nat} {R : RWk} (h : AE X a ρ η fun d η1 => ∃ p ds, d = .ref p ∧ η1 p = some (.lst ds) ∧ R ds.length (fun η => η p = some (.lst ds)) (fun i x => ∃ y, ds[i]? = some y ∧ x = .tup [.int (i : Nat), y]) η1)
    (hg : sc.names.lookup ("enumerate" : Str) = some .globalImplicit := by rfl) (hs : starEach [a] X.env = [(false, eval a X.env)] := by rfl) : AI X (.Tuple elts kk tpos) (.Call (.Name "enumerate" p) [a] [] pos) ρ η R := by
  refine AIt.of (pi_enum (A.gl hg) B.enumerate (paW [a]) hs) ?_
  intro σ H S v b o
  refine (aa_cons (QA := fun ds η1 => ∃ q es, ds = [.ref q] ∧ η1 q = some (.lst es) ∧ R es.length (fun η => η q = some (.lst es)) (fun i x => ∃ y, es[i]? = some y ∧ x = .tup [.int (i : Nat), y]) η1) (h.mono fun d η1 q => ?_) hs).run σ H _ v b fun ds η1 xs H1 k1 m1 b1 q1 => ?_
  · obtain ⟨j, es, rfl, q⟩ := q
    exact aa_nil ⟨j, es, rfl, q⟩
  · obtain ⟨j, es, rfl, h1, q⟩ := q1
    obtain ⟨vs, c1, c2⟩ := b1 _ _ h1
    cases m1 with
    | cons a1 a2 =>
      cases a2
      exact ⟨j, vs, by rw [a1.ref_inv], SqL.of c1, o _ _ _ _ η1 H1 k1 b1 q awk_enum⟩

/-! ### loops -/
theorem as_for (A : At X N sc k) {tg iter : Expr} {body : List Stmt} {pos : Pos}
    (h : AI X tg iter ρ η fun n GE Y η1 => ∃ P : Nat → Rho → Eta → Prop, P 0 ρ η1 ∧ (∀ i ρ η, i ≤ n → P i ρ η → GE η) ∧
      (∀ i d ρ η, i < n → Y i d → P i ρ η → AG X tg d ρ η fun ρ2 η2 => ASs X body ρ2 η2 { E with nx := P (i + 1), ct := P (i + 1), bk := E.nx }) ∧ ∀ ρ η, P n ρ η → E.nx ρ η)
    (hs : ∀ x, foldedSetIterable iter X.env x = pure x := by intro _; rfl) : AS X (.For tg iter body [] pos) ρ η E := by
  refine ASt.of (ps_for A.pass A.calm (piW tg iter) (pgW tg) (pssW body) hs) ?_
  intro D σ H v b l
  refine h.run σ H _ v b fun J n GE Y η1 H1 k1 b1 q w => ?_
  obtain ⟨P, p0, pG, pS, pE⟩ := q
  refine for_it w.w (fun i σ' H' => ∃ ρ' η', Kt X.K H1 H' ∧ Vs X.K H' σ' ρ' ∧ HAb X.K H' η' ∧ P i ρ' η') ⟨ρ, η1, Kt.refl, v.kt k1, b1, p0⟩ ?_ ?_ ?_
  · rintro i σ' H' hi ⟨ρ', η', k', v', b', p'⟩
    exact ⟨k', η', b', pG i ρ' η' hi p'⟩
  · rintro i x σ' H' H2 hi ⟨ρ', η', k', v', b', p'⟩ ⟨sm, d, md, y⟩
    have k2 : Kt X.K H' H2 := Kt.same sm
    refine (pS i d ρ' η' hi y p').run x σ' H2 _ md (v'.kt k2) (b'.same sm) fun ρ3 η3 σ3 H3 k3 v3 b3 q3 => ?_
    have kk : Kt X.K H1 H3 := (k'.trans k2).trans k3
    refine q3.run _ σ3 H3 v3 b3 ⟨fun ρ4 η4 σ4 H4 k4 v4 b4 q4 => ⟨ρ4, η4, kk.trans k4, v4, b4, q4⟩, (l.kt ((k1.trans kk))).rt, fun ρ4 η4 σ4 H4 k4 v4 b4 q4 => l.nx ρ4 η4 σ4 H4 ((k1.trans kk).trans k4) v4 b4 q4, fun ρ4 η4 σ4 H4 k4 v4 b4 q4 => ⟨ρ4, η4, kk.trans k4, v4, b4, q4⟩⟩
  · rintro σ' H' ⟨ρ', η', k', v', b', p'⟩
    exact l.nx ρ' η' σ' H' (k1.trans k') v' b' (pE ρ' η' p')
theorem as_while (A : At X N sc k) {c : Expr} {body : List Stmt} {pos : Pos} (W : Nat → Rho → Eta → Prop) (m0 : Nat) (h0 : W m0 ρ η)
    (hs : ∀ m ρ η, W m ρ η → AT X c ρ η (fun η1 => ASs X body ρ η1 { E with nx := fun ρ2 η2 => ∃ m', m' < m ∧ W m' ρ2 η2, ct := fun ρ2 η2 => ∃ m', m' < m ∧ W m' ρ2 η2, bk := E.nx }) (fun η1 => E.nx ρ η1)) : AS X (.While c body [] pos) ρ η E := by
  refine ASt.of (ps_while A.pass (ptW c) (pssW body)) ?_
  intro D σ H v b l
  refine ⟨fun m σ' H' => ∃ ρ' η', Kt X.K H H' ∧ Vs X.K H' σ' ρ' ∧ HAb X.K H' η' ∧ W m ρ' η', ⟨m0, ρ, η, Kt.refl, v, b, h0⟩, ?_⟩
  rintro m σ' H' ⟨ρ', η', k', v', b', w'⟩
  refine (hs m ρ' η' w').run σ' H' _ v' b' fun t η1 H1 k1 b1 q => ?_
  have kk := k'.trans k1
  cases t with
  | true =>
    refine ⟨fun σ2 H2 => ∃ m', m' < m ∧ ∃ ρ2 η2, Kt X.K H H2 ∧ Vs X.K H2 σ2 ρ2 ∧ HAb X.K H2 η2 ∧ W m' ρ2 η2, fun σ2 H2 z => z, ?_⟩
    refine (q.1 rfl).run _ σ' H1 (v'.kt k1) b1 ⟨?_, (l.kt kk).rt, fun ρ4 η4 σ4 H4 k4 v4 b4 q4 => l.nx ρ4 η4 σ4 H4 (kk.trans k4) v4 b4 q4, ?_⟩
    · rintro ρ2 η2 σ2 H2 k2 v2 b2 ⟨m', h1, h2⟩
      exact ⟨m', h1, ρ2, η2, kk.trans k2, v2, b2, h2⟩
    · rintro ρ2 η2 σ2 H2 k2 v2 b2 ⟨m', h1, h2⟩
      exact ⟨m', h1, ρ2, η2, kk.trans k2, v2, b2, h2⟩
  | false => exact l.nx ρ' η1 σ' H1 kk (v'.kt k1) b1 (q.2 rfl)

/-! ### comprehensions -/
/-- a place within a comprehension -/
structure Blk (X X' : Cx) (scope : Scope) : Prop where
  ex : ∃ s H C cl fp, X' = X.blk s H scope (compEnvC scope cl C X.env) fp
theorem Blk.at {X' : Cx} {scope : Scope} (b : Blk X X' scope) (A : At X N sc k) : At X' N (relS scope sc) k := by
  obtain ⟨s, H, C, cl, fp, rfl⟩ := b.ex
  refine ⟨A.eN, A.nd, ?_, A.calm, A.room, PassesOwn.never⟩
  show relabel scope X.env = _
  rw [← A.eS]; rfl
theorem Blk.bt {X' : Cx} {scope : Scope} (b : Blk X X' scope) (B : Bt X) : Bt X' := by
  obtain ⟨s, H, C, cl, fp, rfl⟩ := b.ex
  exact ⟨B.len, B.abs, B.min, B.max, B.int, B.range, B.enumerate, B.list, B.tuple, B.dict, B.any⟩
def Wipes (g : TG) (vs : List Nat) : Prop := ∀ x σ H (R : L2.St → Hp → Prop), g x (wipe σ vs) H R → g x (wipe σ vs) H (fun σ2 H2 => wipe σ2 vs = wipe σ vs ∧ R σ2 H2)
theorem wipe_set1 {σ : L2.St} {i : Nat} {o : Option V} : ((σ.set i none).set i o).set i none = σ.set i none := by rw [List.set_set, List.set_set]
theorem wipes_name (i : Nat) : Wipes (gName i) [i] := fun x σ H R h => ⟨wipe_set1, h⟩
theorem wipes_pair (K : PySem.W.Frag) (i j : Nat) (hij : i ≠ j) : Wipes (gTup K 2 (gCons (gName i) (gCons (gName j) gNil))) [i, j] := by
  rintro x σ H R ⟨a, xs, rfl, hs, hl, v1, r1, rfl, v2, r2, rfl, rfl, q⟩
  refine ⟨a, _, rfl, hs, hl, v1, _, rfl, v2, _, rfl, rfl, ?_, q⟩
  show (((((σ.set j none).set i none).set i (some v1)).set j (some v2)).set j none).set i none = (σ.set j none).set i none
  apply List.ext_getElem?
  intro n
  simp only [List.getElem?_set, List.length_set]
  split <;> split <;> simp_all
theorem lt_line {n : Nat} (h : n ≤ 100000) : n < sizeLine := Nat.lt_of_le_of_lt h (by decide)
theorem ax_lc (A : At X N sc k) {elt tg iter : Expr} {scope : Scope} (own : List (Str × Nat)) (g : TG)
    (hw : Wipes g (own.map (·.2)))
    (h : AI X tg iter ρ η fun n GE Y η1 => n ≤ 100000 ∧ ∀ D, η1 D = none → ∃ P : Nat → List Dt → Eta → Prop, P 0 [] (up η1 D (.lst [])) ∧ (∀ i acc η, i ≤ n → P i acc η → GE η ∧ η D = some (.lst acc)) ∧
      (∀ i acc d η2, i < n → Y i d → acc.length = i → P i acc η2 → AGt X.K g d (wipeR ρ (own.map (·.2))) η2 fun ρ3 η3 => ∀ X', Blk X X' scope → AE X' elt ρ3 η3 fun e η4 => η4 D = some (.lst acc) ∧ P (i + 1) (acc ++ [e]) (up η4 D (.lst (acc ++ [e])))) ∧
      ∀ acc η2, acc.length = n → P n acc η2 → ∃ η0, Sub η0 η2 ∧ Q (.ref D) η0) : AX X.K (tLc (tWI X tg iter) g tYes (fun σ H R => ∀ X', Blk X X' scope → tW X' elt σ H R) (own.map (·.2))) ρ η Q := by
  intro σ H R v b o
  refine h.run σ H _ v b fun J n GE Y η1 H1 k1 b1 q w => ?_
  obtain ⟨hn, q⟩ := q
  intro D hD
  obtain ⟨P, p0, pG, pS, pE⟩ := q D (b1.free hD)
  have kD : Kt X.K H1 (upd H1 D (.lst [])) := Kt.new hD
  refine lc_it (g := g) (tt := tYes) (te := fun σ H R => ∀ X', Blk X X' scope → tW X' elt σ H R) (vs := own.map (·.2)) (σ := σ) (Qd := fun H' => R (.ref D) H') w.w (fun i H' => ∃ acc η', acc.length = i ∧ Kt X.K H1 H' ∧ HAb X.K H' η' ∧ P i acc η') ⟨[], _, rfl, kD, b1.newM (m := .lst []) hD ⟨[], upd_same, .nil⟩, p0⟩ ?_ ?_ ?_
  · rintro i H' hi ⟨acc, η', e', k', b', p'⟩
    exact ⟨k', η', b', (pG i acc η' hi p').1⟩
  · rintro i x H' H2 hi ⟨acc, η', e', k', b', p'⟩ ⟨sm, d, md, y⟩
    have k2 : Kt X.K H' H2 := Kt.same sm
    refine hw x σ H2 _ ?_
    refine pS i acc d η' hi y e' p' x _ H2 _ md ((v.kt (k1.trans (k'.trans k2))).wipe _) (b'.same sm) fun ρ3 η3 σ3 H3 k3 v3 b3 q3 => ?_
    unfold tYes
    dsimp only
    rw [if_pos rfl]
    intro X' hX
    have hK : X'.K = X.K := by obtain ⟨s, H, C, cl, fp, rfl⟩ := hX.ex; rfl
    have q3' : AX X'.K (tW X' elt) ρ3 η3 _ := (q3 X' hX).run
    rw [hK] at q3'
    refine q3' σ3 H3 _ v3 b3 ?_
    intro e η4 z H4 k4 m4 b4 q4
    obtain ⟨vs, h1, h2⟩ := b4 _ _ q4.1
    have hlen : vs.length = i := h2.len.trans e'
    have k5 : Kt X.K H4 (upd H4 D (.lst (vs ++ [z]))) := Kt.lst h1
    exact ⟨vs, h1, by rw [hlen]; exact lt_line (by omega), acc ++ [e], _, by simp [e'], (((k'.trans k2).trans k3).trans k4).trans k5, b4.mut (m := .lst (acc ++ [e])) k5 ⟨_, upd_same, (h2.app (.cons m4 .nil)).kt k5⟩, q4.2⟩
  · rintro H' ⟨acc, η', e', k', b', p'⟩
    obtain ⟨η0, s0, q0⟩ := pE acc η' e' p'
    exact o (.ref D) η0 _ H' (k1.trans k') (.ref D) (b'.sub s0) q0
/-- with a condition -/
theorem ax_lcF (A : At X N sc k) {elt tg iter cond : Expr} {scope : Scope} (own : List (Str × Nat)) (g : TG)
    (hw : Wipes g (own.map (·.2)))
    (h : AI X tg iter ρ η fun n GE Y η1 => n ≤ 100000 ∧ ∀ D, η1 D = none → ∃ P : Nat → List Dt → Eta → Prop, P 0 [] (up η1 D (.lst [])) ∧ (∀ i acc η, i ≤ n → P i acc η → GE η ∧ η D = some (.lst acc)) ∧
      (∀ i acc d η2, i < n → Y i d → acc.length ≤ i → P i acc η2 → AGt X.K g d (wipeR ρ (own.map (·.2))) η2 fun ρ3 η3 => ∀ X', Blk X X' scope →
        AT X' cond ρ3 η3 (fun η4 => ∀ X2, Blk X X2 scope → AE X2 elt ρ3 η4 fun e η5 => η5 D = some (.lst acc) ∧ P (i + 1) (acc ++ [e]) (up η5 D (.lst (acc ++ [e])))) (fun η4 => P (i + 1) acc η4)) ∧
      ∀ acc η2, acc.length ≤ n → P n acc η2 → ∃ η0, Sub η0 η2 ∧ Q (.ref D) η0) : AX X.K (tLc (tWI X tg iter) g (fun σ H R => ∀ X', Blk X X' scope → tWT X' cond σ H R) (fun σ H R => ∀ X', Blk X X' scope → tW X' elt σ H R) (own.map (·.2))) ρ η Q := by
  intro σ H R v b o
  refine h.run σ H _ v b fun J n GE Y η1 H1 k1 b1 q w => ?_
  obtain ⟨hn, q⟩ := q
  intro D hD
  obtain ⟨P, p0, pG, pS, pE⟩ := q D (b1.free hD)
  have kD : Kt X.K H1 (upd H1 D (.lst [])) := Kt.new hD
  refine lc_it (g := g) (tt := fun σ H R => ∀ X', Blk X X' scope → tWT X' cond σ H R) (te := fun σ H R => ∀ X', Blk X X' scope → tW X' elt σ H R) (vs := own.map (·.2)) (σ := σ) (Qd := fun H' => R (.ref D) H') w.w (fun i H' => ∃ acc η', acc.length ≤ i ∧ Kt X.K H1 H' ∧ HAb X.K H' η' ∧ P i acc η') ⟨[], _, Nat.le_refl _, kD, b1.newM (m := .lst []) hD ⟨[], upd_same, .nil⟩, p0⟩ ?_ ?_ ?_
  · rintro i H' hi ⟨acc, η', e', k', b', p'⟩
    exact ⟨k', η', b', (pG i acc η' hi p').1⟩
  · rintro i x H' H2 hi ⟨acc, η', e', k', b', p'⟩ ⟨sm, d, md, y⟩
    have k2 : Kt X.K H' H2 := Kt.same sm
    refine hw x σ H2 _ ?_
    refine pS i acc d η' hi y e' p' x _ H2 _ md ((v.kt (k1.trans (k'.trans k2))).wipe _) (b'.same sm) fun ρ3 η3 σ3 H3 k3 v3 b3 q3 => ?_
    intro X' hX
    have hK : X'.K = X.K := by obtain ⟨s, H, C, cl, fp, rfl⟩ := hX.ex; rfl
    have q3' : ATt X'.K (tWT X' cond) ρ3 η3 _ := (q3 X' hX).run
    rw [hK] at q3'
    refine q3' σ3 H3 _ v3 b3 ?_
    intro c η4 H4 k4 b4 q4
    cases c with
    | false =>
      rw [if_neg (by decide)]
      exact ⟨acc, η4, by omega, ((k'.trans k2).trans k3).trans k4, b4, q4.2 rfl⟩
    | true =>
      rw [if_pos rfl]
      intro X2 hX2
      have hK2 : X2.K = X.K := by obtain ⟨s, H, C, cl, fp, rfl⟩ := hX2.ex; rfl
      have q4' : AX X2.K (tW X2 elt) ρ3 η4 _ := (q4.1 rfl X2 hX2).run
      rw [hK2] at q4'
      refine q4' σ3 H4 _ (v3.kt k4) b4 ?_
      intro e η5 z H5 k5 m5 b5 q5
      obtain ⟨vs, h1, h2⟩ := b5 _ _ q5.1
      have hlen : vs.length ≤ i := by rw [h2.len]; exact e'
      have k6 : Kt X.K H5 (upd H5 D (.lst (vs ++ [z]))) := Kt.lst h1
      exact ⟨vs, h1, lt_line (by omega), acc ++ [e], _, by simp; omega, ((((k'.trans k2).trans k3).trans k4).trans k5).trans k6, b5.mut (m := .lst (acc ++ [e])) k6 ⟨_, upd_same, (h2.app (.cons m5 .nil)).kt k6⟩, q5.2⟩
  · rintro H' ⟨acc, η', e', k', b', p'⟩
    obtain ⟨η0, s0, q0⟩ := pE acc η' e' p'
    exact o (.ref D) η0 _ H' (k1.trans k') (.ref D) (b'.sub s0) q0
/-! ready forms: the item alone is told -/
theorem agt_name {i : Nat} {d : Dt} {Q : Rho → Eta → Prop} (q : Q (ρ.set i (some d)) η) : AGt K (gName i) d ρ η Q := fun v σ H R m vs b o => o _ η _ H Kt.refl (vs.set i m) b q
theorem agt_pair {i j : Nat} {d e : Dt} {Q : Rho → Eta → Prop} (q : Q ((ρ.set i (some d)).set j (some e)) η) : AGt K (gTup K 2 (gCons (gName i) (gCons (gName j) gNil))) (.tup [d, e]) ρ η Q := by
  intro v σ H R m vs b o
  cases m with
  | @tup a xs _ hs hi =>
    cases hi with
    | @cons x _ _ _ m1 m2 =>
      cases m2 with
      | @cons y _ _ _ m3 m4 =>
        cases m4
        exact ⟨a, [x, y], rfl, hs, rfl, x, [y], rfl, y, [], rfl, rfl, o _ η _ H Kt.refl ((vs.set i m1).set j m3) b q⟩
theorem ax_lcG (A : At X N sc k) {elt tg iter : Expr} {scope : Scope} (own : List (Str × Nat)) (g : TG)
    (hw : Wipes g (own.map (·.2)))
    (h : AI X tg iter ρ η fun n GE Y η1 => n ≤ 100000 ∧ (∀ η η', Sub η η' → GE η → GE η') ∧ GE η1 ∧ ∃ F : Nat → Dt → Prop,
      (∀ j d D acc, j < n → Y j d → η1 D = none → acc.length = j → AGt X.K g d (wipeR ρ (own.map (·.2))) (up η1 D (.lst acc)) fun ρ3 η3 => η3 = up η1 D (.lst acc) ∧ ∀ X', Blk X X' scope → AE X' elt ρ3 η3 fun e η4 => Sub η3 η4 ∧ F j e) ∧
      ∀ D acc, η1 D = none → acc.length = n → (∀ (j : Nat) (e : Dt), acc[j]? = some e → F j e) → Q (.ref D) (up η1 D (.lst acc))) : AX X.K (tLc (tWI X tg iter) g tYes (fun σ H R => ∀ X', Blk X X' scope → tW X' elt σ H R) (own.map (·.2))) ρ η Q := by
  refine ax_lc A own g hw ⟨?_⟩
  intro σ H S v b o
  refine h.run σ H S v b fun J n GE Y η1 H1 k1 b1 q w => o J n GE Y η1 H1 k1 b1 ?_ w
  obtain ⟨hn, mG, hG, F, hS, hE⟩ := q
  refine ⟨hn, fun D hD => ⟨fun j acc η' => Sub (up η1 D (.lst acc)) η' ∧ GE η' ∧ ∀ (i : Nat) (e : Dt), acc[i]? = some e → F i e, ?_, ?_, ?_, ?_⟩⟩
  · exact ⟨Sub.refl, mG _ _ (Sub.up hD) hG, fun i e h => by simp at h⟩
  · rintro i acc η' hi ⟨s, ge, _⟩
    exact ⟨ge, s _ _ up_same⟩
  · rintro i acc d η' hi y hl ⟨s, ge, hF⟩
    intro x σ' H' R m vs bb oo
    refine hS i d D acc hi y hD hl x σ' H' R m vs (bb.sub s) fun ρ3 η3 σ3 H3 k3 v3 b3 q3 => ?_
    refine oo ρ3 η3 σ3 H3 k3 v3 b3 fun X' hX => (q3.2 X' hX).mono fun e η4 q4 => ?_
    have e3 := q3.1
    subst e3
    have s1 : Sub η1 η4 := (Sub.up hD).trans q4.1
    refine ⟨q4.1 _ _ up_same, sub_both s1, mG _ _ (s1.up' hD) hG, fun j x hj => ?_⟩
    by_cases hlt : j < acc.length
    · rw [List.getElem?_append_left hlt] at hj; exact hF j x hj
    · have hje : j = acc.length := by
        have := (List.getElem?_eq_some_iff.mp hj).1
        simp at this; omega
      subst hje
      simp at hj
      subst hj
      rw [hl]; exact q4.2
  · rintro acc η' hl ⟨s, ge, hF⟩
    exact ⟨_, s, hE D acc hD hl hF⟩
theorem pe_lcW (A : At X N sc k) {elt tg iter : Expr} {scope : Scope} {pos : Pos} (own : List (Str × Nat)) (g : TG) (hg : ∀ X', Blk X X' scope → PG X' tg g) (hb : blkC N sc scope own = true)
    (hs : ∀ x, foldedSetIterable iter X.env x = pure x) : PE X (.ListComp elt [⟨tg, iter, [], 0⟩] scope pos) (tLc (tWI X tg iter) g tYes (fun σ H R => ∀ X', Blk X X' scope → tW X' elt σ H R) (own.map (·.2))) :=
  pe_lc (own := own) (g := g) (tt := tYes) A.calm (by rw [A.eN]; exact A.nd) (piW tg iter) (by rw [A.eN, A.eS]; exact blkOk_by hb)
    (fun s H C cl fp => hg _ ⟨s, H, C, cl, fp, rfl⟩) (fun _ _ _ _ _ => pts_nil) (fun s H C cl fp => ⟨fun pins s' σ H' Q' I h => h _ ⟨s, H, C, cl, fp, rfl⟩ pins s' I⟩) hs
theorem pe_lcFW (A : At X N sc k) {elt tg iter cond : Expr} {scope : Scope} {pos : Pos} (own : List (Str × Nat)) (g : TG) (hg : ∀ X', Blk X X' scope → PG X' tg g) (hb : blkC N sc scope own = true)
    (hs : ∀ x, foldedSetIterable iter X.env x = pure x) : PE X (.ListComp elt [⟨tg, iter, [cond], 0⟩] scope pos) (tLc (tWI X tg iter) g (fun σ H R => ∀ X', Blk X X' scope → tWT X' cond σ H R) (fun σ H R => ∀ X', Blk X X' scope → tW X' elt σ H R) (own.map (·.2))) :=
  pe_lc (own := own) (g := g) A.calm (by rw [A.eN]; exact A.nd) (piW tg iter) (by rw [A.eN, A.eS]; exact blkOk_by hb)
    (fun s H C cl fp => hg _ ⟨s, H, C, cl, fp, rfl⟩) (fun s H C cl fp => pts_one ⟨fun pins s' σ H' Q' I h => h _ ⟨s, H, C, cl, fp, rfl⟩ pins s' I⟩) (fun s H C cl fp => ⟨fun pins s' σ H' Q' I h => h _ ⟨s, H, C, cl, fp, rfl⟩ pins s' I⟩) hs
/-- y = [..] -/
theorem ps_lcW (A : At X N sc k) {i : Nat} {y : Str} {py spos : Pos} {elt tg iter : Expr} {scope : Scope} {pos : Pos} (own : List (Str × Nat)) (g : TG) (hy : N[i]? = some y) (hyl : sc.names.lookup y = some .local) (hsw : swapsWith (.ListComp elt [⟨tg, iter, [], 0⟩] scope pos) (some (.Name y py)) spos.line X.env = pure true)
    (hg : ∀ X', Blk X X' scope → PG X' tg g) (hb : blkC N sc scope own = true) (hs : ∀ x, foldedSetIterable iter X.env x = pure x) :
    PS X (.Assign [.Name y py] (.ListComp elt [⟨tg, iter, [], 0⟩] scope pos) spos) (tAsg (tLc (tWI X tg iter) g tYes (fun σ H R => ∀ X', Blk X X' scope → tW X' elt σ H R) (own.map (·.2))) (gName i)) :=
  ps_setLc (i := i) (own := own) (g := g) (tt := tYes) A.calm (by rw [A.eN]; exact A.nd) (by rw [A.eN]; exact hy) (by rw [A.eS]; exact hyl) hsw (piW tg iter) (by rw [A.eN, A.eS]; exact blkOk_by hb)
    (fun s H C cl fp => hg _ ⟨s, H, C, cl, fp, rfl⟩) (fun _ _ _ _ _ => pts_nil) (fun s H C cl fp => ⟨fun pins s' σ H' Q' I h => h _ ⟨s, H, C, cl, fp, rfl⟩ pins s' I⟩) hs
theorem as_lcW {t : TE} {i : Nat} {st : Stmt} (h : PS X st (tAsg t (gName i))) (a : AX X.K t ρ η fun d η1 => E.nx (ρ.set i (some d)) η1) : AS X st ρ η E := by
  refine ASt.of h ?_
  intro D σ H v b l
  exact a σ H _ v b fun d η1 y H1 k1 m1 b1 q1 => l.nx _ η1 _ H1 k1 ((v.kt k1).set i m1) b1 q1
end FgA
/-! FgA4: comparisons, subscripts, slices, built-ins by name, calls of the program's own defs. -/
namespace FgA
open PySem PySem.Spec PyProof.Rows L2
variable {X : Cx} {K : PySem.W.Frag} {H H' : Hp} {ρ : Rho} {η : Eta} {Q : Dt → Eta → Prop} {E : AEnds} {N : List Str} {sc : Scope} {k : Nat} {T F : Eta → Prop}

/-! ### data as the library's data -/
mutual
def py : Dt → PyData
  | .non => .none
  | .bl b => .bool b
  | .int i => .int i
  | .str x => .str x
  | .tup l => .tuple (pys l)
  | .ref _ => .none
def pys : List Dt → List PyData
  | [] => []
  | d :: ds => py d :: pys ds
end
/-- plain data of a depth: no truth values, no addresses -/
def okd : Nat → Dt → Bool
  | _, .non => true
  | _, .bl _ => false
  | _, .int _ => true
  | _, .str x => (PyData.str x).canLay0
  | 0, .tup _ => false
  | n + 1, .tup l => l.all (okd n)
  | _, .ref _ => false
theorem pys_map : ∀ l : List Dt, pys l = l.map py
  | [] => rfl
  | d :: ds => by rw [pys, pys_map ds, List.map_cons]
mutual
theorem Im.dp : ∀ {v : V} {d : Dt} {n : Nat}, Im K H v d → okd n d = true → Dp K H v (py d)
  | _, _, _, .non, _ => .non
  | _, _, _, .bl b, _ => .bl b
  | _, _, _, .int i, _ => .int i
  | _, _, _, .str x, _ => .str x
  | _, _, n, .ref p, h => by cases n <;> simp [okd] at h
  | _, _, 0, .tup hs hi, h => by simp [okd] at h
  | _, _, n + 1, .tup hs hi, h => .tup hs (Ims.dps hi (by simpa [okd] using h))
theorem Ims.dps : ∀ {v : List V} {d : List Dt} {n : Nat}, Ims K H v d → (∀ x ∈ d, okd n x = true) → DpAll K H v (pys d)
  | _, _, _, .nil, _ => .nil
  | _, _, _, .cons a b, h => .cons (Im.dp a (h _ (List.mem_cons_self ..))) (Ims.dps b fun x hx => h x (List.mem_cons_of_mem _ hx))
end
theorem okd_lay : ∀ (n : Nat) (d : Dt), okd n d = true → (py d).canLay0 = true ∧ (py d).depth ≤ n := by
  intro n
  induction n with
  | zero =>
    intro d h
    cases d <;> simp_all [okd, py, PyData.canLay0, PyData.depth]
  | succ n ih =>
    intro d h
    cases d with
    | tup l =>
      simp only [okd, List.all_eq_true] at h
      have : ∀ l : List Dt, (∀ x ∈ l, okd n x = true) → PyData.canLayAll0 (pys l) = true ∧ PyData.depthAll (pys l) ≤ n := by
        intro l
        induction l with
        | nil => intro _; simp [pys, PyData.canLayAll0, PyData.depthAll]
        | cons x xs ihx =>
          intro hx
          obtain ⟨a1, a2⟩ := ih x (hx x (List.mem_cons_self ..))
          obtain ⟨b1, b2⟩ := ihx fun y hy => hx y (List.mem_cons_of_mem _ hy)
          simp only [pys, PyData.canLayAll0, PyData.depthAll, a1, b1, Bool.and_self, true_and]
          omega
      obtain ⟨q1, q2⟩ := this l h
      simp only [py, PyData.canLay0, PyData.depth, q1, true_and]
      omega
    | _ => simp_all [okd, py, PyData.canLay0, PyData.depth]
theorem okd_shaped {n : Nat} {d : Dt} (h : okd n d = true) (hn : n ≤ 64) : SeqAt.shaped (py d) = true := by
  obtain ⟨a, b⟩ := okd_lay n d h
  simp only [SeqAt.shaped, a, Bool.true_and, decide_eq_true_eq]
  omega
theorem eqv_dt : ∀ (n m : Nat) (d e : Dt), okd n d = true → okd m e = true → (PyData.eqv (py d) (py e) = true ↔ d = e) := by
  intro n
  induction n with
  | zero =>
    intro m d e h h'
    cases d <;> cases e <;> simp_all [okd, py, PyData.eqv]
  | succ n ih =>
    intro m d e h h'
    cases d with
    | tup l =>
      cases e with
      | tup l' =>
        cases m with
        | zero => simp [okd] at h'
        | succ m =>
          simp only [okd, List.all_eq_true] at h h'
          simp only [py, PyData.eqv, Dt.tup.injEq]
          have : ∀ l l' : List Dt, (∀ x ∈ l, okd n x = true) → (∀ x ∈ l', okd m x = true) → (PyData.eqvAll (pys l) (pys l') = true ↔ l = l') := by
            intro l
            induction l with
            | nil => intro l' _ _; cases l' <;> simp [pys, PyData.eqvAll]
            | cons x xs ihx =>
              intro l' hx hy
              cases l' with
              | nil => simp [pys, PyData.eqvAll]
              | cons y ys =>
                simp only [pys, PyData.eqvAll, Bool.and_eq_true, List.cons.injEq]
                rw [ih m x y (hx x (List.mem_cons_self ..)) (hy y (List.mem_cons_self ..)), ihx ys (fun z hz => hx z (List.mem_cons_of_mem _ hz)) (fun z hz => hy z (List.mem_cons_of_mem _ hz))]
          exact this l l' h h'
      | _ => simp_all [okd, py, PyData.eqv]
    | _ => cases e <;> simp_all [okd, py, PyData.eqv]

/-! ### comparisons -/
/-- equal or not, of plain data -/
def Cmpr (d e : Dt) : Prop := ∃ n m, n ≤ 64 ∧ m ≤ 64 ∧ okd n d = true ∧ okd m e = true
theorem cmpr_of {d e : Dt} (h : okd 4 d = true) (h' : okd 4 e = true) : Cmpr d e := ⟨4, 4, by decide, by decide, h, h'⟩
theorem at_cmpr {op : CmpOp} {r : R2} {a b : Expr} {pos : Pos} (ho : OpR X (compareOp op) r) (hm : behindInMarks op b = false)
    (h : AE X a ρ η fun d η1 => AE X b ρ η1 fun e η2 => AR X.K r d e η2 fun z η3 => ∃ c, z = .bl c ∧ (c = true → T η3) ∧ (c = false → F η3)) : AT X (.Compare a [op] [b] pos) ρ η T F := by
  refine ATt.of (pt_cmpR ho (peW a) (peW b) hm) ?_
  intro σ H R v b o
  refine ax_op (h.run.mono fun d η1 q => q.run) σ H _ v b fun d η1 x H1 k1 m1 b1 q1 => ?_
  obtain ⟨c, rfl, q⟩ := q1
  exact ⟨c, m1.bl_inv, o c η1 H1 k1 b1 q⟩
theorem ar_eq {d e : Dt} (c : Cmpr d e) (q : ∀ b : Bool, (b = true ↔ d = e) → Q (.bl b) η) : AR K (rEqD K) d e η Q := by
  intro x y H R mx my b o
  obtain ⟨n, m, hn, hm, h1, h2⟩ := c
  exact ⟨_, _, mx.dp h1, my.dp h2, okd_shaped h1 hn, okd_shaped h2 hm, o _ η _ H Kt.refl (.bl _) b (q _ (eqv_dt n m d e h1 h2))⟩
theorem ar_ne {d e : Dt} (c : Cmpr d e) (q : ∀ b : Bool, (b = true ↔ d ≠ e) → Q (.bl b) η) : AR K (rNeD K) d e η Q := by
  intro x y H R mx my b o
  obtain ⟨n, m, hn, hm, h1, h2⟩ := c
  refine ⟨_, _, mx.dp h1, my.dp h2, okd_shaped h1 hn, okd_shaped h2 hm, o _ η _ H Kt.refl (.bl _) b (q _ ?_)⟩
  have := eqv_dt n m d e h1 h2
  cases z : PyData.eqv (py d) (py e) <;> simp_all
theorem at_eq (A : At X N sc k) {a b : Expr} {pos : Pos} (h : AE X a ρ η fun d η1 => AE X b ρ η1 fun e η2 => Cmpr d e ∧ (d = e → T η2) ∧ (d ≠ e → F η2)) : AT X (.Compare a [.Eq] [b] pos) ρ η T F :=
  at_cmpr (op_eqD A.hu) (nomark _) (h.mono fun d η1 q => q.mono fun e η2 q2 => ar_eq q2.1 fun c hc => ⟨c, rfl, fun z => q2.2.1 (hc.mp z), fun z => q2.2.2 fun y => by rw [hc.mpr y] at z; cases z⟩)
theorem at_ne (A : At X N sc k) {a b : Expr} {pos : Pos} (h : AE X a ρ η fun d η1 => AE X b ρ η1 fun e η2 => Cmpr d e ∧ (d ≠ e → T η2) ∧ (d = e → F η2)) : AT X (.Compare a [.NotEq] [b] pos) ρ η T F :=
  at_cmpr (op_neD A.hu) (nomark _) (h.mono fun d η1 q => q.mono fun e η2 q2 => ar_ne q2.1 fun c hc => ⟨c, rfl, fun z => q2.2.1 (hc.mp z), fun z => q2.2.2 (Classical.byContradiction fun y => by rw [hc.mpr y] at z; cases z)⟩)
theorem ae_eq (A : At X N sc k) {a b : Expr} {pos : Pos} (h : AE X a ρ η fun d η1 => AE X b ρ η1 fun e η2 => Cmpr d e ∧ ∀ c : Bool, (c = true ↔ d = e) → Q (.bl c) η2) : AE X (.Compare a [.Eq] [b] pos) ρ η Q :=
  AX.of (pe_cmpR (op_eqD A.hu) (peW a) (peW b) (nomark _)) (ax_op (h.run.mono fun d η1 q => q.run.mono fun e η2 q2 => ar_eq q2.1 q2.2))
theorem ae_ne (A : At X N sc k) {a b : Expr} {pos : Pos} (h : AE X a ρ η fun d η1 => AE X b ρ η1 fun e η2 => Cmpr d e ∧ ∀ c : Bool, (c = true ↔ d ≠ e) → Q (.bl c) η2) : AE X (.Compare a [.NotEq] [b] pos) ρ η Q :=
  AX.of (pe_cmpR (op_neD A.hu) (peW a) (peW b) (nomark _)) (ax_op (h.run.mono fun d η1 q => q.run.mono fun e η2 q2 => ar_ne q2.1 q2.2))
theorem at_ii {op : CmpOp} {a b : Expr} {pos : Pos} {p : Int → Int → Prop} [∀ i j, Decidable (p i j)] (ho : OpR X (compareOp op) (rI0 fun i j => .bl (decide (p i j)))) (hm : behindInMarks op b = false)
    (h : AE X a ρ η fun d η1 => AE X b ρ η1 fun e η2 => ∃ i j, d = .int i ∧ e = .int j ∧ (p i j → T η2) ∧ (¬ p i j → F η2)) : AT X (.Compare a [op] [b] pos) ρ η T F := by
  refine at_cmpr ho hm (h.mono fun d η1 q => q.mono fun e η2 q2 => ?_)
  obtain ⟨i, j, rfl, rfl, q⟩ := q2
  refine ar_ii0 (g' := fun i j => .bl (decide (p i j))) (fun _ _ _ => .bl _) ⟨trivial, _, rfl, fun z => q.1 (of_decide_eq_true z), fun z => q.2 (of_decide_eq_false z)⟩
theorem at_lt {a b : Expr} {pos : Pos} (h : AE X a ρ η fun d η1 => AE X b ρ η1 fun e η2 => ∃ i j, d = .int i ∧ e = .int j ∧ (i < j → T η2) ∧ (¬ i < j → F η2)) : AT X (.Compare a [.Lt] [b] pos) ρ η T F := at_ii op_lt (nomark _) h
theorem at_le {a b : Expr} {pos : Pos} (h : AE X a ρ η fun d η1 => AE X b ρ η1 fun e η2 => ∃ i j, d = .int i ∧ e = .int j ∧ (i ≤ j → T η2) ∧ (¬ i ≤ j → F η2)) : AT X (.Compare a [.LtE] [b] pos) ρ η T F := at_ii op_le (nomark _) h
theorem at_gt {a b : Expr} {pos : Pos} (h : AE X a ρ η fun d η1 => AE X b ρ η1 fun e η2 => ∃ i j, d = .int i ∧ e = .int j ∧ (j < i → T η2) ∧ (¬ j < i → F η2)) : AT X (.Compare a [.Gt] [b] pos) ρ η T F := at_ii (p := fun i j => j < i) op_gt (nomark _) h
theorem at_ge {a b : Expr} {pos : Pos} (h : AE X a ρ η fun d η1 => AE X b ρ η1 fun e η2 => ∃ i j, d = .int i ∧ e = .int j ∧ (j ≤ i → T η2) ∧ (¬ j ≤ i → F η2)) : AT X (.Compare a [.GtE] [b] pos) ρ η T F := at_ii (p := fun i j => j ≤ i) op_ge (nomark _) h
theorem Im.non_iff {v : V} {d : Dt} (h : Im K H v d) : v = .non ↔ d = .non := by cases h <;> simp
theorem at_isN {a : Expr} {j pos' pos} (h : AE X a ρ η fun d η1 => (d = .non → T η1) ∧ (d ≠ .non → F η1)) : AT X (.Compare a [.Is] [.Constant .none j pos'] pos) ρ η T F := by
  refine ATt.of (pt_cmp (pc_isN (peW a)) rfl) ?_
  intro σ H R v b o
  refine h.run σ H _ v b fun d η1 x H1 k1 m1 b1 q1 => ?_
  refine ⟨_, rfl, o _ η1 H1 k1 b1 ⟨fun z => q1.1 (m1.non_iff.mp (of_decide_eq_true z)), fun z => q1.2 fun y => of_decide_eq_false z (m1.non_iff.mpr y)⟩⟩
theorem at_notN {a : Expr} {j pos' pos} (h : AE X a ρ η fun d η1 => (d ≠ .non → T η1) ∧ (d = .non → F η1)) : AT X (.Compare a [.IsNot] [.Constant .none j pos'] pos) ρ η T F := by
  refine ATt.of (pt_cmp (pc_notN (peW a)) rfl) ?_
  intro σ H R v b o
  refine h.run σ H _ v b fun d η1 x H1 k1 m1 b1 q1 => ?_
  refine ⟨_, rfl, o _ η1 H1 k1 b1 ⟨fun z => q1.1 fun y => ?_, fun z => q1.2 ?_⟩⟩
  · rw [decide_eq_true (m1.non_iff.mpr y)] at z; cases z
  · refine m1.non_iff.mp (Classical.byContradiction fun y => ?_)
    rw [decide_eq_false y] at z; cases z

/-! ### subscripts -/
/-- a mutable thing's item -/
inductive GetOk : Mo → Dt → Dt → Prop
  | lst {ds : List Dt} {i : Int} {x : Dt} : atI ds i = some x → GetOk (.lst ds) (.int i) x
  | rl {ds : List Dt} {i : Int} {x : Dt} : atI ds i = some x → GetOk (.rl ds) (.int i) x
inductive subD (η : Eta) (Q : Dt → Eta → Prop) : Dt → Dt → Prop
  | tup {l : List Dt} {i : Int} {x : Dt} : atI l i = some x → Q x η → subD η Q (.tup l) (.int i)
  | str {z : Str} {i : Int} {c : Nat} : z.length ≤ sizeLine → atI z.cps.toList i = some c → Q (.str ⟨#[c]⟩) η → subD η Q (.str z) (.int i)
  | ref {p : Addr} {m : Mo} {d x : Dt} : η p = some m → GetOk m d x → Q x η → subD η Q (.ref p) d
theorem Ims.atI {xs : List V} {ds : List Dt} (h : Ims K H xs ds) {i : Int} {d : Dt} (e : atI ds i = some d) : ∃ v, L2.atI xs i = some v ∧ Im K H v d := by
  obtain ⟨j, h1, h2, h3, h4, h5⟩ := atI_get e
  unfold L2.atI at e ⊢
  rw [h.len]
  cases z : ixN ds.length i with
  | none => rw [z] at e; cases e
  | some j =>
    rw [z] at e
    obtain ⟨v, a, b⟩ := h.get j e
    exact ⟨v, a, b⟩
theorem ar_sub {d e : Dt} (h : subD η Q d e) : AR K (rIx K) d e η Q := by
  intro x y H R mx my b o
  cases h with
  | @tup l i z h1 h2 =>
    obtain ⟨a, xs, rfl, hs, hi⟩ := mx.tup_inv
    obtain ⟨v, c1, c2⟩ := hi.atI h1
    exact .inr (.inl ⟨a, xs, i, v, rfl, my.int_inv, hs, c1, o _ η _ H Kt.refl c2 b h2⟩)
  | @str z i c h0 h1 h2 => exact .inr (.inr ⟨z, i, c, mx.str_inv, my.int_inv, h0, h1, o _ η _ H Kt.refl (.str _) b h2⟩)
  | @ref p m e z h1 h2 h3 =>
    have hm := b _ _ h1
    cases h2 with
    | @lst ds i _ c1 =>
      obtain ⟨vs, a1, a2⟩ := hm
      obtain ⟨v, c3, c4⟩ := a2.atI c1
      exact .inl ⟨p, vs, i, v, mx.ref_inv, my.int_inv, SqL.of a1, c3, o _ η _ H Kt.refl c4 b h3⟩
    | @rl ds i _ c1 =>
      obtain ⟨o', vs, a1, a2⟩ := hm
      obtain ⟨v, c3, c4⟩ := a2.atI c1
      exact .inl ⟨p, vs, i, v, mx.ref_inv, my.int_inv, .inl (.inr ⟨o', a1⟩), c3, o _ η _ H Kt.refl c4 b h3⟩
theorem ae_sub' {a b : Expr} {pos : Pos} (h : AE X a ρ η fun d η1 => AE X b ρ η1 fun e η2 => subD η2 Q d e) (hs : PlainIx b := by intro _ _; rfl) : AE X (.Subscript a b pos) ρ η Q :=
  AX.of (pe_ix ix_seq (peW a) (peW b) hs) (ax_op (h.run.mono fun d η1 q => q.run.mono fun e η2 q2 => ar_sub q2))
/-! slices of lists -/
def cutD {α : Type} (xs : List α) (lo hi : Option Int) : List α := (xs.drop (HT.sIx xs.length 0 lo)).take (HT.sIx xs.length xs.length hi - HT.sIx xs.length 0 lo)
def AO (X : Cx) (e : Option Expr) (ρ : Rho) (η : Eta) (Q : Option Int → Eta → Prop) : Prop :=
  match e with
  | none => Q none η
  | some a => AE X a ρ η fun d η1 => ∃ i, d = .int i ∧ Q (some i) η1
theorem po_of (e : Option Expr) : ∃ t : TO, PO X e t ∧ ∀ (ρ : Rho) (η : Eta) (Q : Option Int → Eta → Prop), AO X e ρ η Q → ∀ σ H (R : Option Int → Hp → Prop), Vs X.K H σ ρ → HAb X.K H η → (∀ i η1 H1, Kt X.K H H1 → HAb X.K H1 η1 → Q i η1 → R i H1) → t σ H R := by
  cases e with
  | none => exact ⟨_, po_none, fun ρ η Q h σ H R v b o => o none η H Kt.refl b h⟩
  | some a =>
    refine ⟨_, po_some (peW a), fun ρ η Q h σ H R v b o => ?_⟩
    refine h.run σ H _ v b fun d η1 x H1 k1 m1 b1 q1 => ?_
    obtain ⟨i, rfl, q⟩ := q1
    exact ⟨i, m1.int_inv, o _ η1 H1 k1 b1 q⟩
theorem ae_slice {e : Expr} {lo hi : Option Expr} {p2 pos : Pos} (h : AE X e ρ η fun d η1 => AO X lo ρ η1 fun i η2 => AO X hi ρ η2 fun j η3 => ∃ p ds, d = .ref p ∧ η3 p = some (.lst ds) ∧ ∀ r, η3 r = none → Q (.ref r) (up η3 r (.lst (cutD ds i j)))) :
    AE X (.Subscript e (.Slice lo hi none p2) pos) ρ η Q := by
  obtain ⟨tl, hl, al⟩ := po_of (X := X) lo
  obtain ⟨th, hh, ah⟩ := po_of (X := X) hi
  refine AX.of (pe_slice sl_list (peW e) hl hh) ?_
  intro σ H R v b o
  refine h.run σ H _ v b fun d η1 x H1 k1 m1 b1 q1 => ?_
  refine al ρ η1 _ q1 σ H1 _ (v.kt k1) b1 fun i η2 H2 k2 b2 q2 => ?_
  refine ah ρ η2 _ q2 σ H2 _ (v.kt (k1.trans k2)) b2 fun j η3 H3 k3 b3 q3 => ?_
  obtain ⟨p, ds, rfl, h1, h2⟩ := q3
  obtain ⟨vs, c1, c2⟩ := b3 _ _ h1
  refine ⟨p, vs, m1.ref_inv, SqL.of c1, fun r hr => ?_⟩
  refine o _ _ _ _ (((k1.trans k2).trans k3).trans (Kt.new hr)) (.ref r) (b3.newM hr (MoOk.mk_lst (Kt.new hr) ?_)) (h2 r (b3.free hr))
  unfold cutV cutD
  rw [c2.len]
  exact (c2.drop _).take _

/-! ### built-ins by name -/
theorem ae_cb {x : Str} {p pos : Pos} {e : Expr} {es : List Expr} {id : String} {r : List V → Hp → VK → Prop} (A : At X N sc k) (hc : CallR X (.builtin id) r) (hm : X.mg x = none) (hv : bootBuiltins x = some (.builtin id))
    (h : AA X (e :: es) ρ η fun ds η1 => AC X.K r ds η1 Q) (hg : sc.names.lookup x = some .globalImplicit) (hn : x ≠ "__name__") (hdb : (x == ("__debug__" : Str)) = false)
    (he : starEach (e :: es) X.env = (false, eval e X.env) :: starEach es X.env) (hpl : (backTo pos (starEach es X.env)).any (·.1) = false) : AE X (.Call (.Name x p) (e :: es) [] pos) ρ η Q := by
  refine AX.of (pe_callB hc (A.gl hg) hm hv (paW _) hn hdb he hpl) ?_
  intro σ H R v b o
  exact h.run σ H _ v b fun ds η1 xs H1 k1 m1 b1 q1 => q1 xs H1 R m1 b1 (o.kt k1)
theorem ae_ct {x : Str} {p pos : Pos} {e : Expr} {es : List Expr} {T : String} {r : List V → Hp → VK → Prop} (A : At X N sc k) (hc : CallR X (.type T) r) (hm : X.mg x = none) (hv : bootBuiltins x = some (.type T))
    (h : AA X (e :: es) ρ η fun ds η1 => AC X.K r ds η1 Q) (hg : sc.names.lookup x = some .globalImplicit) (hn : x ≠ "__name__") (hdb : (x == ("__debug__" : Str)) = false)
    (he : starEach (e :: es) X.env = (false, eval e X.env) :: starEach es X.env) (hpl : (backTo pos (starEach es X.env)).any (·.1) = false) : AE X (.Call (.Name x p) (e :: es) [] pos) ρ η Q := by
  refine AX.of (pe_callTy hc (A.gl hg) hm hv (paW _) hn hdb he hpl) ?_
  intro σ H R v b o
  exact h.run σ H _ v b fun ds η1 xs H1 k1 m1 b1 q1 => q1 xs H1 R m1 b1 (o.kt k1)
theorem Ims.one_inv {xs : List V} {d : Dt} (h : Ims K H xs [d]) : ∃ v, xs = [v] ∧ Im K H v d := by
  cases h with
  | cons a b => cases b; exact ⟨_, rfl, a⟩
theorem Ims.two_inv {xs : List V} {d e : Dt} (h : Ims K H xs [d, e]) : ∃ v w, xs = [v, w] ∧ Im K H v d ∧ Im K H w e := by
  cases h with
  | cons a b =>
    cases b with
    | cons c d => cases d; exact ⟨_, _, rfl, a, c⟩
/-- how long a thing is -/
def lenM : Mo → Option Nat
  | .lst ds => some ds.length
  | .rl ds => some ds.length
  | _ => none
def lenD (η : Eta) : Dt → Option Nat
  | .tup l => some l.length
  | .str z => some z.length
  | .ref p => (η p).bind lenM
  | _ => none
theorem ac_len {d : Dt} {n : Nat} (h : lenD η d = some n) (hn : n ≤ sizeLine) (q : Q (.int n) η) : AC K (fun xs H Q => ∃ x n, xs = [x] ∧ LenV K x H n ∧ Q (.int n) H) [d] η Q := by
  intro xs H R m b o
  obtain ⟨v, rfl, m0⟩ := m.one_inv
  refine ⟨v, n, rfl, ?_, o _ η _ H Kt.refl (.int _) b q⟩
  match d, h with
  | .tup l, h =>
    obtain ⟨a, xs, rfl, hs, hi⟩ := m0.tup_inv
    cases h
    exact .inr ⟨xs, hs, hi.len.symm⟩
  | .str z, h =>
    rw [m0.str_inv]
    cases h
    exact ⟨hn, rfl⟩
  | .ref p, h =>
    rw [m0.ref_inv]
    cases hp : η p with
    | none => rw [lenD, hp] at h; cases h
    | some mo =>
      rw [lenD, hp] at h
      have := b _ _ hp
      match mo, h, this with
      | .lst ds, h, ⟨vs, h1, h2⟩ => cases h; exact .inl ⟨vs, SqL.of h1, h2.len.symm⟩
      | .rl ds, h, ⟨o', vs, h1, h2⟩ => cases h; exact .inl ⟨vs, .inl (.inr ⟨o', h1⟩), h2.len.symm⟩
inductive LenOk (η : Eta) (Q : Dt → Eta → Prop) (d : Dt) : Prop
  | mk {n : Nat} : lenD η d = some n → n ≤ sizeLine → Q (.int (n : Nat)) η → LenOk η Q d
theorem ae_len (A : At X N sc k) (B : Bt X) {p pos : Pos} {e : Expr} (h : AE X e ρ η fun d η1 => LenOk η1 Q d) (hg : sc.names.lookup ("len" : Str) = some .globalImplicit := by rfl)
    (he : starEach [e] X.env = (false, eval e X.env) :: starEach [] X.env := by rfl) (hpl : (backTo pos (starEach [] X.env)).any (·.1) = false := by rfl) : AE X (.Call (.Name "len" p) [e] [] pos) ρ η Q := by
  refine ae_cb A call_len B.len PySem.boot_len (aa_cons (h.mono fun d η1 q => aa_nil ?_) he) hg (by decide) (by decide) he hpl
  obtain ⟨h1, h2, q⟩ := q
  exact ac_len h1 h2 q
theorem ae_abs (A : At X N sc k) (B : Bt X) {p pos : Pos} {e : Expr} (h : AE X e ρ η fun d η1 => ∃ n, d = .int n ∧ Q (.int (if n < 0 then -n else n)) η1) (hg : sc.names.lookup ("abs" : Str) = some .globalImplicit := by rfl)
    (he : starEach [e] X.env = (false, eval e X.env) :: starEach [] X.env := by rfl) (hpl : (backTo pos (starEach [] X.env)).any (·.1) = false := by rfl) : AE X (.Call (.Name "abs" p) [e] [] pos) ρ η Q := by
  refine ae_cb A call_abs B.abs (by decide +kernel) (aa_cons (h.mono fun d η1 q => aa_nil ?_) he) hg (by decide) (by decide) he hpl
  obtain ⟨n, rfl, q⟩ := q
  intro xs H R m b o
  obtain ⟨v, rfl, m0⟩ := m.one_inv
  exact ⟨n, by rw [m0.int_inv], o _ η1 _ H Kt.refl (.int _) b q⟩
theorem ae_min (A : At X N sc k) (B : Bt X) {p pos : Pos} {a c : Expr} (h : AE X a ρ η fun d η1 => AE X c ρ η1 fun e η2 => ∃ i j, d = .int i ∧ e = .int j ∧ Q (.int (if j < i then j else i)) η2) (hg : sc.names.lookup ("min" : Str) = some .globalImplicit := by rfl)
    (he : starEach [a, c] X.env = (false, eval a X.env) :: starEach [c] X.env := by rfl) (he2 : starEach [c] X.env = (false, eval c X.env) :: starEach [] X.env := by rfl) (hpl : (backTo pos (starEach [c] X.env)).any (·.1) = false := by rfl) : AE X (.Call (.Name "min" p) [a, c] [] pos) ρ η Q := by
  refine ae_cb A (call_min2 A.calm) B.min (by decide +kernel) (aa_cons (h.mono fun d η1 q => aa_cons (q.mono fun e η2 q2 => aa_nil ?_) he2) he) hg (by decide) (by decide) he hpl
  obtain ⟨i, j, rfl, rfl, q⟩ := q2
  intro xs H R m b o
  obtain ⟨v, w, rfl, m1, m2⟩ := m.two_inv
  exact ⟨i, j, by rw [m1.int_inv, m2.int_inv], o _ η2 _ H Kt.refl (.int _) b q⟩
theorem ae_max (A : At X N sc k) (B : Bt X) {p pos : Pos} {a c : Expr} (h : AE X a ρ η fun d η1 => AE X c ρ η1 fun e η2 => ∃ i j, d = .int i ∧ e = .int j ∧ Q (.int (if j > i then j else i)) η2) (hg : sc.names.lookup ("max" : Str) = some .globalImplicit := by rfl)
    (he : starEach [a, c] X.env = (false, eval a X.env) :: starEach [c] X.env := by rfl) (he2 : starEach [c] X.env = (false, eval c X.env) :: starEach [] X.env := by rfl) (hpl : (backTo pos (starEach [c] X.env)).any (·.1) = false := by rfl) : AE X (.Call (.Name "max" p) [a, c] [] pos) ρ η Q := by
  refine ae_cb A (call_max2 A.calm) B.max (by decide +kernel) (aa_cons (h.mono fun d η1 q => aa_cons (q.mono fun e η2 q2 => aa_nil ?_) he2) he) hg (by decide) (by decide) he hpl
  obtain ⟨i, j, rfl, rfl, q⟩ := q2
  intro xs H R m b o
  obtain ⟨v, w, rfl, m1, m2⟩ := m.two_inv
  exact ⟨i, j, by rw [m1.int_inv, m2.int_inv], o _ η2 _ H Kt.refl (.int _) b q⟩
/-- list(x): of a list or a tuple -/
def itemsD (η : Eta) : Dt → Option (List Dt)
  | .tup l => some l
  | .ref p => (η p).bind fun m => match m with | .lst ds => some ds | .rl ds => some ds | _ => none
  | _ => none
theorem items_inv {d : Dt} {l : List Dt} {v : V} (h : itemsD η d = some l) (m : Im K H v d) (b : HAb K H η) : ∃ p vs, v = .ref p ∧ (SqL K H p vs ∨ SqT K H p vs) ∧ Ims K H vs l := by
  match d, h with
  | .tup l', h =>
    cases h
    obtain ⟨a, xs, rfl, hs, hi⟩ := m.tup_inv
    exact ⟨a, xs, rfl, .inr hs, hi⟩
  | .ref p, h =>
    rw [m.ref_inv]
    cases hp : η p with
    | none => rw [itemsD, hp] at h; cases h
    | some mo =>
      rw [itemsD, hp] at h
      have := b _ _ hp
      match mo, h, this with
      | .lst ds, h, ⟨vs, h1, h2⟩ => cases h; exact ⟨p, vs, rfl, .inl (SqL.of h1), h2⟩
      | .rl ds, h, ⟨o', vs, h1, h2⟩ => cases h; exact ⟨p, vs, rfl, .inl (.inl (.inr ⟨o', h1⟩)), h2⟩
theorem ae_list (A : At X N sc k) (B : Bt X) {p pos : Pos} {e : Expr} (h : AE X e ρ η fun d η1 => ∃ l, itemsD η1 d = some l ∧ ∀ r, η1 r = none → Q (.ref r) (up η1 r (.lst l))) (hg : sc.names.lookup ("list" : Str) = some .globalImplicit := by rfl)
    (he : starEach [e] X.env = (false, eval e X.env) :: starEach [] X.env := by rfl) (hpl : (backTo pos (starEach [] X.env)).any (·.1) = false := by rfl) : AE X (.Call (.Name "list" p) [e] [] pos) ρ η Q := by
  refine ae_ct A call_list_of B.list (by decide +kernel) (aa_cons (h.mono fun d η1 q => aa_nil ?_) he) hg (by decide) (by decide) he hpl
  obtain ⟨l, h1, q⟩ := q
  intro xs H R m b o
  obtain ⟨v, rfl, m0⟩ := m.one_inv
  obtain ⟨p, vs, rfl, c1, c2⟩ := items_inv h1 m0 b
  exact ⟨p, vs, rfl, c1, fun r hr => o _ _ _ _ (Kt.new hr) (.ref r) (b.newM hr (MoOk.mk_lst (Kt.new hr) c2)) (q r (b.free hr))⟩
theorem ae_tuple (A : At X N sc k) (B : Bt X) {p pos : Pos} {e : Expr} (h : AE X e ρ η fun d η1 => ∃ l, itemsD η1 d = some l ∧ Q (.tup l) η1) (hg : sc.names.lookup ("tuple" : Str) = some .globalImplicit := by rfl)
    (he : starEach [e] X.env = (false, eval e X.env) :: starEach [] X.env := by rfl) (hpl : (backTo pos (starEach [] X.env)).any (·.1) = false := by rfl) : AE X (.Call (.Name "tuple" p) [e] [] pos) ρ η Q := by
  refine ae_ct A call_tuple_of B.tuple (by decide +kernel) (aa_cons (h.mono fun d η1 q => aa_nil ?_) he) hg (by decide) (by decide) he hpl
  obtain ⟨l, h1, q⟩ := q
  intro xs H R m b o
  obtain ⟨v, rfl, m0⟩ := m.one_inv
  obtain ⟨p, vs, rfl, c1, c2⟩ := items_inv h1 m0 b
  refine ⟨p, vs, rfl, ?_⟩
  rcases c1 with c1 | c1
  · exact .inl ⟨c1, fun r hr => o _ _ _ _ (Kt.new hr) (.tup (SqT.of upd_same) (c2.kt (Kt.new hr))) (b.new hr) q⟩
  · exact .inr ⟨c1, o _ _ _ _ Kt.refl (.tup c1 c2) b q⟩

/-! ### the program's own defs -/
abbrev ASp := List Dt → Eta → (Dt → Eta → Prop) → Prop
def Lift (K : PySem.W.Frag) (n : Nat) (a : ASp) : Sp := fun vs H Q _ => vs.length = n ∧ ∃ ds η Q0, Ims K H vs ds ∧ HAb K H η ∧ a ds η Q0 ∧ ∀ d η' v H', Kt K H H' → Im K H' v d → HAb K H' η' → Q0 d η' → Q v H'
structure FA (P : Program) (w : World) (K : PySem.W.Frag) (mg : Str → Option Value) (base : Heap) (x : Str) (j n : Nat) (a : ASp) : Prop where
  ex : ∃ f fd ps, ps.length = n ∧ FnOk P w K mg base CX0 j f fd ps (Lift K n a) ∧ mg x = some (.ref f) ∧ PySem.W.keepIn K (.ref f) = true ∧ Binds K fd ps []
abbrev FX (X : Cx) (x : Str) (j n : Nat) (a : ASp) : Prop := FA X.prog X.w X.K X.mg X.base x j n a
theorem Blk.fa {X' : Cx} {scope : Scope} {x : Str} {j n : Nat} {a : ASp} (b : Blk X X' scope) (f : FX X x j n a) : FX X' x j n a := by
  obtain ⟨s, H, C, cl, fp, rfl⟩ := b.ex
  exact f
theorem ae_call (A : At X N sc k) {x : Str} {j n : Nat} {a : ASp} (f : FX X x j n a) {p pos : Pos} {e : Expr} {es : List Expr} (h : AA X (e :: es) ρ η fun ds η1 => ds.length = n ∧ a ds η1 Q)
    (hj : j ≤ k := by decide) (hg : sc.names.lookup x = some .globalImplicit := by rfl) (hdb : (x == ("__debug__" : Str)) = false := by decide)
    (he : starEach (e :: es) X.env = (false, eval e X.env) :: starEach es X.env := by rfl) (hpl : (backTo pos (starEach es X.env)).any (·.1) = false := by rfl) : AE X (.Call (.Name x p) (e :: es) [] pos) ρ η Q := by
  obtain ⟨f', fd, ps, hp, F, hm, hk, hb⟩ := f.ex
  refine AX.of (pe_call F (A.room.mono hj) (A.gl hg) hm hk hb .nil pass0 (paW _) hdb he hpl) ?_
  intro σ H R v b o
  refine h.run σ H _ v b fun ds η1 xs H1 k1 m1 b1 q1 => ?_
  show Lift X.K n a (xs ++ []) H1 R E0
  rw [List.append_nil]
  exact ⟨m1.len.trans q1.1, ds, η1, Q, m1, b1, q1.2, o.kt k1⟩
/-- a def keeps its promise, by its body -/
theorem fa_mk {P : Program} {w : World} {K : PySem.W.Frag} {mg : Str → Option Value} {base : Heap} {x qual : Str} {st : Stmt} {f : Addr} {fd : FuncData} {N ps : List Str} {k n : Nat} {a : ASp} (F : Fun K x qual st f fd) (S : FnScope N ps (defScope st))
    (hb : Binds K fd ps []) (hm : mg x = some (.ref f)) (hn : ps.length = n)
    (body : ∀ X : Cx, X.prog = P → X.w = w → X.K = K → X.mg = mg → X.base = base → At X N (defScope st) k → (∀ y, X.fn y = true) → ∀ ds η Q0, ds.length = n → a ds η Q0 →
      ASs X (defBody st) (ds.map some ++ List.replicate (N.length - n) none) η { nx := fun _ η' => ∃ η0, Sub η0 η' ∧ Q0 .non η0, rt := fun d η' => ∃ η0, Sub η0 η' ∧ Q0 d η0 }) : FA P w K mg base x (k + 1) n a := by
  refine ⟨f, fd, ps, hn, F.ok S (fun vs H Q E h => h.1.trans hn.symm) ?_, hm, F.kp, hb⟩
  intro cdv A outer s H vs Q E hr hsp
  obtain ⟨hl, ds, η, Q0, m, b, q, o⟩ := hsp
  refine ⟨_, pssW _, ?_⟩
  have At0 : At (cxOf CX0 P w K mg base N qual (defScope st) f cdv A outer s H E).nox N (defScope st) k := ⟨rfl, S.nd, rfl, rfl, hr, PassesOwn.never⟩
  have hb' := body (cxOf CX0 P w K mg base N qual (defScope st) f cdv A outer s H E).nox rfl rfl rfl rfl rfl At0 (fun _ => rfl) ds η Q0 (m.len.symm.trans hl) q
  have e : L2.start N vs = vs.map some ++ List.replicate (N.length - n) none := by unfold L2.start; rw [hl]
  rw [e]
  refine hb'.run _ _ H (Vs.start m _) b ⟨?_, ?_, fun _ _ _ _ _ _ _ z => z.elim, fun _ _ _ _ _ _ _ z => z.elim⟩
  · rintro ρ' η' σ' H' k' v' b' ⟨η0, s0, q0⟩
    exact o _ η0 _ H' k' .non (b'.sub s0) q0
  · rintro d η' v H' k' m' b' ⟨η0, s0, q0⟩
    exact o d η0 v H' k' m' (b'.sub s0) q0
end FgA
/-! FgA5: products, quotients, methods of lists, stores, whole-number dicts, fields, texts. -/
namespace FgA
open PySem PySem.Spec PyProof.Rows L2
variable {X : Cx} {K : PySem.W.Frag} {H H' : Hp} {ρ : Rho} {η : Eta} {Q : Dt → Eta → Prop} {E : AEnds} {N : List Str} {sc : Scope} {k : Nat} {T F : Eta → Prop} {QG : Rho → Eta → Prop}

/-! ### numbers -/
def MulOk (i j : Int) : Prop := CMul i j ∨ CMulW i j
theorem mul_small {i j : Int} (h : -(2 ^ 64) < i ∧ i < 2 ^ 64) : MulOk i j := .inl (.inl h)
theorem mul_small' {i j : Int} (h : -(2 ^ 64) < j ∧ j < 2 ^ 64) : MulOk i j := .inl (.inr h)
theorem ae_mul {a b : Expr} {pos : Pos} (h : AE X a ρ η fun d1 η1 => AE X b ρ η1 fun d2 η2 => iiD MulOk (fun i j => .int (i * j)) η2 Q d1 d2) : AE X (.BinOp a .Mult b pos) ρ η Q := by
  refine AX.of (pe_op (OpR.or op_mul op_mulW) (peW a) (peW b)) (ax_op (h.run.mono fun d1 η1 q => q.run.mono fun d2 η2 q2 => ?_))
  intro x y H R mx my b' o
  cases q2 with
  | @mk i j q2a q2b =>
    rcases q2a with c | c
    · exact .inl ⟨i, j, mx.int_inv, my.int_inv, c, o _ η2 _ H Kt.refl (.int _) b' q2b⟩
    · exact .inr ⟨i, j, mx.int_inv, my.int_inv, c, o _ η2 _ H Kt.refl (.int _) b' q2b⟩
def DivOk (i j : Int) : Prop := CDivN i j ∨ CDivW i j
theorem ae_fdiv {a b : Expr} {pos : Pos} (h : AE X a ρ η fun d1 η1 => AE X b ρ η1 fun d2 η2 => iiD DivOk (fun i j => .int (i.fdiv j)) η2 Q d1 d2) : AE X (.BinOp a .FloorDiv b pos) ρ η Q := by
  refine AX.of (pe_op (OpR.or op_fdivN op_fdivW) (peW a) (peW b)) (ax_op (h.run.mono fun d1 η1 q => q.run.mono fun d2 η2 q2 => ?_))
  intro x y H R mx my b' o
  cases q2 with
  | @mk i j q2a q2b =>
    rcases q2a with c | c
    · exact .inl ⟨i, j, mx.int_inv, my.int_inv, c, o _ η2 _ H Kt.refl (.int _) b' q2b⟩
    · refine .inr ⟨i, j, mx.int_inv, my.int_inv, c, ?_⟩
      have e : i.fdiv j = i / j := Int.fdiv_eq_ediv_of_nonneg i (Int.le_of_lt c.1)
      show R (.int (i / j)) H
      rw [← e]
      exact o _ η2 _ H Kt.refl (.int _) b' q2b
theorem ae_pow {a b : Expr} {pos : Pos} (h : AE X a ρ η fun d1 η1 => AE X b ρ η1 fun d2 η2 => iiD CPow (fun i j => .int (i ^ j.toNat)) η2 Q d1 d2) : AE X (.BinOp a .Pow b pos) ρ η Q :=
  AX.of (pe_op op_pow (peW a) (peW b)) (ax_op (h.run.mono fun d1 η1 q => q.run.mono fun d2 η2 q2 => ar_ii (fun _ _ _ => .int _) q2))
theorem ae_neg {a : Expr} {pos : Pos} (h : AE X a ρ η fun d η1 => ∃ i, d = .int i ∧ Q (.int (-i)) η1) : AE X (.UnaryOp .USub a pos) ρ η Q := by
  refine AX.of (pe_un un_neg (peW a)) ?_
  intro σ H R v b o
  refine h.run σ H _ v b fun d η1 x H1 k1 m1 b1 q1 => ?_
  obtain ⟨i, rfl, q⟩ := q1
  exact ⟨i, m1.int_inv, o _ η1 _ H1 k1 (.int _) b1 q⟩
theorem as_aug_add (A : At X N sc k) (i : Nat) {x : Str} {e : Expr} {pos pos' : Pos} {n : Int} (hN : N[i]? = some x) (hρ : ρ[i]? = some (some (.int n))) (h : AE X e ρ η fun d η1 => ∃ m, d = .int m ∧ E.nx (ρ.set i (some (.int (n + m)))) η1)
    (hx : Loc sc x := by first | exact .inl rfl | exact .inr rfl) (hf : X.fn x = true ∨ sc.names.lookup x = some .local := by first | exact .inr rfl | exact .inl rfl | assumption) : AS X (.AugAssign (.Name x pos') .Add e pos) ρ η E := by
  refine ASt.of (ps_aug (i := i) (by rw [A.eN]; exact A.nd) (by rw [A.eN]; exact hN) (by rw [A.eS]; exact hx) (peW e) ip_add (by rw [A.eS]; exact hf)) ?_
  intro D σ H v b l
  obtain ⟨y, h1, h2⟩ := v.2 i _ hρ
  refine ⟨y, h1, h.run σ H _ v b fun d η1 z H1 k1 m1 b1 q1 => ?_⟩
  obtain ⟨m, rfl, q⟩ := q1
  exact ⟨n, m, h2.int_inv, m1.int_inv, l.nx _ η1 _ H1 k1 ((v.kt k1).set i (.int _)) b1 q⟩
theorem as_par (A : At X N sc k) (i j : Nat) {x y : Str} {a b : Expr} {pos px py pt : Pos} {kt k2 pt2} (hi : N[i]? = some x) (hj : N[j]? = some y) (h : AE X a ρ η fun d η1 => AE X b ρ η1 fun e η2 => E.nx ((ρ.set i (some d)).set j (some e)) η2)
    (hij : i ≠ j := by decide) (hx : sc.names.lookup x = some .local := by rfl) (hy : sc.names.lookup y = some .local := by rfl)
    (hw : ∀ env : Env, env.scope = sc → swappedStores [.Tuple [.Name x px, .Name y py] kt pt] (.Tuple [a, b] k2 pt2) env = pure (some [x, y]) := by intro env h; obtain ⟨⟩ := env; cases h; rfl)
    (hs : swapsWithSole [.Tuple [.Name x px, .Name y py] kt pt] (.Tuple [a, b] k2 pt2) pos.line X.env = pure false := by rfl)
    (he : starEach [a, b] X.env = (false, eval a X.env) :: starEach [b] X.env := by rfl) (he2 : starEach [b] X.env = (false, eval b X.env) :: starEach [] X.env := by rfl) :
    AS X (.Assign [.Tuple [.Name x px, .Name y py] kt pt] (.Tuple [a, b] k2 pt2) pos) ρ η E := by
  refine ASt.of (ps_par (i := i) (j := j) A.calm (by rw [A.eN]; exact A.nd) (by rw [A.eN]; exact hi) (by rw [A.eN]; exact hj) hij (by rw [A.eS]; exact hx) (by rw [A.eS]; exact hy) (paW [a, b]) (hw X.env A.eS) hs) ?_
  intro D σ H v b' l
  have h2 : AA X [a, b] ρ η fun ds η2 => ∃ d e, ds = [d, e] ∧ E.nx ((ρ.set i (some d)).set j (some e)) η2 :=
    aa_cons (h.mono fun d η1 q => aa_cons (q.mono fun e η2 q2 => aa_nil ⟨d, e, rfl, q2⟩) he2) he
  refine h2.run σ H _ v b' fun ds η1 xs H1 k1 m1 b1 q1 => ?_
  obtain ⟨d, e, rfl, q⟩ := q1
  obtain ⟨u, w, rfl, m2, m3⟩ := m1.two_inv
  exact ⟨u, w, rfl, l.nx _ η1 _ H1 k1 (((v.kt k1).set i m2).set j m3) b1 q⟩

/-! ### methods of lists -/
def AM (K : PySem.W.Frag) (r : V → List V → Hp → VK → Prop) (d : Dt) (ds : List Dt) (η : Eta) (Q : Dt → Eta → Prop) : Prop := ∀ x xs H R, Im K H x d → Ims K H xs ds → HAb K H η → Out K H Q R → r x xs H R
/-- a list stands there -/
def IsL (η : Eta) (d : Dt) : Prop := ∃ p ds, d = .ref p ∧ (η p = some (.lst ds) ∨ η p = some (.rl ds))
theorem IsL.ty {d : Dt} {v : V} (h : IsL η d) (m : Im K H v d) (b : HAb K H η) : tyV K "list" v H := by
  obtain ⟨p, ds, rfl, h | h⟩ := h
  · obtain ⟨vs, a1, a2⟩ := b _ _ h
    rw [m.ref_inv]; exact .inl ⟨rfl, _, SqL.of a1⟩
  · obtain ⟨o, vs, a1, a2⟩ := b _ _ h
    rw [m.ref_inv]; exact .inl ⟨rfl, _, .inl (.inr ⟨o, a1⟩)⟩
theorem ax_bm {r : V → List V → Hp → VK → Prop} {to : TE} {t : TA} (h : AX K to ρ η fun d η1 => IsL η1 d ∧ AAt K t ρ η1 fun ds η2 => AM K r d ds η2 Q) : AX K (tBM K "list" r to t) ρ η Q := by
  intro σ H R v b o
  refine h σ H _ v b fun d η1 x H1 k1 m1 b1 q1 => ⟨q1.1.ty m1 b1, ?_⟩
  exact q1.2 σ H1 _ (v.kt k1) b1 fun ds η2 xs H2 k2 m2 b2 q2 => q2 x xs H2 R (m1.kt k2) m2 b2 (o.kt (k1.trans k2))
theorem ax_bm0 {r : V → List V → Hp → VK → Prop} {to : TE} (h : AX K to ρ η fun d η1 => IsL η1 d ∧ AM K r d [] η1 Q) : AX K (tBM0 K "list" r to) ρ η Q := by
  intro σ H R v b o
  exact h σ H _ v b fun d η1 x H1 k1 m1 b1 q1 => ⟨q1.1.ty m1 b1, q1.2 x [] H1 R m1 .nil b1 (o.kt k1)⟩
theorem AAt.mono {t : TA} {P Q' : List Dt → Eta → Prop} (h : AAt K t ρ η P) (k : ∀ d η', P d η' → Q' d η') : AAt K t ρ η Q' := fun σ H R v b o => h σ H R v b fun d η' xs H' k' m b' q => o d η' xs H' k' m b' (k d η' q)
theorem lt_sz {n : Nat} (h : n < 100000) : n < sizeLine := Nat.lt_trans h (by decide)
theorem le_sz {n : Nat} (h : n ≤ 100000) : n ≤ sizeLine := Nat.le_trans h (by decide)
theorem am_append {p : Addr} {ds : List Dt} {x : Dt} (h : η p = some (.lst ds)) (hl : ds.length < 100000) (q : Q .non (up η p (.lst (ds ++ [x])))) : AM K rAppend (.ref p) [x] η Q := by
  intro v xs H R m ms b o
  obtain ⟨y, rfl, my⟩ := ms.one_inv
  obtain ⟨vs, a1, a2⟩ := b _ _ h
  have kt : Kt K H (upd H p (.lst (vs ++ [y]))) := Kt.lst a1
  exact ⟨p, vs, y, m.ref_inv, rfl, a1, by rw [a2.len]; exact lt_sz hl, o _ _ _ _ kt .non (b.mut (m := .lst _) kt ⟨_, upd_same, (a2.app (.cons my .nil)).kt kt⟩) q⟩
theorem am_pop {p : Addr} {ds : List Dt} {x : Dt} (h : η p = some (.lst ds)) (hl : ds[ds.length - 1]? = some x) (q : Q x (up η p (.lst ds.dropLast))) : AM K rPop (.ref p) [] η Q := by
  intro v xs H R m ms b o
  cases ms
  obtain ⟨vs, a1, a2⟩ := b _ _ h
  obtain ⟨y, c1, c2⟩ := a2.get _ hl
  have kt : Kt K H (upd H p (.lst vs.dropLast)) := Kt.lst a1
  exact ⟨p, vs, y, m.ref_inv, rfl, a1, by rw [a2.len]; exact c1, o _ _ _ _ kt (c2.kt kt) (b.mut (m := .lst _) kt ⟨_, upd_same, a2.dropLast.kt kt⟩) q⟩
theorem am_popAt {p : Addr} {ds : List Dt} {x : Dt} {j : Nat} (h : η p = some (.lst ds)) (hj : j < 100000) (hl : ds[j]? = some x) (q : Q x (up η p (.lst (ds.eraseIdx j)))) : AM K rPopAt (.ref p) [.int (j : Int)] η Q := by
  intro v xs H R m ms b o
  obtain ⟨y, rfl, my⟩ := ms.one_inv
  obtain ⟨vs, a1, a2⟩ := b _ _ h
  obtain ⟨z, c1, c2⟩ := a2.get _ hl
  have kt : Kt K H (upd H p (.lst (vs.eraseIdx j))) := Kt.lst a1
  have hlt : j < vs.length := by
    obtain ⟨hh, _⟩ := List.getElem?_eq_some_iff.mp c1; exact hh
  obtain ⟨s1, _, _, _⟩ := ixN_seq (n := vs.length) (i := (j : Int)) (j := j) (by unfold ixN; rw [if_pos (by omega), if_pos (by omega)]; simp)
  exact ⟨p, vs, j, j, z, m.ref_inv, by rw [my.int_inv], a1, by omega, by omega, s1, c1, o _ _ _ _ kt (c2.kt kt) (b.mut (m := .lst _) kt ⟨_, upd_same, (a2.eraseIdx j).kt kt⟩) q⟩
theorem am_extend {p q : Addr} {ds es : List Dt} (h : η p = some (.lst ds)) (h2 : η q = some (.lst es)) (hl : ds.length + es.length ≤ 100000) (qq : Q .non (up η p (.lst (ds ++ es)))) : AM K rExtend (.ref p) [.ref q] η Q := by
  intro v xs H R m ms b o
  obtain ⟨y, rfl, my⟩ := ms.one_inv
  obtain ⟨vs, a1, a2⟩ := b _ _ h
  obtain ⟨ws, c1, c2⟩ := b _ _ h2
  have kt : Kt K H (upd H p (.lst (vs ++ ws))) := Kt.lst a1
  exact ⟨p, q, vs, ws, m.ref_inv, by rw [my.ref_inv], a1, c1, by rw [a2.len, c2.len]; exact le_sz hl, o _ _ _ _ kt .non (b.mut (m := .lst _) kt ⟨_, upd_same, (a2.app c2).kt kt⟩) qq⟩
def rInsert : V → List V → Hp → VK → Prop := fun x vs H Q => ∃ (l : Addr) (xs : List V) (i : Int) (y : V), x = .ref l ∧ vs = [.int i, y] ∧ H l = some (.lst xs) ∧ xs.length < sizeLine ∧ 0 ≤ i ∧ i < 2 ^ 63 ∧ Q .non (upd H l (.lst (xs.take i.toNat ++ [y] ++ xs.drop i.toNat)))
theorem am_insert {p : Addr} {ds : List Dt} {x : Dt} {j : Nat} (h : η p = some (.lst ds)) (hl : ds.length < 100000) (hj : j < 100000) (q : Q .non (up η p (.lst (ds.take j ++ [x] ++ ds.drop j)))) : AM K rInsert (.ref p) [.int (j : Int), x] η Q := by
  intro v xs H R m ms b o
  obtain ⟨y, z, rfl, my, mz⟩ := ms.two_inv
  obtain ⟨vs, a1, a2⟩ := b _ _ h
  have kt : Kt K H (upd H p (.lst (vs.take j ++ [z] ++ vs.drop j))) := Kt.lst a1
  refine ⟨p, vs, j, z, m.ref_inv, by rw [my.int_inv], a1, by rw [a2.len]; exact lt_sz hl, by omega, by omega, ?_⟩
  rw [show ((j : Nat) : Int).toNat = j by simp]
  exact o _ _ _ _ kt .non (b.mut (m := .lst _) kt ⟨_, upd_same, (((a2.take j).app (.cons mz .nil)).app (a2.drop j)).kt kt⟩) q
/-- what a method's call is asked of its syntax -/
structure MC (X : Cx) (o : Expr) (name : Str) (es : List Expr) (apos cpos : Pos) : Prop where
  base : attributeBase o name X.env (eval o X.env) = eval o X.env
  few : ((backTo cpos (starEach es X.env)).all (fun x => !x.1) && (backToKw cpos (keywordEach [] X.env)).all (fun x => x.1.isSome) && decide (es.length + ([] : List Keyword).length + (if ([] : List Keyword).isEmpty then 0 else 1) < 30)) = true
  line : (apos.endLine == cpos.line) = true
section
variable {o e : Expr} {es : List Expr} {apos cpos : Pos}
theorem ae_bm {name : Str} {id : String} {r : V → List V → Hp → VK → Prop} (slot : Slot "list" name id) (hty : typeOf (.builtin id) = pure (.type "method_descriptor")) (hm : MtR X id r) (m : MC X o name (e :: es) apos cpos)
    (h : AE X o ρ η fun d η1 => IsL η1 d ∧ AA X (e :: es) ρ η1 fun as η2 => AM X.K r d as η2 Q)
    (hs : starEach (e :: es) X.env = (false, eval e X.env) :: starEach es X.env) (hpl : (backTo cpos (starEach es X.env)).any (·.1) = false) : AE X (.Call (.Attribute o name apos) (e :: es) [] cpos) ρ η Q :=
  AX.of (pe_bm PySem.F.plainAttrs_list slot hty hm (peW o) (paW _) m.base m.few m.line hs hpl) (ax_bm (h.run.mono fun d η1 q => ⟨q.1, q.2.run⟩))
theorem ae_append (h : AE X o ρ η fun d η1 => IsL η1 d ∧ AA X [e] ρ η1 fun as η2 => AM X.K rAppend d as η2 Q) (m : MC X o "append" [e] apos cpos := by exact ⟨rfl, rfl, rfl⟩)
    (hs : starEach [e] X.env = (false, eval e X.env) :: starEach [] X.env := by rfl) (hpl : (backTo cpos (starEach [] X.env)).any (·.1) = false := by rfl) : AE X (.Call (.Attribute o "append" apos) [e] [] cpos) ρ η Q :=
  ae_bm PySem.F.slot_list_append PySem.F.type_list_append mt_append m h hs hpl
theorem ae_extend (h : AE X o ρ η fun d η1 => IsL η1 d ∧ AA X [e] ρ η1 fun as η2 => AM X.K rExtend d as η2 Q) (m : MC X o "extend" [e] apos cpos := by exact ⟨rfl, rfl, rfl⟩)
    (hs : starEach [e] X.env = (false, eval e X.env) :: starEach [] X.env := by rfl) (hpl : (backTo cpos (starEach [] X.env)).any (·.1) = false := by rfl) : AE X (.Call (.Attribute o "extend" apos) [e] [] cpos) ρ η Q :=
  ae_bm PySem.F.slot_list_extend PySem.F.type_list_extend mt_extend m h hs hpl
theorem ae_popAt (h : AE X o ρ η fun d η1 => IsL η1 d ∧ AA X [e] ρ η1 fun as η2 => AM X.K rPopAt d as η2 Q) (m : MC X o "pop" [e] apos cpos := by exact ⟨rfl, rfl, rfl⟩)
    (hs : starEach [e] X.env = (false, eval e X.env) :: starEach [] X.env := by rfl) (hpl : (backTo cpos (starEach [] X.env)).any (·.1) = false := by rfl) : AE X (.Call (.Attribute o "pop" apos) [e] [] cpos) ρ η Q :=
  ae_bm PySem.F.slot_list_pop PySem.F.type_list_pop mt_popAt m h hs hpl
theorem ae_insert {e2 : Expr} (h : AE X o ρ η fun d η1 => IsL η1 d ∧ AA X [e, e2] ρ η1 fun as η2 => AM X.K rInsert d as η2 Q) (m : MC X o "insert" [e, e2] apos cpos := by exact ⟨rfl, rfl, rfl⟩)
    (hs : starEach [e, e2] X.env = (false, eval e X.env) :: starEach [e2] X.env := by rfl) (hpl : (backTo cpos (starEach [e2] X.env)).any (·.1) = false := by rfl) : AE X (.Call (.Attribute o "insert" apos) [e, e2] [] cpos) ρ η Q :=
  ae_bm PySem.F.slot_list_insert PySem.F.type_list_insert mt_insert m h hs hpl
theorem ae_pop (h : AE X o ρ η fun d η1 => IsL η1 d ∧ AM X.K rPop d [] η1 Q) (m : MC X o "pop" [] apos cpos := by exact ⟨rfl, rfl, rfl⟩) : AE X (.Call (.Attribute o "pop" apos) [] [] cpos) ρ η Q :=
  AX.of (pe_bm0 PySem.F.plainAttrs_list PySem.F.slot_list_pop PySem.F.type_list_pop mt_pop (peW o) m.base m.line) (ax_bm0 h.run)
end

/-! ### dicts, as lists of pairs -/
section
variable {κ α β : Type} [DecidableEq κ]
def lkA (kvs : List (κ × α)) (k : κ) : Option α := (kvs.find? fun kv => decide (kv.1 = k)).map (·.2)
def putA (kvs : List (κ × α)) (k : κ) (v : α) : List (κ × α) := if (kvs.any fun kv => decide (kv.1 = k)) = true then kvs.map (fun kv => if kv.1 = k then (kv.1, v) else kv) else kvs ++ [(k, v)]
def dropA (kvs : List (κ × α)) (k : κ) : List (κ × α) := kvs.filter fun kv => decide (kv.1 ≠ k)
theorem lkA_nil (k : κ) : lkA ([] : List (κ × α)) k = none := rfl
theorem lkA_cons (a : κ × α) (r : List (κ × α)) (k : κ) : lkA (a :: r) k = if a.1 = k then some a.2 else lkA r k := by
  unfold lkA
  rw [List.find?_cons]
  by_cases e : a.1 = k <;> simp [e]
theorem lkA_app (xs ys : List (κ × α)) (k : κ) : lkA (xs ++ ys) k = (lkA xs k).or (lkA ys k) := by
  induction xs with
  | nil => simp [lkA_nil]
  | cons a r ih =>
    rw [List.cons_append, lkA_cons, lkA_cons, ih]
    by_cases e : a.1 = k <;> simp [e]
theorem lkA_none {kvs : List (κ × α)} {k : κ} : lkA kvs k = none ↔ k ∉ kvs.map (·.1) := by
  induction kvs with
  | nil => simp [lkA_nil]
  | cons a r ih =>
    rw [lkA_cons]
    by_cases e : a.1 = k
    · simp [e]
    · rw [if_neg e, ih, List.map_cons, List.mem_cons, not_or]
      exact ⟨fun h => ⟨fun z => e z.symm, h⟩, fun h => h.2⟩
theorem any_lkA {kvs : List (κ × α)} {k : κ} : (kvs.any fun kv => decide (kv.1 = k)) = (lkA kvs k).isSome := by
  induction kvs with
  | nil => rfl
  | cons a r ih =>
    rw [lkA_cons, List.any_cons, ih]
    by_cases e : a.1 = k <;> simp [e]
theorem lkA_map {kvs : List (κ × α)} {k k' : κ} {v : α} : lkA (kvs.map (fun kv => if kv.1 = k then (kv.1, v) else kv)) k' = if k' = k then (lkA kvs k').map (fun _ => v) else lkA kvs k' := by
  induction kvs with
  | nil => simp [lkA_nil]
  | cons a r ih =>
    rw [List.map_cons, lkA_cons, lkA_cons, ih]
    by_cases e : a.1 = k
    · by_cases e2 : k' = k
      · subst e2; simp [e]
      · simp only [e, if_true, if_neg e2, if_neg (fun z : k = k' => e2 z.symm)]
    · by_cases e2 : k' = k
      · subst e2; simp [e]
      · simp [e, e2]
theorem lkA_put {kvs : List (κ × α)} {k k' : κ} {v : α} : lkA (putA kvs k v) k' = if k' = k then some v else lkA kvs k' := by
  unfold putA
  rw [any_lkA]
  cases h : lkA kvs k with
  | none =>
    simp only [Option.isSome_none, Bool.false_eq_true, if_false]
    rw [lkA_app, lkA_cons, lkA_nil]
    by_cases e : k' = k
    · subst e; simp [h]
    · rw [if_neg e, if_neg (fun z => e z.symm)]; simp
  | some x =>
    simp only [Option.isSome_some, if_true]
    rw [lkA_map]
    by_cases e : k' = k
    · subst e; simp [h]
    · simp [e]
theorem keys_put {kvs : List (κ × α)} {k : κ} {v : α} : (putA kvs k v).map (·.1) = if (lkA kvs k).isSome = true then kvs.map (·.1) else kvs.map (·.1) ++ [k] := by
  unfold putA
  rw [any_lkA]
  split
  · rw [List.map_map]
    apply List.map_congr_left
    intro a _
    show (if a.1 = k then (a.1, v) else a).1 = a.1
    split <;> rfl
  · simp
theorem put_nodup {kvs : List (κ × α)} {k : κ} {v : α} (h : (kvs.map (·.1)).Nodup) : ((putA kvs k v).map (·.1)).Nodup := by
  rw [keys_put]
  split
  · exact h
  · rename_i hn
    rw [List.nodup_append]
    refine ⟨h, by simp, ?_⟩
    intro x hx y hy
    simp only [List.mem_singleton] at hy
    subst hy
    intro e
    subst e
    have : lkA kvs x = none := by
      cases z : lkA kvs x with
      | none => rfl
      | some w => rw [z] at hn; simp at hn
    exact lkA_none.mp this hx
theorem put_len {kvs : List (κ × α)} {k : κ} {v : α} : (putA kvs k v).length ≤ kvs.length + 1 := by
  unfold putA
  split
  · simp
  · simp
theorem lkA_drop {kvs : List (κ × α)} {k k' : κ} : lkA (dropA kvs k) k' = if k' = k then none else lkA kvs k' := by
  unfold dropA
  induction kvs with
  | nil => simp [lkA_nil]
  | cons a r ih =>
    rw [List.filter_cons]
    by_cases e : a.1 = k
    · simp only [e, ne_eq, not_true_eq_false, decide_false, Bool.false_eq_true, if_false]
      rw [ih, lkA_cons]
      by_cases e2 : k' = k
      · simp [e2]
      · simp only [e2, if_false, e]
        rw [if_neg (fun z => e2 z.symm)]
    · simp only [ne_eq, e, not_false_eq_true, decide_true, if_true]
      rw [lkA_cons, ih, lkA_cons]
      by_cases e2 : k' = k
      · subst e2; simp [e]
      · simp [e2]
variable {R : α → β → Prop}
abbrev KR (R : α → β → Prop) : List (κ × α) → List (κ × β) → Prop := Paired fun a b => a.1 = b.1 ∧ R a.2 b.2
theorem KR.lk : ∀ {xs : List (κ × α)} {ys : List (κ × β)}, KR R xs ys → ∀ k, (lkA xs k = none ∧ lkA ys k = none) ∨ ∃ x y, lkA xs k = some x ∧ lkA ys k = some y ∧ R x y
  | _, _, .nil, k => .inl ⟨rfl, rfl⟩
  | _, _, .cons (a := a) (b := b) h t, k => by
    rw [lkA_cons, lkA_cons]
    by_cases e : a.1 = k
    · rw [if_pos e, if_pos (h.1 ▸ e)]
      exact .inr ⟨_, _, rfl, rfl, h.2⟩
    · rw [if_neg e, if_neg (h.1 ▸ e)]
      exact KR.lk t k
theorem KR.put {xs : List (κ × α)} {ys : List (κ × β)} (h : KR R xs ys) {k : κ} {x : α} {y : β} (r : R x y) : KR R (putA xs k x) (putA ys k y) := by
  unfold putA
  rw [any_lkA, any_lkA]
  rcases h.lk k with ⟨h1, h2⟩ | ⟨x', y', h1, h2, h3⟩
  · rw [h1, h2]
    exact h.snoc ⟨rfl, r⟩
  · rw [h1, h2]
    simp only [Option.isSome_some, if_true]
    clear h1 h2 h3
    induction h with
    | nil => exact .nil
    | @cons a b _ _ hh ht ih =>
      refine .cons ?_ ih
      dsimp only
      by_cases e : a.1 = k
      · rw [if_pos e, if_pos (hh.1 ▸ e)]; exact ⟨hh.1, r⟩
      · rw [if_neg e, if_neg (hh.1 ▸ e)]; exact hh
theorem KR.drop {xs : List (κ × α)} {ys : List (κ × β)} (h : KR R xs ys) {k : κ} : KR R (dropA xs k) (dropA ys k) := by
  unfold dropA
  induction h with
  | nil => exact .nil
  | @cons a b _ _ hh ht ih =>
    rw [List.filter_cons, List.filter_cons]
    by_cases e : a.1 = k
    · have e2 : b.1 = k := hh.1 ▸ e
      simp only [e, e2, ne_eq, not_true_eq_false, decide_false, Bool.false_eq_true, if_false]; exact ih
    · have e2 : ¬ b.1 = k := hh.1 ▸ e
      simp only [e, e2, ne_eq, not_false_eq_true, decide_true, if_true]; exact .cons hh ih
theorem KR.len {xs : List (κ × α)} {ys : List (κ × β)} (h : KR R xs ys) : xs.length = ys.length := Paired.length h
end
theorem valV_lkA {κ : Type} [DecidableEq κ] (kvs : List (κ × V)) (k : κ) : valV kvs k = lkA kvs k := rfl
theorem putK_putA {κ : Type} [DecidableEq κ] (kvs : List (κ × V)) (k : κ) (v : V) : putK kvs k v = putA kvs k v := rfl
theorem dropK_dropA {κ : Type} [DecidableEq κ] (kvs : List (κ × V)) (k : κ) : dropK kvs k = dropA kvs k := rfl
end FgA
/-! FgA6: leaves of the steps, stores, whole-number dicts, fields, joins. -/
namespace FgA
open PySem PySem.Spec PyProof.Rows L2
variable {X : Cx} {K : PySem.W.Frag} {H H' : Hp} {ρ : Rho} {η : Eta} {Q : Dt → Eta → Prop} {E : AEnds} {N : List Str} {sc : Scope} {k : Nat} {T F : Eta → Prop} {QG : Rho → Eta → Prop}
theorem szl {n : Nat} (h : Nat.ble n 100000 = true) : n ≤ sizeLine := le_sz (Nat.le_of_ble_eq_true h)
theorem szl_and {n : Nat} {p : Prop} (h : Nat.ble n 100000 = true) (q : p) : n ≤ sizeLine ∧ p := ⟨szl h, q⟩
theorem up_new {p q : Addr} {m m' : Mo} (hq : η q = none) (hp : η p = some m) : up η q m' p = some m := Sub.up hq p m hp
theorem up_old {p q : Addr} {m m' : Mo} (hn : p ≠ q) (hp : η p = some m) : up η q m' p = some m := by rw [up_ne hn]; exact hp
theorem sub_new {η' : Eta} {p : Addr} {m : Mo} (hp : η' p = none) (s : Sub η η') : Sub η (up η' p m) := s.trans (Sub.up hp)
/-- all but one thing stays -/
def SubX (p : Addr) (η η' : Eta) : Prop := ∀ q m, q ≠ p → η q = some m → η' q = some m
theorem SubX.refl {p : Addr} : SubX p η η := fun _ _ _ h => h
theorem SubX.new {p s : Addr} {η' : Eta} {m : Mo} (hs : η' s = none) (h : SubX p η η') : SubX p η (up η' s m) := fun q m' hn e => Sub.up hs q m' (h q m' hn e)
theorem SubX.self {p : Addr} {η' : Eta} {m : Mo} (h : SubX p η η') : SubX p η (up η' p m) := fun q m' hn e => by rw [up_ne hn]; exact h q m' hn e
theorem SubX.sub {p : Addr} {η' : Eta} (h : Sub η η') : SubX p η η' := fun q m _ e => h q m e
theorem SubX.trans {p : Addr} {η1 η2 η3 : Eta} (a : SubX p η1 η2) (b : SubX p η2 η3) : SubX p η1 η3 := fun q m hn e => b q m hn (a q m hn e)
theorem sub_at {p : Addr} {η' : Eta} {m : Mo} (h1 : η' p = some m) (h2 : SubX p η η') : Sub (up η p m) η' := fun q m' e => by
  by_cases h : q = p
  · subst h; rw [up_same] at e; cases e; exact h1
  · rw [up_ne h] at e; exact h2 q m' h e
theorem free_up {p q : Addr} {m : Mo} (h : up η q m p = none) : η p = none := by
  by_cases e : p = q
  · subst e; rw [up_same] at h; cases h
  · rw [up_ne e] at h; exact h
theorem ne_up {p q : Addr} {m : Mo} (h : up η q m p = none) : p ≠ q := fun e => by subst e; rw [up_same] at h; cases h
theorem ne_at {p q : Addr} {m : Mo} (h : η p = none) (g : η q = some m) : p ≠ q := fun e => by subst e; rw [h] at g; cases g
/-! names by their slots, found by instance -/
class Slot (N : List Str) (x : Str) (i : outParam Nat) : Prop where
  at_ : N[i]? = some x
structure NameOk (N : List Str) (sc : Scope) (m : Nat) : Prop where
  ok : ∀ (i : Nat) (x : Str), i < m → N[i]? = some x → Loc sc x ∧ (x == ("__debug__" : Str)) = false ∧ (x == ("__classdict__" : Str)) = false
def locB (sc : Scope) (x : Str) : Bool := match sc.names.lookup x with
  | some .local => true
  | some .cell => true
  | _ => false
theorem nameOk_by {m : Nat} (h : ((N.take m).all fun x => locB sc x && !(x == ("__debug__" : Str)) && !(x == ("__classdict__" : Str))) = true) : NameOk N sc m := by
  refine ⟨fun i x hi hx => ?_⟩
  have hm : x ∈ N.take m := by
    have : (N.take m)[i]? = some x := by rw [List.getElem?_take_of_lt hi]; exact hx
    exact List.mem_of_getElem? this
  have := List.all_eq_true.mp h x hm
  simp only [Bool.and_eq_true, Bool.not_eq_true'] at this
  obtain ⟨⟨h1, h2⟩, h3⟩ := this
  refine ⟨?_, h2, h3⟩
  unfold locB at h1
  split at h1
  · exact .inl (by assumption)
  · exact .inr (by assumption)
  · cases h1
theorem ae_nameV (A : At X N sc k) {m : Nat} (V : NameOk N sc m) {i : Nat} {x : Str} {pos : Pos} {d : Dt} [s : Slot N x i] (hi : Nat.blt i m = true) (hρ : ρ[i]? = some (some d)) (q : Q d η) : AE X (.Name x pos) ρ η Q := by
  obtain ⟨h1, h2, h3⟩ := V.ok i x (Nat.le_of_ble_eq_true hi) s.at_
  refine ae_name A i s.at_ hρ q ?_ h2 h3
  rcases h1 with h1 | h1
  · exact .inl h1
  · exact .inr (.inl h1)
/-- a name within a comprehension -/
theorem ae_nameB (A : At X N sc k) {i : Nat} {x : Str} {pos : Pos} {d : Dt} [s : Slot N x i] (hρ : ρ[i]? = some (some d)) (q : Q d η) (hv : Vis sc x := by first | exact Or.inl rfl | exact Or.inr (Or.inl rfl) | exact Or.inr (Or.inr rfl))
    (hd : (x == ("__debug__" : Str)) = false := by decide) (hcd : (x == ("__classdict__" : Str)) = false := by decide) : AE X (.Name x pos) ρ η Q := ae_name A i s.at_ hρ q hv hd hcd
theorem ag_nameV (A : At X N sc k) {m : Nat} (V : NameOk N sc m) (hf : ∀ y, X.fn y = true) {i : Nat} {x : Str} {pos : Pos} {d : Dt} [s : Slot N x i] (hi : Nat.blt i m = true) (q : QG (ρ.set i (some d)) η) : AG X (.Name x pos) d ρ η QG := by
  obtain ⟨h1, h2, h3⟩ := V.ok i x (Nat.le_of_ble_eq_true hi) s.at_
  exact ag_name A i s.at_ q h1 (.inl (hf x))
theorem as_setV (A : At X N sc k) {m : Nat} (V : NameOk N sc m) (hf : ∀ y, X.fn y = true) {i : Nat} {x : Str} {e : Expr} {pos pos' : Pos} [s : Slot N x i] (hi : Nat.blt i m = true) (h : AE X e ρ η fun d η1 => E.nx (ρ.set i (some d)) η1)
    (hs : swapsWith e (some (.Name x pos')) pos.line X.env = pure false := by rfl) : AS X (.Assign [.Name x pos'] e pos) ρ η E := by
  obtain ⟨h1, h2, h3⟩ := V.ok i x (Nat.le_of_ble_eq_true hi) s.at_
  exact as_set A i s.at_ h h1 (.inl (hf x)) hs
/-- y = [..] where y is a cell -/
theorem as_setC (A : At X N sc k) {m : Nat} (V : NameOk N sc m) (hf : ∀ y, X.fn y = true) {i : Nat} {x : Str} {e : Expr} {pos pos' : Pos} [s : Slot N x i] (hi : Nat.blt i m = true) (h : AE X e ρ η fun d η1 => E.nx (ρ.set i (some d)) η1)
    (hs : ∀ env : Env, env.scope = sc → swapsWith e (some (.Name x pos')) pos.line env = pure false := by intro env h; obtain ⟨⟩ := env; cases h; rfl) : AS X (.Assign [.Name x pos'] e pos) ρ η E :=
  as_setV A V hf hi h (hs X.env A.eS)
/-! comprehensions over one name, over a pair of names -/
theorem pgB_name (A : At X N sc k) {X' : Cx} {scope : Scope} (b : Blk X X' scope) {x : Str} {i : Nat} {pos : Pos} [s : Slot N x i] (hx : (relS scope sc).names.lookup x = some .local) : PG X' (.Name x pos) (gName i) := by
  have A' := b.at A
  exact pg_name (by rw [A'.eN]; exact A'.nd) (by rw [A'.eN]; exact s.at_) (by rw [A'.eS]; exact .inl hx) (.inr (by rw [A'.eS]; exact hx))
theorem Blk.eK {X' : Cx} {scope : Scope} (b : Blk X X' scope) : X'.K = X.K := by obtain ⟨s, H, C, cl, fp, rfl⟩ := b.ex; rfl
theorem pgB_pair (A : At X N sc k) {X' : Cx} {scope : Scope} (b : Blk X X' scope) {x y : Str} {i j : Nat} {p1 p2 pos : Pos} {c : _} [s : Slot N x i] [s2 : Slot N y j] (hx : (relS scope sc).names.lookup x = some .local) (hy : (relS scope sc).names.lookup y = some .local) :
    PG X' (.Tuple [.Name x p1, .Name y p2] c pos) (gTup X.K 2 (gCons (gName i) (gCons (gName j) gNil))) := by
  have A' := b.at A
  rw [← b.eK]
  exact pg_tup (n := 2) A'.calm (pgs_cons (pgB_name A b hx) (pgs_cons (pgB_name A b hy) pgs_nil rfl) rfl) rfl rfl
/-- what is asked of a comprehension over one name -/
def Lc1 (X : Cx) (N : List Str) (sc : Scope) (k : Nat) (scope : Scope) (elt : Expr) (ρ : Rho) (i : Nat) (Q : Dt → Eta → Prop) : RWk := fun n GE Y η1 => n ≤ 100000 ∧ (∀ η η', Sub η η' → GE η → GE η') ∧ GE η1 ∧ ∃ F : Nat → Dt → Prop,
      (∀ j d D acc X', j < n → Y j d → η1 D = none → acc.length = j → At X' N (relS scope sc) k → Blk X X' scope → AE X' elt ((ρ.set i none).set i (some d)) (up η1 D (.lst acc)) fun e η4 => Sub (up η1 D (.lst acc)) η4 ∧ F j e) ∧
      ∀ D acc, η1 D = none → acc.length = n → (∀ (j : Nat) (e : Dt), acc[j]? = some e → F j e) → Q (.ref D) (up η1 D (.lst acc))
def Lc2 (X : Cx) (N : List Str) (sc : Scope) (k : Nat) (scope : Scope) (elt : Expr) (ρ : Rho) (i j : Nat) (Q : Dt → Eta → Prop) : RWk := fun n GE Y η1 => n ≤ 100000 ∧ (∀ η η', Sub η η' → GE η → GE η') ∧ GE η1 ∧ ∃ F : Nat → Dt → Prop,
      (∀ m d D acc X', m < n → Y m d → η1 D = none → acc.length = m → At X' N (relS scope sc) k → Blk X X' scope → ∃ d1 d2, d = .tup [d1, d2] ∧ AE X' elt ((((ρ.set j none).set i none).set i (some d1)).set j (some d2)) (up η1 D (.lst acc)) fun e η4 => Sub (up η1 D (.lst acc)) η4 ∧ F m e) ∧
      ∀ D acc, η1 D = none → acc.length = n → (∀ (m : Nat) (e : Dt), acc[m]? = some e → F m e) → Q (.ref D) (up η1 D (.lst acc))
theorem ax_lc1 (A : At X N sc k) {elt iter : Expr} {scope : Scope} {tp : Pos} {x : Str} {i : Nat} (h : AI X (.Name x tp) iter ρ η (Lc1 X N sc k scope elt ρ i Q)) :
    AX X.K (tLc (tWI X (.Name x tp) iter) (gName i) tYes (fun σ H R => ∀ X', Blk X X' scope → tW X' elt σ H R) [i]) ρ η Q := by
  refine ax_lcG A [(x, i)] (gName i) (wipes_name i) ⟨?_⟩
  intro σ H S v b o
  refine h.run σ H S v b fun J n GE Y η1 H1 k1 b1 q w => o J n GE Y η1 H1 k1 b1 ?_ w
  obtain ⟨hn, mG, hG, F, hS, hE⟩ := q
  exact ⟨hn, mG, hG, F, fun j d D acc hj y hD hl => agt_name ⟨rfl, fun X' hX => hS j d D acc X' hj y hD hl (hX.at A) hX⟩, hE⟩
theorem ax_lc2 (A : At X N sc k) {elt iter : Expr} {scope : Scope} {tp p1 p2 : Pos} {c : _} {x y : Str} {i j : Nat} (hij : i ≠ j) (h : AI X (.Tuple [.Name x p1, .Name y p2] c tp) iter ρ η (Lc2 X N sc k scope elt ρ i j Q)) :
    AX X.K (tLc (tWI X (.Tuple [.Name x p1, .Name y p2] c tp) iter) (gTup X.K 2 (gCons (gName i) (gCons (gName j) gNil))) tYes (fun σ H R => ∀ X', Blk X X' scope → tW X' elt σ H R) [i, j]) ρ η Q := by
  refine ax_lcG A [(x, i), (y, j)] (gTup X.K 2 (gCons (gName i) (gCons (gName j) gNil))) (wipes_pair X.K i j hij) ⟨?_⟩
  intro σ H S v b o
  refine h.run σ H S v b fun J n GE Y η1 H1 k1 b1 q w => o J n GE Y η1 H1 k1 b1 ?_ w
  obtain ⟨hn, mG, hG, F, hS, hE⟩ := q
  refine ⟨hn, mG, hG, F, fun m d D acc hm y hD hl => ?_, hE⟩
  intro v σ H R mm vs bb oo
  have hX0 : Blk X (X.blk X.s_0 X.H_0 scope (compEnvC scope [] 0 X.env) []) scope := ⟨X.s_0, X.H_0, 0, [], [], rfl⟩
  obtain ⟨d1, d2, e, _⟩ := hS m d D acc _ hm y hD hl (hX0.at A) hX0
  subst e
  refine agt_pair (Q := fun ρ3 η3 => η3 = up η1 D (.lst acc) ∧ ∀ X', Blk X X' scope → AE X' elt ρ3 η3 fun e η4 => Sub η3 η4 ∧ F m e) ⟨rfl, fun X' hX => ?_⟩ v σ H R mm vs bb oo
  obtain ⟨a1, a2, e, q⟩ := hS m _ D acc X' hm y hD hl (hX.at A) hX
  cases e
  exact q
theorem ae_lc1 (A : At X N sc k) {elt iter : Expr} {scope : Scope} {pos tp : Pos} {x : Str} {i : Nat} [s : Slot N x i] (h : AI X (.Name x tp) iter ρ η (Lc1 X N sc k scope elt ρ i Q))
    (hx : (relS scope sc).names.lookup x = some .local := by rfl) (hb : blkC N sc scope [(x, i)] = true := by decide +kernel)
    (hs : ∀ x, foldedSetIterable iter X.env x = pure x := by intro _; rfl) : AE X (.ListComp elt [⟨.Name x tp, iter, [], 0⟩] scope pos) ρ η Q :=
  AX.of (pe_lcW A [(x, i)] (gName i) (fun X' b => pgB_name A b hx) hb hs) (ax_lc1 A h)
theorem ae_lc2 (A : At X N sc k) {elt iter : Expr} {scope : Scope} {pos tp p1 p2 : Pos} {c : _} {x y : Str} {i j : Nat} [s : Slot N x i] [s2 : Slot N y j] (h : AI X (.Tuple [.Name x p1, .Name y p2] c tp) iter ρ η (Lc2 X N sc k scope elt ρ i j Q))
    (hij : i ≠ j := by decide) (hx : (relS scope sc).names.lookup x = some .local := by rfl) (hy : (relS scope sc).names.lookup y = some .local := by rfl) (hb : blkC N sc scope [(x, i), (y, j)] = true := by decide +kernel)
    (hs : ∀ x, foldedSetIterable iter X.env x = pure x := by intro _; rfl) : AE X (.ListComp elt [⟨.Tuple [.Name x p1, .Name y p2] c tp, iter, [], 0⟩] scope pos) ρ η Q :=
  AX.of (pe_lcW A [(x, i), (y, j)] (gTup X.K 2 (gCons (gName i) (gCons (gName j) gNil))) (fun X' b => pgB_pair A b hx hy) hb hs) (ax_lc2 A hij h)
/-! y = [..] -/
theorem as_lc1 (A : At X N sc k) {elt iter : Expr} {scope : Scope} {pos tp py spos : Pos} {x y : Str} {i m : Nat} [s : Slot N x i] [sy : Slot N y m] (h : AI X (.Name x tp) iter ρ η (Lc1 X N sc k scope elt ρ i fun d η1 => E.nx (ρ.set m (some d)) η1))
    (hx : (relS scope sc).names.lookup x = some .local := by rfl) (hb : blkC N sc scope [(x, i)] = true := by decide +kernel) (hy : sc.names.lookup y = some .local := by rfl) (hk : sc.kind = .function := by rfl) (hl : (py.line == pos.line) = true := by rfl)
    (ha : (scope.names.any fun (n, k) => n == y && (k == .local || k == .cell)) = false := by decide +kernel)
    (hs : ∀ x, foldedSetIterable iter X.env x = pure x := by intro _; rfl) : AS X (.Assign [.Name y py] (.ListComp elt [⟨.Name x tp, iter, [], 0⟩] scope pos) spos) ρ η E :=
  as_lcW (ps_lcW A [(x, i)] (gName i) sy.at_ hy (sw_true (by rw [A.eS]; exact hk) (by rw [A.eS]; exact hy) hl ha) (fun X' b => pgB_name A b hx) hb hs) (ax_lc1 A h)
theorem as_lc2 (A : At X N sc k) {elt iter : Expr} {scope : Scope} {pos tp p1 p2 py spos : Pos} {c : _} {x z y : Str} {i j m : Nat} [s : Slot N x i] [s2 : Slot N z j] [sy : Slot N y m] (h : AI X (.Tuple [.Name x p1, .Name z p2] c tp) iter ρ η (Lc2 X N sc k scope elt ρ i j fun d η1 => E.nx (ρ.set m (some d)) η1))
    (hij : i ≠ j := by decide) (hx : (relS scope sc).names.lookup x = some .local := by rfl) (hz : (relS scope sc).names.lookup z = some .local := by rfl) (hb : blkC N sc scope [(x, i), (z, j)] = true := by decide +kernel) (hy : sc.names.lookup y = some .local := by rfl) (hk : sc.kind = .function := by rfl) (hl : (py.line == pos.line) = true := by rfl)
    (ha : (scope.names.any fun (n, k) => n == y && (k == .local || k == .cell)) = false := by decide +kernel)
    (hs : ∀ x, foldedSetIterable iter X.env x = pure x := by intro _; rfl) : AS X (.Assign [.Name y py] (.ListComp elt [⟨.Tuple [.Name x p1, .Name z p2] c tp, iter, [], 0⟩] scope pos) spos) ρ η E :=
  as_lcW (ps_lcW A [(x, i), (z, j)] (gTup X.K 2 (gCons (gName i) (gCons (gName j) gNil))) sy.at_ hy (sw_true (by rw [A.eS]; exact hk) (by rw [A.eS]; exact hy) hl ha) (fun X' b => pgB_pair A b hx hz) hb hs) (ax_lc2 A hij h)
/-! guards: the shape of what is asked -/
theorem is_name {x : Str} {pos : Pos} (h : AE X (.Name x pos) ρ η Q) : AE X (.Name x pos) ρ η Q := h
theorem is_set {x : Str} {pos pos' : Pos} {e : Expr} (h : AS X (.Assign [.Name x pos'] e pos) ρ η E) : AS X (.Assign [.Name x pos'] e pos) ρ η E := h
theorem is_tgt {x : Str} {pos : Pos} {d : Dt} (h : AG X (.Name x pos) d ρ η QG) : AG X (.Name x pos) d ρ η QG := h
theorem is_sub {d e : Dt} (h : subD η Q d e) : subD η Q d e := h
theorem is_ii {C : Int → Int → Prop} {g : Int → Int → Dt} {d e : Dt} (h : iiD C g η Q d e) : iiD C g η Q d e := h
/-! ### leaves -/
theorem addD_int {i j : Int} (q : Q (.int (i + j)) η) : addD η Q (.int i) (.int j) := .int q
theorem addD_str {i j : Str} (h : i.length + j.length ≤ sizeLine) (q : Q (.str (i ++ j)) η) : addD η Q (.str i) (.str j) := .str h q
theorem addD_lst {p r : Addr} {xs ys : List Dt} (h1 : η p = some (.lst xs)) (h2 : η r = some (.lst ys)) (h : xs.length + ys.length ≤ sizeLine) (q : ∀ s, η s = none → Q (.ref s) (up η s (.lst (xs ++ ys)))) : addD η Q (.ref p) (.ref r) := .lst h1 h2 h q
theorem subD_tup {l : List Dt} {i : Int} {x : Dt} (h : atI l i = some x) (q : Q x η) : subD η Q (.tup l) (.int i) := .tup h q
theorem subD_str {z : Str} {i : Int} {c : Nat} (hz : z.length ≤ sizeLine) (h : atI z.cps.toList i = some c) (q : Q (.str ⟨#[c]⟩) η) : subD η Q (.str z) (.int i) := .str hz h q
theorem subD_lst {p : Addr} {l : List Dt} {i : Int} {x : Dt} (hp : η p = some (.lst l)) (h : atI l i = some x) (q : Q x η) : subD η Q (.ref p) (.int i) := .ref hp (.lst h) q
theorem subD_rl {p : Addr} {l : List Dt} {i : Int} {x : Dt} (hp : η p = some (.rl l)) (h : atI l i = some x) (q : Q x η) : subD η Q (.ref p) (.int i) := .ref hp (.rl h) q
theorem atN {α : Type} {l : List α} {j : Nat} {x : α} (h : l[j]? = some x) : atI l (j : Int) = some x := atI_nat h
theorem ix0 {α : Type} {l : List α} {x : α} (h : l[0]? = some x) : atI l 0 = some x := atI_nat (j := 0) h
theorem ix1 {α : Type} {l : List α} {x : α} (h : l[1]? = some x) : atI l 1 = some x := atI_nat (j := 1) h
theorem ix2 {α : Type} {l : List α} {x : α} (h : l[2]? = some x) : atI l 2 = some x := atI_nat (j := 2) h
theorem ix3 {α : Type} {l : List α} {x : α} (h : l[3]? = some x) : atI l 3 = some x := atI_nat (j := 3) h
theorem len_l {p : Addr} {ds : List Dt} (h : η p = some (.lst ds)) (hl : ds.length ≤ 100000) (q : Q (.int (ds.length : Nat)) η) : LenOk η Q (.ref p) := .mk (n := ds.length) (by rw [lenD, h]; rfl) (le_sz hl) q
theorem len_t {ds : List Dt} (hl : ds.length ≤ 100000) (q : Q (.int (ds.length : Nat)) η) : LenOk η Q (.tup ds) := .mk (n := ds.length) rfl (le_sz hl) q
theorem len_s {z : Str} (hl : z.length ≤ 100000) (q : Q (.int (z.length : Nat)) η) : LenOk η Q (.str z) := .mk (n := z.length) rfl (le_sz hl) q
theorem items_l {p : Addr} {ds : List Dt} (h : η p = some (.lst ds)) : itemsD η (.ref p) = some ds := by rw [itemsD, h]; rfl
theorem isL {p : Addr} {ds : List Dt} (h : η p = some (.lst ds)) : IsL η (.ref p) := ⟨p, ds, rfl, .inl h⟩
/-! ### stores -/
/-- what a store at an item makes of a mutable thing -/
inductive SetOk : Mo → Dt → Dt → Mo → Prop
  | lst {ds : List Dt} {i : Int} {j : Nat} {v : Dt} : ixN ds.length i = some j → SetOk (.lst ds) (.int i) v (.lst (ds.set j v))
  | dic {kvs : List (Key × Dt)} {i : Int} {v : Dt} : kvs.length < 100000 → SetOk (.dic kvs) (.int i) v (.dic (putA kvs (Sum.inl i) v))
theorem ixN_nat {n j : Nat} (h : j < n) : ixN n (j : Int) = some j := by
  unfold ixN
  rw [if_pos (by omega), if_pos (by omega)]; simp
theorem set_lst {ds : List Dt} {j : Nat} {v : Dt} (h : j < ds.length) : SetOk (.lst ds) (.int (j : Int)) v (.lst (ds.set j v)) := .lst (ixN_nat h)
theorem set_all (A : At X N sc k) : PSet X (fun o i v H Q => rSetL o i v H Q ∨ ∃ a H2, o = .ref a ∧ DPut H a i v H2 ∧ Q H2) := by
  intro pins s σ H o i v ov iv u Q I ro ri rv h
  rcases h with h | ⟨a, H2, rfl, g, q⟩
  · exact set_list pins s σ H o i v ov iv u Q I ro ri rv h
  · obtain rfl : ov = Value.ref a := ro
    exact d_setItem (Nat.lt_of_le_of_lt (Nat.add_le_add_left (by decide) _) A.hu) I g ri rv fun s' I' => ⟨_, I', q⟩
theorem kr_im {H : Hp} {ks : List (Key × V)} {kvs : List (Key × Dt)} (h : KR (Im K H) ks kvs) (k : Kt K H H') : KR (Im K H') ks kvs := paired_imp (fun _ _ q => ⟨q.1, q.2.kt k⟩) h
theorem ag_sub (A : At X N sc k) {o i : Expr} {pos : Pos} {v : Dt} (h : AE X o ρ η fun d η1 => AE X i ρ η1 fun e η2 => ∃ p m m', d = .ref p ∧ η2 p = some m ∧ SetOk m e v m' ∧ QG ρ (up η2 p m'))
    (ha : ∀ v, assign (.Subscript o i pos) X.env v = (do let ov ← holding [v] (eval o X.env); let iv ← holding [v, ov] (eval i X.env); standAt pos; holding [v, ov, iv] (setItem ov iv v); release [v, ov, iv] []) := by intro _; rfl) : AG X (.Subscript o i pos) v ρ η QG := by
  refine AGt.of (pg_sub (peW o) (peW i) (set_all A) ha) ?_
  intro x σ H R m vs b oo
  refine h.run σ H _ vs b fun d η1 y H1 k1 m1 b1 q1 => ?_
  refine q1.run σ H1 _ (vs.kt k1) b1 fun e η2 z H2 k2 m2 b2 q2 => ?_
  obtain ⟨p, mo, mo', rfl, h1, h2, q⟩ := q2
  have mx := m.kt (k1.trans k2)
  have hy : y = .ref p := m1.ref_inv
  have hm := b2 _ _ h1
  have vv := vs.kt (k1.trans k2)
  cases h2 with
  | @lst ds i j _ hj =>
    obtain ⟨ws, a1, a2⟩ := hm
    have kt : Kt X.K H2 (upd H2 p (.lst (ws.set j x))) := Kt.lst a1
    exact .inl ⟨p, ws, i, j, hy, m2.int_inv, a1, by rw [a2.len]; exact hj, oo _ _ _ _ ((k1.trans k2).trans kt) (vv.kt kt) (b2.mut (m := .lst _) kt ⟨_, upd_same, (a2.set mx j).kt kt⟩) q⟩
  | @dic kvs i _ hl =>
    obtain ⟨ks, a1, a2⟩ := hm
    have kt : Kt X.K H2 (upd H2 p (.dK (putK ks (Sum.inl i) x))) := Kt.dK a1
    refine .inr ⟨p, _, hy, .inl ⟨ks, Sum.inl i, a1, m2.int_inv, ?_, rfl⟩, oo _ _ _ _ ((k1.trans k2).trans kt) (vv.kt kt) (b2.mut (m := .dic _) kt ⟨_, upd_same, kr_im (KR.put a2 mx) kt⟩) q⟩
    have : ks.length = kvs.length := KR.len a2
    rw [this]; exact lt_sz hl
/-! ### dicts of whole numbers -/
theorem ae_dnew {pos : Pos} (q : ∀ p, η p = none → Q (.ref p) (up η p (.dic []))) : AE X (.Dict [] [] pos) ρ η Q := by
  refine AX.of pe_dnewK ?_
  intro σ H R v b o p hp
  exact o _ _ _ _ (Kt.new hp) (.ref p) (b.newM (m := .dic []) hp ⟨[], upd_same, .nil⟩) (q p (b.free hp))
/-- d[k], lists and tuples besides -/
def keyD : Dt → Option Key
  | .int i => some (.inl i)
  | .str x => some (.inr x)
  | _ => none
theorem Im.key {v : V} {d : Dt} {k : Key} (h : Im K H v d) (e : keyD d = some k) : v = kV k := by
  cases d <;> simp [keyD] at e
  · subst e; exact h.int_inv
  · subst e; exact h.str_inv
theorem ae_dget (A : At X N sc k) {o i : Expr} {pos : Pos} (h : AE X o ρ η fun d η1 => AE X i ρ η1 fun e η2 => ∃ p kvs k v, d = .ref p ∧ η2 p = some (.dic kvs) ∧ keyD e = some k ∧ lkA kvs k = some v ∧ Q v η2) (hs : NoSl i := by intro _ _; rfl) : AE X (.Subscript o i pos) ρ η Q := by
  refine AX.of (pe_dget (Nat.lt_of_le_of_lt (Nat.add_le_add_left (by decide) _) A.hu) (peW o) (peW i) hs) ?_
  intro σ H R v b oo
  refine h.run σ H _ v b fun d η1 x H1 k1 m1 b1 q1 => ?_
  refine q1.run σ H1 _ (v.kt k1) b1 fun e η2 y H2 k2 m2 b2 q2 => ?_
  obtain ⟨p, kvs, k, u, rfl, h1, h2, h3, q⟩ := q2
  obtain ⟨ks, a1, a2⟩ := b2 _ _ h1
  rcases KR.lk a2 k with ⟨_, c⟩ | ⟨w, u', c1, c2, c3⟩
  · rw [c] at h3; cases h3
  · rw [c2] at h3; cases h3
    exact ⟨p, w, m1.ref_inv, .inl ⟨ks, k, .inl a1, m2.key h2, c1.symm⟩, oo _ η2 _ H2 (k1.trans k2) c3 b2 q⟩
theorem at_dnotin (A : At X N sc k) {i o : Expr} {pos : Pos} (h : AE X i ρ η fun e η1 => AE X o ρ η1 fun d η2 => ∃ p kvs k, d = .ref p ∧ η2 p = some (.dic kvs) ∧ keyD e = some k ∧ (lkA kvs k = none → T η2) ∧ (lkA kvs k ≠ none → F η2))
    (h1 : behindInMarks .NotIn o = false := by first | exact nobehind _ (by decide) (by decide) | rfl) : AT X (.Compare i [.NotIn] [o] pos) ρ η T F := by
  refine ATt.of (pt_cmp (pc_dnotin (Nat.lt_of_le_of_lt (Nat.add_le_add_left (by decide) _) A.hu) (peW i) (peW o)) h1) ?_
  intro σ H R v b oo
  refine h.run σ H _ v b fun e η1 y H1 k1 m1 b1 q1 => ?_
  refine q1.run σ H1 _ (v.kt k1) b1 fun d η2 x H2 k2 m2 b2 q2 => ?_
  obtain ⟨p, kvs, k, rfl, h1, h2, q⟩ := q2
  obtain ⟨ks, a1, a2⟩ := b2 _ _ h1
  refine ⟨p, _, m2.ref_inv, .inl ⟨ks, k, .inl a1, (m1.kt k2).key h2, rfl⟩, _, rfl, oo _ η2 H2 (k1.trans k2) b2 ?_⟩
  rw [valV_lkA]
  rcases KR.lk a2 k with ⟨c1, c2⟩ | ⟨w, u', c1, c2, c3⟩
  · rw [c1]; exact ⟨fun _ => q.1 c2, fun z => (by cases z)⟩
  · rw [c1]; exact ⟨fun z => (by cases z), fun _ => q.2 (by rw [c2]; simp)⟩
theorem at_din (A : At X N sc k) {i o : Expr} {pos : Pos} (h : AE X i ρ η fun e η1 => AE X o ρ η1 fun d η2 => ∃ p kvs k, d = .ref p ∧ η2 p = some (.dic kvs) ∧ keyD e = some k ∧ (lkA kvs k ≠ none → T η2) ∧ (lkA kvs k = none → F η2))
    (h1 : behindInMarks .In o = false := by first | exact nobehind _ (by decide) (by decide) | rfl) : AT X (.Compare i [.In] [o] pos) ρ η T F := by
  refine ATt.of (pt_cmp (pc_din (Nat.lt_of_le_of_lt (Nat.add_le_add_left (by decide) _) A.hu) (peW i) (peW o)) h1) ?_
  intro σ H R v b oo
  refine h.run σ H _ v b fun e η1 y H1 k1 m1 b1 q1 => ?_
  refine q1.run σ H1 _ (v.kt k1) b1 fun d η2 x H2 k2 m2 b2 q2 => ?_
  obtain ⟨p, kvs, k, rfl, h1, h2, q⟩ := q2
  obtain ⟨ks, a1, a2⟩ := b2 _ _ h1
  refine ⟨p, _, m2.ref_inv, .inl ⟨ks, k, .inl a1, (m1.kt k2).key h2, rfl⟩, _, rfl, oo _ η2 H2 (k1.trans k2) b2 ?_⟩
  rw [valV_lkA]
  rcases KR.lk a2 k with ⟨c1, c2⟩ | ⟨w, u', c1, c2, c3⟩
  · rw [c1]; exact ⟨fun z => (by cases z), fun _ => q.2 c2⟩
  · rw [c1]; exact ⟨fun _ => q.1 (by rw [c2]; simp), fun z => (by cases z)⟩
end FgA
/-! FgA7: dict(..) of pairs, index, membership of data, fields, texts. -/
namespace FgA
open PySem PySem.Spec PyProof.Rows L2
variable {X : Cx} {K : PySem.W.Frag} {H H' : Hp} {ρ : Rho} {η : Eta} {Q : Dt → Eta → Prop} {E : AEnds} {N : List Str} {sc : Scope} {k : Nat} {T F : Eta → Prop} {QG : Rho → Eta → Prop}
theorem At.hu65 (A : At X N sc k) : X.A.units + 65 < cLine := by have := A.room.un; omega
/-! ### dict(pairs) -/
def keyDt : Key → Dt
  | .inl i => .int i
  | .inr x => .str x
def mergeA {α : Type} (kvs more : List (Key × α)) : List (Key × α) := more.foldl (fun acc kv => putA acc kv.1 kv.2) kvs
theorem KR.merge {α β : Type} {R : α → β → Prop} : ∀ {ms : List (Key × α)} {ns : List (Key × β)}, KR R ms ns → ∀ {xs : List (Key × α)} {ys : List (Key × β)}, KR R xs ys → KR R (mergeA xs ms) (mergeA ys ns)
  | _, _, .nil, _, _, h => h
  | _, _, .cons (a := a) (b := b) hh ht, xs, ys, h => by
    have := KR.put (k := a.1) h hh.2
    have e : KR R (putA xs a.1 a.2) (putA ys b.1 b.2) := hh.1 ▸ this
    exact KR.merge ht e
theorem lkA_merge {α : Type} {k : Key} : ∀ (more kvs : List (Key × α)), lkA (mergeA kvs more) k = ((lkA more.reverse k).or (lkA kvs k))
  | [], kvs => by simp [mergeA, lkA_nil]
  | a :: r, kvs => by
    show lkA (mergeA (putA kvs a.1 a.2) r) k = _
    rw [lkA_merge r, lkA_put, List.reverse_cons, lkA_app, lkA_cons, lkA_nil]
    cases lkA r.reverse k with
    | some v => rfl
    | none =>
      by_cases e : a.1 = k
      · rw [if_pos e.symm, if_pos e]; rfl
      · rw [if_neg (fun z => e z.symm), if_neg e]; rfl
theorem pairs_inv {H : Hp} : ∀ {vs : List V} {kvs : List (Key × Dt)}, Ims K H vs (kvs.map fun kv => .tup [keyDt kv.1, kv.2]) →
    ∃ (ps : List Addr) (ks : List (Key × V)), vs = ps.map V.ref ∧ Paired (fun p (kv : Key × V) => SqT K H p [kV kv.1, kv.2]) ps ks ∧ KR (Im K H) ks kvs
  | _, [], h => by
    cases h
    exact ⟨[], [], rfl, .nil, .nil⟩
  | _, kv :: r, h => by
    cases h with
    | cons h1 h2 =>
      obtain ⟨ps, ks, e, h3, h4⟩ := pairs_inv h2
      obtain ⟨a, xs, e2, hs, hi⟩ := h1.tup_inv
      obtain ⟨u, v, e3, hu, hv⟩ := hi.two_inv
      have ek : u = kV kv.1 := by
        cases hk : kv.1 with
        | inl i => rw [hk] at hu; exact hu.int_inv
        | inr x => rw [hk] at hu; exact hu.str_inv
      subst e e2 e3 ek
      exact ⟨a :: ps, (kv.1, v) :: ks, rfl, .cons hs h3, .cons ⟨rfl, hv⟩ h4⟩
theorem ae_dict (A : At X N sc k) (B : Bt X) {p pos : Pos} {e : Expr} (h : AE X e ρ η fun d η1 => ∃ q kvs, d = .ref q ∧ η1 q = some (.lst (kvs.map fun kv => .tup [keyDt kv.1, kv.2])) ∧ ∀ r, η1 r = none → Q (.ref r) (up η1 r (.dic (mergeA [] kvs))))
    (hg : sc.names.lookup ("dict" : Str) = some .globalImplicit := by rfl) (he : starEach [e] X.env = (false, eval e X.env) :: starEach [] X.env := by rfl) (hpl : (backTo pos (starEach [] X.env)).any (·.1) = false := by rfl) : AE X (.Call (.Name "dict" p) [e] [] pos) ρ η Q := by
  refine ae_ct A (call_dictP A.calm) B.dict (by decide +kernel) (aa_cons (h.mono fun d η1 q => aa_nil ?_) he) hg (by decide) (by decide) he hpl
  obtain ⟨r, kvs, rfl, h1, q⟩ := q
  intro xs H R m b o
  obtain ⟨v, rfl, m0⟩ := m.one_inv
  obtain ⟨vs, a1, a2⟩ := b _ _ h1
  obtain ⟨ps, ks, rfl, h3, h4⟩ := pairs_inv a2
  refine ⟨r, ps, ks, by rw [m0.ref_inv], SqL.of a1, h3, fun s hs => ?_⟩
  exact o _ _ _ _ (Kt.new hs) (.ref s) (b.newM (m := .dic _) hs ⟨_, upd_same, kr_im (KR.merge h4 .nil) (Kt.new hs)⟩) (q s (b.free hs))
/-! ### list.index, in, not in: of data -/
theorem okd_list {n : Nat} {ds : List Dt} (h : ∀ x ∈ ds, okd n x = true) (hn : n ≤ 63) : SeqAt.shaped (.list (pys ds)) = true := by
  obtain ⟨a, b⟩ := okd_lay (n + 1) (.tup ds) (by simpa [okd] using h)
  rw [py] at a b
  rw [PyData.canLay0] at a
  rw [PyData.depth] at b
  unfold SeqAt.shaped
  rw [PyData.canLay0, PyData.depth, a, Bool.true_and, decide_eq_true_eq]
  omega
theorem pys_get {ds : List Dt} {j : Nat} : (pys ds)[j]? = ds[j]?.map py := by rw [pys_map, List.getElem?_map]
theorem am_index (A : At X N sc k) {p : Addr} {ds : List Dt} {x : Dt} {j : Nat} (h : η p = some (.lst ds)) (ho : ∀ y ∈ ds, okd 8 y = true) (hx : okd 8 x = true) (hj : ds[j]? = some x) (hno : ∀ m, m < j → ds[m]? ≠ some x) (q : Q (.int j) η) : AM X.K (rIndexD X.K) (.ref p) [x] η Q := by
  intro v xs H R m ms b o
  obtain ⟨y, rfl, my⟩ := ms.one_inv
  obtain ⟨vs, a1, a2⟩ := b _ _ h
  refine ⟨p, y, py x, pys ds, j, py x, m.ref_inv, rfl, .lst (SqL.of a1) (a2.dps ho), my.dp hx, okd_list ho (by decide), okd_shaped hx (by decide), by rw [pys_get, hj]; rfl, (eqv_dt 8 8 x x hx hx).mpr rfl, fun i z hi hz => ?_, o _ η _ H Kt.refl (.int _) b q⟩
  rw [pys_get] at hz
  obtain ⟨d, hd, rfl⟩ := Option.map_eq_some_iff.mp hz
  cases e : PyData.eqv (py d) (py x) with
  | false => rfl
  | true => exact absurd (by rw [hd, (eqv_dt 8 8 d x (ho _ (List.mem_of_getElem? hd)) hx).mp e]) (hno i hi)
theorem ae_index (A : At X N sc k) {o e : Expr} {apos cpos : Pos} (h : AE X o ρ η fun d η1 => IsL η1 d ∧ AA X [e] ρ η1 fun as η2 => AM X.K (rIndexD X.K) d as η2 Q) (m : MC X o "index" [e] apos cpos := by exact ⟨rfl, rfl, rfl⟩)
    (hs : starEach [e] X.env = (false, eval e X.env) :: starEach [] X.env := by rfl) (hpl : (backTo cpos (starEach [] X.env)).any (·.1) = false := by rfl) : AE X (.Call (.Attribute o "index" apos) [e] [] cpos) ρ η Q :=
  ae_bm PySem.F.slot_list_index PySem.F.type_list_index (mt_indexD A.hu65) m h hs hpl
theorem any_eqv {ds : List Dt} {x : Dt} (ho : ∀ y ∈ ds, okd 8 y = true) (hx : okd 8 x = true) : ((pys ds).any fun z => PyData.eqv z (py x)) = true ↔ x ∈ ds := by
  rw [List.any_eq_true, pys_map]
  constructor
  · rintro ⟨z, hz, e⟩
    obtain ⟨d, hd, rfl⟩ := List.mem_map.mp hz
    exact (eqv_dt 8 8 d x (ho d hd) hx).mp e ▸ hd
  · intro h
    exact ⟨py x, List.mem_map_of_mem h, (eqv_dt 8 8 x x hx hx).mpr rfl⟩
theorem ar_inL {d x : Dt} (h : ∃ p ds, d = .ref p ∧ η p = some (.lst ds) ∧ (∀ y ∈ ds, okd 8 y = true) ∧ okd 8 x = true ∧ ∀ c : Bool, (c = true ↔ x ∈ ds) → Q (.bl c) η) : AR K (rInD K) x d η Q := by
  intro v u H R mx md b o
  obtain ⟨p, ds, rfl, h1, h2, h3, q⟩ := h
  obtain ⟨vs, a1, a2⟩ := b _ _ h1
  exact ⟨py x, pys ds, mx.dp h3, by rw [md.ref_inv]; exact .lst (SqL.of a1) (a2.dps h2), okd_shaped h3 (by decide), okd_list h2 (by decide), o _ η _ H Kt.refl (.bl _) b (q _ (any_eqv h2 h3))⟩
theorem ar_ninL {d x : Dt} (h : ∃ p ds, d = .ref p ∧ η p = some (.lst ds) ∧ (∀ y ∈ ds, okd 8 y = true) ∧ okd 8 x = true ∧ ∀ c : Bool, (c = true ↔ x ∉ ds) → Q (.bl c) η) : AR K (rNotInD K) x d η Q := by
  intro v u H R mx md b o
  obtain ⟨p, ds, rfl, h1, h2, h3, q⟩ := h
  obtain ⟨vs, a1, a2⟩ := b _ _ h1
  refine ⟨py x, pys ds, mx.dp h3, by rw [md.ref_inv]; exact .lst (SqL.of a1) (a2.dps h2), okd_shaped h3 (by decide), okd_list h2 (by decide), o _ η _ H Kt.refl (.bl _) b (q _ ?_)⟩
  have := any_eqv h2 h3
  cases z : (pys ds).any fun z => PyData.eqv z (py x) <;> simp_all
theorem at_inL (A : At X N sc k) {a b : Expr} {pos : Pos} (h : AE X a ρ η fun x η1 => AE X b ρ η1 fun d η2 => ∃ p ds, d = .ref p ∧ η2 p = some (.lst ds) ∧ (∀ y ∈ ds, okd 8 y = true) ∧ okd 8 x = true ∧ (x ∈ ds → T η2) ∧ (x ∉ ds → F η2)) (hm : behindInMarks .In b = false := by first | exact nobehind _ (by decide) (by decide) | rfl) : AT X (.Compare a [.In] [b] pos) ρ η T F := by
  refine at_cmpr (op_inD A.hu65) hm (h.mono fun x η1 q => q.mono fun d η2 q2 => ?_)
  obtain ⟨p, ds, e, h1, h2, h3, q⟩ := q2
  exact ar_inL ⟨p, ds, e, h1, h2, h3, fun c hc => ⟨c, rfl, fun z => q.1 (hc.mp z), fun z => q.2 fun y => by rw [hc.mpr y] at z; cases z⟩⟩
theorem at_ninL (A : At X N sc k) {a b : Expr} {pos : Pos} (h : AE X a ρ η fun x η1 => AE X b ρ η1 fun d η2 => ∃ p ds, d = .ref p ∧ η2 p = some (.lst ds) ∧ (∀ y ∈ ds, okd 8 y = true) ∧ okd 8 x = true ∧ (x ∉ ds → T η2) ∧ (x ∈ ds → F η2)) (hm : behindInMarks .NotIn b = false := by first | exact nobehind _ (by decide) (by decide) | rfl) : AT X (.Compare a [.NotIn] [b] pos) ρ η T F := by
  refine at_cmpr (op_notInD A.hu65) hm (h.mono fun x η1 q => q.mono fun d η2 q2 => ?_)
  obtain ⟨p, ds, e, h1, h2, h3, q⟩ := q2
  exact ar_ninL ⟨p, ds, e, h1, h2, h3, fun c hc => ⟨c, rfl, fun z => q.1 (hc.mp z), fun z => q.2 (Classical.byContradiction fun y => by rw [hc.mpr y] at z; cases z)⟩⟩
/-! in of a tuple of plain scalars -/
def flatD : Dt → Bool
  | .non => true
  | .int _ => true
  | .str _ => true
  | _ => false
theorem flat_inv {v : V} {d : Dt} (h : flatD d = true) (m : Im K H v d) : flatV v = true ∧ ∀ (u : V) (e : Dt), flatD e = true → Im K H u e → (eqV u v = true ↔ e = d) := by
  cases d with
  | non =>
    rw [m.non_inv]
    refine ⟨rfl, fun u e he mu => ?_⟩
    cases e <;> simp [flatD] at he
    · rw [mu.non_inv]; simp [eqV]
    · rw [mu.int_inv]; simp [eqV]
    · rw [mu.str_inv]; simp [eqV]
  | int i =>
    rw [m.int_inv]
    refine ⟨rfl, fun u e he mu => ?_⟩
    cases e <;> simp [flatD] at he
    · rw [mu.non_inv]; simp [eqV]
    · rw [mu.int_inv]; simp [eqV]
    · rw [mu.str_inv]; simp [eqV]
  | str i =>
    rw [m.str_inv]
    refine ⟨rfl, fun u e he mu => ?_⟩
    cases e <;> simp [flatD] at he
    · rw [mu.non_inv]; simp [eqV]
    · rw [mu.int_inv]; simp [eqV]
    · rw [mu.str_inv]; simp [eqV]
  | _ => simp [flatD] at h
theorem inV_iff {v : V} {d : Dt} (hd : flatD d = true) (m : Im K H v d) : ∀ {xs : List V} {ds : List Dt}, Ims K H xs ds → (∀ y ∈ ds, flatD y = true) → xs.all flatV = true ∧ (inV v xs = true ↔ d ∈ ds)
  | _, _, .nil, _ => ⟨rfl, by simp [inV]⟩
  | _, _, .cons (v := u) (vs := us) (d := e) (ds := es) a b, h => by
    obtain ⟨h1, h2⟩ := inV_iff hd m b fun y hy => h y (List.mem_cons_of_mem _ hy)
    have he := h e (List.mem_cons_self ..)
    refine ⟨by rw [List.all_cons, h1, (flat_inv he a).1]; rfl, ?_⟩
    show (eqV u v || inV v us) = true ↔ _
    rw [Bool.or_eq_true, h2, (flat_inv hd m).2 u e he a, List.mem_cons, eq_comm]
theorem at_inT {a b : Expr} {pos : Pos} (h : AE X a ρ η fun x η1 => AE X b ρ η1 fun d η2 => ∃ ds, d = .tup ds ∧ (∀ y ∈ ds, flatD y = true) ∧ flatD x = true ∧ (x ∈ ds → T η2) ∧ (x ∉ ds → F η2)) (hm : behindInMarks .In b = false := by first | exact nobehind _ (by decide) (by decide) | rfl) : AT X (.Compare a [.In] [b] pos) ρ η T F := by
  refine at_cmpr op_in_seq hm (h.mono fun x η1 q => q.mono fun d η2 q2 => ?_)
  obtain ⟨ds, rfl, h2, h3, q⟩ := q2
  intro v u H R mx md bb o
  obtain ⟨p, xs, rfl, hs, hi⟩ := md.tup_inv
  obtain ⟨c1, c2⟩ := inV_iff h3 mx hi h2
  exact ⟨p, xs, rfl, .inr hs, (flat_inv h3 mx).1, c1, o _ η2 _ H Kt.refl (.bl _) bb ⟨_, rfl, fun z => q.1 (c2.mp z), fun z => q.2 fun y => by rw [show (if false = true then !inV v xs else inV v xs) = inV v xs from rfl, c2.mpr y] at z; cases z⟩⟩
/-! ### texts -/
theorem foldl_cat {α : Type} (a : Array α) : ∀ (n : Nat) (acc : Array α), List.foldl (· ++ ·) acc (List.replicate n a) = (acc.toList ++ (List.replicate n a.toList).flatten).toArray
  | 0, acc => by simp
  | n + 1, acc => by
    rw [List.replicate_succ, List.foldl_cons, foldl_cat a n, List.replicate_succ, List.flatten_cons, Array.toList_append, List.append_assoc]
def repS (z : Str) (n : Nat) : Str := ⟨((List.replicate n z.cps.toList).flatten).toArray⟩
theorem repS_length (z : Str) (n : Nat) : (repS z n).length = z.length * n := by
  show ((List.replicate n z.cps.toList).flatten).toArray.size = z.cps.size * n
  rw [List.size_toArray, List.length_flatten, List.map_replicate, List.sum_replicate_nat, Array.length_toList, Nat.mul_comm]
theorem op_rep_str : OpR X (binaryOp .Mult) (fun x y H Q => ∃ (z : Str) (n : Nat), x = .str z ∧ y = .int (n : Int) ∧ 0 < z.length ∧ z.length * n ≤ 100000 ∧ Q (.str (repS z n)) H) := by
  intro pins s σ H x y v u Q I rx ry h
  obtain ⟨z, n, rfl, rfl, hz, hl, q⟩ := h
  obtain ⟨t, rfl⟩ := rx
  obtain ⟨t2, rfl⟩ := ry
  have hn1 : n ≤ 100000 := Nat.le_trans (Nat.le_mul_of_pos_left n hz) hl
  have e0 : ((n : Nat) : Int).toNat = n := Int.toNat_natCast n
  have el : (repS z n).length ≤ sizeLine := by rw [repS_length]; exact le_sz hl
  have ef : (⟨(List.replicate n z.cps).foldl (· ++ ·) #[]⟩ : Str) = repS z n := by
    rw [foldl_cat]; rfl
  refine P.mul_str ?_ ?_ ?_ ?_
  · rw [decide_eq_false (by omega), decide_eq_false (by omega)]; rfl
  · intro hn _ hgt
    have h1 : ((2 : Int) ^ 63 - 1) / n < z.length := hgt
    rw [Int.ediv_lt_iff_lt_mul (by omega)] at h1
    have h2 : ((z.length * n : Nat) : Int) ≤ 100000 := Int.ofNat_le.mpr hl
    rw [Int.natCast_mul] at h2
    omega
  · intro _ _
    show Builtin.Str.tooLong _ = false
    rw [e0]
    unfold Builtin.Str.tooLong
    have := Nat.lt_of_le_of_lt hl (show 100000 < sizeLine by decide)
    exact decide_eq_false (by omega)
  · by_cases hn : ((n : Nat) : Int) < 1
    · rw [if_pos hn]
      have h0 : n = 0 := by omega
      subst h0
      exact ⟨by decide, .str (repS z 0), H, I.tok _, ⟨_, rfl⟩, q⟩
    · rw [if_neg hn, e0]
      by_cases h1 : (((n : Nat) : Int) == 1 || z.length == 0) = true
      · rw [if_pos h1]
        have h2 : n = 1 := by
          rw [Bool.or_eq_true, beq_iff_eq, beq_iff_eq] at h1
          omega
        subst h2
        have e1 : repS z 1 = z := by
          show (⟨((List.replicate 1 z.cps.toList).flatten).toArray⟩ : Str) = z
          cases z
          simp
        rw [e1] at q
        exact ⟨.str z, H, I, ⟨_, rfl⟩, q⟩
      · rw [if_neg h1, ef]
        exact ⟨el, .str (repS z n), H, I.tok _, ⟨_, rfl⟩, q⟩
theorem ae_rep {a b : Expr} {pos : Pos} (h : AE X a ρ η fun d1 η1 => AE X b ρ η1 fun d2 η2 => ∃ (z : Str) (n : Nat), d1 = .str z ∧ d2 = .int (n : Int) ∧ 0 < z.length ∧ z.length * n ≤ 100000 ∧ Q (.str (repS z n)) η2) : AE X (.BinOp a .Mult b pos) ρ η Q := by
  refine AX.of (pe_op op_rep_str (peW a) (peW b)) (ax_op (h.run.mono fun d1 η1 q => q.run.mono fun d2 η2 q2 => ?_))
  intro x y H R mx my b' o
  obtain ⟨z, n, rfl, rfl, h1, h2, q⟩ := q2
  exact ⟨z, n, mx.str_inv, my.int_inv, h1, h2, o _ η2 _ H Kt.refl (.str _) b' q⟩
/-- the signs of a text, one by one -/
def signsD (z : Str) : List Dt := z.cps.toList.map fun c => .str ⟨#[c]⟩
theorem call_list_of_str (hc : X.calm = true) : CallR X (.type "list") (fun xs H Q => ∃ z, xs = [.str z] ∧ z.cps.size ≤ sizeLine ∧ ∀ p, H p = none → Q (.ref p) (upd H p (.lst (z.cps.toList.map fun c => V.str ⟨#[c]⟩)))) := by
  intro pins s σ H xs us Q I r h
  obtain ⟨z, rfl, hz, q⟩ := h
  obtain ⟨u, rfl, ru⟩ := r.one
  obtain ⟨t, rfl⟩ := ru
  refine call_list_str (I.ok.hd hc) z t (hn := hz) fun h' tk acc' c' hk hS hacc => ?_
  refine ⟨.ref s.heap.objs.size, upd H s.heap.objs.size (.lst (z.cps.toList.map fun c => V.str ⟨#[c]⟩)), I.laid hk (Nat.le_refl _) (show ObjOk X.prog X.w _ _ _ (.lst _) from ⟨by simpa using hz, acc'.toList, c', ?_, by rw [Array.toArray_toList]; exact hS⟩), rfl, q _ (I.hok.fresh (Nat.le_refl _))⟩
  refine vals_of_at (by simp [hacc.1]) fun j x w h1 h2 => ?_
  obtain ⟨c, u, hc, rfl⟩ := hacc.2 j w (by rw [← Array.getElem?_toList]; exact h2)
  rw [List.getElem?_map, Array.getElem?_toList, hc] at h1
  cases h1
  exact ⟨_, rfl⟩
theorem ae_list_str (A : At X N sc k) (B : Bt X) {p pos : Pos} {e : Expr} (h : AE X e ρ η fun d η1 => ∃ z : Str, d = .str z ∧ z.length ≤ 100000 ∧ ∀ r, η1 r = none → Q (.ref r) (up η1 r (.lst (signsD z)))) (hg : sc.names.lookup ("list" : Str) = some .globalImplicit := by rfl)
    (he : starEach [e] X.env = (false, eval e X.env) :: starEach [] X.env := by rfl) (hpl : (backTo pos (starEach [] X.env)).any (·.1) = false := by rfl) : AE X (.Call (.Name "list" p) [e] [] pos) ρ η Q := by
  refine ae_ct A (call_list_of_str A.calm) B.list (by decide +kernel) (aa_cons (h.mono fun d η1 q => aa_nil ?_) he) hg (by decide) (by decide) he hpl
  obtain ⟨z, rfl, h1, q⟩ := q
  intro xs H R m b o
  obtain ⟨v, rfl, m0⟩ := m.one_inv
  refine ⟨z, by rw [m0.str_inv], le_sz h1, fun r hr => o _ _ _ _ (Kt.new hr) (.ref r) (b.newM hr (MoOk.mk_lst (Kt.new hr) ?_)) (q r (b.free hr))⟩
  unfold signsD
  generalize z.cps.toList = l
  induction l with
  | nil => exact .nil
  | cons a r ih => exact .cons (.str _) ih
theorem strs_inv {H : Hp} : ∀ {vs : List V} {ys : List Str}, Ims K H vs (ys.map Dt.str) → vs = ys.map V.str
  | _, [], h => by cases h; rfl
  | _, y :: r, h => by
    cases h with
    | cons h1 h2 => rw [h1.str_inv, strs_inv h2]; rfl
theorem ae_join {o e : Expr} {apos pos : Pos} (h : AE X o ρ η fun d η1 => ∃ a, d = .str a ∧ AE X e ρ η1 fun d2 η2 => ∃ (p : Addr) (ys : List Str), d2 = .ref p ∧ η2 p = some (.lst (ys.map Dt.str)) ∧ (ys.map (·.length)).sum + ys.length * a.length ≤ 100000 ∧ Q (.str (Txt.join a ys)) η2)
    (hs : starEach [e] X.env = [(false, eval e X.env)] := by rfl) (hbase : attributeBase o "join" X.env (eval o X.env) = eval o X.env := by rfl) (hline : (apos.endLine == pos.line) = true := by rfl) : AE X (.Call (.Attribute o "join" apos) [e] [] pos) ρ η Q := by
  refine AX.of (pe_join (peW o) (peW e) hs hbase hline) ?_
  intro σ H R v b oo
  refine h.run σ H _ v b fun d η1 x H1 k1 m1 b1 q1 => ?_
  obtain ⟨a, rfl, q1⟩ := q1
  refine ⟨⟨a, m1.str_inv⟩, q1.run σ H1 _ (v.kt k1) b1 fun d2 η2 y H2 k2 m2 b2 q2 => ?_⟩
  obtain ⟨p, ys, rfl, h1, h2, q⟩ := q2
  obtain ⟨vs, a1, a2⟩ := b2 _ _ h1
  exact ⟨a, p, ys, (m1.kt k2).str_inv, by rw [m2.ref_inv], .inl (by rw [← strs_inv a2]; exact SqL.of a1), by omega, oo _ η2 _ H2 (k1.trans k2) (.str _) b2 q⟩
theorem bls_inv {H : Hp} : ∀ {vs : List V} {ys : List Bool}, Ims K H vs (ys.map Dt.bl) → vs = ys.map V.bl
  | _, [], h => by cases h; rfl
  | _, y :: r, h => by
    cases h with
    | cons h1 h2 => rw [h1.bl_inv, bls_inv h2]; rfl
theorem ae_any (A : At X N sc k) (B : Bt X) {p pos : Pos} {e : Expr} (h : AE X e ρ η fun d η1 => ∃ (q : Addr) (bs : List Bool), d = .ref q ∧ η1 q = some (.lst (bs.map Dt.bl)) ∧ Q (.bl (bs.any id)) η1)
    (hg : sc.names.lookup ("any" : Str) = some .globalImplicit := by rfl) (he : starEach [e] X.env = (false, eval e X.env) :: starEach [] X.env := by rfl) (hpl : (backTo pos (starEach [] X.env)).any (·.1) = false := by rfl) : AE X (.Call (.Name "any" p) [e] [] pos) ρ η Q := by
  refine ae_cb A (cr_any A.calm) B.any (by decide +kernel) (aa_cons (h.mono fun d η1 q => aa_nil ?_) he) hg (by decide) (by decide) he hpl
  obtain ⟨r, bs, rfl, h1, q⟩ := q
  intro xs H R m b o
  obtain ⟨v, rfl, m0⟩ := m.one_inv
  obtain ⟨vs, a1, a2⟩ := b _ _ h1
  exact ⟨r, bs, by rw [m0.ref_inv], by rw [← bls_inv a2]; exact SqL.of a1, o _ η1 _ H Kt.refl (.bl _) b q⟩
theorem ae_int1 (A : At X N sc k) (B : Bt X) {p pos : Pos} {e : Expr} (h : AE X e ρ η fun d η1 => ∃ c : Bool, d = .bl c ∧ Q (.int (if c then 1 else 0)) η1)
    (hg : sc.names.lookup ("int" : Str) = some .globalImplicit := by rfl) (he : starEach [e] X.env = (false, eval e X.env) :: starEach [] X.env := by rfl) (hpl : (backTo pos (starEach [] X.env)).any (·.1) = false := by rfl) : AE X (.Call (.Name "int" p) [e] [] pos) ρ η Q := by
  refine ae_ct A call_int1 B.int (by decide +kernel) (aa_cons (h.mono fun d η1 q => aa_nil ?_) he) hg (by decide) (by decide) he hpl
  obtain ⟨c, rfl, q⟩ := q
  intro xs H R m b o
  obtain ⟨v, rfl, m0⟩ := m.one_inv
  exact .inr ⟨c, by rw [m0.bl_inv], o _ η1 _ H Kt.refl (.int _) b q⟩
theorem ae_listRg (A : At X N sc k) (B : Bt X) {p p2 pos pos2 : Pos} {a : Expr} (h : AE X a ρ η fun d η1 => ∃ n : Nat, d = .int (n : Int) ∧ n ≤ 100000 ∧ ∀ r, η1 r = none → Q (.ref r) (up η1 r (.lst ((List.range n).map fun i => .int (i : Nat)))))
    (hg : sc.names.lookup ("list" : Str) = some .globalImplicit := by rfl) (hg2 : sc.names.lookup ("range" : Str) = some .globalImplicit := by rfl)
    (na : starEach [a] X.env = (false, eval a X.env) :: starEach [] X.env := by rfl) (nb : starEach [Expr.Call (.Name "range" p2) [a] [] pos2] X.env = (false, eval (.Call (.Name "range" p2) [a] [] pos2) X.env) :: starEach [] X.env := by rfl) :
    AE X (.Call (.Name "list" p) [.Call (.Name "range" p2) [a] [] pos2] [] pos) ρ η Q := by
  refine AX.of (pe_listRg A.calm (A.gl hg) B.list (prg_1 (A.gl hg2) B.range (peW a) na) nb) ?_
  intro σ H R v b o
  refine h.run σ H _ v b fun d η1 x H1 k1 m1 b1 q1 => ?_
  obtain ⟨n, rfl, hn, q⟩ := q1
  refine ⟨n, m1.int_inv, ⟨by omega, by omega, by omega, by omega, by omega⟩, fun r hr => ?_⟩
  refine o _ _ _ _ (k1.trans (Kt.new hr)) (.ref r) (b1.newM hr (MoOk.mk_lst (Kt.new hr) ?_)) (q r (b1.free hr))
  unfold rgV
  rw [show ((n : Int) - 0).toNat = n by omega]
  generalize List.range n = l
  induction l with
  | nil => exact .nil
  | cons a r ih => refine .cons ?_ ih; show Im _ _ (.int (0 + (a : Nat))) (.int (a : Nat)); rw [show (0 : Int) + (a : Nat) = (a : Nat) by omega]; exact .int _
end FgA
/-! FgS: the names of each def by slot (printed by gen_sc.py) -/
namespace Fg
open PySem PySem.Spec PyProof.Rows L2 FgA
/-- level 1 -/
def n_common_part : List Str := ["one", "other"]
theorem v_common_part : NameOk n_common_part (defScope s_common_part) 2 := nameOk_by (by decide +kernel)
instance : Slot n_common_part "one" 0 := ⟨rfl⟩
instance : Slot n_common_part "other" 1 := ⟨rfl⟩
theorem sc_common_part : FnScope n_common_part ["one", "other"] (defScope s_common_part) := ⟨rfl, rfl, rfl, by decide +kernel, rfl, by decide +kernel, by decide +kernel⟩
/-- level 2 -/
def n_fraction : List Str := ["p", "q", "part"]
theorem v_fraction : NameOk n_fraction (defScope s_fraction) 3 := nameOk_by (by decide +kernel)
instance : Slot n_fraction "p" 0 := ⟨rfl⟩
instance : Slot n_fraction "q" 1 := ⟨rfl⟩
instance : Slot n_fraction "part" 2 := ⟨rfl⟩
theorem sc_fraction : FnScope n_fraction ["p", "q"] (defScope s_fraction) := ⟨rfl, rfl, rfl, by decide +kernel, rfl, by decide +kernel, by decide +kernel⟩
/-- level 1 -/
def n_first_gaps : List Str := ["table", "halves", "thirds", "later", "place"]
theorem v_first_gaps : NameOk n_first_gaps (defScope s_first_gaps) 5 := nameOk_by (by decide +kernel)
instance : Slot n_first_gaps "table" 0 := ⟨rfl⟩
instance : Slot n_first_gaps "halves" 1 := ⟨rfl⟩
instance : Slot n_first_gaps "thirds" 2 := ⟨rfl⟩
instance : Slot n_first_gaps "later" 3 := ⟨rfl⟩
instance : Slot n_first_gaps "place" 4 := ⟨rfl⟩
theorem sc_first_gaps : FnScope n_first_gaps ["table"] (defScope s_first_gaps) := ⟨rfl, rfl, rfl, by decide +kernel, rfl, by decide +kernel, by decide +kernel⟩
/-- level 3 -/
def n_between : List Str := ["one", "other"]
theorem v_between : NameOk n_between (defScope s_between) 2 := nameOk_by (by decide +kernel)
instance : Slot n_between "one" 0 := ⟨rfl⟩
instance : Slot n_between "other" 1 := ⟨rfl⟩
theorem sc_between : FnScope n_between ["one", "other"] (defScope s_between) := ⟨rfl, rfl, rfl, by decide +kernel, rfl, by decide +kernel, by decide +kernel⟩
/-- level 4 -/
def n_opened : List Str := ["table", "gaps", "i", "halves", "thirds", "begin", "place", "end", "later"]
theorem v_opened : NameOk n_opened (defScope s_opened) 9 := nameOk_by (by decide +kernel)
instance : Slot n_opened "table" 0 := ⟨rfl⟩
instance : Slot n_opened "gaps" 1 := ⟨rfl⟩
instance : Slot n_opened "i" 2 := ⟨rfl⟩
instance : Slot n_opened "halves" 3 := ⟨rfl⟩
instance : Slot n_opened "thirds" 4 := ⟨rfl⟩
instance : Slot n_opened "begin" 5 := ⟨rfl⟩
instance : Slot n_opened "place" 6 := ⟨rfl⟩
instance : Slot n_opened "end" 7 := ⟨rfl⟩
instance : Slot n_opened "later" 8 := ⟨rfl⟩
theorem sc_opened : FnScope n_opened ["table", "gaps", "i"] (defScope s_opened) := ⟨rfl, rfl, rfl, by decide +kernel, rfl, by decide +kernel, by decide +kernel⟩
/-- level 1 -/
def n_gap_to_open : List Str := ["table", "gaps", "used", "halves", "thirds", "i", "begin", "place", "there"]
theorem v_gap_to_open : NameOk n_gap_to_open (defScope s_gap_to_open) 9 := nameOk_by (by decide +kernel)
instance : Slot n_gap_to_open "table" 0 := ⟨rfl⟩
instance : Slot n_gap_to_open "gaps" 1 := ⟨rfl⟩
instance : Slot n_gap_to_open "used" 2 := ⟨rfl⟩
instance : Slot n_gap_to_open "halves" 3 := ⟨rfl⟩
instance : Slot n_gap_to_open "thirds" 4 := ⟨rfl⟩
instance : Slot n_gap_to_open "i" 5 := ⟨rfl⟩
instance : Slot n_gap_to_open "begin" 6 := ⟨rfl⟩
instance : Slot n_gap_to_open "place" 7 := ⟨rfl⟩
instance : Slot n_gap_to_open "there" 8 := ⟨rfl⟩
theorem sc_gap_to_open : FnScope n_gap_to_open ["table", "gaps", "used"] (defScope s_gap_to_open) := ⟨rfl, rfl, rfl, by decide +kernel, rfl, by decide +kernel, by decide +kernel⟩
/-- level 5 -/
def n_all_gaps : List Str := ["table", "halves", "thirds", "gaps", "used", "i", "there", "place", "begin"]
theorem v_all_gaps : NameOk n_all_gaps (defScope s_all_gaps) 8 := nameOk_by (by decide +kernel)
instance : Slot n_all_gaps "table" 0 := ⟨rfl⟩
instance : Slot n_all_gaps "halves" 1 := ⟨rfl⟩
instance : Slot n_all_gaps "thirds" 2 := ⟨rfl⟩
instance : Slot n_all_gaps "gaps" 3 := ⟨rfl⟩
instance : Slot n_all_gaps "used" 4 := ⟨rfl⟩
instance : Slot n_all_gaps "i" 5 := ⟨rfl⟩
instance : Slot n_all_gaps "there" 6 := ⟨rfl⟩
instance : Slot n_all_gaps "place" 7 := ⟨rfl⟩
instance : Slot n_all_gaps "begin" 8 := ⟨rfl⟩
theorem sc_all_gaps : FnScope n_all_gaps ["table"] (defScope s_all_gaps) := ⟨rfl, rfl, rfl, by decide +kernel, rfl, by decide +kernel, by decide +kernel⟩
/-- level 1 -/
def n_mark_of : List Str := ["table", "places", "place", "halves", "thirds", "there"]
theorem v_mark_of : NameOk n_mark_of (defScope s_mark_of) 6 := nameOk_by (by decide +kernel)
instance : Slot n_mark_of "table" 0 := ⟨rfl⟩
instance : Slot n_mark_of "places" 1 := ⟨rfl⟩
instance : Slot n_mark_of "place" 2 := ⟨rfl⟩
instance : Slot n_mark_of "halves" 3 := ⟨rfl⟩
instance : Slot n_mark_of "thirds" 4 := ⟨rfl⟩
instance : Slot n_mark_of "there" 5 := ⟨rfl⟩
theorem sc_mark_of : FnScope n_mark_of ["table", "places", "place"] (defScope s_mark_of) := ⟨rfl, rfl, rfl, by decide +kernel, rfl, by decide +kernel, by decide +kernel⟩
/-- level 1 -/
def n_put_behind : List Str := ["row", "letter", "both"]
theorem v_put_behind : NameOk n_put_behind (defScope s_put_behind) 3 := nameOk_by (by decide +kernel)
instance : Slot n_put_behind "row" 0 := ⟨rfl⟩
instance : Slot n_put_behind "letter" 1 := ⟨rfl⟩
instance : Slot n_put_behind "both" 2 := ⟨rfl⟩
theorem sc_put_behind : FnScope n_put_behind ["row", "letter"] (defScope s_put_behind) := ⟨rfl, rfl, rfl, by decide +kernel, rfl, by decide +kernel, by decide +kernel⟩
/-- level 2 -/
def n_shortened : List Str := ["word", "row", "letter"]
theorem v_shortened : NameOk n_shortened (defScope s_shortened) 3 := nameOk_by (by decide +kernel)
instance : Slot n_shortened "word" 0 := ⟨rfl⟩
instance : Slot n_shortened "row" 1 := ⟨rfl⟩
instance : Slot n_shortened "letter" 2 := ⟨rfl⟩
theorem sc_shortened : FnScope n_shortened ["word"] (defScope s_shortened) := ⟨rfl, rfl, rfl, by decide +kernel, rfl, by decide +kernel, by decide +kernel⟩
/-- level 1 -/
def n_steps_word : List Str := ["many"]
theorem v_steps_word : NameOk n_steps_word (defScope s_steps_word) 1 := nameOk_by (by decide +kernel)
instance : Slot n_steps_word "many" 0 := ⟨rfl⟩
theorem sc_steps_word : FnScope n_steps_word ["many"] (defScope s_steps_word) := ⟨rfl, rfl, rfl, by decide +kernel, rfl, by decide +kernel, by decide +kernel⟩
/-- level 1 -/
def n_steps_of : List Str := ["one", "a", "b", "c", "d", "found", "many", "step"]
theorem v_steps_of : NameOk n_steps_of (defScope s_steps_of) 8 := nameOk_by (by decide +kernel)
instance : Slot n_steps_of "one" 0 := ⟨rfl⟩
instance : Slot n_steps_of "a" 1 := ⟨rfl⟩
instance : Slot n_steps_of "b" 2 := ⟨rfl⟩
instance : Slot n_steps_of "c" 3 := ⟨rfl⟩
instance : Slot n_steps_of "d" 4 := ⟨rfl⟩
instance : Slot n_steps_of "found" 5 := ⟨rfl⟩
instance : Slot n_steps_of "many" 6 := ⟨rfl⟩
instance : Slot n_steps_of "step" 7 := ⟨rfl⟩
theorem sc_steps_of : FnScope n_steps_of ["one"] (defScope s_steps_of) := ⟨rfl, rfl, rfl, by decide +kernel, rfl, by decide +kernel, by decide +kernel⟩
/-- level 3 -/
def n_word_of : List Str := ["one", "word", "step"]
theorem v_word_of : NameOk n_word_of (defScope s_word_of) 2 := nameOk_by (by decide +kernel)
instance : Slot n_word_of "one" 0 := ⟨rfl⟩
instance : Slot n_word_of "word" 1 := ⟨rfl⟩
instance : Slot n_word_of "step" 2 := ⟨rfl⟩
theorem sc_word_of : FnScope n_word_of ["one"] (defScope s_word_of) := ⟨rfl, rfl, rfl, by decide +kernel, rfl, by decide +kernel, by decide +kernel⟩
/-- level 1 -/
def n_goes_back : List Str := ["exchange", "times", "place", "here", "turn"]
theorem v_goes_back : NameOk n_goes_back (defScope s_goes_back) 5 := nameOk_by (by decide +kernel)
instance : Slot n_goes_back "exchange" 0 := ⟨rfl⟩
instance : Slot n_goes_back "times" 1 := ⟨rfl⟩
instance : Slot n_goes_back "place" 2 := ⟨rfl⟩
instance : Slot n_goes_back "here" 3 := ⟨rfl⟩
instance : Slot n_goes_back "turn" 4 := ⟨rfl⟩
theorem sc_goes_back : FnScope n_goes_back ["exchange", "times"] (defScope s_goes_back) := ⟨rfl, rfl, rfl, by decide +kernel, rfl, by decide +kernel, by decide +kernel⟩
/-- level 1 -/
def n_met_from : List Str := ["halves", "thirds", "first", "met", "seen", "at", "other"]
theorem v_met_from : NameOk n_met_from (defScope s_met_from) 7 := nameOk_by (by decide +kernel)
instance : Slot n_met_from "halves" 0 := ⟨rfl⟩
instance : Slot n_met_from "thirds" 1 := ⟨rfl⟩
instance : Slot n_met_from "first" 2 := ⟨rfl⟩
instance : Slot n_met_from "met" 3 := ⟨rfl⟩
instance : Slot n_met_from "seen" 4 := ⟨rfl⟩
instance : Slot n_met_from "at" 5 := ⟨rfl⟩
instance : Slot n_met_from "other" 6 := ⟨rfl⟩
theorem sc_met_from : FnScope n_met_from ["halves", "thirds", "first"] (defScope s_met_from) := ⟨rfl, rfl, rfl, by decide +kernel, rfl, by decide +kernel, by decide +kernel⟩
/-- level 1 -/
def n_told_anew : List Str := ["halves", "thirds", "met", "numbers", "number", "place"]
theorem v_told_anew : NameOk n_told_anew (defScope s_told_anew) 6 := nameOk_by (by decide +kernel)
instance : Slot n_told_anew "halves" 0 := ⟨rfl⟩
instance : Slot n_told_anew "thirds" 1 := ⟨rfl⟩
instance : Slot n_told_anew "met" 2 := ⟨rfl⟩
instance : Slot n_told_anew "numbers" 3 := ⟨rfl⟩
instance : Slot n_told_anew "number" 4 := ⟨rfl⟩
instance : Slot n_told_anew "place" 5 := ⟨rfl⟩
theorem sc_told_anew : FnScope n_told_anew ["halves", "thirds", "met"] (defScope s_told_anew) := ⟨rfl, rfl, rfl, by decide +kernel, rfl, by decide +kernel, by decide +kernel⟩
/-- level 2 -/
def n_numbered : List Str := ["halves", "thirds", "first", "met"]
theorem v_numbered : NameOk n_numbered (defScope s_numbered) 4 := nameOk_by (by decide +kernel)
instance : Slot n_numbered "halves" 0 := ⟨rfl⟩
instance : Slot n_numbered "thirds" 1 := ⟨rfl⟩
instance : Slot n_numbered "first" 2 := ⟨rfl⟩
instance : Slot n_numbered "met" 3 := ⟨rfl⟩
theorem sc_numbered : FnScope n_numbered ["halves", "thirds", "first"] (defScope s_numbered) := ⟨rfl, rfl, rfl, by decide +kernel, rfl, by decide +kernel, by decide +kernel⟩
/-- level 1 -/
def n_led_by : List Str := ["table", "place", "letter", "halves", "thirds"]
theorem v_led_by : NameOk n_led_by (defScope s_led_by) 5 := nameOk_by (by decide +kernel)
instance : Slot n_led_by "table" 0 := ⟨rfl⟩
instance : Slot n_led_by "place" 1 := ⟨rfl⟩
instance : Slot n_led_by "letter" 2 := ⟨rfl⟩
instance : Slot n_led_by "halves" 3 := ⟨rfl⟩
instance : Slot n_led_by "thirds" 4 := ⟨rfl⟩
theorem sc_led_by : FnScope n_led_by ["table", "place", "letter"] (defScope s_led_by) := ⟨rfl, rfl, rfl, by decide +kernel, rfl, by decide +kernel, by decide +kernel⟩
/-- level 2 -/
def n_led_on : List Str := ["table", "place", "word", "letter"]
theorem v_led_on : NameOk n_led_on (defScope s_led_on) 4 := nameOk_by (by decide +kernel)
instance : Slot n_led_on "table" 0 := ⟨rfl⟩
instance : Slot n_led_on "place" 1 := ⟨rfl⟩
instance : Slot n_led_on "word" 2 := ⟨rfl⟩
instance : Slot n_led_on "letter" 3 := ⟨rfl⟩
theorem sc_led_on : FnScope n_led_on ["table", "place", "word"] (defScope s_led_on) := ⟨rfl, rfl, rfl, by decide +kernel, rfl, by decide +kernel, by decide +kernel⟩
/-- level 4 -/
def n_place_of : List Str := ["table", "one"]
theorem v_place_of : NameOk n_place_of (defScope s_place_of) 2 := nameOk_by (by decide +kernel)
instance : Slot n_place_of "table" 0 := ⟨rfl⟩
instance : Slot n_place_of "one" 1 := ⟨rfl⟩
theorem sc_place_of : FnScope n_place_of ["table", "one"] (defScope s_place_of) := ⟨rfl, rfl, rfl, by decide +kernel, rfl, by decide +kernel, by decide +kernel⟩
/-- level 6 -/
def n_fan_of : List Str := ["table", "gaps", "places", "begin", "place"]
theorem v_fan_of : NameOk n_fan_of (defScope s_fan_of) 3 := nameOk_by (by decide +kernel)
instance : Slot n_fan_of "table" 0 := ⟨rfl⟩
instance : Slot n_fan_of "gaps" 1 := ⟨rfl⟩
instance : Slot n_fan_of "places" 2 := ⟨rfl⟩
instance : Slot n_fan_of "begin" 3 := ⟨rfl⟩
instance : Slot n_fan_of "place" 4 := ⟨rfl⟩
theorem sc_fan_of : FnScope n_fan_of ["table"] (defScope s_fan_of) := ⟨rfl, rfl, rfl, by decide +kernel, rfl, by decide +kernel, by decide +kernel⟩
/-- level 1 -/
def n_led_pairs : List Str := ["one", "other", "pair", "k"]
theorem v_led_pairs : NameOk n_led_pairs (defScope s_led_pairs) 3 := nameOk_by (by decide +kernel)
instance : Slot n_led_pairs "one" 0 := ⟨rfl⟩
instance : Slot n_led_pairs "other" 1 := ⟨rfl⟩
instance : Slot n_led_pairs "pair" 2 := ⟨rfl⟩
instance : Slot n_led_pairs "k" 3 := ⟨rfl⟩
theorem sc_led_pairs : FnScope n_led_pairs ["one", "other", "pair"] (defScope s_led_pairs) := ⟨rfl, rfl, rfl, by decide +kernel, rfl, by decide +kernel, by decide +kernel⟩
/-- level 1 -/
def n_met_states : List Str := ["first", "behind", "states", "met", "leads", "here", "state", "lead"]
theorem v_met_states : NameOk n_met_states (defScope s_met_states) 7 := nameOk_by (by decide +kernel)
instance : Slot n_met_states "first" 0 := ⟨rfl⟩
instance : Slot n_met_states "behind" 1 := ⟨rfl⟩
instance : Slot n_met_states "states" 2 := ⟨rfl⟩
instance : Slot n_met_states "met" 3 := ⟨rfl⟩
instance : Slot n_met_states "leads" 4 := ⟨rfl⟩
instance : Slot n_met_states "here" 5 := ⟨rfl⟩
instance : Slot n_met_states "state" 6 := ⟨rfl⟩
instance : Slot n_met_states "lead" 7 := ⟨rfl⟩
theorem sc_met_states : FnScope n_met_states ["first", "behind"] (defScope s_met_states) := ⟨rfl, rfl, rfl, by decide +kernel, rfl, by decide +kernel, by decide +kernel⟩
/-- level 5 -/
def n_meet : List Str := ["one", "other"]
theorem v_meet : NameOk n_meet (defScope s_meet) 2 := nameOk_by (by decide +kernel)
instance : Slot n_meet "one" 0 := ⟨rfl⟩
instance : Slot n_meet "other" 1 := ⟨rfl⟩
theorem sc_meet : FnScope n_meet ["one", "other"] (defScope s_meet) := ⟨rfl, rfl, rfl, by decide +kernel, rfl, by decide +kernel, by decide +kernel⟩
/-- level 1 -/
def n_is_within : List Str := ["one", "other", "there", "place", "k", "lead"]
theorem v_is_within : NameOk n_is_within (defScope s_is_within) 6 := nameOk_by (by decide +kernel)
instance : Slot n_is_within "one" 0 := ⟨rfl⟩
instance : Slot n_is_within "other" 1 := ⟨rfl⟩
instance : Slot n_is_within "there" 2 := ⟨rfl⟩
instance : Slot n_is_within "place" 3 := ⟨rfl⟩
instance : Slot n_is_within "k" 4 := ⟨rfl⟩
instance : Slot n_is_within "lead" 5 := ⟨rfl⟩
theorem sc_is_within : FnScope n_is_within ["one", "other"] (defScope s_is_within) := ⟨rfl, rfl, rfl, by decide +kernel, rfl, by decide +kernel, by decide +kernel⟩
/-- level 5 -/
def n_turned : List Str := ["table", "one"]
theorem v_turned : NameOk n_turned (defScope s_turned) 2 := nameOk_by (by decide +kernel)
instance : Slot n_turned "table" 0 := ⟨rfl⟩
instance : Slot n_turned "one" 1 := ⟨rfl⟩
theorem sc_turned : FnScope n_turned ["table", "one"] (defScope s_turned) := ⟨rfl, rfl, rfl, by decide +kernel, rfl, by decide +kernel, by decide +kernel⟩
/-- level 1 -/
def n_Fold___init__ : List Str := ["self"]
theorem v_Fold___init__ : NameOk n_Fold___init__ (defScope s_Fold___init__) 1 := nameOk_by (by decide +kernel)
instance : Slot n_Fold___init__ "self" 0 := ⟨rfl⟩
theorem sc_Fold___init__ : FnScope n_Fold___init__ ["self"] (defScope s_Fold___init__) := ⟨rfl, rfl, rfl, by decide +kernel, rfl, by decide +kernel, by decide +kernel⟩
/-- level 1 -/
def n_head_of : List Str := ["fold", "place"]
theorem v_head_of : NameOk n_head_of (defScope s_head_of) 2 := nameOk_by (by decide +kernel)
instance : Slot n_head_of "fold" 0 := ⟨rfl⟩
instance : Slot n_head_of "place" 1 := ⟨rfl⟩
theorem sc_head_of : FnScope n_head_of ["fold", "place"] (defScope s_head_of) := ⟨rfl, rfl, rfl, by decide +kernel, rfl, by decide +kernel, by decide +kernel⟩
/-- level 1 -/
def n_new_place : List Str := ["fold", "place"]
theorem v_new_place : NameOk n_new_place (defScope s_new_place) 2 := nameOk_by (by decide +kernel)
instance : Slot n_new_place "fold" 0 := ⟨rfl⟩
instance : Slot n_new_place "place" 1 := ⟨rfl⟩
theorem sc_new_place : FnScope n_new_place ["fold"] (defScope s_new_place) := ⟨rfl, rfl, rfl, by decide +kernel, rfl, by decide +kernel, by decide +kernel⟩
/-- level 2 -/
def n_half_behind : List Str := ["fold", "place", "other"]
theorem v_half_behind : NameOk n_half_behind (defScope s_half_behind) 3 := nameOk_by (by decide +kernel)
instance : Slot n_half_behind "fold" 0 := ⟨rfl⟩
instance : Slot n_half_behind "place" 1 := ⟨rfl⟩
instance : Slot n_half_behind "other" 2 := ⟨rfl⟩
theorem sc_half_behind : FnScope n_half_behind ["fold", "place"] (defScope s_half_behind) := ⟨rfl, rfl, rfl, by decide +kernel, rfl, by decide +kernel, by decide +kernel⟩
/-- level 2 -/
def n_third_behind : List Str := ["fold", "place", "other", "last"]
theorem v_third_behind : NameOk n_third_behind (defScope s_third_behind) 4 := nameOk_by (by decide +kernel)
instance : Slot n_third_behind "fold" 0 := ⟨rfl⟩
instance : Slot n_third_behind "place" 1 := ⟨rfl⟩
instance : Slot n_third_behind "other" 2 := ⟨rfl⟩
instance : Slot n_third_behind "last" 3 := ⟨rfl⟩
theorem sc_third_behind : FnScope n_third_behind ["fold", "place"] (defScope s_third_behind) := ⟨rfl, rfl, rfl, by decide +kernel, rfl, by decide +kernel, by decide +kernel⟩
/-- level 3 -/
def n_walked : List Str := ["fold", "word", "place", "letter"]
theorem v_walked : NameOk n_walked (defScope s_walked) 4 := nameOk_by (by decide +kernel)
instance : Slot n_walked "fold" 0 := ⟨rfl⟩
instance : Slot n_walked "word" 1 := ⟨rfl⟩
instance : Slot n_walked "place" 2 := ⟨rfl⟩
instance : Slot n_walked "letter" 3 := ⟨rfl⟩
theorem sc_walked : FnScope n_walked ["fold", "word"] (defScope s_walked) := ⟨rfl, rfl, rfl, by decide +kernel, rfl, by decide +kernel, by decide +kernel⟩
/-- level 1 -/
def n_both_behind : List Str := ["fold", "leads", "one", "other"]
theorem v_both_behind : NameOk n_both_behind (defScope s_both_behind) 4 := nameOk_by (by decide +kernel)
instance : Slot n_both_behind "fold" 0 := ⟨rfl⟩
instance : Slot n_both_behind "leads" 1 := ⟨rfl⟩
instance : Slot n_both_behind "one" 2 := ⟨rfl⟩
instance : Slot n_both_behind "other" 3 := ⟨rfl⟩
theorem sc_both_behind : FnScope n_both_behind ["fold", "leads", "one", "other"] (defScope s_both_behind) := ⟨rfl, rfl, rfl, by decide +kernel, rfl, by decide +kernel, by decide +kernel⟩
/-- level 2 -/
def n_put_together : List Str := ["fold", "one", "other", "waiting", "first", "second", "low", "high"]
theorem v_put_together : NameOk n_put_together (defScope s_put_together) 8 := nameOk_by (by decide +kernel)
instance : Slot n_put_together "fold" 0 := ⟨rfl⟩
instance : Slot n_put_together "one" 1 := ⟨rfl⟩
instance : Slot n_put_together "other" 2 := ⟨rfl⟩
instance : Slot n_put_together "waiting" 3 := ⟨rfl⟩
instance : Slot n_put_together "first" 4 := ⟨rfl⟩
instance : Slot n_put_together "second" 5 := ⟨rfl⟩
instance : Slot n_put_together "low" 6 := ⟨rfl⟩
instance : Slot n_put_together "high" 7 := ⟨rfl⟩
theorem sc_put_together : FnScope n_put_together ["fold", "one", "other"] (defScope s_put_together) := ⟨rfl, rfl, rfl, by decide +kernel, rfl, by decide +kernel, by decide +kernel⟩
/-- level 2 -/
def n_heads_alone : List Str := ["fold", "halves", "thirds", "place", "head"]
theorem v_heads_alone : NameOk n_heads_alone (defScope s_heads_alone) 5 := nameOk_by (by decide +kernel)
instance : Slot n_heads_alone "fold" 0 := ⟨rfl⟩
instance : Slot n_heads_alone "halves" 1 := ⟨rfl⟩
instance : Slot n_heads_alone "thirds" 2 := ⟨rfl⟩
instance : Slot n_heads_alone "place" 3 := ⟨rfl⟩
instance : Slot n_heads_alone "head" 4 := ⟨rfl⟩
theorem sc_heads_alone : FnScope n_heads_alone ["fold"] (defScope s_heads_alone) := ⟨rfl, rfl, rfl, by decide +kernel, rfl, by decide +kernel, by decide +kernel⟩
/-- level 1 -/
def n_without : List Str := ["halves", "thirds", "place", "other"]
theorem v_without : NameOk n_without (defScope s_without) 4 := nameOk_by (by decide +kernel)
instance : Slot n_without "halves" 0 := ⟨rfl⟩
instance : Slot n_without "thirds" 1 := ⟨rfl⟩
instance : Slot n_without "place" 2 := ⟨rfl⟩
instance : Slot n_without "other" 3 := ⟨rfl⟩
theorem sc_without : FnScope n_without ["halves", "thirds", "place"] (defScope s_without) := ⟨rfl, rfl, rfl, by decide +kernel, rfl, by decide +kernel, by decide +kernel⟩
/-- level 1 -/
def n_is_bare : List Str := ["halves", "thirds", "place", "three", "one"]
theorem v_is_bare : NameOk n_is_bare (defScope s_is_bare) 4 := nameOk_by (by decide +kernel)
instance : Slot n_is_bare "halves" 0 := ⟨rfl⟩
instance : Slot n_is_bare "thirds" 1 := ⟨rfl⟩
instance : Slot n_is_bare "place" 2 := ⟨rfl⟩
instance : Slot n_is_bare "three" 3 := ⟨rfl⟩
instance : Slot n_is_bare "one" 4 := ⟨rfl⟩
theorem sc_is_bare : FnScope n_is_bare ["halves", "thirds", "place"] (defScope s_is_bare) := ⟨rfl, rfl, rfl, by decide +kernel, rfl, by decide +kernel, by decide +kernel⟩
/-- level 2 -/
def n_pruned_once : List Str := ["halves", "thirds", "place", "one"]
theorem v_pruned_once : NameOk n_pruned_once (defScope s_pruned_once) 4 := nameOk_by (by decide +kernel)
instance : Slot n_pruned_once "halves" 0 := ⟨rfl⟩
instance : Slot n_pruned_once "thirds" 1 := ⟨rfl⟩
instance : Slot n_pruned_once "place" 2 := ⟨rfl⟩
instance : Slot n_pruned_once "one" 3 := ⟨rfl⟩
theorem sc_pruned_once : FnScope n_pruned_once ["halves", "thirds"] (defScope s_pruned_once) := ⟨rfl, rfl, rfl, by decide +kernel, rfl, by decide +kernel, by decide +kernel⟩
/-- level 3 -/
def n_pruned : List Str := ["halves", "thirds", "more"]
theorem v_pruned : NameOk n_pruned (defScope s_pruned) 3 := nameOk_by (by decide +kernel)
instance : Slot n_pruned "halves" 0 := ⟨rfl⟩
instance : Slot n_pruned "thirds" 1 := ⟨rfl⟩
instance : Slot n_pruned "more" 2 := ⟨rfl⟩
theorem sc_pruned : FnScope n_pruned ["halves", "thirds"] (defScope s_pruned) := ⟨rfl, rfl, rfl, by decide +kernel, rfl, by decide +kernel, by decide +kernel⟩
/-- level 4 -/
def n_folded : List Str := ["turnings", "words", "fold", "word", "halves", "thirds", "table", "one"]
theorem v_folded : NameOk n_folded (defScope s_folded) 7 := nameOk_by (by decide +kernel)
instance : Slot n_folded "turnings" 0 := ⟨rfl⟩
instance : Slot n_folded "words" 1 := ⟨rfl⟩
instance : Slot n_folded "fold" 2 := ⟨rfl⟩
instance : Slot n_folded "word" 3 := ⟨rfl⟩
instance : Slot n_folded "halves" 4 := ⟨rfl⟩
instance : Slot n_folded "thirds" 5 := ⟨rfl⟩
instance : Slot n_folded "table" 6 := ⟨rfl⟩
instance : Slot n_folded "one" 7 := ⟨rfl⟩
theorem sc_folded : FnScope n_folded ["turnings"] (defScope s_folded) := ⟨rfl, rfl, rfl, by decide +kernel, rfl, by decide +kernel, by decide +kernel⟩
/-- level 1 -/
def n__law_cell_at : List Str := ["_law_script", "_law_k"]
theorem v__law_cell_at : NameOk n__law_cell_at (defScope s__law_cell_at) 2 := nameOk_by (by decide +kernel)
instance : Slot n__law_cell_at "_law_script" 0 := ⟨rfl⟩
instance : Slot n__law_cell_at "_law_k" 1 := ⟨rfl⟩
theorem sc__law_cell_at : FnScope n__law_cell_at ["_law_script", "_law_k"] (defScope s__law_cell_at) := ⟨rfl, rfl, rfl, by decide +kernel, rfl, by decide +kernel, by decide +kernel⟩
/-- level 2 -/
def n__law_big : List Str := ["_law_script", "_law_at", "_law_by", "_law_prime", "_law_cell", "_law_big_here", "_law_k", "_law_one"]
theorem v__law_big : NameOk n__law_big (defScope s__law_big) 8 := nameOk_by (by decide +kernel)
instance : Slot n__law_big "_law_script" 0 := ⟨rfl⟩
instance : Slot n__law_big "_law_at" 1 := ⟨rfl⟩
instance : Slot n__law_big "_law_by" 2 := ⟨rfl⟩
instance : Slot n__law_big "_law_prime" 3 := ⟨rfl⟩
instance : Slot n__law_big "_law_cell" 4 := ⟨rfl⟩
instance : Slot n__law_big "_law_big_here" 5 := ⟨rfl⟩
instance : Slot n__law_big "_law_k" 6 := ⟨rfl⟩
instance : Slot n__law_big "_law_one" 7 := ⟨rfl⟩
theorem sc__law_big : FnScope n__law_big ["_law_script", "_law_at"] (defScope s__law_big) := ⟨rfl, rfl, rfl, by decide +kernel, rfl, by decide +kernel, by decide +kernel⟩
/-- level 1 -/
def n__law_digit : List Str := ["_law_rest", "_law_many", "_law_digit_here"]
theorem v__law_digit : NameOk n__law_digit (defScope s__law_digit) 3 := nameOk_by (by decide +kernel)
instance : Slot n__law_digit "_law_rest" 0 := ⟨rfl⟩
instance : Slot n__law_digit "_law_many" 1 := ⟨rfl⟩
instance : Slot n__law_digit "_law_digit_here" 2 := ⟨rfl⟩
theorem sc__law_digit : FnScope n__law_digit ["_law_rest", "_law_many"] (defScope s__law_digit) := ⟨rfl, rfl, rfl, by decide +kernel, rfl, by decide +kernel, by decide +kernel⟩
/-- level 2 -/
def n__law_fractions : List Str := ["_law_rest", "_law_many", "_law_row", "_law_k", "_law_at"]
theorem v__law_fractions : NameOk n__law_fractions (defScope s__law_fractions) 5 := nameOk_by (by decide +kernel)
instance : Slot n__law_fractions "_law_rest" 0 := ⟨rfl⟩
instance : Slot n__law_fractions "_law_many" 1 := ⟨rfl⟩
instance : Slot n__law_fractions "_law_row" 2 := ⟨rfl⟩
instance : Slot n__law_fractions "_law_k" 3 := ⟨rfl⟩
instance : Slot n__law_fractions "_law_at" 4 := ⟨rfl⟩
theorem sc__law_fractions : FnScope n__law_fractions ["_law_rest", "_law_many"] (defScope s__law_fractions) := ⟨rfl, rfl, rfl, by decide +kernel, rfl, by decide +kernel, by decide +kernel⟩
/-- level 2 -/
def n__law_marks : List Str := ["_law_rest", "_law_many", "_law_marks_here", "_law_left", "_law_gap", "_law_way", "_law_other"]
theorem v__law_marks : NameOk n__law_marks (defScope s__law_marks) 7 := nameOk_by (by decide +kernel)
instance : Slot n__law_marks "_law_rest" 0 := ⟨rfl⟩
instance : Slot n__law_marks "_law_many" 1 := ⟨rfl⟩
instance : Slot n__law_marks "_law_marks_here" 2 := ⟨rfl⟩
instance : Slot n__law_marks "_law_left" 3 := ⟨rfl⟩
instance : Slot n__law_marks "_law_gap" 4 := ⟨rfl⟩
instance : Slot n__law_marks "_law_way" 5 := ⟨rfl⟩
instance : Slot n__law_marks "_law_other" 6 := ⟨rfl⟩
theorem sc__law_marks : FnScope n__law_marks ["_law_rest", "_law_many"] (defScope s__law_marks) := ⟨rfl, rfl, rfl, by decide +kernel, rfl, by decide +kernel, by decide +kernel⟩
/-- level 3 -/
def n__law_fan : List Str := ["_law_rest", "_law_most", "_law_great", "_law_many"]
theorem v__law_fan : NameOk n__law_fan (defScope s__law_fan) 4 := nameOk_by (by decide +kernel)
instance : Slot n__law_fan "_law_rest" 0 := ⟨rfl⟩
instance : Slot n__law_fan "_law_most" 1 := ⟨rfl⟩
instance : Slot n__law_fan "_law_great" 2 := ⟨rfl⟩
instance : Slot n__law_fan "_law_many" 3 := ⟨rfl⟩
theorem sc__law_fan : FnScope n__law_fan ["_law_rest", "_law_most", "_law_great"] (defScope s__law_fan) := ⟨rfl, rfl, rfl, by decide +kernel, rfl, by decide +kernel, by decide +kernel⟩
/-- level 1 -/
def n__law_tiles : List Str := ["_law_fractions_here", "_law_row", "_law_tiles_here", "_law_i", "_law_near", "_law_far"]
theorem v__law_tiles : NameOk n__law_tiles (defScope s__law_tiles) 6 := nameOk_by (by decide +kernel)
instance : Slot n__law_tiles "_law_fractions_here" 0 := ⟨rfl⟩
instance : Slot n__law_tiles "_law_row" 1 := ⟨rfl⟩
instance : Slot n__law_tiles "_law_tiles_here" 2 := ⟨rfl⟩
instance : Slot n__law_tiles "_law_i" 3 := ⟨rfl⟩
instance : Slot n__law_tiles "_law_near" 4 := ⟨rfl⟩
instance : Slot n__law_tiles "_law_far" 5 := ⟨rfl⟩
theorem sc__law_tiles : FnScope n__law_tiles ["_law_fractions_here"] (defScope s__law_tiles) := ⟨rfl, rfl, rfl, by decide +kernel, rfl, by decide +kernel, by decide +kernel⟩
/-- level 1 -/
def n__law_gaps : List Str := ["_law_fractions_here", "_law_i"]
theorem v__law_gaps : NameOk n__law_gaps (defScope s__law_gaps) 1 := nameOk_by (by decide +kernel)
instance : Slot n__law_gaps "_law_fractions_here" 0 := ⟨rfl⟩
instance : Slot n__law_gaps "_law_i" 1 := ⟨rfl⟩
theorem sc__law_gaps : FnScope n__law_gaps ["_law_fractions_here"] (defScope s__law_gaps) := ⟨rfl, rfl, rfl, by decide +kernel, rfl, by decide +kernel, by decide +kernel⟩
/-- level 2 -/
def n__law_links : List Str := ["_law_fan_here", "_law_fractions_here", "_law_marks_here", "_law_gaps_here", "_law_thirds", "_law_one", "_law_mid", "_law_other", "_law_halves", "_law_i", "_law_mark", "_law_first"]
theorem v__law_links : NameOk n__law_links (defScope s__law_links) 12 := nameOk_by (by decide +kernel)
instance : Slot n__law_links "_law_fan_here" 0 := ⟨rfl⟩
instance : Slot n__law_links "_law_fractions_here" 1 := ⟨rfl⟩
instance : Slot n__law_links "_law_marks_here" 2 := ⟨rfl⟩
instance : Slot n__law_links "_law_gaps_here" 3 := ⟨rfl⟩
instance : Slot n__law_links "_law_thirds" 4 := ⟨rfl⟩
instance : Slot n__law_links "_law_one" 5 := ⟨rfl⟩
instance : Slot n__law_links "_law_mid" 6 := ⟨rfl⟩
instance : Slot n__law_links "_law_other" 7 := ⟨rfl⟩
instance : Slot n__law_links "_law_halves" 8 := ⟨rfl⟩
instance : Slot n__law_links "_law_i" 9 := ⟨rfl⟩
instance : Slot n__law_links "_law_mark" 10 := ⟨rfl⟩
instance : Slot n__law_links "_law_first" 11 := ⟨rfl⟩
theorem sc__law_links : FnScope n__law_links ["_law_fan_here"] (defScope s__law_links) := ⟨rfl, rfl, rfl, by decide +kernel, rfl, by decide +kernel, by decide +kernel⟩
/-- level 1 -/
def n__law_anew : List Str := ["_law_halves", "_law_thirds", "_law_first", "_law_met", "_law_at", "_law_behind", "_law_one"]
theorem v__law_anew : NameOk n__law_anew (defScope s__law_anew) 6 := nameOk_by (by decide +kernel)
instance : Slot n__law_anew "_law_halves" 0 := ⟨rfl⟩
instance : Slot n__law_anew "_law_thirds" 1 := ⟨rfl⟩
instance : Slot n__law_anew "_law_first" 2 := ⟨rfl⟩
instance : Slot n__law_anew "_law_met" 3 := ⟨rfl⟩
instance : Slot n__law_anew "_law_at" 4 := ⟨rfl⟩
instance : Slot n__law_anew "_law_behind" 5 := ⟨rfl⟩
instance : Slot n__law_anew "_law_one" 6 := ⟨rfl⟩
theorem sc__law_anew : FnScope n__law_anew ["_law_halves", "_law_thirds", "_law_first"] (defScope s__law_anew) := ⟨rfl, rfl, rfl, by decide +kernel, rfl, by decide +kernel, by decide +kernel⟩
/-- level 3 -/
def n__law_table : List Str := ["_law_fan_here", "_law_halves", "_law_thirds", "_law_first"]
theorem v__law_table : NameOk n__law_table (defScope s__law_table) 4 := nameOk_by (by decide +kernel)
instance : Slot n__law_table "_law_fan_here" 0 := ⟨rfl⟩
instance : Slot n__law_table "_law_halves" 1 := ⟨rfl⟩
instance : Slot n__law_table "_law_thirds" 2 := ⟨rfl⟩
instance : Slot n__law_table "_law_first" 3 := ⟨rfl⟩
theorem sc__law_table : FnScope n__law_table ["_law_fan_here"] (defScope s__law_table) := ⟨rfl, rfl, rfl, by decide +kernel, rfl, by decide +kernel, by decide +kernel⟩
/-- level 1 -/
def n__law_times : List Str := ["_law_one", "_law_other", "_law_a", "_law_b", "_law_c", "_law_d", "_law_e", "_law_f", "_law_g", "_law_h", "_law_found", "_law_number"]
theorem v__law_times : NameOk n__law_times (defScope s__law_times) 11 := nameOk_by (by decide +kernel)
instance : Slot n__law_times "_law_one" 0 := ⟨rfl⟩
instance : Slot n__law_times "_law_other" 1 := ⟨rfl⟩
instance : Slot n__law_times "_law_a" 2 := ⟨rfl⟩
instance : Slot n__law_times "_law_b" 3 := ⟨rfl⟩
instance : Slot n__law_times "_law_c" 4 := ⟨rfl⟩
instance : Slot n__law_times "_law_d" 5 := ⟨rfl⟩
instance : Slot n__law_times "_law_e" 6 := ⟨rfl⟩
instance : Slot n__law_times "_law_f" 7 := ⟨rfl⟩
instance : Slot n__law_times "_law_g" 8 := ⟨rfl⟩
instance : Slot n__law_times "_law_h" 9 := ⟨rfl⟩
instance : Slot n__law_times "_law_found" 10 := ⟨rfl⟩
instance : Slot n__law_times "_law_number" 11 := ⟨rfl⟩
theorem sc__law_times : FnScope n__law_times ["_law_one", "_law_other"] (defScope s__law_times) := ⟨rfl, rfl, rfl, by decide +kernel, rfl, by decide +kernel, by decide +kernel⟩
/-- level 1 -/
def n__law_contrary : List Str := ["_law_one", "_law_a", "_law_b", "_law_c", "_law_d"]
theorem v__law_contrary : NameOk n__law_contrary (defScope s__law_contrary) 5 := nameOk_by (by decide +kernel)
instance : Slot n__law_contrary "_law_one" 0 := ⟨rfl⟩
instance : Slot n__law_contrary "_law_a" 1 := ⟨rfl⟩
instance : Slot n__law_contrary "_law_b" 2 := ⟨rfl⟩
instance : Slot n__law_contrary "_law_c" 3 := ⟨rfl⟩
instance : Slot n__law_contrary "_law_d" 4 := ⟨rfl⟩
theorem sc__law_contrary : FnScope n__law_contrary ["_law_one"] (defScope s__law_contrary) := ⟨rfl, rfl, rfl, by decide +kernel, rfl, by decide +kernel, by decide +kernel⟩
/-- level 2 -/
def n__law_turning : List Str := ["_law_word_here", "_law_found", "_law_letter"]
theorem v__law_turning : NameOk n__law_turning (defScope s__law_turning) 3 := nameOk_by (by decide +kernel)
instance : Slot n__law_turning "_law_word_here" 0 := ⟨rfl⟩
instance : Slot n__law_turning "_law_found" 1 := ⟨rfl⟩
instance : Slot n__law_turning "_law_letter" 2 := ⟨rfl⟩
theorem sc__law_turning : FnScope n__law_turning ["_law_word_here"] (defScope s__law_turning) := ⟨rfl, rfl, rfl, by decide +kernel, rfl, by decide +kernel, by decide +kernel⟩
/-- level 1 -/
def n__law_between : List Str := ["_law_one", "_law_other", "_law_by", "_law_found", "_law_number"]
theorem v__law_between : NameOk n__law_between (defScope s__law_between) 4 := nameOk_by (by decide +kernel)
instance : Slot n__law_between "_law_one" 0 := ⟨rfl⟩
instance : Slot n__law_between "_law_other" 1 := ⟨rfl⟩
instance : Slot n__law_between "_law_by" 2 := ⟨rfl⟩
instance : Slot n__law_between "_law_found" 3 := ⟨rfl⟩
instance : Slot n__law_between "_law_number" 4 := ⟨rfl⟩
theorem sc__law_between : FnScope n__law_between ["_law_one", "_law_other"] (defScope s__law_between) := ⟨rfl, rfl, rfl, by decide +kernel, rfl, by decide +kernel, by decide +kernel⟩
/-- level 3 -/
def n__law_glue : List Str := ["_law_fan_here", "_law_gap", "_law_gaps_here", "_law_here", "_law_mark", "_law_there"]
theorem v__law_glue : NameOk n__law_glue (defScope s__law_glue) 6 := nameOk_by (by decide +kernel)
instance : Slot n__law_glue "_law_fan_here" 0 := ⟨rfl⟩
instance : Slot n__law_glue "_law_gap" 1 := ⟨rfl⟩
instance : Slot n__law_glue "_law_gaps_here" 2 := ⟨rfl⟩
instance : Slot n__law_glue "_law_here" 3 := ⟨rfl⟩
instance : Slot n__law_glue "_law_mark" 4 := ⟨rfl⟩
instance : Slot n__law_glue "_law_there" 5 := ⟨rfl⟩
theorem sc__law_glue : FnScope n__law_glue ["_law_fan_here", "_law_gap"] (defScope s__law_glue) := ⟨rfl, rfl, rfl, by decide +kernel, rfl, by decide +kernel, by decide +kernel⟩
/-- level 1 -/
def n__law_own : List Str := ["_law_fan_here", "_law_gap", "_law_mark"]
theorem v__law_own : NameOk n__law_own (defScope s__law_own) 1 := nameOk_by (by decide +kernel)
instance : Slot n__law_own "_law_fan_here" 0 := ⟨rfl⟩
instance : Slot n__law_own "_law_gap" 1 := ⟨rfl⟩
instance : Slot n__law_own "_law_mark" 2 := ⟨rfl⟩
theorem sc__law_own : FnScope n__law_own ["_law_fan_here"] (defScope s__law_own) := ⟨rfl, rfl, rfl, by decide +kernel, rfl, by decide +kernel, by decide +kernel⟩
/-- level 4 -/
def n__law_drawn : List Str := ["_law_rest", "_law_table_here"]
theorem v__law_drawn : NameOk n__law_drawn (defScope s__law_drawn) 2 := nameOk_by (by decide +kernel)
instance : Slot n__law_drawn "_law_rest" 0 := ⟨rfl⟩
instance : Slot n__law_drawn "_law_table_here" 1 := ⟨rfl⟩
theorem sc__law_drawn : FnScope n__law_drawn ["_law_rest"] (defScope s__law_drawn) := ⟨rfl, rfl, rfl, by decide +kernel, rfl, by decide +kernel, by decide +kernel⟩
/-- level 2 -/
def n__law_word : List Str := ["_law_rest", "_law_most", "_law_word_here", "_law_first", "_law_k"]
theorem v__law_word : NameOk n__law_word (defScope s__law_word) 5 := nameOk_by (by decide +kernel)
instance : Slot n__law_word "_law_rest" 0 := ⟨rfl⟩
instance : Slot n__law_word "_law_most" 1 := ⟨rfl⟩
instance : Slot n__law_word "_law_word_here" 2 := ⟨rfl⟩
instance : Slot n__law_word "_law_first" 3 := ⟨rfl⟩
instance : Slot n__law_word "_law_k" 4 := ⟨rfl⟩
theorem sc__law_word : FnScope n__law_word ["_law_rest", "_law_most"] (defScope s__law_word) := ⟨rfl, rfl, rfl, by decide +kernel, rfl, by decide +kernel, by decide +kernel⟩
/-- level 6 -/
def n__law_told : List Str := ["_law_one", "_law_other"]
theorem v__law_told : NameOk n__law_told (defScope s__law_told) 2 := nameOk_by (by decide +kernel)
instance : Slot n__law_told "_law_one" 0 := ⟨rfl⟩
instance : Slot n__law_told "_law_other" 1 := ⟨rfl⟩
theorem sc__law_told : FnScope n__law_told ["_law_one", "_law_other"] (defScope s__law_told) := ⟨rfl, rfl, rfl, by decide +kernel, rfl, by decide +kernel, by decide +kernel⟩
/-- level 7 -/
def n__law_turnings : List Str := ["_law_table_here", "_law_fan_here", "_law_gap"]
theorem v__law_turnings : NameOk n__law_turnings (defScope s__law_turnings) 2 := nameOk_by (by decide +kernel)
instance : Slot n__law_turnings "_law_table_here" 0 := ⟨rfl⟩
instance : Slot n__law_turnings "_law_fan_here" 1 := ⟨rfl⟩
instance : Slot n__law_turnings "_law_gap" 2 := ⟨rfl⟩
theorem sc__law_turnings : FnScope n__law_turnings ["_law_table_here"] (defScope s__law_turnings) := ⟨rfl, rfl, rfl, by decide +kernel, rfl, by decide +kernel, by decide +kernel⟩
/-- level 8 -/
def n_law : List Str := ["_law_script", "_law_k", "_law_rest", "_law_one", "_law_other", "_law_both", "_law_turnings_here", "_law_found"]
theorem v_law : NameOk n_law (defScope s_law) 8 := nameOk_by (by decide +kernel)
instance : Slot n_law "_law_script" 0 := ⟨rfl⟩
instance : Slot n_law "_law_k" 1 := ⟨rfl⟩
instance : Slot n_law "_law_rest" 2 := ⟨rfl⟩
instance : Slot n_law "_law_one" 3 := ⟨rfl⟩
instance : Slot n_law "_law_other" 4 := ⟨rfl⟩
instance : Slot n_law "_law_both" 5 := ⟨rfl⟩
instance : Slot n_law "_law_turnings_here" 6 := ⟨rfl⟩
instance : Slot n_law "_law_found" 7 := ⟨rfl⟩
theorem sc_law : FnScope n_law ["_law_script"] (defScope s_law) := ⟨rfl, rfl, rfl, by decide +kernel, rfl, by decide +kernel, by decide +kernel⟩
end Fg
namespace FgA
open PySem PySem.Spec PyProof.Rows L2 Fg
local macro_rules | `(tactic| walk_at "n") => `(tactic| (refine is_name ?_; first
  | refine ae_nameV (by assumption) (by assumption) rfl rfl ?_
  | refine ae_glob (by assumption) (by assumption) ?_
  | refine ae_nameB (by assumption) rfl ?_))
local macro_rules | `(tactic| walk_at "set") => `(tactic| (refine is_set ?_; refine as_setV (by assumption) (by assumption) (by assumption) rfl ?_))
local macro_rules | `(tactic| walk_at "t") => `(tactic| first
  | (refine is_tgt ?_; refine ag_nameV (by assumption) (by assumption) (by assumption) rfl ?_)
  | refine ag_tup2 (by assumption) ?_
  | refine ag_tup3 (by assumption) ?_
  | refine ag_tup4 (by assumption) ?_)
local macro_rules | `(tactic| walk_at "e") => `(tactic| first
  | walk_at "n"
  | refine ae_int ?_
  | refine ae_str ?_
  | refine ae_sub' ?_
  | refine aa_cons ?_
  | refine aa_nil ?_
  | refine ae_add ?_
  | refine ae_sub ?_
  | refine ae_mul ?_
  | refine ae_mod ?_
  | refine ae_fdiv ?_
  | refine ae_tup ?_
  | refine ae_lst ?_
  | refine ae_slice ?_
  | refine ae_bl ?_
  | refine ae_non ?_
  | refine ae_len (by assumption) (by assumption) ?_
  | refine ae_abs (by assumption) (by assumption) ?_
  | refine ae_call (by assumption) (by assumption) ?_
  | refine addD_int ?_
  | (refine is_ii ?_; refine iiT trivial ?_)
  | refine szl_and rfl ?_
  | (refine is_sub ?_; first | refine subD_tup (ix0 rfl) ?_ | refine subD_tup (ix1 rfl) ?_ | refine subD_tup (ix2 rfl) ?_ | refine subD_tup (ix3 rfl) ?_))
local macro_rules | `(tactic| walk_at "h") => `(tactic| first
  | assumption
  | exact up_same
  | (refine up_new (by assumption) ?_; walk_at "h")
  | (refine up_old (by assumption) ?_; walk_at "h")
  | (refine up_old (Ne.symm (by assumption)) ?_; walk_at "h"))
local macro_rules | `(tactic| walk_at "f") => `(tactic| first
  | assumption
  | (apply free_up; walk_at "f"))
local macro_rules | `(tactic| walk_at "sub") => `(tactic| first
  | exact Sub.refl
  | (refine sub_both ?_; walk_at "sub")
  | (refine sub_new (by assumption) ?_; walk_at "sub"))
def nD (n : Nat) : Dt := .int (n : Int)
def frD (u : Fr) : Dt := .tup [.int u.1, .int u.2]
def tabD (T : Tab) : Dt := .tup [.tup (T.hs.map nD), .tup (T.ts.map nD)]
variable {X : Cx} {η : Eta} {Q0 : Dt → Eta → Prop}
abbrev ends (Q0 : Dt → Eta → Prop) : AEnds := { nx := fun _ η' => ∃ η0, Sub η0 η' ∧ Q0 .non η0, rt := fun d η' => ∃ η0, Sub η0 η' ∧ Q0 d η0 }
def p_common_part : ASp := fun ds η Q => ∃ a b : Int, ds = [.int a, .int b] ∧ Q (.int (Int.gcd a b)) η
theorem natAbs_if (a : Int) : (if a < 0 then -a else a) = (a.natAbs : Int) := by split <;> omega
theorem b_common_part (A : At X n_common_part (defScope s_common_part) 0) (B : Bt X) (hf : ∀ y, X.fn y = true) {ds : List Dt} (h : p_common_part ds η Q0) : ASs X (defBody s_common_part) (ds.map some ++ List.replicate 0 none) η (ends Q0) := by
  have V0 := v_common_part
  obtain ⟨a, b, rfl, q⟩ := h
  refine as_cons ?_
  walk_at "set"
  walk_at "e"
  walk_at "e"
  refine ⟨_, rfl, ?_⟩
  refine as_cons ?_
  walk_at "set"
  walk_at "e"
  walk_at "e"
  refine ⟨_, rfl, ?_⟩
  rw [natAbs_if, natAbs_if]
  refine as_cons ?_
  refine as_while A (fun m ρ η' => ∃ x y : Nat, ρ = [some (.int x), some (.int y)] ∧ η' = η ∧ Nat.gcd x y = Int.gcd a b ∧ m = y) b.natAbs ⟨a.natAbs, b.natAbs, rfl, rfl, rfl, rfl⟩ ?_
  rintro m ρ η' ⟨x, y, rfl, rfl, hg, hm⟩
  refine at_gt ?_
  walk_at "e"
  walk_at "e"
  refine ⟨_, _, rfl, rfl, fun hy => ?_, fun hy => ?_⟩
  · refine as_one (as_par A 0 1 rfl rfl ?_)
    walk_at "e"
    walk_at "e"
    walk_at "e"
    walk_at "e"
    refine iiT (by omega) ?_
    have e : Int.fmod (x : Int) (y : Int) = ((x % y : Nat) : Int) := by
      rw [Int.fmod_eq_emod_of_nonneg _ (by omega)]; simp
    rw [e]
    refine ⟨x % y, by have := Nat.mod_lt x (show 0 < y by omega); omega, y, x % y, rfl, rfl, ?_, rfl⟩
    rw [← hg, Nat.gcd_comm x y, Nat.gcd_rec y x, Nat.gcd_comm]
  · have : y = 0 := by omega
    subst this
    refine as_one (as_ret ?_)
    walk_at "e"
    refine ⟨η', Sub.refl, ?_⟩
    rw [← hg, Nat.gcd_zero_right] at q
    exact q

/-- p / q in its lowest terms, q positive -/
def p_fraction : ASp := fun ds η Q => ∃ p q : Int, ds = [.int p, .int q] ∧ 0 < q ∧ Int.gcd p q = 1 ∧ Q (frD (p, q)) η
theorem b_fraction (A : At X n_fraction (defScope s_fraction) 1) (B : Bt X) (hf : ∀ y, X.fn y = true) (f1 : FX X "common_part" 1 2 p_common_part) {ds : List Dt} (h : p_fraction ds η Q0) : ASs X (defBody s_fraction) (ds.map some ++ List.replicate 1 none) η (ends Q0) := by
  have V0 := v_fraction
  obtain ⟨p, q, rfl, hq, hg, h⟩ := h
  refine as_cons ?_
  walk_at "set"
  repeat walk_at "e"
  refine ⟨rfl, p, q, rfl, ?_⟩
  rw [hg]
  refine as_cons (as_if (at_eq A ?_))
  repeat walk_at "e"
  refine ⟨cmpr_of rfl rfl, fun z => ?_, fun _ => ?_⟩
  · cases z
  refine as_nil ?_
  refine as_cons (as_if (at_eq A ?_))
  repeat walk_at "e"
  refine ⟨cmpr_of rfl rfl, fun z => ?_, fun _ => ?_⟩
  · cases z; omega
  refine as_nil ?_
  refine as_cons (as_if (at_lt ?_))
  repeat walk_at "e"
  refine ⟨_, _, rfl, rfl, fun z => ?_, fun _ => ?_⟩
  · omega
  refine as_nil ?_
  refine as_one (as_ret ?_)
  have e : ∀ i : Int, i.fdiv ((1 : Nat) : Int) = i := fun i => Int.fdiv_one i
  repeat walk_at "e"
  refine iiT (.inl ⟨by decide, by decide⟩) ?_
  repeat walk_at "e"
  refine iiT (.inl ⟨by decide, by decide⟩) ?_
  repeat walk_at "e"
  rw [e, e]
  exact ⟨η, Sub.refl, h⟩
/-- the fraction between two that stand side by side -/
def p_between : ASp := fun ds η Q => ∃ u v : Fr, ds = [frD u, frD v] ∧ EdgeOk u v ∧ Q (frD (mid u v)) η
theorem b_between (A : At X n_between (defScope s_between) 2) (B : Bt X) (hf : ∀ y, X.fn y = true) (gE : GV X "ENDLESS" (frD inf)) (f1 : FX X "fraction" 2 2 p_fraction) {ds : List Dt} (h : p_between ds η Q0) : ASs X (defBody s_between) (ds.map some ++ List.replicate 0 none) η (ends Q0) := by
  have V0 := v_between
  obtain ⟨u, v, rfl, he, h⟩ := h
  refine as_cons (as_if (at_eq A ?_))
  repeat walk_at "e"
  refine ⟨cmpr_of rfl rfl, fun z => ?_, fun z => ?_⟩
  · have hu : u = inf := by
      obtain ⟨a, b⟩ := u
      simp only [frD, Dt.tup.injEq, List.cons.injEq, Dt.int.injEq, and_true] at z
      exact Prod.ext z.1 z.2
    have hv : v.2 = 1 := by
      rcases he with he | he
      · exact he.2
      · rw [hu] at he; exact absurd he.1 (by decide)
    refine as_one (as_ret ?_)
    repeat walk_at "e"
    refine ⟨rfl, v.1 - 1, v.2, rfl, by omega, by rw [hv]; simp, ?_⟩
    rw [mid, if_pos hu] at h
    exact ⟨η, Sub.refl, h⟩
  · have hu : u ≠ inf := fun e => z (by rw [e])
    refine as_nil ?_
    refine as_one (as_ret ?_)
    repeat walk_at "e"
    obtain ⟨h1, h2, h3⟩ : 0 < u.2 ∧ cross u v = -1 ∧ 0 ≤ v.2 := by
      rcases he with he | he
      · exact absurd he.1 hu
      · exact he
    refine ⟨rfl, u.1 + v.1, u.2 + v.2, rfl, by omega, ?_, ?_⟩
    · have hd : ((Int.gcd (u.1 + v.1) (u.2 + v.2) : Nat) : Int) ∣ 1 := by
        have a := Int.gcd_dvd_left (u.1 + v.1) (u.2 + v.2)
        have b := Int.gcd_dvd_right (u.1 + v.1) (u.2 + v.2)
        rw [cross] at h2
        have e1 : (u.2 + v.2) * u.1 * (-1) + (u.1 + v.1) * u.2 = 1 := by grind
        rw [← e1]
        exact Int.dvd_add (Int.dvd_mul_of_dvd_left (Int.dvd_mul_of_dvd_left b)) (Int.dvd_mul_of_dvd_left a)
      exact_mod_cast Int.eq_one_of_dvd_one (by omega) hd
    · rw [mid, if_neg hu] at h
      exact ⟨η, Sub.refl, h⟩
end FgA
/-! FgA8: == of lists, != of truth values, a written dict's item, letters. -/
namespace FgA
open PySem PySem.Spec PyProof.Rows L2 Fg
variable {X : Cx} {K : PySem.W.Frag} {H H' : Hp} {ρ : Rho} {η : Eta} {Q : Dt → Eta → Prop} {E : AEnds} {N : List Str} {sc : Scope} {k : Nat} {T F : Eta → Prop} {QG : Rho → Eta → Prop}
theorem acc_eq {α : Type} {l : List α} {f : α → Dt} {acc : List Dt} (hl : acc.length = l.length) (h : ∀ (j : Nat) (e : Dt), acc[j]? = some e → ∃ x, l[j]? = some x ∧ e = f x) : acc = l.map f := by
  apply List.ext_getElem?
  intro j
  by_cases hj : j < acc.length
  · obtain ⟨x, hx, e⟩ := h j _ (List.getElem?_eq_getElem hj)
    rw [List.getElem?_eq_getElem hj, e, List.getElem?_map, hx]
    rfl
  · rw [List.getElem?_eq_none (by omega), List.getElem?_eq_none (by rw [List.length_map]; omega)]
/-! ### lists compared -/
theorem eqvAll_dt : ∀ (xs ys : List Dt), (∀ x ∈ xs, okd 8 x = true) → (∀ y ∈ ys, okd 8 y = true) → (PyData.eqv (.list (pys xs)) (.list (pys ys)) = true ↔ xs = ys) := by
  intro xs ys hx hy
  have := eqv_dt 9 9 (.tup xs) (.tup ys) (by simpa [okd] using hx) (by simpa [okd] using hy)
  rw [py, py, PyData.eqv] at this
  rw [PyData.eqv, this]
  exact ⟨fun h => by cases h; rfl, fun h => by rw [h]⟩
structure LL (η : Eta) (d e : Dt) (xs ys : List Dt) : Prop where
  ex : ∃ p q, d = .ref p ∧ e = .ref q ∧ η p = some (.lst xs) ∧ η q = some (.lst ys)
  ox : ∀ x ∈ xs, okd 8 x = true
  oy : ∀ x ∈ ys, okd 8 x = true
theorem ar_eqL {d e : Dt} {xs ys : List Dt} (c : LL η d e xs ys) (q : ∀ b : Bool, (b = true ↔ xs = ys) → Q (.bl b) η) : AR K (rEqD K) d e η Q := by
  intro x y H R mx my b o
  obtain ⟨p, r, rfl, rfl, h1, h2⟩ := c.ex
  obtain ⟨vs, a1, a2⟩ := b _ _ h1
  obtain ⟨ws, c1, c2⟩ := b _ _ h2
  exact ⟨_, _, by rw [mx.ref_inv]; exact .lst (SqL.of a1) (a2.dps c.ox), by rw [my.ref_inv]; exact .lst (SqL.of c1) (c2.dps c.oy), okd_list c.ox (by decide), okd_list c.oy (by decide), o _ η _ H Kt.refl (.bl _) b (q _ (eqvAll_dt _ _ c.ox c.oy))⟩
theorem ar_neL {d e : Dt} {xs ys : List Dt} (c : LL η d e xs ys) (q : ∀ b : Bool, (b = true ↔ xs ≠ ys) → Q (.bl b) η) : AR K (rNeD K) d e η Q := by
  intro x y H R mx my b o
  obtain ⟨p, r, rfl, rfl, h1, h2⟩ := c.ex
  obtain ⟨vs, a1, a2⟩ := b _ _ h1
  obtain ⟨ws, c1, c2⟩ := b _ _ h2
  refine ⟨_, _, by rw [mx.ref_inv]; exact .lst (SqL.of a1) (a2.dps c.ox), by rw [my.ref_inv]; exact .lst (SqL.of c1) (c2.dps c.oy), okd_list c.ox (by decide), okd_list c.oy (by decide), o _ η _ H Kt.refl (.bl _) b (q _ ?_)⟩
  have := eqvAll_dt _ _ c.ox c.oy
  cases z : PyData.eqv (.list (pys xs)) (.list (pys ys)) <;> simp_all
theorem at_eqL (A : At X N sc k) {a b : Expr} {pos : Pos} (h : AE X a ρ η fun d η1 => AE X b ρ η1 fun e η2 => ∃ xs ys, LL η2 d e xs ys ∧ (xs = ys → T η2) ∧ (xs ≠ ys → F η2)) : AT X (.Compare a [.Eq] [b] pos) ρ η T F := by
  refine at_cmpr (op_eqD A.hu) (nomark _) (h.mono fun d η1 q => q.mono fun e η2 q2 => ?_)
  obtain ⟨xs, ys, c, q⟩ := q2
  exact ar_eqL c fun b hb => ⟨b, rfl, fun z => q.1 (hb.mp z), fun z => q.2 fun y => by rw [hb.mpr y] at z; cases z⟩
theorem at_neL (A : At X N sc k) {a b : Expr} {pos : Pos} (h : AE X a ρ η fun d η1 => AE X b ρ η1 fun e η2 => ∃ xs ys, LL η2 d e xs ys ∧ (xs ≠ ys → T η2) ∧ (xs = ys → F η2)) : AT X (.Compare a [.NotEq] [b] pos) ρ η T F := by
  refine at_cmpr (op_neD A.hu) (nomark _) (h.mono fun d η1 q => q.mono fun e η2 q2 => ?_)
  obtain ⟨xs, ys, c, q⟩ := q2
  exact ar_neL c fun b hb => ⟨b, rfl, fun z => q.1 (hb.mp z), fun z => q.2 (Classical.byContradiction fun y => by rw [hb.mpr y] at z; cases z)⟩
/-! ### truth values compared -/
theorem at_neB {a b : Expr} {pos : Pos} (h : AE X a ρ η fun d η1 => AE X b ρ η1 fun e η2 => ∃ c1 c2 : Bool, d = .bl c1 ∧ e = .bl c2 ∧ (c1 ≠ c2 → T η2) ∧ (c1 = c2 → F η2)) : AT X (.Compare a [.NotEq] [b] pos) ρ η T F := by
  refine at_cmpr op_ne (nomark _) (h.mono fun d η1 q => q.mono fun e η2 q2 => ?_)
  obtain ⟨c1, c2, rfl, rfl, q⟩ := q2
  intro x y H R mx my b o
  rw [mx.bl_inv, my.bl_inv]
  refine ⟨rfl, o _ η2 _ H Kt.refl (.bl _) b ⟨_, rfl, fun z => q.1 fun e => ?_, fun z => q.2 ?_⟩⟩
  · subst e; simp at z
  · simpa using z
/-! ### a written dict -/
structure Pow (X : Cx) : Prop where
  ex : ∃ p, X.mg "POWERS" = some (.ref p) ∧ KDct X.K X.w p "r" (.int 1) ∧ KDct X.K X.w p "q" (.int 2)
inductive PowOk (η : Eta) (Q : Dt → Eta → Prop) : Dt → Prop
  | r : Q (.int 1) η → PowOk η Q (.str "r")
  | q : Q (.int 2) η → PowOk η Q (.str "q")
theorem ae_pow1 (A : At X N sc k) (W : Pow X) {i : Expr} {p pos : Pos} (h : AE X i ρ η fun e η1 => PowOk η1 Q e) (hg : sc.names.lookup ("POWERS" : Str) = some .globalImplicit := by rfl) (hs : PlainIx i := by intro _ _; rfl) :
    AE X (.Subscript (.Name "POWERS" p) i pos) ρ η Q := by
  obtain ⟨a, hm, h1, h2⟩ := W.ex
  refine AX.of (pe_ix ix_kdict (pe_glob (v := .ref a) (A.gl hg) hm rfl) (peW i) hs) ?_
  intro σ H R v b o
  show tW X i σ H _
  refine h.run σ H _ v b fun d η1 x H1 k1 m1 b1 q1 => ?_
  rcases q1 with q | q
  · exact ⟨a, _, _, rfl, m1.str_inv, h1, o _ η1 _ H1 k1 (.int _) b1 q⟩
  · exact ⟨a, _, _, rfl, m1.str_inv, h2, o _ η1 _ H1 k1 (.int _) b1 q⟩
/-! ### letters -/
def chL : L → Nat
  | .s => 115
  | .r => 114
  | .q => 113
def ltS (x : L) : Str := ⟨#[chL x]⟩
def ltD (x : L) : Dt := .str (ltS x)
def wS (w : Wd) : Str := ⟨(w.map chL).toArray⟩
theorem s_s : (Str.ofString "s") = ltS .s := rfl
theorem s_r : (Str.ofString "r") = ltS .r := rfl
theorem s_q : (Str.ofString "q") = ltS .q := rfl
theorem s_0 : (Str.ofString "") = wS [] := rfl
theorem chL_inj {x y : L} (h : chL x = chL y) : x = y := by cases x <;> cases y <;> first | rfl | (simp [chL] at h)
theorem ltS_inj {x y : L} (h : ltS x = ltS y) : x = y := by cases x <;> cases y <;> first | rfl | (exact absurd h (by decide))
theorem ltD_inj {x y : L} (h : ltD x = ltD y) : x = y := ltS_inj (by injection h)
theorem wS_length (w : Wd) : (wS w).length = w.length := by
  show (w.map chL).toArray.size = _
  simp
theorem lt_s_iff {y : L} : ltD y = .str "s" ↔ y = .s := ⟨fun h => ltD_inj (y := .s) h, fun e => by rw [e]; rfl⟩
theorem pow_ok {y : L} {b : Nat} (h : y = .r ∧ b = 1 ∨ y = .q ∧ b = 2) (q : Q (.int (b : Nat)) η) : PowOk η Q (ltD y) := by
  rcases h with ⟨rfl, rfl⟩ | ⟨rfl, rfl⟩
  · exact .r q
  · exact .q q
theorem okd_str {n : Nat} {x : Str} (h : (PyData.str x).canLay0 = true) : okd n (.str x) = true := by cases n <;> exact h
theorem okd_lt (n : Nat) (x : L) : okd n (ltD x) = true := okd_str (by cases x <;> decide +kernel)
end FgA
/-! FgA9: dicts with keys of many kinds: read, asked, stored to, displayed, walked. -/
namespace FgA
open PySem PySem.Spec PyProof.Rows L2 FgD
section
variable {prog : Program} {w : World} {A : Around} {E : Value → Shared → Prop} {s : Shared} {d : Addr} {o : Obj} {es : Array DictEntry} {ep : Nat} {ks : List NestedKey} {k : NestedKey} {key : Value}
theorem nd_get (hu : A.units + 8 < cLine) (hk : NestedIs s.heap k key) (hok : okK k) (ho : s.heap.get? d = some o) (hd : o.data = .dict es ep) (he : KeysAre w s.heap ks es.toList) (hn : ks.Nodup) {Q : Option Value → Shared → Prop}
    (hnone : k ∉ ks → ∀ t, Q none { s with toks := t }) (hsome : ∀ (j : Nat) (e : DictEntry), ks[j]? = some k → es[j]? = some e → ∀ t, Q (some e.val) { s with toks := t }) : wpAny (model prog w) A (dictGet d key) Q E s := by
  unfold dictGet
  try with_reducible refine wpAny_holding ?_
  refine wpAny_bind (pyHash_key k key A s _ hk (by have := hok.1; omega) (wpAny_bind (find_in (s := { s with toks := s.toks + k.draws }) hu hk hok ho hd he hn ?_ ?_)))
  · intro h
    exact wpAny_pure (hnone h _)
  · intro j hj
    refine wpAny_bind (wpAny_dictEntries (s := { s with toks := s.toks + k.draws }) ho hd ?_)
    obtain ⟨e, h1, _⟩ := keys_get' he hj
    rw [Array.getElem?_toList] at h1
    rw [h1]
    exact wpAny_pure (hsome j e hj h1 _)
theorem nd_set {v : Value} (hu : A.units + 8 < cLine) (hk : NestedIs s.heap k key) (hok : okK k) (ho : s.heap.get? d = some o) (hx : o.ExactDict) (hd : o.data = .dict es ep) (he : KeysAre w s.heap ks es.toList) (hn : ks.Nodup) (hsz : es.size ≤ sizeLine) {Q : Unit → Shared → Prop}
    (hnew : k ∉ ks → ∀ h' o' ep' t, h'.get? d = some o' → o'.ExactDict → o'.data = .dict (es.push ⟨k.hash w, key, v⟩) ep' → Heap.SameBut d s.heap h' → Q () { s with heap := h', toks := t })
    (hold : ∀ j, ks[j]? = some k → ∀ h' o' ep' t, h'.get? d = some o' → o'.ExactDict → o'.data = .dict (es.modify j fun e => { e with val := v }) ep' → Heap.SameBut d s.heap h' → Q () { s with heap := h', toks := t }) : wpAny (model prog w) A (dictSet d key v) Q E s := by
  unfold dictSet
  try with_reducible refine wpAny_holding ?_
  refine wpAny_bind (pyHash_key k key A s _ hk (by have := hok.1; omega) ?_)
  unfold dictSetHashed
  try with_reducible refine wpAny_holding ?_
  refine wpAny_bind (find_in (s := { s with toks := s.toks + k.draws }) hu hk hok ho hd he hn ?_ ?_)
  · intro h
    exact wpAny_bind (wpAny_rule (wpAny_updateDictKeys (hz := hsz) (s := { s with toks := s.toks + k.draws }) ho hd (hnew h _ _ (ep + 1) _ (Heap.get?_update_self _ ho (Obj.isFreed_of_dict (Obj.data_mapDictKeys hd _))) (hx.mapDictKeys _) (Obj.data_mapDictKeys hd _) (Heap.SameBut.update ..))))
  · intro j hj
    exact wpAny_bind (wpAny_rule (wpAny_bind (wpAny_updateDict (s := { s with toks := s.toks + k.draws }) ho hd (wpAny_point (hold j hj _ _ ep _ (Heap.get?_update_self _ ho (Obj.isFreed_of_dict (Obj.data_mapDict hd _))) (hx.mapDict _) (Obj.data_mapDict hd _) (Heap.SameBut.update ..))))))
end
variable {X : Cx} {pins : List (Addr × Obj)} {σ : L2.St} {H : Hp} {s : Shared}
mutual
theorem nest_of (I : Inv X pins σ H s) : ∀ (k : NestedKey) (v : V) (u : Value), Im X.K H v (dtOf k) → RelV v u → NestedIs s.heap k u
  | .none, v, u, h, r => by
    rw [dtOf] at h
    rw [h.non_inv] at r
    cases r; exact .none
  | .num i, v, u, h, r => by
    rw [dtOf] at h
    rw [h.int_inv] at r
    obtain ⟨t, rfl⟩ := r; exact .int i t
  | .text x, v, u, h, r => by
    rw [dtOf] at h
    rw [h.str_inv] at r
    obtain ⟨t, rfl⟩ := r; exact .text x t
  | .tup l, v, u, h, r => by
    rw [dtOf] at h
    obtain ⟨a, xs, rfl, hs, hi⟩ := h.tup_inv
    cases r
    obtain ⟨its, rv, ⟨o, ho, hc, n, hd⟩, _⟩ := I.tuple hs
    exact .tup ho hc hd (nests_of I l xs its hi rv)
theorem nests_of (I : Inv X pins σ H s) : ∀ (ks : List NestedKey) (vs : List V) (us : List Value), Ims X.K H vs (dtOfs ks) → Vals vs us → NestedAll s.heap ks us
  | [], vs, us, h, r => by
    rw [dtOfs] at h
    cases h; cases r; exact .nil
  | k :: ks, vs, us, h, r => by
    rw [dtOfs] at h
    cases h with
    | cons h1 h2 =>
      cases r with
      | cons r1 r2 => exact .cons (nest_of I k _ _ h1 r1) (nests_of I ks _ _ h2 r2)
end
theorem keysAre_of (I : Inv X pins σ H s) : ∀ {xs : List (V × Int × V)} {kvs : List (NestedKey × Dt)} {es : List DictEntry}, Paired (fun (x : V × Int × V) (kv : NestedKey × Dt) => Im X.K H x.1 (dtOf kv.1) ∧ x.2.1 = kv.1.hash X.w ∧ okK kv.1 ∧ Im X.K H x.2.2 kv.2) xs kvs → Paired EnIs xs es → KeysAre X.w s.heap (kvs.map (·.1)) es
  | _, _, _, .nil, .nil => .nil
  | _, _, _, .cons h hs, .cons e es => .cons ⟨nest_of I _ _ _ h.1 e.1, by rw [e.2.1, h.2.1], h.2.2.1⟩ (keysAre_of I hs es)
theorem dd_rd (I : Inv X pins σ H s) {a : Addr} {xs : List (V × Int × V)} (h : Rd H a (DdO a xs)) : (a == sysModules) = false ∧ xs.length ≤ sizeLine ∧ ∃ o es ep, s.heap.get? a = some o ∧ o.ExactDict ∧ o.data = .dict es ep ∧ Paired EnIs xs es.toList := by
  have := h.ok I.hok
  exact this.1
theorem dd_ok {P : Program} {w : World} {H' : Hp} {h' : Heap} {a : Addr} {xs : List (V × Int × V)} (lo : (a == sysModules) = false) (hl : xs.length ≤ sizeLine) {o : Obj} {es : Array DictEntry} {ep : Nat} (ho : h'.get? a = some o) (hx : o.ExactDict) (hd : o.data = .dict es ep) (hp : Paired EnIs xs es.toList) : ObjOk P w H' h' a (DdO a xs) := by
  refine ⟨⟨lo, hl, o, es, ep, ho, hx, hd, hp⟩, ⟨o, ho⟩, ?_⟩
  rintro h1 h2 ⟨lo', hl', o', es', ep', ho', r⟩ k
  exact ⟨lo', hl', o', es', ep', k _ ho', r⟩
theorem paired_at {α β : Type} {R : α → β → Prop} : ∀ {xs : List α} {ys : List β}, Paired R xs ys → ∀ {i : Nat} {y : β}, ys[i]? = some y → ∃ x, xs[i]? = some x ∧ R x y
  | _, _, .nil, i, y, h => by simp at h
  | _, _, .cons a t, 0, y, h => ⟨_, rfl, by simp at h; subst h; exact a⟩
  | _, _, .cons a t, i + 1, y, h => paired_at t (i := i) (by simpa using h)
theorem paired_set {α β : Type} {R : α → β → Prop} : ∀ {xs : List α} {ys : List β}, Paired R xs ys → ∀ (i : Nat) {f : α → α} {g : β → β}, (∀ x y, R x y → R (f x) (g y)) → Paired R (xs.modify i f) (ys.modify i g)
  | _, _, .nil, i, f, g, h => by simp; exact .nil
  | _, _, .cons a t, 0, f, g, h => .cons (h _ _ a) t
  | _, _, .cons a t, i + 1, f, g, h => .cons a (paired_set t i h)
theorem lkA_at {κ α : Type} [DecidableEq κ] : ∀ {kvs : List (κ × α)}, (kvs.map (·.1)).Nodup → ∀ {j : Nat} {k : κ} {d : α}, kvs[j]? = some (k, d) → lkA kvs k = some d
  | [], _, j, k, d, h => by simp at h
  | a :: r, hn, 0, k, d, h => by
    simp at h; subst h; rw [lkA_cons, if_pos rfl]
  | a :: r, hn, j + 1, k, d, h => by
    rw [List.map_cons, List.nodup_cons] at hn
    have h' : r[j]? = some (k, d) := by simpa using h
    rw [lkA_cons, if_neg]
    · exact lkA_at hn.2 h'
    · intro e
      exact hn.1 (e ▸ List.mem_map_of_mem (f := (·.1)) (List.mem_of_getElem? h'))
theorem keys_at {kvs : List (NestedKey × Dt)} {j : Nat} {k : NestedKey} (h : (kvs.map (·.1))[j]? = some k) : ∃ d, kvs[j]? = some (k, d) := by
  rw [List.getElem?_map] at h
  obtain ⟨⟨k', d⟩, h1, h2⟩ := Option.map_eq_some_iff.mp h
  cases h2
  exact ⟨d, h1⟩
/-- a dict with keys of many kinds, to be read -/
structure NRd (X : Cx) (H : Hp) (a : Addr) (kvs : List (NestedKey × Dt)) : Prop where
  ex : ∃ xs, Rd H a (DdO a xs) ∧ NstOk X.K X.w H xs kvs
/-- what the search in it gives -/
theorem nrd_get {A : Around} {E : Value → Shared → Prop} {a : Addr} {kvs : List (NestedKey × Dt)} {k : NestedKey} {y : V} {u : Value} {Q : Option Value → Shared → Prop} (hu : A.units + 8 < cLine) (I : Inv X pins σ H s) (n : NRd X H a kvs) (hy : Im X.K H y (dtOf k)) (hok : okK k) (ry : RelV y u)
    (h0 : lkA kvs k = none → ∀ s', Inv X pins σ H s' → Q none s') (h1 : ∀ d, lkA kvs k = some d → ∀ s' v w', Inv X pins σ H s' → Im X.K H v d → RelV v w' → Q (some w') s') : wpAny (model X.prog X.w) A (dictGet a u) Q E s := by
  obtain ⟨xs, hr, hN⟩ := n.ex
  obtain ⟨lo, hl, o, es, ep, ho, hx, hd, hp⟩ := dd_rd I hr
  refine nd_get hu (nest_of I k y u hy ry) hok ho hd (keysAre_of I hN.1 hp) hN.2 (fun hnot t => h0 (lkA_none.mpr hnot) _ (I.tok t)) fun j e hj he t => ?_
  obtain ⟨d, hd'⟩ := keys_at hj
  obtain ⟨x, hx1, hx2⟩ := paired_at hp (i := j) (y := e) (by rw [Array.getElem?_toList]; exact he)
  obtain ⟨x', hx3, hx4⟩ := paired_at hN.1 hd'
  rw [hx1] at hx3
  cases hx3
  exact h1 d (lkA_at hN.2 hd') _ _ _ (I.tok t) hx4.2.2.2 hx2.2.2
theorem nrd_type (I : Inv X pins σ H s) {a : Addr} {kvs : List (NestedKey × Dt)} (n : NRd X H a kvs) : s.TypeIs (.ref a) "dict" ∧ (a == sysModules) = false := by
  obtain ⟨xs, hr, hN⟩ := n.ex
  obtain ⟨lo, hl, o, es, ep, ho, hx, hd, hp⟩ := dd_rd I hr
  exact ⟨⟨o, ho, hx.1⟩, lo⟩
def rIxN (X : Cx) : R2 := fun x y H Q => ∃ a kvs k d, x = .ref a ∧ NRd X H a kvs ∧ Im X.K H y (dtOf k) ∧ okK k ∧ lkA kvs k = some d ∧ ∀ v, Im X.K H v d → Q v H
theorem hu_in1 {A : Around} (hu : A.units + 64 < cLine) : A.in1.units + 8 < cLine := by
  have e : A.in1.units ≤ A.units + 1 := by first | exact Nat.le_refl _ | exact Nat.le_succ _
  omega
theorem ix_nst (hu : X.A.units + 64 < cLine) : IxR X (rIxN X) := by
  intro value slice pins s σ H x y v u Q I rx ry h hs
  obtain ⟨a, kvs, k, d, rfl, n, hy, hok, hl, q⟩ := h
  obtain rfl : v = Value.ref a := rx
  obtain ⟨ty, lo⟩ := nrd_type I n
  refine tail_any ty slot_dict_getitem.lookup ?_ hs
  unfold getItem
  try with_reducible refine wpAny_holding ?_
  refine wpAny_bind (wpAny_sequenceKey ty (by decide) ?_)
  refine wpAny_bind (wpAny_callSpecial?_slot (name := Str.ofString "__getitem__") ty slot_dict_getitem
    (wpAny_call_entry slot_dict_getitem ty entry_dict_getitem ?_ (args_dict_getitem _ _)))
  show wpAny _ _ (dictGet a u >>= _) _ _ s
  refine wpAny_bind (nrd_get (hu_in1 hu) I n hy hok ry (fun e => by rw [hl] at e; cases e) fun d' e s' v' w' I' m r => ?_)
  rw [hl] at e
  cases e
  exact wpAny_pure ⟨w', rfl, wpAny_pure ⟨v', H, I', r, q v' m⟩⟩
def rInN (X : Cx) (neg : Bool) : R2 := fun y x H Q => ∃ a kvs k, x = .ref a ∧ NRd X H a kvs ∧ Im X.K H y (dtOf k) ∧ okK k ∧ Q (.bl (if neg then !(lkA kvs k).isSome else (lkA kvs k).isSome)) H
theorem op_inN (hu : X.A.units + 64 < cLine) : OpR X (compareOp .In) (rInN X false) := by
  intro pins s σ H y x u v Q I ry rx h
  obtain ⟨a, kvs, k, rfl, n, hy, hok, q⟩ := h
  obtain rfl : v = Value.ref a := rx
  obtain ⟨ty, lo⟩ := nrd_type I n
  show wpAny _ _ (do return Value.bool (← contains (.ref a) u)) _ _ s
  refine wpAny_bind ?_
  unfold contains
  try with_reducible refine wpAny_holding ?_
  refine wpAny_bind (wpAny_specialOf ty slot_dict_contains.lookup ?_)
  show wpAny _ _ (if (some (Value.builtin "dict.__contains__") == some Value.none) = true then _ else _) _ _ s
  rw [if_neg (by rw [beq_builtin_none]; exact Bool.false_ne_true)]
  refine wpAny_bind (wpAny_callSpecialUnlessNone?_slot (name := Str.ofString "__contains__") ty slot_dict_contains
    (wpAny_call_entry slot_dict_contains ty entry_dict_contains ?_ (args_dict_contains _ _)))
  show wpAny _ _ (dictGet a u >>= _) _ _ s
  refine wpAny_bind (nrd_get (hu_in1 hu) I n hy hok ry (fun e s' I' => ?_) fun d' e s' v' w' I' m r => ?_)
  · show wpAny _ _ (Builtin.Dict.pendingKey? a u >>= _) _ _ _
    rw [e] at q
    exact wpAny_bind (wpAny_pendingKey_other lo (wpAny_pure ⟨_, rfl, wpAny_truthy_bool (wpAny_pure ⟨.bl false, H, I', rfl, q⟩)⟩))
  · show wpAny _ _ (ret (.bool true)) _ _ _
    rw [e] at q
    exact wpAny_pure ⟨_, rfl, wpAny_truthy_bool (wpAny_pure ⟨.bl true, H, I', rfl, q⟩)⟩
theorem op_ninN (hu : X.A.units + 64 < cLine) : OpR X (compareOp .NotIn) (rInN X true) := by
  intro pins s σ H y x u v Q I ry rx h
  obtain ⟨a, kvs, k, rfl, n, hy, hok, q⟩ := h
  obtain rfl : v = Value.ref a := rx
  obtain ⟨ty, lo⟩ := nrd_type I n
  show wpAny _ _ (do return Value.bool (!(← contains (.ref a) u))) _ _ s
  refine wpAny_bind ?_
  unfold contains
  try with_reducible refine wpAny_holding ?_
  refine wpAny_bind (wpAny_specialOf ty slot_dict_contains.lookup ?_)
  show wpAny _ _ (if (some (Value.builtin "dict.__contains__") == some Value.none) = true then _ else _) _ _ s
  rw [if_neg (by rw [beq_builtin_none]; exact Bool.false_ne_true)]
  refine wpAny_bind (wpAny_callSpecialUnlessNone?_slot (name := Str.ofString "__contains__") ty slot_dict_contains
    (wpAny_call_entry slot_dict_contains ty entry_dict_contains ?_ (args_dict_contains _ _)))
  show wpAny _ _ (dictGet a u >>= _) _ _ s
  refine wpAny_bind (nrd_get (hu_in1 hu) I n hy hok ry (fun e s' I' => ?_) fun d' e s' v' w' I' m r => ?_)
  · show wpAny _ _ (Builtin.Dict.pendingKey? a u >>= _) _ _ _
    rw [e] at q
    exact wpAny_bind (wpAny_pendingKey_other lo (wpAny_pure ⟨_, rfl, wpAny_truthy_bool (wpAny_pure ⟨.bl true, H, I', rfl, q⟩)⟩))
  · show wpAny _ _ (ret (.bool true)) _ _ _
    rw [e] at q
    exact wpAny_pure ⟨_, rfl, wpAny_truthy_bool (wpAny_pure ⟨.bl false, H, I', rfl, q⟩)⟩
/-! ### stores -/
/-- the entries after a store -/
def putX (xs : List (V × Int × V)) (kvs : List (NestedKey × Dt)) (w : World) (k : NestedKey) (y v : V) : List (V × Int × V) :=
  if k ∈ kvs.map (·.1) then xs.modify ((kvs.map (·.1)).idxOf k) (fun x => (x.1, x.2.1, v)) else xs ++ [(y, k.hash w, v)]
theorem nst_set {A : Around} {E : Value → Shared → Prop} {a : Addr} {xs : List (V × Int × V)} {kvs : List (NestedKey × Dt)} {k : NestedKey} {y v : V} {u r : Value} {Q : Unit → Shared → Prop} (hu : A.units + 8 < cLine) (I : Inv X pins σ H s) (hH : H a = some (DdO a xs)) (hN : NstOk X.K X.w H xs kvs)
    (hy : Im X.K H y (dtOf k)) (hok : okK k) (ry : RelV y u) (rv : RelV v r) (hl : kvs.length < 100000) (h : ∀ s', Inv X pins σ (upd H a (DdO a (putX xs kvs X.w k y v))) s' → Q () s') : wpAny (model X.prog X.w) A (dictSet a u r) Q E s := by
  obtain ⟨lo, hlx, o, es, ep, ho, hx, hd, hp⟩ := dd_rd I (Rd.of hH)
  have hmu : Mut (H a) := by rw [hH]; trivial
  have hsz : es.size = xs.length := by
    have := hp.length
    rw [Array.length_toList] at this
    exact this.symm
  have hlen : xs.length = kvs.length := hN.1.length
  refine nd_set hu (nest_of I k y u hy ry) hok ho hx hd (keysAre_of I hN.1 hp) hN.2 (by rw [hsz]; exact hlx) ?_ ?_
  · intro hnot h' o' ep' t ho' hx' hd' hs'
    refine h _ (d_write I hmu hs' ⟨o', ho'⟩ ?_)
    unfold putX
    rw [if_neg hnot]
    refine dd_ok lo ?_ ho' hx' hd' ?_
    · rw [List.length_append]; exact le_sz (by simp; omega)
    · rw [Array.toList_push]
      exact hp.snoc ⟨ry, rfl, rv⟩
  · intro j hj h' o' ep' t ho' hx' hd' hs'
    refine h _ (d_write I hmu hs' ⟨o', ho'⟩ ?_)
    have hm : k ∈ kvs.map (·.1) := List.mem_of_getElem? hj
    have hij : (kvs.map (·.1)).idxOf k = j := by
      obtain ⟨h1, h2⟩ := List.getElem?_eq_some_iff.mp hj
      have := hN.2.idxOf_getElem j h1
      rw [h2] at this
      exact this
    unfold putX
    rw [if_pos hm, hij]
    refine dd_ok lo (by rw [List.length_modify]; exact hlx) ho' hx' hd' ?_
    rw [Array.toList_modify]
    exact paired_set hp j fun x e q => ⟨q.1, q.2.1, rv⟩
theorem putX_ok {K : PySem.W.Frag} {w : World} {xs : List (V × Int × V)} {kvs : List (NestedKey × Dt)} {k : NestedKey} {y v : V} {d : Dt} (hN : NstOk K w H xs kvs) (hy : Im K H y (dtOf k)) (hok : okK k) (hv : Im K H v d) : NstOk K w H (putX xs kvs w k y v) (putA kvs k d) := by
  refine ⟨?_, put_nodup hN.2⟩
  unfold putX putA
  rw [any_lkA]
  by_cases hm : k ∈ kvs.map (·.1)
  · have hs : (lkA kvs k).isSome = true := by
      cases z : lkA kvs k with
      | none => exact absurd hm (lkA_none.mp z)
      | some _ => rfl
    rw [if_pos hm, if_pos hs]
    have hn := hN.2
    clear hs
    revert xs
    induction kvs with
    | nil => cases hm
    | cons b t ih =>
      intro xs hN'
      cases hN'.1 with
      | @cons x _ xs' _ h1 h2 =>
        rw [List.map_cons, List.nodup_cons] at hn
        by_cases e : b.1 = k
        · have e0 : ((b :: t).map (·.1)).idxOf k = 0 := by rw [List.map_cons, e, List.idxOf_cons_self]
          rw [e0]
          refine .cons (by dsimp only; rw [if_pos e]; exact ⟨h1.1, h1.2.1, h1.2.2.1, hv⟩) ?_
          have : t.map (fun kv => if kv.1 = k then (kv.1, d) else kv) = t := by
            conv => rhs; rw [← List.map_id t]
            apply List.map_congr_left
            intro c hc
            rw [if_neg (fun z => hn.1 (by rw [e, ← z]; exact List.mem_map_of_mem hc))]
            rfl
          rw [this]
          exact h2
        · have e1 : ((b :: t).map (·.1)).idxOf k = (t.map (·.1)).idxOf k + 1 := by
            rw [List.map_cons, List.idxOf_cons, show (b.1 == k) = false from beq_eq_false_iff_ne.mpr e]; rfl
          rw [e1]
          refine .cons (by dsimp only; rw [if_neg e]; exact h1) ?_
          have hm' : k ∈ t.map (·.1) := by
            rw [List.map_cons, List.mem_cons] at hm
            exact hm.resolve_left fun z => e z.symm
          exact ih hm' hn.2 ⟨h2, hn.2⟩
  · have hs : lkA kvs k = none := lkA_none.mpr hm
    rw [if_neg hm, hs]
    exact hN.1.snoc ⟨hy, rfl, hok, hv⟩
end FgA
/-! FgB1: items of whatever holds items; stores to, displays of, questions to dicts with keys of many kinds, told of data. -/
namespace FgA
open PySem PySem.Spec PyProof.Rows L2 FgD
variable {X : Cx} {K : PySem.W.Frag} {H H' : Hp} {ρ : Rho} {η : Eta} {Q : Dt → Eta → Prop} {E : AEnds} {N : List Str} {sc : Scope} {k : Nat} {T F : Eta → Prop} {QG : Rho → Eta → Prop}
theorem hab_nst {a : Addr} {kvs : List (NestedKey × Dt)} (b : HAb X.K H η) (h : η a = some (.nst X.w kvs)) : NRd X H a kvs := by
  obtain ⟨xs, h1, h2⟩ := b _ _ h
  exact ⟨xs, .inl h1, h2⟩
theorem hab_nfz {a : Addr} {kvs : List (NestedKey × Dt)} (b : HAb X.K H η) (h : η a = some (.nfz X.w kvs)) : NRd X H a kvs := by
  obtain ⟨o, xs, h1, h2⟩ := b _ _ h
  exact ⟨xs, .inr ⟨o, h1⟩, h2⟩
/-- what stands under a key -/
inductive ItemOf (w : World) (η : Eta) : Dt → Dt → Dt → Prop
  | tup {l : List Dt} {i : Int} {x : Dt} : atI l i = some x → ItemOf w η (.tup l) (.int i) x
  | lst {p : Addr} {l : List Dt} {i : Int} {x : Dt} : η p = some (.lst l) → atI l i = some x → ItemOf w η (.ref p) (.int i) x
  | dic {p : Addr} {kvs : List (Key × Dt)} {i : Int} {x : Dt} : η p = some (.dic kvs) → lkA kvs (Sum.inl i) = some x → ItemOf w η (.ref p) (.int i) x
  | nst {p : Addr} {kvs : List (NestedKey × Dt)} {k : NestedKey} {x : Dt} : η p = some (.nst w kvs) → lkA kvs k = some x → okK k → ItemOf w η (.ref p) (dtOf k) x
inductive ItemQ (w : World) (η : Eta) (Q : Dt → Eta → Prop) (d e : Dt) : Prop
  | mk {x : Dt} : ItemOf w η d e x → Q x η → ItemQ w η Q d e
theorem ix_dic (hu : X.A.units + 64 < cLine) : IxR X (fun x y H Q => ∃ a v, x = .ref a ∧ DGet H a y (some v) ∧ Q v H) := by
  intro value slice pins s σ H x y v u Q I rx ry h hs
  obtain ⟨a, v0, rfl, g, q⟩ := h
  obtain rfl : v = Value.ref a := rx
  have ty : s.TypeIs (.ref a) "dict" := by
    rcases g with ⟨kvs, k, e, _, _⟩ | ⟨kvs, k, b, e, _, _, _⟩
    · obtain ⟨z, hd, vs, rel, dd⟩ := dk_rd I.hok e
      exact dd.mapOf.typeIs
    · obtain ⟨z, hd, xs, rel, dd⟩ := dt_rd I.hok e
      exact dd.typeIs
  exact tail_any ty slot_dict_getitem.lookup (d_getItem (Nat.lt_of_le_of_lt (Nat.add_le_add_left (by decide) _) hu) I g ry fun w' s' I' r => ⟨v0, H, I', r, q⟩) hs
theorem ae_item (A : At X N sc k) {a b : Expr} {pos : Pos} (h : AE X a ρ η fun d η1 => AE X b ρ η1 fun e η2 => ItemQ X.w η2 Q d e) (hs : PlainIx b := by intro _ _; rfl) : AE X (.Subscript a b pos) ρ η Q := by
  refine AX.of (pe_ix (IxR.or ix_seq (IxR.or (ix_dic A.hu) (ix_nst A.hu))) (peW a) (peW b) hs) (ax_op (h.run.mono fun d η1 q0 => q0.run.mono fun e η2 q2 => ?_))
  intro x y H R mx my bb o
  obtain ⟨it, q⟩ := q2
  cases it with
  | @tup l i z h1 => exact .inl (ar_sub (.tup h1 q) x y H R mx my bb o)
  | @lst p l i z h0 h1 => exact .inl (ar_sub (.ref h0 (.lst h1) q) x y H R mx my bb o)
  | @dic p kvs i z h0 h1 =>
    obtain ⟨ks, a1, a2⟩ := bb _ _ h0
    rcases KR.lk a2 (Sum.inl i) with ⟨_, c⟩ | ⟨w, u', c1, c2, c3⟩
    · rw [c] at h1; cases h1
    · rw [c2] at h1; cases h1
      exact .inr (.inl ⟨p, w, mx.ref_inv, .inl ⟨ks, Sum.inl i, .inl a1, my.int_inv, c1.symm⟩, o _ η2 _ H Kt.refl c3 bb q⟩)
  | @nst p kvs k z h0 h1 h2 =>
    exact .inr (.inr ⟨p, kvs, _, _, mx.ref_inv, hab_nst bb h0, my, h2, h1, fun v m => o _ η2 _ H Kt.refl m bb q⟩)
theorem at_inN (A : At X N sc k) {i o : Expr} {pos : Pos} (h : AE X i ρ η fun e η1 => AE X o ρ η1 fun d η2 => ∃ p kvs k, d = .ref p ∧ η2 p = some (.nst X.w kvs) ∧ e = dtOf k ∧ okK k ∧ (lkA kvs k ≠ none → T η2) ∧ (lkA kvs k = none → F η2)) (hm : behindInMarks .In o = false := by first | exact nobehind _ (by decide) (by decide) | rfl) : AT X (.Compare i [.In] [o] pos) ρ η T F := by
  refine at_cmpr (op_inN A.hu) hm (h.mono fun x η1 q => q.mono fun d η2 q2 => ?_)
  obtain ⟨p, kvs, k, rfl, h1, rfl, h2, q⟩ := q2
  intro y x H R my mx b oo
  refine ⟨p, kvs, k, mx.ref_inv, hab_nst b h1, my, h2, oo _ η2 _ H Kt.refl (.bl _) b ⟨_, rfl, fun z => q.1 fun e => ?_, fun z => q.2 ?_⟩⟩
  · rw [e] at z; cases z
  · cases hz : lkA kvs k with
    | none => rfl
    | some w => rw [hz] at z; cases z
theorem at_ninN (A : At X N sc k) {i o : Expr} {pos : Pos} (h : AE X i ρ η fun e η1 => AE X o ρ η1 fun d η2 => ∃ p kvs k, d = .ref p ∧ η2 p = some (.nst X.w kvs) ∧ e = dtOf k ∧ okK k ∧ (lkA kvs k = none → T η2) ∧ (lkA kvs k ≠ none → F η2)) (hm : behindInMarks .NotIn o = false := by first | exact nobehind _ (by decide) (by decide) | rfl) : AT X (.Compare i [.NotIn] [o] pos) ρ η T F := by
  refine at_cmpr (op_ninN A.hu) hm (h.mono fun x η1 q => q.mono fun d η2 q2 => ?_)
  obtain ⟨p, kvs, k, rfl, h1, rfl, h2, q⟩ := q2
  intro y x H R my mx b oo
  refine ⟨p, kvs, k, mx.ref_inv, hab_nst b h1, my, h2, oo _ η2 _ H Kt.refl (.bl _) b ⟨_, rfl, fun z => q.1 ?_, fun z => q.2 fun e => ?_⟩⟩
  · cases hz : lkA kvs k with
    | none => rfl
    | some w => rw [hz] at z; cases z
  · rw [e] at z; cases z
theorem set_nst (hu : X.A.units + 64 < cLine) : PSet X (fun o i v H Q => ∃ a xs kvs k, o = .ref a ∧ H a = some (DdO a xs) ∧ NstOk X.K X.w H xs kvs ∧ Im X.K H i (dtOf k) ∧ okK k ∧ kvs.length < 100000 ∧ Q (upd H a (DdO a (putX xs kvs X.w k i v)))) := by
  intro pins s σ H o i v ov iv u Q I ro ri rv h
  obtain ⟨a, xs, kvs, k, rfl, hH, hN, hi, hok, hl, q⟩ := h
  obtain rfl : ov = Value.ref a := ro
  obtain ⟨ty, lo⟩ := nrd_type I (⟨xs, .inl hH, hN⟩ : NRd X H a kvs)
  unfold setItem
  try with_reducible refine wpAny_holding ?_
  refine wpAny_bind (wpAny_sequenceKey ty (by decide) ?_)
  refine wpAny_bind (wpAny_callSpecial?_slot (name := Str.ofString "__setitem__") ty slot_dict_setitem
    (wpAny_call_entry slot_dict_setitem ty entry_dict_setitem ?_ (args_dict_setitem _ _ _)))
  show wpAny _ _ (Builtin.Dict.notOrdered "__setitem__" ⟨[.ref a, iv, u], []⟩ >>= _) _ _ s
  refine wpAny_bind (wpAny_notOrdered_dict ty ?_)
  show wpAny _ _ (dictSet a iv u >>= _) _ _ s
  exact wpAny_bind (nst_set (hu_in1 hu) I hH hN hi hok ri rv hl fun s' I' => wpAny_pure ⟨.none, rfl, wpAny_pure ⟨_, I', q⟩⟩)
theorem ag_setN (A : At X N sc k) {o i : Expr} {pos : Pos} {v : Dt} (h : AE X o ρ η fun d η1 => AE X i ρ η1 fun e η2 => ∃ p kvs k, d = .ref p ∧ η2 p = some (.nst X.w kvs) ∧ e = dtOf k ∧ okK k ∧ kvs.length < 100000 ∧ QG ρ (up η2 p (.nst X.w (putA kvs k v))))
    (ha : ∀ v, assign (.Subscript o i pos) X.env v = (do let ov ← holding [v] (eval o X.env); let iv ← holding [v, ov] (eval i X.env); standAt pos; holding [v, ov, iv] (setItem ov iv v); release [v, ov, iv] []) := by intro _; rfl) : AG X (.Subscript o i pos) v ρ η QG := by
  refine AGt.of (pg_sub (peW o) (peW i) (set_nst A.hu) ha) ?_
  intro x σ H R m vs b oo
  refine h.run σ H _ vs b fun d η1 y H1 k1 m1 b1 q1 => ?_
  refine q1.run σ H1 _ (vs.kt k1) b1 fun e η2 z H2 k2 m2 b2 q2 => ?_
  obtain ⟨p, kvs, k, rfl, h1, rfl, h2, h3, q⟩ := q2
  obtain ⟨xs, a1, a2⟩ := b2 _ _ h1
  have mx := m.kt (k1.trans k2)
  have kt : Kt X.K H2 (upd H2 p (DdO p (putX xs kvs X.w k z x))) := Kt.ext a1
  exact ⟨p, xs, kvs, k, m1.ref_inv, a1, a2, m2, h2, h3, oo _ _ _ _ ((k1.trans k2).trans kt) ((vs.kt (k1.trans k2)).kt kt) (b2.mut (m := .nst X.w (putA kvs k v)) kt ⟨_, upd_same, (putX_ok a2 m2 h2 mx).kt kt⟩) q⟩
/-! ### displays -/
def nk : Dt → NestedKey → Prop := fun d k => d = dtOf k ∧ okK k
/-- the entries that a display stores, one behind the other -/
def putAll (ps : List (NestedKey × Dt)) : List (NestedKey × Dt) := ps.foldl (fun acc p => putA acc p.1 p.2) []
theorem store_all {A : Around} {E : Value → Shared → Prop} {pins : List (Addr × Obj)} {σ : L2.St} {a : Addr} (hu : A.units + 8 < cLine) : ∀ (ps : List (NestedKey × Dt)) (vs : List (V × V)) (us : List (Value × Value)) (kvs : List (NestedKey × Dt)) (xs : List (V × Int × V)) (H : Hp) (s : Shared) {Q : PUnit → Shared → Prop},
    Inv X pins σ H s → H a = some (DdO a xs) → NstOk X.K X.w H xs kvs → Paired (fun (v : V × V) (p : NestedKey × Dt) => Im X.K H v.1 (dtOf p.1) ∧ okK p.1 ∧ Im X.K H v.2 p.2) vs ps → Paired (fun (v : V × V) (u : Value × Value) => RelV v.1 u.1 ∧ RelV v.2 u.2) vs us → kvs.length + ps.length ≤ 1000 →
    (∀ xs' s', Inv X pins σ (upd H a (DdO a xs')) s' → NstOk X.K X.w (upd H a (DdO a xs')) xs' (ps.foldl (fun acc p => putA acc p.1 p.2) kvs) → Q PUnit.unit s') → wpAny (model X.prog X.w) A (storeAll a us) Q E s
  | [], vs, us, kvs, xs, H, s, Q, I, hH, hN, hv, hr, hl, q => by
    cases hv; cases hr
    have e : upd H a (DdO a xs) = H := by
      funext b
      by_cases hb : b = a
      · subst hb; rw [upd_same, hH]
      · rw [upd_ne hb]
    unfold storeAll
    exact wpAny_pure (q xs s (by rw [e]; exact I) (by rw [e]; exact hN))
  | p :: ps, vs, us, kvs, xs, H, s, Q, I, hH, hN, hv, hr, hl, q => by
    cases hv with
    | @cons v _ vs' _ h1 h2 =>
      cases hr with
      | @cons _ u _ us' r1 r2 =>
        unfold storeAll
        rw [List.forIn_cons]
        refine wpAny_bind (wpAny_bind (nst_set hu I hH hN h1.1 h1.2.1 r1.1 r1.2 (by simp at hl; omega) fun s' I' => wpAny_pure ?_))
        have kt : Kt X.K H (upd H a (DdO a (putX xs kvs X.w p.1 v.1 v.2))) := Kt.ext hH
        have := store_all (E := E) (Q := Q) hu ps vs' us' (putA kvs p.1 p.2) (putX xs kvs X.w p.1 v.1 v.2) _ s' I' upd_same ((putX_ok hN h1.1 h1.2.1 h1.2.2).kt kt) (paired_imp (fun _ _ z => ⟨z.1.kt kt, z.2.1, z.2.2.kt kt⟩) h2) r2 (by have := put_len (kvs := kvs) (k := p.1) (v := p.2); simp at hl; omega) fun xs' s2 I2 N2 => by
          have e : upd (upd H a (DdO a (putX xs kvs X.w p.1 v.1 v.2))) a (DdO a xs') = upd H a (DdO a xs') := by
            funext b
            by_cases hb : b = a
            · subst hb; rw [upd_same, upd_same]
            · rw [upd_ne hb, upd_ne hb, upd_ne hb]
          rw [e] at I2 N2
          exact q xs' s2 I2 N2
        unfold storeAll at this
        exact this
theorem pe_dispN {pos : Pos} {keys : List (Option Expr)} {values : List Expr} {trs : List (TE × TE)} (hu : X.A.units + 64 < cLine) (h : PPs X pos keys values trs) (hall : keys.all (·.isSome) = true) (hl : keys.length = values.length) (h0 : keys ≠ []) (h15 : keys.length ≤ 15) :
    PE X (.Dict keys values pos) (fun σ H Q => ∀ p, H p = none → tPairs trs σ (upd H p (DdO p [])) fun ps H2 => H2 p = some (DdO p []) ∧ ∃ kvs : List (NestedKey × Dt), kvs.length ≤ 15 ∧ Paired (fun (v : V × V) (q : NestedKey × Dt) => Im X.K H2 v.1 (dtOf q.1) ∧ okK q.1 ∧ Im X.K H2 v.2 q.2) ps kvs ∧
      ∀ xs', NstOk X.K X.w (upd H2 p (DdO p xs')) xs' (putAll kvs) → Q (.ref p) (upd H2 p (DdO p xs'))) := by
  refine ⟨fun pins s σ H Q I q => ?_⟩
  have hn := I.hok.fresh (Nat.le_refl s.heap.objs.size)
  have hbig : (s.heap.objs.size == sysModules) = false := by
    rw [beq_eq_false_iff_ne]
    exact Nat.ne_of_gt I.big
  have I1 := I.laid (a := s.heap.objs.size) (o := DdO s.heap.objs.size []) (h' := s.heap.push { cls := .type "dict", data := .dict #[] }) (t' := s.toks) (fun _ _ q => Heap.get?_push_of_some _ q) (Nat.le_refl _)
    (dd_ok hbig (Nat.zero_le _) (Heap.get?_push_size _ rfl) (by exact ⟨rfl, rfl, rfl⟩) rfl .nil)
  refine wpAny_Dict_any hall hl h0 h15 (thn (h.run pins _ σ _ _ I1 (q _ hn)) fun ws s2 ⟨ps, H2, I2, rel, e, kvs, hk, hp, q2⟩ => ?_)
  have hN : NstOk X.K X.w H2 [] [] := ⟨.nil, List.nodup_nil⟩
  exact store_all (by omega) kvs ps ws [] [] H2 s2 I2 e hN hp rel (by simp; omega) fun xs' s' I' N' => ⟨.ref _, _, I', rfl, q2 xs' N'⟩
theorem ae_disp1 (A : At X N sc k) {k1 v1 : Expr} {pos : Pos} (h : ∀ p, η p = none → AE X k1 ρ (up η p (.nst X.w [])) fun a1 η1 => AE X v1 ρ η1 fun b1 η2 => ∃ q1, a1 = dtOf q1 ∧ okK q1 ∧ η2 p = some (.nst X.w []) ∧ Q (.ref p) (up η2 p (.nst X.w (putAll [(q1, b1)])))) : AE X (.Dict [some k1] [v1] pos) ρ η Q := by
  refine AX.of (pe_dispN A.hu (pps_cons (peW k1) (peW v1) pps_nil) rfl rfl (fun z => by cases z) (Nat.le_of_ble_eq_true rfl)) ?_
  intro σ H R v b o p hp
  have kp : Kt X.K H (upd H p (DdO p [])) := Kt.new hp
  refine (h p (b.free hp)).run σ _ _ (v.kt kp) (b.newM (m := .nst X.w []) hp ⟨[], upd_same, .nil, List.nodup_nil⟩) fun a1 η1 x1 H1 t1 m1 b1 r1 => ?_
  refine r1.run σ H1 _ (v.kt (kp.trans t1)) b1 fun a2 η2 x2 H2 t2 m2 b2 r2 => ?_
  obtain ⟨q1, rfl, ok1, hq, r⟩ := r2
  obtain ⟨xs, e1, e2⟩ := b2 _ _ hq
  have hxs : xs = [] := by cases e2.1; rfl
  subst hxs
  refine ⟨e1, [(q1, a2)], Nat.le_of_ble_eq_true rfl, .cons ⟨m1.kt t2, ok1, m2⟩ .nil, fun xs' hx => ?_⟩
  have kt : Kt X.K H2 (upd H2 p (DdO p xs')) := Kt.ext e1
  exact o _ _ _ _ (((kp.trans t1).trans t2).trans kt) (.ref p) (b2.mut (m := .nst X.w _) kt ⟨xs', upd_same, hx⟩) r
theorem ae_disp2 (A : At X N sc k) {k1 v1 k2 v2 : Expr} {pos : Pos} (h : ∀ p, η p = none → AE X k1 ρ (up η p (.nst X.w [])) fun a1 η1 => AE X v1 ρ η1 fun b1 η2 => AE X k2 ρ η2 fun a2 η3 => AE X v2 ρ η3 fun b2 η4 => ∃ q1 q2, a1 = dtOf q1 ∧ okK q1 ∧ a2 = dtOf q2 ∧ okK q2 ∧ η4 p = some (.nst X.w []) ∧ Q (.ref p) (up η4 p (.nst X.w (putAll [(q1, b1), (q2, b2)])))) :
    AE X (.Dict [some k1, some k2] [v1, v2] pos) ρ η Q := by
  refine AX.of (pe_dispN A.hu (pps_cons (peW k1) (peW v1) (pps_cons (peW k2) (peW v2) pps_nil)) rfl rfl (fun z => by cases z) (Nat.le_of_ble_eq_true rfl)) ?_
  intro σ H R v b o p hp
  have kp : Kt X.K H (upd H p (DdO p [])) := Kt.new hp
  refine (h p (b.free hp)).run σ _ _ (v.kt kp) (b.newM (m := .nst X.w []) hp ⟨[], upd_same, .nil, List.nodup_nil⟩) fun a1 η1 x1 H1 t1 m1 b1 r1 => ?_
  refine r1.run σ H1 _ (v.kt (kp.trans t1)) b1 fun a2 η2 x2 H2 t2 m2 b2 r2 => ?_
  refine r2.run σ H2 _ (v.kt ((kp.trans t1).trans t2)) b2 fun a3 η3 x3 H3 t3 m3 b3 r3 => ?_
  refine r3.run σ H3 _ (v.kt (((kp.trans t1).trans t2).trans t3)) b3 fun a4 η4 x4 H4 t4 m4 b4 r4 => ?_
  obtain ⟨q1, q2, rfl, ok1, rfl, ok2, hq, r⟩ := r4
  obtain ⟨xs, e1, e2⟩ := b4 _ _ hq
  have hxs : xs = [] := by cases e2.1; rfl
  subst hxs
  refine ⟨e1, [(q1, a2), (q2, a4)], Nat.le_of_ble_eq_true rfl, .cons ⟨m1.kt ((t2.trans t3).trans t4), ok1, m2.kt (t3.trans t4)⟩ (.cons ⟨m3.kt t4, ok2, m4⟩ .nil), fun xs' hx => ?_⟩
  have kt : Kt X.K H4 (upd H4 p (DdO p xs')) := Kt.ext e1
  exact o _ _ _ _ (((((kp.trans t1).trans t2).trans t3).trans t4).trans kt) (.ref p) (b4.mut (m := .nst X.w _) kt ⟨xs', upd_same, hx⟩) r
end FgA
/-! FgB2: instances and their fields; the fold as data. -/
namespace FgA
open PySem PySem.Spec PyProof.Rows L2 Fg
variable {X : Cx} {K : PySem.W.Frag} {H H' : Hp} {ρ : Rho} {η : Eta} {Q : Dt → Eta → Prop} {E : AEnds} {N : List Str} {sc : Scope} {k : Nat} {T F : Eta → Prop} {QG : Rho → Eta → Prop}
inductive FldOk (K : PySem.W.Frag) (η : Eta) (f : Str) (Q : Dt → Eta → Prop) : Dt → Prop
  | mk {p C : Addr} {fs : List (Str × Dt)} {d : Dt} : η p = some (.ins C fs) → Cls K C → NoAttr K C f → fs.lookup f = some d → Q d η → FldOk K η f Q (.ref p)
theorem look_im {gs : List (Str × V)} {fs : List (Str × Dt)} (h : Paired (fun (a : Str × V) (b : Str × Dt) => a.1 = b.1 ∧ Im K H a.2 b.2) gs fs) {f : Str} {d : Dt} (e : fs.lookup f = some d) : ∃ v, gs.lookup f = some v ∧ Im K H v d := by
  induction h with
  | nil => cases e
  | @cons a b _ _ h1 _ ih =>
    obtain ⟨a1, a2⟩ := a
    obtain ⟨b1, b2⟩ := b
    obtain ⟨rfl, h2⟩ := h1
    rw [List.lookup_cons] at e ⊢
    cases hq : f == a1 with
    | true => rw [hq] at e; cases e; exact ⟨a2, rfl, h2⟩
    | false => rw [hq] at e; exact ih e
theorem ae_attr {e : Expr} {f : Str} {pos : Pos} (h : AE X e ρ η fun d η1 => FldOk X.K η1 f Q d) (hb : attributeBase e f X.env (eval e X.env) = eval e X.env := by rfl) : AE X (.Attribute e f pos) ρ η Q := by
  refine AX.of (pe_fld (peW e) hb) ?_
  intro σ H R v b o
  refine h.run σ H _ v b fun d η1 x H1 k1 m1 b1 q1 => ?_
  cases q1 with
  | @mk p C fs d h1 h2 h3 h4 h5 =>
    obtain ⟨dx, gs, a1, a2⟩ := b1 _ _ h1
    obtain ⟨u, c1, c2⟩ := look_im a2 h4
    exact ⟨p, C, dx, gs, u, m1.ref_inv, a1, h2, h3, c1, o _ η1 _ H1 k1 c2 b1 h5⟩
def putFD (f : Str) (v : Dt) : List (Str × Dt) → List (Str × Dt)
  | [] => [(f, v)]
  | (g, x) :: r => if g = f then (g, v) :: r else (g, x) :: putFD f v r
theorem putF_im {gs : List (Str × V)} {fs : List (Str × Dt)} {f : Str} {x : V} {d : Dt} (m : Im K H x d) (h : Paired (fun (a : Str × V) (b : Str × Dt) => a.1 = b.1 ∧ Im K H a.2 b.2) gs fs) : Paired (fun (a : Str × V) (b : Str × Dt) => a.1 = b.1 ∧ Im K H a.2 b.2) (putF f x gs) (putFD f d fs) := by
  induction h with
  | nil => exact .cons ⟨rfl, m⟩ .nil
  | @cons a b _ _ h1 h2 ih =>
    obtain ⟨a1, a2⟩ := a
    obtain ⟨b1, b2⟩ := b
    obtain ⟨rfl, h3⟩ := h1
    unfold putF putFD
    by_cases e : a1 = f
    · rw [if_pos e, if_pos e]; exact .cons ⟨rfl, m⟩ h2
    · rw [if_neg e, if_neg e]; exact .cons ⟨rfl, h3⟩ ih
theorem as_attr {o e : Expr} {f : Str} {pos pos' : Pos} (h : AE X e ρ η fun d η1 => AE X o ρ η1 fun d2 η2 => ∃ p C fs, d2 = .ref p ∧ η2 p = some (.ins C fs) ∧ Cls X.K C ∧ NoAttr X.K C f ∧ fs.length < 1000 ∧ E.nx ρ (up η2 p (.ins C (putFD f d fs))))
    (hs : swapsWith e (some (.Attribute o f pos')) pos.line X.env = pure false := by rfl) : AS X (.Assign [.Attribute o f pos'] e pos) ρ η E := by
  refine ASt.of (ps_fld (peW o) (peW e) hs) ?_
  intro D σ H v b l
  refine h.run σ H _ v b fun d η1 y H1 k1 m1 b1 q1 => ?_
  refine q1.run σ H1 _ (v.kt k1) b1 fun d2 η2 x H2 k2 m2 b2 q2 => ?_
  obtain ⟨p, C, fs, rfl, h1, h2, h3, h4, q⟩ := q2
  obtain ⟨dx, gs, a1, a2⟩ := b2 _ _ h1
  have kt : Kt X.K H2 (upd H2 p (.ins C dx (putF f y gs))) := Kt.ins a1
  exact ⟨p, C, dx, gs, m2.ref_inv, a1, h2, h3, by rw [a2.length]; exact h4, l.nx ρ _ σ _ ((k1.trans k2).trans kt) (v.kt ((k1.trans k2).trans kt)) (b2.mut (m := .ins C _) kt ⟨dx, _, upd_same, paired_imp (fun _ _ z => ⟨z.1, z.2.kt kt⟩) (putF_im (m1.kt k2) a2)⟩) q⟩
/-- C() with an __init__ of its own -/
theorem ae_make0 (A : At X N sc k) {C f : Addr} {x : Str} {fd : FuncData} {ps : List Str} {j : Nat} {a : ASp} {p pos : Pos} (M : Mk X.K C f) (F : FnOk X.prog X.w X.K X.mg X.base CX0 j f fd ps (Lift X.K 1 a)) (hm : X.mg x = some (.ref C)) (hb : Binds X.K fd ps [])
    (h : ∀ p, η p = none → ∀ η0, Sub (up η p (.ins C [])) η0 → a [.ref p] η0 fun d η1 => d = .non ∧ Q (.ref p) η1) (hj : j + 1 ≤ k) (hg : sc.names.lookup x = some .globalImplicit) (hdb : (x == ("__debug__" : Str)) = false) : AE X (.Call (.Name x p) [] [] pos) ρ η Q := by
  refine AX.of (pe_make0 M F (A.room.mono hj) (A.gl hg) hm hb .nil pass0 hdb) ?_
  intro σ H R v b o y dx hy hdx hne
  have k1 : Kt X.K H (upd H dx (.own y)) := Kt.new hdx
  have hy1 : upd H dx (.own y) y = none := by rw [upd_ne hne.symm]; exact hy
  have k2 : Kt X.K (upd H dx (.own y)) (upd (upd H dx (.own y)) y (.ins C dx [])) := Kt.new hy1
  have b2 : HAb X.K (upd (upd H dx (.own y)) y (.ins C dx [])) (up η y (.ins C [])) := (b.new hdx).newM (m := .ins C []) hy1 ⟨dx, [], upd_same, .nil⟩
  refine ⟨rfl, [.ref y], _, _, .cons (.ref y) .nil, b2, h y (b.free hy) _ Sub.refl, fun d η' v' H' kk mm bb q => ?_⟩
  obtain ⟨rfl, q⟩ := q
  exact ⟨mm.non_inv, o _ η' _ H' ((k1.trans k2).trans kk) (.ref y) bb q⟩
/-! ### the fold -/
def oD : Option Nat → Dt
  | none => .non
  | some n => .int (n : Int)
structure FoldC (X : Cx) (C : Addr) : Prop where
  cls : Cls X.K C
  a : NoAttr X.K C "halves"
  b : NoAttr X.K C "thirds"
  c : NoAttr X.K C "heads"
def foldFs (a b c : Addr) : List (Str × Dt) := [("halves", .ref a), ("thirds", .ref b), ("heads", .ref c)]
structure FoldAt (η : Eta) (C p a b c : Addr) (F : Fo) : Prop where
  fp : η p = some (.ins C (foldFs a b c))
  fa : η a = some (.lst (F.hs.map oD))
  fb : η b = some (.lst (F.ts.map oD))
  fc : η c = some (.lst (F.hd.map nD))
  ab : a ≠ b
  ac : a ≠ c
  bc : b ≠ c
  pa : p ≠ a
  pb : p ≠ b
  pc : p ≠ c
/-- all but three lists stays -/
def Ch (a b c : Addr) (η η' : Eta) : Prop := ∀ q m, q ≠ a → q ≠ b → q ≠ c → η q = some m → η' q = some m
theorem Ch.refl {a b c : Addr} : Ch a b c η η := fun _ _ _ _ _ h => h
theorem Ch.trans {a b c : Addr} {η1 η2 η3 : Eta} (x : Ch a b c η1 η2) (y : Ch a b c η2 η3) : Ch a b c η1 η3 := fun q m h1 h2 h3 e => y q m h1 h2 h3 (x q m h1 h2 h3 e)
theorem Ch.sub {a b c : Addr} {η' : Eta} (h : Sub η η') : Ch a b c η η' := fun q m _ _ _ e => h q m e
theorem Ch.a {a b c : Addr} {m : Mo} : Ch a b c η (up η a m) := fun q m' h1 _ _ e => by rw [up_ne h1]; exact e
theorem Ch.b {a b c : Addr} {m : Mo} : Ch a b c η (up η b m) := fun q m' _ h1 _ e => by rw [up_ne h1]; exact e
theorem Ch.c {a b c : Addr} {m : Mo} : Ch a b c η (up η c m) := fun q m' _ _ h1 e => by rw [up_ne h1]; exact e
theorem FoldAt.ua {C p a b c : Addr} {F : Fo} (h : FoldAt η C p a b c F) (l : List (Option Nat)) : FoldAt (up η a (.lst (l.map oD))) C p a b c ⟨l, F.ts, F.hd⟩ :=
  ⟨by rw [up_ne h.pa]; exact h.fp, up_same, by rw [up_ne h.ab.symm]; exact h.fb, by rw [up_ne h.ac.symm]; exact h.fc, h.ab, h.ac, h.bc, h.pa, h.pb, h.pc⟩
theorem FoldAt.ub {C p a b c : Addr} {F : Fo} (h : FoldAt η C p a b c F) (l : List (Option Nat)) : FoldAt (up η b (.lst (l.map oD))) C p a b c ⟨F.hs, l, F.hd⟩ :=
  ⟨by rw [up_ne h.pb]; exact h.fp, by rw [up_ne h.ab]; exact h.fa, up_same, by rw [up_ne h.bc.symm]; exact h.fc, h.ab, h.ac, h.bc, h.pa, h.pb, h.pc⟩
theorem FoldAt.uc {C p a b c : Addr} {F : Fo} (h : FoldAt η C p a b c F) (l : List Nat) : FoldAt (up η c (.lst (l.map nD))) C p a b c ⟨F.hs, F.ts, l⟩ :=
  ⟨by rw [up_ne h.pc]; exact h.fp, by rw [up_ne h.ac]; exact h.fa, by rw [up_ne h.bc]; exact h.fb, up_same, h.ab, h.ac, h.bc, h.pa, h.pb, h.pc⟩
theorem FoldAt.sub {η' : Eta} {C p a b c : Addr} {F : Fo} (h : FoldAt η C p a b c F) (s : Sub η η') : FoldAt η' C p a b c F :=
  ⟨s _ _ h.fp, s _ _ h.fa, s _ _ h.fb, s _ _ h.fc, h.ab, h.ac, h.bc, h.pa, h.pb, h.pc⟩
theorem fld_a {C p a b c : Addr} {F : Fo} (h : FoldAt η C p a b c F) (fc : FoldC X C) (q : Q (.ref a) η) : FldOk X.K η "halves" Q (.ref p) := .mk h.fp fc.cls fc.a rfl q
theorem fld_b {C p a b c : Addr} {F : Fo} (h : FoldAt η C p a b c F) (fc : FoldC X C) (q : Q (.ref b) η) : FldOk X.K η "thirds" Q (.ref p) := .mk h.fp fc.cls fc.b rfl q
theorem fld_c {C p a b c : Addr} {F : Fo} (h : FoldAt η C p a b c F) (fc : FoldC X C) (q : Q (.ref c) η) : FldOk X.K η "heads" Q (.ref p) := .mk h.fp fc.cls fc.c rfl q
end FgA
/-! FgB3: list(d), a comprehension with a condition. -/
namespace FgA
open PySem PySem.Spec PyProof.Rows L2 Fg
variable {X : Cx} {K : PySem.W.Frag} {H H' : Hp} {ρ : Rho} {η : Eta} {Q : Dt → Eta → Prop} {E : AEnds} {N : List Str} {sc : Scope} {k : Nat} {T F : Eta → Prop} {QG : Rho → Eta → Prop}
theorem im_key (K : PySem.W.Frag) (H : Hp) (k : Key) : Im K H (kV k) (keyDt k) := by
  cases k with
  | inl i => exact .int i
  | inr x => exact .str x
theorem ims_keys {H : Hp} {ks : List (Key × V)} {kvs : List (Key × Dt)} (h : KR (Im K H) ks kvs) (H2 : Hp) : Ims K H2 (ks.map fun kv => kV kv.1) (kvs.map fun kv => keyDt kv.1) := by
  induction h with
  | nil => exact .nil
  | @cons a b _ _ h1 _ ih => refine .cons ?_ ih; dsimp only; rw [h1.1]; exact im_key _ _ _
theorem ae_list_dic (A : At X N sc k) (B : Bt X) {p pos : Pos} {e : Expr} (h : AE X e ρ η fun d η1 => ∃ q kvs, d = .ref q ∧ η1 q = some (.dic kvs) ∧ ∀ r, η1 r = none → Q (.ref r) (up η1 r (.lst (kvs.map fun kv => keyDt kv.1))))
    (hg : sc.names.lookup ("list" : Str) = some .globalImplicit := by rfl) (he : starEach [e] X.env = (false, eval e X.env) :: starEach [] X.env := by rfl) (hpl : (backTo pos (starEach [] X.env)).any (·.1) = false := by rfl) : AE X (.Call (.Name "list" p) [e] [] pos) ρ η Q := by
  refine ae_ct A (call_list_dK A.calm) B.list (by decide +kernel) (aa_cons (h.mono fun d η1 q => aa_nil ?_) he) hg (by decide) (by decide) he hpl
  obtain ⟨r, kvs, rfl, h1, q⟩ := q
  intro xs H R m b o
  obtain ⟨v, rfl, m0⟩ := m.one_inv
  obtain ⟨ks, a1, a2⟩ := b _ _ h1
  exact ⟨r, ks, by rw [m0.ref_inv], a1, fun s hs => o _ _ _ _ (Kt.new hs) (.ref s) (b.newM hs (MoOk.mk_lst (Kt.new hs) (ims_keys a2 H))) (q s (b.free hs))⟩
/-- over one name, with a condition; P tells what stands after i items -/
def LcF1 (X : Cx) (N : List Str) (sc : Scope) (k : Nat) (scope : Scope) (cond elt : Expr) (ρ : Rho) (i : Nat) (Q : Dt → Eta → Prop) : RWk := fun n GE Y η1 => n ≤ 100000 ∧ (∀ η η', Sub η η' → GE η → GE η') ∧ GE η1 ∧ ∃ F : Nat → List Dt → Prop, F 0 [] ∧
      (∀ j d D acc, j < n → Y j d → η1 D = none → F j acc → ∀ X', At X' N (relS scope sc) k → Blk X X' scope → AT X' cond ((ρ.set i none).set i (some d)) (up η1 D (.lst acc))
        (fun η4 => Sub (up η1 D (.lst acc)) η4 ∧ ∀ X2, At X2 N (relS scope sc) k → Blk X X2 scope → AE X2 elt ((ρ.set i none).set i (some d)) (up η1 D (.lst acc)) fun e η5 => Sub (up η1 D (.lst acc)) η5 ∧ F (j + 1) (acc ++ [e])) (fun η4 => Sub (up η1 D (.lst acc)) η4 ∧ F (j + 1) acc)) ∧
      ∀ D acc, η1 D = none → F n acc → Q (.ref D) (up η1 D (.lst acc))
theorem at_mono {e : Expr} {T' F' : Eta → Prop} (h : AT X e ρ η T F) (t : ∀ η', T η' → T' η') (f : ∀ η', F η' → F' η') : AT X e ρ η T' F' := ⟨fun σ H R v b o => h.run σ H R v b fun c η' H' k' b' q => o c η' H' k' b' ⟨fun z => t _ (q.1 z), fun z => f _ (q.2 z)⟩⟩
theorem ax_lcF1 (A : At X N sc k) {elt cond iter : Expr} {scope : Scope} {tp : Pos} {x : Str} {i : Nat} (h : AI X (.Name x tp) iter ρ η (LcF1 X N sc k scope cond elt ρ i Q)) :
    AX X.K (tLc (tWI X (.Name x tp) iter) (gName i) (fun σ H R => ∀ X', Blk X X' scope → tWT X' cond σ H R) (fun σ H R => ∀ X', Blk X X' scope → tW X' elt σ H R) [i]) ρ η Q := by
  refine ax_lcF A [(x, i)] (gName i) (wipes_name i) ⟨?_⟩
  intro σ H S v b o
  refine h.run σ H S v b fun J n GE Y η1 H1 k1 b1 q w => o J n GE Y η1 H1 k1 b1 ?_ w
  obtain ⟨hn, mG, hG, F, hF0, hS, hE⟩ := q
  refine ⟨hn, fun D hD => ⟨fun j acc η' => Sub (up η1 D (.lst acc)) η' ∧ GE η' ∧ F j acc, ?_, ?_, ?_, ?_⟩⟩
  · exact ⟨Sub.refl, mG _ _ (Sub.up hD) hG, hF0⟩
  · rintro i acc η' hi ⟨s, ge, _⟩
    exact ⟨ge, s _ _ up_same⟩
  · rintro j acc d η' hi y hl ⟨s, ge, hF⟩
    refine agt_name fun X' hX => at_forget s (at_mono (hS j d D acc hi y hD hF X' (hX.at A) hX) ?_ ?_)
    · rintro η4 ⟨s4, q4⟩ X2 hX2
      refine ae_forget s4 ((q4 X2 (hX2.at A) hX2).mono fun e η5 q5 => ?_)
      have s1 : Sub η1 η5 := (Sub.up hD).trans q5.1
      exact ⟨q5.1 _ _ up_same, sub_both s1, mG _ _ (s1.up' hD) hG, q5.2⟩
    · rintro η4 ⟨s4, q4⟩
      exact ⟨s4, mG _ _ ((Sub.up hD).trans s4) hG, q4⟩
  · rintro acc η' hl ⟨s, ge, hF⟩
    exact ⟨_, s, hE D acc hD hF⟩
theorem ae_lcF1 (A : At X N sc k) {elt cond iter : Expr} {scope : Scope} {pos tp : Pos} {x : Str} {i : Nat} [s : Slot N x i] (h : AI X (.Name x tp) iter ρ η (LcF1 X N sc k scope cond elt ρ i Q))
    (hx : (relS scope sc).names.lookup x = some .local := by rfl) (hb : blkC N sc scope [(x, i)] = true := by decide +kernel)
    (hs : ∀ x, foldedSetIterable iter X.env x = pure x := by intro _; rfl) : AE X (.ListComp elt [⟨.Name x tp, iter, [cond], 0⟩] scope pos) ρ η Q :=
  AX.of (pe_lcFW A [(x, i)] (gName i) (fun X' b => pgB_name A b hx) hb hs) (ax_lcF1 A h)
end FgA
/-! FgB4: displays of dicts with whole numbers or texts as keys, setdefault. -/
namespace FgA
open PySem PySem.Spec PyProof.Rows L2 Fg
variable {X : Cx} {K : PySem.W.Frag} {H H' : Hp} {ρ : Rho} {η : Eta} {Q : Dt → Eta → Prop} {E : AEnds} {N : List Str} {sc : Scope} {k : Nat} {T F : Eta → Prop} {QG : Rho → Eta → Prop}
theorem ae_setdefault {o e f : Expr} {apos cpos : Pos} (h : AE X o ρ η fun d η1 => ∃ p kv0, d = .ref p ∧ η1 p = some (.dic kv0) ∧ AE X e ρ η1 fun d1 η2 => AE X f ρ η2 fun d2 η3 => ∃ kvs q, η3 p = some (.dic kvs) ∧ keyD d1 = some q ∧ kvs.length < 100000 ∧ (∀ v, lkA kvs q = some v → Q v η3) ∧ (lkA kvs q = none → Q d2 (up η3 p (.dic (putA kvs q d2)))))
    (m : M2 X o "setdefault" apos e f cpos := by exact ⟨rfl, rfl, rfl, rfl⟩) : AE X (.Call (.Attribute o "setdefault" apos) [e, f] [] cpos) ρ η Q := by
  refine AX.of (pe_dsetd (peW o) (peW e) (peW f) m) ?_
  intro σ H R v b oo
  refine h.run σ H _ v b fun d η1 x H1 k1 m1 b1 q1 => ?_
  obtain ⟨p, kv0, rfl, h0, q1⟩ := q1
  obtain ⟨ks0, a0, _⟩ := b1 _ _ h0
  refine ⟨p, m1.ref_inv, .inl ⟨ks0, .inl a0⟩, ?_⟩
  refine q1.run σ H1 _ (v.kt k1) b1 fun d1 η2 y H2 k2 m2 b2 q2 => ?_
  refine q2.run σ H2 _ (v.kt (k1.trans k2)) b2 fun d2 η3 z H3 k3 m3 b3 q3 => ?_
  obtain ⟨kvs, q, h1, h2, h3, h4, h5⟩ := q3
  obtain ⟨ks, a1, a2⟩ := b3 _ _ h1
  have kk := (k1.trans k2).trans k3
  refine ⟨ks, q, a1, (m2.kt k3).key h2, by rw [KR.len a2]; exact lt_sz h3, fun w hw => ?_, fun hw => ?_⟩
  · rcases KR.lk a2 q with ⟨c, _⟩ | ⟨w', u', c1, c2, c3⟩
    · rw [valV_lkA, c] at hw; cases hw
    · rw [valV_lkA, c1] at hw; cases hw
      exact oo _ η3 _ H3 kk c3 b3 (h4 u' c2)
  · have hn : lkA kvs q = none := by
      rcases KR.lk a2 q with ⟨_, c⟩ | ⟨w', u', c1, c2, c3⟩
      · exact c
      · rw [valV_lkA, c1] at hw; cases hw
    have kt : Kt X.K H3 (upd H3 p (.dK (putK ks q z))) := Kt.dK a1
    exact oo _ _ _ _ (kk.trans kt) (m3.kt kt) (b3.mut (m := .dic _) kt ⟨_, upd_same, kr_im (KR.put a2 m3) kt⟩) (h5 hn)
theorem ae_dispD1 {k1 v1 : Expr} {pos : Pos} (h : ∀ p, η p = none → AE X k1 ρ (up η p (.dic [])) fun a1 η1 => AE X v1 ρ η1 fun b1 η2 => ∃ q1, keyD a1 = some q1 ∧ η2 p = some (.dic []) ∧ Q (.ref p) (up η2 p (.dic (mergeA [] [(q1, b1)])))) : AE X (.Dict [some k1] [v1] pos) ρ η Q := by
  refine AX.of (pe_disp (pps_cons (peW k1) (peW v1) pps_nil) rfl rfl (fun z => by cases z) (Nat.le_of_ble_eq_true rfl)) ?_
  intro σ H R v b o p hp
  have kp : Kt X.K H (upd H p (.dK [])) := Kt.new hp
  refine (h p (b.free hp)).run σ _ _ (v.kt kp) (b.newM (m := .dic []) hp ⟨[], upd_same, .nil⟩) fun a1 η1 x1 H1 t1 m1 b1 r1 => ?_
  refine r1.run σ H1 _ (v.kt (kp.trans t1)) b1 fun a2 η2 x2 H2 t2 m2 b2 r2 => ?_
  obtain ⟨q1, ok1, hq, r⟩ := r2
  obtain ⟨ks, e1, e2⟩ := b2 _ _ hq
  have hks : ks = [] := by cases e2; rfl
  subst hks
  have kt : Kt X.K H2 (upd H2 p (.dK (mergeK [] [(q1, x2)]))) := Kt.dK e1
  have hm : KR (Im X.K H2) (mergeA [] [(q1, x2)]) (mergeA [] [(q1, a2)]) := KR.merge (ms := [(q1, x2)]) (ns := [(q1, a2)]) (.cons ⟨rfl, m2⟩ .nil) .nil
  refine ⟨e1, [(q1, x2)], by rw [(m1.kt t2).key ok1]; rfl, Nat.le_of_ble_eq_true rfl, ?_⟩
  exact o _ _ _ _ (((kp.trans t1).trans t2).trans kt) (.ref p) (b2.mut (m := .dic _) kt ⟨_, upd_same, kr_im hm kt⟩) r
theorem ae_dispD3 {k1 v1 k2 v2 k3 v3 : Expr} {pos : Pos} (h : ∀ p, η p = none → AE X k1 ρ (up η p (.dic [])) fun a1 η1 => AE X v1 ρ η1 fun b1 η2 => AE X k2 ρ η2 fun a2 η3 => AE X v2 ρ η3 fun b2 η4 => AE X k3 ρ η4 fun a3 η5 => AE X v3 ρ η5 fun b3 η6 =>
    ∃ q1 q2 q3, keyD a1 = some q1 ∧ keyD a2 = some q2 ∧ keyD a3 = some q3 ∧ η6 p = some (.dic []) ∧ Q (.ref p) (up η6 p (.dic (mergeA [] [(q1, b1), (q2, b2), (q3, b3)])))) : AE X (.Dict [some k1, some k2, some k3] [v1, v2, v3] pos) ρ η Q := by
  refine AX.of (pe_disp (pps_cons (peW k1) (peW v1) (pps_cons (peW k2) (peW v2) (pps_cons (peW k3) (peW v3) pps_nil))) rfl rfl (fun z => by cases z) (Nat.le_of_ble_eq_true rfl)) ?_
  intro σ H R v b o p hp
  have kp : Kt X.K H (upd H p (.dK [])) := Kt.new hp
  refine (h p (b.free hp)).run σ _ _ (v.kt kp) (b.newM (m := .dic []) hp ⟨[], upd_same, .nil⟩) fun a1 η1 x1 H1 t1 m1 b1 r1 => ?_
  refine r1.run σ H1 _ (v.kt (kp.trans t1)) b1 fun a2 η2 x2 H2 t2 m2 b2 r2 => ?_
  refine r2.run σ H2 _ (v.kt ((kp.trans t1).trans t2)) b2 fun a3 η3 x3 H3 t3 m3 b3 r3 => ?_
  refine r3.run σ H3 _ (v.kt (((kp.trans t1).trans t2).trans t3)) b3 fun a4 η4 x4 H4 t4 m4 b4 r4 => ?_
  refine r4.run σ H4 _ (v.kt ((((kp.trans t1).trans t2).trans t3).trans t4)) b4 fun a5 η5 x5 H5 t5 m5 b5 r5 => ?_
  refine r5.run σ H5 _ (v.kt (((((kp.trans t1).trans t2).trans t3).trans t4).trans t5)) b5 fun a6 η6 x6 H6 t6 m6 b6 r6 => ?_
  obtain ⟨q1, q2, q3, ok1, ok2, ok3, hq, r⟩ := r6
  obtain ⟨ks, e1, e2⟩ := b6 _ _ hq
  have hks : ks = [] := by cases e2; rfl
  subst hks
  have kt : Kt X.K H6 (upd H6 p (.dK (mergeK [] [(q1, x2), (q2, x4), (q3, x6)]))) := Kt.dK e1
  have n2 := m2.kt (((t3.trans t4).trans t5).trans t6)
  have n4 := m4.kt (t5.trans t6)
  have hm : KR (Im X.K H6) (mergeA [] [(q1, x2), (q2, x4), (q3, x6)]) (mergeA [] [(q1, a2), (q2, a4), (q3, a6)]) := KR.merge (ms := [(q1, x2), (q2, x4), (q3, x6)]) (ns := [(q1, a2), (q2, a4), (q3, a6)]) (.cons ⟨rfl, n2⟩ (.cons ⟨rfl, n4⟩ (.cons ⟨rfl, m6⟩ .nil))) .nil
  refine ⟨e1, [(q1, x2), (q2, x4), (q3, x6)], by rw [(m1.kt t2).key ok1, (m3.kt t4).key ok2, (m5.kt t6).key ok3]; rfl, Nat.le_of_ble_eq_true rfl, ?_⟩
  exact o _ _ _ _ ((((((kp.trans t1).trans t2).trans t3).trans t4).trans t5).trans (t6.trans kt)) (.ref p) (b6.mut (m := .dic _) kt ⟨_, upd_same, kr_im hm kt⟩) r
end FgA
/-! FgB5: enumerate of a tuple, the keys of a dict with keys of many kinds, walked; joins of branches. -/
namespace FgA
open PySem PySem.Spec PyProof.Rows L2 Fg
section
/-! ### enumerate(t), t a tuple -/
theorem meets_enum_one {v : Value} {ob : Obj} {G : Heap → Prop} (B : Begins v ob G) :
    Meets (Builtin.«enumerate.__new__» ⟨[.type "enumerate", v], []⟩) (fun _ R s => G s.heap ∧
      R (.ok (.ret (.ref (s.heap.push ob).objs.size))) { s with heap := (s.heap.push ob).push { cls := .type "enumerate", data := .fields #[.none, .bool false, .ref s.heap.objs.size, rawInt 0, .none, .none] } }) :=
  .of_wp fun pr w A R s hh => by
    obtain ⟨hp, g, d, tk, os⟩ := s
    obtain ⟨h1, h⟩ := hh
    have hsub := sub_enumerate
    have q1 : ∀ {A' : Around} {E : Value → Shared → Prop} {Q : Value → Shared → Prop}, Q (.ref hp.objs.size) ⟨hp.push ob, g, d, tk, os⟩ → wpAny (model pr w) A' (pyIter v) Q E ⟨hp, g, d, tk, os⟩ :=
      fun q => B.iter pr w _ _ ⟨hp, g, d, tk, os⟩ _ h1 q
    wp_walk using q1
    refine wpAny_stack_any fun stk => wpAny_pure ?_
    split
    · rename_i c _ _ _ _ _
      cases (c == Value.type "enumerate")
      · wp_walk using q1
        exact ⟨_, rfl, h⟩
      · wp_walk using q1
        exact ⟨_, rfl, h⟩
    · wp_walk using q1
      exact ⟨_, rfl, h⟩
theorem call_enum_one {prog : Program} {w : World} {A : Around} {E : Value → Shared → Prop} {s : Shared} {v : Value} {ob : Obj} {G : Heap → Prop} {Q : Value → Shared → Prop} (B : Begins v ob G) (hG : G s.heap)
    (h : ∀ h', IsEnum h' (s.heap.objs.size + 1) s.heap.objs.size 0 .none → h'.get? s.heap.objs.size = some ob → (∀ b o, s.heap.get? b = some o → h'.get? b = some o) → Q (.ref (s.heap.objs.size + 1)) { s with heap := h' }) :
    wpAny (model prog w) A (call (.type "enumerate") [v]) Q E s := by
  refine callType_new F.called_enumerate (by decide) (F.typeCall_enumerate_1 _) (F.newCall_enumerate_1 _) (fun obj => F.args_object_init_2 obj _) F.entry_enumerate_new (meets_enum_one B) ⟨hG, ?_⟩
  have hz : (s.heap.push ob).objs.size = s.heap.objs.size + 1 := Heap.size_push ..
  show _ ∧ _
  rw [hz]
  have he : IsEnum ((s.heap.push ob).push { cls := .type "enumerate", data := .fields #[.none, .bool false, .ref s.heap.objs.size, rawInt 0, .none, .none] }) (s.heap.objs.size + 1) s.heap.objs.size 0 .none := by
    have z := Heap.get?_push_size (s.heap.push ob) (o := { cls := .type "enumerate", data := .fields #[.none, .bool false, .ref s.heap.objs.size, rawInt 0, .none, .none] }) rfl
    rw [hz] at z
    exact z
  exact ⟨⟨_, he, rfl⟩, h _ he (Heap.get?_push_of_some _ (Heap.get?_push_size _ B.free)) fun b o x => Heap.get?_push_of_some _ (Heap.get?_push_of_some _ x)⟩
/-- the tuple at a, each item in a new pair -/
def IteT (K : PySem.W.Frag) (a : Addr) : It :=
  ⟨fun i H => ∃ (xs : List V) (x : V), SqT K H a xs ∧ xs[i]? = some x, fun i H v H' => ∃ T x, v = .ref T ∧ H T = none ∧ H' = upd H T (.tup [.int (i : Nat), x]) ∧ ∀ xs, SqT K H a xs → xs[i]? = some x, fun i H => ∃ xs : List V, SqT K H a xs ∧ xs.length = i⟩
theorem apart_of {h : Heap} {a b : Addr} {o o' : Obj} (ha : h.get? a = some o) (hb : h.get? b = some o') (hn : o.cls ≠ o'.cls) : a ≠ b := fun e => by
  rw [e, hb] at ha
  cases ha
  exact hn rfl
theorem turn_enumT {P : Program} {w : World} {K : PySem.W.Frag} {elts : List Expr} {kk : Nat} {tpos : Pos} (a e it : Addr) :
    Turn P w K (.Tuple elts kk tpos) (IteT K a) [e, it] e (fun i h => (∃ old, IsEnum h e it ((i : Nat) : Int) old) ∧ h.IsTupleIter it a i ∧ e ≠ it) where
  mem := by simp
  obj := fun i h stt b hb => by
    obtain ⟨⟨old, he⟩, ⟨o, ho, hc, hd⟩, _⟩ := stt
    rcases (show b = e ∨ b = it by simpa using hb) with z | z
    · subst z; exact ⟨_, he, fun v q => nomatch q⟩
    · subst z; exact ⟨o, ho, fun v q => by rw [hd] at q; cases q⟩
  keep := fun i h h' stt k => let ⟨⟨old, he⟩, hi, hne⟩ := stt; ⟨⟨old, k e (by simp) _ he⟩, hi.at fun o q => k it (by simp) o q, hne⟩
  item := by
    intro X hP hw hK hc i pins s σ H E I hf stt hg
    subst hP hw hK
    obtain ⟨⟨old, he⟩, hit, hne⟩ := stt
    obtain ⟨xs, x, hq, hx⟩ := hg
    obtain ⟨its, rv, p, hz⟩ := I.tuple hq
    obtain ⟨u, hu, ru⟩ := rv.get hx
    have p' : s.heap.IsTuple a its.toArray := p
    have hea : e ≠ a := by
      obtain ⟨o, h1, h2, _⟩ := p'
      exact apart_of he h1 fun z => absurd (Value.type.inj (z.trans h2)) (by decide)
    have hta : a ≠ it := by
      obtain ⟨o, h1, h2, _⟩ := p'
      obtain ⟨o', h3, h4, _⟩ := hit
      exact apart_of h1 h3 (by rw [h2, h4]; decide)
    have D := Draws.tuple (prog := X.prog) (w := X.w) (A := X.A.in1) (show X.A.in1.handled = none from I.ok.hd hc) it a hta its.toArray
    have hel : e < s.heap.objs.size := Heap.lt_size he
    have hil : it < s.heap.objs.size := by obtain ⟨_, q, _⟩ := hit; exact Heap.lt_size q
    have hlt : i < its.toArray.size := by
      have := (List.getElem?_eq_some_iff.mp hu).1
      simpa using this
    refine wpAny_pyNext_enum_itemD D he ⟨hit, p'⟩ hlt hne (by simp [hne, hea]) fun x' h' tk hx' ho hs' hT hsz hk => ?_
    have ex : x' = u := by
      have h0 : its.toArray[i]? = some x' := hx'
      rw [List.getElem?_toArray, hu] at h0
      exact (Option.some.inj h0).symm
    subst ex
    refine ⟨_, rfl, wpAny_letOwnedTupleGo_enum (s := { s with heap := h', toks := tk + 1 }) ho fun h'' he' sb => ?_⟩
    have hT2 : h''.get? s.heap.objs.size = some { cls := .type "tuple", data := .seq #[.int i tk, x'] } := (sb.2 _ (Nat.ne_of_gt hel)).trans hT
    have new : ObjOk X.prog X.w (upd H s.heap.objs.size (.tup [.int (i : Nat), x])) h'' s.heap.objs.size (.tup [.int (i : Nat), x]) :=
      ⟨by show 2 ≤ sizeLine; decide, [.int i tk, x'], .cons ⟨_, rfl⟩ (.cons ru .nil), ⟨_, hT2, rfl, _, rfl⟩⟩
    have I1 : Inv X pins σ (upd H s.heap.objs.size (.tup [.int (i : Nat), x])) { s with heap := h'', toks := tk + 1 } :=
      I.turnedNew (ch := [e, it]) (fun b ob hb q => (sb.2 b (fun z => hb (by simp [z]))).trans (hk b ob (fun z => hb (by simp [z])) (fun z => hb (by simp [z])) q)) hf (Nat.le_refl _) new
    refine ⟨.ref s.heap.objs.size, _, I1, rfl, ⟨_, x, rfl, I.hok.fresh (Nat.le_refl _), rfl, fun ys hy => by rw [I.tuple_inj hy hq]; exact hx⟩, ⟨⟨x', ?_⟩, hs'.1.at fun o q => (sb.2 it (Ne.symm hne)).trans q, hne⟩, fun b hb => ?_⟩
    · rw [show ((i + 1 : Nat) : Int) = (i : Int) + 1 by omega]
      exact he'
    · have hb' : b < s.heap.objs.size := by
        rcases (show b = e ∨ b = it by simpa using hb) with z | z
        · subst z; exact hel
        · subst z; exact hil
      rw [upd_ne (Nat.ne_of_lt hb')]
      exact (hf b hb).1
  done := by
    intro X hP hw hK hc i pins s σ H E I hf stt hg
    subst hP hw hK
    obtain ⟨⟨old, he⟩, hit, hne⟩ := stt
    obtain ⟨xs, hq, hx⟩ := hg
    obtain ⟨its, rv, p, hz⟩ := I.tuple hq
    have p' : s.heap.IsTuple a its.toArray := p
    have hta : a ≠ it := by
      obtain ⟨o, h1, h2, _⟩ := p'
      obtain ⟨o', h3, h4, _⟩ := hit
      exact apart_of h1 h3 (by rw [h2, h4]; decide)
    have D := Draws.tuple (prog := X.prog) (w := X.w) (A := X.A.in1) (show X.A.in1.handled = none from I.ok.hd hc) it a hta its.toArray
    obtain ⟨f0, f1, f2, f3, f4, f5⟩ := hf it (by simp)
    have ei : its.toArray.size = i := by
      have := rv.length
      simp; omega
    subst ei
    exact wpAny_pyNext_enum_endD D he ⟨hit, p'⟩ fun h' eb => ⟨rfl, I.turned (t' := s.toks) (fun b o hb q => eb b o hb q) f0 f1 f3 f4 f5⟩
  self := fun A i s Q E stt h => let ⟨⟨_, he⟩, _⟩ := stt; wpAny_pyIter_enum he h
def iEnumT (K : PySem.W.Frag) (ta : TA) : TI := fun σ H R => ta σ H fun vs H1 => ∃ a xs, vs = [.ref a] ∧ SqT K H1 a xs ∧ R (IteT K a) H1
theorem pi_enumT {X : Cx} {e : Expr} {ta : TA} {p pos tpos : Pos} {elts : List Expr} {kk : Nat} (hg : Gl X "enumerate") (hm : X.mg "enumerate" = none) (ha : PA X [e] ta) (hs : starEach [e] X.env = [(false, eval e X.env)]) :
    PI X (.Tuple elts kk tpos) (.Call (.Name "enumerate" p) [e] [] pos) (iEnumT X.K ta) := by
  refine ⟨fun pins s σ H R I h => ?_⟩
  refine Call_ (ld_blt I hg hm boot_enumerate (PyProof.Rows.callWith_type1 (thn (ha.run pos pins s σ H _ I h) fun us s1 ⟨vs, H1, I1, r1, q1⟩ => ?_) hs rfl))
  obtain ⟨a, xs, ex, hq, q⟩ := q1
  subst ex
  cases r1 with
  | cons r rr =>
    cases rr
    cases r
    obtain ⟨its, rv, p', hz⟩ := I1.tuple hq
    refine call_enum_one (begins_tuple a its.toArray) (show s1.heap.IsTuple a its.toArray from p') fun h' he hit hk => wpAny_pyIter_enum he ?_
    have I2 : Inv X pins σ H1 { s1 with heap := h' } := I1.kept (t' := s1.toks) hk
    refine ⟨s1.heap.objs.size + 1, [s1.heap.objs.size + 1, s1.heap.objs.size], _, _, H1, rfl, I2, turn_enumT a (s1.heap.objs.size + 1) s1.heap.objs.size, ⟨⟨.none, he⟩, ⟨_, hit, rfl, rfl⟩, Nat.succ_ne_self _⟩, fun b hb => ?_, q⟩
    have hle : s1.heap.objs.size ≤ b := by
      rcases (show b = s1.heap.objs.size + 1 ∨ b = s1.heap.objs.size by simpa using hb) with z | z
      · rw [z]; exact Nat.le_add_right _ _
      · rw [z]; exact Nat.le_refl _
    exact I1.fpOk hle (I1.hok.fresh hle)
end
variable {X : Cx} {K : PySem.W.Frag} {H H' : Hp} {ρ : Rho} {η : Eta} {Q : Dt → Eta → Prop} {E : AEnds} {N : List Str} {sc : Scope} {k : Nat} {T F : Eta → Prop} {QG : Rho → Eta → Prop}
theorem awk_enumT {p : Addr} {xs : List V} {ds : List Dt} (hs : SqT K H p xs) (hi : Ims K H xs ds) : AWk K (IteT K p) H ds.length (fun _ => True) (fun i x => ∃ y, ds[i]? = some y ∧ x = .tup [.int (i : Nat), y]) := by
  refine ⟨⟨fun i H2 hl g => ?_, fun H2 g => ?_, fun i H2 x H3 hl g y => ?_⟩⟩
  · exact ⟨xs, xs[i]'(hi.len ▸ hl), g.1 _ _ hs, by simp⟩
  · exact ⟨xs, g.1 _ _ hs, hi.len⟩
  · obtain ⟨T, z, rfl, hT, rfl, y⟩ := y
    obtain ⟨d, a1, a2⟩ := (hi.kt g.1).getV i (y xs (g.1 _ _ hs))
    exact ⟨same_new hT, _, .tup (SqT.of upd_same) (.cons (.int _) (.cons (a2.kt (Kt.new hT)) .nil)), d, a1, rfl⟩
theorem ai_enumT (A : At X N sc k) (B : Bt X) {a : Expr} {p pos tpos : Pos} {elts : List Expr} {kk : Nat} {R : RWk} (h : AE X a ρ η fun d η1 => ∃ ds, d = .tup ds ∧ R ds.length (fun _ => True) (fun i x => ∃ y, ds[i]? = some y ∧ x = .tup [.int (i : Nat), y]) η1)
    (hg : sc.names.lookup ("enumerate" : Str) = some .globalImplicit := by rfl) (hs : starEach [a] X.env = [(false, eval a X.env)] := by rfl) : AI X (.Tuple elts kk tpos) (.Call (.Name "enumerate" p) [a] [] pos) ρ η R := by
  refine AIt.of (pi_enumT (A.gl hg) B.enumerate (paW [a]) hs) ?_
  intro σ H S v b o
  refine (aa_cons (QA := fun ds η1 => ∃ es, ds = [.tup es] ∧ R es.length (fun _ => True) (fun i x => ∃ y, es[i]? = some y ∧ x = .tup [.int (i : Nat), y]) η1) (h.mono fun d η1 q => ?_) hs).run σ H _ v b fun ds η1 xs H1 k1 m1 b1 q1 => ?_
  · obtain ⟨es, rfl, q⟩ := q
    exact aa_nil ⟨es, rfl, q⟩
  · obtain ⟨es, rfl, q⟩ := q1
    obtain ⟨v1, rfl, m2⟩ := m1.one_inv
    obtain ⟨q1, vs, rfl, c1, c2⟩ := m2.tup_inv
    exact ⟨q1, vs, rfl, c1, o _ _ _ _ η1 H1 k1 b1 q (awk_enumT c1 c2)⟩
/-! ### the keys of a dict with keys of many kinds -/
def ItN (p : Addr) (od : Obj) (xs : List (V × Int × V)) : It :=
  ⟨fun i H => H p = some (.frz od (DdO p xs)) ∧ i < xs.length, fun i H x H' => H' = H ∧ ∃ e, xs[i]? = some e ∧ x = e.1, fun i H => H p = some (.frz od (DdO p xs)) ∧ xs.length ≤ i⟩
theorem frz_nst {pins : List (Addr × Obj)} {σ : L2.St} {s : Shared} {d : Addr} {od : Obj} {xs : List (V × Int × V)} (I : Inv X pins σ H s) (h : H d = some (.frz od (DdO d xs))) :
    (d == sysModules) = false ∧ s.heap.get? d = some od ∧ od.ExactDict ∧ ∃ (es : Array DictEntry) (ep : Nat), od.data = .dict es ep ∧ es.size = xs.length ∧ Paired EnIs xs es.toList := by
  obtain ⟨hd, z⟩ := I.hok d _ h
  obtain ⟨⟨lo, hl, o', es, ep, ho, hx, hdt, hp⟩, _⟩ := z
  rw [hd] at ho
  cases ho
  exact ⟨lo, hd, hx, es, ep, hdt, by have := hp.length; rw [Array.length_toList] at this; exact this.symm, hp⟩
theorem turn_keysN {P : Program} {w : World} {tg : Expr} {d : Addr} {o : Obj} {es : Array DictEntry} {ep : Nat} {xs : List (V × Int × V)} (it : Addr) (hod : o.data = .dict es ep) : Turn P w K tg (ItN d o xs) [it] it (fun i h => h.IsKeyIter it d i xs.length ep) where
  mem := by simp
  obj := fun i h stt b hb => by
    obtain rfl : b = it := by simpa using hb
    obtain ⟨oi, e, c, dd⟩ := stt
    exact ⟨oi, e, fun v z => by rw [dd] at z; cases z⟩
  keep := fun i h h' stt k => stt.at fun oi e => k it (by simp) oi e
  item := by
    intro X hP hw hK hc i pins s σ H E I hf stt hg
    subst hP hw hK
    obtain ⟨hd, hi⟩ := hg
    obtain ⟨f0, f1, f2, f3, f4, f5⟩ := hf it (by simp)
    obtain ⟨hs, hgd, hx, es', ep', hdt, hsz, hp⟩ := frz_nst I hd
    obtain ⟨rfl, rfl⟩ := dict_ep hod hdt
    obtain ⟨en, he1, he2⟩ := paired_get hp (List.getElem?_eq_getElem hi)
    rw [Array.getElem?_toList] at he1
    refine next_key_item stt hgd hdt hsz he1 fun h' stt' sb => ?_
    have I1 : Inv X pins σ H { s with heap := h' } := I.turned (t' := s.toks) (fun b ob hb e => (sb.2 b hb).trans e) f0 f1 f3 f4 f5
    obtain ⟨oi, e, c, dd⟩ := id stt'
    exact ⟨en.key, rfl, go_of (s := { s with heap := h' }) e c dd (by decide) ⟨xs[i].1, H, I1, he2.1, ⟨rfl, xs[i], List.getElem?_eq_getElem hi, rfl⟩, stt', fun b hb => (hf b hb).1⟩⟩
  done := by
    intro X hP hw hK hc i pins s σ H E I hf stt hg
    subst hP hw hK
    obtain ⟨hd, hi⟩ := hg
    obtain ⟨f0, f1, f2, f3, f4, f5⟩ := hf it (by simp)
    obtain ⟨hs, hgd, hx, es', ep', hdt, hsz, hp⟩ := frz_nst I hd
    obtain ⟨rfl, rfl⟩ := dict_ep hod hdt
    exact next_key_end (I.ok.hd hc) stt hgd hdt hsz hi fun h' eb => ⟨rfl, I.turned (t' := s.toks) (fun b ob hb e => eb b ob hb e) f0 f1 f3 f4 f5⟩
  self := fun A i s Q E stt h => by
    refine wpAny_pyIter_slot stt.typeIs F.slot_dict_keyiterator_iter (wpAny_call_entry F.slot_dict_keyiterator_iter stt.typeIs F.entry_dict_keyiterator_iter ?_ (F.args_dict_keyiterator_iter_1 _))
    show wpAny _ _ (ret (.ref it)) _ _ s
    exact wpAny_pure ⟨_, rfl, "dict_keyiterator", _, stt.typeIs, F.slot_dict_keyiterator_next.lookup, h⟩
def iKeysN (td : TE) : TI := fun σ H R => td σ H fun x H1 => ∃ d o xs, x = .ref d ∧ H1 d = some (.frz o (DdO d xs)) ∧ R (ItN d o xs) H1
theorem pi_keysN {tg e : Expr} {td : TE} (he : PE X e td) : PI X tg e (iKeysN td) := by
  refine ⟨fun pins s σ H R I h => ?_⟩
  refine thn (he.run pins s σ H _ I h) fun u s1 ⟨x, H1, I1, rx, d, o, xs, ex, hd, q⟩ => ?_
  subst ex
  obtain rfl : u = Value.ref d := rx
  obtain ⟨hs, hgd, hx, es, ep, hdt, hsz, hp⟩ := frz_nst I1 hd
  refine iter_keys hs hgd hx hdt (pi_one (tk := s1.toks) I1 _ (turn_keysN _ hdt) ⟨_, Heap.get?_push_size _ rfl, rfl, ?_⟩ q)
  rw [hsz] <;> rfl
/-- for .. in d: d is read alone while it is walked -/
theorem as_forD (A : At X N sc k) {m : Nat} (V : NameOk N sc m) {i : Nat} {x : Str} [sl : Slot N x i] {tg : Expr} {body : List Stmt} {pos px : Pos} {p : Addr} {kvs : List (NestedKey × Dt)} (hi : Nat.blt i m = true) (hρ : ρ[i]? = some (some (.ref p))) (hp : η p = some (.nst X.w kvs))
    (h : ∀ mo : Mo, ∃ P : Nat → Rho → Eta → Prop, P 0 ρ (up η p mo) ∧ (∀ j ρ η, P j ρ η → η p = some mo) ∧
      (∀ j kv ρ η, kvs[j]? = some kv → P j ρ η → AG X tg (dtOf kv.1) ρ η fun ρ2 η2 => ASs X body ρ2 η2 { nx := P (j + 1), rt := fun _ _ => False, ct := P (j + 1) }) ∧ ∀ ρ' η', P kvs.length ρ' η' → E.nx ρ' (up η' p (.nst X.w kvs)))
    (hs : ∀ z, foldedSetIterable (.Name x px) X.env z = pure z := by intro _; rfl) : AS X (.For tg (.Name x px) body [] pos) ρ η E := by
  obtain ⟨h1, h2, h3⟩ := V.ok i x (Nat.le_of_ble_eq_true hi) sl.at_
  have hv : Vis X.env.scope x := by
    rw [A.eS]
    exact h1.elim (fun z => .inl z) fun z => .inr (.inl z)
  have pv : PE X (.Name x px) (tVar i) := pe_var (i := i) (by rw [A.eN]; exact sl.at_) hv h2 h3
  refine ASt.of (ps_lock (ps_for A.pass A.calm (pi_keysN pv) (pgW tg) (pssW body) hs)) ?_
  intro D σ H v b l
  obtain ⟨xs, a1, a2⟩ := b _ _ hp
  refine ⟨p, DdO p xs, a1, trivial, fun od => ?_⟩
  have k2 : Kt X.K H (upd H p (.frz od (DdO p xs))) := Kt.ext a1
  obtain ⟨P, p0, pm, pS, pE⟩ := h (.oth fun K' H' q => H' q = some (.frz od (DdO q xs)) ∧ NstOk K' X.w H' xs kvs)
  have hab : HAb X.K (upd H p (.frz od (DdO p xs))) (up η p (.oth fun K' H' q => H' q = some (.frz od (DdO q xs)) ∧ NstOk K' X.w H' xs kvs)) :=
    b.mut k2 ⟨by rw [upd_same]; simp, fun H' kk e => ⟨by rw [e, upd_same], (a2.kt k2).kt kk⟩⟩
  obtain ⟨y, e1, e2⟩ := v.2 i _ hρ
  have ey : y = .ref p := e2.ref_inv
  subst ey
  have hlen : xs.length = kvs.length := a2.1.length
  have rd : ∀ {H' : Hp} {η' : Eta}, HAb X.K H' η' → η' p = some (.oth fun K' H' q => H' q = some (.frz od (DdO q xs)) ∧ NstOk K' X.w H' xs kvs) → H' p = some (.frz od (DdO p xs)) ∧ NstOk X.K X.w H' xs kvs := fun {H' η'} bb ee => (bb _ _ ee).2 H' Kt.refl rfl
  refine ⟨.ref p, e1, p, od, xs, rfl, upd_same, ?_⟩
  refine for_it (J := ItN p od xs) (n := kvs.length) (G := fun H' => H' p = some (.frz od (DdO p xs))) (Y := fun i H' x H'' => H'' = H' ∧ ∃ e, xs[i]? = some e ∧ x = e.1)
    ⟨fun i H' hi g => ⟨g, by omega⟩, fun H' g => ⟨g, by omega⟩, fun i H' x H'' hi g y => y⟩
    (fun i σ' H' => ∃ ρ' η', Kt X.K (upd H p (.frz od (DdO p xs))) H' ∧ Vs X.K H' σ' ρ' ∧ HAb X.K H' η' ∧ P i ρ' η') ⟨ρ, _, Kt.refl, v.kt k2, hab, p0⟩ ?_ ?_ ?_
  · rintro i σ' H' hi' ⟨ρ', η', k', v', b', p'⟩
    exact (rd b' (pm _ _ _ p')).1
  · rintro i z σ' H' H'' hi' ⟨ρ', η', k', v', b', p'⟩ ⟨rfl, en, he, rfl⟩
    obtain ⟨_, hN⟩ := rd b' (pm _ _ _ p')
    obtain ⟨kv, hk1, hk2⟩ := paired_get hN.1 he
    refine (pS i kv ρ' η' hk1 p').run _ σ' H'' _ hk2.1 v' b' fun ρ3 η3 σ3 H3 k3 v3 b3 q3 => ?_
    have kk := k'.trans k3
    exact q3.run _ σ3 H3 v3 b3 ⟨fun ρ4 η4 σ4 H4 k4 v4 b4 q4 => ⟨ρ4, η4, kk.trans k4, v4, b4, q4⟩, fun d η4 v4 H4 k4 m4 b4 q4 => q4.elim, fun ρ4 η4 σ4 H4 k4 v4 b4 q4 => q4.elim, fun ρ4 η4 σ4 H4 k4 v4 b4 q4 => ⟨ρ4, η4, kk.trans k4, v4, b4, q4⟩⟩
  · rintro σ' H' ⟨ρ', η', k', v', b', p'⟩
    obtain ⟨hH, hN⟩ := rd b' (pm _ _ _ p')
    have k3 : Kt X.K H' (upd H' p (DdO p xs)) := Kt.upd (by rw [hH]; trivial)
    exact ⟨hH, l.nx ρ' _ σ' _ ((k2.trans k').trans k3) (v'.kt k3) (b'.mut (m := .nst X.w kvs) k3 ⟨xs, upd_same, hN.kt k3⟩) (pE ρ' η' p')⟩
theorem ae_dnewN (A : At X N sc k) {pos : Pos} (q : ∀ p, η p = none → Q (.ref p) (up η p (.nst X.w []))) : AE X (.Dict [] [] pos) ρ η Q := by
  refine AX.of (t := fun σ H R => ∀ p, H p = none → R (.ref p) (upd H p (DdO p []))) ⟨fun pins s σ H R I h => ?_⟩ ?_
  · have hbig : (s.heap.objs.size == sysModules) = false := by
      rw [beq_eq_false_iff_ne]
      exact Nat.ne_of_gt I.big
    exact wpAny_Dict_empty ⟨.ref s.heap.objs.size, _, I.laid (a := s.heap.objs.size) (o := DdO s.heap.objs.size []) (t' := s.toks) (fun _ _ q => Heap.get?_push_of_some _ q) (Nat.le_refl _) (dd_ok hbig (Nat.zero_le _) (Heap.get?_push_size _ rfl) (by exact ⟨rfl, rfl, rfl⟩) rfl .nil), rfl, h _ (I.hok.fresh (Nat.le_refl _))⟩
  · intro σ H R v b o p hp
    exact o _ _ _ _ (Kt.new hp) (.ref p) (b.newM (m := .nst X.w []) hp ⟨[], upd_same, .nil, List.nodup_nil⟩) (q p (b.free hp))
/-! ### joins -/
theorem ass_mono {b : List Stmt} {E' : AEnds} (h : ASs X b ρ η E) (n : ∀ ρ η, E.nx ρ η → E'.nx ρ η) (r : ∀ d η, E.rt d η → E'.rt d η) (bk : ∀ ρ η, E.bk ρ η → E'.bk ρ η) (ct : ∀ ρ η, E.ct ρ η → E'.ct ρ η) : ASs X b ρ η E' :=
  ⟨fun D σ H v b l => h.run D σ H v b ⟨fun ρ η σ H' k v b q => l.nx ρ η σ H' k v b (n _ _ q), fun d η v H' k m b q => l.rt d η v H' k m b (r _ _ q), fun ρ η σ H' k v b q => l.bk ρ η σ H' k v b (bk _ _ q), fun ρ η σ H' k v b q => l.ct ρ η σ H' k v b (ct _ _ q)⟩⟩
theorem as_ifJ (J : Rho → Eta → Prop) {c : Expr} {a b : List Stmt} {pos : Pos} (h : AT X c ρ η (fun η1 => ASs X a ρ η1 { E with nx := J }) (fun η1 => ASs X b ρ η1 { E with nx := J })) (k : ∀ ρ1 η1, J ρ1 η1 → E.nx ρ1 η1) : AS X (.If c a b pos) ρ η E :=
  as_if (at_mono h (fun _ z => ass_mono z k (fun _ _ q => q) (fun _ _ q => q) fun _ _ q => q) (fun _ z => ass_mono z k (fun _ _ q => q) (fun _ _ q => q) fun _ _ q => q))
/-! ### comprehensions over a pair, with a condition -/
def LcF2 (X : Cx) (N : List Str) (sc : Scope) (k : Nat) (scope : Scope) (cond elt : Expr) (ρ : Rho) (i j : Nat) (Q : Dt → Eta → Prop) : RWk := fun n GE Y η1 => n ≤ 100000 ∧ (∀ η η', Sub η η' → GE η → GE η') ∧ GE η1 ∧ ∃ F : Nat → List Dt → Prop, F 0 [] ∧
      (∀ m d D acc, m < n → Y m d → η1 D = none → F m acc → ∃ d1 d2, d = .tup [d1, d2] ∧ ∀ X', At X' N (relS scope sc) k → Blk X X' scope → AT X' cond ((((ρ.set j none).set i none).set i (some d1)).set j (some d2)) (up η1 D (.lst acc))
        (fun η4 => Sub (up η1 D (.lst acc)) η4 ∧ ∀ X2, At X2 N (relS scope sc) k → Blk X X2 scope → AE X2 elt ((((ρ.set j none).set i none).set i (some d1)).set j (some d2)) (up η1 D (.lst acc)) fun e η5 => Sub (up η1 D (.lst acc)) η5 ∧ F (m + 1) (acc ++ [e])) (fun η4 => Sub (up η1 D (.lst acc)) η4 ∧ F (m + 1) acc)) ∧
      ∀ D acc, η1 D = none → F n acc → Q (.ref D) (up η1 D (.lst acc))
theorem ax_lcF2 (A : At X N sc k) {elt cond iter : Expr} {scope : Scope} {tp p1 p2 : Pos} {c : _} {x y : Str} {i j : Nat} (hij : i ≠ j) (h : AI X (.Tuple [.Name x p1, .Name y p2] c tp) iter ρ η (LcF2 X N sc k scope cond elt ρ i j Q)) :
    AX X.K (tLc (tWI X (.Tuple [.Name x p1, .Name y p2] c tp) iter) (gTup X.K 2 (gCons (gName i) (gCons (gName j) gNil))) (fun σ H R => ∀ X', Blk X X' scope → tWT X' cond σ H R) (fun σ H R => ∀ X', Blk X X' scope → tW X' elt σ H R) [i, j]) ρ η Q := by
  refine ax_lcF A [(x, i), (y, j)] (gTup X.K 2 (gCons (gName i) (gCons (gName j) gNil))) (wipes_pair X.K i j hij) ⟨?_⟩
  intro σ H S v b o
  refine h.run σ H S v b fun J n GE Y η1 H1 k1 b1 q w => o J n GE Y η1 H1 k1 b1 ?_ w
  obtain ⟨hn, mG, hG, F, hF0, hS, hE⟩ := q
  refine ⟨hn, fun D hD => ⟨fun j acc η' => Sub (up η1 D (.lst acc)) η' ∧ GE η' ∧ F j acc, ?_, ?_, ?_, ?_⟩⟩
  · exact ⟨Sub.refl, mG _ _ (Sub.up hD) hG, hF0⟩
  · rintro i acc η' hi ⟨s, ge, _⟩
    exact ⟨ge, s _ _ up_same⟩
  · rintro m acc d η' hi y hl ⟨s, ge, hF⟩
    obtain ⟨d1, d2, rfl, hS'⟩ := hS m d D acc hi y hD hF
    refine agt_pair fun X' hX => at_forget s (at_mono (hS' X' (hX.at A) hX) ?_ ?_)
    · rintro η4 ⟨s4, q4⟩ X2 hX2
      refine ae_forget s4 ((q4 X2 (hX2.at A) hX2).mono fun e η5 q5 => ?_)
      have s1 : Sub η1 η5 := (Sub.up hD).trans q5.1
      exact ⟨q5.1 _ _ up_same, sub_both s1, mG _ _ (s1.up' hD) hG, q5.2⟩
    · rintro η4 ⟨s4, q4⟩
      exact ⟨s4, mG _ _ ((Sub.up hD).trans s4) hG, q4⟩
  · rintro acc η' hl ⟨s, ge, hF⟩
    exact ⟨_, s, hE D acc hD hF⟩
theorem ae_lcF2 (A : At X N sc k) {elt cond iter : Expr} {scope : Scope} {pos tp p1 p2 : Pos} {c : _} {x y : Str} {i j : Nat} [s : Slot N x i] [s2 : Slot N y j] (h : AI X (.Tuple [.Name x p1, .Name y p2] c tp) iter ρ η (LcF2 X N sc k scope cond elt ρ i j Q))
    (hij : i ≠ j := by decide) (hx : (relS scope sc).names.lookup x = some .local := by rfl) (hy : (relS scope sc).names.lookup y = some .local := by rfl) (hb : blkC N sc scope [(x, i), (y, j)] = true := by decide +kernel)
    (hs : ∀ x, foldedSetIterable iter X.env x = pure x := by intro _; rfl) : AE X (.ListComp elt [⟨.Tuple [.Name x p1, .Name y p2] c tp, iter, [cond], 0⟩] scope pos) ρ η Q :=
  AX.of (pe_lcFW A [(x, i), (y, j)] (gTup X.K 2 (gCons (gName i) (gCons (gName j) gNil))) (fun X' b => pgB_pair A b hx hy) hb hs) (ax_lcF2 A hij h)
end FgA
namespace FgA
open PySem PySem.Spec PyProof.Rows L2 Fg
local macro_rules | `(tactic| walk_at "n") => `(tactic| (refine is_name ?_; first
  | refine ae_nameV (by assumption) (by assumption) rfl rfl ?_
  | refine ae_glob (by assumption) (by assumption) ?_
  | refine ae_nameB (by assumption) rfl ?_))
local macro_rules | `(tactic| walk_at "set") => `(tactic| (refine is_set ?_; refine as_setV (by assumption) (by assumption) (by assumption) rfl ?_))
local macro_rules | `(tactic| walk_at "t") => `(tactic| first
  | (refine is_tgt ?_; refine ag_nameV (by assumption) (by assumption) (by assumption) rfl ?_)
  | refine ag_tup2 (by assumption) ?_
  | refine ag_tup3 (by assumption) ?_
  | refine ag_tup4 (by assumption) ?_)
local macro_rules | `(tactic| walk_at "e") => `(tactic| first
  | walk_at "n"
  | refine ae_int ?_
  | refine ae_str ?_
  | refine ae_sub' ?_
  | refine aa_cons ?_
  | refine aa_nil ?_
  | refine ae_add ?_
  | refine ae_sub ?_
  | refine ae_mul ?_
  | refine ae_mod ?_
  | refine ae_fdiv ?_
  | refine ae_tup ?_
  | refine ae_lst ?_
  | refine ae_slice ?_
  | refine ae_bl ?_
  | refine ae_non ?_
  | refine ae_len (by assumption) (by assumption) ?_
  | refine ae_abs (by assumption) (by assumption) ?_
  | refine ae_call (by assumption) (by assumption) ?_
  | refine addD_int ?_
  | (refine is_ii ?_; refine iiT trivial ?_)
  | refine szl_and rfl ?_
  | (refine is_sub ?_; first | refine subD_tup (ix0 rfl) ?_ | refine subD_tup (ix1 rfl) ?_ | refine subD_tup (ix2 rfl) ?_ | refine subD_tup (ix3 rfl) ?_))
local macro_rules | `(tactic| walk_at "h") => `(tactic| first
  | assumption
  | exact up_same
  | (refine up_new (by assumption) ?_; walk_at "h")
  | (refine up_old (by assumption) ?_; walk_at "h")
  | (refine up_old (Ne.symm (by assumption)) ?_; walk_at "h"))
local macro_rules | `(tactic| walk_at "f") => `(tactic| first
  | assumption
  | (apply free_up; walk_at "f"))
local macro_rules | `(tactic| walk_at "sub") => `(tactic| first
  | exact Sub.refl
  | (refine sub_both ?_; walk_at "sub")
  | (refine sub_new (by assumption) ?_; walk_at "sub"))
variable {X : Cx} {η : Eta} {Q0 : Dt → Eta → Prop}
def gapD (x : Fr × Nat) : Dt := .tup [frD x.1, nD x.2]
theorem nD_get {l : List Nat} {i : Nat} (h : i < l.length) : (l.map nD)[i]? = some (nD (l.getD i 0)) := by
  rw [List.getElem?_map, List.getElem?_eq_getElem h, List.getD_eq_getElem?_getD, List.getElem?_eq_getElem h]; rfl
theorem tab_h {T : Tab} (V : Valid T) {i : Nat} (h : i < T.n) : atI (T.hs.map nD) (i : Int) = some (nD (T.s i)) := atN (nD_get h)
theorem tab_t {T : Tab} (V : Valid T) {i : Nat} (h : i < T.n) : atI (T.ts.map nD) (i : Int) = some (nD (T.r i)) := atN (nD_get (by rw [V.len]; exact h))
theorem tab_h0 {T : Tab} (V : Valid T) : atI (T.hs.map nD) 0 = some (nD (T.s 0)) := tab_h V V.pos
theorem tab_t0 {T : Tab} (V : Valid T) : atI (T.ts.map nD) 0 = some (nD (T.r 0)) := tab_t V V.pos
theorem vs_lt {T : Tab} (V : Valid T) {i : Nat} (h : i < T.n) : T.s i < T.n := V.sys.ps i h
theorem vr_lt {T : Tab} (V : Valid T) {i : Nat} (h : i < T.n) : T.r i < T.n := V.sys.pr i h
def p_first_gaps : ASp := fun ds η Q => ∃ T : Tab, Valid T ∧ ds = [tabD T] ∧ ∀ p, η p = none → Q (.ref p) (up η p (.lst ((firstG T).map gapD)))
theorem b_first_gaps (A : At X n_first_gaps (defScope s_first_gaps) 0) (B : Bt X) (hf : ∀ y, X.fn y = true) (gE : GV X "ENDLESS" (frD inf)) (gN : GV X "NOUGHT" (frD (0, 1))) (gO : GV X "ONE" (frD (1, 1))) (gL : GV X "LESS" (frD (-1, 1))) {ds : List Dt} (h : p_first_gaps ds η Q0) :
    ASs X (defBody s_first_gaps) (ds.map some ++ List.replicate 4 none) η (ends Q0) := by
  have V0 := v_first_gaps
  obtain ⟨T, V, rfl, h⟩ := h
  refine as_cons (as_asg ?_)
  repeat walk_at "e"
  repeat walk_at "t"
  refine as_cons (as_if (at_ne A ?_))
  repeat walk_at "e"
  refine subD_tup (tab_t0 V) ?_
  repeat walk_at "e"
  refine ⟨cmpr_of rfl rfl, fun z => ?_, fun z => ?_⟩
  · have z' : T.r 0 ≠ 0 := fun e => z (by rw [e]; rfl)
    refine as_cons ?_
    walk_at "set"
    repeat walk_at "e"
    refine subD_tup (tab_t0 V) ?_
    refine as_one (as_ret ?_)
    repeat walk_at "e"
    refine subD_tup (tab_t V (vr_lt V V.pos)) ?_
    repeat walk_at "e"
    intro p hp
    refine ⟨_, Sub.refl, ?_⟩
    have := h p hp
    rw [firstG, if_pos z'] at this
    exact this
  · have z' : ¬ T.r 0 ≠ 0 := fun e => e (by
      have : ((T.r 0 : Nat) : Int) = 0 := Dt.int.inj z
      omega)
    refine as_nil ?_
    refine as_cons ?_
    walk_at "set"
    repeat walk_at "e"
    refine subD_tup (tab_h0 V) ?_
    refine as_cons ?_
    walk_at "set"
    repeat walk_at "e"
    refine subD_tup (tab_t V (vs_lt V V.pos)) ?_
    refine as_one (as_ret ?_)
    repeat walk_at "e"
    refine subD_tup (tab_t V (vr_lt V (vs_lt V V.pos))) ?_
    repeat walk_at "e"
    intro p hp
    refine ⟨_, Sub.refl, ?_⟩
    have := h p hp
    rw [firstG, if_neg z'] at this
    exact this
end FgA
namespace FgA
open PySem PySem.Spec PyProof.Rows L2 Fg
local macro_rules | `(tactic| walk_at "n") => `(tactic| (refine is_name ?_; first
  | refine ae_nameV (by assumption) (by assumption) rfl rfl ?_
  | refine ae_glob (by assumption) (by assumption) ?_
  | refine ae_nameB (by assumption) rfl ?_))
local macro_rules | `(tactic| walk_at "set") => `(tactic| (refine is_set ?_; refine as_setV (by assumption) (by assumption) (by assumption) rfl ?_))
local macro_rules | `(tactic| walk_at "t") => `(tactic| first
  | (refine is_tgt ?_; refine ag_nameV (by assumption) (by assumption) (by assumption) rfl ?_)
  | refine ag_tup2 (by assumption) ?_
  | refine ag_tup3 (by assumption) ?_
  | refine ag_tup4 (by assumption) ?_)
local macro_rules | `(tactic| walk_at "e") => `(tactic| first
  | walk_at "n"
  | refine ae_int ?_
  | refine ae_str ?_
  | refine ae_sub' ?_
  | refine aa_cons ?_
  | refine aa_nil ?_
  | refine ae_add ?_
  | refine ae_sub ?_
  | refine ae_mul ?_
  | refine ae_mod ?_
  | refine ae_fdiv ?_
  | refine ae_tup ?_
  | refine ae_lst ?_
  | refine ae_slice ?_
  | refine ae_bl ?_
  | refine ae_non ?_
  | refine ae_len (by assumption) (by assumption) ?_
  | refine ae_abs (by assumption) (by assumption) ?_
  | refine ae_call (by assumption) (by assumption) ?_
  | refine addD_int ?_
  | (refine is_ii ?_; refine iiT trivial ?_)
  | refine szl_and rfl ?_
  | (refine is_sub ?_; first | refine subD_tup (ix0 rfl) ?_ | refine subD_tup (ix1 rfl) ?_ | refine subD_tup (ix2 rfl) ?_ | refine subD_tup (ix3 rfl) ?_))
local macro_rules | `(tactic| walk_at "h") => `(tactic| first
  | assumption
  | exact up_same
  | (refine up_new (by assumption) ?_; walk_at "h")
  | (refine up_old (by assumption) ?_; walk_at "h")
  | (refine up_old (Ne.symm (by assumption)) ?_; walk_at "h"))
local macro_rules | `(tactic| walk_at "f") => `(tactic| first
  | assumption
  | (apply free_up; walk_at "f"))
local macro_rules | `(tactic| walk_at "sub") => `(tactic| first
  | exact Sub.refl
  | (refine sub_both ?_; walk_at "sub")
  | (refine sub_new (by assumption) ?_; walk_at "sub"))
variable {X : Cx} {η : Eta} {Q0 : Dt → Eta → Prop}
theorem cut_to {α : Type} (l : List α) {i : Nat} (h : i ≤ l.length) : cutD l none (some (i : Int)) = l.take i := by
  unfold cutD
  rw [HT.sIx_none, HT.sIx_nat, List.drop_zero, Nat.min_eq_left h, Nat.sub_zero]
theorem cut_from {α : Type} (l : List α) {i : Nat} (h : i ≤ l.length) : cutD l (some (i : Int)) none = l.drop i := by
  unfold cutD
  rw [HT.sIx_none, HT.sIx_nat, Nat.min_eq_left h, List.take_of_length_le (by rw [List.length_drop]; omega)]
theorem emod_nat (i n : Nat) (h : 0 < n) : Int.fmod (i : Int) (n : Int) = ((i % n : Nat) : Int) := by
  rw [Int.fmod_eq_emod_of_nonneg _ (by omega)]; simp
theorem gap_next {a g : GapL} {u : Fr} {p : Nat} (hf : hdF (a ++ (u, p) :: g) = inf) : ∃ x, ((a ++ (u, p) :: g).map gapD)[(a.length + 1) % (a ++ (u, p) :: g).length]? = some (gapD x) ∧ x.1 = hdF g := by
  cases g with
  | nil =>
    have e : (a.length + 1) % (a ++ [(u, p)]).length = 0 := by
      rw [List.length_append]; exact Nat.mod_self _
    rw [e]
    cases a with
    | nil => exact ⟨(u, p), rfl, hf⟩
    | cons y r => exact ⟨y, rfl, hf⟩
  | cons y r =>
    have e : (a.length + 1) % (a ++ (u, p) :: y :: r).length = a.length + 1 := by
      apply Nat.mod_eq_of_lt; simp
    rw [e]
    refine ⟨y, ?_, rfl⟩
    rw [List.getElem?_map, List.getElem?_append_right (by omega)]
    simp
def p_opened : ASp := fun ds η Q => ∃ (T : Tab) (a g : GapL) (u : Fr) (p : Nat) (r : Addr), Valid T ∧ ds = [tabD T, .ref r, .int (a.length : Int)] ∧ η r = some (.lst ((a ++ (u, p) :: g).map gapD)) ∧ hdF (a ++ (u, p) :: g) = inf ∧ p < T.n ∧ EdgeOk u (hdF g) ∧ (a ++ (u, p) :: g).length ≤ 1000 ∧
  ∀ s, η s = none → Q (.ref s) (up η s (.lst ((a ++ openL u (T.r (T.s p)) (T.r (T.r (T.s p))) g).map gapD)))
theorem b_opened (A : At X n_opened (defScope s_opened) 3) (B : Bt X) (hf : ∀ y, X.fn y = true) (f1 : FX X "between" 3 2 p_between) {ds : List Dt} (h : p_opened ds η Q0) :
    ASs X (defBody s_opened) (ds.map some ++ List.replicate 6 none) η (ends Q0) := by
  have V0 := v_opened
  obtain ⟨T, a, g, u, p, r, V, rfl, hr, hi, hp, he, hl, h⟩ := h
  have hlen : ((a ++ (u, p) :: g).map gapD).length = a.length + 1 + g.length := by simp; omega
  have hat : ((a ++ (u, p) :: g).map gapD)[a.length]? = some (gapD (u, p)) := by
    rw [List.getElem?_map, List.getElem?_append_right (by omega)]; simp
  refine as_cons (as_asg ?_)
  repeat walk_at "e"
  repeat walk_at "t"
  refine as_cons (as_asg ?_)
  repeat walk_at "e"
  refine subD_lst hr (atN hat) ?_
  repeat walk_at "t"
  refine as_cons ?_
  walk_at "set"
  repeat walk_at "e"
  refine len_l hr (by rw [hlen]; simp at hl; omega) ?_
  refine iiT (by rw [hlen]; omega) ?_
  obtain ⟨x, hx1, hx2⟩ := gap_next hi
  have e1 : Int.fmod ((a.length : Int) + 1) ((((a ++ (u, p) :: g).map gapD).length : Nat) : Int) = (((a.length + 1) % (a ++ (u, p) :: g).length : Nat) : Int) := by
    rw [List.length_map, ← emod_nat _ _ (by simp; omega)]; rfl
  rw [e1]
  refine subD_lst hr (atN hx1) ?_
  repeat walk_at "e"
  rw [hx2]
  refine as_cons ?_
  walk_at "set"
  repeat walk_at "e"
  refine subD_tup (tab_h V hp) ?_
  refine subD_tup (tab_t V (vs_lt V hp)) ?_
  refine as_one (as_ret ?_)
  repeat walk_at "e"
  refine ⟨a.length, rfl, ?_⟩
  refine ⟨r, _, rfl, hr, fun s1 hs1 => ?_⟩
  rw [cut_to _ (by rw [hlen]; omega)]
  repeat walk_at "e"
  refine ⟨rfl, u, hdF g, rfl, he, ?_⟩
  repeat walk_at "e"
  refine subD_tup (tab_t V (vr_lt V (vs_lt V hp))) ?_
  repeat walk_at "e"
  intro s2 hs2
  refine addD_lst (by walk_at "h") (by walk_at "h") (szl (Nat.ble_eq.mpr (by simp at hl ⊢; omega))) fun s3 hs3 => ?_
  repeat walk_at "e"
  refine ⟨a.length + 1, rfl, r, _, rfl, (by walk_at "h"), fun s4 hs4 => ?_⟩
  rw [← Int.natCast_succ, cut_from _ (by rw [hlen]; omega)]
  refine addD_lst (by walk_at "h") (by walk_at "h") (szl (Nat.ble_eq.mpr (by simp at hl ⊢; omega))) fun s5 hs5 => ?_
  refine ⟨_, ?_, h s5 (by walk_at "f")⟩
  have e3 : List.take a.length (List.map gapD (a ++ (u, p) :: g)) ++ [Dt.tup [frD (u, p).1, nD (T.r (T.s (u, p).2))], Dt.tup [frD (mid u (hdF g)), nD (T.r (T.r (T.s (u, p).2)))]] ++ List.drop (a.length + 1) (List.map gapD (a ++ (u, p) :: g)) = (a ++ openL u (T.r (T.s p)) (T.r (T.r (T.s p))) g).map gapD := by
    rw [← List.map_take, ← List.map_drop]
    simp [openL, gapD, List.take_append, List.drop_append]
  rw [e3]
  walk_at "sub"
end FgA
namespace FgA
open PySem PySem.Spec PyProof.Rows L2 Fg
local macro_rules | `(tactic| walk_at "n") => `(tactic| (refine is_name ?_; first
  | refine ae_nameV (by assumption) (by assumption) rfl rfl ?_
  | refine ae_glob (by assumption) (by assumption) ?_
  | refine ae_nameB (by assumption) rfl ?_))
local macro_rules | `(tactic| walk_at "set") => `(tactic| (refine is_set ?_; refine as_setV (by assumption) (by assumption) (by assumption) rfl ?_))
local macro_rules | `(tactic| walk_at "t") => `(tactic| first
  | (refine is_tgt ?_; refine ag_nameV (by assumption) (by assumption) (by assumption) rfl ?_)
  | refine ag_tup2 (by assumption) ?_
  | refine ag_tup3 (by assumption) ?_
  | refine ag_tup4 (by assumption) ?_)
local macro_rules | `(tactic| walk_at "e") => `(tactic| first
  | walk_at "n"
  | refine ae_int ?_
  | refine ae_str ?_
  | refine ae_sub' ?_
  | refine aa_cons ?_
  | refine aa_nil ?_
  | refine ae_add ?_
  | refine ae_sub ?_
  | refine ae_mul ?_
  | refine ae_mod ?_
  | refine ae_fdiv ?_
  | refine ae_tup ?_
  | refine ae_lst ?_
  | refine ae_slice ?_
  | refine ae_bl ?_
  | refine ae_non ?_
  | refine ae_len (by assumption) (by assumption) ?_
  | refine ae_abs (by assumption) (by assumption) ?_
  | refine ae_call (by assumption) (by assumption) ?_
  | refine addD_int ?_
  | (refine is_ii ?_; refine iiT trivial ?_)
  | refine szl_and rfl ?_
  | (refine is_sub ?_; first | refine subD_tup (ix0 rfl) ?_ | refine subD_tup (ix1 rfl) ?_ | refine subD_tup (ix2 rfl) ?_ | refine subD_tup (ix3 rfl) ?_))
local macro_rules | `(tactic| walk_at "h") => `(tactic| first
  | assumption
  | exact up_same
  | (refine up_new (by assumption) ?_; walk_at "h")
  | (refine up_old (by assumption) ?_; walk_at "h")
  | (refine up_old (Ne.symm (by assumption)) ?_; walk_at "h"))
local macro_rules | `(tactic| walk_at "f") => `(tactic| first
  | assumption
  | (apply free_up; walk_at "f"))
local macro_rules | `(tactic| walk_at "sub") => `(tactic| first
  | exact Sub.refl
  | (refine sub_both ?_; walk_at "sub")
  | (refine sub_new (by assumption) ?_; walk_at "sub"))
variable {X : Cx} {η : Eta} {Q0 : Dt → Eta → Prop}
/-- the places that a dict of whole numbers holds -/
def Holds (kvs : List (Key × Dt)) (U : List Nat) : Prop := ∀ x : Nat, lkA kvs (Sum.inl (x : Int)) ≠ none ↔ x ∈ U
theorem nD_inj {a b : Nat} (h : nD a = nD b) : a = b := by
  have : (a : Int) = b := Dt.int.inj h
  omega
theorem okd_nD (n : Nat) (a : Nat) : okd n (nD a) = true := by cases n <;> rfl
/-- no gap is left to be opened -/
def Shut (T : Tab) (g : GapL) (U : List Nat) : Prop := ∀ p ∈ places g, T.r (T.s p) = T.s p ∨ T.s p ∈ U
/-- what gap_to_open tells -/
def IsI (T : Tab) (g : GapL) (U : List Nat) (d : Dt) : Prop := (d = .non ∧ Shut T g U) ∨ ∃ (a b : GapL) (v : Fr) (p : Nat), d = .int (a.length : Int) ∧ g = a ++ (v, p) :: b ∧ T.r (T.s p) ≠ T.s p ∧ T.s p ∉ U
def p_gap_to_open : ASp := fun ds η Q => ∃ (T : Tab) (g : GapL) (r u : Addr) (kvs : List (Key × Dt)) (U : List Nat), Valid T ∧ ds = [tabD T, .ref r, .ref u] ∧ η r = some (.lst (g.map gapD)) ∧ η u = some (.dic kvs) ∧ Holds kvs U ∧ (∀ x ∈ places g, x < T.n) ∧
  ∀ d, IsI T g U d → Q d η
theorem b_gap_to_open (A : At X n_gap_to_open (defScope s_gap_to_open) 0) (B : Bt X) (hf : ∀ y, X.fn y = true) {ds : List Dt} (h : p_gap_to_open ds η Q0) :
    ASs X (defBody s_gap_to_open) (ds.map some ++ List.replicate 6 none) η (ends Q0) := by
  have V0 := v_gap_to_open
  obtain ⟨T, g, r, u, kvs, U, V, rfl, hr, hu, hU, hlt, h0⟩ := h
  have h1 : ∀ (a b : GapL) (v : Fr) (p : Nat), g = a ++ (v, p) :: b → T.r (T.s p) ≠ T.s p → T.s p ∉ U → Q0 (.int (a.length : Int)) η := fun a b v p e c1 c2 => h0 _ (.inr ⟨a, b, v, p, rfl, e, c1, c2⟩)
  have h2 : Shut T g U → Q0 .non η := fun hs => h0 _ (.inl ⟨rfl, hs⟩)
  refine as_cons (as_asg ?_)
  repeat walk_at "e"
  repeat walk_at "t"
  refine as_cons (as_for A (ai_enum A B ?_))
  repeat walk_at "e"
  refine ⟨r, _, rfl, hr, fun i ρ η' => η' = η ∧ (∃ x y z t, ρ = [some (tabD T), some (.ref r), some (.ref u), some (.tup (T.hs.map nD)), some (.tup (T.ts.map nD)), x, y, z, t]) ∧ ∀ j, j < i → ∀ x, g[j]? = some x → T.r (T.s x.2) = T.s x.2 ∨ T.s x.2 ∈ U, ?_, ?_, ?_, ?_⟩
  · exact ⟨rfl, ⟨none, none, none, none, rfl⟩, fun j hj => absurd hj (Nat.not_lt_zero _)⟩
  · rintro i ρ η' _ ⟨rfl, _⟩; exact hr
  · rintro i d ρ η' hi ⟨y, hy, rfl⟩ ⟨rfl, ⟨x1, x2, x3, x4, rfl⟩, hp⟩
    rw [List.length_map] at hi
    obtain ⟨⟨v, p⟩, hg⟩ : ∃ x, g[i]? = some x := ⟨g[i], List.getElem?_eq_getElem hi⟩
    rw [List.getElem?_map, hg] at hy
    cases hy
    have hpn : p < T.n := hlt p (List.mem_map_of_mem (List.mem_of_getElem? hg))
    repeat walk_at "t"
    refine as_cons ?_
    walk_at "set"
    repeat walk_at "e"
    refine subD_tup (tab_h V hpn) ?_
    refine as_one (as_if (at_bool (aw_and (at_ne A ?_))))
    repeat walk_at "e"
    refine subD_tup (tab_t V (vs_lt V hpn)) ?_
    repeat walk_at "e"
    have nxt : (T.r (T.s p) = T.s p ∨ T.s p ∈ U) → ∀ j, j < i + 1 → ∀ x, g[j]? = some x → T.r (T.s x.2) = T.s x.2 ∨ T.s x.2 ∈ U := by
      intro hc j hj x hx
      by_cases e : j = i
      · subst e; rw [hg] at hx; cases hx; exact hc
      · exact hp j (by omega) x hx
    refine ⟨cmpr_of (okd_nD _ _) (okd_nD _ _), fun z => ?_, fun z => ?_⟩
    · refine aw_and1 (at_dnotin A ?_)
      repeat walk_at "e"
      refine ⟨u, kvs, _, rfl, hu, rfl, fun z2 => ?_, fun z2 => ?_⟩
      · refine as_one (as_ret ?_)
        repeat walk_at "e"
        have hs : g = g.take i ++ (v, p) :: g.drop (i + 1) := by
          obtain ⟨hl, he⟩ := List.getElem?_eq_some_iff.mp hg
          rw [← he, List.getElem_cons_drop, List.take_append_drop]
        have := h1 _ _ _ _ hs (fun e => z (by rw [e])) (fun m => (hU _).mpr m z2)
        rw [List.length_take, Nat.min_eq_left (Nat.le_of_lt hi)] at this
        exact ⟨_, Sub.refl, this⟩
      · refine as_nil ⟨rfl, ⟨_, _, _, _, rfl⟩, nxt (.inr ((hU _).mp z2))⟩
    · refine as_nil ⟨rfl, ⟨_, _, _, _, rfl⟩, nxt (.inl (nD_inj z))⟩
  · rintro ρ η' ⟨rfl, _, hp⟩
    refine as_one (as_ret ?_)
    repeat walk_at "e"
    refine ⟨_, Sub.refl, h2 fun p hp' => ?_⟩
    obtain ⟨x, hx, rfl⟩ := List.mem_map.mp hp'
    obtain ⟨j, hj⟩ := List.getElem?_of_mem hx
    exact hp j (by rw [List.length_map]; exact (List.getElem?_eq_some_iff.mp hj).1) x hj
end FgA
namespace FgA
open PySem PySem.Spec PyProof.Rows L2 Fg
local macro_rules | `(tactic| walk_at "n") => `(tactic| (refine is_name ?_; first
  | refine ae_nameV (by assumption) (by assumption) rfl rfl ?_
  | refine ae_glob (by assumption) (by assumption) ?_
  | refine ae_nameB (by assumption) rfl ?_))
local macro_rules | `(tactic| walk_at "set") => `(tactic| (refine is_set ?_; refine as_setV (by assumption) (by assumption) (by assumption) rfl ?_))
local macro_rules | `(tactic| walk_at "t") => `(tactic| first
  | (refine is_tgt ?_; refine ag_nameV (by assumption) (by assumption) (by assumption) rfl ?_)
  | refine ag_tup2 (by assumption) ?_
  | refine ag_tup3 (by assumption) ?_
  | refine ag_tup4 (by assumption) ?_)
local macro_rules | `(tactic| walk_at "e") => `(tactic| first
  | walk_at "n"
  | refine ae_int ?_
  | refine ae_str ?_
  | refine ae_sub' ?_
  | refine aa_cons ?_
  | refine aa_nil ?_
  | refine ae_add ?_
  | refine ae_sub ?_
  | refine ae_mul ?_
  | refine ae_mod ?_
  | refine ae_fdiv ?_
  | refine ae_tup ?_
  | refine ae_lst ?_
  | refine ae_slice ?_
  | refine ae_bl ?_
  | refine ae_non ?_
  | refine ae_len (by assumption) (by assumption) ?_
  | refine ae_abs (by assumption) (by assumption) ?_
  | refine ae_call (by assumption) (by assumption) ?_
  | refine addD_int ?_
  | (refine is_ii ?_; refine iiT trivial ?_)
  | refine szl_and rfl ?_
  | (refine is_sub ?_; first | refine subD_tup (ix0 rfl) ?_ | refine subD_tup (ix1 rfl) ?_ | refine subD_tup (ix2 rfl) ?_ | refine subD_tup (ix3 rfl) ?_))
local macro_rules | `(tactic| walk_at "h") => `(tactic| first
  | assumption
  | exact up_same
  | (refine up_new (by assumption) ?_; walk_at "h")
  | (refine up_old (by assumption) ?_; walk_at "h")
  | (refine up_old (Ne.symm (by assumption)) ?_; walk_at "h"))
local macro_rules | `(tactic| walk_at "f") => `(tactic| first
  | assumption
  | (apply free_up; walk_at "f"))
local macro_rules | `(tactic| walk_at "sub") => `(tactic| first
  | exact Sub.refl
  | (refine sub_both ?_; walk_at "sub")
  | (refine sub_new (by assumption) ?_; walk_at "sub"))
variable {X : Cx} {η : Eta} {Q0 : Dt → Eta → Prop}
def p_all_gaps : ASp := fun ds η Q => ∃ T : Tab, Valid T ∧ 3 ≤ T.n ∧ T.n ≤ 200 ∧ ds = [tabD T] ∧ ∀ (g : GapL) (U : List Nat) (k : Nat) (tw : Nat → Wd), GI T g U k tw → Shut T g U → ∀ s, η s = none → Q (.ref s) (up η s (.lst (g.map gapD)))
theorem holds_put {kvs : List (Key × Dt)} {U : List Nat} {x : Nat} {v : Dt} (h : Holds kvs U) : Holds (putA kvs (Sum.inl (x : Int)) v) (U ++ [x]) := by
  intro y
  rw [lkA_put]
  by_cases e : y = x
  · subst e; simp
  · rw [if_neg (fun z => e (by have := Sum.inl.inj z; omega)), h y]; simp [e]
theorem put_len_le {kvs : List (Key × Dt)} {k : Key} {v : Dt} {n : Nat} (h : kvs.length ≤ n) : (putA kvs k v).length ≤ n + 1 := Nat.le_trans put_len (by omega)
theorem mergeA_len {α : Type} : ∀ (more kvs : List (Key × α)), (mergeA kvs more).length ≤ kvs.length + more.length
  | [], kvs => by simp [mergeA]
  | a :: r, kvs => by
    show (mergeA (putA kvs a.1 a.2) r).length ≤ _
    have := mergeA_len r (putA kvs a.1 a.2)
    have := put_len (kvs := kvs) (k := a.1) (v := a.2)
    simp only [List.length_cons]; omega
theorem holds_first (ps : List Nat) : Holds (mergeA [] (ps.map fun p : Nat => ((Sum.inl (p : Int) : Key), Dt.bl true))) ps := by
  intro x
  rw [lkA_merge, lkA_nil, Option.or_none, Ne, lkA_none]
  simp only [List.map_reverse, List.map_map, List.mem_reverse, List.mem_map, Function.comp, Classical.not_not]
  constructor
  · rintro ⟨a, ha, e⟩
    have : a = x := by have := Sum.inl.inj e; omega
    exact this ▸ ha
  · exact fun h => ⟨x, h, rfl⟩
theorem GI.short {T : Tab} {g : GapL} {U : List Nat} {k : Nat} {tw : Nat → Wd} (h : GI T g U k tw) (h200 : T.n ≤ 200) : g.length ≤ 100 := by
  have := h.few; have := h.gl; omega
theorem ch_split {tw : Nat → Wd} {u : Fr} {p : Nat} {g : GapL} : ∀ (a : GapL), Chain tw (a ++ (u, p) :: g) → EdgeOk u (hdF g)
  | [], h => h.1
  | (_, _) :: r, h => ch_split r h.2.2
theorem firstG_len (T : Tab) : (firstG T).length = 3 := by unfold firstG; split <;> rfl
theorem first_lt {T : Tab} (V : Valid T) : ∀ x ∈ places (firstG T), x < T.n := by
  unfold firstG places
  split
  · simp only [List.map_cons, List.map_nil, List.mem_cons, List.not_mem_nil, or_false]
    rintro x (rfl | rfl | rfl)
    · exact V.pos
    · exact vr_lt V V.pos
    · exact vr_lt V (vr_lt V V.pos)
  · simp only [List.map_cons, List.map_nil, List.mem_cons, List.not_mem_nil, or_false]
    rintro x (rfl | rfl | rfl)
    · exact vr_lt V (vs_lt V V.pos)
    · exact vr_lt V (vr_lt V (vs_lt V V.pos))
    · exact vs_lt V V.pos
theorem b_all_gaps (A : At X n_all_gaps (defScope s_all_gaps) 4) (B : Bt X) (hf : ∀ y, X.fn y = true) (f1 : FX X "first_gaps" 1 1 p_first_gaps) (f2 : FX X "gap_to_open" 1 3 p_gap_to_open) (f3 : FX X "opened" 4 3 p_opened) {ds : List Dt} (h : p_all_gaps ds η Q0) :
    ASs X (defBody s_all_gaps) (ds.map some ++ List.replicate 8 none) η (ends Q0) := by
  have V0 := v_all_gaps
  obtain ⟨T, V, h3, h200, rfl, h⟩ := h
  refine as_cons (as_asg ?_)
  repeat walk_at "e"
  repeat walk_at "t"
  refine as_cons ?_
  walk_at "set"
  repeat walk_at "e"
  refine ⟨rfl, T, V, rfl, fun p1 hp1 => ?_⟩
  refine as_cons ?_
  walk_at "set"
  refine ae_dict A B (ae_lc2 A (ai_list ?_))
  repeat walk_at "e"
  refine ⟨p1, _, rfl, up_same, by rw [List.length_map, firstG_len]; decide, fun η η' s e => s _ _ e, up_same, fun j e => ∃ x, (firstG T)[j]? = some x ∧ e = .tup [nD x.2, .bl true], ?_, ?_⟩
  · intro m d D acc X' hm hd hD hl A' b
    rw [List.getElem?_map] at hd
    obtain ⟨x, hx, rfl⟩ := Option.map_eq_some_iff.mp hd
    refine ⟨_, _, rfl, ?_⟩
    repeat walk_at "e"
    exact ⟨Sub.refl, x, hx, rfl⟩
  · intro D acc hD hl hF
    have hacc : acc = ((places (firstG T)).map fun p : Nat => ((Sum.inl (p : Int) : Key), Dt.bl true)).map fun kv => .tup [keyDt kv.1, kv.2] := by
      apply List.ext_getElem?
      intro j
      by_cases hj : j < acc.length
      · rw [List.getElem?_eq_getElem hj]
        obtain ⟨x, hx, e⟩ := hF j _ (List.getElem?_eq_getElem hj)
        rw [e, List.map_map]
        unfold places
        rw [List.map_map, List.getElem?_map, hx]
        rfl
      · rw [List.getElem?_eq_none (by omega), List.getElem?_eq_none (by simp [places]; rw [List.length_map] at hl; omega)]
    refine ⟨D, _, rfl, by rw [hacc]; exact up_same, fun p2 hp2 => ?_⟩
    have hU := holds_first (places (firstG T))
    obtain ⟨tw, hGI⟩ := first_ok V h3
    refine as_cons ?_
    walk_at "set"
    repeat walk_at "e"
    refine ⟨rfl, T, firstG T, p1, p2, _, _, V, rfl, (by walk_at "h"), up_same, hU, first_lt V, fun d0 hI => ?_⟩
    refine as_cons ?_
    refine as_while A (fun m ρ η' => ∃ (g : GapL) (U : List Nat) (k : Nat) (tw : Nat → Wd) (r u : Addr) (kvs : List (Key × Dt)) (d : Dt) (x6 x7 x8 : Option Dt), ρ = [some (tabD T), some (.tup (T.hs.map nD)), some (.tup (T.ts.map nD)), some (.ref r), some (.ref u), some d, x6, x7, x8] ∧ Sub η η' ∧ η r = none ∧ η u = none ∧ r ≠ u ∧ η' r = some (.lst (g.map gapD)) ∧ η' u = some (.dic kvs) ∧ Holds kvs U ∧ kvs.length ≤ 3 * k ∧ GI T g U k tw ∧ IsI T g U d ∧ m = T.n - 3 * k) (T.n - 3) ?_ ?_
    · refine ⟨firstG T, places (firstG T), 1, tw, p1, p2, _, d0, none, none, none, rfl, ?_, hp1, (by walk_at "f"), ?_, (by walk_at "h"), up_same, hU, ?_, hGI, hI, rfl⟩
      · walk_at "sub"
      · exact (ne_at hp2 (up_new hD up_same)).symm
      · refine Nat.le_trans (mergeA_len _ _) ?_
        simp [places, firstG_len]
    · rintro m ρ η' ⟨g, U, k, tw, r, u, kvs, d, x6, x7, x8, rfl, hsub, hr0, hu0, hru, hr, hu, hH, hkl, hG, hI, hm⟩
      have hfew := hG.few
      refine at_notN ?_
      repeat walk_at "e"
      refine ⟨fun hd => ?_, fun hd => ?_⟩
      · rcases hI with ⟨e, _⟩ | ⟨a, b, v, p, rfl, rfl, c1, c2⟩
        · exact absurd e hd
        have hpU : p ∈ U := hG.sub p (by simp [places])
        have hpn : p < T.n := hG.ub p hpU
        have hat : ((a ++ (v, p) :: b).map gapD)[a.length]? = some (gapD (v, p)) := by
          rw [List.getElem?_map, List.getElem?_append_right (by omega)]; simp
        obtain ⟨tw', hG'⟩ := open_ok V hG c1 c2
        refine as_cons ?_
        walk_at "set"
        repeat walk_at "e"
        refine subD_lst hr (atN hat) ?_
        repeat walk_at "e"
        refine subD_tup (tab_h V hpn) ?_
        refine as_cons (as_for A (ai_tup ?_))
        repeat walk_at "e"
        refine subD_tup (tab_t V (vs_lt V hpn)) ?_
        repeat walk_at "e"
        refine subD_tup (tab_t V (vs_lt V hpn)) ?_
        refine subD_tup (tab_t V (vr_lt V (vs_lt V hpn))) ?_
        repeat walk_at "e"
        have hnew : ∀ i d, i < 3 → [nD (T.s p), nD (T.r (T.s p)), nD (T.r (T.r (T.s p)))][i]? = some d → ∃ x, d = nD x ∧ U ++ [T.s p, T.r (T.s p), T.r (T.r (T.s p))].take (i + 1) = (U ++ [T.s p, T.r (T.s p), T.r (T.r (T.s p))].take i) ++ [x] := by
          intro i d hi hd
          match i, hi with
          | 0, _ => cases hd; exact ⟨_, rfl, by simp⟩
          | 1, _ => cases hd; exact ⟨_, rfl, by simp⟩
          | 2, _ => cases hd; exact ⟨_, rfl, by simp⟩
        refine ⟨_, rfl, fun i ρ2 η2 => ∃ kv2 x, ρ2 = [some (tabD T), some (.tup (T.hs.map nD)), some (.tup (T.ts.map nD)), some (.ref r), some (.ref u), some (.int (a.length : Int)), some (nD (T.s p)), x, x8] ∧ Sub η η2 ∧ η2 r = some (.lst ((a ++ (v, p) :: b).map gapD)) ∧ η2 u = some (.dic kv2) ∧ Holds kv2 (U ++ [T.s p, T.r (T.s p), T.r (T.r (T.s p))].take i) ∧ kv2.length ≤ 3 * k + i, ?_, ?_, ?_, ?_⟩
        · exact ⟨kvs, x7, rfl, hsub, hr, hu, by simpa using hH, hkl⟩
        · intros; trivial
        · rintro i d ρ2 η2 hi hd ⟨kv2, x, rfl, s2, hr2, hu2, hH2, hl2⟩
          obtain ⟨y, rfl, e2⟩ := hnew i d hi hd
          repeat walk_at "t"
          refine as_one (as_asg ?_)
          repeat walk_at "e"
          refine ag_sub A ?_
          repeat walk_at "e"
          have hi' : i < 3 := hi
          refine ⟨u, _, _, rfl, hu2, .dic (by omega), ⟨_, _, rfl, ?_, ?_, up_same, ?_, ?_⟩⟩
          · exact s2.up' hu0
          · exact up_old hru hr2
          · rw [e2]; exact holds_put hH2
          · have := put_len_le (k := Sum.inl (y : Int)) (v := Dt.bl true) hl2
            omega
        · rintro ρ2 η2 ⟨kv2, x, rfl, s2, hr2, hu2, hH2, hl2⟩
          have hl2' : kv2.length ≤ 3 * (k + 1) := hl2
          have hH2' : Holds kv2 (U ++ [T.s p, T.r (T.s p), T.r (T.r (T.s p))]) := hH2
          refine as_cons ?_
          walk_at "set"
          repeat walk_at "e"
          refine ⟨rfl, T, a, b, v, p, r, V, rfl, hr2, hG.fst.1, hpn, ch_split a hG.ch, Nat.le_trans (GI.short hG h200) (Nat.le_of_ble_eq_true rfl), fun s hs => ?_⟩
          have hs0 : η s = none := by
            cases z : η s with
            | none => rfl
            | some w => rw [s2 _ _ z] at hs; cases hs
          refine as_one ?_
          walk_at "set"
          repeat walk_at "e"
          refine ⟨rfl, T, _, s, u, kv2, _, V, rfl, up_same, up_new hs hu2, hH2', fun x hx => hG'.ub x (hG'.sub x hx), fun d' hI' => ?_⟩
          have hf' := hG'.few
          exact ⟨T.n - 3 * (k + 1), by omega, _, _, k + 1, tw', s, u, kv2, d', _, _, _, rfl, sub_new hs s2, hs0, hu0, ne_at hs hu2, up_same, up_new hs hu2, hH2', hl2', hG', hI', rfl⟩
      · subst hd
        rcases hI with ⟨_, hs⟩ | ⟨a, b, v, p, e, _⟩
        · refine as_one (as_ret ?_)
          repeat walk_at "e"
          refine ⟨up η r (.lst (g.map gapD)), fun q m hq => ?_, h g U k tw hG hs r hr0⟩
          by_cases e : q = r
          · subst e; rw [up_same] at hq; cases hq; exact hr
          · rw [up_ne e] at hq; exact hsub q m hq
        · cases e
end FgA
namespace FgA
open PySem PySem.Spec PyProof.Rows L2 Fg
local macro_rules | `(tactic| walk_at "n") => `(tactic| (refine is_name ?_; first
  | refine ae_nameV (by assumption) (by assumption) rfl rfl ?_
  | refine ae_glob (by assumption) (by assumption) ?_
  | refine ae_nameB (by assumption) rfl ?_))
local macro_rules | `(tactic| walk_at "set") => `(tactic| (refine is_set ?_; refine as_setV (by assumption) (by assumption) (by assumption) rfl ?_))
local macro_rules | `(tactic| walk_at "t") => `(tactic| first
  | (refine is_tgt ?_; refine ag_nameV (by assumption) (by assumption) (by assumption) rfl ?_)
  | refine ag_tup2 (by assumption) ?_
  | refine ag_tup3 (by assumption) ?_
  | refine ag_tup4 (by assumption) ?_)
local macro_rules | `(tactic| walk_at "e") => `(tactic| first
  | walk_at "n"
  | refine ae_int ?_
  | refine ae_str ?_
  | refine ae_sub' ?_
  | refine aa_cons ?_
  | refine aa_nil ?_
  | refine ae_add ?_
  | refine ae_sub ?_
  | refine ae_mul ?_
  | refine ae_mod ?_
  | refine ae_fdiv ?_
  | refine ae_tup ?_
  | refine ae_lst ?_
  | refine ae_slice ?_
  | refine ae_bl ?_
  | refine ae_non ?_
  | refine ae_len (by assumption) (by assumption) ?_
  | refine ae_abs (by assumption) (by assumption) ?_
  | refine ae_call (by assumption) (by assumption) ?_
  | refine addD_int ?_
  | (refine is_ii ?_; refine iiT trivial ?_)
  | refine szl_and rfl ?_
  | (refine is_sub ?_; first | refine subD_tup (ix0 rfl) ?_ | refine subD_tup (ix1 rfl) ?_ | refine subD_tup (ix2 rfl) ?_ | refine subD_tup (ix3 rfl) ?_))
local macro_rules | `(tactic| walk_at "h") => `(tactic| first
  | assumption
  | exact up_same
  | (refine up_new (by assumption) ?_; walk_at "h")
  | (refine up_old (by assumption) ?_; walk_at "h")
  | (refine up_old (Ne.symm (by assumption)) ?_; walk_at "h"))
local macro_rules | `(tactic| walk_at "f") => `(tactic| first
  | assumption
  | (apply free_up; walk_at "f"))
local macro_rules | `(tactic| walk_at "sub") => `(tactic| first
  | exact Sub.refl
  | (refine sub_both ?_; walk_at "sub")
  | (refine sub_new (by assumption) ?_; walk_at "sub"))
variable {X : Cx} {η : Eta} {Q0 : Dt → Eta → Prop}
def mkD : Mk → Dt
  | .half => .str "half"
  | .third => .str "third"
  | .pair j => nD j
def fanD (fr : List Fr) (mk : List Mk) : Dt := .tup [.tup (fr.map frD), .tup (mk.map mkD)]
def p_mark_of : ASp := fun ds η Q => ∃ (T : Tab) (P : List Nat) (r : Addr) (p : Nat), Valid T ∧ ds = [tabD T, .ref r, nD p] ∧ η r = some (.lst (P.map nD)) ∧ p < T.n ∧ (T.s p = p ∨ T.r (T.s p) = T.s p ∨ T.s p ∈ P) ∧ Q (mkD (markOf T P p)) η
theorem b_mark_of (A : At X n_mark_of (defScope s_mark_of) 0) (B : Bt X) (hf : ∀ y, X.fn y = true) {ds : List Dt} (h : p_mark_of ds η Q0) :
    ASs X (defBody s_mark_of) (ds.map some ++ List.replicate 3 none) η (ends Q0) := by
  have V0 := v_mark_of
  obtain ⟨T, P, r, p, V, rfl, hr, hp, hc, h⟩ := h
  refine as_cons (as_asg ?_)
  repeat walk_at "e"
  repeat walk_at "t"
  refine as_cons ?_
  walk_at "set"
  repeat walk_at "e"
  refine subD_tup (tab_h V hp) ?_
  refine as_cons (as_if (at_eq A ?_))
  repeat walk_at "e"
  refine ⟨cmpr_of (okd_nD _ _) (okd_nD _ _), fun z => ?_, fun z => ?_⟩
  · have z' := nD_inj z
    refine as_one (as_ret ?_)
    repeat walk_at "e"
    rw [markOf, if_pos z'] at h
    exact ⟨_, Sub.refl, h⟩
  have z' : ¬ T.s p = p := fun e => z (by rw [e])
  rw [markOf, if_neg z'] at h
  refine as_nil ?_
  refine as_cons (as_if (at_eq A ?_))
  repeat walk_at "e"
  refine subD_tup (tab_t V (vs_lt V hp)) ?_
  repeat walk_at "e"
  refine ⟨cmpr_of (okd_nD _ _) (okd_nD _ _), fun y => ?_, fun y => ?_⟩
  · have y' := nD_inj y
    refine as_one (as_ret ?_)
    repeat walk_at "e"
    rw [if_pos y'] at h
    exact ⟨_, Sub.refl, h⟩
  have y' : ¬ T.r (T.s p) = T.s p := fun e => y (by rw [e])
  rw [if_neg y'] at h
  have hm : T.s p ∈ P := by
    rcases hc with hc | hc | hc
    · exact absurd hc z'
    · exact absurd hc y'
    · exact hc
  have hi : P.idxOf (T.s p) < P.length := List.idxOf_lt_length_of_mem hm
  refine as_nil ?_
  refine as_one (as_ret (ae_index A ?_))
  repeat walk_at "e"
  refine ⟨isL hr, ?_⟩
  repeat walk_at "e"
  refine am_index A (j := P.idxOf (T.s p)) hr (fun y hy => ?_) (okd_nD _ _) ?_ ?_ ⟨_, Sub.refl, h⟩
  · obtain ⟨w, _, rfl⟩ := List.mem_map.mp hy
    exact okd_nD _ _
  · rw [List.getElem?_map, List.getElem?_eq_getElem hi, List.getElem_idxOf hi]; rfl
  · intro m hm' e
    rw [List.getElem?_map] at e
    obtain ⟨w, hw, e2⟩ := Option.map_eq_some_iff.mp e
    have e3 := nD_inj e2
    subst e3
    have := List.not_of_lt_findIdx (p := fun y => y == T.s p) (xs := P) (i := m) hm'
    obtain ⟨hl, he⟩ := List.getElem?_eq_some_iff.mp hw
    rw [he] at this
    simp at this
def p_fan_of : ASp := fun ds η Q => ∃ T : Tab, Valid T ∧ T.n ≤ 60 ∧ ds = [tabD T] ∧ ∀ (fr : List Fr) (mk : List Mk), FanOk T fr mk → Q (fanD fr mk) η
theorem b_fan_of (A : At X n_fan_of (defScope s_fan_of) 5) (B : Bt X) (hf : ∀ y, X.fn y = true) (gT : GV X "TWO_FRACTIONS" (.tup [frD inf, frD (0, 1)])) (f1 : FX X "all_gaps" 5 1 p_all_gaps) (f2 : FX X "mark_of" 1 3 p_mark_of) {ds : List Dt} (h : p_fan_of ds η Q0) :
    ASs X (defBody s_fan_of) (ds.map some ++ List.replicate 4 none) η (ends Q0) := by
  have V0 := v_fan_of
  obtain ⟨T, V, h60, rfl, h⟩ := h
  have hn : (T.hs.map nD).length = T.n := by rw [List.length_map]; rfl
  refine as_cons (as_if (at_eq A ?_))
  repeat walk_at "e"
  refine len_t (by omega) ?_
  repeat walk_at "e"
  refine ⟨cmpr_of rfl rfl, fun z => ?_, fun z => ?_⟩
  · have z' : T.n = 1 := by have := Dt.int.inj z; omega
    refine as_one (as_ret ?_)
    repeat walk_at "e"
    exact ⟨_, Sub.refl, h _ _ (fan_one V z')⟩
  have z' : T.n ≠ 1 := fun e => z (by rw [hn, e]; rfl)
  refine as_nil ?_
  refine as_cons (as_if (at_eq A ?_))
  repeat walk_at "e"
  refine len_t (by omega) ?_
  repeat walk_at "e"
  refine ⟨cmpr_of rfl rfl, fun y => ?_, fun y => ?_⟩
  · have y' : T.n = 2 := by have := Dt.int.inj y; omega
    refine as_one (as_ret ?_)
    repeat walk_at "e"
    exact ⟨_, Sub.refl, h _ _ (fan_two V y')⟩
  have y' : T.n ≠ 2 := fun e => y (by rw [hn, e]; rfl)
  have hpos := V.pos
  refine as_nil ?_
  refine as_cons ?_
  walk_at "set"
  repeat walk_at "e"
  refine ⟨rfl, T, V, by omega, by omega, rfl, fun g U k tw hG hS s hs => ?_⟩
  have hgl := GI.short hG (by omega)
  refine as_cons (as_setC A V0 hf rfl (ae_lc2 A (ai_list ?_)))
  repeat walk_at "e"
  refine ⟨s, _, rfl, up_same, by rw [List.length_map]; omega, fun η η' s e => s _ _ e, up_same, fun j e => ∃ x, g[j]? = some x ∧ e = nD x.2, ?_, ?_⟩
  · intro m d D acc X' hm hd hD hl A' b
    rw [List.getElem?_map] at hd
    obtain ⟨x, hx, rfl⟩ := Option.map_eq_some_iff.mp hd
    refine ⟨_, _, rfl, ?_⟩
    repeat walk_at "e"
    exact ⟨Sub.refl, x, hx, rfl⟩
  intro D acc hD hl hF
  have hacc : acc = (Fg.places g).map nD := by
    apply List.ext_getElem?
    intro j
    by_cases hj : j < acc.length
    · rw [List.getElem?_eq_getElem hj]
      obtain ⟨x, hx, e⟩ := hF j _ (List.getElem?_eq_getElem hj)
      rw [e]
      unfold Fg.places
      rw [List.map_map, List.getElem?_map, hx]
      rfl
    · rw [List.getElem?_eq_none (by omega), List.getElem?_eq_none (by simp [Fg.places]; rw [List.length_map] at hl; omega)]
  subst hacc
  have hne : s ≠ D := (ne_at hD up_same).symm
  refine as_one (as_ret ?_)
  refine ae_tup (aa_cons (ae_tuple A B (ae_lc2 A (ai_list ?_))))
  repeat walk_at "e"
  refine ⟨s, _, rfl, (by walk_at "h"), by rw [List.length_map]; omega, fun η η' s e => s _ _ e, (by walk_at "h"), fun j e => ∃ x, g[j]? = some x ∧ e = frD x.1, ?_, ?_⟩
  · intro m d D2 acc X' hm hd hD2 hl A' b
    rw [List.getElem?_map] at hd
    obtain ⟨x, hx, rfl⟩ := Option.map_eq_some_iff.mp hd
    refine ⟨_, _, rfl, ?_⟩
    repeat walk_at "e"
    exact ⟨Sub.refl, x, hx, rfl⟩
  intro D2 acc2 hD2 hl2 hF2
  have hacc2 : acc2 = (g.map (·.1)).map frD := by
    apply List.ext_getElem?
    intro j
    by_cases hj : j < acc2.length
    · rw [List.getElem?_eq_getElem hj]
      obtain ⟨x, hx, e⟩ := hF2 j _ (List.getElem?_eq_getElem hj)
      rw [e, List.map_map, List.getElem?_map, hx]
      rfl
    · rw [List.getElem?_eq_none (by omega), List.getElem?_eq_none (by simp; rw [List.length_map] at hl2; omega)]
  subst hacc2
  refine ⟨_, items_l up_same, ?_⟩
  refine aa_cons (ae_tuple A B (ae_lc1 A (ai_list ?_)))
  repeat walk_at "e"
  have hDs : up (up (up η s (.lst (g.map gapD))) D (.lst ((Fg.places g).map nD))) D2 (.lst ((g.map (·.1)).map frD)) D = some (.lst ((Fg.places g).map nD)) := by walk_at "h"
  refine ⟨D, _, rfl, hDs, by simp [Fg.places]; omega, fun η η' s e => s _ _ e, hDs, fun j e => ∃ x, (Fg.places g)[j]? = some x ∧ e = mkD (markOf T (Fg.places g) x), ?_, ?_⟩
  · intro m d D3 acc X' hm hd hD3 hl A' b
    rw [List.getElem?_map] at hd
    obtain ⟨x, hx, rfl⟩ := Option.map_eq_some_iff.mp hd
    have hxm := List.mem_of_getElem? hx
    have hxu := hG.sub x hxm
    have f2' := b.fa f2
    repeat walk_at "e"
    refine ⟨rfl, T, _, D, x, V, rfl, up_new hD3 hDs, hG.ub x hxu, ?_, Sub.refl, x, hx, rfl⟩
    rcases hS x hxm with e | e
    · exact .inr (.inl e)
    · refine .inr (.inr (Classical.byContradiction fun hn2 => ?_))
      have := (hG.inn _ e hn2).2.1
      rw [V.sys.ss x (hG.ub x hxu)] at this
      exact this hxm
  intro D3 acc3 hD3 hl3 hF3
  have hacc3 : acc3 = ((Fg.places g).map (markOf T (Fg.places g))).map mkD := by
    apply List.ext_getElem?
    intro j
    by_cases hj : j < acc3.length
    · rw [List.getElem?_eq_getElem hj]
      obtain ⟨x, hx, e⟩ := hF3 j _ (List.getElem?_eq_getElem hj)
      rw [e, List.map_map, List.getElem?_map, hx]
      rfl
    · rw [List.getElem?_eq_none (by omega), List.getElem?_eq_none (by simp; rw [List.length_map] at hl3; omega)]
  subst hacc3
  refine ⟨_, items_l up_same, ?_⟩
  repeat walk_at "e"
  refine ⟨η, by walk_at "sub", h _ _ (fan_ok V h60 hG hS)⟩
end FgA
namespace FgA
open PySem PySem.Spec PyProof.Rows L2 Fg
local macro_rules | `(tactic| walk_at "n") => `(tactic| (refine is_name ?_; first
  | refine ae_nameV (by assumption) (by assumption) rfl rfl ?_
  | refine ae_glob (by assumption) (by assumption) ?_
  | refine ae_nameB (by assumption) rfl ?_))
local macro_rules | `(tactic| walk_at "set") => `(tactic| (refine is_set ?_; refine as_setV (by assumption) (by assumption) (by assumption) rfl ?_))
local macro_rules | `(tactic| walk_at "t") => `(tactic| first
  | (refine is_tgt ?_; refine ag_nameV (by assumption) (by assumption) (by assumption) rfl ?_)
  | refine ag_tup2 (by assumption) ?_
  | refine ag_tup3 (by assumption) ?_
  | refine ag_tup4 (by assumption) ?_)
local macro_rules | `(tactic| walk_at "e") => `(tactic| first
  | walk_at "n"
  | refine ae_int ?_
  | refine ae_str ?_
  | refine ae_sub' ?_
  | refine aa_cons ?_
  | refine aa_nil ?_
  | refine ae_add ?_
  | refine ae_sub ?_
  | refine ae_mul ?_
  | refine ae_mod ?_
  | refine ae_fdiv ?_
  | refine ae_tup ?_
  | refine ae_lst ?_
  | refine ae_slice ?_
  | refine ae_bl ?_
  | refine ae_non ?_
  | refine ae_len (by assumption) (by assumption) ?_
  | refine ae_abs (by assumption) (by assumption) ?_
  | refine ae_call (by assumption) (by assumption) ?_
  | refine addD_int ?_
  | (refine is_ii ?_; refine iiT trivial ?_)
  | refine szl_and rfl ?_
  | (refine is_sub ?_; first | refine subD_tup (ix0 rfl) ?_ | refine subD_tup (ix1 rfl) ?_ | refine subD_tup (ix2 rfl) ?_ | refine subD_tup (ix3 rfl) ?_))
local macro_rules | `(tactic| walk_at "h") => `(tactic| first
  | assumption
  | exact up_same
  | (refine up_new (by assumption) ?_; walk_at "h")
  | (refine up_old (by assumption) ?_; walk_at "h")
  | (refine up_old (Ne.symm (by assumption)) ?_; walk_at "h"))
local macro_rules | `(tactic| walk_at "f") => `(tactic| first
  | assumption
  | (apply free_up; walk_at "f"))
local macro_rules | `(tactic| walk_at "sub") => `(tactic| first
  | exact Sub.refl
  | (refine sub_both ?_; walk_at "sub")
  | (refine sub_new (by assumption) ?_; walk_at "sub"))
local macro_rules | `(tactic| walk_at "sx") => `(tactic| first
  | exact SubX.refl
  | (refine SubX.self ?_; walk_at "sx")
  | (refine SubX.new (by assumption) ?_; walk_at "sx"))
variable {X : Cx} {η : Eta} {Q0 : Dt → Eta → Prop}
def rowD (u : Wd) : List Dt := u.reverse.map ltD
theorem rowD_cons (x : L) (u : Wd) : rowD (x :: u) = rowD u ++ [ltD x] := by unfold rowD; simp
theorem rowD_last (x : L) (u : Wd) : atI (rowD (x :: u)) (-1) = some (ltD x) := by rw [rowD_cons]; exact atI_last _ _
theorem rowD_length (u : Wd) : (rowD u).length = u.length := by unfold rowD; simp
theorem okd_row (u : Wd) : ∀ x ∈ rowD u, okd 8 x = true := by
  intro x hx
  obtain ⟨y, _, rfl⟩ := List.mem_map.mp hx
  exact okd_lt _ _
theorem put_ne {y x : L} {t : Wd} (h : ¬ (y = .s ↔ x = .s)) : put (y :: t) x = x :: y :: t := by
  cases y <;> cases x <;> first | rfl | (exact absurd (by simp) h)
def thirdsD : List Dt := [.str "", .str "r", .str "q"]
theorem put_both {y x : L} {t : Wd} (hy : y ≠ .s) (hx : x ≠ .s) : ∃ (w : Wd) (i a b : Nat), put (y :: t) x = w ++ t ∧ (x = .r ∧ a = 1 ∨ x = .q ∧ a = 2) ∧ (y = .r ∧ b = 1 ∨ y = .q ∧ b = 2) ∧ i = (b + a) % 3 ∧ thirdsD[i]? = some (.str (wS w)) ∧ w.length ≤ 1 := by
  cases y <;> cases x <;> first | (exact absurd rfl hy) | (exact absurd rfl hx) | skip
  · exact ⟨[.q], 2, 1, 1, rfl, .inl ⟨rfl, rfl⟩, .inl ⟨rfl, rfl⟩, rfl, rfl, by decide⟩
  · exact ⟨[], 0, 2, 1, rfl, .inr ⟨rfl, rfl⟩, .inl ⟨rfl, rfl⟩, rfl, rfl, by decide⟩
  · exact ⟨[], 0, 1, 2, rfl, .inl ⟨rfl, rfl⟩, .inr ⟨rfl, rfl⟩, rfl, rfl, by decide⟩
  · exact ⟨[.r], 1, 2, 2, rfl, .inr ⟨rfl, rfl⟩, .inr ⟨rfl, rfl⟩, rfl, rfl, by decide⟩
theorem signs_w (w : Wd) : signsD (wS w) = w.map ltD := by
  unfold signsD wS ltD ltS
  simp
def p_put_behind : ASp := fun ds η Q => ∃ (r : Addr) (u : Wd) (x : L), ds = [.ref r, ltD x] ∧ η r = some (.lst (rowD u)) ∧ u.length < 50000 ∧ Q .non (up η r (.lst (rowD (put u x))))
theorem b_put_behind (A : At X n_put_behind (defScope s_put_behind) 0) (B : Bt X) (hf : ∀ y, X.fn y = true) (W : Pow X) (gT : GV X "THIRDS" (.tup [.str "", .str "r", .str "q"])) {ds : List Dt} (h : p_put_behind ds η Q0) :
    ASs X (defBody s_put_behind) (ds.map some ++ List.replicate 1 none) η (ends Q0) := by
  have V0 := v_put_behind
  obtain ⟨r, u, x, rfl, hr, hl, h⟩ := h
  refine as_one (as_if (at_bool (aw_or (at_eqL A ?_))))
  repeat walk_at "e"
  intro p0 hp0
  have hr0 := up_new (m' := .lst []) hp0 hr
  refine ⟨_, _, ⟨⟨r, p0, rfl, rfl, hr0, up_same⟩, okd_row u, fun _ h => by cases h⟩, fun hu => ?_, fun hu => ?_⟩
  · have hu' : u = [] := by
      cases u with
      | nil => rfl
      | cons a t => rw [rowD_cons] at hu; exact absurd hu (by simp)
    subst hu'
    refine as_one (as_expr (ae_append ?_))
    repeat walk_at "e"
    refine ⟨isL hr0, ?_⟩
    repeat walk_at "e"
    refine am_append hr0 (by rw [rowD_length]; decide) ?_
    exact ⟨up η r (.lst (rowD [x])), sub_at up_same (by walk_at "sx"), h⟩
  cases u with
  | nil => exact absurd rfl hu
  | cons y t =>
    refine aw_or1 (at_neB ?_)
    refine ae_eq A ?_
    repeat walk_at "e"
    refine ae_neg ?_
    repeat walk_at "e"
    refine ⟨1, rfl, ?_⟩
    refine subD_lst hr0 (rowD_last y t) ?_
    repeat walk_at "e"
    refine ⟨cmpr_of (okd_lt _ _) (okd_lt _ .s), fun c1 hc1 => ae_eq A ?_⟩
    repeat walk_at "e"
    refine ⟨cmpr_of (okd_lt _ _) (okd_lt _ .s), fun c2 hc2 => ⟨c1, c2, rfl, rfl, fun hne => ?_, fun heq => ?_⟩⟩
    · have e1 : c1 = true ↔ y = .s := hc1.trans lt_s_iff
      have e2 : c2 = true ↔ x = .s := hc2.trans lt_s_iff
      have hput : put (y :: t) x = x :: y :: t := put_ne (by rw [← e1, ← e2]; intro z; apply hne; cases c1 <;> cases c2 <;> simp_all)
      rw [hput] at h
      refine as_one (as_expr (ae_append ?_))
      repeat walk_at "e"
      refine ⟨isL hr0, ?_⟩
      repeat walk_at "e"
      refine am_append hr0 (by rw [rowD_length]; omega) ?_
      rw [← rowD_cons]
      exact ⟨_, sub_at up_same (by walk_at "sx"), h⟩
    · have hyx : y = .s ↔ x = .s := by
        have e1 : c1 = true ↔ y = .s := hc1.trans lt_s_iff
        have e2 : c2 = true ↔ x = .s := hc2.trans lt_s_iff
        rw [← e1, ← e2, heq]
      refine as_one (as_if (at_eq A ?_))
      repeat walk_at "e"
      refine ⟨cmpr_of (okd_lt _ _) (okd_lt _ .s), fun z => ?_, fun z => ?_⟩
      · have hx : x = .s := lt_s_iff.mp z
        have hy := hyx.mpr hx
        subst hx hy
        refine as_one (as_expr (ae_pop ?_))
        repeat walk_at "e"
        refine ⟨isL hr0, am_pop hr0 (x := ltD .s) (by rw [rowD_cons]; simp) ?_⟩
        rw [rowD_cons, List.dropLast_concat]
        exact ⟨_, sub_at up_same (by walk_at "sx"), h⟩
      · have hx : x ≠ .s := fun e => z (by rw [e]; rfl)
        have hy : y ≠ .s := fun e => hx (hyx.mp e)
        obtain ⟨w, i, a, b, hw, hxa, hyb, hi, hth, hwl⟩ := put_both (t := t) hy hx
        rw [hw] at h
        refine as_cons ?_
        walk_at "set"
        refine ae_sub' ?_
        walk_at "e"
        refine ae_mod (ae_add (ae_pow1 A W (ae_pop ?_)))
        repeat walk_at "e"
        refine ⟨isL hr0, am_pop hr0 (x := ltD y) (by rw [rowD_cons]; simp) ?_⟩
        rw [rowD_cons, List.dropLast_concat]
        refine pow_ok hyb ?_
        refine ae_pow1 A W ?_
        repeat walk_at "e"
        refine pow_ok hxa ?_
        repeat walk_at "e"
        refine iiT (by decide) ?_
        have e3 : Int.fmod ((b : Int) + a) 3 = ((i : Nat) : Int) := by
          rw [hi, ← emod_nat _ _ (by decide)]; rfl
        rw [e3]
        refine subD_tup (atN hth) ?_
        refine as_one (as_expr (ae_extend ?_))
        repeat walk_at "e"
        have hr1 : up (up η p0 (.lst [])) r (.lst (rowD t)) r = some (.lst (rowD t)) := up_same
        refine ⟨isL hr1, aa_cons (ae_list_str A B ?_)⟩
        repeat walk_at "e"
        refine ⟨_, rfl, by rw [wS_length]; omega, fun s hs => ?_⟩
        repeat walk_at "e"
        rw [signs_w]
        refine am_extend (up_new hs hr1) up_same (by rw [rowD_length]; simp; simp at hl; omega) ?_
        have e4 : rowD t ++ w.map ltD = rowD (w ++ t) := by
          match w, hwl with
          | [], _ => simp
          | [c], _ => rw [List.singleton_append, rowD_cons]; rfl
        rw [e4]
        exact ⟨_, sub_at up_same (by walk_at "sx"), h⟩
end FgA
namespace FgA
open PySem PySem.Spec PyProof.Rows L2 Fg
local macro_rules | `(tactic| walk_at "n") => `(tactic| (refine is_name ?_; first
  | refine ae_nameV (by assumption) (by assumption) rfl rfl ?_
  | refine ae_glob (by assumption) (by assumption) ?_
  | refine ae_nameB (by assumption) rfl ?_))
local macro_rules | `(tactic| walk_at "set") => `(tactic| (refine is_set ?_; refine as_setV (by assumption) (by assumption) (by assumption) rfl ?_))
local macro_rules | `(tactic| walk_at "t") => `(tactic| first
  | (refine is_tgt ?_; refine ag_nameV (by assumption) (by assumption) (by assumption) rfl ?_)
  | refine ag_tup2 (by assumption) ?_
  | refine ag_tup3 (by assumption) ?_
  | refine ag_tup4 (by assumption) ?_)
local macro_rules | `(tactic| walk_at "e") => `(tactic| first
  | walk_at "n"
  | refine ae_int ?_
  | refine ae_str ?_
  | refine ae_sub' ?_
  | refine aa_cons ?_
  | refine aa_nil ?_
  | refine ae_add ?_
  | refine ae_sub ?_
  | refine ae_mul ?_
  | refine ae_mod ?_
  | refine ae_fdiv ?_
  | refine ae_tup ?_
  | refine ae_lst ?_
  | refine ae_slice ?_
  | refine ae_bl ?_
  | refine ae_non ?_
  | refine ae_len (by assumption) (by assumption) ?_
  | refine ae_abs (by assumption) (by assumption) ?_
  | refine ae_call (by assumption) (by assumption) ?_
  | refine addD_int ?_
  | (refine is_ii ?_; refine iiT trivial ?_)
  | refine szl_and rfl ?_
  | (refine is_sub ?_; first | refine subD_tup (ix0 rfl) ?_ | refine subD_tup (ix1 rfl) ?_ | refine subD_tup (ix2 rfl) ?_ | refine subD_tup (ix3 rfl) ?_))
local macro_rules | `(tactic| walk_at "h") => `(tactic| first
  | assumption
  | exact up_same
  | (refine up_new (by assumption) ?_; walk_at "h")
  | (refine up_old (by assumption) ?_; walk_at "h")
  | (refine up_old (Ne.symm (by assumption)) ?_; walk_at "h"))
local macro_rules | `(tactic| walk_at "f") => `(tactic| first
  | assumption
  | (apply free_up; walk_at "f"))
local macro_rules | `(tactic| walk_at "sub") => `(tactic| first
  | exact Sub.refl
  | (refine sub_both ?_; walk_at "sub")
  | (refine sub_new (by assumption) ?_; walk_at "sub"))
local macro_rules | `(tactic| walk_at "sx") => `(tactic| first
  | exact SubX.refl
  | (refine SubX.self ?_; walk_at "sx")
  | (refine SubX.new (by assumption) ?_; walk_at "sx"))
variable {X : Cx} {η : Eta} {Q0 : Dt → Eta → Prop}
theorem wS_app (u v : Wd) : (wS (u ++ v)).cps = (wS u).cps ++ (wS v).cps := by unfold wS; simp
theorem fold_glue (g : Wd) : ∀ (us : List Wd) (u : Wd), (us.map wS).foldl (fun acc p => acc ++ (wS g).cps ++ p.cps) (wS u).cps = (wS (u ++ (us.map (g ++ ·)).flatten)).cps
  | [], u => by simp
  | v :: r, u => by
    rw [List.map_cons, List.foldl_cons, ← wS_app, ← wS_app, fold_glue g r (u ++ g ++ v)]
    simp
theorem join_w (g : Wd) (u : Wd) (us : List Wd) : Txt.join (wS g) ((u :: us).map wS) = wS (u ++ (us.map (g ++ ·)).flatten) := by
  show Builtin.Str.glued _ _ = _
  unfold Builtin.Str.glued
  rw [List.map_cons, List.drop_one, List.tail_cons]
  have := fold_glue g us u
  cases h : wS (u ++ (us.map (g ++ ·)).flatten) with
  | mk c =>
    rw [h] at this
    exact congrArg _ this
theorem join_nil (g : Wd) : Txt.join (wS g) [] = wS [] := rfl
theorem join_letters (u : Wd) : Txt.join (wS []) (u.map ltS) = wS u := by
  cases u with
  | nil => rfl
  | cons a t =>
    have e : (a :: t).map ltS = ([a] :: t.map fun x => [x]).map wS := by
      rw [List.map_cons, List.map_cons, List.map_map]; rfl
    rw [e, join_w]
    congr 1
    rw [List.map_map]
    induction t with
    | nil => rfl
    | cons b r ih => simp only [List.map_cons, List.flatten_cons, Function.comp] at ih ⊢; simp_all
theorem rawW_flat : ∀ (k : Int) (l : List Int), rawW (k :: l) = sw k ++ ((l.map sw).map ([L.s] ++ ·)).flatten
  | k, [] => by simp [rawW]
  | k, j :: l => by
    rw [rawW_cons k (by simp), rawW_flat j l]
    simp
def p_shortened : ASp := fun ds η Q => ∃ w : Wd, ds = [.str (wS w)] ∧ w.length < 40000 ∧ Q (.str (wS (red w))) η
theorem b_shortened (A : At X n_shortened (defScope s_shortened) 1) (B : Bt X) (hf : ∀ y, X.fn y = true) (f1 : FX X "put_behind" 1 2 p_put_behind) {ds : List Dt} (h : p_shortened ds η Q0) :
    ASs X (defBody s_shortened) (ds.map some ++ List.replicate 2 none) η (ends Q0) := by
  have V0 := v_shortened
  obtain ⟨w, rfl, hl, h⟩ := h
  refine as_cons ?_
  walk_at "set"
  repeat walk_at "e"
  intro r hr
  refine as_cons (as_for A (ai_str ?_))
  repeat walk_at "e"
  refine ⟨wS w, rfl, fun i ρ η' => ∃ x, ρ = [some (.str (wS w)), some (.ref r), x] ∧ η' r = some (.lst (rowD (act [] (w.take i)))) ∧ SubX r η η', ?_, ?_, ?_, ?_⟩
  · exact ⟨none, rfl, up_same, by walk_at "sx"⟩
  · intros; trivial
  · rintro i d ρ η' hi ⟨c, hc, rfl⟩ ⟨x, rfl, hr', hx⟩
    have hi' : i < w.length := by rw [← wS_length w]; exact hi
    have hcc : c = chL w[i] := by
      unfold wS at hc
      simp [hi'] at hc
      exact hc.symm
    subst hcc
    have hact : act [] (w.take (i + 1)) = put (act [] (w.take i)) w[i] := by
      rw [← act_snoc, List.take_append_getElem]
    walk_at "t"
    refine as_one (as_expr ?_)
    repeat walk_at "e"
    refine ⟨rfl, r, act [] (w.take i), w[i], rfl, hr', ?_, ?_⟩
    · have := act_length (w.take i) []
      simp at this; omega
    · exact ⟨_, rfl, by rw [hact]; exact up_same, SubX.self hx⟩
  · rintro ρ η' ⟨x, rfl, hr', hx⟩
    refine as_one (as_ret (ae_join ?_))
    repeat walk_at "e"
    refine ⟨_, rfl, ?_⟩
    repeat walk_at "e"
    have hw : w.take (wS w).cps.size = w := List.take_of_length_le (by rw [show (wS w).cps.size = w.length from wS_length w]; exact Nat.le_refl _)
    rw [hw] at hr'
    have hlen := act_length w []
    have e1 : rowD (act [] w) = ((act [] w).reverse.map ltS).map Dt.str := by
      unfold rowD; rw [List.map_map]; rfl
    have e2 : (((act [] w).reverse.map ltS).map (·.length)).sum = (act [] w).length := by
      rw [List.map_map]
      have : ∀ l : Wd, (l.map ((fun x => Str.length x) ∘ ltS)).sum = l.length := by
        intro l
        induction l with
        | nil => rfl
        | cons a t ih => rw [List.map_cons, List.sum_cons, ih, List.length_cons]; show 1 + _ = _; omega
      rw [this, List.length_reverse]
    refine ⟨r, (act [] w).reverse.map ltS, rfl, by rw [hr', e1], ?_, ?_⟩
    · rw [e2, s_0, wS_length]; simp at hlen ⊢; omega
    · rw [s_0, join_letters]
      refine ⟨η, fun q m hq => hx q m (fun e => by rw [e, hr] at hq; cases hq) hq, h⟩
end FgA
namespace FgA
open PySem PySem.Spec PyProof.Rows L2 Fg
local macro_rules | `(tactic| walk_at "n") => `(tactic| (refine is_name ?_; first
  | refine ae_nameV (by assumption) (by assumption) rfl rfl ?_
  | refine ae_glob (by assumption) (by assumption) ?_
  | refine ae_nameB (by assumption) rfl ?_))
local macro_rules | `(tactic| walk_at "set") => `(tactic| (refine is_set ?_; refine as_setV (by assumption) (by assumption) (by assumption) rfl ?_))
local macro_rules | `(tactic| walk_at "t") => `(tactic| first
  | (refine is_tgt ?_; refine ag_nameV (by assumption) (by assumption) (by assumption) rfl ?_)
  | refine ag_tup2 (by assumption) ?_
  | refine ag_tup3 (by assumption) ?_
  | refine ag_tup4 (by assumption) ?_)
local macro_rules | `(tactic| walk_at "e") => `(tactic| first
  | walk_at "n"
  | refine ae_int ?_
  | refine ae_str ?_
  | refine ae_sub' ?_
  | refine aa_cons ?_
  | refine aa_nil ?_
  | refine ae_add ?_
  | refine ae_sub ?_
  | refine ae_mul ?_
  | refine ae_mod ?_
  | refine ae_fdiv ?_
  | refine ae_tup ?_
  | refine ae_lst ?_
  | refine ae_slice ?_
  | refine ae_bl ?_
  | refine ae_non ?_
  | refine ae_len (by assumption) (by assumption) ?_
  | refine ae_abs (by assumption) (by assumption) ?_
  | refine ae_call (by assumption) (by assumption) ?_
  | refine addD_int ?_
  | (refine is_ii ?_; refine iiT trivial ?_)
  | refine szl_and rfl ?_
  | (refine is_sub ?_; first | refine subD_tup (ix0 rfl) ?_ | refine subD_tup (ix1 rfl) ?_ | refine subD_tup (ix2 rfl) ?_ | refine subD_tup (ix3 rfl) ?_))
local macro_rules | `(tactic| walk_at "h") => `(tactic| first
  | assumption
  | exact up_same
  | (refine up_new (by assumption) ?_; walk_at "h")
  | (refine up_old (by assumption) ?_; walk_at "h")
  | (refine up_old (Ne.symm (by assumption)) ?_; walk_at "h"))
local macro_rules | `(tactic| walk_at "f") => `(tactic| first
  | assumption
  | (apply free_up; walk_at "f"))
local macro_rules | `(tactic| walk_at "sub") => `(tactic| first
  | exact Sub.refl
  | (refine sub_both ?_; walk_at "sub")
  | (refine sub_new (by assumption) ?_; walk_at "sub"))
local macro_rules | `(tactic| walk_at "sx") => `(tactic| first
  | exact SubX.refl
  | (refine SubX.self ?_; walk_at "sx")
  | (refine SubX.new (by assumption) ?_; walk_at "sx"))
variable {X : Cx} {η : Eta} {Q0 : Dt → Eta → Prop}
def matD (M : Mat) : Dt := .tup [.int M.a, .int M.b, .int M.c, .int M.d]
theorem rep_w (w : Wd) (n : Nat) : repS (wS w) n = wS (rep w n) := by
  unfold repS wS rep
  simp
def p_steps_word : ASp := fun ds η Q => ∃ k : Int, ds = [.int k] ∧ k.natAbs ≤ 20000 ∧ Q (.str (wS (sw k))) η
theorem b_steps_word (A : At X n_steps_word (defScope s_steps_word) 0) (B : Bt X) (hf : ∀ y, X.fn y = true) {ds : List Dt} (h : p_steps_word ds η Q0) :
    ASs X (defBody s_steps_word) (ds.map some ++ List.replicate 0 none) η (ends Q0) := by
  have V0 := v_steps_word
  obtain ⟨k, rfl, hk, h⟩ := h
  refine as_cons (as_if (at_gt ?_))
  repeat walk_at "e"
  refine ⟨_, _, rfl, rfl, fun z => ?_, fun z => ?_⟩
  · refine as_one (as_ret (ae_rep ?_))
    repeat walk_at "e"
    rw [sw, if_pos z, ← rep_w] at h
    refine ⟨wS [.q, .s], k.toNat, rfl, by rw [Int.toNat_of_nonneg (by omega)], by decide, ?_, ⟨_, Sub.refl, h⟩⟩
    rw [show (wS [L.q, L.s]).length = 2 from rfl]; omega
  · refine as_nil ?_
    refine as_one (as_ret (ae_rep ?_))
    repeat walk_at "e"
    rw [sw, if_neg z, ← rep_w] at h
    refine ⟨wS [.s, .r], (0 - k).toNat, rfl, by rw [Int.toNat_of_nonneg (by omega)], by decide, ?_, ⟨_, Sub.refl, h⟩⟩
    rw [show (wS [L.s, L.r]).length = 2 from rfl]; omega
def intD (i : Int) : Dt := .int i
def p_steps_of : ASp := fun ds η Q => ∃ (M : Mat) (l : List Int) (n : Nat), ds = [matD M] ∧ Steps M l n ∧ n ≤ 2000 ∧ M.det = 1 ∧ 0 ≤ M.c ∧ M.c.natAbs < 2 ^ 8000 ∧ ∀ r, η r = none → Q (.ref r) (up η r (.lst (l.map intD)))
theorem nx_c {M : Mat} (h : 0 < M.c) : 0 ≤ (nx M).c ∧ (nx M).c < M.c := by
  have e : (nx M).c = M.a.fmod M.c := by
    show M.a - M.a.fdiv M.c * M.c = _
    rw [Int.fmod_def, Int.mul_comm]
  rw [e]
  exact ⟨Int.fmod_nonneg_of_pos _ h, Int.fmod_lt_of_pos _ h⟩
theorem steps_len {M : Mat} {l : List Int} {n : Nat} (h : Steps M l n) : l.length ≤ n + 1 := by
  induction h with
  | zero _ => simp
  | step _ _ ih => simp only [List.length_cons]; omega
theorem b_steps_of (A : At X n_steps_of (defScope s_steps_of) 0) (B : Bt X) (hf : ∀ y, X.fn y = true) (gM : GV X "MOST_RAW" (.int 12000)) {ds : List Dt} (h : p_steps_of ds η Q0) :
    ASs X (defBody s_steps_of) (ds.map some ++ List.replicate 7 none) η (ends Q0) := by
  have V0 := v_steps_of
  obtain ⟨M, l, n, rfl, hS, hn, hd, hc, hb, h⟩ := h
  refine as_cons (as_asg ?_)
  repeat walk_at "e"
  repeat walk_at "t"
  refine as_cons ?_
  walk_at "set"
  repeat walk_at "e"
  intro r hr
  refine as_cons ?_
  walk_at "set"
  repeat walk_at "e"
  refine as_cons ?_
  refine as_while A (fun m ρ η' => ∃ (M' : Mat) (dn l' : List Int) (x : Option Dt) (j : Nat), ρ = [some (matD M), some (.int M'.a), some (.int M'.b), some (.int M'.c), some (.int M'.d), some (.ref r), some (.int (j : Int)), x] ∧ SubX r η η' ∧ η' r = some (.lst (dn.map intD)) ∧ l = dn ++ l' ∧ Steps M' l' m ∧ j + m = n ∧ M'.det = 1 ∧ 0 ≤ M'.c ∧ M'.c.natAbs < 2 ^ 8000 ∧ dn.length ≤ j) n ?_ ?_
  · exact ⟨M, [], l, none, 0, rfl, by walk_at "sx", up_same, rfl, hS, by omega, hd, hc, hb, Nat.le_refl _⟩
  · rintro m ρ η' ⟨M', dn, l', x, j, rfl, hx, hr', rfl, hS', hj, hd', hc', hb', hdl⟩
    refine at_ne A ?_
    repeat walk_at "e"
    refine ⟨cmpr_of rfl rfl, fun z => ?_, fun z => ?_⟩
    · have z' : M'.c ≠ 0 := fun e => z (by rw [e])
      have hpos : 0 < M'.c := by omega
      cases hS' with
      | zero e => exact absurd e z'
      | @step _ l2 m2 _ hS2 =>
        obtain ⟨n1, n2⟩ := nx_c hpos
        refine as_cons ?_
        walk_at "set"
        repeat walk_at "e"
        refine iiT (.inr ⟨hpos, (Nat.log2_lt (by omega)).mpr (Nat.lt_of_lt_of_le hb' (Nat.pow_le_pow_right (by decide) (by decide)))⟩) ?_
        refine as_cons (as_expr (ae_append ?_))
        repeat walk_at "e"
        refine ⟨isL hr', ?_⟩
        repeat walk_at "e"
        refine am_append hr' (by rw [List.length_map]; omega) ?_
        refine as_cons (as_aug_add A 6 rfl rfl ?_)
        repeat walk_at "e"
        refine ⟨_, rfl, ?_⟩
        refine iiT (mul_small (by decide)) ?_
        repeat walk_at "e"
        refine ⟨_, rfl, ?_⟩
        rw [natAbs_if]
        refine as_cons (as_if (at_gt ?_))
        repeat walk_at "e"
        refine ⟨_, _, rfl, rfl, fun y => ?_, fun y => ?_⟩
        · exfalso; omega
        refine as_nil ?_
        refine as_one (as_asg ?_)
        repeat walk_at "e"
        refine iiT (mul_small (by omega)) ?_
        repeat walk_at "e"
        refine iiT (mul_small (by omega)) ?_
        repeat walk_at "e"
        repeat walk_at "t"
        exact ⟨m2, by omega, nx M', dn ++ [M'.a.fdiv M'.c], l2, some (.int (M'.a.fdiv M'.c)), j + (2 * (M'.a.fdiv M'.c).natAbs + 1), rfl, SubX.self hx, by rw [up_same]; simp [intD], by simp, hS2, by omega, nx_det hd', n1, by omega, by simp; omega⟩
    · have z' : M'.c = 0 := by injection z
      cases hS' with
      | step e _ => exact absurd z' e
      | zero e =>
        have hdd : M'.d.natAbs = 1 := by
          unfold Mat.det at hd'
          rw [z', Int.mul_zero, Int.sub_zero] at hd'
          rcases unit_of hd' with ⟨_, h2⟩ | ⟨_, h2⟩ <;> rw [h2] <;> rfl
        refine as_cons (as_expr (ae_append ?_))
        repeat walk_at "e"
        refine ⟨isL hr', ?_⟩
        repeat walk_at "e"
        refine iiT (mul_small' (by omega)) ?_
        repeat walk_at "e"
        refine am_append hr' (by rw [List.length_map]; omega) ?_
        refine as_cons (as_if (at_gt ?_))
        repeat walk_at "e"
        refine ⟨_, rfl, ?_⟩
        refine iiT (mul_small (by decide)) ?_
        repeat walk_at "e"
        rw [natAbs_if]
        refine ⟨_, _, rfl, rfl, fun y => ?_, fun y => ?_⟩
        · exfalso; omega
        refine as_nil ?_
        refine as_one (as_ret ?_)
        repeat walk_at "e"
        refine ⟨_, sub_at ?_ (SubX.self hx), h r hr⟩
        rw [up_same]; simp [intD]
end FgA
namespace FgA
open PySem PySem.Spec PyProof.Rows L2 Fg
local macro_rules | `(tactic| walk_at "n") => `(tactic| (refine is_name ?_; first
  | refine ae_nameV (by assumption) (by assumption) rfl rfl ?_
  | refine ae_glob (by assumption) (by assumption) ?_
  | refine ae_nameB (by assumption) rfl ?_))
local macro_rules | `(tactic| walk_at "set") => `(tactic| (refine is_set ?_; refine as_setV (by assumption) (by assumption) (by assumption) rfl ?_))
local macro_rules | `(tactic| walk_at "t") => `(tactic| first
  | (refine is_tgt ?_; refine ag_nameV (by assumption) (by assumption) (by assumption) rfl ?_)
  | refine ag_tup2 (by assumption) ?_
  | refine ag_tup3 (by assumption) ?_
  | refine ag_tup4 (by assumption) ?_)
local macro_rules | `(tactic| walk_at "e") => `(tactic| first
  | walk_at "n"
  | refine ae_int ?_
  | refine ae_str ?_
  | refine ae_sub' ?_
  | refine aa_cons ?_
  | refine aa_nil ?_
  | refine ae_add ?_
  | refine ae_sub ?_
  | refine ae_mul ?_
  | refine ae_mod ?_
  | refine ae_fdiv ?_
  | refine ae_tup ?_
  | refine ae_lst ?_
  | refine ae_slice ?_
  | refine ae_bl ?_
  | refine ae_non ?_
  | refine ae_len (by assumption) (by assumption) ?_
  | refine ae_abs (by assumption) (by assumption) ?_
  | refine ae_call (by assumption) (by assumption) ?_
  | refine addD_int ?_
  | (refine is_ii ?_; refine iiT trivial ?_)
  | refine szl_and rfl ?_
  | (refine is_sub ?_; first | refine subD_tup (ix0 rfl) ?_ | refine subD_tup (ix1 rfl) ?_ | refine subD_tup (ix2 rfl) ?_ | refine subD_tup (ix3 rfl) ?_))
local macro_rules | `(tactic| walk_at "h") => `(tactic| first
  | assumption
  | exact up_same
  | (refine up_new (by assumption) ?_; walk_at "h")
  | (refine up_old (by assumption) ?_; walk_at "h")
  | (refine up_old (Ne.symm (by assumption)) ?_; walk_at "h"))
local macro_rules | `(tactic| walk_at "f") => `(tactic| first
  | assumption
  | (apply free_up; walk_at "f"))
local macro_rules | `(tactic| walk_at "sub") => `(tactic| first
  | exact Sub.refl
  | (refine sub_both ?_; walk_at "sub")
  | (refine sub_new (by assumption) ?_; walk_at "sub"))
local macro_rules | `(tactic| walk_at "sx") => `(tactic| first
  | exact SubX.refl
  | (refine SubX.self ?_; walk_at "sx")
  | (refine SubX.new (by assumption) ?_; walk_at "sx"))
variable {X : Cx} {η : Eta} {Q0 : Dt → Eta → Prop}
theorem steps_small {M : Mat} {l : List Int} {n : Nat} (h : Steps M l n) : M.det = 1 → ∀ k ∈ l, 2 * k.natAbs ≤ n := by
  induction h with
  | @zero M e =>
    intro hd k hk
    have hk' : k = M.b * M.d := by simpa using hk
    unfold Mat.det at hd
    rw [e, Int.mul_zero, Int.sub_zero] at hd
    rw [hk', Int.natAbs_mul]
    rcases unit_of hd with ⟨_, h2⟩ | ⟨_, h2⟩ <;> rw [h2] <;> simp
  | @step M l n hc _ ih =>
    intro hd k hk
    rcases List.mem_cons.mp hk with e | hk
    · rw [e]; omega
    · have := ih (nx_det hd) k hk
      omega
structure WOk (M : Mat) (w : Wd) : Prop where
  det : M.det = 1
  c0 : 0 ≤ M.c
  cb : M.c.natAbs < 2 ^ 8000
  wo : WordOf M w
def p_word_of : ASp := fun ds η Q => ∃ (M : Mat) (w : Wd), ds = [matD M] ∧ WOk M w ∧ Q (.str (wS w)) η
theorem rawW_len : ∀ (k : Int) (l : List Int), (((k :: l).map sw).map List.length).sum + l.length = (rawW (k :: l)).length
  | k, [] => by simp [rawW]
  | k, j :: l => by
    have := rawW_len j l
    rw [rawW_cons k (by simp)]
    simp only [List.map_cons, List.sum_cons, List.length_cons, List.length_append] at this ⊢
    omega
theorem b_word_of (A : At X n_word_of (defScope s_word_of) 2) (B : Bt X) (hf : ∀ y, X.fn y = true) (gM : GV X "MOST_LETTERS_words" (.int 2000)) (f1 : FX X "steps_of" 1 1 p_steps_of) (f2 : FX X "steps_word" 1 1 p_steps_word) (f3 : FX X "shortened" 2 1 p_shortened)
    {ds : List Dt} (h : p_word_of ds η Q0) : ASs X (defBody s_word_of) (ds.map some ++ List.replicate 2 none) η (ends Q0) := by
  have V0 := v_word_of
  obtain ⟨M, w, rfl, ⟨hd, hc, hb, l, n, hS, hn, hw, hl⟩, h⟩ := h
  have hsm := steps_small hS hd
  refine as_cons ?_
  walk_at "set"
  refine ae_call A f3 (aa_cons (ae_join ?_))
  walk_at "e"
  refine ⟨_, rfl, ae_lc1 A (ai_list ?_)⟩
  repeat walk_at "e"
  refine ⟨rfl, M, l, n, rfl, hS, hn, hd, hc, hb, fun r hr => ?_⟩
  have hll := steps_len hS
  refine ⟨r, _, rfl, up_same, by rw [List.length_map]; omega, fun η η' s e => s _ _ e, up_same, fun j e => ∃ k, l[j]? = some k ∧ e = .str (wS (sw k)), ?_, ?_⟩
  · intro j d D acc X' hj hd' hD hla A' b
    rw [List.getElem?_map] at hd'
    obtain ⟨k, hk, rfl⟩ := Option.map_eq_some_iff.mp hd'
    have f2' := b.fa f2
    repeat walk_at "e"
    exact ⟨rfl, k, rfl, by have := hsm k (List.mem_of_getElem? hk); omega, Sub.refl, k, hk, rfl⟩
  · intro D acc hD hla hF
    have hacc := acc_eq (by rw [hla, List.length_map]) hF
    subst hacc
    cases l with
    | nil => exact absurd rfl (steps_ne hS)
    | cons k l =>
      have e1 : ((k :: l).map fun k => Dt.str (wS (sw k))) = ((sw k :: l.map sw).map wS).map Dt.str := by
        simp [List.map_map, Function.comp]
      have hlen := rawW_len k l
      refine ⟨D, _, rfl, by rw [up_same, e1], ?_, ?_⟩
      · rw [s_s, show ltS .s = wS [.s] from rfl, wS_length, List.map_map]
        have e2 : ∀ us : List Wd, (us.map ((fun x => Str.length x) ∘ wS)).sum = (us.map List.length).sum := by
          intro us; congr 1; apply List.map_congr_left; intro u _; exact wS_length u
        rw [e2]
        simp at hlen ⊢
        omega
      · rw [s_s, show ltS .s = wS [.s] from rfl, join_w, ← rawW_flat]
        repeat walk_at "e"
        refine ⟨rfl, rawW (k :: l), rfl, by omega, ?_⟩
        rw [← hw]
        have hwl : w.length ≤ 2000 := by rw [hw]; exact Nat.le_trans (red_length _) (by omega)
        refine as_cons (as_if (at_gt ?_))
        repeat walk_at "e"
        refine len_s (by rw [wS_length]; omega) ?_
        repeat walk_at "e"
        rw [wS_length]
        refine ⟨_, _, rfl, rfl, fun z => ?_, fun z => ?_⟩
        · exfalso; omega
        refine as_nil ?_
        refine as_one (as_ret ?_)
        repeat walk_at "e"
        exact ⟨η, by walk_at "sub", h⟩
end FgA
namespace FgA
open PySem PySem.Spec PyProof.Rows L2 Fg
local macro_rules | `(tactic| walk_at "n") => `(tactic| (refine is_name ?_; first
  | refine ae_nameV (by assumption) (by assumption) rfl rfl ?_
  | refine ae_glob (by assumption) (by assumption) ?_
  | refine ae_nameB (by assumption) rfl ?_))
local macro_rules | `(tactic| walk_at "set") => `(tactic| (refine is_set ?_; refine as_setV (by assumption) (by assumption) (by assumption) rfl ?_))
local macro_rules | `(tactic| walk_at "t") => `(tactic| first
  | (refine is_tgt ?_; refine ag_nameV (by assumption) (by assumption) (by assumption) rfl ?_)
  | refine ag_tup2 (by assumption) ?_
  | refine ag_tup3 (by assumption) ?_
  | refine ag_tup4 (by assumption) ?_)
local macro_rules | `(tactic| walk_at "e") => `(tactic| first
  | walk_at "n"
  | refine ae_int ?_
  | refine ae_str ?_
  | refine ae_sub' ?_
  | refine aa_cons ?_
  | refine aa_nil ?_
  | refine ae_add ?_
  | refine ae_sub ?_
  | refine ae_mul ?_
  | refine ae_mod ?_
  | refine ae_fdiv ?_
  | refine ae_tup ?_
  | refine ae_lst ?_
  | refine ae_slice ?_
  | refine ae_bl ?_
  | refine ae_non ?_
  | refine ae_len (by assumption) (by assumption) ?_
  | refine ae_abs (by assumption) (by assumption) ?_
  | refine ae_call (by assumption) (by assumption) ?_
  | refine addD_int ?_
  | (refine is_ii ?_; refine iiT trivial ?_)
  | refine szl_and rfl ?_
  | (refine is_sub ?_; first | refine subD_tup (ix0 rfl) ?_ | refine subD_tup (ix1 rfl) ?_ | refine subD_tup (ix2 rfl) ?_ | refine subD_tup (ix3 rfl) ?_))
local macro_rules | `(tactic| walk_at "h") => `(tactic| first
  | assumption
  | exact up_same
  | (refine up_new (by assumption) ?_; walk_at "h")
  | (refine up_old (by assumption) ?_; walk_at "h")
  | (refine up_old (Ne.symm (by assumption)) ?_; walk_at "h"))
local macro_rules | `(tactic| walk_at "f") => `(tactic| first
  | assumption
  | (apply free_up; walk_at "f"))
local macro_rules | `(tactic| walk_at "sub") => `(tactic| first
  | exact Sub.refl
  | (refine sub_both ?_; walk_at "sub")
  | (refine sub_new (by assumption) ?_; walk_at "sub"))
local macro_rules | `(tactic| walk_at "sx") => `(tactic| first
  | exact SubX.refl
  | (refine SubX.self ?_; walk_at "sx")
  | (refine SubX.new (by assumption) ?_; walk_at "sx"))
variable {X : Cx} {η : Eta} {Q0 : Dt → Eta → Prop}
theorem iter_succ (f : Nat → Nat) (k x : Nat) : iter f (k + 1) x = f (iter f k x) := by rw [iter_add]; rfl
def p_goes_back : ASp := fun ds η Q => ∃ (r : Addr) (l : List Nat) (t : Nat), ds = [.ref r, nD t] ∧ η r = some (.lst (l.map nD)) ∧ l.length ≤ 1000 ∧ t ≤ 10 ∧ (∀ x, x < l.length → l.getD x 0 < l.length) ∧ (∀ x, x < l.length → iter (fun y => l.getD y 0) t x = x) ∧ Q (.bl true) η
theorem b_goes_back (A : At X n_goes_back (defScope s_goes_back) 0) (B : Bt X) (hf : ∀ y, X.fn y = true) {ds : List Dt} (h : p_goes_back ds η Q0) :
    ASs X (defBody s_goes_back) (ds.map some ++ List.replicate 3 none) η (ends Q0) := by
  have V0 := v_goes_back
  obtain ⟨r, l, t, rfl, hr, hl, ht, hlt, hit, h⟩ := h
  refine as_cons (as_for A (ai_range1 A B ?_))
  repeat walk_at "e"
  refine len_l hr (by rw [List.length_map]; omega) ?_
  refine ⟨_, rfl, by omega, by rw [List.length_map]; omega, fun i ρ η' => η' = η ∧ ∃ x y z, ρ = [some (.ref r), some (nD t), x, y, z], ?_, ?_, ?_, ?_⟩
  · exact ⟨rfl, _, _, _, rfl⟩
  · intros; trivial
  · rintro i d ρ η' hi rfl ⟨rfl, x, y, z, rfl⟩
    have hi' : i < l.length := by simpa using hi
    rw [show (0 : Int) + (i : Nat) = (i : Nat) by omega]
    walk_at "t"
    refine as_cons ?_
    walk_at "set"
    repeat walk_at "e"
    refine as_cons (as_for A (ai_range1 A B ?_))
    repeat walk_at "e"
    refine ⟨_, rfl, by omega, by omega, fun j ρ η2 => η2 = η' ∧ ∃ z, ρ = [some (.ref r), some (nD t), some (nD i), some (nD (iter (fun y => l.getD y 0) j i)), z], ?_, ?_, ?_, ?_⟩
    · exact ⟨rfl, _, rfl⟩
    · intros; trivial
    · rintro j d ρ η' hj rfl ⟨rfl, z, rfl⟩
      walk_at "t"
      refine as_one ?_
      walk_at "set"
      repeat walk_at "e"
      have hlt' := iter_lt hlt j i hi'
      refine subD_lst hr (atN (nD_get hlt')) ?_
      exact ⟨rfl, _, by rw [iter_succ]; rfl⟩
    · rintro ρ η' ⟨rfl, z, rfl⟩
      refine as_one (as_if (at_ne A ?_))
      repeat walk_at "e"
      refine ⟨cmpr_of (okd_nD _ _) (okd_nD _ _), fun w => ?_, fun w => ?_⟩
      · exact absurd (by rw [show ((t : Int)).toNat = t by simp, hit i hi']) w
      · exact as_nil ⟨rfl, _, _, _, rfl⟩
  · rintro ρ η' ⟨rfl, x, y, z, rfl⟩
    refine as_one (as_ret ?_)
    repeat walk_at "e"
    exact ⟨_, Sub.refl, h⟩
def p_led_by : ASp := fun ds η Q => ∃ (T : Tab) (p : Nat) (x : L), Valid T ∧ p < T.n ∧ ds = [tabD T, nD p, ltD x] ∧ Q (nD (lstep T.s T.r x p)) η
theorem b_led_by (A : At X n_led_by (defScope s_led_by) 0) (B : Bt X) (hf : ∀ y, X.fn y = true) {ds : List Dt} (h : p_led_by ds η Q0) :
    ASs X (defBody s_led_by) (ds.map some ++ List.replicate 2 none) η (ends Q0) := by
  have V0 := v_led_by
  obtain ⟨T, p, x, V, hp, rfl, h⟩ := h
  refine as_cons (as_asg ?_)
  repeat walk_at "e"
  repeat walk_at "t"
  refine as_cons (as_if (at_eq A ?_))
  repeat walk_at "e"
  refine ⟨cmpr_of (okd_lt _ _) (okd_lt _ .s), fun z => ?_, fun z => ?_⟩
  · have hx : x = .s := lt_s_iff.mp z
    subst hx
    refine as_one (as_ret ?_)
    repeat walk_at "e"
    exact subD_tup (tab_h V hp) ⟨_, Sub.refl, h⟩
  have hx : x ≠ .s := fun e => z (by rw [e]; rfl)
  refine as_nil ?_
  refine as_cons (as_if (at_bool (aw_or (at_eq A ?_))))
  repeat walk_at "e"
  refine ⟨cmpr_of (okd_lt _ _) (okd_lt _ .r), fun z => ?_, fun z => ?_⟩
  · have hx : x = .r := ltD_inj (y := .r) z
    subst hx
    refine as_one (as_ret ?_)
    repeat walk_at "e"
    exact subD_tup (tab_t V hp) ⟨_, Sub.refl, h⟩
  have hx2 : x ≠ .r := fun e => z (by rw [e]; rfl)
  have hx3 : x = .q := by cases x <;> first | rfl | exact absurd rfl hx | exact absurd rfl hx2
  subst hx3
  refine aw_or1 (at_isN ?_)
  repeat walk_at "e"
  refine subD_tup (tab_t V hp) ⟨fun e => (by cases e), fun _ => ?_⟩
  refine as_nil ?_
  refine as_one (as_ret ?_)
  repeat walk_at "e"
  refine subD_tup (tab_t V hp) ?_
  exact subD_tup (tab_t V (vr_lt V hp)) ⟨_, Sub.refl, h⟩
def p_led_on : ASp := fun ds η Q => ∃ (T : Tab) (p : Nat) (w : Wd), Valid T ∧ p < T.n ∧ ds = [tabD T, nD p, .str (wS w)] ∧ Q (nD (run T.s T.r w p)) η
theorem b_led_on (A : At X n_led_on (defScope s_led_on) 1) (B : Bt X) (hf : ∀ y, X.fn y = true) (f1 : FX X "led_by" 1 3 p_led_by) {ds : List Dt} (h : p_led_on ds η Q0) :
    ASs X (defBody s_led_on) (ds.map some ++ List.replicate 1 none) η (ends Q0) := by
  have V0 := v_led_on
  obtain ⟨T, p, w, V, hp, rfl, h⟩ := h
  refine as_cons (as_for A (ai_str ?_))
  repeat walk_at "e"
  refine ⟨wS w, rfl, fun i ρ η' => η' = η ∧ ∃ x, ρ = [some (tabD T), some (nD (run T.s T.r (w.take i) p)), some (.str (wS w)), x], ?_, ?_, ?_, ?_⟩
  · exact ⟨rfl, none, rfl⟩
  · intros; trivial
  · rintro i d ρ η' hi ⟨c, hc, rfl⟩ ⟨rfl, x, rfl⟩
    have hi' : i < w.length := by rw [← wS_length w]; exact hi
    have hcc : c = chL w[i] := by
      unfold wS at hc
      simp [hi'] at hc
      exact hc.symm
    subst hcc
    have hrun : run T.s T.r (w.take (i + 1)) p = lstep T.s T.r w[i] (run T.s T.r (w.take i) p) := by
      rw [← List.take_append_getElem hi', run_append, run_cons, run_nil]
    walk_at "t"
    refine as_cons ?_
    walk_at "set"
    repeat walk_at "e"
    refine ⟨rfl, T, _, w[i], V, V.run_lt _ hp, rfl, ?_⟩
    rw [← hrun]
    refine as_one (as_if (at_isN ?_))
    repeat walk_at "e"
    exact ⟨fun e => (by cases e), fun _ => as_nil ⟨rfl, _, rfl⟩⟩
  · rintro ρ η' ⟨rfl, x, rfl⟩
    refine as_one (as_ret ?_)
    repeat walk_at "e"
    have hw : w.take (wS w).cps.size = w := List.take_of_length_le (by rw [show (wS w).cps.size = w.length from wS_length w]; exact Nat.le_refl _)
    rw [hw]
    exact ⟨_, Sub.refl, h⟩
def p_place_of : ASp := fun ds η Q => ∃ (T : Tab) (M : Mat) (w : Wd), Valid T ∧ WOk M w ∧ ds = [tabD T, matD M] ∧ Q (nD (run T.s T.r w 0)) η
theorem b_place_of (A : At X n_place_of (defScope s_place_of) 3) (B : Bt X) (hf : ∀ y, X.fn y = true) (f1 : FX X "led_on" 2 3 p_led_on) (f2 : FX X "word_of" 3 1 p_word_of) {ds : List Dt} (h : p_place_of ds η Q0) :
    ASs X (defBody s_place_of) (ds.map some ++ List.replicate 0 none) η (ends Q0) := by
  have V0 := v_place_of
  obtain ⟨T, M, w, V, hw, rfl, h⟩ := h
  refine as_one (as_ret ?_)
  repeat walk_at "e"
  refine ⟨rfl, M, w, rfl, hw, ?_⟩
  repeat walk_at "e"
  exact ⟨rfl, T, 0, w, V, V.pos, rfl, _, Sub.refl, h⟩
end FgA
namespace FgA
open PySem PySem.Spec PyProof.Rows L2 Fg
local macro_rules | `(tactic| walk_at "n") => `(tactic| (refine is_name ?_; first
  | refine ae_nameV (by assumption) (by assumption) rfl rfl ?_
  | refine ae_glob (by assumption) (by assumption) ?_
  | refine ae_nameB (by assumption) rfl ?_))
local macro_rules | `(tactic| walk_at "set") => `(tactic| (refine is_set ?_; refine as_setV (by assumption) (by assumption) (by assumption) rfl ?_))
local macro_rules | `(tactic| walk_at "t") => `(tactic| first
  | (refine is_tgt ?_; refine ag_nameV (by assumption) (by assumption) (by assumption) rfl ?_)
  | refine ag_tup2 (by assumption) ?_
  | refine ag_tup3 (by assumption) ?_
  | refine ag_tup4 (by assumption) ?_)
local macro_rules | `(tactic| walk_at "e") => `(tactic| first
  | walk_at "n"
  | refine ae_int ?_
  | refine ae_str ?_
  | refine ae_sub' ?_
  | refine aa_cons ?_
  | refine aa_nil ?_
  | refine ae_add ?_
  | refine ae_sub ?_
  | refine ae_mul ?_
  | refine ae_mod ?_
  | refine ae_fdiv ?_
  | refine ae_tup ?_
  | refine ae_lst ?_
  | refine ae_slice ?_
  | refine ae_bl ?_
  | refine ae_non ?_
  | refine ae_len (by assumption) (by assumption) ?_
  | refine ae_abs (by assumption) (by assumption) ?_
  | refine ae_call (by assumption) (by assumption) ?_
  | refine addD_int ?_
  | (refine is_ii ?_; refine iiT trivial ?_)
  | refine szl_and rfl ?_
  | (refine is_sub ?_; first | refine subD_tup (ix0 rfl) ?_ | refine subD_tup (ix1 rfl) ?_ | refine subD_tup (ix2 rfl) ?_ | refine subD_tup (ix3 rfl) ?_))
local macro_rules | `(tactic| walk_at "h") => `(tactic| first
  | assumption
  | exact up_same
  | (refine up_new (by assumption) ?_; walk_at "h")
  | (refine up_old (by assumption) ?_; walk_at "h")
  | (refine up_old (Ne.symm (by assumption)) ?_; walk_at "h"))
local macro_rules | `(tactic| walk_at "f") => `(tactic| first
  | assumption
  | (apply free_up; walk_at "f"))
local macro_rules | `(tactic| walk_at "sub") => `(tactic| first
  | exact Sub.refl
  | (refine sub_both ?_; walk_at "sub")
  | (refine sub_new (by assumption) ?_; walk_at "sub"))
local macro_rules | `(tactic| walk_at "sx") => `(tactic| first
  | exact SubX.refl
  | (refine SubX.self ?_; walk_at "sx")
  | (refine SubX.new (by assumption) ?_; walk_at "sx"))
variable {X : Cx} {η : Eta} {Q0 : Dt → Eta → Prop}
theorem ItemOf.sub {w : World} {η η' : Eta} {d e x : Dt} (h : ItemOf w η d e x) (s : Sub η η') : ItemOf w η' d e x := by
  cases h with
  | tup h => exact .tup h
  | lst h0 h1 => exact .lst (s _ _ h0) h1
  | dic h0 h1 => exact .dic (s _ _ h0) h1
  | nst h0 h1 h2 => exact .nst (s _ _ h0) h1 h2
theorem okK_num (i : Int) : FgD.okK (.num i) := ⟨by simp [NestedKey.depth], fun x h => by cases h⟩
theorem okK_none : FgD.okK .none := ⟨by simp [NestedKey.depth], fun x h => by cases h⟩
theorem dt_num (n : Nat) : nD n = dtOf (.num (n : Int)) := by rw [dtOf]; rfl
/-- a thing that leads whole numbers on -/
def Leads (w : World) (η : Eta) (d : Dt) (P : Nat → Prop) (f : Nat → Nat) : Prop := ∀ x, P x → ItemOf w η d (nD x) (nD (f x))
def Seen2 (kvs : List (NestedKey × Dt)) (m : List Nat) : Prop := ∀ x : Nat, lkA kvs (.num (x : Int)) ≠ none ↔ x ∈ m
theorem seen_put {kvs : List (NestedKey × Dt)} {m : List Nat} {x : Nat} {v : Dt} (h : Seen2 kvs m) : Seen2 (putA kvs (.num (x : Int)) v) (m ++ [x]) := by
  intro y
  rw [lkA_put]
  by_cases e : y = x
  · subst e; simp
  · rw [if_neg (fun z => e (by injection z with z; omega)), h y]; simp [e]
theorem seen_start (p : Nat) (v : Dt) : Seen2 (putAll [(.num (p : Int), v), (.none, v)]) [p] := by
  intro y
  unfold putAll
  simp only [List.foldl_cons, List.foldl_nil]
  rw [lkA_put, if_neg (by simp), lkA_put, lkA_nil]
  by_cases e : y = p
  · subst e; simp
  · rw [if_neg (fun z => e (by injection z with z; omega))]; simp [e]
structure Find (w : World) (η : Eta) (hD tD : Dt) (P : Nat → Prop) (s r : Nat → Nat) : Prop where
  h : Leads w η hD P s
  t : Leads w η tD P r
  ps : ∀ x, P x → P (s x)
  pr : ∀ x, P x → P (r x)
theorem Find.sub {w : World} {η η' : Eta} {hD tD : Dt} {P : Nat → Prop} {s r : Nat → Nat} (F : Find w η hD tD P s r) (sb : Sub η η') : Find w η' hD tD P s r :=
  ⟨fun x h => (F.h x h).sub sb, fun x h => (F.t x h).sub sb, F.ps, F.pr⟩
def p_met_from (w : World) : ASp := fun ds η Q => ∃ (hD tD : Dt) (P : Nat → Prop) (s r : Nat → Nat) (p f : Nat), ds = [hD, tD, nD p] ∧ Find w η hD tD P s r ∧ P p ∧ (bfs s r f [p] 0).length ≤ f ∧ f ≤ 20000 ∧ ∀ q, η q = none → Q (.ref q) (up η q (.lst ((bfs s r f [p] 0).map nD)))
theorem b_met_from (A : At X n_met_from (defScope s_met_from) 0) (B : Bt X) (hf : ∀ y, X.fn y = true) {ds : List Dt} (h : p_met_from X.w ds η Q0) :
    ASs X (defBody s_met_from) (ds.map some ++ List.replicate 4 none) η (ends Q0) := by
  have V0 := v_met_from
  obtain ⟨hD, tD, P, s, r, p, f, rfl, F, hp, hlen, hf1, h⟩ := h
  refine as_cons ?_
  walk_at "set"
  repeat walk_at "e"
  intro q hq
  refine as_cons ?_
  walk_at "set"
  refine ae_disp2 A fun u hu => ?_
  repeat walk_at "e"
  refine ⟨.num (p : Int), .none, dt_num p, okK_num _, by rw [dtOf], okK_none, up_same, ?_⟩
  rw [up_up]
  refine as_cons ?_
  walk_at "set"
  repeat walk_at "e"
  refine as_cons ?_
  generalize hfin : bfs s r f [p] 0 = fin at h hlen
  have hqu : q ≠ u := (ne_at hu up_same).symm
  have hu0 : η u = none := free_up hu
  refine as_while A (fun k ρ η' => ∃ (m : List Nat) (i g : Nat) (kvs : List (NestedKey × Dt)) (x : Option Dt), ρ = [some hD, some tD, some (nD p), some (.ref q), some (.ref u), some (.int (i : Int)), x] ∧ Sub η η' ∧ η' q = some (.lst (m.map nD)) ∧ η' u = some (.nst X.w kvs) ∧ Seen2 kvs m ∧ kvs.length ≤ m.length + 2 ∧ (∀ y ∈ m, P y) ∧ bfs s r g m i = fin ∧ fin.length ≤ g + i ∧ i ≤ m.length ∧ k = fin.length - i) fin.length ?_ ?_
  · refine ⟨[p], 0, f, _, none, rfl, ?_, (by walk_at "h"), up_same, seen_start p _, by simp [putAll, putA], fun y hy => by simp at hy; subst hy; exact hp, hfin, by omega, by simp, rfl⟩
    walk_at "sub"
  · rintro k ρ η' ⟨m, i, g, kvs, x, rfl, hsub, hmq, hmu, hS, hkl, hP, hb, hgl, him, hk⟩
    have hmf : m.length ≤ fin.length := by rw [← hb]; exact prefix_len (bfs_prefix g m i)
    refine at_lt ?_
    repeat walk_at "e"
    refine len_l hmq (by rw [List.length_map]; omega) ?_
    rw [List.length_map]
    refine ⟨_, _, rfl, rfl, fun z => ?_, fun z => ?_⟩
    · have hi : i < m.length := by omega
      have hmi : m[i]? = some m[i] := List.getElem?_eq_getElem hi
      have hPx := hP _ (List.getElem_mem hi)
      have hat : (m.map nD)[i]? = some (nD m[i]) := by rw [List.getElem?_map, hmi]; rfl
      obtain ⟨g', rfl⟩ : ∃ g', g = g' + 1 := ⟨g - 1, by omega⟩
      rw [bfs, hmi] at hb
      have hb' : bfs s r g' (pushN (pushN m (s m[i])) (r m[i])) (i + 1) = fin := hb
      have F' := F.sub hsub
      refine as_cons (as_for A (ai_tup (ae_tup (aa_cons (ae_item A ?_)))))
      repeat walk_at "e"
      refine subD_lst hmq (atN hat) ⟨F'.h _ hPx, ?_⟩
      refine aa_cons (ae_item A ?_)
      repeat walk_at "e"
      refine subD_lst hmq (atN hat) ⟨F'.t _ hPx, ?_⟩
      repeat walk_at "e"
      have hst : ∀ j d, j < 2 → [nD (s m[i]), nD (r m[i])][j]? = some d → ∃ y, d = nD y ∧ P y ∧ (if j + 1 = 0 then m else if j + 1 = 1 then pushN m (s m[i]) else pushN (pushN m (s m[i])) (r m[i])) = pushN (if j = 0 then m else if j = 1 then pushN m (s m[i]) else pushN (pushN m (s m[i])) (r m[i])) y := by
        intro j d hj hd
        match j, hj with
        | 0, _ => cases hd; exact ⟨_, rfl, F.ps _ hPx, rfl⟩
        | 1, _ => cases hd; exact ⟨_, rfl, F.pr _ hPx, rfl⟩
      refine ⟨_, rfl, fun j ρ η2 => ∃ kv2 x2 m2, m2 = (if j = 0 then m else if j = 1 then pushN m (s m[i]) else pushN (pushN m (s m[i])) (r m[i])) ∧ ρ = [some hD, some tD, some (nD p), some (.ref q), some (.ref u), some (.int (i : Int)), x2] ∧ Sub η η2 ∧ η2 q = some (.lst (m2.map nD)) ∧ η2 u = some (.nst X.w kv2) ∧ Seen2 kv2 m2 ∧ kv2.length ≤ m2.length + 2 ∧ (∀ y ∈ m2, P y), ?_, ?_, ?_, ?_⟩
      · exact ⟨kvs, x, m, rfl, rfl, hsub, hmq, hmu, hS, hkl, hP⟩
      · intros; trivial
      · rintro j d ρ η2 hj hd ⟨kv2, x2, m2, hm2, rfl, s2, a1, a2, a3, a4, a5⟩
        obtain ⟨y, rfl, hPy, hy⟩ := hst j d hj hd
        rw [← hm2] at hy
        have hm2l : m2.length ≤ m.length + 2 := by
          have h1 : ∀ (l : List Nat) (z : Nat), (pushN l z).length ≤ l.length + 1 := by
            intro l z; unfold pushN; split <;> simp
          have := h1 m (s m[i])
          have := h1 (pushN m (s m[i])) (r m[i])
          rw [hm2]; split
          · omega
          · split <;> omega
        walk_at "t"
        refine as_one (as_if (at_ninN A ?_))
        repeat walk_at "e"
        refine ⟨u, kv2, .num (y : Int), rfl, a2, dt_num y, okK_num _, fun w => ?_, fun w => ?_⟩
        · have hnm : y ∉ m2 := fun e => (a3 y).mpr e w
          replace hy := hy.trans (show pushN m2 y = m2 ++ [y] from if_neg hnm)
          refine as_cons (as_asg ?_)
          repeat walk_at "e"
          refine ag_setN A ?_
          repeat walk_at "e"
          refine ⟨u, kv2, .num (y : Int), rfl, a2, dt_num y, okK_num _, by omega, ?_⟩
          refine as_one (as_expr (ae_append ?_))
          repeat walk_at "e"
          have aq : up η2 u (.nst X.w (putA kv2 (.num (y : Int)) (.bl true))) q = some (.lst (m2.map nD)) := up_old hqu a1
          refine ⟨isL aq, ?_⟩
          repeat walk_at "e"
          refine am_append aq (by rw [List.length_map]; omega) ?_
          refine ⟨_, _, m2 ++ [y], hy.symm, rfl, (s2.up' hu0).up' hq, by rw [up_same]; simp, up_old hqu.symm up_same, seen_put a3, ?_, ?_⟩
          · have := put_len (kvs := kv2) (k := .num (y : Int)) (v := Dt.bl true)
            simp; omega
          · intro z hz
            rcases List.mem_append.mp hz with e | e
            · exact a5 z e
            · simp at e; subst e; exact hPy
        · have hm : y ∈ m2 := (a3 y).mp w
          replace hy := hy.trans (show pushN m2 y = m2 from if_pos hm)
          exact as_nil ⟨_, _, m2, hy.symm, rfl, s2, a1, a2, a3, a4, a5⟩
      · rintro ρ η2 ⟨kv2, x2, m2, hm2, rfl, s2, a1, a2, a3, a4, a5⟩
        have hm2' : m2 = pushN (pushN m (s m[i])) (r m[i]) := hm2
        refine as_one (as_aug_add A 5 rfl rfl ?_)
        repeat walk_at "e"
        have hml : m.length ≤ m2.length := by
          rw [hm2']; exact Nat.le_trans (prefix_len (pushN_prefix _ _)) (prefix_len (pushN_prefix _ _))
        exact ⟨_, rfl, fin.length - (i + 1), by omega, m2, i + 1, g', kv2, x2, rfl, s2, a1, a2, a3, a4, a5, by rw [hm2']; exact hb', by omega, by omega, rfl⟩
    · have hi : m[i]? = none := List.getElem?_eq_none (by omega)
      have hm : m = fin := by
        rw [← hb]
        cases g with
        | zero => rfl
        | succ g => rw [bfs, hi]
      subst hm
      refine as_one (as_ret ?_)
      repeat walk_at "e"
      exact ⟨_, sub_at hmq (SubX.sub hsub), h q hq⟩
end FgA
namespace FgA
open PySem PySem.Spec PyProof.Rows L2 Fg
local macro_rules | `(tactic| walk_at "n") => `(tactic| (refine is_name ?_; first
  | refine ae_nameV (by assumption) (by assumption) rfl rfl ?_
  | refine ae_glob (by assumption) (by assumption) ?_
  | refine ae_nameB (by assumption) rfl ?_))
local macro_rules | `(tactic| walk_at "set") => `(tactic| (refine is_set ?_; refine as_setV (by assumption) (by assumption) (by assumption) rfl ?_))
local macro_rules | `(tactic| walk_at "t") => `(tactic| first
  | (refine is_tgt ?_; refine ag_nameV (by assumption) (by assumption) (by assumption) rfl ?_)
  | refine ag_tup2 (by assumption) ?_
  | refine ag_tup3 (by assumption) ?_
  | refine ag_tup4 (by assumption) ?_)
local macro_rules | `(tactic| walk_at "e") => `(tactic| first
  | walk_at "n"
  | refine ae_int ?_
  | refine ae_str ?_
  | refine ae_sub' ?_
  | refine aa_cons ?_
  | refine aa_nil ?_
  | refine ae_add ?_
  | refine ae_sub ?_
  | refine ae_mul ?_
  | refine ae_mod ?_
  | refine ae_fdiv ?_
  | refine ae_tup ?_
  | refine ae_lst ?_
  | refine ae_slice ?_
  | refine ae_bl ?_
  | refine ae_non ?_
  | refine ae_len (by assumption) (by assumption) ?_
  | refine ae_abs (by assumption) (by assumption) ?_
  | refine ae_call (by assumption) (by assumption) ?_
  | refine addD_int ?_
  | (refine is_ii ?_; refine iiT trivial ?_)
  | refine szl_and rfl ?_
  | (refine is_sub ?_; first | refine subD_tup (ix0 rfl) ?_ | refine subD_tup (ix1 rfl) ?_ | refine subD_tup (ix2 rfl) ?_ | refine subD_tup (ix3 rfl) ?_))
local macro_rules | `(tactic| walk_at "h") => `(tactic| first
  | assumption
  | exact up_same
  | (refine up_new (by assumption) ?_; walk_at "h")
  | (refine up_old (by assumption) ?_; walk_at "h")
  | (refine up_old (Ne.symm (by assumption)) ?_; walk_at "h"))
local macro_rules | `(tactic| walk_at "f") => `(tactic| first
  | assumption
  | (apply free_up; walk_at "f"))
local macro_rules | `(tactic| walk_at "sub") => `(tactic| first
  | exact Sub.refl
  | (refine sub_both ?_; walk_at "sub")
  | (refine sub_new (by assumption) ?_; walk_at "sub"))
local macro_rules | `(tactic| walk_at "sx") => `(tactic| first
  | exact SubX.refl
  | (refine SubX.self ?_; walk_at "sx")
  | (refine SubX.new (by assumption) ?_; walk_at "sx"))
variable {X : Cx} {η : Eta} {Q0 : Dt → Eta → Prop}
def p_told_anew (w : World) : ASp := fun ds η Q => ∃ (hD tD : Dt) (P : Nat → Prop) (s r : Nat → Nat) (q : Addr) (m : List Nat), ds = [hD, tD, .ref q] ∧ Find w η hD tD P s r ∧ η q = some (.lst (m.map nD)) ∧ m.Nodup ∧ m.length ≤ 20000 ∧ (∀ x ∈ m, P x ∧ s x ∈ m ∧ r x ∈ m) ∧ Q (tabD (tabOf s r m)) η
theorem b_told_anew (A : At X n_told_anew (defScope s_told_anew) 0) (B : Bt X) (hf : ∀ y, X.fn y = true) {ds : List Dt} (h : p_told_anew X.w ds η Q0) :
    ASs X (defBody s_told_anew) (ds.map some ++ List.replicate 3 none) η (ends Q0) := by
  have V0 := v_told_anew
  obtain ⟨hD, tD, P, s, r, q, m, rfl, F, hq, hn, hl, hm, h⟩ := h
  refine as_cons ?_
  walk_at "set"
  refine ae_disp1 A fun u hu => ?_
  repeat walk_at "e"
  refine ⟨.none, by rw [dtOf], okK_none, up_same, ?_⟩
  rw [up_up]
  refine as_cons (as_for A (ai_enum A B ?_))
  repeat walk_at "e"
  refine ⟨q, _, rfl, up_new hu hq, fun i ρ η' => ∃ kvs x y, ρ = [some hD, some tD, some (.ref q), some (.ref u), x, y] ∧ Sub η η' ∧ η' u = some (.nst X.w kvs) ∧ (∀ (j : Nat) (z : Nat), j < i → m[j]? = some z → lkA kvs (.num (z : Int)) = some (nD j)) ∧ kvs.length ≤ i + 1, ?_, ?_, ?_, ?_⟩
  · exact ⟨_, none, none, rfl, sub_new hu Sub.refl, up_same, fun j z hj => absurd hj (Nat.not_lt_zero _), by simp [putAll, putA]⟩
  · rintro i ρ η' _ ⟨kvs, x, y, rfl, s2, _⟩
    exact s2 _ _ hq
  · rintro i d ρ η' hi ⟨y0, hy0, rfl⟩ ⟨kvs, x, y, rfl, s2, a1, a2, a3⟩
    rw [List.length_map] at hi
    rw [List.getElem?_map, List.getElem?_eq_getElem hi] at hy0
    cases hy0
    repeat walk_at "t"
    refine as_one (as_asg ?_)
    repeat walk_at "e"
    refine ag_setN A ?_
    repeat walk_at "e"
    refine ⟨u, kvs, .num (m[i] : Int), rfl, a1, dt_num _, okK_num _, by omega, ⟨_, _, _, rfl, s2.up' hu, up_same, fun j z hj hz => ?_, ?_⟩⟩
    · rw [lkA_put]
      by_cases e : j = i
      · subst e
        rw [List.getElem?_eq_getElem hi] at hz
        cases hz
        rw [if_pos rfl]; rfl
      · rw [if_neg, a2 j z (by omega) hz]
        intro e2
        have e3 : z = m[i] := by injection e2 with e2; omega
        obtain ⟨hjl, hje⟩ := List.getElem?_eq_some_iff.mp hz
        exact e ((List.getElem_inj hn).mp (hje.trans e3))
    · have := put_len (kvs := kvs) (k := .num (m[i] : Int)) (v := Dt.int (i : Nat)); omega
  · rintro ρ η' ⟨kvs, x, y, rfl, s2, a1, a2, a3⟩
    have hlk : ∀ z ∈ m, ItemOf X.w η' (.ref u) (nD z) (nD (m.idxOf z)) := by
      intro z hz
      rw [dt_num]
      refine .nst a1 (a2 _ z ?_ ?_) (okK_num _)
      · rw [List.length_map]; exact List.idxOf_lt_length_of_mem hz
      · rw [List.getElem?_eq_getElem (List.idxOf_lt_length_of_mem hz), List.getElem_idxOf]
    have F' := F.sub s2
    have hq' := s2 _ _ hq
    refine as_one (as_ret ?_)
    refine ae_tup (aa_cons (ae_tuple A B (ae_lc1 A (ai_list ?_))))
    repeat walk_at "e"
    refine ⟨q, _, rfl, hq', by rw [List.length_map]; omega, fun η η' s e => s _ _ e, hq', fun j e => ∃ z, m[j]? = some z ∧ e = nD (m.idxOf (s z)), ?_, ?_⟩
    · intro j d D acc X' hj hd hD hla A' b
      rw [List.getElem?_map] at hd
      obtain ⟨z, hz, rfl⟩ := Option.map_eq_some_iff.mp hd
      obtain ⟨h1, h2, h3⟩ := hm z (List.mem_of_getElem? hz)
      have hw : X'.w = X.w := by obtain ⟨s, H, C, cl, fp, rfl⟩ := b.ex; rfl
      refine ae_item A' ?_
      walk_at "e"
      refine ae_item A' ?_
      repeat walk_at "e"
      rw [hw]
      refine ⟨(F'.h z h1).sub (Sub.up hD), ?_⟩
      exact ⟨(hlk _ h2).sub (Sub.up hD), Sub.refl, z, hz, rfl⟩
    intro D acc hD hla hF
    have hacc := acc_eq (f := fun z => nD (m.idxOf (s z))) (by rw [hla, List.length_map]) hF
    subst hacc
    refine ⟨_, items_l up_same, ?_⟩
    refine aa_cons (ae_tuple A B (ae_lc1 A (ai_list ?_)))
    repeat walk_at "e"
    have sD : Sub η' (up η' D (.lst (m.map fun z => nD (m.idxOf (s z))))) := Sub.up hD
    refine ⟨q, _, rfl, sD _ _ hq', by rw [List.length_map]; omega, fun η η' s e => s _ _ e, sD _ _ hq', fun j e => ∃ z, m[j]? = some z ∧ e = nD (m.idxOf (r z)), ?_, ?_⟩
    · intro j d D2 acc X' hj hd hD2 hla A' b
      rw [List.getElem?_map] at hd
      obtain ⟨z, hz, rfl⟩ := Option.map_eq_some_iff.mp hd
      obtain ⟨h1, h2, h3⟩ := hm z (List.mem_of_getElem? hz)
      have hw : X'.w = X.w := by obtain ⟨s, H, C, cl, fp, rfl⟩ := b.ex; rfl
      have s3 := sD.trans (Sub.up (m := .lst acc) hD2)
      refine ae_item A' ?_
      walk_at "e"
      refine ae_item A' ?_
      repeat walk_at "e"
      rw [hw]
      refine ⟨(F'.t z h1).sub s3, ?_⟩
      exact ⟨(hlk _ h3).sub s3, Sub.refl, z, hz, rfl⟩
    intro D2 acc hD2 hla hF
    have hacc := acc_eq (f := fun z => nD (m.idxOf (r z))) (by rw [hla, List.length_map]) hF
    subst hacc
    refine ⟨_, items_l up_same, ?_⟩
    repeat walk_at "e"
    refine ⟨η, (s2.trans sD).trans (Sub.up hD2), ?_⟩
    have e : tabD (tabOf s r m) = .tup [.tup (m.map fun z => nD (m.idxOf (s z))), .tup (m.map fun z => nD (m.idxOf (r z)))] := by
      unfold tabD tabOf
      rw [List.map_map, List.map_map]; rfl
    rw [e] at h
    exact h

theorem leads_lst {w : World} {η : Eta} {r : Addr} {l : List Nat} {n : Nat} (h : η r = some (.lst (l.map nD))) (hn : n ≤ l.length) : Leads w η (.ref r) (fun x => x < n) (fun x => l.getD x 0) := fun x hx => .lst h (atN (nD_get (by omega)))
theorem leads_tup {w : World} {η : Eta} {l : List Nat} {n : Nat} (hn : n ≤ l.length) : Leads w η (.tup (l.map nD)) (fun x => x < n) (fun x => l.getD x 0) := fun x hx => .tup (atN (nD_get (by omega)))
def p_numbered (w : World) : ASp := fun ds η Q => ∃ (T : Tab) (r1 r2 : Addr) (p : Nat), Valid T ∧ T.n ≤ 1000 ∧ ds = [.ref r1, .ref r2, nD p] ∧ η r1 = some (.lst (T.hs.map nD)) ∧ η r2 = some (.lst (T.ts.map nD)) ∧ p < T.n ∧ Q (tabD (anew T p)) η
theorem b_numbered (A : At X n_numbered (defScope s_numbered) 1) (B : Bt X) (hf : ∀ y, X.fn y = true) (f1 : FX X "goes_back" 1 2 p_goes_back) (f2 : FX X "met_from" 1 3 (p_met_from X.w)) (f3 : FX X "told_anew" 1 3 (p_told_anew X.w)) {ds : List Dt} (h : p_numbered X.w ds η Q0) :
    ASs X (defBody s_numbered) (ds.map some ++ List.replicate 1 none) η (ends Q0) := by
  have V0 := v_numbered
  obtain ⟨T, r1, r2, p, V, hn, rfl, h1, h2, hp, h⟩ := h
  obtain ⟨hM, hML, hMP, hV, hVn⟩ := anew_met V hp
  have F : Find X.w η (.ref r1) (.ref r2) (fun x => x < T.n) T.s T.r := ⟨leads_lst h1 (Nat.le_refl _), leads_lst h2 (by rw [V.len]; exact Nat.le_refl _), fun x hx => vs_lt V hx, fun x hx => vr_lt V hx⟩
  refine as_cons (as_if (at_bool (aw_or (at_not (at_val ?_)))))
  repeat walk_at "e"
  refine ⟨rfl, r1, T.hs, 2, rfl, h1, hn, by decide, fun x hx => vs_lt V hx, fun x hx => V.sys.ss x hx, true, rfl, fun _ => ?_, fun z => (by cases z)⟩
  refine aw_or1 (at_not (at_val ?_))
  repeat walk_at "e"
  refine ⟨rfl, r2, T.ts, 3, rfl, h2, by rw [V.len]; exact hn, by decide, fun x hx => by rw [V.len] at hx ⊢; exact vr_lt V hx, fun x hx => V.sys.rrr x (by rw [V.len] at hx; exact hx), true, rfl, fun _ => ?_, fun z => (by cases z)⟩
  refine as_nil ?_
  refine as_cons ?_
  walk_at "set"
  repeat walk_at "e"
  refine ⟨rfl, .ref r1, .ref r2, _, T.s, T.r, p, T.n, rfl, F, hp, by rw [hML]; exact Nat.le_refl _, by omega, fun q hq => ?_⟩
  refine as_cons (as_if (at_lt ?_))
  repeat walk_at "e"
  refine len_l up_same (by rw [List.length_map, hML]; omega) ?_
  repeat walk_at "e"
  refine len_l (up_new hq h1) (by rw [List.length_map]; exact Nat.le_trans hn (by decide)) ?_
  rw [List.length_map, List.length_map, hML]
  refine ⟨_, _, rfl, rfl, fun z => absurd z (by show ¬ ((T.n : Nat) : Int) < ((T.n : Nat) : Int); omega), fun _ => ?_⟩
  refine as_nil ?_
  refine as_one (as_ret ?_)
  repeat walk_at "e"
  exact ⟨rfl, .ref r1, .ref r2, _, T.s, T.r, q, _, rfl, F.sub (Sub.up hq), up_same, hM.nd, by rw [hML]; omega, fun x hx => ⟨hMP x hx, hM.cl x hx⟩, _, Sub.up hq, h⟩
def p_turned : ASp := fun ds η Q => ∃ (T : Tab) (M : Mat) (w : Wd), Valid T ∧ T.n ≤ 1000 ∧ WOk M w ∧ ds = [tabD T, matD M] ∧ Q (tabD (anew T (run T.s T.r w 0))) η
theorem b_turned (A : At X n_turned (defScope s_turned) 4) (B : Bt X) (hf : ∀ y, X.fn y = true) (f1 : FX X "numbered" 2 3 (p_numbered X.w)) (f2 : FX X "place_of" 4 2 p_place_of) {ds : List Dt} (h : p_turned ds η Q0) :
    ASs X (defBody s_turned) (ds.map some ++ List.replicate 0 none) η (ends Q0) := by
  have V0 := v_turned
  obtain ⟨T, M, w, V, hn, hw, rfl, h⟩ := h
  refine as_one (as_ret ?_)
  refine ae_call A f1 (aa_cons (ae_list A B ?_))
  repeat walk_at "e"
  refine ⟨_, rfl, fun r1 hr1 => ?_⟩
  refine aa_cons (ae_list A B ?_)
  repeat walk_at "e"
  refine ⟨_, rfl, fun r2 hr2 => ?_⟩
  repeat walk_at "e"
  refine ⟨rfl, T, M, w, V, hw, rfl, ?_⟩
  repeat walk_at "e"
  exact ⟨rfl, T, r1, r2, _, V, hn, rfl, (by walk_at "h"), (by walk_at "h"), V.run_lt _ V.pos, η, (by walk_at "sub"), h⟩
end FgA
namespace FgA
open PySem PySem.Spec PyProof.Rows L2 Fg
local macro_rules | `(tactic| walk_at "n") => `(tactic| (refine is_name ?_; first
  | refine ae_nameV (by assumption) (by assumption) rfl rfl ?_
  | refine ae_glob (by assumption) (by assumption) ?_
  | refine ae_nameB (by assumption) rfl ?_))
local macro_rules | `(tactic| walk_at "set") => `(tactic| (refine is_set ?_; refine as_setV (by assumption) (by assumption) (by assumption) rfl ?_))
local macro_rules | `(tactic| walk_at "t") => `(tactic| first
  | (refine is_tgt ?_; refine ag_nameV (by assumption) (by assumption) (by assumption) rfl ?_)
  | refine ag_tup2 (by assumption) ?_
  | refine ag_tup3 (by assumption) ?_
  | refine ag_tup4 (by assumption) ?_)
local macro_rules | `(tactic| walk_at "e") => `(tactic| first
  | walk_at "n"
  | refine ae_int ?_
  | refine ae_str ?_
  | refine ae_sub' ?_
  | refine aa_cons ?_
  | refine aa_nil ?_
  | refine ae_add ?_
  | refine ae_sub ?_
  | refine ae_mul ?_
  | refine ae_mod ?_
  | refine ae_fdiv ?_
  | refine ae_tup ?_
  | refine ae_lst ?_
  | refine ae_slice ?_
  | refine ae_bl ?_
  | refine ae_non ?_
  | refine ae_len (by assumption) (by assumption) ?_
  | refine ae_abs (by assumption) (by assumption) ?_
  | refine ae_call (by assumption) (by assumption) ?_
  | refine addD_int ?_
  | (refine is_ii ?_; refine iiT trivial ?_)
  | refine szl_and rfl ?_
  | (refine is_sub ?_; first | refine subD_tup (ix0 rfl) ?_ | refine subD_tup (ix1 rfl) ?_ | refine subD_tup (ix2 rfl) ?_ | refine subD_tup (ix3 rfl) ?_))
local macro_rules | `(tactic| walk_at "h") => `(tactic| first
  | assumption
  | exact up_same
  | (refine up_new (by assumption) ?_; walk_at "h")
  | (refine up_old (by assumption) ?_; walk_at "h")
  | (refine up_old (Ne.symm (by assumption)) ?_; walk_at "h"))
local macro_rules | `(tactic| walk_at "f") => `(tactic| first
  | assumption
  | (apply free_up; walk_at "f"))
local macro_rules | `(tactic| walk_at "sub") => `(tactic| first
  | exact Sub.refl
  | (refine sub_both ?_; walk_at "sub")
  | (refine sub_new (by assumption) ?_; walk_at "sub"))
local macro_rules | `(tactic| walk_at "sx") => `(tactic| first
  | exact SubX.refl
  | (refine SubX.self ?_; walk_at "sx")
  | (refine SubX.new (by assumption) ?_; walk_at "sx"))
variable {X : Cx} {η : Eta} {Q0 : Dt → Eta → Prop}
theorem oD_some (n : Nat) : oD (some n) = nD n := rfl
theorem hd_get {l : List Nat} {i : Nat} (h : i < l.length) : atI (l.map nD) (i : Int) = some (nD (l.getD i i)) := by
  refine atN ?_
  rw [List.getElem?_map, List.getElem?_eq_getElem h, List.getD_eq_getElem?_getD, List.getElem?_eq_getElem h]; rfl
theorem lk_get {l : List (Option Nat)} {i : Nat} (h : i < l.length) : atI (l.map oD) (i : Int) = some (oD (lk l i)) := by
  refine atN ?_
  unfold lk
  rw [List.getElem?_map, List.getElem?_eq_getElem h, List.getD_eq_getElem?_getD, List.getElem?_eq_getElem h]; rfl
def p_head_of (C : Addr) : ASp := fun ds η Q => ∃ (p a b c : Addr) (F : Fo) (x : Nat), ds = [.ref p, nD x] ∧ FoldAt η C p a b c F ∧ Low F.hd ∧ x < F.n ∧ Q (nD (root F.hd x)) η
theorem b_head_of {C : Addr} (A : At X n_head_of (defScope s_head_of) 0) (B : Bt X) (hf : ∀ y, X.fn y = true) (FC : FoldC X C) {ds : List Dt} (h : p_head_of C ds η Q0) :
    ASs X (defBody s_head_of) (ds.map some ++ List.replicate 0 none) η (ends Q0) := by
  have V0 := v_head_of
  obtain ⟨p, a, b, c, F, x, rfl, hF, hL, hx, h⟩ := h
  refine as_cons ?_
  refine as_while A (fun m ρ η' => ∃ y : Nat, ρ = [some (.ref p), some (nD y)] ∧ η' = η ∧ y < F.n ∧ root F.hd y = root F.hd x ∧ m = y) x ⟨x, rfl, rfl, hx, rfl, rfl⟩ ?_
  rintro m ρ η' ⟨y, rfl, rfl, hy, hr, hm⟩
  have hy' : y < F.hd.length := hy
  refine at_ne A (ae_sub' (ae_attr ?_))
  repeat walk_at "e"
  refine fld_c hF FC ?_
  repeat walk_at "e"
  refine subD_lst hF.fc (hd_get hy') ?_
  repeat walk_at "e"
  refine ⟨cmpr_of (okd_nD _ _) (okd_nD _ _), fun z => ?_, fun z => ?_⟩
  · have hne : F.hd.getD y y ≠ y := fun e => z (by rw [e])
    have hle := hL y
    refine as_one ?_
    walk_at "set"
    refine ae_sub' (ae_attr ?_)
    repeat walk_at "e"
    refine fld_c hF FC ?_
    repeat walk_at "e"
    refine subD_lst hF.fc (hd_get hy') ?_
    exact ⟨F.hd.getD y y, by omega, _, rfl, rfl, by omega, by rw [root_step hle, hr], rfl⟩
  · have he : F.hd.getD y y = y := nD_inj z
    refine as_one (as_ret ?_)
    repeat walk_at "e"
    rw [← hr, root_fix he] at h
    exact ⟨_, Sub.refl, h⟩
theorem oD_none : oD none = Dt.non := rfl
def p_new_place (C : Addr) : ASp := fun ds η Q => ∃ (p a b c : Addr) (F : Fo), ds = [.ref p] ∧ FoldAt η C p a b c F ∧ F.hs.length = F.n ∧ F.ts.length = F.n ∧ F.n ≤ 50000 ∧ ∀ η', FoldAt η' C p a b c (addF F) → Ch a b c η η' → Q (nD F.n) η'
theorem b_new_place {C : Addr} (A : At X n_new_place (defScope s_new_place) 0) (B : Bt X) (hf : ∀ y, X.fn y = true) (FC : FoldC X C) {ds : List Dt} (h : p_new_place C ds η Q0) :
    ASs X (defBody s_new_place) (ds.map some ++ List.replicate 1 none) η (ends Q0) := by
  have V0 := v_new_place
  obtain ⟨p, a, b, c, F, rfl, hF, h1, h2, h3, h⟩ := h
  have hn : F.hd.length = F.n := rfl
  refine as_cons ?_
  walk_at "set"
  refine ae_len A B (ae_attr ?_)
  repeat walk_at "e"
  refine fld_c hF FC ?_
  refine len_l hF.fc (by rw [List.length_map]; omega) ?_
  rw [List.length_map, hn]
  refine as_cons (as_expr (ae_append (ae_attr ?_)))
  repeat walk_at "e"
  refine fld_a hF FC ⟨isL hF.fa, ?_⟩
  repeat walk_at "e"
  refine am_append hF.fa (by rw [List.length_map]; omega) ?_
  have F1 := hF.ua (F.hs ++ [none])
  rw [List.map_append] at F1
  refine as_cons (as_expr (ae_append (ae_attr ?_)))
  repeat walk_at "e"
  refine fld_b F1 FC ⟨isL F1.fb, ?_⟩
  repeat walk_at "e"
  refine am_append F1.fb (by rw [List.length_map]; show F.ts.length < _; omega) ?_
  have F2 := F1.ub (F.ts ++ [none])
  rw [List.map_append] at F2
  refine as_cons (as_expr (ae_append (ae_attr ?_)))
  repeat walk_at "e"
  refine fld_c F2 FC ⟨isL F2.fc, ?_⟩
  repeat walk_at "e"
  refine am_append F2.fc (by rw [List.length_map]; show F.hd.length < _; omega) ?_
  have F3 := F2.uc (F.hd ++ [F.n])
  rw [List.map_append] at F3
  refine as_one (as_ret ?_)
  repeat walk_at "e"
  exact ⟨_, Sub.refl, h _ F3 ((Ch.a.trans Ch.b).trans Ch.c)⟩
theorem map_set_o (l : List (Option Nat)) (i : Nat) (v : Option Nat) : (l.map oD).set i (oD v) = (l.set i v).map oD := by rw [List.map_set]
structure FSz (F : Fo) : Prop where
  h : F.hs.length = F.n
  t : F.ts.length = F.n
theorem FI.sz {F : Fo} {wt : List (Nat × Nat)} (I : FI F wt) : FSz F := ⟨I.lh.ln, I.lt.ln⟩
def p_half_behind (C : Addr) : ASp := fun ds η Q => ∃ (p a b c : Addr) (F : Fo) (x : Nat), ds = [.ref p, nD x] ∧ FoldAt η C p a b c F ∧ FI F [] ∧ F.n ≤ 40000 ∧ x < F.n ∧ ∀ η', FoldAt η' C p a b c (halfB F x).1 → Ch a b c η η' → Q (nD (halfB F x).2) η'
theorem b_half_behind {C : Addr} (A : At X n_half_behind (defScope s_half_behind) 1) (B : Bt X) (hf : ∀ y, X.fn y = true) (FC : FoldC X C) (f1 : FX X "head_of" 1 2 (p_head_of C)) (f2 : FX X "new_place" 1 1 (p_new_place C)) {ds : List Dt} (h : p_half_behind C ds η Q0) :
    ASs X (defBody s_half_behind) (ds.map some ++ List.replicate 1 none) η (ends Q0) := by
  have V0 := v_half_behind
  obtain ⟨p, a, b, c, F, x, rfl, hF, I, hn, hx, h⟩ := h
  have S := FI.sz I
  have hxh : x < F.hs.length := by rw [S.h]; exact hx
  refine as_cons (as_if (at_isN (ae_sub' (ae_attr ?_))))
  repeat walk_at "e"
  refine fld_a hF FC ?_
  repeat walk_at "e"
  refine subD_lst hF.fa (lk_get hxh) ?_
  refine ⟨fun z => ?_, fun z => ?_⟩
  · have hl : lk F.hs x = none := by
      cases e : lk F.hs x with
      | none => rfl
      | some y => rw [e] at z; cases z
    rw [halfB, hl] at h
    refine as_cons ?_
    walk_at "set"
    repeat walk_at "e"
    refine ⟨rfl, p, a, b, c, F, rfl, hF, S.h, S.t, by omega, fun η1 F1 c1 => ?_⟩
    have l1 : (addF F).hs.length = F.n + 1 := by show (F.hs ++ [none]).length = _; simp [S.h]
    refine as_cons (as_asg ?_)
    repeat walk_at "e"
    refine ag_sub A (ae_attr ?_)
    repeat walk_at "e"
    refine fld_a F1 FC ?_
    repeat walk_at "e"
    refine ⟨a, _, _, rfl, F1.fa, set_lst (by rw [List.length_map, l1]; omega), ?_⟩
    rw [← oD_some F.n, map_set_o]
    have F2 := F1.ua ((addF F).hs.set x (some F.n))
    refine as_one (as_asg ?_)
    repeat walk_at "e"
    refine ag_sub A (ae_attr ?_)
    repeat walk_at "e"
    refine fld_a F2 FC ?_
    repeat walk_at "e"
    refine ⟨a, _, _, rfl, F2.fa, set_lst (by rw [List.length_map, List.length_set, l1]; omega), ?_⟩
    rw [← oD_some x, map_set_o]
    have F3 := F2.ua (((addF F).hs.set x (some F.n)).set F.n (some x))
    have hFh : FoldAt (up (up η1 a (.lst (((addF F).hs.set x (some F.n)).map oD))) a (.lst ((((addF F).hs.set x (some F.n)).set F.n (some x)).map oD))) C p a b c (halfF F x) := F3
    have lx : lk (halfF F x).hs x = some F.n := by
      show lk (((F.hs ++ [none]).set x (some F.n)).set F.n (some x)) x = _
      rw [lk_set _ _ _ _ (by simp [S.h]), if_neg (by omega), lk_set _ _ _ _ (by simp [S.h]; omega), if_pos rfl]
    refine as_one (as_ret ?_)
    refine ae_call A f1 (aa_cons ?_)
    repeat walk_at "e"
    refine ae_attr ?_
    repeat walk_at "e"
    refine fld_a hFh FC ?_
    repeat walk_at "e"
    refine subD_lst hFh.fa (lk_get (by show x < (((F.hs ++ [none]).set x (some F.n)).set F.n (some x)).length; simp [S.h]; omega)) ?_
    rw [lx, oD_some]
    repeat walk_at "e"
    refine ⟨rfl, p, a, b, c, halfF F x, F.n, rfl, hFh, low_app I.low, by show F.n < (F.hd ++ [F.n]).length; simp; exact Nat.lt_succ_self _, ?_⟩
    have e : root (halfF F x).hd F.n = F.n := by
      show root (F.hd ++ [F.hd.length]) F.n = F.n
      rw [root_app I.low]; exact root_out (Nat.le_refl _)
    rw [e]
    exact ⟨_, Sub.refl, h _ hFh ((c1.trans Ch.a).trans Ch.a)⟩
  · cases hl : lk F.hs x with
    | none => rw [hl] at z; exact absurd rfl z
    | some y =>
      rw [halfB, hl] at h
      refine as_nil ?_
      refine as_one (as_ret ?_)
      refine ae_call A f1 (aa_cons ?_)
      repeat walk_at "e"
      refine ae_attr ?_
      repeat walk_at "e"
      refine fld_a hF FC ?_
      repeat walk_at "e"
      refine subD_lst hF.fa (lk_get hxh) ?_
      rw [hl, oD_some]
      repeat walk_at "e"
      exact ⟨rfl, p, a, b, c, F, y, rfl, hF, I.low, I.lh.bd _ _ hl, _, Sub.refl, h _ hF Ch.refl⟩
def p_third_behind (C : Addr) : ASp := fun ds η Q => ∃ (p a b c : Addr) (F : Fo) (x : Nat), ds = [.ref p, nD x] ∧ FoldAt η C p a b c F ∧ FI F [] ∧ F.n ≤ 40000 ∧ x < F.n ∧ ∀ η', FoldAt η' C p a b c (thirdB F x).1 → Ch a b c η η' → Q (nD (thirdB F x).2) η'
theorem b_third_behind {C : Addr} (A : At X n_third_behind (defScope s_third_behind) 1) (B : Bt X) (hf : ∀ y, X.fn y = true) (FC : FoldC X C) (f1 : FX X "head_of" 1 2 (p_head_of C)) (f2 : FX X "new_place" 1 1 (p_new_place C)) {ds : List Dt} (h : p_third_behind C ds η Q0) :
    ASs X (defBody s_third_behind) (ds.map some ++ List.replicate 2 none) η (ends Q0) := by
  have V0 := v_third_behind
  obtain ⟨p, a, b, c, F, x, rfl, hF, I, hn, hx, h⟩ := h
  have S := FI.sz I
  have hxh : x < F.ts.length := by rw [S.t]; exact hx
  refine as_cons (as_if (at_isN (ae_sub' (ae_attr ?_))))
  repeat walk_at "e"
  refine fld_b hF FC ?_
  repeat walk_at "e"
  refine subD_lst hF.fb (lk_get hxh) ?_
  refine ⟨fun z => ?_, fun z => ?_⟩
  · have hl : lk F.ts x = none := by
      cases e : lk F.ts x with
      | none => rfl
      | some y => rw [e] at z; cases z
    rw [thirdB, hl] at h
    refine as_cons ?_
    walk_at "set"
    repeat walk_at "e"
    refine ⟨rfl, p, a, b, c, F, rfl, hF, S.h, S.t, by omega, fun η1 F1 c1 => ?_⟩
    have n1 : (addF F).n = F.n + 1 := by show (F.hd ++ [F.n]).length = _; simp; rfl
    have lh : (addF F).hs.length = (addF F).n := by rw [n1]; show (F.hs ++ [none]).length = _; simp [S.h]
    have lt : (addF F).ts.length = (addF F).n := by rw [n1]; show (F.ts ++ [none]).length = _; simp [S.t]
    refine as_cons ?_
    walk_at "set"
    repeat walk_at "e"
    refine ⟨rfl, p, a, b, c, addF F, rfl, F1, lh, lt, by omega, fun η2 F2 c2 => ?_⟩
    have n2 : (addF (addF F)).n = F.n + 2 := by show ((F.hd ++ [F.n]) ++ [(addF F).n]).length = _; simp; rfl
    have l2 : (addF (addF F)).ts.length = F.n + 2 := by show ((F.ts ++ [none]) ++ [none]).length = _; simp [S.t]
    rw [n1]
    refine as_cons (as_asg ?_)
    repeat walk_at "e"
    refine ag_sub A (ae_attr ?_)
    repeat walk_at "e"
    refine fld_b F2 FC ?_
    repeat walk_at "e"
    refine ⟨b, _, _, rfl, F2.fb, set_lst (by rw [List.length_map, l2]; omega), ?_⟩
    rw [← oD_some F.n, map_set_o]
    have F3 := F2.ub ((addF (addF F)).ts.set x (some F.n))
    refine as_cons (as_asg ?_)
    repeat walk_at "e"
    refine ag_sub A (ae_attr ?_)
    repeat walk_at "e"
    refine fld_b F3 FC ?_
    repeat walk_at "e"
    refine ⟨b, _, _, rfl, F3.fb, set_lst (by rw [List.length_map, List.length_set, l2]; omega), ?_⟩
    rw [← oD_some (F.n + 1), map_set_o]
    have F4 := F3.ub (((addF (addF F)).ts.set x (some F.n)).set F.n (some (F.n + 1)))
    refine as_one (as_asg ?_)
    repeat walk_at "e"
    refine ag_sub A (ae_attr ?_)
    repeat walk_at "e"
    refine fld_b F4 FC ?_
    repeat walk_at "e"
    refine ⟨b, _, _, rfl, F4.fb, set_lst (by rw [List.length_map, List.length_set, List.length_set, l2]; omega), ?_⟩
    rw [← oD_some x, map_set_o]
    have F5 := F4.ub ((((addF (addF F)).ts.set x (some F.n)).set F.n (some (F.n + 1))).set (F.n + 1) (some x))
    have e5 : (⟨(addF (addF F)).hs, (((addF (addF F)).ts.set x (some F.n)).set F.n (some (F.n + 1))).set (F.n + 1) (some x), (addF (addF F)).hd⟩ : Fo) = thirdF F x := by
      have eh : (addF (addF F)).hd = F.hd ++ [F.n] ++ [F.n + 1] := by
        show (F.hd ++ [F.n]) ++ [(addF F).n] = _
        rw [n1]
      rw [eh]; rfl
    rw [e5] at F5
    have lx : lk (thirdF F x).ts x = some F.n := by
      have h3 : (F.ts ++ [none] ++ [none]).length = F.n + 2 := by simp [S.t]
      show lk ((((F.ts ++ [none] ++ [none]).set x (some F.n)).set F.n (some (F.n + 1))).set (F.n + 1) (some x)) x = _
      rw [lk_set _ _ _ _ (by rw [List.length_set, List.length_set, h3]; omega), if_neg (by omega), lk_set _ _ _ _ (by rw [List.length_set, h3]; omega), if_neg (by omega), lk_set _ _ _ _ (by rw [h3]; omega), if_pos rfl]
    have lts : (thirdF F x).ts.length = F.n + 2 := by
      show ((((F.ts ++ [none] ++ [none]).set x (some F.n)).set F.n (some (F.n + 1))).set (F.n + 1) (some x)).length = _
      simp [S.t]
    have lhd : (thirdF F x).n = F.n + 2 := by show (F.hd ++ [F.n] ++ [F.n + 1]).length = _; simp; rfl
    have low1 : Low (F.hd ++ [F.n]) := low_app I.low
    have hlen1 : (F.hd ++ [F.n]).length = F.n + 1 := by simp; rfl
    have low2 : Low (thirdF F x).hd := by
      show Low (F.hd ++ [F.n] ++ [F.n + 1])
      rw [← hlen1]; exact low_app low1
    refine as_one (as_ret ?_)
    refine ae_call A f1 (aa_cons ?_)
    repeat walk_at "e"
    refine ae_attr ?_
    repeat walk_at "e"
    refine fld_b F5 FC ?_
    repeat walk_at "e"
    refine subD_lst F5.fb (lk_get (by rw [lts]; omega)) ?_
    rw [lx, oD_some]
    repeat walk_at "e"
    refine ⟨rfl, p, a, b, c, thirdF F x, F.n, rfl, F5, low2, by rw [lhd]; omega, ?_⟩
    have e : root (thirdF F x).hd F.n = F.n := by
      show root (F.hd ++ [F.n] ++ [F.n + 1]) F.n = F.n
      rw [← hlen1, root_app low1]
      show root (F.hd ++ [F.hd.length]) F.n = F.n
      rw [root_app I.low]; exact root_out (Nat.le_refl _)
    rw [e]
    exact ⟨_, Sub.refl, h _ F5 ((((c1.trans c2).trans Ch.b).trans Ch.b).trans Ch.b)⟩
  · cases hl : lk F.ts x with
    | none => rw [hl] at z; exact absurd rfl z
    | some y =>
      rw [thirdB, hl] at h
      refine as_nil ?_
      refine as_one (as_ret ?_)
      refine ae_call A f1 (aa_cons ?_)
      repeat walk_at "e"
      refine ae_attr ?_
      repeat walk_at "e"
      refine fld_b hF FC ?_
      repeat walk_at "e"
      refine subD_lst hF.fb (lk_get hxh) ?_
      rw [hl, oD_some]
      repeat walk_at "e"
      exact ⟨rfl, p, a, b, c, F, y, rfl, hF, I.low, I.lt.bd _ _ hl, _, Sub.refl, h _ hF Ch.refl⟩

def p_walked (C : Addr) : ASp := fun ds η Q => ∃ (p a b c : Addr) (F : Fo) (w : Wd), ds = [.ref p, .str (wS w)] ∧ FoldAt η C p a b c F ∧ FI F [] ∧ Con F ∧ F.n + 4 * w.length ≤ 40000 ∧ ∀ η', FoldAt η' C p a b c (walkF w F 0).1 → Ch a b c η η' → Q (nD (walkF w F 0).2) η'
theorem walkF_snoc (w : Wd) (x : L) (F : Fo) (p : Nat) : walkF (w ++ [x]) F p = stepF x (walkF w F p).1 (walkF w F p).2 := by unfold walkF; rw [List.foldl_append]; rfl
theorem b_walked {C : Addr} (A : At X n_walked (defScope s_walked) 2) (B : Bt X) (hf : ∀ y, X.fn y = true) (f1 : FX X "head_of" 1 2 (p_head_of C)) (f2 : FX X "half_behind" 2 2 (p_half_behind C)) (f3 : FX X "third_behind" 2 2 (p_third_behind C)) {ds : List Dt} (h : p_walked C ds η Q0) :
    ASs X (defBody s_walked) (ds.map some ++ List.replicate 2 none) η (ends Q0) := by
  have V0 := v_walked
  obtain ⟨p, a, b, c, F, w, rfl, hF, I, hC, hn, h⟩ := h
  have r0 : root F.hd 0 = 0 := Nat.le_zero.mp (root_le F.hd 0)
  have ok : ∀ i, Stepped F 0 (w.take i) (walkF (w.take i) F 0).1 (walkF (w.take i) F 0).2 := fun i => walkF_ok _ I hC I.pos r0
  refine as_cons ?_
  walk_at "set"
  repeat walk_at "e"
  refine ⟨rfl, p, a, b, c, F, 0, rfl, hF, I.low, I.pos, ?_⟩
  rw [r0]
  refine as_cons (as_for A (ai_str ?_))
  repeat walk_at "e"
  refine ⟨wS w, rfl, fun i ρ η' => ∃ x, ρ = [some (.ref p), some (.str (wS w)), some (nD (walkF (w.take i) F 0).2), x] ∧ FoldAt η' C p a b c (walkF (w.take i) F 0).1 ∧ Ch a b c η η', ?_, ?_, ?_, ?_⟩
  · exact ⟨none, rfl, hF, Ch.refl⟩
  · intros; trivial
  · rintro i d ρ η' hi ⟨ch, hc, rfl⟩ ⟨x, rfl, hG, hch⟩
    have hi' : i < w.length := by rw [← wS_length w]; exact hi
    have hcc : ch = chL w[i] := by
      unfold wS at hc
      simp [hi'] at hc
      exact hc.symm
    subst hcc
    have hw : walkF (w.take (i + 1)) F 0 = stepF w[i] (walkF (w.take i) F 0).1 (walkF (w.take i) F 0).2 := by
      rw [← List.take_append_getElem hi', walkF_snoc]
    have S := ok i
    have hsz := S.sz
    have htl : (w.take i).length = i := by simp; omega
    generalize hGG : walkF (w.take i) F 0 = G at S hG hw hsz
    obtain ⟨G, y⟩ := G
    replace hsz : G.n ≤ F.n + 4 * (w.take i).length := hsz
    walk_at "t"
    refine as_one (as_if (at_eq A ?_))
    repeat walk_at "e"
    refine ⟨cmpr_of (okd_lt _ _) (okd_lt _ .s), fun z => ?_, fun z => ?_⟩
    · have hx : w[i] = .s := lt_s_iff.mp z
      rw [hx] at hw
      refine as_one ?_
      walk_at "set"
      repeat walk_at "e"
      refine ⟨rfl, p, a, b, c, G, y, rfl, hG, S.fi, by omega, S.lt, fun η2 F2 c2 => ?_⟩
      exact ⟨_, by rw [hw]; rfl, by rw [hw]; exact F2, hch.trans c2⟩
    · have hx : w[i] ≠ .s := fun e => z (by rw [e]; rfl)
      refine as_cons ?_
      walk_at "set"
      repeat walk_at "e"
      refine ⟨rfl, p, a, b, c, G, y, rfl, hG, S.fi, by omega, S.lt, fun η2 F2 c2 => ?_⟩
      have S2 := thirdB_ok S.fi S.con S.lt S.rt
      have hn2 := thirdB_n G y
      refine as_one (as_if (at_eq A ?_))
      repeat walk_at "e"
      refine ⟨cmpr_of (okd_lt _ _) (okd_lt _ .q), fun z2 => ?_, fun z2 => ?_⟩
      · have hx2 : w[i] = .q := ltD_inj (y := .q) z2
        rw [hx2] at hw
        refine as_one ?_
        walk_at "set"
        repeat walk_at "e"
        refine ⟨rfl, p, a, b, c, _, _, rfl, F2, S2.fi, by omega, S2.lt, fun η3 F3 c3 => ?_⟩
        exact ⟨_, by rw [hw]; rfl, by rw [hw]; exact F3, (hch.trans c2).trans c3⟩
      · have hx2 : w[i] ≠ .q := fun e => z2 (by rw [e]; rfl)
        have hx3 : w[i] = .r := by
          cases h3 : w[i] with
          | s => exact absurd h3 hx
          | r => rfl
          | q => exact absurd h3 hx2
        rw [hx3] at hw
        exact as_nil ⟨_, by rw [hw]; rfl, by rw [hw]; exact F2, hch.trans c2⟩
  · rintro ρ η' ⟨x, rfl, hG, hch⟩
    have hw : w.take (wS w).cps.size = w := List.take_of_length_le (by rw [show (wS w).cps.size = w.length from wS_length w]; exact Nat.le_refl _)
    rw [hw] at hG ⊢
    refine as_one (as_ret ?_)
    repeat walk_at "e"
    exact ⟨_, Sub.refl, h _ hG hch⟩
end FgA
namespace FgA
open PySem PySem.Spec PyProof.Rows L2 Fg
local macro_rules | `(tactic| walk_at "n") => `(tactic| (refine is_name ?_; first
  | refine ae_nameV (by assumption) (by assumption) rfl rfl ?_
  | refine ae_glob (by assumption) (by assumption) ?_
  | refine ae_nameB (by assumption) rfl ?_))
local macro_rules | `(tactic| walk_at "set") => `(tactic| (refine is_set ?_; refine as_setV (by assumption) (by assumption) (by assumption) rfl ?_))
local macro_rules | `(tactic| walk_at "t") => `(tactic| first
  | (refine is_tgt ?_; refine ag_nameV (by assumption) (by assumption) (by assumption) rfl ?_)
  | refine ag_tup2 (by assumption) ?_
  | refine ag_tup3 (by assumption) ?_
  | refine ag_tup4 (by assumption) ?_)
local macro_rules | `(tactic| walk_at "e") => `(tactic| first
  | walk_at "n"
  | refine ae_int ?_
  | refine ae_str ?_
  | refine ae_sub' ?_
  | refine aa_cons ?_
  | refine aa_nil ?_
  | refine ae_add ?_
  | refine ae_sub ?_
  | refine ae_mul ?_
  | refine ae_mod ?_
  | refine ae_fdiv ?_
  | refine ae_tup ?_
  | refine ae_lst ?_
  | refine ae_slice ?_
  | refine ae_bl ?_
  | refine ae_non ?_
  | refine ae_len (by assumption) (by assumption) ?_
  | refine ae_abs (by assumption) (by assumption) ?_
  | refine ae_call (by assumption) (by assumption) ?_
  | refine addD_int ?_
  | (refine is_ii ?_; refine iiT trivial ?_)
  | refine szl_and rfl ?_
  | (refine is_sub ?_; first | refine subD_tup (ix0 rfl) ?_ | refine subD_tup (ix1 rfl) ?_ | refine subD_tup (ix2 rfl) ?_ | refine subD_tup (ix3 rfl) ?_))
local macro_rules | `(tactic| walk_at "h") => `(tactic| first
  | assumption
  | exact up_same
  | (refine up_new (by assumption) ?_; walk_at "h")
  | (refine up_old (by assumption) ?_; walk_at "h")
  | (refine up_old (Ne.symm (by assumption)) ?_; walk_at "h"))
local macro_rules | `(tactic| walk_at "f") => `(tactic| first
  | assumption
  | (apply free_up; walk_at "f"))
local macro_rules | `(tactic| walk_at "sub") => `(tactic| first
  | exact Sub.refl
  | (refine sub_both ?_; walk_at "sub")
  | (refine sub_new (by assumption) ?_; walk_at "sub"))
local macro_rules | `(tactic| walk_at "sx") => `(tactic| first
  | exact SubX.refl
  | (refine SubX.self ?_; walk_at "sx")
  | (refine SubX.new (by assumption) ?_; walk_at "sx"))
variable {X : Cx} {η : Eta} {Q0 : Dt → Eta → Prop}
def pairD (x : Nat × Nat) : Dt := .tup [nD x.1, nD x.2]
/-- fold is not looked at: its value may be anything -/
def p_both_behind : ASp := fun ds η Q => ∃ (d0 : Dt) (r : Addr) (l : List (Option Nat)) (x y : Nat), ds = [d0, .ref r, nD x, nD y] ∧ η r = some (.lst (l.map oD)) ∧ x < l.length ∧ y < l.length ∧ ∀ q η', η q = none → η' r = some (.lst ((bothB l x y).1.map oD)) → η' q = some (.lst ((bothB l x y).2.map pairD)) → SubX r η η' → Q (.ref q) η'
theorem b_both_behind (A : At X n_both_behind (defScope s_both_behind) 0) (B : Bt X) (hf : ∀ y, X.fn y = true) {ds : List Dt} (h : p_both_behind ds η Q0) :
    ASs X (defBody s_both_behind) (ds.map some ++ List.replicate 0 none) η (ends Q0) := by
  have V0 := v_both_behind
  obtain ⟨d0, r, l, x, y, rfl, hr, hx, hy, h⟩ := h
  refine as_cons (as_if (at_isN ?_))
  repeat walk_at "e"
  refine subD_lst hr (lk_get hy) ⟨fun z => ?_, fun z => ?_⟩
  · have hl : lk l y = none := by
      cases e : lk l y with
      | none => rfl
      | some y => rw [e] at z; cases z
    rw [bothB, hl] at h
    refine as_one (as_ret ?_)
    repeat walk_at "e"
    intro q hq
    exact ⟨_, Sub.refl, h q _ hq (up_new hq hr) up_same (SubX.sub (Sub.up hq))⟩
  cases hl : lk l y with
  | none => rw [hl] at z; exact absurd rfl z
  | some y2 =>
    rw [bothB, hl] at h
    refine as_nil ?_
    refine as_cons (as_if (at_isN ?_))
    repeat walk_at "e"
    refine subD_lst hr (lk_get hx) ⟨fun z => ?_, fun z => ?_⟩
    · have hl2 : lk l x = none := by
        cases e : lk l x with
        | none => rfl
        | some y => rw [e] at z; cases z
      simp only [hl2] at h
      refine as_cons (as_asg ?_)
      repeat walk_at "e"
      refine subD_lst hr (lk_get hy) ?_
      rw [hl]
      refine ag_sub A ?_
      repeat walk_at "e"
      refine ⟨r, _, _, rfl, hr, set_lst (by rw [List.length_map]; exact hx), ?_⟩
      rw [map_set_o]
      refine as_one (as_ret ?_)
      repeat walk_at "e"
      intro q hq
      exact ⟨_, Sub.refl, h q _ (free_up hq) (up_new hq up_same) up_same (SubX.new hq (SubX.self SubX.refl))⟩
    · cases hl2 : lk l x with
      | none => rw [hl2] at z; exact absurd rfl z
      | some z2 =>
        simp only [hl2] at h
        refine as_nil ?_
        refine as_one (as_ret ?_)
        repeat walk_at "e"
        refine subD_lst hr (lk_get hx) ?_
        repeat walk_at "e"
        refine subD_lst hr (lk_get hy) ?_
        repeat walk_at "e"
        intro q hq
        rw [hl, hl2]
        exact ⟨_, Sub.refl, h q _ hq (up_new hq hr) up_same (SubX.sub (Sub.up hq))⟩
def p_put_together (C : Addr) : ASp := fun ds η Q => ∃ (p a b c : Addr) (F : Fo) (x y : Nat), ds = [.ref p, nD x, nD y] ∧ FoldAt η C p a b c F ∧ FI F [] ∧ F.n ≤ 40000 ∧ x < F.n ∧ y < F.n ∧ ∀ η' G, FoldAt η' C p a b c G → Put F x y G [] → Ch a b c η η' → Q .non η'
theorem okd_pair (x : Nat × Nat) : okd 8 (pairD x) = true := rfl
theorem pairs_okd (l : List (Nat × Nat)) : ∀ x ∈ l.map pairD, okd 8 x = true := by
  intro x hx
  obtain ⟨y, _, rfl⟩ := List.mem_map.mp hx
  rfl
theorem FoldAt.other {η : Eta} {C p a b c q : Addr} {m : Mo} {F : Fo} (h : FoldAt η C p a b c F) (h1 : q ≠ p) (h2 : q ≠ a) (h3 : q ≠ b) (h4 : q ≠ c) : FoldAt (up η q m) C p a b c F :=
  ⟨by rw [up_ne h1.symm]; exact h.fp, by rw [up_ne h2.symm]; exact h.fa, by rw [up_ne h3.symm]; exact h.fb, by rw [up_ne h4.symm]; exact h.fc, h.ab, h.ac, h.bc, h.pa, h.pb, h.pc⟩
theorem FoldAt.xa {η η' : Eta} {C p a b c : Addr} {F : Fo} {l : List (Option Nat)} (h : FoldAt η C p a b c F) (e : η' a = some (.lst (l.map oD))) (x : SubX a η η') : FoldAt η' C p a b c ⟨l, F.ts, F.hd⟩ :=
  ⟨x _ _ h.pa h.fp, e, x _ _ h.ab.symm h.fb, x _ _ h.ac.symm h.fc, h.ab, h.ac, h.bc, h.pa, h.pb, h.pc⟩
theorem FoldAt.xb {η η' : Eta} {C p a b c : Addr} {F : Fo} {l : List (Option Nat)} (h : FoldAt η C p a b c F) (e : η' b = some (.lst (l.map oD))) (x : SubX b η η') : FoldAt η' C p a b c ⟨F.hs, l, F.hd⟩ :=
  ⟨x _ _ h.pb h.fp, x _ _ h.ab h.fa, e, x _ _ h.bc.symm h.fc, h.ab, h.ac, h.bc, h.pa, h.pb, h.pc⟩
theorem Ch.xa {η η' : Eta} {a b c : Addr} (x : SubX a η η') : Ch a b c η η' := fun q m h1 _ _ e => x q m h1 e
theorem Ch.xb {η η' : Eta} {a b c : Addr} (x : SubX b η η') : Ch a b c η η' := fun q m _ h1 _ e => x q m h1 e
theorem rev1 {α : Type} {l : List α} (h : l.length ≤ 1) : l.reverse = l := by
  match l, h with
  | [], _ => rfl
  | [_], _ => rfl
theorem roots_le (hd : List Nat) : roots hd ≤ hd.length := by
  unfold roots
  refine Nat.le_trans (List.length_filter_le _ _) ?_
  simp
theorem b_put_together {C : Addr} (A : At X n_put_together (defScope s_put_together) 1) (B : Bt X) (hf : ∀ y, X.fn y = true) (FC : FoldC X C) (f1 : FX X "head_of" 1 2 (p_head_of C)) (f2 : FX X "both_behind" 1 4 p_both_behind) {ds : List Dt} (h : p_put_together C ds η Q0) :
    ASs X (defBody s_put_together) (ds.map some ++ List.replicate 5 none) η (ends Q0) := by
  have V0 := v_put_together
  obtain ⟨p, a, b, c, F, x, y, rfl, hF, I, hn, hx, hy, h⟩ := h
  refine as_cons ?_
  walk_at "set"
  repeat walk_at "e"
  intro q hq
  have hqa : q ≠ a := ne_at hq hF.fa
  have hqb : q ≠ b := ne_at hq hF.fb
  have hqc : q ≠ c := ne_at hq hF.fc
  have hqp : q ≠ p := ne_at hq hF.fp
  refine as_one ?_
  refine as_while A (fun m ρ η' => ∃ (G : Fo) (wt : List (Nat × Nat)) (x4 x5 x6 x7 : Option Dt), ρ = [some (.ref p), some (nD x), some (nD y), some (.ref q), x4, x5, x6, x7] ∧ FoldAt η' C p a b c G ∧ η' q = some (.lst (wt.reverse.map pairD)) ∧ Put F x y G wt ∧ Ch a b c η η' ∧ wt.length ≤ 2 * (F.n - roots G.hd) + 1 ∧ m = 3 * roots G.hd + wt.length) (3 * roots F.hd + 1) ?_ ?_
  · exact ⟨F, [(x, y)], none, none, none, none, rfl, hF.sub (Sub.up hq), up_same, Put.start I hx hy, Ch.sub (Sub.up hq), by simp, by simp⟩
  · rintro m ρ η' ⟨G, wt, x4, x5, x6, x7, rfl, hG, hw, hP, hch, hwl, hm⟩
    have hGn : G.hd.length = F.n := hP.n
    have hrl := roots_le G.hd
    refine at_neL A ?_
    repeat walk_at "e"
    intro p0 hp0
    have hw0 := up_new (m' := .lst []) hp0 hw
    have hG0 := hG.sub (Sub.up (m := .lst []) hp0)
    have hch0 : Ch a b c η (up η' p0 (.lst [])) := hch.trans (Ch.sub (Sub.up hp0))
    refine ⟨_, _, ⟨⟨q, p0, rfl, rfl, hw0, up_same⟩, pairs_okd _, fun _ h => by cases h⟩, fun z => ?_, fun z => ?_⟩
    · cases wt with
      | nil => exact absurd rfl z
      | cons uv wt =>
        obtain ⟨u, v⟩ := uv
        have hFI := hP.fi
        obtain ⟨hu, hv⟩ : u < G.n ∧ v < G.n := hFI.wb (u, v) (List.mem_cons_self ..)
        refine as_cons (as_asg (ae_pop ?_))
        repeat walk_at "e"
        have hrev : ((u, v) :: wt).reverse.map pairD = wt.reverse.map pairD ++ [pairD (u, v)] := by simp
        refine ⟨isL hw0, am_pop hw0 (x := pairD (u, v)) (by rw [hrev]; simp) ?_⟩
        rw [hrev, List.dropLast_concat]
        repeat walk_at "t"
        have hG1 : FoldAt (up (up η' p0 (.lst [])) q (.lst (wt.reverse.map pairD))) C p a b c G := hG0.other hqp hqa hqb hqc
        have hch1 : Ch a b c η (up (up η' p0 (.lst [])) q (.lst (wt.reverse.map pairD))) := fun s m2 h1 h2 h3 e => by
          have hs : s ≠ q := fun z => by rw [z, hq] at e; cases e
          rw [up_ne hs]; exact hch0 s m2 h1 h2 h3 e
        have hw1 : up (up η' p0 (.lst [])) q (.lst (wt.reverse.map pairD)) q = some (.lst (wt.reverse.map pairD)) := up_same
        generalize up (up η' p0 (.lst [])) q (.lst (wt.reverse.map pairD)) = η1 at hG1 hch1 hw1
        refine as_cons ?_
        walk_at "set"
        repeat walk_at "e"
        refine ⟨rfl, p, a, b, c, G, u, rfl, hG1, hFI.low, hu, ?_⟩
        refine as_cons ?_
        walk_at "set"
        repeat walk_at "e"
        refine ⟨rfl, p, a, b, c, G, v, rfl, hG1, hFI.low, hv, ?_⟩
        refine as_one (as_if (at_ne A ?_))
        repeat walk_at "e"
        refine ⟨cmpr_of (okd_nD _ _) (okd_nD _ _), fun w => ?_, fun w => ?_⟩
        · have hne : root G.hd u ≠ root G.hd v := fun e => w (by rw [e])
          have hru := root_lt hFI.low hu
          have hrv := root_lt hFI.low hv
          generalize hRu : root G.hd u = ru at hne hru
          generalize hRv : root G.hd v = rv at hne hrv
          obtain ⟨lo, hi, hmin, hmax, hlt, hor⟩ : ∃ lo hi : Nat, (if (rv : Int) < (ru : Int) then (rv : Int) else (ru : Int)) = (lo : Int) ∧ (if (rv : Int) > (ru : Int) then (rv : Int) else (ru : Int)) = (hi : Int) ∧ lo < hi ∧ ((lo = ru ∧ hi = rv) ∨ (lo = rv ∧ hi = ru)) := by
            by_cases e : rv < ru
            · exact ⟨rv, ru, if_pos (by omega), if_neg (by omega), e, .inr ⟨rfl, rfl⟩⟩
            · exact ⟨ru, rv, if_neg (by omega), if_pos (by omega), by omega, .inl ⟨rfl, rfl⟩⟩
          obtain ⟨hP2, hroots, hhi⟩ := hP.merge hlt (by rw [hRu, hRv]; exact hor)
          have hsz := FI.sz hFI
          refine as_cons ?_
          walk_at "set"
          refine ae_min A B ?_
          repeat walk_at "e"
          refine ⟨_, _, rfl, rfl, ?_⟩
          rw [hmin]
          refine as_cons ?_
          walk_at "set"
          refine ae_max A B ?_
          repeat walk_at "e"
          refine ⟨_, _, rfl, rfl, ?_⟩
          rw [hmax]
          refine as_cons (as_asg ?_)
          repeat walk_at "e"
          refine ag_sub A (ae_attr ?_)
          repeat walk_at "e"
          refine fld_c hG1 FC ?_
          repeat walk_at "e"
          refine ⟨c, _, _, rfl, hG1.fc, set_lst (by rw [List.length_map]; exact hhi), ?_⟩
          have e1 : (G.hd.map nD).set hi (.int (lo : Int)) = (G.hd.set hi lo).map nD := by rw [List.map_set]; rfl
          rw [e1]
          have hG2 := hG1.uc (G.hd.set hi lo)
          have hw2 : up η1 c (.lst ((G.hd.set hi lo).map nD)) q = some (.lst (wt.reverse.map pairD)) := up_old hqc hw1
          have hch2 : Ch a b c η (up η1 c (.lst ((G.hd.set hi lo).map nD))) := hch1.trans Ch.c
          generalize up η1 c (.lst ((G.hd.set hi lo).map nD)) = η2 at hG2 hch2 hw2
          have l1 := bothB_len G.hs lo hi
          have l2 := bothB_len G.ts lo hi
          have hlo : lo < G.n := by omega
          have hwl' : wt.length + 1 ≤ 2 * (F.n - roots G.hd) + 1 := by simpa using hwl
          refine as_cons (as_expr (ae_extend ?_))
          repeat walk_at "e"
          refine ⟨isL hw2, aa_cons (ae_call A f2 ?_)⟩
          repeat walk_at "e"
          refine ae_attr ?_
          repeat walk_at "e"
          refine fld_a hG2 FC ?_
          repeat walk_at "e"
          refine ⟨rfl, .ref p, a, G.hs, lo, hi, rfl, hG2.fa, by rw [hsz.h]; exact hlo, by rw [hsz.h]; exact hhi, fun q1 η3 hq1 e3 e4 x3 => ?_⟩
          repeat walk_at "e"
          have hG3 := hG2.xa e3 x3
          have hw3 := x3 _ _ hqa hw2
          refine am_extend hw3 e4 (by simp; omega) ?_
          have hG4 : FoldAt (up η3 q (.lst (wt.reverse.map pairD ++ (bothB G.hs lo hi).2.map pairD))) C p a b c ⟨(bothB G.hs lo hi).1, G.ts, G.hd.set hi lo⟩ := hG3.other hqp hqa hqb hqc
          have hw4 : up η3 q (.lst (wt.reverse.map pairD ++ (bothB G.hs lo hi).2.map pairD)) q = some (.lst (wt.reverse.map pairD ++ (bothB G.hs lo hi).2.map pairD)) := up_same
          have hch4 : Ch a b c η (up η3 q (.lst (wt.reverse.map pairD ++ (bothB G.hs lo hi).2.map pairD))) := fun s m2 h1 h2 h3 e => by
            have hs : s ≠ q := fun z => by rw [z, hq] at e; cases e
            rw [up_ne hs]; exact (hch2.trans (Ch.xa x3)) s m2 h1 h2 h3 e
          generalize up η3 q (.lst (wt.reverse.map pairD ++ (bothB G.hs lo hi).2.map pairD)) = η4 at hG4 hw4 hch4
          refine as_one (as_expr (ae_extend ?_))
          repeat walk_at "e"
          refine ⟨isL hw4, aa_cons (ae_call A f2 ?_)⟩
          repeat walk_at "e"
          refine ae_attr ?_
          repeat walk_at "e"
          refine fld_b hG4 FC ?_
          repeat walk_at "e"
          refine ⟨rfl, .ref p, b, G.ts, lo, hi, rfl, hG4.fb, by rw [hsz.t]; exact hlo, by rw [hsz.t]; exact hhi, fun q2 η5 hq2 e5 e6 x5 => ?_⟩
          repeat walk_at "e"
          have hG5 := hG4.xb e5 x5
          have hw5 := x5 _ _ hqb hw4
          refine am_extend hw5 e6 (by simp; omega) ?_
          refine ⟨3 * roots (mergeF G lo hi).hd + ((bothB G.ts lo hi).2 ++ ((bothB G.hs lo hi).2 ++ wt)).length, ?_, mergeF G lo hi, (bothB G.ts lo hi).2 ++ ((bothB G.hs lo hi).2 ++ wt), _, _, _, _, rfl, hG5.other hqp hqa hqb hqc, ?_, hP2, ?_, ?_, rfl⟩
          · simp at hm ⊢; omega
          · rw [up_same]
            simp [List.reverse_append, rev1 l1.2, rev1 l2.2]
          · intro s m2 h1 h2 h3 e
            have hs : s ≠ q := fun z => by rw [z, hq] at e; cases e
            rw [up_ne hs]; exact (hch4.trans (Ch.xb x5)) s m2 h1 h2 h3 e
          · have hrl2 := roots_le (mergeF G lo hi).hd
            have : (mergeF G lo hi).hd.length = F.n := by show (G.hd.set hi lo).length = _; simp [hGn]
            simp; omega
        · have he : root G.hd u = root G.hd v := nD_inj w
          refine as_nil ⟨3 * roots G.hd + wt.length, by simp at hm; omega, G, wt, _, _, _, _, rfl, hG1, hw1, hP.skip he, hch1, by simp at hwl; omega, rfl⟩
    · have hwt : wt = [] := by
        cases wt with
        | nil => rfl
        | cons _ _ => simp at z
      subst hwt
      exact ⟨_, Sub.refl, h _ G hG0 hP hch0⟩
end FgA
namespace FgA
open PySem PySem.Spec PyProof.Rows L2 Fg
local macro_rules | `(tactic| walk_at "n") => `(tactic| (refine is_name ?_; first
  | refine ae_nameV (by assumption) (by assumption) rfl rfl ?_
  | refine ae_glob (by assumption) (by assumption) ?_
  | refine ae_nameB (by assumption) rfl ?_))
local macro_rules | `(tactic| walk_at "set") => `(tactic| (refine is_set ?_; refine as_setV (by assumption) (by assumption) (by assumption) rfl ?_))
local macro_rules | `(tactic| walk_at "t") => `(tactic| first
  | (refine is_tgt ?_; refine ag_nameV (by assumption) (by assumption) (by assumption) rfl ?_)
  | refine ag_tup2 (by assumption) ?_
  | refine ag_tup3 (by assumption) ?_
  | refine ag_tup4 (by assumption) ?_)
local macro_rules | `(tactic| walk_at "e") => `(tactic| first
  | walk_at "n"
  | refine ae_int ?_
  | refine ae_str ?_
  | refine ae_sub' ?_
  | refine aa_cons ?_
  | refine aa_nil ?_
  | refine ae_add ?_
  | refine ae_sub ?_
  | refine ae_mul ?_
  | refine ae_mod ?_
  | refine ae_fdiv ?_
  | refine ae_tup ?_
  | refine ae_lst ?_
  | refine ae_slice ?_
  | refine ae_bl ?_
  | refine ae_non ?_
  | refine ae_len (by assumption) (by assumption) ?_
  | refine ae_abs (by assumption) (by assumption) ?_
  | refine ae_call (by assumption) (by assumption) ?_
  | refine addD_int ?_
  | (refine is_ii ?_; refine iiT trivial ?_)
  | refine szl_and rfl ?_
  | (refine is_sub ?_; first | refine subD_tup (ix0 rfl) ?_ | refine subD_tup (ix1 rfl) ?_ | refine subD_tup (ix2 rfl) ?_ | refine subD_tup (ix3 rfl) ?_))
local macro_rules | `(tactic| walk_at "h") => `(tactic| first
  | assumption
  | exact up_same
  | (refine up_new (by assumption) ?_; walk_at "h")
  | (refine up_old (by assumption) ?_; walk_at "h")
  | (refine up_old (Ne.symm (by assumption)) ?_; walk_at "h"))
local macro_rules | `(tactic| walk_at "f") => `(tactic| first
  | assumption
  | (apply free_up; walk_at "f"))
local macro_rules | `(tactic| walk_at "sub") => `(tactic| first
  | exact Sub.refl
  | (refine sub_both ?_; walk_at "sub")
  | (refine sub_new (by assumption) ?_; walk_at "sub"))
local macro_rules | `(tactic| walk_at "sx") => `(tactic| first
  | exact SubX.refl
  | (refine SubX.self ?_; walk_at "sx")
  | (refine SubX.new (by assumption) ?_; walk_at "sx"))
variable {X : Cx} {η : Eta} {Q0 : Dt → Eta → Prop}
structure DicOf (kvs : List (Key × Dt)) (P : Nat → Prop) (f : Nat → Nat) : Prop where
  lk : ∀ x : Nat, P x → lkA kvs (Sum.inl (x : Int)) = some (nD (f x))
  ks : ∀ k ∈ kvs.map (·.1), ∃ x : Nat, k = Sum.inl (x : Int) ∧ P x
theorem mem_put {κ α : Type} [DecidableEq κ] {kvs : List (κ × α)} {k k' : κ} {v : α} (h : k' ∈ (putA kvs k v).map (·.1)) : k' = k ∨ k' ∈ kvs.map (·.1) := by
  rw [keys_put] at h
  split at h
  · exact .inr h
  · rcases List.mem_append.mp h with h | h
    · exact .inr h
    · simp at h; exact .inl h
theorem inl_ne {x y : Nat} (h : x ≠ y) : ¬ ((Sum.inl (x : Int) : Key) = Sum.inl (y : Int)) := fun e => h (by have := Sum.inl.inj e; omega)
theorem dic_step {kvs : List (Key × Dt)} {P : Nat → Prop} {f : Nat → Nat} {i : Nat} {d : Dt} (h : DicOf kvs (fun x => P x ∧ x < i) f) (hp : P i) : DicOf (putA (putA kvs (Sum.inl (i : Int)) d) (Sum.inl (i : Int)) (nD (f i))) (fun x => P x ∧ x < i + 1) f := by
  refine ⟨fun x hx => ?_, fun k hk => ?_⟩
  · by_cases e : x = i
    · subst e; rw [lkA_put, if_pos rfl]
    · rw [lkA_put, if_neg (inl_ne e), lkA_put, if_neg (inl_ne e)]
      exact h.lk x ⟨hx.1, by omega⟩
  · rcases mem_put hk with e | hk
    · exact ⟨i, e, hp, by omega⟩
    · rcases mem_put hk with e | hk
      · exact ⟨i, e, hp, by omega⟩
      · obtain ⟨x, e, h1, h2⟩ := h.ks k hk
        exact ⟨x, e, h1, by omega⟩
theorem dic_skip {kvs : List (Key × Dt)} {P : Nat → Prop} {f : Nat → Nat} {i : Nat} (h : DicOf kvs (fun x => P x ∧ x < i) f) (hp : ¬ P i) : DicOf kvs (fun x => P x ∧ x < i + 1) f := by
  refine ⟨fun x hx => h.lk x ⟨hx.1, ?_⟩, fun k hk => ?_⟩
  · by_cases e : x = i
    · subst e; exact absurd hx.1 hp
    · omega
  · obtain ⟨x, e, h1, h2⟩ := h.ks k hk
    exact ⟨x, e, h1, by omega⟩
def p_heads_alone (C : Addr) : ASp := fun ds η Q => ∃ (p a b c : Addr) (F : Fo), ds = [.ref p] ∧ FoldAt η C p a b c F ∧ FI F [] ∧ Full F ∧ F.n ≤ 40000 ∧ ∀ (u v : Addr) (k1 k2 : List (Key × Dt)) η', u ≠ v → η u = none → η v = none → η' u = some (.dic k1) → η' v = some (.dic k2) → DicOf k1 (Hd F) (qs F) → DicOf k2 (Hd F) (qr F) → k1.length ≤ 2 * F.n → k2.length ≤ 2 * F.n → Sub η η' → Q (.tup [.ref u, .ref v]) η'
theorem b_heads_alone {C : Addr} (A : At X n_heads_alone (defScope s_heads_alone) 1) (B : Bt X) (hf : ∀ y, X.fn y = true) (FC : FoldC X C) (f1 : FX X "head_of" 1 2 (p_head_of C)) {ds : List Dt} (h : p_heads_alone C ds η Q0) :
    ASs X (defBody s_heads_alone) (ds.map some ++ List.replicate 4 none) η (ends Q0) := by
  have V0 := v_heads_alone
  obtain ⟨p, a, b, c, F, rfl, hF, I, U, hn, h⟩ := h
  have S := FI.sz I
  have hnl : F.hd.length = F.n := rfl
  refine as_cons ?_
  walk_at "set"
  refine ae_dnew fun u hu => ?_
  refine as_cons ?_
  walk_at "set"
  refine ae_dnew fun v hv => ?_
  have hv0 := free_up hv
  have huv : u ≠ v := (ne_at hv up_same).symm
  have s0 : Sub η (up (up η u (.dic [])) v (.dic [])) := (Sub.up hu).trans (Sub.up hv)
  refine as_cons (as_for A (ai_enum A B (ae_attr ?_)))
  repeat walk_at "e"
  refine fld_c (hF.sub s0) FC ?_
  refine ⟨c, _, rfl, s0 _ _ hF.fc, fun i ρ η' => ∃ k1 k2 x y, ρ = [some (.ref p), some (.ref u), some (.ref v), x, y] ∧ Sub η η' ∧ η' u = some (.dic k1) ∧ η' v = some (.dic k2) ∧ DicOf k1 (fun x => Hd F x ∧ x < i) (qs F) ∧ DicOf k2 (fun x => Hd F x ∧ x < i) (qr F) ∧ k1.length ≤ 2 * i ∧ k2.length ≤ 2 * i, ?_, ?_, ?_, ?_⟩
  · exact ⟨[], [], none, none, rfl, s0, up_new hv up_same, up_same, ⟨fun x hx => absurd hx.2 (Nat.not_lt_zero _), fun k hk => by cases hk⟩, ⟨fun x hx => absurd hx.2 (Nat.not_lt_zero _), fun k hk => by cases hk⟩, by simp, by simp⟩
  · rintro i ρ η' _ ⟨_, _, _, _, _, s, _⟩
    exact s _ _ hF.fc
  · rintro i d ρ η' hi ⟨y0, hy0, rfl⟩ ⟨k1, k2, x, y, rfl, s, e1, e2, d1, d2, l1, l2⟩
    rw [List.length_map] at hi
    have hi' : i < F.n := hi
    rw [List.getElem?_map, List.getElem?_eq_getElem hi] at hy0
    cases hy0
    have hgd : F.hd.getD i i = F.hd[i] := by rw [List.getD_eq_getElem?_getD, List.getElem?_eq_getElem hi]; rfl
    repeat walk_at "t"
    refine as_one (as_if (at_eq A ?_))
    repeat walk_at "e"
    refine ⟨cmpr_of (okd_nD _ _) (okd_nD _ i), fun z => ?_, fun z => ?_⟩
    · have hz : F.hd[i] = i := nD_inj z
      have hH : Hd F i := ⟨hi', by rw [hgd, hz]⟩
      obtain ⟨⟨y1, hy1⟩, y2, hy2⟩ := U i hi' hH.root
      refine as_cons (as_asg ?_)
      repeat walk_at "e"
      refine ag_sub A ?_
      repeat walk_at "e"
      refine ⟨u, _, _, rfl, e1, .dic (by omega), ?_⟩
      refine as_cons (as_asg ?_)
      repeat walk_at "e"
      refine ag_sub A ?_
      repeat walk_at "e"
      refine ⟨v, _, _, rfl, up_old huv.symm e2, .dic (by omega), ?_⟩
      have s1 : Sub η (up (up η' u (.dic (putA k1 (Sum.inl (i : Int)) .non))) v (.dic (putA k2 (Sum.inl (i : Int)) .non))) := (s.up' hu).up' hv0
      have hF1 := hF.sub s1
      refine as_cons (as_if (at_notN (ae_sub' (ae_attr ?_))))
      repeat walk_at "e"
      refine fld_a hF1 FC ?_
      repeat walk_at "e"
      refine subD_lst hF1.fa (lk_get (by rw [S.h]; exact hi')) ?_
      rw [hy1]
      refine ⟨fun _ => ?_, fun z => (by cases z)⟩
      refine as_one (as_asg ?_)
      refine ae_call A f1 (aa_cons ?_)
      repeat walk_at "e"
      refine ae_attr ?_
      repeat walk_at "e"
      refine fld_a hF1 FC ?_
      repeat walk_at "e"
      refine subD_lst hF1.fa (lk_get (by rw [S.h]; exact hi')) ?_
      rw [hy1, oD_some]
      repeat walk_at "e"
      refine ⟨rfl, p, a, b, c, F, y1, rfl, hF1, I.low, I.lh.bd _ _ hy1, ?_⟩
      refine ag_sub A ?_
      repeat walk_at "e"
      have hl1 := put_len (kvs := k1) (k := Sum.inl (i : Int)) (v := Dt.non)
      have hl2 := put_len (kvs := k2) (k := Sum.inl (i : Int)) (v := Dt.non)
      refine ⟨u, _, _, rfl, up_old huv up_same, .dic (by omega), ?_⟩
      have s2 := s1.up' (m := .dic (putA (putA k1 (Sum.inl (i : Int)) .non) (Sum.inl (i : Int)) (nD (root F.hd y1)))) hu
      have hF2 := hF.sub s2
      refine as_one (as_if (at_notN (ae_sub' (ae_attr ?_))))
      repeat walk_at "e"
      refine fld_b hF2 FC ?_
      repeat walk_at "e"
      refine subD_lst hF2.fb (lk_get (by rw [S.t]; exact hi')) ?_
      rw [hy2]
      refine ⟨fun _ => ?_, fun z => (by cases z)⟩
      refine as_one (as_asg ?_)
      refine ae_call A f1 (aa_cons ?_)
      repeat walk_at "e"
      refine ae_attr ?_
      repeat walk_at "e"
      refine fld_b hF2 FC ?_
      repeat walk_at "e"
      refine subD_lst hF2.fb (lk_get (by rw [S.t]; exact hi')) ?_
      rw [hy2, oD_some]
      repeat walk_at "e"
      refine ⟨rfl, p, a, b, c, F, y2, rfl, hF2, I.low, I.lt.bd _ _ hy2, ?_⟩
      refine ag_sub A ?_
      repeat walk_at "e"
      refine ⟨v, _, _, rfl, up_old huv.symm up_same, .dic (by omega), ?_⟩
      have q1 : root F.hd y1 = qs F i := by unfold qs; rw [hy1]; rfl
      have q2 : root F.hd y2 = qr F i := by unfold qr; rw [hy2]; rfl
      rw [q1, q2]
      have hl3 := put_len (kvs := putA k1 (Sum.inl (i : Int)) Dt.non) (k := Sum.inl (i : Int)) (v := nD (qs F i))
      have hl4 := put_len (kvs := putA k2 (Sum.inl (i : Int)) Dt.non) (k := Sum.inl (i : Int)) (v := nD (qr F i))
      rw [q1] at s2
      exact ⟨_, _, _, _, rfl, s2.up' hv0, up_old huv up_same, up_same, dic_step d1 hH, dic_step d2 hH, by omega, by omega⟩
    · have hH : ¬ Hd F i := fun hH => z (congrArg nD (hgd.symm.trans hH.2))
      exact as_nil ⟨k1, k2, _, _, rfl, s, e1, e2, dic_skip d1 hH, dic_skip d2 hH, by omega, by omega⟩
  · rintro ρ η' ⟨k1, k2, x, y, rfl, s, e1, e2, d1, d2, l1, l2⟩
    rw [List.length_map, hnl] at d1 d2 l1 l2
    refine as_one (as_ret ?_)
    repeat walk_at "e"
    refine ⟨_, Sub.refl, h u v k1 k2 η' huv hu hv0 e1 e2 ⟨fun x hx => d1.lk x ⟨hx, hx.1⟩, fun k hk => ?_⟩ ⟨fun x hx => d2.lk x ⟨hx, hx.1⟩, fun k hk => ?_⟩ l1 l2 s⟩
    · obtain ⟨x, e, h1, _⟩ := d1.ks k hk; exact ⟨x, e, h1⟩
    · obtain ⟨x, e, h1, _⟩ := d2.ks k hk; exact ⟨x, e, h1⟩
end FgA
namespace FgA
open PySem PySem.Spec PyProof.Rows L2 Fg
local macro_rules | `(tactic| walk_at "n") => `(tactic| (refine is_name ?_; first
  | refine ae_nameV (by assumption) (by assumption) rfl rfl ?_
  | refine ae_glob (by assumption) (by assumption) ?_
  | refine ae_nameB (by assumption) rfl ?_))
local macro_rules | `(tactic| walk_at "set") => `(tactic| (refine is_set ?_; refine as_setV (by assumption) (by assumption) (by assumption) rfl ?_))
local macro_rules | `(tactic| walk_at "t") => `(tactic| first
  | (refine is_tgt ?_; refine ag_nameV (by assumption) (by assumption) (by assumption) rfl ?_)
  | refine ag_tup2 (by assumption) ?_
  | refine ag_tup3 (by assumption) ?_
  | refine ag_tup4 (by assumption) ?_)
local macro_rules | `(tactic| walk_at "e") => `(tactic| first
  | walk_at "n"
  | refine ae_int ?_
  | refine ae_str ?_
  | refine ae_sub' ?_
  | refine aa_cons ?_
  | refine aa_nil ?_
  | refine ae_add ?_
  | refine ae_sub ?_
  | refine ae_mul ?_
  | refine ae_mod ?_
  | refine ae_fdiv ?_
  | refine ae_tup ?_
  | refine ae_lst ?_
  | refine ae_slice ?_
  | refine ae_bl ?_
  | refine ae_non ?_
  | refine ae_len (by assumption) (by assumption) ?_
  | refine ae_abs (by assumption) (by assumption) ?_
  | refine ae_call (by assumption) (by assumption) ?_
  | refine addD_int ?_
  | (refine is_ii ?_; refine iiT trivial ?_)
  | refine szl_and rfl ?_
  | (refine is_sub ?_; first | refine subD_tup (ix0 rfl) ?_ | refine subD_tup (ix1 rfl) ?_ | refine subD_tup (ix2 rfl) ?_ | refine subD_tup (ix3 rfl) ?_))
local macro_rules | `(tactic| walk_at "h") => `(tactic| first
  | assumption
  | exact up_same
  | (refine up_new (by assumption) ?_; walk_at "h")
  | (refine up_old (by assumption) ?_; walk_at "h")
  | (refine up_old (Ne.symm (by assumption)) ?_; walk_at "h"))
local macro_rules | `(tactic| walk_at "f") => `(tactic| first
  | assumption
  | (apply free_up; walk_at "f"))
local macro_rules | `(tactic| walk_at "sub") => `(tactic| first
  | exact Sub.refl
  | (refine sub_both ?_; walk_at "sub")
  | (refine sub_new (by assumption) ?_; walk_at "sub"))
local macro_rules | `(tactic| walk_at "sx") => `(tactic| first
  | exact SubX.refl
  | (refine SubX.self ?_; walk_at "sx")
  | (refine SubX.new (by assumption) ?_; walk_at "sx"))
variable {X : Cx} {η : Eta} {Q0 : Dt → Eta → Prop}
structure Two (η : Eta) (u v : Addr) (P : Nat → Prop) (f g : Nat → Nat) (n : Nat) : Prop where
  ex : ∃ k1 k2, η u = some (.dic k1) ∧ η v = some (.dic k2) ∧ DicOf k1 P f ∧ DicOf k2 P g ∧ k1.length ≤ n ∧ k2.length ≤ n
  pf : ∀ x, P x → P (f x)
  pg : ∀ x, P x → P (g x)
theorem Two.sub {η η' : Eta} {u v : Addr} {P : Nat → Prop} {f g : Nat → Nat} {n : Nat} (h : Two η u v P f g n) (s : Sub η η') : Two η' u v P f g n := by
  obtain ⟨k1, k2, a, b, r⟩ := h.ex
  exact ⟨⟨k1, k2, s _ _ a, s _ _ b, r⟩, h.pf, h.pg⟩
theorem Two.h {w : World} {u v : Addr} {P : Nat → Prop} {f g : Nat → Nat} {n : Nat} (h : Two η u v P f g n) {x : Nat} (hx : P x) : ItemOf w η (.ref u) (nD x) (nD (f x)) := by
  obtain ⟨k1, k2, a, b, d1, d2, _⟩ := h.ex
  exact .dic a (d1.lk x hx)
theorem Two.t {w : World} {u v : Addr} {P : Nat → Prop} {f g : Nat → Nat} {n : Nat} (h : Two η u v P f g n) {x : Nat} (hx : P x) : ItemOf w η (.ref v) (nD x) (nD (g x)) := by
  obtain ⟨k1, k2, a, b, d1, d2, _⟩ := h.ex
  exact .dic b (d2.lk x hx)
theorem ae_le {ρ : Rho} {Q : Dt → Eta → Prop} {a b : Expr} {pos : Pos} (h : AE X a ρ η fun d1 η1 => AE X b ρ η1 fun d2 η2 => iiD (fun _ _ => True) (fun i j => .bl (decide (i ≤ j))) η2 Q d1 d2) : AE X (.Compare a [.LtE] [b] pos) ρ η Q :=
  AX.of (pe_cmpR op_le (peW a) (peW b) (nomark _)) (ax_op (h.run.mono fun d1 η1 q => q.run.mono fun d2 η2 q2 => ar_ii0 (fun _ _ _ => .bl _) q2))
theorem as_ifF {ρ : Rho} {E : AEnds} {c : Expr} {a b : List Stmt} {pos : Pos} (h : AT X c ρ η (fun _ => False) (fun η1 => η1 = η)) (k : ASs X b ρ η E) : AS X (.If c a b pos) ρ η E := as_if (at_mono h (fun _ z => z.elim) (fun _ e => e ▸ k))
def p_is_bare : ASp := fun ds η Q => ∃ (u v : Addr) (P : Nat → Prop) (f g : Nat → Nat) (n x : Nat), ds = [.ref u, .ref v, nD x] ∧ Two η u v P f g n ∧ P x ∧ Q (.bl false) η
theorem b_is_bare (A : At X n_is_bare (defScope s_is_bare) 0) (B : Bt X) (hf : ∀ y, X.fn y = true) {ds : List Dt} (h : p_is_bare ds η Q0) :
    ASs X (defBody s_is_bare) (ds.map some ++ List.replicate 2 none) η (ends Q0) := by
  have V0 := v_is_bare
  obtain ⟨u, v, P, f, g, n, x, rfl, D, hx, h⟩ := h
  have DD := D
  refine as_cons (as_if (at_bool (aw_or (at_isN (ae_item A ?_)))))
  repeat walk_at "e"
  refine ⟨D.t hx, fun e => (by cases e), fun _ => ?_⟩
  refine aw_or1 (at_eq A (ae_item A ?_))
  repeat walk_at "e"
  refine ⟨D.t hx, ?_⟩
  repeat walk_at "e"
  refine ⟨cmpr_of (okd_nD _ _) (okd_nD _ _), fun z => ?_, fun z => ?_⟩
  · refine as_one (as_ret ?_)
    repeat walk_at "e"
    exact ⟨_, Sub.refl, h⟩
  refine as_nil ?_
  refine as_cons ?_
  walk_at "set"
  refine ae_tup (aa_cons ?_)
  walk_at "e"
  refine aa_cons (ae_item A ?_)
  repeat walk_at "e"
  refine ⟨D.t hx, ?_⟩
  refine aa_cons (ae_item A ?_)
  walk_at "e"
  refine ae_item A ?_
  repeat walk_at "e"
  refine ⟨D.t hx, ?_⟩
  refine ⟨D.t (D.pg _ hx), ?_⟩
  repeat walk_at "e"
  have three : ∀ j d, j < 3 → [nD x, nD (g x), nD (g (g x))][j]? = some d → ∃ y, d = nD y ∧ P y := by
    intro j d hj hd
    match j, hj with
    | 0, _ => cases hd; exact ⟨_, rfl, hx⟩
    | 1, _ => cases hd; exact ⟨_, rfl, D.pg _ hx⟩
    | 2, _ => cases hd; exact ⟨_, rfl, D.pg _ (D.pg _ hx)⟩
  refine as_one (as_ret (ae_le (ae_len A B (ae_lcF1 A (ai_tup ?_)))))
  repeat walk_at "e"
  refine ⟨_, rfl, Nat.le_of_ble_eq_true rfl, fun _ _ _ h => h, trivial, fun j acc => acc.length = j, rfl, ?_, ?_⟩
  · intro j d D2 acc hj hd hD hl X' A' b
    obtain ⟨y, rfl, hy⟩ := three j d hj hd
    refine at_bool (aw_or (at_eq A' ?_))
    repeat walk_at "e"
    refine ⟨cmpr_of (okd_nD _ _) rfl, fun _ => ⟨Sub.refl, fun X2 A2 b2 => by walk_at "n"; exact ⟨Sub.refl, by simp [hl]⟩⟩, fun _ => ?_⟩
    refine aw_or1 (at_notN (ae_item A' ?_))
    repeat walk_at "e"
    have hw : X'.w = X.w := by obtain ⟨s, H, C, cl, fp, rfl⟩ := b.ex; rfl
    exact ⟨(DD.sub (Sub.up hD)).h hy, fun _ => ⟨Sub.refl, fun X2 A2 b2 => by walk_at "n"; exact ⟨Sub.refl, by simp [hl]⟩⟩, fun e => (by cases e)⟩
  · intro D acc hD hl
    have hl' : acc.length = 3 := hl
    refine len_l up_same (by omega) ?_
    repeat walk_at "e"
    rw [hl']
    exact ⟨_, Sub.up hD, h⟩

def p_pruned_once : ASp := fun ds η Q => ∃ (u v : Addr) (P : Nat → Prop) (f g : Nat → Nat) (n : Nat), ds = [.ref u, .ref v] ∧ Two η u v P f g n ∧ n ≤ 90000 ∧ Q (.bl false) η
theorem b_pruned_once (A : At X n_pruned_once (defScope s_pruned_once) 1) (B : Bt X) (hf : ∀ y, X.fn y = true) (f1 : FX X "is_bare" 1 3 p_is_bare) {ds : List Dt} (h : p_pruned_once ds η Q0) :
    ASs X (defBody s_pruned_once) (ds.map some ++ List.replicate 2 none) η (ends Q0) := by
  have V0 := v_pruned_once
  obtain ⟨u, v, P, f, g, n, rfl, D, hn, h⟩ := h
  obtain ⟨k1, k2, e1, e2, d1, d2, l1, l2⟩ := D.ex
  refine as_cons (as_for A (ai_list (ae_list_dic A B ?_)))
  repeat walk_at "e"
  refine ⟨u, k1, rfl, e1, fun r hr => ?_⟩
  refine ⟨r, _, rfl, up_same, fun i ρ η' => (∃ x y, ρ = [some (.ref u), some (.ref v), x, y]) ∧ η' = up η r (.lst (k1.map fun kv => keyDt kv.1)), ?_, ?_, ?_, ?_⟩
  · exact ⟨⟨_, _, rfl⟩, rfl⟩
  · rintro i ρ η' _ ⟨_, rfl⟩; exact up_same
  · rintro i d ρ η' hi hd ⟨⟨x, y, rfl⟩, rfl⟩
    rw [List.getElem?_map] at hd
    obtain ⟨kv, hkv, rfl⟩ := Option.map_eq_some_iff.mp hd
    obtain ⟨z, hz, hP⟩ := d1.ks kv.1 (List.mem_map_of_mem (List.mem_of_getElem? hkv))
    rw [hz]
    have hnd : keyDt (Sum.inl (z : Int)) = nD z := rfl
    rw [hnd]
    have D' := D.sub (Sub.up (m := .lst (k1.map fun kv => keyDt kv.1)) hr)
    walk_at "t"
    refine as_cons (as_ifF (at_bool (aw_and (at_ne A ?_))) ?_)
    · repeat walk_at "e"
      refine ⟨cmpr_of (okd_nD _ _) rfl, fun _ => ?_, fun _ => rfl⟩
      refine aw_and1 (at_isN (ae_item A ?_))
      repeat walk_at "e"
      exact ⟨D'.t hP, fun e => (by cases e), fun _ => rfl⟩
    refine as_nil ?_
    refine as_one (as_if (at_val ?_))
    repeat walk_at "e"
    exact ⟨rfl, u, v, P, f, g, n, z, rfl, D', hP, false, rfl, fun e => (by cases e), fun _ => as_nil ⟨⟨_, _, rfl⟩, rfl⟩⟩
  · rintro ρ η' ⟨⟨x, y, rfl⟩, rfl⟩
    refine as_one (as_ret ?_)
    repeat walk_at "e"
    exact ⟨_, Sub.up hr, h⟩
def p_pruned : ASp := fun ds η Q => ∃ (u v : Addr) (P : Nat → Prop) (f g : Nat → Nat) (n : Nat), ds = [.ref u, .ref v] ∧ Two η u v P f g n ∧ n ≤ 90000 ∧ Q .non η
theorem b_pruned (A : At X n_pruned (defScope s_pruned) 2) (B : Bt X) (hf : ∀ y, X.fn y = true) (f1 : FX X "pruned_once" 2 2 p_pruned_once) {ds : List Dt} (h : p_pruned ds η Q0) :
    ASs X (defBody s_pruned) (ds.map some ++ List.replicate 1 none) η (ends Q0) := by
  have V0 := v_pruned
  obtain ⟨u, v, P, f, g, n, rfl, D, hn, h⟩ := h
  refine as_cons ?_
  walk_at "set"
  repeat walk_at "e"
  refine as_one ?_
  refine as_while A (fun m ρ η' => η' = η ∧ ∃ b : Bool, ρ = [some (.ref u), some (.ref v), some (.bl b)] ∧ m = if b then 1 else 0) 1 ⟨rfl, true, rfl, rfl⟩ ?_
  rintro m ρ η' ⟨rfl, b, rfl, hm⟩
  refine at_val ?_
  repeat walk_at "e"
  refine ⟨b, rfl, fun e => ?_, fun e => ?_⟩
  · subst e
    refine as_one ?_
    walk_at "set"
    repeat walk_at "e"
    exact ⟨rfl, u, v, P, f, g, n, rfl, D, hn, 0, by rw [hm]; decide, rfl, false, rfl, rfl⟩
  · exact ⟨_, Sub.refl, h⟩
end FgA
namespace FgA
open PySem PySem.Spec PyProof.Rows L2 Fg
local macro_rules | `(tactic| walk_at "n") => `(tactic| (refine is_name ?_; first
  | refine ae_nameV (by assumption) (by assumption) rfl rfl ?_
  | refine ae_glob (by assumption) (by assumption) ?_
  | refine ae_nameB (by assumption) rfl ?_))
local macro_rules | `(tactic| walk_at "set") => `(tactic| (refine is_set ?_; refine as_setV (by assumption) (by assumption) (by assumption) rfl ?_))
local macro_rules | `(tactic| walk_at "t") => `(tactic| first
  | (refine is_tgt ?_; refine ag_nameV (by assumption) (by assumption) (by assumption) rfl ?_)
  | refine ag_tup2 (by assumption) ?_
  | refine ag_tup3 (by assumption) ?_
  | refine ag_tup4 (by assumption) ?_)
local macro_rules | `(tactic| walk_at "e") => `(tactic| first
  | walk_at "n"
  | refine ae_int ?_
  | refine ae_str ?_
  | refine ae_sub' ?_
  | refine aa_cons ?_
  | refine aa_nil ?_
  | refine ae_add ?_
  | refine ae_sub ?_
  | refine ae_mul ?_
  | refine ae_mod ?_
  | refine ae_fdiv ?_
  | refine ae_tup ?_
  | refine ae_lst ?_
  | refine ae_slice ?_
  | refine ae_bl ?_
  | refine ae_non ?_
  | refine ae_len (by assumption) (by assumption) ?_
  | refine ae_abs (by assumption) (by assumption) ?_
  | refine ae_call (by assumption) (by assumption) ?_
  | refine addD_int ?_
  | (refine is_ii ?_; refine iiT trivial ?_)
  | refine szl_and rfl ?_
  | (refine is_sub ?_; first | refine subD_tup (ix0 rfl) ?_ | refine subD_tup (ix1 rfl) ?_ | refine subD_tup (ix2 rfl) ?_ | refine subD_tup (ix3 rfl) ?_))
local macro_rules | `(tactic| walk_at "h") => `(tactic| first
  | assumption
  | exact up_same
  | (refine up_new (by assumption) ?_; walk_at "h")
  | (refine up_old (by assumption) ?_; walk_at "h")
  | (refine up_old (Ne.symm (by assumption)) ?_; walk_at "h"))
local macro_rules | `(tactic| walk_at "f") => `(tactic| first
  | assumption
  | (apply free_up; walk_at "f"))
local macro_rules | `(tactic| walk_at "sub") => `(tactic| first
  | exact Sub.refl
  | (refine sub_both ?_; walk_at "sub")
  | (refine sub_new (by assumption) ?_; walk_at "sub"))
local macro_rules | `(tactic| walk_at "sx") => `(tactic| first
  | exact SubX.refl
  | (refine SubX.self ?_; walk_at "sx")
  | (refine SubX.new (by assumption) ?_; walk_at "sx"))
variable {X : Cx} {η : Eta} {Q0 : Dt → Eta → Prop}
def p_Fold___init__ (C : Addr) : ASp := fun ds η Q => ∃ p, ds = [.ref p] ∧ η p = some (.ins C []) ∧ ∀ η' a b c, FoldAt η' C p a b c F0 → SubX p η η' → η a = none → η b = none → η c = none → Q .non η'
theorem b_Fold___init__ {C : Addr} (A : At X n_Fold___init__ (defScope s_Fold___init__) 0) (B : Bt X) (hf : ∀ y, X.fn y = true) (FC : FoldC X C) {ds : List Dt} (h : p_Fold___init__ C ds η Q0) :
    ASs X (defBody s_Fold___init__) (ds.map some ++ List.replicate 0 none) η (ends Q0) := by
  have V0 := v_Fold___init__
  obtain ⟨p, rfl, hp, h⟩ := h
  refine as_cons (as_attr ?_)
  repeat walk_at "e"
  intro a ha
  repeat walk_at "e"
  have hpa : p ≠ a := (ne_at ha hp).symm
  refine ⟨p, C, _, rfl, up_new ha hp, FC.cls, FC.a, Nat.le_of_ble_eq_true rfl, ?_⟩
  refine as_cons (as_attr ?_)
  repeat walk_at "e"
  intro b hb
  repeat walk_at "e"
  have hpb : p ≠ b := (ne_at hb up_same).symm
  have hab : a ≠ b := (ne_at hb (up_old hpa.symm up_same)).symm
  refine ⟨p, C, _, rfl, up_new hb up_same, FC.cls, FC.b, Nat.le_of_ble_eq_true rfl, ?_⟩
  refine as_one (as_attr ?_)
  repeat walk_at "e"
  intro c hc
  repeat walk_at "e"
  have hpc : p ≠ c := (ne_at hc up_same).symm
  have hbc : b ≠ c := (ne_at hc (up_old hpb.symm up_same)).symm
  have hac : a ≠ c := (ne_at hc (up_old hpa.symm (up_old hab (up_old hpa.symm up_same)))).symm
  refine ⟨p, C, _, rfl, up_new hc up_same, FC.cls, FC.c, Nat.le_of_ble_eq_true rfl, ?_⟩
  refine ⟨_, Sub.refl, h _ a b c ⟨up_same, ?_, ?_, ?_, hab, hac, hbc, hpa, hpb, hpc⟩ ?_ ha (by walk_at "f") (by walk_at "f")⟩
  · exact up_old hpa.symm (up_old hac (up_old hpa.symm (up_old hab (up_old hpa.symm up_same))))
  · exact up_old hpb.symm (up_old hbc (up_old hpb.symm up_same))
  · exact up_old hpc.symm up_same
  · walk_at "sx"
theorem ae_gt {ρ : Rho} {Q : Dt → Eta → Prop} {a b : Expr} {pos : Pos} (h : AE X a ρ η fun d1 η1 => AE X b ρ η1 fun d2 η2 => iiD (fun _ _ => True) (fun i j => .bl (decide (j < i))) η2 Q d1 d2) : AE X (.Compare a [.Gt] [b] pos) ρ η Q :=
  AX.of (pe_cmpR op_gt (peW a) (peW b) (nomark _)) (ax_op (h.run.mono fun d1 η1 q => q.run.mono fun d2 η2 q2 => ar_ii0 (fun _ _ _ => .bl _) q2))
theorem as_ifS {ρ : Rho} {E : AEnds} {c : Expr} {a b : List Stmt} {pos : Pos} (h : AT X c ρ η (fun _ => False) (fun η1 => Sub η η1)) (k : ASs X b ρ η E) : AS X (.If c a b pos) ρ η E := as_if (at_mono h (fun _ z => z.elim) (fun _ e => ass_forget e k))
theorem Blk.gv {X' : Cx} {scope : Scope} {x : Str} {d : Dt} (b : Blk X X' scope) (g : GV X x d) : GV X' x d := by
  obtain ⟨s, H, C, cl, fp, rfl⟩ := b.ex
  exact ⟨g.ex⟩
structure FoldM (X : Cx) (C : Addr) : Prop where
  ex : ∃ f fd ps, Mk X.K C f ∧ FnOk X.prog X.w X.K X.mg X.base CX0 1 f fd ps (Lift X.K 1 (p_Fold___init__ C)) ∧ X.mg "Fold" = some (.ref C) ∧ Binds X.K fd ps []
def wD (w : Wd) : Dt := .str (wS w)


variable {X : Cx} {η : Eta} {Q0 : Dt → Eta → Prop}
structure Turns (ms : List Mat) (ws : List Wd) : Prop where
  ln : ws.length = ms.length
  ok : ∀ (i : Nat) (M : Mat) (w : Wd), ms[i]? = some M → ws[i]? = some w → WOk M w ∧ w.length ≤ 200
def p_folded : ASp := fun ds η Q => ∃ (r : Addr) (ms : List Mat) (ws : List Wd), ds = [.ref r] ∧ η r = some (.lst (ms.map matD)) ∧ ms.length ≤ 20 ∧ Turns ms ws ∧ (∀ G, Folded G ws → Full G) ∧ ∀ G, Folded G ws → Q (.tup [.str "closed", tabD (foldTab G)]) η
theorem b_folded {C : Addr} (A : At X n_folded (defScope s_folded) 3) (B : Bt X) (hf : ∀ y, X.fn y = true) (gM : GV X "MOST_LETTERS_folding" (.int 200)) (FC : FoldC X C) (FM : FoldM X C) (f1 : FX X "word_of" 3 1 p_word_of) (f2 : FX X "walked" 3 2 (p_walked C)) (f3 : FX X "put_together" 2 3 (p_put_together C))
    (f4 : FX X "heads_alone" 2 1 (p_heads_alone C)) (f5 : FX X "pruned" 3 2 p_pruned) (f6 : FX X "told_anew" 1 3 (p_told_anew X.w)) (f7 : FX X "met_from" 1 3 (p_met_from X.w)) {ds : List Dt} (h : p_folded ds η Q0) :
    ASs X (defBody s_folded) (ds.map some ++ List.replicate 7 none) η (ends Q0) := by
  have V0 := v_folded
  obtain ⟨r, ms, ws, rfl, hr, hl, T, hFull, h⟩ := h
  have hwl : ∀ (i : Nat) (w : Wd), ws[i]? = some w → w.length ≤ 200 := fun i w hw => by
    have hi : i < ms.length := by rw [← T.ln]; exact (List.getElem?_eq_some_iff.mp hw).1
    exact (T.ok i _ w (List.getElem?_eq_getElem hi) hw).2
  refine as_cons (as_lc1 A (ai_list ?_))
  repeat walk_at "e"
  refine ⟨r, _, rfl, hr, by rw [List.length_map]; omega, fun η η' s e => s _ _ e, hr, fun j e => ∃ w, ws[j]? = some w ∧ e = wD w, ?_, ?_⟩
  · intro j d D acc X' hj hd hD hla A' b
    rw [List.getElem?_map] at hd
    obtain ⟨M, hM, rfl⟩ := Option.map_eq_some_iff.mp hd
    have hjw : j < ws.length := by rw [T.ln]; exact (List.getElem?_eq_some_iff.mp hM).1
    have hw := List.getElem?_eq_getElem hjw
    have f1' := b.fa f1
    repeat walk_at "e"
    exact ⟨rfl, M, _, rfl, (T.ok j M _ hM hw).1, Sub.refl, _, hw, rfl⟩
  intro D acc hD hla hF
  have hacc := acc_eq (l := ws) (f := wD) (by rw [hla, List.length_map, T.ln]) hF
  subst hacc
  have hwsl : ws.length ≤ 20 := by rw [T.ln]; exact hl
  refine as_cons (as_ifS (at_val (ae_any A B (ae_lc1 A (ai_list ?_)))) ?_)
  · repeat walk_at "e"
    refine ⟨D, _, rfl, up_same, by rw [List.length_map]; omega, fun η η' s e => s _ _ e, up_same, fun j e => ∃ w, ws[j]? = some w ∧ e = .bl false, ?_, ?_⟩
    · intro j d D2 acc X' hj hd hD2 hla A' b
      rw [List.getElem?_map] at hd
      obtain ⟨w, hw, rfl⟩ := Option.map_eq_some_iff.mp hd
      have hlw := hwl j w hw
      have B' := b.bt B
      have gM' := b.gv gM
      refine ae_gt ?_
      repeat walk_at "e"
      refine len_s (z := wS w) (by rw [wS_length]; omega) ?_
      repeat walk_at "e"
      rw [wS_length]
      exact ⟨Sub.refl, w, hw, by rw [decide_eq_false (by omega)]⟩
    · intro D2 acc hD2 hla2 hF2
      have hacc := acc_eq (l := ws) (f := fun _ => Dt.bl false) (by rw [hla2, List.length_map]) hF2
      subst hacc
      refine ⟨D2, ws.map fun _ => false, rfl, by rw [up_same, List.map_map]; rfl, ?_⟩
      refine ⟨_, rfl, fun e => ?_, fun _ => ?_⟩
      · rw [List.any_map] at e
        simp at e
      · exact Sub.up hD2
  refine as_nil ?_
  obtain ⟨f0, fd, ps, hMk, hFn, hmg, hbi⟩ := FM.ex
  refine as_cons ?_
  walk_at "set"
  refine ae_make0 A hMk hFn hmg hbi (fun p hp η0 s0 => ⟨p, rfl, s0 _ _ up_same, fun η1 a b c hF1 x1 ha hb hc => ⟨rfl, ?_⟩⟩) (by decide) rfl (by decide)
  have hDp : D ≠ p := (ne_at hp up_same).symm
  have hD0 : η0 D = some (.lst (ws.map wD)) := s0 _ _ (up_new hp up_same)
  have hD1 : η1 D = some (.lst (ws.map wD)) := x1 _ _ hDp hD0
  have hDa : D ≠ a := (ne_at ha hD0).symm
  have hDb : D ≠ b := (ne_at hb hD0).symm
  have hDc : D ≠ c := (ne_at hc hD0).symm
  have sub0 : Sub η η0 := ((Sub.up hD).trans (Sub.up hp)).trans s0
  have nz : ∀ z, η0 z = none → η z = none := fun z hz => by
    cases e : η z with
    | none => rfl
    | some m => rw [sub0 _ _ e] at hz; cases hz
  have hp0 : η p = none := free_up hp
  have sub1 : Sub η η1 := fun z m e => x1 z m (fun e2 => by rw [e2, hp0] at e; cases e) (sub0 z m e)
  have chs : ∀ {η2 : Eta}, Ch a b c η1 η2 → Sub η η2 ∧ η2 D = some (.lst (ws.map wD)) := fun {η2} ch =>
    ⟨fun z m e => ch z m (fun e2 => by rw [e2, nz a ha] at e; cases e) (fun e2 => by rw [e2, nz b hb] at e; cases e) (fun e2 => by rw [e2, nz c hc] at e; cases e) (sub1 z m e), ch _ _ hDa hDb hDc hD1⟩
  refine as_cons (as_for A (ai_list ?_))
  repeat walk_at "e"
  refine ⟨D, _, rfl, hD1, fun i ρ η2 => ∃ F x4, ρ = [some (.ref r), some (.ref D), some (.ref p), x4, none, none, none, none] ∧ FoldAt η2 C p a b c F ∧ Folded F (ws.take i) ∧ F.n ≤ 1 + 800 * i ∧ Ch a b c η1 η2, ?_, ?_, ?_, ?_⟩
  · exact ⟨F0, none, rfl, hF1, folded_start, by decide, Ch.refl⟩
  · rintro i ρ η2 _ ⟨F, x4, _, _, _, _, ch⟩
    exact (chs ch).2
  · rintro i d ρ η2 hi hd ⟨F, x4, rfl, hF2, hFo, hFn, ch⟩
    rw [List.length_map] at hi
    rw [List.getElem?_map, List.getElem?_eq_getElem hi] at hd
    cases hd
    have hw := List.getElem?_eq_getElem hi
    have hwl2 := hwl i _ hw
    have r0 : root F.hd 0 = 0 := Nat.le_zero.mp (root_le F.hd 0)
    have S := walkF_ok ws[i] hFo.fi hFo.con hFo.fi.pos r0
    walk_at "t"
    refine as_one (as_expr ?_)
    repeat walk_at "e"
    refine ⟨rfl, p, a, b, c, F, ws[i], rfl, hF2, hFo.fi, hFo.con, by omega, fun η3 hF3 ch3 => ?_⟩
    repeat walk_at "e"
    have hsz := S.sz
    refine ⟨rfl, p, a, b, c, _, _, 0, rfl, hF3, S.fi, by omega, S.lt, S.fi.pos, fun η4 G hF4 hP ch4 => ?_⟩
    refine ⟨G, _, rfl, hF4, ?_, ?_, (ch.trans ch3).trans ch4⟩
    · have := Folded.word hFo hP
      rw [List.take_append_getElem hi] at this
      exact this
    · have := hP.n; omega
  · rintro ρ η2 ⟨G, x4, rfl, hG, hFo, hGn, ch⟩
    rw [List.length_map, List.take_length] at hFo
    rw [List.length_map] at hGn
    have U := hFull G hFo
    have I := hFo.fi
    obtain ⟨sub2, hD2⟩ := chs ch
    refine as_cons (as_asg ?_)
    repeat walk_at "e"
    refine ⟨rfl, p, a, b, c, G, rfl, hG, I, U, by omega, fun u v k1 k2 η3 huv hu hv e1 e2 d1 d2 l1 l2 s3 => ?_⟩
    repeat walk_at "t"
    have Tw : Two η3 u v (Hd G) (qs G) (qr G) (2 * G.n) := ⟨⟨k1, k2, e1, e2, d1, d2, l1, l2⟩, fun x hx => hd_qs I U hx, fun x hx => hd_qr I U hx⟩
    have Fd : Find X.w η3 (.ref u) (.ref v) (Hd G) (qs G) (qr G) := ⟨fun x hx => Tw.h hx, fun x hx => Tw.t hx, Tw.pf, Tw.pg⟩
    refine as_cons (as_expr ?_)
    repeat walk_at "e"
    refine ⟨rfl, u, v, _, _, _, _, rfl, Tw, by omega, ?_⟩
    obtain ⟨hM, hMP⟩ := fold_met I U
    have hlenH : (headsOf G).length ≤ G.n := by
      unfold headsOf
      refine Nat.le_trans (List.length_filter_le _ _) ?_
      simp
    have hlen := (met_of (q_sys I U) (hd0 I) (headsOf G) fun x hx => mem_heads.mpr hx).2.2
    refine as_cons ?_
    walk_at "set"
    repeat walk_at "e"
    refine ⟨rfl, .ref u, .ref v, _, _, _, 0, (headsOf G).length, rfl, Fd, hd0 I, hlen, by omega, fun q hq => ?_⟩
    repeat walk_at "e"
    refine ⟨rfl, .ref u, .ref v, _, _, _, q, _, rfl, Fd.sub (Sub.up hq), up_same, hM.nd, by omega, fun x hx => ⟨hMP x hx, hM.cl x hx⟩, ?_⟩
    have hnon : ∀ (l : List Nat), Dt.non ∉ l.map nD := fun l hm => by
      obtain ⟨x, _, e⟩ := List.mem_map.mp hm
      cases e
    have hflat : ∀ (l : List Nat), ∀ y ∈ l.map nD, flatD y = true := fun l y hy => by
      obtain ⟨x, _, e⟩ := List.mem_map.mp hy
      rw [← e]; rfl
    refine as_cons (as_ifF (at_bool (aw_or (at_inT ?_))) ?_)
    · repeat walk_at "e"
      refine ⟨_, rfl, hflat _, rfl, fun hm => absurd hm (hnon _), fun _ => ?_⟩
      refine aw_or1 (at_inT ?_)
      repeat walk_at "e"
      exact ⟨_, rfl, hflat _, rfl, fun hm => absurd hm (hnon _), fun _ => rfl⟩
    refine as_nil ?_
    refine as_one (as_ret ?_)
    repeat walk_at "e"
    exact ⟨η, (sub2.trans s3).trans (Sub.up hq), h G hFo⟩
end FgA
namespace FgA
open PySem PySem.Spec PyProof.Rows L2 Fg
local macro_rules | `(tactic| walk_at "n") => `(tactic| (refine is_name ?_; first
  | refine ae_nameV (by assumption) (by assumption) rfl rfl ?_
  | refine ae_glob (by assumption) (by assumption) ?_
  | refine ae_nameB (by assumption) rfl ?_))
local macro_rules | `(tactic| walk_at "set") => `(tactic| (refine is_set ?_; refine as_setV (by assumption) (by assumption) (by assumption) rfl ?_))
local macro_rules | `(tactic| walk_at "t") => `(tactic| first
  | (refine is_tgt ?_; refine ag_nameV (by assumption) (by assumption) (by assumption) rfl ?_)
  | refine ag_tup2 (by assumption) ?_
  | refine ag_tup3 (by assumption) ?_
  | refine ag_tup4 (by assumption) ?_)
local macro_rules | `(tactic| walk_at "e") => `(tactic| first
  | walk_at "n"
  | refine ae_int ?_
  | refine ae_str ?_
  | refine ae_sub' ?_
  | refine aa_cons ?_
  | refine aa_nil ?_
  | refine ae_add ?_
  | refine ae_sub ?_
  | refine ae_mul ?_
  | refine ae_mod ?_
  | refine ae_fdiv ?_
  | refine ae_tup ?_
  | refine ae_lst ?_
  | refine ae_slice ?_
  | refine ae_bl ?_
  | refine ae_non ?_
  | refine ae_len (by assumption) (by assumption) ?_
  | refine ae_abs (by assumption) (by assumption) ?_
  | refine ae_call (by assumption) (by assumption) ?_
  | refine addD_int ?_
  | (refine is_ii ?_; refine iiT trivial ?_)
  | refine szl_and rfl ?_
  | (refine is_sub ?_; first | refine subD_tup (ix0 rfl) ?_ | refine subD_tup (ix1 rfl) ?_ | refine subD_tup (ix2 rfl) ?_ | refine subD_tup (ix3 rfl) ?_))
local macro_rules | `(tactic| walk_at "h") => `(tactic| first
  | assumption
  | exact up_same
  | (refine up_new (by assumption) ?_; walk_at "h")
  | (refine up_old (by assumption) ?_; walk_at "h")
  | (refine up_old (Ne.symm (by assumption)) ?_; walk_at "h"))
local macro_rules | `(tactic| walk_at "f") => `(tactic| first
  | assumption
  | (apply free_up; walk_at "f"))
local macro_rules | `(tactic| walk_at "sub") => `(tactic| first
  | exact Sub.refl
  | (refine sub_both ?_; walk_at "sub")
  | (refine sub_new (by assumption) ?_; walk_at "sub"))
local macro_rules | `(tactic| walk_at "sx") => `(tactic| first
  | exact SubX.refl
  | (refine SubX.self ?_; walk_at "sx")
  | (refine SubX.new (by assumption) ?_; walk_at "sx"))
variable {X : Cx} {η : Eta} {Q0 : Dt → Eta → Prop}
def rowL (T : Tab) (k : Nat) : List Nat := if k = 0 then T.hs else T.ts
def rowF (T : Tab) (k : Nat) (x : Nat) : Nat := (rowL T k).getD x 0
theorem tab_row (T : Tab) {k : Nat} (hk : k < 2) : atI [Dt.tup (T.hs.map nD), Dt.tup (T.ts.map nD)] (k : Int) = some (.tup ((rowL T k).map nD)) := by
  refine atN ?_
  match k, hk with
  | 0, _ => rfl
  | 1, _ => rfl
theorem rowL_len {T : Tab} (V : Valid T) (k : Nat) : (rowL T k).length = T.n := by
  unfold rowL; split
  · rfl
  · exact V.len
theorem row_lt {T : Tab} (V : Valid T) {k x : Nat} (h : x < T.n) : rowF T k x < T.n := by
  unfold rowF rowL; split
  · exact vs_lt V h
  · exact vr_lt V h
def p_is_within : ASp := fun ds η Q => ∃ T S : Tab, Valid T ∧ Valid S ∧ Over T S ∧ T.n ≤ 1000 ∧ ds = [tabD T, tabD S] ∧ Q (.bl true) η
/-- what the dict holds of the map: at the places that were led to -/
structure Thr (φ : Nat → Nat) (n : Nat) (kvs : List (Key × Dt)) (R : Nat → Prop) : Prop where
  is : ∀ (k : Key) (d : Dt), lkA kvs k = some d → ∃ x : Nat, x < n ∧ k = Sum.inl (x : Int) ∧ d = nD (φ x)
  has : ∀ x : Nat, R x → lkA kvs (Sum.inl (x : Int)) ≠ none
theorem Thr.at {φ : Nat → Nat} {n : Nat} {kvs : List (Key × Dt)} {R : Nat → Prop} (h : Thr φ n kvs R) {x : Nat} (hx : R x) : lkA kvs (Sum.inl (x : Int)) = some (nD (φ x)) := by
  cases e : lkA kvs (Sum.inl (x : Int)) with
  | none => exact absurd e (h.has x hx)
  | some d =>
    obtain ⟨y, _, e2, rfl⟩ := h.is _ _ e
    have : x = y := by have := Sum.inl.inj e2; omega
    rw [this]
theorem Thr.put {φ : Nat → Nat} {n : Nat} {kvs : List (Key × Dt)} {R R' : Nat → Prop} {y : Nat} (h : Thr φ n kvs R) (hy : y < n) (hR : ∀ x, R' x → R x ∨ x = y) : Thr φ n (putA kvs (Sum.inl (y : Int)) (nD (φ y))) R' := by
  refine ⟨fun k d hk => ?_, fun x hx => ?_⟩
  · rw [lkA_put] at hk
    split at hk
    · rename_i e; cases hk; exact ⟨y, hy, e, rfl⟩
    · exact h.is k d hk
  · rw [lkA_put]
    split
    · simp
    · rename_i e
      rcases hR x hx with h1 | h1
      · exact h.has x h1
      · exact absurd (by rw [h1]) e
theorem Thr.keep {φ : Nat → Nat} {n : Nat} {kvs : List (Key × Dt)} {R R' : Nat → Prop} (h : Thr φ n kvs R) {y : Nat} (hy : lkA kvs (Sum.inl (y : Int)) ≠ none) (hR : ∀ x, R' x → R x ∨ x = y) : Thr φ n kvs R' :=
  ⟨h.is, fun x hx => (hR x hx).elim (h.has x) fun e => e ▸ hy⟩
theorem thr_len {φ : Nat → Nat} {n : Nat} {kvs : List (Key × Dt)} : True := trivial
/-- led to from the places ahead of i, and from i by the first j rows -/
def Led (T : Tab) (i j : Nat) (x : Nat) : Prop := x = 0 ∨ (∃ y k, y < i ∧ k < 2 ∧ x = rowF T k y) ∨ ∃ k, k < j ∧ x = rowF T k i
theorem led_at {T : Tab} (V : Valid T) {i : Nat} (hi : i < T.n) : Led T i 0 i := by
  rcases Nat.eq_zero_or_pos i with e | e
  · exact .inl e
  · obtain ⟨y, hy, h | h⟩ := V.comes hi e
    · exact .inr (.inl ⟨y, 0, hy, by decide, h⟩)
    · exact .inr (.inl ⟨y, 1, hy, by decide, h⟩)
theorem b_is_within (A : At X n_is_within (defScope s_is_within) 0) (B : Bt X) (hf : ∀ y, X.fn y = true) {ds : List Dt} (h : p_is_within ds η Q0) :
    ASs X (defBody s_is_within) (ds.map some ++ List.replicate 4 none) η (ends Q0) := by
  have V0 := v_is_within
  obtain ⟨T, S, V, W, ⟨φ, f1, f0, fs, fr⟩, hn, rfl, h⟩ := h
  have frow : ∀ k, k < 2 → ∀ x, x < T.n → φ (rowF T k x) = rowF S k (φ x) := by
    intro k hk x hx
    match k, hk with
    | 0, _ => exact fs x hx
    | 1, _ => exact fr x hx
  refine as_cons ?_
  walk_at "set"
  refine ae_dispD1 fun u hu => ?_
  repeat walk_at "e"
  refine ⟨_, rfl, up_same, ?_⟩
  rw [up_up]
  refine as_cons (as_for A (ai_range1 A B ?_))
  repeat walk_at "e"
  have hTl : (T.hs.map nD).length = T.n := by rw [List.length_map]; rfl
  refine len_t (by rw [hTl]; omega) ?_
  rw [hTl]
  refine ⟨_, rfl, by omega, by omega, fun i ρ η' => ∃ kvs x4 x5 x6, ρ = [some (tabD T), some (tabD S), some (.ref u), x4, x5, x6] ∧ Sub η η' ∧ η' u = some (.dic kvs) ∧ Thr φ T.n kvs (Led T i 0) ∧ kvs.length ≤ 2 * i + 1, ?_, ?_, ?_, ?_⟩
  · refine ⟨_, none, none, none, rfl, Sub.up hu, up_same, ⟨fun k d hk => ?_, fun x hx => ?_⟩, by simp [mergeA, putA]⟩
    · have : lkA [((Sum.inl (0 : Int) : Key), Dt.int 0)] k = some d := hk
      rw [lkA_cons, lkA_nil] at this
      split at this
      · rename_i e; cases this; exact ⟨0, V.pos, e.symm, by rw [f0]; rfl⟩
      · cases this
    · have hx0 : x = 0 := by
        rcases hx with h1 | ⟨y, _, hy, _⟩ | ⟨k, hk, _⟩
        · exact h1
        · omega
        · omega
      subst hx0
      show lkA [((Sum.inl (0 : Int) : Key), Dt.int 0)] (Sum.inl (0 : Int)) ≠ none
      rw [lkA_cons, if_pos rfl]; simp
  · intros; trivial
  · rintro i d ρ η' hi rfl ⟨kvs, x4, x5, x6, rfl, sb, hu', hT, hl⟩
    have hi' : i < T.n := by simpa using hi
    rw [show (0 : Int) + (i : Nat) = (i : Nat) by omega]
    walk_at "t"
    refine as_one (as_for A (ai_range1 A B ?_))
    repeat walk_at "e"
    refine ⟨_, rfl, by omega, by omega, fun j ρ η2 => ∃ kv2 x5 x6, ρ = [some (tabD T), some (tabD S), some (.ref u), some (nD i), x5, x6] ∧ Sub η η2 ∧ η2 u = some (.dic kv2) ∧ Thr φ T.n kv2 (Led T i j) ∧ kv2.length ≤ 2 * i + 1 + j, ?_, ?_, ?_, ?_⟩
    · exact ⟨kvs, _, _, rfl, sb, hu', hT, hl⟩
    · intros; trivial
    · rintro j d ρ η2 hj rfl ⟨kv2, x5, x6, rfl, s2, hu2, hT2, hl2⟩
      have hj' : j < 2 := hj
      rw [show (0 : Int) + (j : Nat) = (j : Nat) by omega]
      have hx0 : Led T i j i := by
        rcases led_at V hi' with h1 | h1 | ⟨k, hk, _⟩
        · exact .inl h1
        · exact .inr (.inl h1)
        · omega
      have hat := hT2.at hx0
      have hstep : φ (rowF T j i) = rowF S j (φ i) := frow j hj' i hi'
      have hR : ∀ x, Led T i (j + 1) x → Led T i j x ∨ x = rowF T j i := by
        rintro x (h1 | h1 | ⟨k, hk, h1⟩)
        · exact .inl (.inl h1)
        · exact .inl (.inr (.inl h1))
        · by_cases e : k = j
          · exact .inr (e ▸ h1)
          · exact .inl (.inr (.inr ⟨k, by omega, h1⟩))
      walk_at "t"
      refine as_cons ?_
      walk_at "set"
      refine ae_sub' (ae_sub' ?_)
      repeat walk_at "e"
      refine subD_tup (tab_row S hj') ?_
      refine ae_item A ?_
      repeat walk_at "e"
      refine ⟨.dic hu2 hat, ?_⟩
      refine subD_tup (atN (nD_get (by rw [rowL_len W]; exact f1 i hi'))) ?_
      refine as_one (as_if (at_ne A (ae_setdefault ?_)))
      repeat walk_at "e"
      refine ⟨u, kv2, rfl, hu2, ?_⟩
      refine ae_sub' (ae_sub' ?_)
      repeat walk_at "e"
      refine subD_tup (tab_row T hj') ?_
      repeat walk_at "e"
      refine subD_tup (atN (nD_get (by rw [rowL_len V]; exact hi'))) ?_
      repeat walk_at "e"
      have ek : rowF S j (φ i) = φ (rowF T j i) := hstep.symm
      refine ⟨kv2, _, hu2, rfl, by omega, fun v hv => ?_, fun hv => ?_⟩
      · obtain ⟨y, hy, e1, rfl⟩ := hT2.is _ _ hv
        have e2 : rowF T j i = y := by have := Sum.inl.inj e1; unfold rowF; omega
        repeat walk_at "e"
        refine ⟨cmpr_of (okd_nD _ _) (okd_nD _ _), fun z => absurd ?_ z, fun _ => as_nil ⟨kv2, _, _, rfl, s2, hu2, hT2.keep (y := rowF T j i) (by show lkA kv2 (Sum.inl (((rowL T j).getD i 0 : Nat) : Int)) ≠ none; rw [hv]; simp) hR, by omega⟩⟩
        show nD (φ y) = nD (rowF S j (φ i))
        rw [ek, e2]
      · repeat walk_at "e"
        refine ⟨cmpr_of (okd_nD _ _) (okd_nD _ _), fun z => absurd rfl z, fun _ => as_nil ⟨_, _, _, rfl, s2.up' hu, up_same, ?_, ?_⟩⟩
        · have := hT2.put (R' := Led T i (j + 1)) (y := rowF T j i) (row_lt V hi') hR
          rw [hstep] at this
          exact this
        · have := put_len (kvs := kv2) (k := Sum.inl (((rowL T j).getD i 0 : Nat) : Int)) (v := nD ((rowL S j).getD (φ i) 0))
          omega
    · rintro ρ η2 ⟨kv2, x5, x6, rfl, s2, hu2, hT2, hl2⟩
      have hl2' : kv2.length ≤ 2 * i + 1 + 2 := hl2
      have hT2' : Thr φ T.n kv2 (Led T i 2) := hT2
      refine ⟨kv2, _, _, _, rfl, s2, hu2, ⟨hT2'.is, fun x hx => hT2'.has x ?_⟩, by omega⟩
      rcases hx with h1 | ⟨y, k, hy, hk, h1⟩ | ⟨k, hk, _⟩
      · exact .inl h1
      · by_cases e : y = i
        · exact .inr (.inr ⟨k, hk, e ▸ h1⟩)
        · exact .inr (.inl ⟨y, k, by omega, hk, h1⟩)
      · omega
  · rintro ρ η' ⟨kvs, x4, x5, x6, rfl, sb, _⟩
    refine as_one (as_ret ?_)
    repeat walk_at "e"
    exact ⟨_, sb, h⟩
end FgA
namespace FgA
open PySem PySem.Spec PyProof.Rows L2 Fg
local macro_rules | `(tactic| walk_at "n") => `(tactic| (refine is_name ?_; first
  | refine ae_nameV (by assumption) (by assumption) rfl rfl ?_
  | refine ae_glob (by assumption) (by assumption) ?_
  | refine ae_nameB (by assumption) rfl ?_))
local macro_rules | `(tactic| walk_at "set") => `(tactic| (refine is_set ?_; refine as_setV (by assumption) (by assumption) (by assumption) rfl ?_))
local macro_rules | `(tactic| walk_at "t") => `(tactic| first
  | (refine is_tgt ?_; refine ag_nameV (by assumption) (by assumption) (by assumption) rfl ?_)
  | refine ag_tup2 (by assumption) ?_
  | refine ag_tup3 (by assumption) ?_
  | refine ag_tup4 (by assumption) ?_)
local macro_rules | `(tactic| walk_at "e") => `(tactic| first
  | walk_at "n"
  | refine ae_int ?_
  | refine ae_str ?_
  | refine ae_sub' ?_
  | refine aa_cons ?_
  | refine aa_nil ?_
  | refine ae_add ?_
  | refine ae_sub ?_
  | refine ae_mul ?_
  | refine ae_mod ?_
  | refine ae_fdiv ?_
  | refine ae_tup ?_
  | refine ae_lst ?_
  | refine ae_slice ?_
  | refine ae_bl ?_
  | refine ae_non ?_
  | refine ae_len (by assumption) (by assumption) ?_
  | refine ae_abs (by assumption) (by assumption) ?_
  | refine ae_call (by assumption) (by assumption) ?_
  | refine addD_int ?_
  | (refine is_ii ?_; refine iiT trivial ?_)
  | refine szl_and rfl ?_
  | (refine is_sub ?_; first | refine subD_tup (ix0 rfl) ?_ | refine subD_tup (ix1 rfl) ?_ | refine subD_tup (ix2 rfl) ?_ | refine subD_tup (ix3 rfl) ?_))
local macro_rules | `(tactic| walk_at "h") => `(tactic| first
  | assumption
  | exact up_same
  | (refine up_new (by assumption) ?_; walk_at "h")
  | (refine up_old (by assumption) ?_; walk_at "h")
  | (refine up_old (Ne.symm (by assumption)) ?_; walk_at "h"))
local macro_rules | `(tactic| walk_at "f") => `(tactic| first
  | assumption
  | (apply free_up; walk_at "f"))
local macro_rules | `(tactic| walk_at "sub") => `(tactic| first
  | exact Sub.refl
  | (refine sub_both ?_; walk_at "sub")
  | (refine sub_new (by assumption) ?_; walk_at "sub"))
local macro_rules | `(tactic| walk_at "sx") => `(tactic| first
  | exact SubX.refl
  | (refine SubX.self ?_; walk_at "sx")
  | (refine SubX.new (by assumption) ?_; walk_at "sx"))
variable {X : Cx} {η : Eta} {Q0 : Dt → Eta → Prop}
/-- the script: a list that is read alone -/
def Scr (K : PySem.W.Frag) (η : Eta) (r : Addr) (sc : List Int) : Prop := (η r = some (.rl (sc.map intD)) ∨ η r = some (.lst (sc.map intD))) ∨ ∀ H, SqL K H r (sc.map V.int)
theorem ints_inv {K : PySem.W.Frag} {H : Hp} : ∀ {vs : List V} {sc : List Int}, Ims K H vs (sc.map intD) → vs = sc.map V.int
  | _, [], h => by cases h; rfl
  | _, y :: r, h => by
    cases h with
    | cons h1 h2 => rw [h1.int_inv, ints_inv h2]; rfl
theorem Scr.sq {K : PySem.W.Frag} {H : Hp} {r : Addr} {sc : List Int} (h : Scr K η r sc) (b : HAb K H η) : SqL K H r (sc.map V.int) := by
  rcases h with (h | h) | h
  · obtain ⟨o, vs, h1, h2⟩ := b _ _ h
    exact .inl (.inr ⟨o, by rw [h1, ints_inv h2]⟩)
  · obtain ⟨vs, h1, h2⟩ := b _ _ h
    exact .inl (.inl (by rw [h1, ints_inv h2]))
  · exact h H
theorem Scr.sub {K : PySem.W.Frag} {η' : Eta} {r : Addr} {sc : List Int} (h : Scr K η r sc) (s : Sub η η') : Scr K η' r sc := h.imp (fun z => z.imp (fun z => s _ _ z) fun z => s _ _ z) fun z => z
theorem ae_lenS {N : List Str} {sc : Scope} {k : Nat} {ρ : Rho} {Q : Dt → Eta → Prop} (A : At X N sc k) (B : Bt X) {p pos : Pos} {e : Expr} (h : AE X e ρ η fun d η1 => ∃ r l, d = .ref r ∧ Scr X.K η1 r l ∧ Q (.int (l.length : Nat)) η1) (hg : sc.names.lookup ("len" : Str) = some .globalImplicit := by rfl)
    (he : starEach [e] X.env = (false, eval e X.env) :: starEach [] X.env := by rfl) (hpl : (backTo pos (starEach [] X.env)).any (·.1) = false := by rfl) : AE X (.Call (.Name "len" p) [e] [] pos) ρ η Q := by
  refine ae_cb A call_len B.len PySem.boot_len (aa_cons (h.mono fun d η1 q => aa_nil ?_) he) hg (by decide) (by decide) he hpl
  obtain ⟨r, l, rfl, hs, q⟩ := q
  intro xs H R m b o
  obtain ⟨v, rfl, m0⟩ := m.one_inv
  refine ⟨v, l.length, rfl, ?_, o _ η1 _ H Kt.refl (.int _) b q⟩
  rw [m0.ref_inv]
  exact .inl ⟨_, hs.sq b, by rw [List.length_map]⟩
theorem ae_subS {ρ : Rho} {Q : Dt → Eta → Prop} {a b : Expr} {pos : Pos} (h : AE X a ρ η fun d η1 => AE X b ρ η1 fun e η2 => ∃ (r : Addr) (l : List Int) (k : Nat) (v : Int), d = .ref r ∧ Scr X.K η2 r l ∧ e = nD k ∧ l[k]? = some v ∧ Q (.int v) η2) (hs : PlainIx b := by intro _ _; rfl) : AE X (.Subscript a b pos) ρ η Q := by
  refine AX.of (pe_ix ix_seq (peW a) (peW b) hs) (ax_op (h.run.mono fun d η1 q => q.run.mono fun e η2 q2 => ?_))
  obtain ⟨r, l, k, v, rfl, hS, rfl, hk, q⟩ := q2
  intro x y H R mx my bb o
  exact .inl ⟨r, _, (k : Int), .int v, mx.ref_inv, my.int_inv, hS.sq bb, atI_nat (by rw [List.getElem?_map, hk]; rfl), o _ η2 _ H Kt.refl (.int _) bb q⟩
def p__law_cell_at (K : PySem.W.Frag) : ASp := fun ds η Q => ∃ (r : Addr) (sc : List Int) (k : Nat), ds = [.ref r, nD k] ∧ Scr K η r sc ∧ ∀ v : Int, Q (.int v) η
theorem b__law_cell_at (A : At X n__law_cell_at (defScope s__law_cell_at) 0) (B : Bt X) (hf : ∀ y, X.fn y = true) {ds : List Dt} (h : p__law_cell_at X.K ds η Q0) :
    ASs X (defBody s__law_cell_at) (ds.map some ++ List.replicate 0 none) η (ends Q0) := by
  have V0 := v__law_cell_at
  obtain ⟨r, sc, k, rfl, hr, h⟩ := h
  refine as_cons (as_if (at_lt ?_))
  walk_at "e"
  refine ae_lenS A B ?_
  walk_at "e"
  refine ⟨r, sc, rfl, hr, ?_⟩
  refine ⟨_, _, rfl, rfl, fun z => ?_, fun _ => ?_⟩
  · have hk : k < sc.length := by omega
    refine as_one (as_ret (ae_subS ?_))
    repeat walk_at "e"
    exact ⟨r, sc, k, sc[k], rfl, hr, rfl, List.getElem?_eq_getElem hk, _, Sub.refl, h _⟩
  · refine as_nil ?_
    refine as_one (as_ret ?_)
    repeat walk_at "e"
    exact ⟨_, Sub.refl, h 0⟩
def bigBy : List Dt := [.int 48271, .int 69621, .int 16807, .int 39373, .int 21401, .int 60493, .int 87721, .int 31337]
def bigPr : List Dt := [.int 99991, .int 99989, .int 99971, .int 99961, .int 99929, .int 99923, .int 99907, .int 99901]
theorem by_at (j : Nat) (h : j < 8) : ∃ b : Int, 0 ≤ b ∧ bigBy[j]? = some (.int b) := by
  match j, h with
  | 0, _ => exact ⟨_, by decide, rfl⟩
  | 1, _ => exact ⟨_, by decide, rfl⟩
  | 2, _ => exact ⟨_, by decide, rfl⟩
  | 3, _ => exact ⟨_, by decide, rfl⟩
  | 4, _ => exact ⟨_, by decide, rfl⟩
  | 5, _ => exact ⟨_, by decide, rfl⟩
  | 6, _ => exact ⟨_, by decide, rfl⟩
  | 7, _ => exact ⟨_, by decide, rfl⟩
theorem pr_at (j : Nat) (h : j < 8) : ∃ b : Int, 0 < b ∧ bigPr[j]? = some (.int b) := by
  match j, h with
  | 0, _ => exact ⟨_, by decide, rfl⟩
  | 1, _ => exact ⟨_, by decide, rfl⟩
  | 2, _ => exact ⟨_, by decide, rfl⟩
  | 3, _ => exact ⟨_, by decide, rfl⟩
  | 4, _ => exact ⟨_, by decide, rfl⟩
  | 5, _ => exact ⟨_, by decide, rfl⟩
  | 6, _ => exact ⟨_, by decide, rfl⟩
  | 7, _ => exact ⟨_, by decide, rfl⟩
theorem fmod_pos {a b : Int} (h : 0 < b) : 0 ≤ a.fmod b ∧ a.fmod b < b := ⟨Int.fmod_nonneg_of_pos _ h, Int.fmod_lt_of_pos _ h⟩
def p__law_big (K : PySem.W.Frag) : ASp := fun ds η Q => ∃ (r : Addr) (sc : List Int) (k : Nat), ds = [.ref r, nD k] ∧ Scr K η r sc ∧ ∀ n : Nat, Q (nD n) η
theorem b__law_big (A : At X n__law_big (defScope s__law_big) 1) (B : Bt X) (hf : ∀ y, X.fn y = true) (f1 : FX X "_law_cell_at" 1 2 (p__law_cell_at X.K)) {ds : List Dt} (h : p__law_big X.K ds η Q0) :
    ASs X (defBody s__law_big) (ds.map some ++ List.replicate 6 none) η (ends Q0) := by
  have V0 := v__law_big
  obtain ⟨r, sc, k, rfl, hr, h⟩ := h
  refine as_cons ?_
  walk_at "set"
  repeat walk_at "e"
  refine as_cons ?_
  walk_at "set"
  repeat walk_at "e"
  refine as_cons ?_
  walk_at "set"
  repeat walk_at "e"
  refine ⟨rfl, r, sc, k, rfl, hr, fun v => ?_⟩
  refine as_cons (as_if (at_ge ?_))
  repeat walk_at "e"
  refine ae_pow ?_
  repeat walk_at "e"
  refine iiT ⟨by decide, by decide, by decide⟩ ?_
  refine ⟨_, _, rfl, rfl, fun z => ?_, fun _ => ?_⟩
  · obtain ⟨n, rfl⟩ := Int.eq_ofNat_of_zero_le (a := v) (Int.le_trans (by decide) z)
    refine as_one (as_ret ?_)
    repeat walk_at "e"
    exact ⟨_, Sub.refl, h n⟩
  refine as_nil ?_
  refine as_cons ?_
  walk_at "set"
  repeat walk_at "e"
  refine as_cons (as_for A (ai_range1 A B ?_))
  repeat walk_at "e"
  refine ⟨_, rfl, by omega, by omega, fun i ρ η' => ∃ (n : Nat) (x6 x7 : Option Dt), ρ = [some (.ref r), some (nD k), some (.tup bigBy), some (.tup bigPr), some (.int v), some (nD n), x6, x7] ∧ η' = η, ?_, ?_, ?_, ?_⟩
  · exact ⟨0, none, none, rfl, rfl⟩
  · intros; trivial
  · rintro i d ρ η' hi rfl ⟨n, x6, x7, rfl, rfl⟩
    rw [show (0 : Int) + (i : Nat) = (i : Nat) by omega]
    have hi' : i < 60 := by simpa using hi
    walk_at "t"
    refine as_cons ?_
    walk_at "set"
    repeat walk_at "e"
    refine iiT (by decide) ?_
    repeat walk_at "e"
    refine ⟨rfl, r, sc, k + i % 9, ?_, hr, fun u => ?_⟩
    · rw [show Int.fmod (i : Int) 9 = ((i % 9 : Nat) : Int) from emod_nat i 9 (by decide)]; rfl
    repeat walk_at "e"
    refine ae_pow ?_
    repeat walk_at "e"
    refine iiT ⟨by decide, by decide, by decide⟩ ?_
    refine iiT (by decide) ?_
    repeat walk_at "e"
    refine iiT (mul_small (by omega)) ?_
    repeat walk_at "e"
    obtain ⟨w1, w2⟩ := fmod_pos (a := u) (b := (10 : Int) ^ (18 : Int).toNat) (by decide)
    have w3 : (10 : Int) ^ (18 : Int).toNat = 1000000000000000000 := by decide
    have w4 : ((i : Int)) * (i : Int) = ((i * i : Nat) : Int) := by simp
    have w5 : i * i ≤ 60 * 60 := Nat.mul_le_mul (by omega) (by omega)
    rw [w4]
    generalize hU : u.fmod ((10 : Int) ^ (18 : Int).toNat) + 1 + ((i * i : Nat) : Int) = U
    have hU1 : 0 ≤ U := by omega
    have hU2 : U < 2 ^ 63 := by omega
    obtain ⟨b, hb1, hb2⟩ := by_at (i % 8) (Nat.mod_lt _ (by decide))
    obtain ⟨c, hc1, hc2⟩ := pr_at (i % 8) (Nat.mod_lt _ (by decide))
    have e8 : Int.fmod (i : Int) 8 = ((i % 8 : Nat) : Int) := emod_nat i 8 (by decide)
    refine as_one ?_
    walk_at "set"
    repeat walk_at "e"
    refine iiT (mul_small' (by decide)) ?_
    repeat walk_at "e"
    refine iiT (by decide) ?_
    rw [e8]
    refine subD_tup (atN hb2) ?_
    refine iiT (mul_small ⟨by omega, by omega⟩) ?_
    repeat walk_at "e"
    refine iiT (by decide) ?_
    rw [e8]
    refine subD_tup (atN hc2) ?_
    refine iiT (by omega) ?_
    repeat walk_at "e"
    refine iiT (by decide) ?_
    repeat walk_at "e"
    have w6 := (fmod_pos (a := (U * b).fmod c) (b := 7919) (by decide)).1
    obtain ⟨m, hm⟩ := Int.eq_ofNat_of_zero_le (a := (n : Int) * 7919 + ((U * b).fmod c).fmod 7919) (by omega)
    exact ⟨m, _, _, by rw [hm]; rfl, rfl⟩
  · rintro ρ η' ⟨n, x6, x7, rfl, rfl⟩
    refine as_one (as_ret ?_)
    repeat walk_at "e"
    exact ⟨_, Sub.refl, h n⟩
/-- the digits that are left stand in a list of one number -/
def p__law_digit : ASp := fun ds η Q => ∃ (r : Addr) (n m : Nat), ds = [.ref r, nD m] ∧ η r = some (.lst [nD n]) ∧ 0 < m ∧ m ≤ 100000 ∧ ∀ d n' : Nat, d < m → Q (nD d) (up η r (.lst [nD n']))
theorem b__law_digit (A : At X n__law_digit (defScope s__law_digit) 0) (B : Bt X) (hf : ∀ y, X.fn y = true) {ds : List Dt} (h : p__law_digit ds η Q0) :
    ASs X (defBody s__law_digit) (ds.map some ++ List.replicate 1 none) η (ends Q0) := by
  have V0 := v__law_digit
  obtain ⟨r, n, m, rfl, hr, hm0, hm, h⟩ := h
  have e1 : Int.fmod (n : Int) (m : Int) = ((n % m : Nat) : Int) := emod_nat n m hm0
  have e2 : Int.fdiv (n : Int) (m : Int) = ((n / m : Nat) : Int) := by
    rw [Int.fdiv_eq_ediv_of_nonneg _ (by omega)]; simp
  refine as_cons ?_
  walk_at "set"
  repeat walk_at "e"
  refine subD_lst hr (ix0 rfl) ?_
  repeat walk_at "e"
  refine iiT (by omega) ?_
  rw [e1]
  refine as_cons (as_asg ?_)
  repeat walk_at "e"
  refine subD_lst hr (ix0 rfl) ?_
  repeat walk_at "e"
  refine iiT (.inl ⟨by omega, by omega⟩) ?_
  rw [e2]
  refine ag_sub A ?_
  repeat walk_at "e"
  refine ⟨r, _, _, rfl, hr, .lst (i := 0) (j := 0) rfl, ?_⟩
  refine as_one (as_ret ?_)
  repeat walk_at "e"
  exact ⟨_, Sub.refl, h _ _ (Nat.mod_lt _ hm0)⟩
theorem split2 {α : Type} {l : List α} {k : Nat} (h : k + 1 < l.length) : ∃ l1 a b l2, l = l1 ++ a :: b :: l2 ∧ l1.length = k :=
  ⟨l.take k, l[k], l[k + 1], l.drop (k + 2), by rw [← List.drop_eq_getElem_cons h, ← List.drop_eq_getElem_cons (by omega), List.take_append_drop], by rw [List.length_take]; omega⟩
theorem atN1 {α : Type} {l : List α} {j : Nat} {x : α} (h : l[j + 1]? = some x) : atI l ((j : Int) + 1) = some x := atN (j := j + 1) h
theorem SubX.up' {p q : Addr} {η' : Eta} {m : Mo} (h : SubX p η η') (hq : η q = none) : SubX p η (FgA.up η' q m) := fun z m' hz e => by
  have : z ≠ q := fun e2 => by rw [e2, hq] at e; cases e
  rw [up_ne this]; exact h z m' hz e
theorem ins_mid {α β : Type} (f : α → β) (l1 : List α) (a b c : α) (l2 : List α) : ((l1 ++ a :: b :: l2).map f).take (l1.length + 1) ++ [f c] ++ ((l1 ++ a :: b :: l2).map f).drop (l1.length + 1) = (l1 ++ a :: c :: b :: l2).map f := by
  rw [show (l1 ++ a :: b :: l2).map f = (l1 ++ [a]).map f ++ (b :: l2).map f by simp, List.take_left' (by simp), List.drop_left' (by simp)]
  simp
theorem cut_mid {α : Type} (l : List α) {i j : Nat} (h1 : i ≤ j) (h2 : j ≤ l.length) : cutD l (some (i : Int)) (some (j : Int)) = (l.drop i).take (j - i) := by
  unfold cutD
  rw [HT.sIx_nat, HT.sIx_nat, Nat.min_eq_left h2, Nat.min_eq_left (Nat.le_trans h1 h2)]
/-- numbers that are small -/
def FrB (k : Nat) (l : List Fr) : Prop := ∀ x ∈ l, x.1.natAbs ≤ k ∧ x.2.natAbs ≤ k
theorem FrB.mid {k : Nat} {l1 l2 : List Fr} {a b : Fr} (h : FrB k (l1 ++ a :: b :: l2)) : FrB (2 * k) (l1 ++ a :: (a.1 + b.1, a.2 + b.2) :: b :: l2) := by
  have ha := h a (by simp)
  have hb := h b (by simp)
  intro x hx
  have hx' : x = (a.1 + b.1, a.2 + b.2) ∨ x ∈ l1 ++ a :: b :: l2 := by
    simp only [List.mem_append, List.mem_cons] at hx ⊢
    rcases hx with h1 | h1 | h1 | h1 | h1
    · exact .inr (.inl h1)
    · exact .inr (.inr (.inl h1))
    · exact .inl h1
    · exact .inr (.inr (.inr (.inl h1)))
    · exact .inr (.inr (.inr (.inr h1)))
  rcases hx' with rfl | hx'
  · simp only; omega
  · have := h x hx'; omega
theorem cut_one {α : Type} (l : List α) {j : Nat} (h1 : 1 ≤ j) (h2 : j ≤ l.length) : cutD l (some 1) (some (j : Int)) = (l.drop 1).take (j - 1) := cut_mid l (i := 1) h1 h2
def p__law_fractions : ASp := fun ds η Q => ∃ (r : Addr) (n m : Nat), ds = [.ref r, nD m] ∧ η r = some (.lst [nD n]) ∧ 2 ≤ m ∧ m ≤ 8 ∧ ∀ (L : List Fr) (n' : Nat), FrOk L → FrB 64 L → L.length + 1 = m → Q (.tup ((inf :: L).map frD)) (up η r (.lst [nD n']))
theorem b__law_fractions (A : At X n__law_fractions (defScope s__law_fractions) 1) (B : Bt X) (hf : ∀ y, X.fn y = true) (f1 : FX X "_law_digit" 1 2 p__law_digit) {ds : List Dt} (h : p__law_fractions ds η Q0) :
    ASs X (defBody s__law_fractions) (ds.map some ++ List.replicate 3 none) η (ends Q0) := by
  have V0 := v__law_fractions
  obtain ⟨r, n, m, rfl, hr, hm2, hm8, h⟩ := h
  refine as_cons ?_
  walk_at "set"
  repeat walk_at "e"
  refine ae_neg ?_
  repeat walk_at "e"
  refine ⟨_, rfl, ?_⟩
  repeat walk_at "e"
  intro q hq
  have hqr : r ≠ q := (ne_at hq hr).symm
  refine as_cons (as_for A (ai_range1 A B ?_))
  repeat walk_at "e"
  refine ⟨_, rfl, by omega, by omega, fun i ρ η' => ∃ (L : List Fr) (n' : Nat) (x3 x4 : Option Dt), ρ = [some (.ref r), some (nD m), some (.ref q), x3, x4] ∧ SubX r η η' ∧ η' r = some (.lst [nD n']) ∧ η' q = some (.lst ((minf :: (L ++ [inf])).map frD)) ∧ FrOk L ∧ L.length = i + 1 ∧ FrB (2 ^ i) (minf :: (L ++ [inf])), ?_, ?_, ?_, ?_⟩
  · exact ⟨[nought], n, none, none, rfl, SubX.sub (Sub.up hq), up_new hq hr, up_same, fr_start, rfl, fun x hx => by simp at hx; rcases hx with rfl | rfl | rfl <;> decide⟩
  · intros; trivial
  · rintro i d ρ η' hi rfl ⟨L, n', x3, x4, rfl, sx, hr', hq', hL, hLl, hLb⟩
    have hi' : i < m - 2 := by omega
    have hrl : (minf :: (L ++ [inf])).length = L.length + 2 := by simp
    walk_at "t"
    refine as_cons ?_
    walk_at "set"
    repeat walk_at "e"
    refine len_l hq' (by rw [List.length_map, hrl]; omega) ?_
    repeat walk_at "e"
    refine ⟨rfl, r, n', L.length + 1, ?_, hr', by omega, by omega, fun k n2 hat => ?_⟩
    · rw [List.length_map, hrl, show (((L.length + 2 : Nat) : Int) - 1) = ((L.length + 1 : Nat) : Int) by omega]; rfl
    obtain ⟨l1, a, b, l2, e, el⟩ := split2 (l := minf :: (L ++ [inf])) (k := k) (by rw [hrl]; omega)
    subst el
    rw [e] at hq'
    have hq2 : up η' r (.lst [nD n2]) q = some (.lst ((l1 ++ a :: b :: l2).map frD)) := up_old hqr.symm hq'
    have ha : ((l1 ++ a :: b :: l2).map frD)[l1.length]? = some (frD a) := by rw [List.getElem?_map, List.getElem?_append_right (by omega)]; simp
    have hb : ((l1 ++ a :: b :: l2).map frD)[l1.length + 1]? = some (frD b) := by rw [List.getElem?_map, List.getElem?_append_right (by omega)]; simp
    refine as_one (as_expr (ae_insert ?_))
    repeat walk_at "e"
    refine ⟨isL hq2, ?_⟩
    repeat walk_at "e"
    refine subD_lst hq2 (atN ha) ?_
    repeat walk_at "e"
    refine subD_lst hq2 (atN1 hb) ?_
    repeat walk_at "e"
    refine subD_lst hq2 (atN ha) ?_
    repeat walk_at "e"
    refine subD_lst hq2 (atN1 hb) ?_
    repeat walk_at "e"
    obtain ⟨L', e', hL', hLl'⟩ := put_mid hL e
    refine am_insert (j := l1.length + 1) hq2 (by rw [List.length_map, ← e, hrl]; omega) (by omega) ?_
    refine ⟨L', n2, _, _, rfl, SubX.up' (SubX.self sx) hq, up_old hqr up_same, ?_, hL', by omega, ?_⟩
    · rw [up_same, e', ← ins_mid]; rfl
    · rw [e', show 2 ^ (i + 1) = 2 * 2 ^ i by rw [Nat.pow_succ]; omega]
      exact FrB.mid (by rw [← e]; exact hLb)
  · rintro ρ η' ⟨L, n', x3, x4, rfl, sx, hr', hq', hL, hLl, hLb⟩
    have hrl : (minf :: (L ++ [inf])).length = L.length + 2 := by simp
    have hml : L.length + 1 = m := by omega
    refine as_one (as_ret (ae_tuple A B ?_))
    repeat walk_at "e"
    intro q2 hq2
    repeat walk_at "e"
    refine ⟨1, rfl, ?_⟩
    refine ae_sub ?_
    repeat walk_at "e"
    refine len_l (up_new hq2 hq') (by rw [List.length_map, hrl]; omega) ?_
    repeat walk_at "e"
    refine ⟨_, rfl, q, _, rfl, up_new hq2 hq', fun q3 hq3 => ?_⟩
    rw [List.length_map, hrl, show (((L.length + 2 : Nat) : Int) - 1) = ((L.length + 1 : Nat) : Int) by omega, cut_one _ (by omega) (by rw [List.length_map, hrl]; omega)]
    refine addD_lst (up_new hq3 up_same) up_same (szl (Nat.ble_eq.mpr (by simp; omega))) fun q4 hq4 => ?_
    refine ⟨_, items_l up_same, ?_⟩
    have e1 : [frD inf] ++ List.take (L.length + 1 - 1) (List.drop 1 ((minf :: (L ++ [inf])).map frD)) = (inf :: L).map frD := by
      simp
    refine ⟨_, ?_, by rw [show [Dt.tup [Dt.int 1, Dt.int 0]] = [frD inf] from rfl, e1]; exact h L n' hL (fun x hx => by have := hLb x (by simp [hx]); have h6 : 2 ^ (((m : Int) - 2).toNat) ≤ 2 ^ 6 := Nat.pow_le_pow_right (by decide) (by omega); omega) hml⟩
    exact (sub_at hr' sx).trans ((Sub.up hq2).trans ((Sub.up hq3).trans (Sub.up hq4)))
end FgA
namespace FgA
open PySem PySem.Spec PyProof.Rows L2 Fg
local macro_rules | `(tactic| walk_at "n") => `(tactic| (refine is_name ?_; first
  | refine ae_nameV (by assumption) (by assumption) rfl rfl ?_
  | refine ae_glob (by assumption) (by assumption) ?_
  | refine ae_nameB (by assumption) rfl ?_))
local macro_rules | `(tactic| walk_at "set") => `(tactic| (refine is_set ?_; refine as_setV (by assumption) (by assumption) (by assumption) rfl ?_))
local macro_rules | `(tactic| walk_at "t") => `(tactic| first
  | (refine is_tgt ?_; refine ag_nameV (by assumption) (by assumption) (by assumption) rfl ?_)
  | refine ag_tup2 (by assumption) ?_
  | refine ag_tup3 (by assumption) ?_
  | refine ag_tup4 (by assumption) ?_)
local macro_rules | `(tactic| walk_at "e") => `(tactic| first
  | walk_at "n"
  | refine ae_int ?_
  | refine ae_str ?_
  | refine ae_sub' ?_
  | refine aa_cons ?_
  | refine aa_nil ?_
  | refine ae_add ?_
  | refine ae_sub ?_
  | refine ae_mul ?_
  | refine ae_mod ?_
  | refine ae_fdiv ?_
  | refine ae_tup ?_
  | refine ae_lst ?_
  | refine ae_slice ?_
  | refine ae_bl ?_
  | refine ae_non ?_
  | refine ae_len (by assumption) (by assumption) ?_
  | refine ae_abs (by assumption) (by assumption) ?_
  | refine ae_call (by assumption) (by assumption) ?_
  | refine addD_int ?_
  | (refine is_ii ?_; refine iiT trivial ?_)
  | refine szl_and rfl ?_
  | (refine is_sub ?_; first | refine subD_tup (ix0 rfl) ?_ | refine subD_tup (ix1 rfl) ?_ | refine subD_tup (ix2 rfl) ?_ | refine subD_tup (ix3 rfl) ?_))
local macro_rules | `(tactic| walk_at "h") => `(tactic| first
  | assumption
  | exact up_same
  | (refine up_new (by assumption) ?_; walk_at "h")
  | (refine up_old (by assumption) ?_; walk_at "h")
  | (refine up_old (Ne.symm (by assumption)) ?_; walk_at "h"))
local macro_rules | `(tactic| walk_at "f") => `(tactic| first
  | assumption
  | (apply free_up; walk_at "f"))
local macro_rules | `(tactic| walk_at "sub") => `(tactic| first
  | exact Sub.refl
  | (refine sub_both ?_; walk_at "sub")
  | (refine sub_new (by assumption) ?_; walk_at "sub"))
local macro_rules | `(tactic| walk_at "sx") => `(tactic| first
  | exact SubX.refl
  | (refine SubX.self ?_; walk_at "sx")
  | (refine SubX.new (by assumption) ?_; walk_at "sx"))
variable {X : Cx} {η : Eta} {Q0 : Dt → Eta → Prop}
theorem mkD_third {m : Mk} : mkD m = .str "third" ↔ m = .third := by
  cases m with
  | half => exact ⟨fun h => absurd (Dt.str.inj h) (by decide +kernel), fun h => (by cases h)⟩
  | third => exact ⟨fun _ => rfl, fun _ => rfl⟩
  | pair j => exact ⟨fun h => (by cases h), fun h => (by cases h)⟩
theorem mkD_half {m : Mk} : mkD m = .str "half" ↔ m = .half := by
  cases m with
  | half => exact ⟨fun _ => rfl, fun _ => rfl⟩
  | third => exact ⟨fun h => absurd (Dt.str.inj h) (by decide +kernel), fun h => (by cases h)⟩
  | pair j => exact ⟨fun h => (by cases h), fun h => (by cases h)⟩
theorem okd_mk (n : Nat) (m : Mk) : okd n (mkD m) = true := by
  cases m with
  | half => exact okd_str (by decide +kernel)
  | third => exact okd_str (by decide +kernel)
  | pair j => exact okd_nD _ _
theorem okd_nDs (n : Nat) (l : List Nat) : ∀ x ∈ l.map nD, okd n x = true := fun x hx => by
  obtain ⟨y, _, rfl⟩ := List.mem_map.mp hx
  exact okd_nD _ _
theorem er_map {α β : Type} (f : α → β) (l : List α) (k : Nat) : (l.map f).eraseIdx k = (l.eraseIdx k).map f := by
  rw [List.eraseIdx_eq_take_drop_succ, List.eraseIdx_eq_take_drop_succ, List.map_append, List.map_take, List.map_drop]
theorem mk_two : MkOk [.third, .half] 2 := ⟨rfl, fun i j h => by
  match i, h with
  | 0, h => cases h
  | 1, h => cases h⟩
def p__law_marks : ASp := fun ds η Q => ∃ (r : Addr) (n m : Nat), ds = [.ref r, nD m] ∧ η r = some (.lst [nD n]) ∧ 2 ≤ m ∧ m ≤ 8 ∧ ∀ (mk : List Mk) (n' : Nat), MkOk mk m → (m = 2 → Mk.third ∈ mk) → Q (.tup (mk.map mkD)) (up η r (.lst [nD n']))
theorem b__law_marks (A : At X n__law_marks (defScope s__law_marks) 1) (B : Bt X) (hf : ∀ y, X.fn y = true) (f1 : FX X "_law_digit" 1 2 p__law_digit) {ds : List Dt} (h : p__law_marks ds η Q0) :
    ASs X (defBody s__law_marks) (ds.map some ++ List.replicate 5 none) η (ends Q0) := by
  have V0 := v__law_marks
  obtain ⟨r, n, m, rfl, hr, hm2, hm8, h⟩ := h
  refine as_cons (as_lc1 A (ai_range1 A B ?_))
  repeat walk_at "e"
  refine ⟨_, rfl, by omega, by omega, by omega, fun _ _ _ _ => trivial, trivial, fun j e => e = mkD .half, ?_, ?_⟩
  · intro j d D acc X' hj hd hD hla A' b
    repeat walk_at "e"
    exact ⟨Sub.refl, rfl⟩
  intro u acc hu hla hF
  have hacc : acc = (List.replicate m Mk.half).map mkD := by
    rw [List.map_replicate]
    refine List.eq_replicate_iff.mpr ⟨by rw [hla]; omega, fun e he => ?_⟩
    obtain ⟨j, hj⟩ := List.getElem?_of_mem he
    exact hF j e hj
  subst hacc
  have hur : r ≠ u := (ne_at hu hr).symm
  refine as_cons ?_
  walk_at "set"
  refine ae_listRg A B ?_
  repeat walk_at "e"
  refine ⟨m, rfl, by omega, fun v hv => ?_⟩
  have hvr : r ≠ v := (ne_at hv (up_new hu hr)).symm
  have huv : u ≠ v := (ne_at hv up_same).symm
  have hv0 : η v = none := free_up hv
  refine as_cons ?_
  refine as_while A (fun k ρ η' => ∃ (mk : List Mk) (left : List Nat) (n' : Nat) (x4 x5 x6 : Option Dt), ρ = [some (.ref r), some (nD m), some (.ref u), some (.ref v), x4, x5, x6] ∧ SubX r η η' ∧ η' r = some (.lst [nD n']) ∧ η' u = some (.lst (mk.map mkD)) ∧ η' v = some (.lst (left.map nD)) ∧ MkIn mk left m ∧ left.length = k ∧ k ≤ m) m ?_ ?_
  · exact ⟨_, List.range m, n, none, none, none, rfl, SubX.sub (sub_new hv (Sub.up hu)), up_new hv (up_new hu hr), up_new hv up_same, up_same, MkIn.start m, by simp, Nat.le_refl _⟩
  · rintro k ρ η' ⟨mk, left, n', x4, x5, x6, rfl, sx, hr', hu', hv', hM, hk, hkm⟩
    refine at_neL A ?_
    repeat walk_at "e"
    intro w hw
    have hwv : up η' w (.lst []) v = some (.lst (left.map nD)) := up_new hw hv'
    refine ⟨_, _, ⟨⟨v, w, rfl, rfl, hwv, up_same⟩, okd_nDs 8 _, fun x hx => by cases hx⟩, fun z => ?_, fun z => ?_⟩
    · match left, hM, hk, hwv, hv', z with
      | [], _, _, _, _, z => exact absurd rfl z
      | g :: left, hM, hk, hwv, hv', _ =>
        have hgh := hM.hf g (List.mem_cons_self ..)
        have hgm : g < mk.length := (List.getElem?_eq_some_iff.mp hgh).1
        have hmkl : mk.length = m := hM.ok.ln
        have hl7 : left.length < 8 := by simp at hk; omega
        refine as_cons ?_
        walk_at "set"
        refine ae_popAt ?_
        repeat walk_at "e"
        refine ⟨isL hwv, ?_⟩
        repeat walk_at "e"
        refine am_popAt (j := 0) hwv (by decide) rfl ?_
        have e0 : ((g :: left).map nD).eraseIdx 0 = left.map nD := rfl
        rw [e0]
        refine as_cons ?_
        walk_at "set"
        repeat walk_at "e"
        have hr2 : up (up η' w (.lst [])) v (.lst (left.map nD)) r = some (.lst [nD n']) := up_old hvr (up_new hw hr')
        have hu2 : up (up η' w (.lst [])) v (.lst (left.map nD)) u = some (.lst (mk.map mkD)) := up_old huv (up_new hw hu')
        refine ⟨rfl, r, n', 4, rfl, hr2, by decide, by decide, fun way n2 hway => ?_⟩
        have sx2 : SubX r η (up (up (up η' w (.lst [])) v (.lst (left.map nD))) r (.lst [nD n2])) := SubX.self (SubX.up' (SubX.trans sx (SubX.new hw SubX.refl)) hv0)
        have hr3 : up (up (up η' w (.lst [])) v (.lst (left.map nD))) r (.lst [nD n2]) r = some (.lst [nD n2]) := up_same
        have hu3 : up (up (up η' w (.lst [])) v (.lst (left.map nD))) r (.lst [nD n2]) u = some (.lst (mk.map mkD)) := up_old hur.symm hu2
        have hv3 : up (up (up η' w (.lst [])) v (.lst (left.map nD))) r (.lst [nD n2]) v = some (.lst (left.map nD)) := up_old hvr.symm up_same
        generalize up (up (up η' w (.lst [])) v (.lst (left.map nD))) r (.lst [nD n2]) = η3 at sx2 hr3 hu3 hv3
        refine as_cons (as_ifJ (fun ρ1 η1 => ∃ mk2 : List Mk, ρ1 = [some (.ref r), some (nD m), some (.ref u), some (.ref v), some (nD g), some (nD way), x6] ∧ SubX r η η1 ∧ η1 r = some (.lst [nD n2]) ∧ η1 u = some (.lst (mk2.map mkD)) ∧ η1 v = some (.lst (left.map nD)) ∧ (1 < way → MkIn mk2 (g :: left) m) ∧ MkIn mk2 left m) (at_eq A ?_) ?_)
        · repeat walk_at "e"
          refine ⟨cmpr_of rfl rfl, fun z => ?_, fun z => ?_⟩
          · have hw1 : way = 1 := by have := Dt.int.inj z; omega
            refine as_one (as_asg ?_)
            repeat walk_at "e"
            refine ag_sub A ?_
            repeat walk_at "e"
            refine ⟨u, _, _, rfl, hu3, set_lst (by rw [List.length_map]; exact hgm), ?_⟩
            refine ⟨mk.set g .third, rfl, SubX.up' sx2 hu, up_old hur hr3, ?_, up_old huv.symm hv3, fun z => by omega, hM.third⟩
            rw [up_same, List.map_set]; rfl
          · exact as_nil ⟨mk, rfl, sx2, hr3, hu3, hv3, fun _ => hM, hM.half⟩
        · rintro ρ1 η1 ⟨mk2, rfl, sx4, hr4, hu4, hv4, hM4, hM4'⟩
          refine as_one (as_if (at_bool (aw_and (at_gt ?_))))
          repeat walk_at "e"
          refine ⟨_, _, rfl, rfl, fun z => ?_, fun z => ?_⟩
          · refine aw_and1 (at_neL A ?_)
            repeat walk_at "e"
            intro w2 hw2
            have hv5 : up η1 w2 (.lst []) v = some (.lst (left.map nD)) := up_new hw2 hv4
            have hr5 : up η1 w2 (.lst []) r = some (.lst [nD n2]) := up_new hw2 hr4
            have hu5 : up η1 w2 (.lst []) u = some (.lst (mk2.map mkD)) := up_new hw2 hu4
            have sx5 : SubX r η (up η1 w2 (.lst [])) := SubX.trans sx4 (SubX.new hw2 SubX.refl)
            have hw5 : up η1 w2 (.lst []) w2 = some (.lst []) := up_same
            generalize up η1 w2 (.lst []) = η5 at hv5 hr5 hu5 sx5 hw5
            refine ⟨_, _, ⟨⟨v, w2, rfl, rfl, hv5, hw5⟩, okd_nDs 8 _, fun x hx => by cases hx⟩, fun y => ?_, fun y => ?_⟩
            · have hl0 : left ≠ [] := fun e => y (by rw [e]; rfl)
              have hlp : 0 < left.length := List.length_pos_iff.mpr hl0
              have hM6 := hM4 (by omega)
              refine as_cons ?_
              walk_at "set"
              refine ae_popAt ?_
              repeat walk_at "e"
              refine ⟨isL hv5, ?_⟩
              repeat walk_at "e"
              refine len_l hv5 (by rw [List.length_map]; omega) ?_
              repeat walk_at "e"
              refine ⟨rfl, r, n2, left.length, by rw [List.length_map]; rfl, hr5, hlp, by omega, fun d n3 hd => ?_⟩
              repeat walk_at "e"
              have ho : left[d]? = some left[d] := List.getElem?_eq_getElem hd
              refine am_popAt (j := d) (x := nD left[d]) (up_old hvr.symm hv5) (by omega) (by rw [List.getElem?_map, ho]; rfl) ?_
              rw [er_map]
              have hu7 : up (up η5 r (.lst [nD n3])) v (.lst ((left.eraseIdx d).map nD)) u = some (.lst (mk2.map mkD)) := up_old huv (up_old hur.symm hu5)
              have hr7 : up (up η5 r (.lst [nD n3])) v (.lst ((left.eraseIdx d).map nD)) r = some (.lst [nD n3]) := up_old hvr up_same
              have hv7 : up (up η5 r (.lst [nD n3])) v (.lst ((left.eraseIdx d).map nD)) v = some (.lst ((left.eraseIdx d).map nD)) := up_same
              have sx7 : SubX r η (up (up η5 r (.lst [nD n3])) v (.lst ((left.eraseIdx d).map nD))) := SubX.up' (SubX.self sx5) hv0
              generalize up (up η5 r (.lst [nD n3])) v (.lst ((left.eraseIdx d).map nD)) = η7 at hu7 hr7 hv7 sx7
              have hmk2 : mk2.length = m := hM6.ok.ln
              have hg2 : g < mk2.length := (List.getElem?_eq_some_iff.mp (hM6.hf g (List.mem_cons_self ..))).1
              have hd2 : left[d] < mk2.length := (List.getElem?_eq_some_iff.mp (hM6.hf left[d] (List.mem_cons_of_mem _ (List.getElem_mem hd)))).1
              refine as_cons (as_asg ?_)
              repeat walk_at "e"
              refine ag_sub A ?_
              repeat walk_at "e"
              refine ⟨u, _, _, rfl, hu7, set_lst (by rw [List.length_map]; exact hg2), ?_⟩
              refine as_one (as_asg ?_)
              repeat walk_at "e"
              refine ag_sub A ?_
              repeat walk_at "e"
              refine ⟨u, _, _, rfl, up_same, set_lst (by rw [List.length_set, List.length_map]; exact hd2), ?_⟩
              rw [up_up]
              refine ⟨(left.eraseIdx d).length, by simp at hk; rw [List.length_eraseIdx]; split <;> omega, (mk2.set g (.pair left[d])).set left[d] (.pair g), left.eraseIdx d, n3, _, _, _, rfl, SubX.up' sx7 hu, up_old hur hr7, ?_, up_old huv.symm hv7, hM6.pair ho, rfl, by simp at hk; rw [List.length_eraseIdx]; split <;> omega⟩
              rw [up_same, List.map_set, List.map_set]; rfl
            · exact as_nil ⟨left.length, by simp at hk; omega, mk2, left, n2, _, _, _, rfl, sx5, hr5, hu5, hv5, hM4', rfl, by simp at hk; omega⟩
          · exact as_nil ⟨left.length, by simp at hk; omega, mk2, left, n2, _, _, _, rfl, sx4, hr4, hu4, hv4, hM4', rfl, by simp at hk; omega⟩
    · have hr6 : up η' w (.lst []) r = some (.lst [nD n']) := up_new hw hr'
      have hu6 : up η' w (.lst []) u = some (.lst (mk.map mkD)) := up_new hw hu'
      have s6 : Sub (up η r (.lst [nD n'])) (up η' w (.lst [])) := sub_at hr6 (SubX.trans sx (SubX.new hw SubX.refl))
      generalize up η' w (.lst []) = η6 at hr6 hu6 s6
      have hmem : .str "third" ∈ mk.map mkD ↔ Mk.third ∈ mk := by
        rw [List.mem_map]
        exact ⟨fun ⟨x, h1, h2⟩ => mkD_third.mp h2 ▸ h1, fun h1 => ⟨_, h1, rfl⟩⟩
      refine as_cons (as_ifJ (fun ρ1 η1 => ∃ (mk2 : List Mk) (p : Addr), ρ1 = [some (.ref r), some (nD m), some (.ref p), some (.ref v), x4, x5, x6] ∧ Sub (up η r (.lst [nD n'])) η1 ∧ η1 p = some (.lst (mk2.map mkD)) ∧ MkOk mk2 m ∧ (m = 2 → Mk.third ∈ mk2)) (at_bool (aw_and (at_eq A ?_))) ?_)
      · repeat walk_at "e"
        refine ⟨cmpr_of (okd_nD _ _) rfl, fun y => ?_, fun y => ?_⟩
        · have hm : m = 2 := by have := Dt.int.inj y; omega
          refine aw_and1 (at_ninL A ?_)
          repeat walk_at "e"
          refine ⟨u, _, rfl, hu6, fun x hx => ?_, okd_mk 8 .third, fun y2 => ?_, fun y2 => ?_⟩
          · obtain ⟨q, _, rfl⟩ := List.mem_map.mp hx
            exact okd_mk _ _
          · refine as_one ?_
            walk_at "set"
            repeat walk_at "e"
            intro p hp
            exact ⟨[.third, .half], p, rfl, s6.trans (Sub.up hp), up_same, by rw [hm]; exact mk_two, fun _ => List.mem_cons_self ..⟩
          · exact as_nil ⟨mk, u, rfl, s6, hu6, hM.ok, fun _ => hmem.mp y2⟩
        · exact as_nil ⟨mk, u, rfl, s6, hu6, hM.ok, fun e => absurd (by rw [e]; rfl) y⟩
      · rintro ρ1 η1 ⟨mk2, p, rfl, s7, hp7, hk7, ht7⟩
        refine as_one (as_ret (ae_tuple A B ?_))
        repeat walk_at "e"
        exact ⟨_, items_l hp7, _, s7, h mk2 n' hk7 ht7⟩
/-- a fan of two to eight fractions -/
def p__law_fan : ASp := fun ds η Q => ∃ (r : Addr) (n : Nat), ds = [.ref r, .int 4, .int 8] ∧ η r = some (.lst [nD n]) ∧ ∀ (L : List Fr) (mk : List Mk) (n' : Nat), FrOk L → FrB 64 L → L.length ≤ 7 → MkOk mk (L.length + 1) → (L.length = 1 → Mk.third ∈ mk) → Q (fanD (inf :: L) mk) (up η r (.lst [nD n']))
theorem b__law_fan (A : At X n__law_fan (defScope s__law_fan) 2) (B : Bt X) (hf : ∀ y, X.fn y = true) (f1 : FX X "_law_digit" 1 2 p__law_digit) (f2 : FX X "_law_fractions" 2 2 p__law_fractions) (f3 : FX X "_law_marks" 2 2 p__law_marks) {ds : List Dt} (h : p__law_fan ds η Q0) :
    ASs X (defBody s__law_fan) (ds.map some ++ List.replicate 1 none) η (ends Q0) := by
  have V0 := v__law_fan
  obtain ⟨r, n, rfl, hr, h⟩ := h
  refine as_cons ?_
  walk_at "set"
  repeat walk_at "e"
  refine ⟨rfl, r, n, 3, rfl, hr, by decide, by decide, fun d n2 hd => ?_⟩
  repeat walk_at "e"
  refine as_cons (as_ifJ (fun ρ1 η1 => ∃ (m n' : Nat), ρ1 = [some (.ref r), some (.int 4), some (.int 8), some (nD m)] ∧ 2 ≤ m ∧ m ≤ 8 ∧ η1 = up η r (.lst [nD n'])) (at_eq A ?_) ?_)
  · repeat walk_at "e"
    refine ⟨rfl, r, n2, 8, rfl, up_same, by decide, by decide, fun d2 n3 hd2 => ?_⟩
    rw [up_up]
    repeat walk_at "e"
    refine ⟨cmpr_of rfl rfl, fun z => ?_, fun z => ?_⟩
    · refine as_one ?_
      walk_at "set"
      repeat walk_at "e"
      refine ⟨rfl, r, n3, 7, rfl, up_same, by decide, by decide, fun d3 n4 hd3 => ?_⟩
      rw [up_up]
      repeat walk_at "e"
      exact ⟨2 + d3, n4, by rw [show (2 : Int) + (d3 : Int) = ((2 + d3 : Nat) : Int) by omega]; rfl, by omega, by omega, rfl⟩
    · exact as_nil ⟨2 + d, n3, by rw [show (2 : Int) + (d : Int) = ((2 + d : Nat) : Int) by omega]; rfl, by omega, by omega, rfl⟩
  · rintro ρ1 η1 ⟨m, n', rfl, h2, h8, rfl⟩
    refine as_one (as_ret ?_)
    repeat walk_at "e"
    refine ⟨rfl, r, n', m, rfl, up_same, h2, h8, fun L n3 hL hLb hLm => ?_⟩
    rw [up_up]
    repeat walk_at "e"
    refine ⟨rfl, r, n3, m, rfl, up_same, h2, h8, fun mk n4 hM hT => ?_⟩
    rw [up_up]
    repeat walk_at "e"
    exact ⟨_, Sub.refl, h L mk n4 hL hLb (by omega) (by rw [hLm]; exact hM) fun e => hT (by omega)⟩
end FgA
namespace FgA
open PySem PySem.Spec PyProof.Rows L2 Fg
local macro_rules | `(tactic| walk_at "n") => `(tactic| (refine is_name ?_; first
  | refine ae_nameV (by assumption) (by assumption) rfl rfl ?_
  | refine ae_glob (by assumption) (by assumption) ?_
  | refine ae_nameB (by assumption) rfl ?_))
local macro_rules | `(tactic| walk_at "set") => `(tactic| (refine is_set ?_; refine as_setV (by assumption) (by assumption) (by assumption) rfl ?_))
local macro_rules | `(tactic| walk_at "t") => `(tactic| first
  | (refine is_tgt ?_; refine ag_nameV (by assumption) (by assumption) (by assumption) rfl ?_)
  | refine ag_tup2 (by assumption) ?_
  | refine ag_tup3 (by assumption) ?_
  | refine ag_tup4 (by assumption) ?_)
local macro_rules | `(tactic| walk_at "e") => `(tactic| first
  | walk_at "n"
  | refine ae_int ?_
  | refine ae_str ?_
  | refine ae_sub' ?_
  | refine aa_cons ?_
  | refine aa_nil ?_
  | refine ae_add ?_
  | refine ae_sub ?_
  | refine ae_mul ?_
  | refine ae_mod ?_
  | refine ae_fdiv ?_
  | refine ae_tup ?_
  | refine ae_lst ?_
  | refine ae_slice ?_
  | refine ae_bl ?_
  | refine ae_non ?_
  | refine ae_len (by assumption) (by assumption) ?_
  | refine ae_abs (by assumption) (by assumption) ?_
  | refine ae_call (by assumption) (by assumption) ?_
  | refine addD_int ?_
  | (refine is_ii ?_; refine iiT trivial ?_)
  | refine szl_and rfl ?_
  | (refine is_sub ?_; first | refine subD_tup (ix0 rfl) ?_ | refine subD_tup (ix1 rfl) ?_ | refine subD_tup (ix2 rfl) ?_ | refine subD_tup (ix3 rfl) ?_))
local macro_rules | `(tactic| walk_at "h") => `(tactic| first
  | assumption
  | exact up_same
  | (refine up_new (by assumption) ?_; walk_at "h")
  | (refine up_old (by assumption) ?_; walk_at "h")
  | (refine up_old (Ne.symm (by assumption)) ?_; walk_at "h"))
local macro_rules | `(tactic| walk_at "f") => `(tactic| first
  | assumption
  | (apply free_up; walk_at "f"))
local macro_rules | `(tactic| walk_at "sub") => `(tactic| first
  | exact Sub.refl
  | (refine sub_both ?_; walk_at "sub")
  | (refine sub_new (by assumption) ?_; walk_at "sub"))
local macro_rules | `(tactic| walk_at "sx") => `(tactic| first
  | exact SubX.refl
  | (refine SubX.self ?_; walk_at "sx")
  | (refine SubX.new (by assumption) ?_; walk_at "sx"))
variable {X : Cx} {η : Eta} {Q0 : Dt → Eta → Prop}
def sdD (e : Sd) : Dt := .tup [frD e.1, frD e.2]
def tlD (t : Tile) : Dt := .tup [frD t.1, frD t.2.1, frD t.2.2]
def gapF (F : List Fr) : List Sd := (List.range F.length).map fun i => (frAt F i, frAt F ((i + 1) % F.length))
theorem fr_at {F : List Fr} {i : Nat} (h : i < F.length) : (F.map frD)[i]? = some (frD (frAt F i)) := by
  rw [List.getElem?_map, List.getElem?_eq_getElem h]
  unfold frAt
  rw [List.getD_eq_getElem?_getD, List.getElem?_eq_getElem h]
  rfl
theorem gapF_at {F : List Fr} {i : Nat} (h : i < F.length) : (gapF F)[i]? = some (frAt F i, frAt F ((i + 1) % F.length)) := by
  unfold gapF
  rw [List.getElem?_map, List.getElem?_range h]
  rfl
def p__law_gaps : ASp := fun ds η Q => ∃ F : List Fr, ds = [.tup (F.map frD)] ∧ F.length ≤ 1000 ∧ ∀ q, η q = none → Q (.ref q) (up η q (.lst ((gapF F).map sdD)))
theorem b__law_gaps (A : At X n__law_gaps (defScope s__law_gaps) 0) (B : Bt X) (hf : ∀ y, X.fn y = true) {ds : List Dt} (h : p__law_gaps ds η Q0) :
    ASs X (defBody s__law_gaps) (ds.map some ++ List.replicate 1 none) η (ends Q0) := by
  have V0 := v__law_gaps
  obtain ⟨F, rfl, hF, h⟩ := h
  refine as_one (as_ret (ae_lc1 A (ai_range1 A B ?_)))
  repeat walk_at "e"
  refine len_t (by rw [List.length_map]; omega) ?_
  rw [List.length_map]
  refine ⟨_, rfl, by omega, by omega, by omega, fun _ _ _ _ => trivial, trivial, fun j e => ∃ x, (gapF F)[j]? = some x ∧ e = sdD x, ?_, ?_⟩
  · intro j d D acc X' hj hd hD hla A' b
    have hj' : j < F.length := by simpa using hj
    subst hd
    rw [show (0 : Int) + (j : Nat) = (j : Nat) by omega]
    have B' := b.bt B
    repeat walk_at "e"
    refine subD_tup (atN (fr_at hj')) ?_
    repeat walk_at "e"
    refine len_t (by rw [List.length_map]; omega) ?_
    rw [List.length_map]
    refine iiT (by omega) ?_
    have e1 : Int.fmod ((j : Int) + 1) (F.length : Int) = (((j + 1) % F.length : Nat) : Int) := emod_nat (j + 1) F.length (by omega)
    rw [e1]
    refine subD_tup (atN (fr_at (Nat.mod_lt _ (by omega)))) ?_
    repeat walk_at "e"
    exact ⟨Sub.refl, _, gapF_at hj', rfl⟩
  · intro D acc hD hla hFa
    have hacc := acc_eq (l := gapF F) (f := sdD) (by rw [hla]; simp [gapF]) hFa
    subst hacc
    exact ⟨_, Sub.refl, h D hD⟩
/-! ### the tiles -/
theorem near_at (l1 : List Fr) (r : List Fr) : ((inf :: (l1 ++ r)).map frD)[l1.length]? = some (frD (nearF l1)) := by
  have e : (inf :: (l1 ++ r))[l1.length]? = some (nearF l1) := by
    rw [show inf :: (l1 ++ r) = (inf :: l1) ++ r from rfl, List.getElem?_append_left (by simp), nearF, List.getLast_eq_getElem, List.getElem?_eq_getElem (by simp)]
    rfl
  rw [List.getElem?_map, e]
  rfl
theorem here_at (l1 : List Fr) (m : Fr) (l2 : List Fr) : ((inf :: (l1 ++ m :: l2)).map frD)[l1.length + 1]? = some (frD m) := by
  rw [List.getElem?_map, List.getElem?_cons_succ, List.getElem?_append_right (Nat.le_refl _), Nat.sub_self]
  rfl
theorem far_at (l1 : List Fr) (m : Fr) (l2 : List Fr) : ((inf :: (l1 ++ m :: l2)).map frD)[(l1.length + 2) % (l1.length + l2.length + 2)]? = some (frD (farF l2)) := by
  unfold farF
  cases l2 with
  | nil =>
    rw [show (l1.length + 2) % (l1.length + ([] : List Fr).length + 2) = 0 by simp]
    rfl
  | cons b l2 =>
    rw [Nat.mod_eq_of_lt (by rw [List.length_cons]; omega), List.getElem?_map, List.getElem?_cons_succ, List.getElem?_append_right (by omega), show l1.length + 1 - l1.length = 1 by omega]
    rfl
theorem near_abs (l1 : List Fr) (z : Fr) : (cross ((minf :: l1).getLast (by simp)) z).natAbs = (cross (nearF l1) z).natAbs := by
  unfold nearF
  cases l1 with
  | nil => simp [cross]
  | cons a l => rfl
theorem frB_near {k : Nat} {l1 r : List Fr} (hk : 1 ≤ k) (h : FrB k (l1 ++ r)) : (nearF l1).1.natAbs ≤ k ∧ (nearF l1).2.natAbs ≤ k := by
  rcases (vx_near l1 r).1 with e | e
  · rw [e]; exact ⟨hk, Nat.zero_le _⟩
  · exact h _ e
theorem frB_far {k : Nat} {l1 l2 : List Fr} (hk : 1 ≤ k) (h : FrB k (l1 ++ l2)) : (farF l2).1.natAbs ≤ k ∧ (farF l2).2.natAbs ≤ k := by
  rcases (vx_near l1 l2).2 with e | e
  · rw [e]; exact ⟨hk, Nat.zero_le _⟩
  · exact h _ e
theorem frD_inj {a b : Fr} (h : frD a = frD b) : a = b := by
  simp only [frD, Dt.tup.injEq, List.cons.injEq, Dt.int.injEq, and_true] at h
  exact Prod.ext h.1 h.2
theorem one_left {L : List Fr} (h : FrOk L) (h1 : L.length ≤ 1) : L = [nought] := by
  have hm := h.nt
  match L, h1, hm with
  | [], _, hm => cases hm
  | [a], _, hm => simp at hm; rw [hm]
def p__law_tiles : ASp := fun ds η Q => ∃ L0 : List Fr, FrOk L0 ∧ FrB 64 L0 ∧ L0.length ≤ 7 ∧ ds = [.tup ((inf :: L0).map frD)] ∧ ∀ (q : Addr) (ts : List Tile), η q = none → Poly L0 [nought] ts → Q (.ref q) (up η q (.lst (ts.map tlD)))
theorem b__law_tiles (A : At X n__law_tiles (defScope s__law_tiles) 0) (B : Bt X) (hf : ∀ y, X.fn y = true) {ds : List Dt} (h : p__law_tiles ds η Q0) :
    ASs X (defBody s__law_tiles) (ds.map some ++ List.replicate 5 none) η (ends Q0) := by
  have V0 := v__law_tiles
  obtain ⟨L0, hL0, hB0, hl0, rfl, h⟩ := h
  refine as_cons ?_
  walk_at "set"
  refine ae_list A B ?_
  repeat walk_at "e"
  refine ⟨_, rfl, fun u hu => ?_⟩
  refine as_cons ?_
  walk_at "set"
  repeat walk_at "e"
  intro v hv
  have huv : u ≠ v := (ne_at hv up_same).symm
  have hv0 : η v = none := free_up hv
  refine as_cons ?_
  refine as_while A (fun k ρ η' => ∃ (L : List Fr) (ts : List Tile) (x3 x4 x5 : Option Dt), ρ = [some (.tup ((inf :: L0).map frD)), some (.ref u), some (.ref v), x3, x4, x5] ∧ Sub η η' ∧ η' u = some (.lst ((inf :: L).map frD)) ∧ η' v = some (.lst (ts.map tlD)) ∧ Poly L0 L ts ∧ L.length = k ∧ k ≤ 7) L0.length ?_ ?_
  · exact ⟨L0, [], none, none, none, rfl, sub_new hv (Sub.up hu), up_new hv up_same, up_same, poly_start hL0, rfl, hl0⟩
  · rintro k ρ η' ⟨L, ts, x3, x4, x5, rfl, sb, hu', hv', P, rfl, hk7⟩
    have hll : ((inf :: L).map frD).length = L.length + 1 := by simp
    have htl : ts.length ≤ 7 := by have := P.len; omega
    refine at_gt ?_
    repeat walk_at "e"
    refine len_l hu' (by rw [hll]; omega) ?_
    rw [hll]
    repeat walk_at "e"
    refine ⟨_, _, rfl, rfl, fun z => ?_, fun z => ?_⟩
    · have h2 : 2 ≤ L.length := by omega
      refine as_one (as_for A (ai_range2 A B ?_))
      repeat walk_at "e"
      refine len_l hu' (by rw [hll]; omega) ?_
      rw [hll]
      refine ⟨_, _, rfl, rfl, by omega, fun j ρ2 η2 => ∃ (x3 x4 x5 : Option Dt), ρ2 = [some (.tup ((inf :: L0).map frD)), some (.ref u), some (.ref v), x3, x4, x5] ∧ η2 = η' ∧ ∀ l1 m l2, L = l1 ++ m :: l2 → l1.length < j → m ≠ nought → (cross (nearF l1) (farF l2)).natAbs ≠ 1, ?_, ?_, ?_, ?_⟩
      · exact ⟨x3, x4, x5, rfl, rfl, fun _ _ _ _ hj => absurd hj (Nat.not_lt_zero _)⟩
      · intros; trivial
      · rintro j d ρ2 η2 hj rfl ⟨y3, y4, y5, rfl, rfl, hno⟩
        have hj' : j < L.length := by omega
        obtain ⟨l1, m, l2, rfl, rfl⟩ : ∃ l1 m l2, L = l1 ++ m :: l2 ∧ l1.length = j :=
          ⟨L.take j, L[j], L.drop (j + 1), by rw [← List.drop_eq_getElem_cons hj', List.take_append_drop], by rw [List.length_take]; omega⟩
        have hl12 : (l1 ++ m :: l2).length = l1.length + l2.length + 1 := by simp; omega
        have hB : FrB 64 (l1 ++ m :: l2) := fun x hx => hB0 x (P.sub x hx)
        have hB' : FrB 64 (l1 ++ l2) := fun x hx => hB x (by rcases List.mem_append.mp hx with e | e <;> simp [e])
        obtain ⟨n1, n2⟩ := frB_near (by decide) hB'
        obtain ⟨f1, f2⟩ := frB_far (by decide) hB'
        walk_at "t"
        refine as_cons ?_
        walk_at "set"
        repeat walk_at "e"
        refine subD_lst hu' (x := frD (nearF l1)) (by rw [show (1 : Int) + (l1.length : Nat) - 1 = ((l1.length : Nat) : Int) by omega]; exact atN (near_at l1 _)) ?_
        refine as_cons ?_
        walk_at "set"
        repeat walk_at "e"
        refine len_l hu' (by rw [hll]; omega) ?_
        rw [hll, hl12]
        refine iiT (by omega) ?_
        have e1 : Int.fmod (1 + (l1.length : Int) + 1) ((l1.length + l2.length + 1 + 1 : Nat) : Int) = (((l1.length + 2) % (l1.length + l2.length + 2) : Nat) : Int) := by
          rw [show (1 : Int) + (l1.length : Int) + 1 = ((l1.length + 2 : Nat) : Int) by omega]
          exact emod_nat _ _ (by omega)
        rw [e1]
        refine subD_lst hu' (atN (far_at l1 m l2)) ?_
        refine as_one (as_if (at_bool (aw_and (at_ne A ?_))))
        repeat walk_at "e"
        have hh : atI ((inf :: (l1 ++ m :: l2)).map frD) (1 + (l1.length : Nat)) = some (frD m) := by
          rw [show (1 : Int) + (l1.length : Nat) = ((l1.length + 1 : Nat) : Int) by omega]
          exact atN (here_at l1 m l2)
        refine subD_lst hu' hh ?_
        repeat walk_at "e"
        refine ⟨cmpr_of rfl rfl, fun hm => ?_, fun hm => ?_⟩
        · have hm' : m ≠ nought := fun e => hm (by rw [e]; rfl)
          refine aw_and1 (at_eq A ?_)
          repeat walk_at "e"
          refine iiT (mul_small (by omega)) ?_
          repeat walk_at "e"
          refine iiT (mul_small (by omega)) ?_
          repeat walk_at "e"
          refine ⟨_, rfl, ?_⟩
          rw [natAbs_if]
          repeat walk_at "e"
          refine ⟨cmpr_of rfl rfl, fun hc => ?_, fun hc => ?_⟩
          · have hc' : (cross (nearF l1) (farF l2)).natAbs = 1 := by
              have := Dt.int.inj hc
              unfold cross; omega
            refine as_cons (as_expr (ae_append ?_))
            repeat walk_at "e"
            refine ⟨isL hv', ?_⟩
            repeat walk_at "e"
            refine subD_lst hu' hh ?_
            repeat walk_at "e"
            refine am_append hv' (by rw [List.length_map]; omega) ?_
            refine as_cons (as_expr (ae_popAt ?_))
            repeat walk_at "e"
            have hu2 : up η2 v (.lst (ts.map tlD ++ [.tup [frD (nearF l1), frD m, frD (farF l2)]])) u = some (.lst ((inf :: (l1 ++ m :: l2)).map frD)) := up_old huv hu'
            refine ⟨isL hu2, ?_⟩
            repeat walk_at "e"
            rw [show (1 : Int) + (l1.length : Nat) = ((l1.length + 1 : Nat) : Int) by omega]
            refine am_popAt hu2 (by omega) (here_at l1 m l2) ?_
            refine as_one (as_break ?_)
            have e3 : ((inf :: (l1 ++ m :: l2)).map frD).eraseIdx (l1.length + 1) = (inf :: (l1 ++ l2)).map frD := by
              rw [er_map, List.eraseIdx_cons_succ, List.eraseIdx_append_of_length_le (Nat.le_refl _), Nat.sub_self]
              rfl
            rw [e3]
            exact ⟨(l1 ++ l2).length, by simp, l1 ++ l2, ts ++ [(nearF l1, m, farF l2)], _, _, _, rfl, (sb.up' hv0).up' hu, up_same, by rw [up_old huv.symm up_same]; simp [tlD], poly_step P hm' hc' (by omega), rfl, by simp at hk7 ⊢; omega⟩
          · refine as_nil ⟨_, _, _, rfl, rfl, fun k1 m' k2 e hlt hm2 => ?_⟩
            by_cases hlt2 : k1.length < l1.length
            · exact hno k1 m' k2 e hlt2 hm2
            · have el : k1.length = l1.length := by omega
              obtain ⟨e4, e5⟩ := List.append_inj e el.symm
              cases e5; subst e4
              intro hc'
              exact hc (by unfold cross at hc'; rw [hc']; rfl)
        · refine as_nil ⟨_, _, _, rfl, rfl, fun k1 m' k2 e hlt hm2 => ?_⟩
          by_cases hlt2 : k1.length < l1.length
          · exact hno k1 m' k2 e hlt2 hm2
          · have el : k1.length = l1.length := by omega
            obtain ⟨e4, e5⟩ := List.append_inj e el.symm
            cases e5
            exact absurd (frD_inj hm) hm2
      · rintro ρ2 η2 ⟨y3, y4, y5, rfl, rfl, hno⟩
        obtain ⟨l1, m, l2, hm, e, hc⟩ := ear_exists P.fr h2
        refine absurd ?_ (hno l1 m l2 e ?_ hm)
        · rw [← near_abs]; exact hc
        · have := congrArg List.length e; simp at this; omega
    · have hL1 := one_left P.fr (by omega)
      subst hL1
      refine as_one (as_ret ?_)
      repeat walk_at "e"
      refine ⟨up η v (.lst (ts.map tlD)), fun q m hq => ?_, h v ts hv0 P⟩
      by_cases e : q = v
      · subst e; rw [up_same] at hq; cases hq; exact hv'
      · rw [up_ne e] at hq; exact sb q m hq
end FgA
namespace FgA
open PySem PySem.Spec PyProof.Rows L2 Fg
local macro_rules | `(tactic| walk_at "n") => `(tactic| (refine is_name ?_; first
  | refine ae_nameV (by assumption) (by assumption) rfl rfl ?_
  | refine ae_glob (by assumption) (by assumption) ?_
  | refine ae_nameB (by assumption) rfl ?_))
local macro_rules | `(tactic| walk_at "set") => `(tactic| (refine is_set ?_; refine as_setV (by assumption) (by assumption) (by assumption) rfl ?_))
local macro_rules | `(tactic| walk_at "t") => `(tactic| first
  | (refine is_tgt ?_; refine ag_nameV (by assumption) (by assumption) (by assumption) rfl ?_)
  | refine ag_tup2 (by assumption) ?_
  | refine ag_tup3 (by assumption) ?_
  | refine ag_tup4 (by assumption) ?_)
local macro_rules | `(tactic| walk_at "e") => `(tactic| first
  | walk_at "n"
  | refine ae_int ?_
  | refine ae_str ?_
  | refine ae_sub' ?_
  | refine aa_cons ?_
  | refine aa_nil ?_
  | refine ae_add ?_
  | refine ae_sub ?_
  | refine ae_mul ?_
  | refine ae_mod ?_
  | refine ae_fdiv ?_
  | refine ae_tup ?_
  | refine ae_lst ?_
  | refine ae_slice ?_
  | refine ae_bl ?_
  | refine ae_non ?_
  | refine ae_len (by assumption) (by assumption) ?_
  | refine ae_abs (by assumption) (by assumption) ?_
  | refine ae_call (by assumption) (by assumption) ?_
  | refine addD_int ?_
  | (refine is_ii ?_; refine iiT trivial ?_)
  | refine szl_and rfl ?_
  | (refine is_sub ?_; first | refine subD_tup (ix0 rfl) ?_ | refine subD_tup (ix1 rfl) ?_ | refine subD_tup (ix2 rfl) ?_ | refine subD_tup (ix3 rfl) ?_))
local macro_rules | `(tactic| walk_at "h") => `(tactic| first
  | assumption
  | exact up_same
  | (refine up_new (by assumption) ?_; walk_at "h")
  | (refine up_old (by assumption) ?_; walk_at "h")
  | (refine up_old (Ne.symm (by assumption)) ?_; walk_at "h"))
local macro_rules | `(tactic| walk_at "f") => `(tactic| first
  | assumption
  | (apply free_up; walk_at "f"))
local macro_rules | `(tactic| walk_at "sub") => `(tactic| first
  | exact Sub.refl
  | (refine sub_both ?_; walk_at "sub")
  | (refine sub_new (by assumption) ?_; walk_at "sub"))
local macro_rules | `(tactic| walk_at "sx") => `(tactic| first
  | exact SubX.refl
  | (refine SubX.self ?_; walk_at "sx")
  | (refine SubX.new (by assumption) ?_; walk_at "sx"))
variable {X : Cx} {η : Eta} {Q0 : Dt → Eta → Prop}
structure FindK {κ : Type} (w : World) (η : Eta) (hD tD : Dt) (kD : κ → Dt) (P : κ → Prop) (s r : κ → κ) : Prop where
  h : ∀ x, P x → ItemOf w η hD (kD x) (kD (s x))
  t : ∀ x, P x → ItemOf w η tD (kD x) (kD (r x))
  ps : ∀ x, P x → P (s x)
  pr : ∀ x, P x → P (r x)
theorem FindK.sub {κ : Type} {w : World} {η η' : Eta} {hD tD : Dt} {kD : κ → Dt} {P : κ → Prop} {s r : κ → κ} (F : FindK w η hD tD kD P s r) (sb : Sub η η') : FindK w η' hD tD kD P s r :=
  ⟨fun x h => (F.h x h).sub sb, fun x h => (F.t x h).sub sb, F.ps, F.pr⟩
theorem am_idx {κ : Type} [DecidableEq κ] {N : List Str} {sc : Scope} {k : Nat} {Q : Dt → Eta → Prop} {kD : κ → Dt} (inj : ∀ x y, kD x = kD y → x = y) (ok : ∀ x, okd 8 (kD x) = true) (A : At X N sc k) {p : Addr} {m : List κ} {x : κ} (h : η p = some (.lst (m.map kD))) (hx : x ∈ m) (q : Q (nD (m.idxOf x)) η) : AM X.K (rIndexD X.K) (.ref p) [kD x] η Q := by
  have hi : m.idxOf x < m.length := List.idxOf_lt_length_of_mem hx
  refine am_index A (j := m.idxOf x) h (fun y hy => ?_) (ok _) ?_ ?_ q
  · obtain ⟨w, _, rfl⟩ := List.mem_map.mp hy
    exact ok _
  · rw [List.getElem?_map, List.getElem?_eq_getElem hi, List.getElem_idxOf hi]; rfl
  · intro j hj e
    rw [List.getElem?_map] at e
    obtain ⟨w, hw, e2⟩ := Option.map_eq_some_iff.mp e
    have e3 := inj _ _ e2
    subst e3
    have := List.not_of_lt_findIdx (p := fun y => y == w) (xs := m) (i := j) hj
    obtain ⟨hl, he⟩ := List.getElem?_eq_some_iff.mp hw
    rw [he] at this
    simp at this
def p__law_anew (w : World) : ASp := fun ds η Q => ∃ (κ : Type) (dec : DecidableEq κ) (kD : κ → Dt) (hD tD : Dt) (P : κ → Prop) (s r : κ → κ) (p : κ) (f : Nat), ds = [hD, tD, kD p] ∧ (∀ x y, kD x = kD y → x = y) ∧ (∀ x, okd 8 (kD x) = true) ∧ FindK w η hD tD kD P s r ∧ P p ∧ (bfs s r f [p] 0).length ≤ f ∧ f ≤ 20000 ∧
  (∀ x ∈ bfs s r f [p] 0, s x ∈ bfs s r f [p] 0 ∧ r x ∈ bfs s r f [p] 0) ∧ Q (tabD (tabOf s r (bfs s r f [p] 0))) η
theorem b__law_anew (A : At X n__law_anew (defScope s__law_anew) 0) (B : Bt X) (hf : ∀ y, X.fn y = true) {ds : List Dt} (h : p__law_anew X.w ds η Q0) :
    ASs X (defBody s__law_anew) (ds.map some ++ List.replicate 4 none) η (ends Q0) := by
  have V0 := v__law_anew
  obtain ⟨κ, dec, kD, hD, tD, P, s, r, p, f, rfl, inj, ok, F, hp, hlen, hf1, hcl, h⟩ := h
  refine as_cons ?_
  walk_at "set"
  repeat walk_at "e"
  intro q hq
  refine as_cons ?_
  walk_at "set"
  repeat walk_at "e"
  refine as_cons ?_
  generalize hfin : bfs s r f [p] 0 = fin at h hlen hcl
  have oks : ∀ (l : List κ), ∀ y ∈ l.map kD, okd 8 y = true := fun l y hy => by
    obtain ⟨z, _, rfl⟩ := List.mem_map.mp hy
    exact ok z
  have mems : ∀ (l : List κ) (y : κ), kD y ∈ l.map kD ↔ y ∈ l := fun l y =>
    ⟨fun hm => by obtain ⟨z, hz, e⟩ := List.mem_map.mp hm; exact inj _ _ e ▸ hz, fun hm => List.mem_map_of_mem hm⟩
  refine as_while A (fun k ρ η' => ∃ (m : List κ) (i g : Nat) (x : Option Dt), ρ = [some hD, some tD, some (kD p), some (.ref q), some (.int (i : Int)), x, none] ∧ Sub η η' ∧ η' q = some (.lst (m.map kD)) ∧ (∀ y ∈ m, P y) ∧ bfs s r g m i = fin ∧ fin.length ≤ g + i ∧ i ≤ m.length ∧ k = fin.length - i) fin.length ?_ ?_
  · exact ⟨[p], 0, f, none, rfl, Sub.up hq, up_same, fun y hy => by simp at hy; subst hy; exact hp, hfin, by omega, by simp, rfl⟩
  · rintro k ρ η' ⟨m, i, g, x, rfl, hsub, hmq, hP, hb, hgl, him, hk⟩
    have hmf : m.length ≤ fin.length := by rw [← hb]; exact prefix_len (bfs_prefix g m i)
    refine at_lt ?_
    repeat walk_at "e"
    refine len_l hmq (by rw [List.length_map]; omega) ?_
    rw [List.length_map]
    refine ⟨_, _, rfl, rfl, fun z => ?_, fun z => ?_⟩
    · have hi : i < m.length := by omega
      have hmi : m[i]? = some m[i] := List.getElem?_eq_getElem hi
      have hPx := hP _ (List.getElem_mem hi)
      have hat : (m.map kD)[i]? = some (kD m[i]) := by rw [List.getElem?_map, hmi]; rfl
      obtain ⟨g', rfl⟩ : ∃ g', g = g' + 1 := ⟨g - 1, by omega⟩
      rw [bfs, hmi] at hb
      have hb' : bfs s r g' (pushN (pushN m (s m[i])) (r m[i])) (i + 1) = fin := hb
      have F' := F.sub hsub
      refine as_cons (as_for A (ai_list (ae_lst (aa_cons (ae_item A ?_)))))
      repeat walk_at "e"
      refine subD_lst hmq (atN hat) ⟨F'.h _ hPx, ?_⟩
      refine aa_cons (ae_item A ?_)
      repeat walk_at "e"
      refine subD_lst hmq (atN hat) ⟨F'.t _ hPx, ?_⟩
      repeat walk_at "e"
      intro u hu
      have hqu : q ≠ u := (ne_at hu hmq).symm
      have hst : ∀ j d, j < 2 → [kD (s m[i]), kD (r m[i])][j]? = some d → ∃ y, d = kD y ∧ P y ∧ (if j + 1 = 0 then m else if j + 1 = 1 then pushN m (s m[i]) else pushN (pushN m (s m[i])) (r m[i])) = pushN (if j = 0 then m else if j = 1 then pushN m (s m[i]) else pushN (pushN m (s m[i])) (r m[i])) y := by
        intro j d hj hd
        match j, hj with
        | 0, _ => cases hd; exact ⟨_, rfl, F.ps _ hPx, rfl⟩
        | 1, _ => cases hd; exact ⟨_, rfl, F.pr _ hPx, rfl⟩
      refine ⟨u, _, rfl, up_same, fun j ρ η2 => ∃ x2 m2, m2 = (if j = 0 then m else if j = 1 then pushN m (s m[i]) else pushN (pushN m (s m[i])) (r m[i])) ∧ ρ = [some hD, some tD, some (kD p), some (.ref q), some (.int (i : Int)), x2, none] ∧ Sub η η2 ∧ η2 q = some (.lst (m2.map kD)) ∧ η2 u = some (.lst [kD (s m[i]), kD (r m[i])]) ∧ (∀ y ∈ m2, P y), ?_, ?_, ?_, ?_⟩
      · exact ⟨x, m, rfl, rfl, hsub.trans (Sub.up hu), up_new hu hmq, up_same, hP⟩
      · rintro j ρ η2 _ ⟨_, _, _, _, _, _, e, _⟩
        exact e
      · rintro j d ρ η2 hj hd ⟨x2, m2, hm2, rfl, s2, a1, a2, a5⟩
        obtain ⟨y, rfl, hPy, hy⟩ := hst j d hj hd
        rw [← hm2] at hy
        have hm2l : m2.length ≤ m.length + 2 := by
          have h1 : ∀ (l : List κ) (z : κ), (pushN l z).length ≤ l.length + 1 := by
            intro l z; unfold pushN; split <;> simp
          have := h1 m (s m[i])
          have := h1 (pushN m (s m[i])) (r m[i])
          rw [hm2]; split
          · omega
          · split <;> omega
        walk_at "t"
        refine as_one (as_if (at_ninL A ?_))
        repeat walk_at "e"
        refine ⟨q, _, rfl, a1, oks _, ok _, fun w => ?_, fun w => ?_⟩
        · have hnm : y ∉ m2 := fun e => w ((mems _ _).mpr e)
          replace hy := hy.trans (show pushN m2 y = m2 ++ [y] from if_neg hnm)
          refine as_one (as_expr (ae_append ?_))
          repeat walk_at "e"
          refine ⟨isL a1, ?_⟩
          repeat walk_at "e"
          refine am_append a1 (by rw [List.length_map]; omega) ?_
          refine ⟨_, m2 ++ [y], hy.symm, rfl, s2.up' hq, by rw [up_same]; simp, up_old hqu.symm a2, ?_⟩
          intro z hz
          rcases List.mem_append.mp hz with e | e
          · exact a5 z e
          · simp at e; subst e; exact hPy
        · have hm : y ∈ m2 := (mems _ _).mp w
          replace hy := hy.trans (show pushN m2 y = m2 from if_pos hm)
          exact as_nil ⟨_, m2, hy.symm, rfl, s2, a1, a2, a5⟩
      · rintro ρ η2 ⟨x2, m2, hm2, rfl, s2, a1, a2, a5⟩
        have hm2' : m2 = pushN (pushN m (s m[i])) (r m[i]) := hm2
        refine as_one ?_
        walk_at "set"
        repeat walk_at "e"
        have hml : m.length ≤ m2.length := by
          rw [hm2']; exact Nat.le_trans (prefix_len (pushN_prefix _ _)) (prefix_len (pushN_prefix _ _))
        exact ⟨fin.length - (i + 1), by omega, m2, i + 1, g', x2, rfl, s2, a1, a5, by rw [hm2']; exact hb', by omega, by omega, rfl⟩
    · have hi : m[i]? = none := List.getElem?_eq_none (by omega)
      have hm : m = fin := by
        rw [← hb]
        cases g with
        | zero => rfl
        | succ g => rw [bfs, hi]
      subst hm
      have F' := F.sub hsub
      refine as_one (as_ret ?_)
      refine ae_tup (aa_cons (ae_tuple A B (ae_lc1 A (ai_list ?_))))
      repeat walk_at "e"
      refine ⟨q, _, rfl, hmq, by rw [List.length_map]; omega, fun η η' s e => s _ _ e, hmq, fun j e => ∃ z, m[j]? = some z ∧ e = nD (m.idxOf (s z)), ?_, ?_⟩
      · intro j d D acc X' hj hd hD hla A' b
        rw [List.getElem?_map] at hd
        obtain ⟨z, hz, rfl⟩ := Option.map_eq_some_iff.mp hd
        have hzm := List.mem_of_getElem? hz
        have hw : X'.w = X.w := by obtain ⟨s, H, C, cl, fp, rfl⟩ := b.ex; rfl
        refine ae_index A' ?_
        repeat walk_at "e"
        refine ⟨isL (up_new hD hmq), aa_cons (ae_item A' ?_)⟩
        repeat walk_at "e"
        rw [hw]
        refine ⟨(F'.h z (hP z hzm)).sub (Sub.up hD), ?_⟩
        repeat walk_at "e"
        exact am_idx inj ok A' (up_new hD hmq) (hcl z hzm).1 ⟨Sub.refl, z, hz, rfl⟩
      intro D acc hD hla hF
      have hacc := acc_eq (f := fun z => nD (m.idxOf (s z))) (by rw [hla, List.length_map]) hF
      subst hacc
      refine ⟨_, items_l up_same, ?_⟩
      refine aa_cons (ae_tuple A B (ae_lc1 A (ai_list ?_)))
      repeat walk_at "e"
      have sD : Sub η' (up η' D (.lst (m.map fun z => nD (m.idxOf (s z))))) := Sub.up hD
      refine ⟨q, _, rfl, sD _ _ hmq, by rw [List.length_map]; omega, fun η η' s e => s _ _ e, sD _ _ hmq, fun j e => ∃ z, m[j]? = some z ∧ e = nD (m.idxOf (r z)), ?_, ?_⟩
      · intro j d D2 acc X' hj hd hD2 hla A' b
        rw [List.getElem?_map] at hd
        obtain ⟨z, hz, rfl⟩ := Option.map_eq_some_iff.mp hd
        have hzm := List.mem_of_getElem? hz
        have hw : X'.w = X.w := by obtain ⟨s, H, C, cl, fp, rfl⟩ := b.ex; rfl
        have s3 := sD.trans (Sub.up (m := .lst acc) hD2)
        refine ae_index A' ?_
        repeat walk_at "e"
        refine ⟨isL (s3 _ _ hmq), aa_cons (ae_item A' ?_)⟩
        repeat walk_at "e"
        rw [hw]
        refine ⟨(F'.t z (hP z hzm)).sub s3, ?_⟩
        repeat walk_at "e"
        exact am_idx inj ok A' (s3 _ _ hmq) (hcl z hzm).2 ⟨Sub.refl, z, hz, rfl⟩
      intro D2 acc hD2 hla hF
      have hacc := acc_eq (f := fun z => nD (m.idxOf (r z))) (by rw [hla, List.length_map]) hF
      subst hacc
      refine ⟨_, items_l up_same, ?_⟩
      repeat walk_at "e"
      refine ⟨η, (hsub.trans sD).trans (Sub.up hD2), ?_⟩
      have e : tabD (tabOf s r m) = .tup [.tup (m.map fun z => nD (m.idxOf (s z))), .tup (m.map fun z => nD (m.idxOf (r z)))] := by
        unfold tabD tabOf
        rw [List.map_map, List.map_map]; rfl
      rw [e] at h
      exact h
end FgA
namespace FgA
open PySem PySem.Spec PyProof.Rows L2 Fg
local macro_rules | `(tactic| walk_at "n") => `(tactic| (refine is_name ?_; first
  | refine ae_nameV (by assumption) (by assumption) rfl rfl ?_
  | refine ae_glob (by assumption) (by assumption) ?_
  | refine ae_nameB (by assumption) rfl ?_))
local macro_rules | `(tactic| walk_at "set") => `(tactic| (refine is_set ?_; refine as_setV (by assumption) (by assumption) (by assumption) rfl ?_))
local macro_rules | `(tactic| walk_at "t") => `(tactic| first
  | (refine is_tgt ?_; refine ag_nameV (by assumption) (by assumption) (by assumption) rfl ?_)
  | refine ag_tup2 (by assumption) ?_
  | refine ag_tup3 (by assumption) ?_
  | refine ag_tup4 (by assumption) ?_)
local macro_rules | `(tactic| walk_at "e") => `(tactic| first
  | walk_at "n"
  | refine ae_int ?_
  | refine ae_str ?_
  | refine ae_sub' ?_
  | refine aa_cons ?_
  | refine aa_nil ?_
  | refine ae_add ?_
  | refine ae_sub ?_
  | refine ae_mul ?_
  | refine ae_mod ?_
  | refine ae_fdiv ?_
  | refine ae_tup ?_
  | refine ae_lst ?_
  | refine ae_slice ?_
  | refine ae_bl ?_
  | refine ae_non ?_
  | refine ae_len (by assumption) (by assumption) ?_
  | refine ae_abs (by assumption) (by assumption) ?_
  | refine ae_call (by assumption) (by assumption) ?_
  | refine addD_int ?_
  | (refine is_ii ?_; refine iiT trivial ?_)
  | refine szl_and rfl ?_
  | (refine is_sub ?_; first | refine subD_tup (ix0 rfl) ?_ | refine subD_tup (ix1 rfl) ?_ | refine subD_tup (ix2 rfl) ?_ | refine subD_tup (ix3 rfl) ?_))
local macro_rules | `(tactic| walk_at "h") => `(tactic| first
  | assumption
  | exact up_same
  | (refine up_new (by assumption) ?_; walk_at "h")
  | (refine up_old (by assumption) ?_; walk_at "h")
  | (refine up_old (Ne.symm (by assumption)) ?_; walk_at "h"))
local macro_rules | `(tactic| walk_at "f") => `(tactic| first
  | assumption
  | (apply free_up; walk_at "f"))
local macro_rules | `(tactic| walk_at "sub") => `(tactic| first
  | exact Sub.refl
  | (refine sub_both ?_; walk_at "sub")
  | (refine sub_new (by assumption) ?_; walk_at "sub"))
local macro_rules | `(tactic| walk_at "sx") => `(tactic| first
  | exact SubX.refl
  | (refine SubX.self ?_; walk_at "sx")
  | (refine SubX.new (by assumption) ?_; walk_at "sx"))
variable {X : Cx} {η : Eta} {Q0 : Dt → Eta → Prop}
/-! ### sides as keys -/
def keyS (e : Sd) : NestedKey := .tup [.tup [.num e.1.1, .num e.1.2], .tup [.num e.2.1, .num e.2.2]]
def lkD : LK → Dt
  | .num i => nD i
  | .side e => sdD e
theorem dt_keyS (e : Sd) : sdD e = dtOf (keyS e) := by
  unfold keyS
  simp only [dtOf, dtOfs]
  rfl
theorem ok_keyS (e : Sd) : FgD.okK (keyS e) := ⟨by simp [keyS, NestedKey.depth, NestedKey.depthAll], fun x h => (by cases h)⟩
theorem sdD_inj {a b : Sd} (h : sdD a = sdD b) : a = b := by
  simp only [sdD, Dt.tup.injEq, List.cons.injEq, and_true] at h
  exact Prod.ext (frD_inj h.1) (frD_inj h.2)
theorem keyS_inj {a b : Sd} (h : keyS a = keyS b) : a = b := sdD_inj (by rw [dt_keyS, dt_keyS, h])
theorem lkD_inj (x y : LK) (h : lkD x = lkD y) : x = y := by
  cases x <;> cases y
  · exact congrArg LK.num (nD_inj h)
  · cases h
  · cases h
  · exact congrArg LK.side (sdD_inj h)
theorem okd_sd (e : Sd) : okd 8 (sdD e) = true := rfl
theorem okd_lk (x : LK) : okd 8 (lkD x) = true := by
  cases x with
  | num i => exact okd_nD _ _
  | side e => exact okd_sd e
def entT (p : Sd × Sd) : NestedKey × Dt := (keyS p.1, sdD p.2)
theorem put_new {κ α : Type} [DecidableEq κ] {kvs : List (κ × α)} {k : κ} {v : α} (h : k ∉ kvs.map (·.1)) : putA kvs k v = kvs ++ [(k, v)] := by
  unfold putA
  rw [any_lkA, lkA_none.mpr h]
  rfl
theorem ent_keys (l : List (Sd × Sd)) (e : Sd) : keyS e ∈ (l.map entT).map (·.1) ↔ e ∈ l.map (·.1) := by
  rw [List.map_map]
  constructor
  · intro h
    obtain ⟨p, hp, e1⟩ := List.mem_map.mp h
    exact keyS_inj e1 ▸ List.mem_map_of_mem hp
  · intro h
    obtain ⟨p, hp, e1⟩ := List.mem_map.mp h
    exact List.mem_map.mpr ⟨p, hp, congrArg keyS e1⟩
theorem put_ent {l : List (Sd × Sd)} {e f : Sd} (h : e ∉ l.map (·.1)) : putA (l.map entT) (keyS e) (sdD f) = (l ++ [(e, f)]).map entT := by
  rw [put_new (fun z => h ((ent_keys l e).mp z)), List.map_append]
  rfl
theorem lkOf_cons {α β : Type} [DecidableEq α] (p : α × β) (l : List (α × β)) (e : α) : lkOf (p :: l) e = if p.1 = e then some p.2 else lkOf l e := by
  unfold lkOf
  rw [List.lookup_cons]
  by_cases h : p.1 = e
  · rw [if_pos h, show (e == p.1) = true from beq_iff_eq.mpr h.symm]
  · rw [if_neg h, show (e == p.1) = false from beq_eq_false_iff_ne.mpr (fun z => h z.symm)]
theorem lkA_ent (e : Sd) : ∀ l : List (Sd × Sd), lkA (l.map entT) (keyS e) = (lkOf l e).map sdD
  | [] => rfl
  | p :: l => by
    rw [List.map_cons, lkA_cons, lkOf_cons]
    by_cases h : p.1 = e
    · rw [if_pos (show (entT p).1 = keyS e from congrArg keyS h), if_pos h]; rfl
    · rw [if_neg (show ¬ (entT p).1 = keyS e from fun z => h (keyS_inj z)), if_neg h]
      exact lkA_ent e l
theorem num_ne (n : Nat) (e : Sd) : NestedKey.num (n : Int) ≠ keyS e := fun h => (by cases h)
theorem leads3_app (xs ys : List Tile) : leads3 (xs ++ ys) = leads3 xs ++ leads3 ys := by unfold leads3; rw [List.flatMap_append]
theorem leads3_len : ∀ ts : List Tile, (leads3 ts).length = 3 * ts.length
  | [] => rfl
  | t :: ts => by
    have e : leads3 (t :: ts) = leads3 [t] ++ leads3 ts := leads3_app [t] ts
    rw [e, List.length_append, leads3_len ts, List.length_cons]
    show 3 + _ = _
    omega
theorem prs_get : ∀ (l : List Fr) (i : Nat) (a b : Fr), l[i]? = some a → l[i + 1]? = some b → (prs l)[i]? = some (a, b)
  | [], i, a, b, h, _ => by simp at h
  | [x], 0, a, b, _, h => by simp at h
  | [x], i + 1, a, b, h, _ => by simp at h
  | x :: y :: t, 0, a, b, h1, h2 => by
    simp at h1 h2
    subst h1 h2
    rfl
  | x :: y :: t, i + 1, a, b, h1, h2 => prs_get (y :: t) i a b (by simpa using h1) (by simpa using h2)
theorem gapF_eq (L : List Fr) : gapF (inf :: L) = gapsL L := by
  apply List.ext_getElem?
  intro i
  by_cases hi : i < L.length + 1
  · rw [gapF_at (by simpa using hi)]
    unfold gapsL
    have hp : ∀ j, j < L.length + 1 → (path L)[j]? = some (frAt (inf :: L) j) := fun j hj => by
      rw [path, show inf :: (L ++ [inf]) = (inf :: L) ++ [inf] from rfl, List.getElem?_append_left (by simpa using hj), List.getElem?_eq_getElem (by simpa using hj)]
      unfold frAt
      rw [List.getD_eq_getElem?_getD, List.getElem?_eq_getElem (by simpa using hj)]
      rfl
    refine (prs_get _ i _ _ (hp i hi) ?_).symm
    rw [List.length_cons]
    by_cases h2 : i + 1 < L.length + 1
    · rw [Nat.mod_eq_of_lt h2]
      exact hp _ h2
    · have e : i + 1 = L.length + 1 := by omega
      rw [e, Nat.mod_self, path, show inf :: (L ++ [inf]) = (inf :: L) ++ [inf] from rfl, List.getElem?_append_right (by simp)]
      simp [frAt]
  · rw [List.getElem?_eq_none (by simp [gapF]; omega), List.getElem?_eq_none (by rw [gapsL_length]; omega)]
/-! ### what the two dicts hold -/
structure LkI (gs : List Sd) (mk : List Mk) (ts : List Tile) (i : Nat) (tk hk : List (NestedKey × Dt)) : Prop where
  tsd : ∀ e, lkA tk (keyS e) = (lkOf (leads3 ts) e).map sdD
  tn : ∀ n, n < i → mk[n]? = some .third → lkA tk (.num (n : Int)) = some (nD n)
  hg : ∀ n e, n < i → gs[n]? = some e → lkA hk (keyS e) = some (lkD (markK gs e (mk.getD n .half)))
  hsd : ∀ e, e ∈ sides ts → (∀ n, n < i → gs[n]? ≠ some e) → lkA hk (keyS e) = some (sdD (e.2, e.1))
  hn : ∀ n e, n < i → mk[n]? = some .third → gs[n]? = some e → lkA hk (.num (n : Int)) = some (sdD e)
  l1 : tk.length ≤ 100 + i
  l2 : hk.length ≤ 100 + 2 * i
variable {gs : List Sd} {mk : List Mk} {ts : List Tile} {i : Nat} {tk hk : List (NestedKey × Dt)}
theorem LkI.side (I : LkI gs mk ts i tk hk) (nd : gs.Nodup) {e : Sd} {d : Dt} (he : gs[i]? = some e) {m : Mk} (hm : mk[i]? = some m) (h3 : m ≠ .third) (hd : d = lkD (markK gs e m)) : LkI gs mk ts (i + 1) tk (putA hk (keyS e) d) := by
  have uniq : ∀ n e', gs[n]? = some e' → e' = e → n = i := fun n e' h1 h2 => by
    obtain ⟨a1, a2⟩ := List.getElem?_eq_some_iff.mp h1
    obtain ⟨b1, b2⟩ := List.getElem?_eq_some_iff.mp he
    exact (List.getElem_inj nd).mp (by rw [a2, b2, h2])
  refine ⟨I.tsd, fun n hn h => ?_, fun n e' hn h => ?_, fun e' h1 h2 => ?_, fun n e' hn h h' => ?_, by have := I.l1; omega, by have := I.l2; have := put_len (kvs := hk) (k := keyS e) (v := d); omega⟩
  · by_cases q : n = i
    · subst q; rw [hm] at h; cases h; exact absurd rfl h3
    · exact I.tn n (by omega) h
  · rw [lkA_put]
    by_cases q : n = i
    · subst q
      rw [he] at h; cases h
      rw [if_pos rfl, hd, show mk.getD n .half = m by rw [List.getD_eq_getElem?_getD, hm]; rfl]
    · rw [if_neg (fun z => q (uniq n e' h (keyS_inj z)))]
      exact I.hg n e' (by omega) h
  · rw [lkA_put, if_neg (fun z => h2 i (by omega) (by rw [he, keyS_inj z]))]
    exact I.hsd e' h1 fun n hn => h2 n (by omega)
  · rw [lkA_put, if_neg (num_ne _ _)]
    by_cases q : n = i
    · subst q; rw [hm] at h; cases h; exact absurd rfl h3
    · exact I.hn n e' (by omega) h h'
theorem LkI.third (I : LkI gs mk ts i tk hk) (nd : gs.Nodup) {e : Sd} (he : gs[i]? = some e) (hm : mk[i]? = some .third) : LkI gs mk ts (i + 1) (putA tk (.num (i : Int)) (nD i)) (putA (putA hk (.num (i : Int)) (sdD e)) (keyS e) (nD i)) := by
  have uniq : ∀ n e', gs[n]? = some e' → e' = e → n = i := fun n e' h1 h2 => by
    obtain ⟨a1, a2⟩ := List.getElem?_eq_some_iff.mp h1
    obtain ⟨b1, b2⟩ := List.getElem?_eq_some_iff.mp he
    exact (List.getElem_inj nd).mp (by rw [a2, b2, h2])
  have nn : ∀ n : Nat, NestedKey.num (n : Int) = .num (i : Int) → n = i := fun n z => by injection z with z; omega
  refine ⟨fun e' => ?_, fun n hn h => ?_, fun n e' hn h => ?_, fun e' h1 h2 => ?_, fun n e' hn h h' => ?_, ?_, ?_⟩
  · rw [lkA_put, if_neg (fun z => num_ne _ _ z.symm)]; exact I.tsd e'
  · rw [lkA_put]
    by_cases q : n = i
    · subst q; rw [if_pos rfl]
    · rw [if_neg (fun z => q (nn n z))]; exact I.tn n (by omega) h
  · rw [lkA_put]
    by_cases q : n = i
    · subst q
      rw [he] at h; cases h
      rw [if_pos rfl, show mk.getD n .half = .third by rw [List.getD_eq_getElem?_getD, hm]; rfl]
      show some (nD n) = some (nD (ixOf gs _))
      rw [ixOf_eq nd he]
    · rw [if_neg (fun z => q (uniq n e' h (keyS_inj z))), lkA_put, if_neg (fun z => num_ne _ _ z.symm)]
      exact I.hg n e' (by omega) h
  · rw [lkA_put, if_neg (fun z => h2 i (by omega) (by rw [he, keyS_inj z])), lkA_put, if_neg (fun z => num_ne _ _ z.symm)]
    exact I.hsd e' h1 fun n hn => h2 n (by omega)
  · rw [lkA_put, if_neg (num_ne _ _), lkA_put]
    by_cases q : n = i
    · subst q; rw [if_pos rfl]; rw [he] at h'; cases h'; rfl
    · rw [if_neg (fun z => q (nn n z))]; exact I.hn n e' (by omega) h h'
  · have := I.l1; have := put_len (kvs := tk) (k := .num (i : Int)) (v := nD i); omega
  · have := I.l2; have := put_len (kvs := hk) (k := .num (i : Int)) (v := sdD e); have := put_len (kvs := putA hk (.num (i : Int)) (sdD e)) (k := keyS e) (v := nD i); omega
/-- all marks gone through: the dicts lead on as they are to -/
theorem LkI.find {w : World} {η : Eta} {u v : Addr} {L0 : List Fr} (I : LkI (gapsL L0) mk ts (L0.length + 1) tk hk) (F : FrOk L0) (P : Poly L0 [nought] ts) (h2 : 2 ≤ L0.length) (M : MkOk mk (L0.length + 1)) (hu : η u = some (.nst w hk)) (hv : η v = some (.nst w tk)) :
    FindK w η (.ref u) (.ref v) lkD (PK mk ts) (hK (gapsL L0) mk) (tK ts) := by
  have S := link_sys F P h2 M
  have nd3 : ((leads3 ts).map (·.1)).Nodup := by rw [leads3_fst]; exact P.nd
  have gl := gapsL_length L0
  have gnd := gapsL_nodup F
  refine ⟨fun x hx => ?_, fun x hx => ?_, S.ps, S.pr⟩
  · cases x with
    | num n =>
      have hn : n < L0.length + 1 := by rw [← M.ln]; exact (List.getElem?_eq_some_iff.mp hx).1
      have hg : (gapsL L0)[n]? = some (gapsL L0)[n] := List.getElem?_eq_getElem (by omega)
      show ItemOf w η (.ref u) (nD n) (sdD ((gapsL L0).getD n (inf, inf)))
      rw [dt_num, getD_get hg]
      exact .nst hu (I.hn n _ hn hx hg) (okK_num _)
    | side e =>
      show ItemOf w η (.ref u) (sdD e) (lkD (if e ∈ gapsL L0 then markK (gapsL L0) e (mk.getD (ixOf (gapsL L0) e) .half) else .side (e.2, e.1)))
      rw [dt_keyS]
      by_cases he : e ∈ gapsL L0
      · rw [if_pos he]
        refine .nst hu (I.hg _ e ?_ (ixOf_get he)) (ok_keyS e)
        rw [← gl]; exact ixOf_lt he
      · rw [if_neg he]
        exact .nst hu (I.hsd e hx fun n _ z => he (List.mem_of_getElem? z)) (ok_keyS e)
  · cases x with
    | num n =>
      have hn : n < L0.length + 1 := by rw [← M.ln]; exact (List.getElem?_eq_some_iff.mp hx).1
      show ItemOf w η (.ref v) (nD n) (nD n)
      rw [dt_num]
      exact .nst hv (I.tn n hn hx) (okK_num _)
    | side e =>
      show ItemOf w η (.ref v) (sdD e) (sdD (tSd ts e))
      rw [dt_keyS e]
      refine .nst hv ?_ (ok_keyS e)
      rw [I.tsd]
      have hm : e ∈ (leads3 ts).map (·.1) := by rw [leads3_fst]; exact hx
      obtain ⟨⟨e', f⟩, h3, h4⟩ := List.mem_map.mp hm
      cases h4
      have h5 : lkOf (leads3 ts) e' = some f := lkOf_of nd3 h3
      show Option.map sdD (lkOf (leads3 ts) e') = some (sdD ((lkOf (leads3 ts) e').getD e'))
      rw [h5]
      rfl
end FgA
namespace FgA
open PySem PySem.Spec PyProof.Rows L2 Fg
local macro_rules | `(tactic| walk_at "n") => `(tactic| (refine is_name ?_; first
  | refine ae_nameV (by assumption) (by assumption) rfl rfl ?_
  | refine ae_glob (by assumption) (by assumption) ?_
  | refine ae_nameB (by assumption) rfl ?_))
local macro_rules | `(tactic| walk_at "set") => `(tactic| (refine is_set ?_; refine as_setV (by assumption) (by assumption) (by assumption) rfl ?_))
local macro_rules | `(tactic| walk_at "t") => `(tactic| first
  | (refine is_tgt ?_; refine ag_nameV (by assumption) (by assumption) (by assumption) rfl ?_)
  | refine ag_tup2 (by assumption) ?_
  | refine ag_tup3 (by assumption) ?_
  | refine ag_tup4 (by assumption) ?_)
local macro_rules | `(tactic| walk_at "e") => `(tactic| first
  | walk_at "n"
  | refine ae_int ?_
  | refine ae_str ?_
  | refine ae_sub' ?_
  | refine aa_cons ?_
  | refine aa_nil ?_
  | refine ae_add ?_
  | refine ae_sub ?_
  | refine ae_mul ?_
  | refine ae_mod ?_
  | refine ae_fdiv ?_
  | refine ae_tup ?_
  | refine ae_lst ?_
  | refine ae_slice ?_
  | refine ae_bl ?_
  | refine ae_non ?_
  | refine ae_len (by assumption) (by assumption) ?_
  | refine ae_abs (by assumption) (by assumption) ?_
  | refine ae_call (by assumption) (by assumption) ?_
  | refine addD_int ?_
  | (refine is_ii ?_; refine iiT trivial ?_)
  | refine szl_and rfl ?_
  | (refine is_sub ?_; first | refine subD_tup (ix0 rfl) ?_ | refine subD_tup (ix1 rfl) ?_ | refine subD_tup (ix2 rfl) ?_ | refine subD_tup (ix3 rfl) ?_))
local macro_rules | `(tactic| walk_at "h") => `(tactic| first
  | assumption
  | exact up_same
  | (refine up_new (by assumption) ?_; walk_at "h")
  | (refine up_old (by assumption) ?_; walk_at "h")
  | (refine up_old (Ne.symm (by assumption)) ?_; walk_at "h"))
local macro_rules | `(tactic| walk_at "f") => `(tactic| first
  | assumption
  | (apply free_up; walk_at "f"))
local macro_rules | `(tactic| walk_at "sub") => `(tactic| first
  | exact Sub.refl
  | (refine sub_both ?_; walk_at "sub")
  | (refine sub_new (by assumption) ?_; walk_at "sub"))
local macro_rules | `(tactic| walk_at "sx") => `(tactic| first
  | exact SubX.refl
  | (refine SubX.self ?_; walk_at "sx")
  | (refine SubX.new (by assumption) ?_; walk_at "sx"))
variable {X : Cx} {η : Eta} {Q0 : Dt → Eta → Prop}
theorem atLast {α : Type} {l : List α} {n : Nat} {x : α} (hl : l.length = n + 1) (h : l[n]? = some x) : atI l (-1) = some x := by
  unfold atI
  have e : ixN l.length (-1) = some n := by
    unfold ixN
    rw [if_neg (by decide), if_pos (by omega), hl]
    congr 1
    omega
  rw [e]
  exact h
theorem lkOf_none {α β : Type} [DecidableEq α] {e : α} : ∀ {l : List (α × β)}, lkOf l e = none ↔ e ∉ l.map (·.1)
  | [] => by simp [lkOf]
  | p :: l => by
    rw [lkOf_cons, List.map_cons, List.mem_cons, not_or]
    by_cases h : p.1 = e
    · rw [if_pos h]; simp [h]
    · rw [if_neg h, lkOf_none (l := l)]
      exact ⟨fun z => ⟨fun y => h y.symm, z⟩, fun z => z.2⟩
theorem tile_split {ts : List Tile} {i : Nat} {a m b : Fr} (h : ts[i]? = some (a, m, b)) : leads3 (ts.take (i + 1)) = leads3 (ts.take i) ++ [((a, m), (m, b)), ((m, b), (b, a)), ((b, a), (a, m))] ∧ ∃ r, sides ts = sides (ts.take i) ++ (a, m) :: (m, b) :: (b, a) :: r := by
  obtain ⟨hi, e⟩ := List.getElem?_eq_some_iff.mp h
  have e1 : ts.take (i + 1) = ts.take i ++ [(a, m, b)] := by rw [List.take_succ, h]; rfl
  refine ⟨by rw [e1, leads3_app]; rfl, sides (ts.drop (i + 1)), ?_⟩
  have e2 : ts = ts.take i ++ (a, m, b) :: ts.drop (i + 1) := by rw [← e, ← List.drop_eq_getElem_cons hi, List.take_append_drop]
  conv => lhs; rw [e2]
  unfold sides
  rw [List.flatMap_append, List.flatMap_cons]
  rfl
theorem three_new {S r : List Sd} {x y z : Sd} (h : (S ++ x :: y :: z :: r).Nodup) : x ∉ S ∧ y ∉ S ++ [x] ∧ z ∉ S ++ [x, y] := by
  rw [List.nodup_append] at h
  obtain ⟨_, h2, h3⟩ := h
  rw [List.nodup_cons, List.nodup_cons] at h2
  obtain ⟨h4, h5, h6⟩ := h2
  refine ⟨fun q => h3 x q x (List.mem_cons_self ..) rfl, fun q => ?_, fun q => ?_⟩
  · rcases List.mem_append.mp q with q | q
    · exact h3 y q y (by simp) rfl
    · simp at q; exact h4 (by simp [q])
  · rcases List.mem_append.mp q with q | q
    · exact h3 z q z (by simp) rfl
    · simp at q
      rcases q with q | q
      · exact h4 (by simp [q])
      · exact h5 (by simp [q])
def backs (es : List Sd) : List (Sd × Sd) := es.map fun e => (e, (e.2, e.1))
theorem backs_fst (es : List Sd) : (backs es).map (·.1) = es := by
  unfold backs
  rw [List.map_map]
  exact List.map_id es
theorem backs_at {es : List Sd} (nd : es.Nodup) {e : Sd} (h : e ∈ es) : lkOf (backs es) e = some (e.2, e.1) :=
  lkOf_of (by rw [backs_fst]; exact nd) (List.mem_map.mpr ⟨e, h, rfl⟩)
theorem lki_start {L : List Fr} {mk : List Mk} {ts : List Tile} (nd : (sides ts).Nodup) (hl : ts.length ≤ 7) : LkI (gapsL L) mk ts 0 ((leads3 ts).map entT) ((backs (sides ts)).map entT) := by
  refine ⟨fun e => lkA_ent e _, fun n hn => absurd hn (Nat.not_lt_zero _), fun n e hn => absurd hn (Nat.not_lt_zero _), fun e he _ => by rw [lkA_ent, backs_at nd he]; rfl, fun n e hn => absurd hn (Nat.not_lt_zero _), ?_, ?_⟩
  · rw [List.length_map, leads3_len]; omega
  · rw [List.length_map, backs, List.length_map, sides_length]; omega
/-- the two dicts of a fan, and the place to begin with -/
def p__law_links (w : World) : ASp := fun ds η Q => ∃ (L : List Fr) (mk : List Mk), ds = [fanD (inf :: L) mk] ∧ FrOk L ∧ FrB 64 L ∧ L.length ≤ 7 ∧ MkOk mk (L.length + 1) ∧ (L.length = 1 → Mk.third ∈ mk) ∧
  ∀ (u v : Addr) (x0 : LK) (P : LK → Prop) (s r : LK → LK) (U : List LK) (η' : Eta), Sub η η' → FindK w η' (.ref u) (.ref v) lkD P s r → Sys P s r → P x0 → (∀ x, P x → x ∈ U) → U.length ≤ 60 → Q (.tup [.ref u, .ref v, lkD x0]) η'
set_option maxHeartbeats 4000000 in
theorem b__law_links (A : At X n__law_links (defScope s__law_links) 1) (B : Bt X) (hf : ∀ y, X.fn y = true) (f1 : FX X "_law_gaps" 1 1 p__law_gaps) (f2 : FX X "_law_tiles" 1 1 p__law_tiles) {ds : List Dt} (h : p__law_links X.w ds η Q0) :
    ASs X (defBody s__law_links) (ds.map some ++ List.replicate 11 none) η (ends Q0) := by
  have V0 := v__law_links
  obtain ⟨L, mk, rfl, hL, hB, hl, hM, hT, h⟩ := h
  have gl := gapsL_length L
  have gnd := gapsL_nodup hL
  have hmk : mk.length = L.length + 1 := hM.ln
  have hFl : ((inf :: L).map frD).length = L.length + 1 := by simp
  refine as_cons (as_asg ?_)
  repeat walk_at "e"
  repeat walk_at "t"
  refine as_cons ?_
  walk_at "set"
  repeat walk_at "e"
  refine ⟨rfl, inf :: L, rfl, by simp; omega, fun g hg => ?_⟩
  rw [gapF_eq]
  refine as_cons ?_
  walk_at "set"
  refine ae_dnewN A fun v hv => ?_
  have hgv : g ≠ v := (ne_at hv up_same).symm
  have hv0 : η v = none := free_up hv
  refine as_cons (as_for A (ai_list ?_))
  repeat walk_at "e"
  refine ⟨rfl, L, hL, hB, hl, rfl, fun q ts hq P => ?_⟩
  have hqv : q ≠ v := ne_at hq up_same
  have hqg : q ≠ g := ne_at hq (up_new hv up_same)
  have htl : ts.length ≤ 6 := by have := P.len; simp at this; omega
  refine ⟨q, _, rfl, up_same, fun i ρ η' => ∃ x5 x6 x7, ρ = [some (fanD (inf :: L) mk), some (.tup ((inf :: L).map frD)), some (.tup (mk.map mkD)), some (.ref g), some (.ref v), x5, x6, x7, none, none, none, none] ∧ Sub η η' ∧ η' g = some (.lst ((gapsL L).map sdD)) ∧ η' q = some (.lst (ts.map tlD)) ∧ η' v = some (.nst X.w ((leads3 (ts.take i)).map entT)), ?_, ?_, ?_, ?_⟩
  · exact ⟨none, none, none, rfl, sub_new hq (sub_new hv (Sub.up hg)), up_new hq (up_new hv up_same), up_same, up_new hq up_same⟩
  · rintro i ρ η' _ ⟨_, _, _, _, _, _, e, _⟩
    exact e
  · rintro i d ρ η' hi hd ⟨x5, x6, x7, rfl, sb, hg', hq', hv'⟩
    rw [List.length_map] at hi
    rw [List.getElem?_map] at hd
    obtain ⟨⟨a, m, b⟩, ht, rfl⟩ := Option.map_eq_some_iff.mp hd
    obtain ⟨e1, r, e2⟩ := tile_split ht
    obtain ⟨w1, w2, w3⟩ := three_new (e2 ▸ P.nd)
    have hk : (leads3 (ts.take i)).map (·.1) = sides (ts.take i) := leads3_fst _
    have hkl : (leads3 (ts.take i)).length ≤ 100 := by rw [leads3_len, List.length_take]; omega
    repeat walk_at "t"
    refine as_cons (as_asg ?_)
    repeat walk_at "e"
    refine ag_setN A ?_
    repeat walk_at "e"
    refine ⟨v, _, keyS (a, m), rfl, hv', dt_keyS (a, m), ok_keyS _, by rw [List.length_map]; omega, ?_⟩
    rw [show Dt.tup [frD m, frD b] = sdD (m, b) from rfl, put_ent (by rw [hk]; exact w1)]
    refine as_cons (as_asg ?_)
    repeat walk_at "e"
    refine ag_setN A ?_
    repeat walk_at "e"
    refine ⟨v, _, keyS (m, b), rfl, up_same, dt_keyS (m, b), ok_keyS _, by rw [List.length_map, List.length_append]; simp; omega, ?_⟩
    rw [up_up, show Dt.tup [frD b, frD a] = sdD (b, a) from rfl, put_ent (by rw [List.map_append, hk]; exact w2)]
    refine as_one (as_asg ?_)
    repeat walk_at "e"
    refine ag_setN A ?_
    repeat walk_at "e"
    refine ⟨v, _, keyS (b, a), rfl, up_same, dt_keyS (b, a), ok_keyS _, by rw [List.length_map, List.length_append]; simp; omega, ?_⟩
    rw [up_up, show Dt.tup [frD a, frD m] = sdD (a, m) from rfl, put_ent (by rw [List.map_append, List.map_append, hk, List.append_assoc]; exact w3)]
    exact ⟨_, _, _, rfl, sb.up' hv0, up_old hgv hg', up_old hqv hq', by rw [up_same, e1, List.append_assoc, List.append_assoc]; rfl⟩
  · rintro ρ η' ⟨x5, x6, x7, rfl, sb, hg1, _, hv1⟩
    rw [List.length_map, List.take_length] at hv1
    have hkl : (leads3 ts).length ≤ 100 := by rw [leads3_len]; omega
    refine as_cons ?_
    walk_at "set"
    refine ae_dnewN A fun u hu => ?_
    have hug : u ≠ g := ne_at hu hg1
    have huv : u ≠ v := ne_at hu hv1
    have hu0 : η u = none := by
      cases z : η u with
      | none => rfl
      | some w => rw [sb _ _ z] at hu; cases hu
    refine as_cons (as_forD A V0 rfl rfl (up_new hu hv1) fun mo => ⟨fun j ρ η2 => ∃ y5 y7, ρ = [some (fanD (inf :: L) mk), some (.tup ((inf :: L).map frD)), some (.tup (mk.map mkD)), some (.ref g), some (.ref v), y5, x6, y7, some (.ref u), none, none, none] ∧ Sub η η2 ∧ η2 g = some (.lst ((gapsL L).map sdD)) ∧ η2 v = some mo ∧ η2 u = some (.nst X.w ((backs ((sides ts).take j)).map entT)), ?_, ?_, ?_, ?_⟩)
    · exact ⟨x5, x7, rfl, (sub_new hu sb).up' hv0, up_old hgv (up_new hu hg1), up_same, up_old huv up_same⟩
    · rintro j ρ η2 ⟨_, _, _, _, _, e, _⟩
      exact e
    · rintro j kv ρ η2 hkv ⟨y5, y7, rfl, s2, hg2, hv2, hu2⟩
      rw [List.getElem?_map] at hkv
      obtain ⟨⟨⟨a, b⟩, f⟩, hp, rfl⟩ := Option.map_eq_some_iff.mp hkv
      have hsj : (sides ts)[j]? = some (a, b) := by rw [← leads3_fst, List.getElem?_map, hp]; rfl
      have hjl : j < (sides ts).length := (List.getElem?_eq_some_iff.mp hsj).1
      have htk : (sides ts).take (j + 1) = (sides ts).take j ++ [(a, b)] := by rw [List.take_succ, hsj]; rfl
      have hnew : (a, b) ∉ (sides ts).take j := by
        have hnd : ((sides ts).take (j + 1)).Nodup := P.nd.sublist (List.take_sublist _ _)
        rw [htk, List.nodup_append] at hnd
        exact fun hm => hnd.2.2 _ hm _ (by simp) rfl
      show AG X _ (dtOf (keyS (a, b))) _ _ _
      rw [← dt_keyS]
      repeat walk_at "t"
      refine as_one (as_asg ?_)
      repeat walk_at "e"
      refine ag_setN A ?_
      repeat walk_at "e"
      refine ⟨u, _, keyS (a, b), rfl, hu2, dt_keyS (a, b), ok_keyS _, by rw [List.length_map, backs, List.length_map, List.length_take]; rw [sides_length] at *; omega, ?_⟩
      rw [show Dt.tup [frD b, frD a] = sdD (b, a) from rfl, put_ent (by rw [backs_fst]; exact hnew)]
      refine ⟨_, _, rfl, s2.up' hu0, up_old hug.symm hg2, up_old huv.symm hv2, ?_⟩
      have eb : backs ((sides ts).take j ++ [(a, b)]) = backs ((sides ts).take j) ++ [((a, b), (b, a))] := by
        unfold backs
        rw [List.map_append]
        rfl
      rw [up_same, htk, eb]
    · rintro ρ η2 ⟨y5, y7, rfl, s2, hg2, hv2, hu2⟩
      rw [List.length_map, leads3_len, ← sides_length, List.take_length] at hu2
      have hg3 : up η2 v (.nst X.w ((leads3 ts).map entT)) g = some (.lst ((gapsL L).map sdD)) := up_old hgv hg2
      have hu3 : up η2 v (.nst X.w ((leads3 ts).map entT)) u = some (.nst X.w ((backs (sides ts)).map entT)) := up_old huv hu2
      have hv3 : up η2 v (.nst X.w ((leads3 ts).map entT)) v = some (.nst X.w ((leads3 ts).map entT)) := up_same
      have s3 : Sub η (up η2 v (.nst X.w ((leads3 ts).map entT))) := s2.up' hv0
      generalize up η2 v (.nst X.w ((leads3 ts).map entT)) = η3 at hg3 hu3 hv3 s3
      have I0 := lki_start (L := L) (mk := mk) P.nd (by omega)
      generalize (leads3 ts).map entT = tk0 at hv3 I0
      generalize (backs (sides ts)).map entT = hk0 at hu3 I0
      refine as_cons (as_for A (ai_enumT A B ?_))
      repeat walk_at "e"
      refine ⟨_, rfl, fun i ρ η' => ∃ tk hk x9 x10, ρ = [some (fanD (inf :: L) mk), some (.tup ((inf :: L).map frD)), some (.tup (mk.map mkD)), some (.ref g), some (.ref v), y5, x6, y7, some (.ref u), x9, x10, none] ∧ Sub η η' ∧ η' g = some (.lst ((gapsL L).map sdD)) ∧ η' v = some (.nst X.w tk) ∧ η' u = some (.nst X.w hk) ∧ LkI (gapsL L) mk ts i tk hk, ?_, ?_, ?_, ?_⟩
      · exact ⟨_, _, none, none, rfl, s3, hg3, hv3, hu3, I0⟩
      · intros; trivial
      · rintro i d ρ η' hi ⟨y0, hy0, rfl⟩ ⟨tk, hk, x9, x10, rfl, s4, hg4, hv4, hu4, I⟩
        rw [List.length_map] at hi
        rw [List.getElem?_map] at hy0
        obtain ⟨m, hm, rfl⟩ := Option.map_eq_some_iff.mp hy0
        obtain ⟨e, he⟩ : ∃ e, (gapsL L)[i]? = some e := ⟨(gapsL L)[i], List.getElem?_eq_getElem (by omega)⟩
        have hat : ((gapsL L).map sdD)[i]? = some (sdD e) := by rw [List.getElem?_map, he]; rfl
        have l1 := I.l1
        have l2 := I.l2
        have hlt : ∀ d, up η' u d v = some (.nst X.w tk) := fun d => up_old huv.symm hv4
        repeat walk_at "t"
        refine as_one (as_if (at_eq A ?_))
        repeat walk_at "e"
        refine ⟨cmpr_of (okd_mk _ _) (okd_mk 4 .third), fun z => ?_, fun z => ?_⟩
        · have h3 : m = .third := mkD_third.mp z
          subst h3
          refine as_cons (as_asg ?_)
          repeat walk_at "e"
          refine ag_setN A ?_
          repeat walk_at "e"
          refine ⟨v, _, .num (i : Int), rfl, hv4, dt_num i, okK_num _, by omega, ?_⟩
          refine as_cons (as_asg ?_)
          repeat walk_at "e"
          refine subD_lst (up_old hgv hg4) (atN hat) ?_
          refine ag_setN A ?_
          repeat walk_at "e"
          refine ⟨u, _, .num (i : Int), rfl, up_old huv hu4, dt_num i, okK_num _, by omega, ?_⟩
          refine as_one (as_asg ?_)
          repeat walk_at "e"
          refine ag_setN A ?_
          repeat walk_at "e"
          refine subD_lst (up_old hug.symm (up_old hgv hg4)) (atN hat) ?_
          have := put_len (kvs := hk) (k := .num (i : Int)) (v := sdD e)
          refine ⟨u, _, keyS e, rfl, up_same, dt_keyS e, ok_keyS e, by omega, ?_⟩
          rw [up_up]
          exact ⟨_, _, _, _, rfl, (s4.up' hv0).up' hu0, up_old hug.symm (up_old hgv hg4), up_old huv.symm up_same, up_same, I.third gnd he hm⟩
        · have h3 : m ≠ .third := fun e => z (by rw [e]; rfl)
          refine as_one (as_if (at_eq A ?_))
          repeat walk_at "e"
          refine ⟨cmpr_of (okd_mk _ _) (okd_mk 4 .half), fun y => ?_, fun y => ?_⟩
          · have h4 : m = .half := mkD_half.mp y
            subst h4
            refine as_one (as_asg ?_)
            repeat walk_at "e"
            refine subD_lst hg4 (atN hat) ?_
            refine ag_setN A ?_
            repeat walk_at "e"
            refine subD_lst hg4 (atN hat) ?_
            refine ⟨u, _, keyS e, rfl, hu4, dt_keyS e, ok_keyS e, by omega, ?_⟩
            exact ⟨_, _, _, _, rfl, s4.up' hu0, up_old hug.symm hg4, up_old huv.symm hv4, up_same, I.side gnd he hm h3 rfl⟩
          · have h4 : m ≠ .half := fun e => y (by rw [e]; rfl)
            obtain ⟨j, rfl⟩ : ∃ j, m = .pair j := by
              cases m with
              | half => exact absurd rfl h4
              | third => exact absurd rfl h3
              | pair j => exact ⟨j, rfl⟩
            have hj : j < (gapsL L).length := by
              have := (List.getElem?_eq_some_iff.mp (hM.pr i j hm).2).1
              omega
            have hatj : ((gapsL L).map sdD)[j]? = some (sdD (gapsL L)[j]) := by rw [List.getElem?_map, List.getElem?_eq_getElem hj]; rfl
            refine as_one (as_asg ?_)
            repeat walk_at "e"
            refine subD_lst hg4 (atN hatj) ?_
            refine ag_setN A ?_
            repeat walk_at "e"
            refine subD_lst hg4 (atN hat) ?_
            refine ⟨u, _, keyS e, rfl, hu4, dt_keyS e, ok_keyS e, by omega, ?_⟩
            refine ⟨_, _, _, _, rfl, s4.up' hu0, up_old hug.symm hg4, up_old huv.symm hv4, up_same, I.side gnd he hm h3 ?_⟩
            show sdD _ = sdD ((gapsL L).getD j (inf, inf))
            rw [getD_get (List.getElem?_eq_getElem hj)]
      · rintro ρ η' ⟨tk, hk, x9, x10, rfl, s4, hg4, hv4, hu4, I⟩
        rw [List.length_map, hmk] at I
        refine as_cons ?_
        walk_at "set"
        repeat walk_at "e"
        refine as_cons (as_ifJ (fun ρ1 η1 => ∃ (x0 : LK) (P : LK → Prop) (s r : LK → LK) (U : List LK) (o9 : Option Dt), ρ1 = [some (fanD (inf :: L) mk), some (.tup ((inf :: L).map frD)), some (.tup (mk.map mkD)), some (.ref g), some (.ref v), y5, x6, y7, some (.ref u), o9, x10, some (lkD x0)] ∧ Sub η η1 ∧ FindK X.w η1 (.ref u) (.ref v) lkD P s r ∧ Sys P s r ∧ P x0 ∧ (∀ x, P x → x ∈ U) ∧ U.length ≤ 60) (at_eq A ?_) ?_)
        · repeat walk_at "e"
          refine len_t (by rw [hFl]; omega) ?_
          rw [hFl]
          repeat walk_at "e"
          refine ⟨cmpr_of rfl rfl, fun z => ?_, fun z => ?_⟩
          · have hL1 : L.length = 1 := by have := Dt.int.inj z; omega
            obtain ⟨m0, m1, rfl⟩ : ∃ m0 m1, mk = [m0, m1] := by
              match mk, (show mk.length = 2 by omega) with
              | [m0, m1], _ => exact ⟨m0, m1, rfl⟩
            have hM2 : MkOk [m0, m1] 2 := by rw [hL1] at hM; exact hM
            have hT2 := hT hL1
            refine as_cons ?_
            walk_at "set"
            refine ae_sub' (ae_lst ?_)
            repeat walk_at "e"
            intro p hp
            refine ae_int1 A B (ae_ne A ?_)
            repeat walk_at "e"
            refine ⟨cmpr_of (okd_mk _ _) (okd_mk 4 .third), fun c hc => ⟨c, rfl, ?_⟩⟩
            have hfirst : atI [Dt.int 1, Dt.int 0] (if c = true then 1 else 0) = some (lkD (firstTwo [m0, m1])) := by
              cases c with
              | true =>
                have h1 : m1 ≠ .third := fun e => (hc.mp rfl) (by rw [e]; rfl)
                have e1 : firstTwo [m0, m1] = .num 0 := if_neg (fun z => h1 (by simpa using z))
                rw [e1]; rfl
              | false =>
                have h1 : m1 = .third := mkD_third.mp (Classical.byContradiction fun y => by have := hc.mpr y; cases this)
                have e1 : firstTwo [m0, m1] = .num 1 := if_pos (by rw [h1]; rfl)
                rw [e1]; rfl
            refine subD_lst up_same hfirst ?_
            refine as_one (as_for A (ai_list (ae_lst ?_)))
            repeat walk_at "e"
            intro p2 hp2
            have hv5 : up (up η' p (.lst [.int 1, .int 0])) p2 (.lst [.int 0, .int 1]) v = some (.nst X.w tk) := up_new hp2 (up_new hp hv4)
            have hu5 : up (up η' p (.lst [.int 1, .int 0])) p2 (.lst [.int 0, .int 1]) u = some (.nst X.w hk) := up_new hp2 (up_new hp hu4)
            have s5 : Sub η (up (up η' p (.lst [.int 1, .int 0])) p2 (.lst [.int 0, .int 1])) := sub_new hp2 (sub_new hp s4)
            have hl2 := I.l2
            have hup2 : p2 ≠ u := ne_at hp2 (up_new hp hu4)
            refine ⟨p2, _, rfl, up_same, fun j ρ1 η1 => ∃ hk2 o9, ρ1 = [some (fanD (inf :: L) [m0, m1]), some (.tup ((inf :: L).map frD)), some (.tup ([m0, m1].map mkD)), some (.ref g), some (.ref v), y5, x6, y7, some (.ref u), o9, x10, some (lkD (firstTwo [m0, m1]))] ∧ Sub η η1 ∧ η1 p2 = some (.lst [.int 0, .int 1]) ∧ η1 v = some (.nst X.w tk) ∧ η1 u = some (.nst X.w hk2) ∧ hk2.length ≤ 200 + j ∧ ∀ n, n < j → [m0, m1][n]? = some Mk.third → lkA hk2 (.num (n : Int)) = some (lkD (h2K [m0, m1] (.num n))), ?_, ?_, ?_, ?_⟩
            · exact ⟨hk, x9, rfl, s5, up_same, hv5, hu5, by omega, fun n hn => absurd hn (Nat.not_lt_zero _)⟩
            · rintro j ρ1 η1 _ ⟨_, _, _, _, e, _⟩
              exact e
            · rintro j d ρ1 η1 hj hd ⟨hk2, o9, rfl, s6, hp6, hv6, hu6, hl6, hI6⟩
              have hj2 : j < 2 := hj
              obtain ⟨mj, mo, hmj, hmo, rfl⟩ : ∃ mj mo, [m0, m1][j]? = some mj ∧ [m0, m1][1 - j]? = some mo ∧ d = nD j := by
                match j, hj2 with
                | 0, _ => exact ⟨m0, m1, rfl, rfl, by cases hd; rfl⟩
                | 1, _ => exact ⟨m1, m0, rfl, rfl, by cases hd; rfl⟩
              have aj : atI ([m0, m1].map mkD) (j : Int) = some (mkD mj) := atN (by rw [List.getElem?_map, hmj]; rfl)
              have ao : atI ([m0, m1].map mkD) (1 - (j : Int)) = some (mkD mo) := by
                rw [show (1 : Int) - (j : Int) = ((1 - j : Nat) : Int) by omega]
                exact atN (by rw [List.getElem?_map, hmo]; rfl)
              walk_at "t"
              refine as_one (as_if (at_eq A ?_))
              repeat walk_at "e"
              refine subD_tup aj ?_
              repeat walk_at "e"
              refine ⟨cmpr_of (okd_mk _ _) (okd_mk 4 .third), fun y => ?_, fun y => ?_⟩
              · have h3 : mj = .third := mkD_third.mp y
                subst h3
                refine as_one (as_asg (ae_sub' (ae_lst ?_)))
                repeat walk_at "e"
                intro p3 hp3
                refine ae_int1 A B (ae_eq A ?_)
                repeat walk_at "e"
                refine subD_tup ao ?_
                repeat walk_at "e"
                refine ⟨cmpr_of (okd_mk _ _) (okd_mk 4 .third), fun c hc => ⟨c, rfl, ?_⟩⟩
                have hval : atI [nD j, .int (1 - (j : Int))] (if c = true then 1 else 0) = some (lkD (h2K [m0, m1] (.num j))) := by
                  have e2 : h2K [m0, m1] (.num j) = if [m0, m1][1 - j]? = some Mk.third then .num (1 - j) else .num j := rfl
                  rw [e2, hmo]
                  cases c with
                  | true =>
                    have h1 : mo = .third := mkD_third.mp (hc.mp rfl)
                    subst h1
                    show atI [nD j, .int (1 - (j : Int))] 1 = some (nD (1 - j))
                    rw [show (1 : Int) - (j : Int) = ((1 - j : Nat) : Int) by omega]
                    rfl
                  | false =>
                    have h1 : mo ≠ .third := fun e => by have := hc.mpr (by rw [e]; rfl); cases this
                    show atI [nD j, .int (1 - (j : Int))] 0 = _
                    rw [if_neg (fun z => h1 (by injection z))]
                    rfl
                refine subD_lst up_same hval ?_
                refine ag_setN A ?_
                repeat walk_at "e"
                refine ⟨u, _, .num (j : Int), rfl, up_new hp3 hu6, dt_num j, okK_num _, by omega, ?_⟩
                have := put_len (kvs := hk2) (k := .num (j : Int)) (v := lkD (h2K [m0, m1] (.num j)))
                refine ⟨_, _, rfl, (sub_new hp3 s6).up' hu0, up_old hup2 (up_new hp3 hp6), up_old huv.symm (up_new hp3 hv6), up_same, by omega, fun n hn h3 => ?_⟩
                rw [lkA_put]
                by_cases e : n = j
                · subst e; rw [if_pos rfl]
                · rw [if_neg (fun z => e (by injection z with z; omega))]
                  exact hI6 n (by omega) h3
              · refine as_nil ⟨_, _, rfl, s6, hp6, hv6, hu6, by omega, fun n hn h3 => ?_⟩
                by_cases e : n = j
                · subst e
                  rw [hmj] at h3
                  cases h3
                  exact absurd rfl y
                · exact hI6 n (by omega) h3
            · rintro ρ1 η1 ⟨hk2, o9, rfl, s6, hp6, hv6, hu6, hl6, hI6⟩
              have S2 := two_sys hM2
              have hn2 : ∀ n, [m0, m1][n]? = some Mk.third → n < 2 := fun n hn => (List.getElem?_eq_some_iff.mp hn).1
              refine ⟨firstTwo [m0, m1], P2 [m0, m1], h2K [m0, m1], id, [.num 0, .num 1], o9, rfl, s6, ⟨fun x hx => ?_, fun x hx => ?_, S2.ps, S2.pr⟩, S2, firstTwo_ok hM2 hT2, fun x hx => mem_two hM2 hx, by decide⟩
              · cases x with
                | side e => exact hx.elim
                | num n =>
                  show ItemOf X.w η1 (.ref u) (nD n) _
                  rw [dt_num]
                  exact .nst hu6 (hI6 n (hn2 n hx) hx) (okK_num _)
              · cases x with
                | side e => exact hx.elim
                | num n =>
                  show ItemOf X.w η1 (.ref v) (nD n) (nD n)
                  have hn3 : n < L.length + 1 := by have := hn2 n hx; omega
                  rw [dt_num]
                  exact .nst hv6 (I.tn n hn3 hx) (okK_num _)
          · have h2 : 2 ≤ L.length := by
              have := hL.nt
              have hne : L ≠ [] := fun e => by rw [e] at this; cases this
              have := List.length_pos_iff.mpr hne
              have h1 : L.length ≠ 1 := fun e => z (by rw [e]; rfl)
              omega
            have Fd := I.find hL P h2 hM hu4 hv4
            have S := link_sys hL P h2 hM
            have hx0 := firstK_ok hL P h2 hM
            have hUl : (linkU mk ts).length ≤ 60 := by rw [linkU_length]; omega
            have hmem : lkA tk (keyS (inf, nought)) = none ↔ (inf, nought) ∉ sides ts := by
              rw [I.tsd, Option.map_eq_none_iff, lkOf_none, leads3_fst]
            refine as_one (as_if (at_ninN A ?_))
            repeat walk_at "e"
            refine ⟨v, tk, keyS (inf, nought), rfl, hv4, dt_keyS (inf, nought), ok_keyS _, fun y => ?_, fun y => ?_⟩
            · have hn := hmem.mp y
              obtain ⟨e, he⟩ : ∃ e, (gapsL L)[L.length]? = some e := ⟨(gapsL L)[L.length], List.getElem?_eq_getElem (by omega)⟩
              have e1 : firstK L mk ts = hK (gapsL L) mk (.side e) := by
                unfold firstK
                rw [if_neg hn, getD_get he]
              have e2 : hK (gapsL L) mk (.side e) = markK (gapsL L) e (mk.getD L.length .half) := by
                show (if e ∈ gapsL L then markK (gapsL L) e (mk.getD (ixOf (gapsL L) e) .half) else .side (e.2, e.1)) = _
                rw [if_pos (List.mem_of_getElem? he), ixOf_eq gnd he]
              refine as_one ?_
              walk_at "set"
              refine ae_item A ?_
              walk_at "e"
              refine ae_sub' ?_
              walk_at "e"
              refine ae_neg ?_
              repeat walk_at "e"
              refine ⟨_, rfl, ?_⟩
              refine subD_lst hg4 (atLast (by rw [List.length_map, gl]) (by rw [List.getElem?_map, he]; rfl)) ?_
              show ItemQ X.w η' _ (.ref u) (sdD e)
              rw [dt_keyS]
              refine ⟨.nst hu4 (I.hg L.length e (by omega) he) (ok_keyS e), ?_⟩
              rw [← e2, ← e1]
              exact ⟨_, _, _, _, _, _, rfl, s4, Fd, S, hx0, fun x hx => mem_linkU hx, hUl⟩
            · have hn : (inf, nought) ∈ sides ts := Classical.byContradiction fun z => y (hmem.mpr z)
              have e1 : firstK L mk ts = .side (inf, nought) := by unfold firstK; rw [if_pos hn]
              refine as_nil ⟨firstK L mk ts, _, _, _, linkU mk ts, _, by rw [e1]; rfl, s4, Fd, S, hx0, fun x hx => mem_linkU hx, hUl⟩
        · rintro ρ1 η1 ⟨x0, P1, s1, r1, U, o9, rfl, s7, Fd, S, hx0, hU, hUl⟩
          refine as_one (as_ret ?_)
          repeat walk_at "e"
          exact ⟨η1, Sub.refl, h u v x0 P1 s1 r1 U η1 s7 Fd S hx0 hU hUl⟩
end FgA
namespace FgA
open PySem PySem.Spec PyProof.Rows L2 Fg
local macro_rules | `(tactic| walk_at "n") => `(tactic| (refine is_name ?_; first
  | refine ae_nameV (by assumption) (by assumption) rfl rfl ?_
  | refine ae_glob (by assumption) (by assumption) ?_
  | refine ae_nameB (by assumption) rfl ?_))
local macro_rules | `(tactic| walk_at "set") => `(tactic| (refine is_set ?_; refine as_setV (by assumption) (by assumption) (by assumption) rfl ?_))
local macro_rules | `(tactic| walk_at "t") => `(tactic| first
  | (refine is_tgt ?_; refine ag_nameV (by assumption) (by assumption) (by assumption) rfl ?_)
  | refine ag_tup2 (by assumption) ?_
  | refine ag_tup3 (by assumption) ?_
  | refine ag_tup4 (by assumption) ?_)
local macro_rules | `(tactic| walk_at "e") => `(tactic| first
  | walk_at "n"
  | refine ae_int ?_
  | refine ae_str ?_
  | refine ae_sub' ?_
  | refine aa_cons ?_
  | refine aa_nil ?_
  | refine ae_add ?_
  | refine ae_sub ?_
  | refine ae_mul ?_
  | refine ae_mod ?_
  | refine ae_fdiv ?_
  | refine ae_tup ?_
  | refine ae_lst ?_
  | refine ae_slice ?_
  | refine ae_bl ?_
  | refine ae_non ?_
  | refine ae_len (by assumption) (by assumption) ?_
  | refine ae_abs (by assumption) (by assumption) ?_
  | refine ae_call (by assumption) (by assumption) ?_
  | refine addD_int ?_
  | (refine is_ii ?_; refine iiT trivial ?_)
  | refine szl_and rfl ?_
  | (refine is_sub ?_; first | refine subD_tup (ix0 rfl) ?_ | refine subD_tup (ix1 rfl) ?_ | refine subD_tup (ix2 rfl) ?_ | refine subD_tup (ix3 rfl) ?_))
local macro_rules | `(tactic| walk_at "h") => `(tactic| first
  | assumption
  | exact up_same
  | (refine up_new (by assumption) ?_; walk_at "h")
  | (refine up_old (by assumption) ?_; walk_at "h")
  | (refine up_old (Ne.symm (by assumption)) ?_; walk_at "h"))
local macro_rules | `(tactic| walk_at "f") => `(tactic| first
  | assumption
  | (apply free_up; walk_at "f"))
local macro_rules | `(tactic| walk_at "sub") => `(tactic| first
  | exact Sub.refl
  | (refine sub_both ?_; walk_at "sub")
  | (refine sub_new (by assumption) ?_; walk_at "sub"))
local macro_rules | `(tactic| walk_at "sx") => `(tactic| first
  | exact SubX.refl
  | (refine SubX.self ?_; walk_at "sx")
  | (refine SubX.new (by assumption) ?_; walk_at "sx"))
variable {X : Cx} {η : Eta} {Q0 : Dt → Eta → Prop}
def p__law_table : ASp := fun ds η Q => ∃ (L : List Fr) (mk : List Mk), ds = [fanD (inf :: L) mk] ∧ FrOk L ∧ FrB 64 L ∧ L.length ≤ 7 ∧ MkOk mk (L.length + 1) ∧ (L.length = 1 → Mk.third ∈ mk) ∧ ∀ T : Tab, Valid T → T.n ≤ 60 → Q (tabD T) η
theorem b__law_table (A : At X n__law_table (defScope s__law_table) 2) (B : Bt X) (hf : ∀ y, X.fn y = true) (f1 : FX X "_law_links" 2 1 (p__law_links X.w)) (f2 : FX X "_law_anew" 1 3 (p__law_anew X.w)) {ds : List Dt} (h : p__law_table ds η Q0) :
    ASs X (defBody s__law_table) (ds.map some ++ List.replicate 3 none) η (ends Q0) := by
  have V0 := v__law_table
  obtain ⟨L, mk, rfl, hL, hB, hl, hM, hT, h⟩ := h
  refine as_cons (as_asg ?_)
  repeat walk_at "e"
  refine ⟨rfl, L, mk, rfl, hL, hB, hl, hM, hT, fun u v x0 P s r U η' sb F S hx0 hU hUl => ?_⟩
  repeat walk_at "t"
  refine as_one (as_ret ?_)
  repeat walk_at "e"
  obtain ⟨M, hP, hl2⟩ := met_of S hx0 U hU
  exact ⟨rfl, LK, inferInstance, lkD, .ref u, .ref v, P, s, r, x0, U.length, rfl, lkD_inj, okd_lk, F, hx0, hl2, by omega, M.cl, η, sb, h _ (M.valid S hP) (by rw [tabOf_n]; omega)⟩
def p__law_drawn : ASp := fun ds η Q => ∃ (r : Addr) (n : Nat), ds = [.ref r] ∧ η r = some (.lst [nD n]) ∧ ∀ (T : Tab) (n' : Nat), Valid T → T.n ≤ 60 → Q (tabD T) (up η r (.lst [nD n']))
theorem b__law_drawn (A : At X n__law_drawn (defScope s__law_drawn) 3) (B : Bt X) (hf : ∀ y, X.fn y = true) (f1 : FX X "_law_table" 3 1 p__law_table) (f2 : FX X "_law_fan" 3 3 p__law_fan) (f3 : FX X "_law_anew" 1 3 (p__law_anew X.w)) (f4 : FX X "_law_digit" 1 2 p__law_digit) {ds : List Dt} (h : p__law_drawn ds η Q0) :
    ASs X (defBody s__law_drawn) (ds.map some ++ List.replicate 1 none) η (ends Q0) := by
  have V0 := v__law_drawn
  obtain ⟨r, n, rfl, hr, h⟩ := h
  refine as_cons ?_
  walk_at "set"
  repeat walk_at "e"
  refine ⟨rfl, r, n, rfl, hr, fun L mk n2 hL hB hl hM hT => ?_⟩
  repeat walk_at "e"
  refine ⟨rfl, L, mk, rfl, hL, hB, hl, hM, hT, fun T V hn => ?_⟩
  refine as_one (as_ret ?_)
  repeat walk_at "e"
  have hTl : (T.hs.map nD).length = T.n := by rw [List.length_map]; rfl
  refine len_t (by rw [hTl]; omega) ?_
  repeat walk_at "e"
  refine ⟨rfl, r, n2, T.n, by rw [hTl]; rfl, up_same, V.pos, by omega, fun p n3 hp => ?_⟩
  rw [up_up]
  repeat walk_at "e"
  obtain ⟨M, ml, hlt, V', hn'⟩ := anew_met V hp
  exact ⟨rfl, Nat, inferInstance, nD, .tup (T.hs.map nD), .tup (T.ts.map nD), fun x => x < T.n, T.s, T.r, p, T.n, rfl, fun x y => nD_inj, okd_nD 8,
    ⟨leads_tup (Nat.le_refl _), leads_tup (by rw [V.len]; exact Nat.le_refl _), fun x hx => vs_lt V hx, fun x hx => vr_lt V hx⟩, hp, by rw [ml]; exact Nat.le_refl _, by omega, M.cl, _, Sub.refl, h _ n3 V' (by have e : (tabOf T.s T.r (bfs T.s T.r T.n [p] 0)).n = T.n := hn'; omega)⟩
/-! ### numbers -/
theorem small_mul {i j : Int} {k : Nat} (h : i.natAbs ≤ k) (hk : k < 2 ^ 64) : MulOk i j := mul_small (by omega)
def negD (l : List Int) : List Dt := l.map fun x => .int (0 - x)
theorem neg_mat (M : Mat) : Dt.tup (negD [M.a, M.b, M.c, M.d]) = matD M.neg := by
  unfold negD matD Mat.neg
  simp
theorem norm_neg {M : Mat} (h : M.c < 0 ∨ (M.c = 0 ∧ M.d < 0)) : M.norm = M.neg := if_pos h
theorem norm_same {M : Mat} (h : ¬ (M.c < 0 ∨ (M.c = 0 ∧ M.d < 0))) : M.norm = M := if_neg h
def p__law_times : ASp := fun ds η Q => ∃ (M N : Mat) (k : Nat), ds = [matD M, matD N] ∧ Small k M ∧ k < 2 ^ 64 ∧ Q (matD (nmul M N)) η
set_option maxHeartbeats 4000000 in
theorem b__law_times (A : At X n__law_times (defScope s__law_times) 0) (B : Bt X) (hf : ∀ y, X.fn y = true) {ds : List Dt} (h : p__law_times ds η Q0) :
    ASs X (defBody s__law_times) (ds.map some ++ List.replicate 10 none) η (ends Q0) := by
  have V0 := v__law_times
  obtain ⟨M, N, k, rfl, ⟨ha, hb, hc, hd⟩, h64, h⟩ := h
  refine as_cons (as_asg ?_)
  repeat walk_at "e"
  repeat walk_at "t"
  refine as_cons (as_asg ?_)
  repeat walk_at "e"
  repeat walk_at "t"
  refine as_cons ?_
  walk_at "set"
  repeat (first | walk_at "e" | refine iiT (small_mul ha h64) ?_ | refine iiT (small_mul hb h64) ?_ | refine iiT (small_mul hc h64) ?_ | refine iiT (small_mul hd h64) ?_)
  have e : Dt.tup [.int (M.a * N.a + M.b * N.c), .int (M.a * N.b + M.b * N.d), .int (M.c * N.a + M.d * N.c), .int (M.c * N.b + M.d * N.d)] = matD (M.mul N) := rfl
  rw [e]
  unfold nmul at h
  generalize M.mul N = W at h
  refine as_cons (as_ifJ (fun ρ1 η1 => ρ1 = [some (matD M), some (matD N), some (.int M.a), some (.int M.b), some (.int M.c), some (.int M.d), some (.int N.a), some (.int N.b), some (.int N.c), some (.int N.d), some (matD W), none] ∧ η1 = η ∧ W.norm = W) (at_bool (aw_or (at_lt ?_))) ?_)
  · repeat walk_at "e"
    have neg : (W.c < 0 ∨ (W.c = 0 ∧ W.d < 0)) → ∀ (D : Addr) (acc : List Dt), η D = none → acc.length = 4 → (∀ (j : Nat) (e : Dt), acc[j]? = some e → ∃ x, [W.a, W.b, W.c, W.d][j]? = some x ∧ e = .int (0 - x)) → acc = negD [W.a, W.b, W.c, W.d] :=
      fun _ D acc _ hl hF => acc_eq (l := [W.a, W.b, W.c, W.d]) hl hF
    refine ⟨_, _, rfl, rfl, fun z => ?_, fun z => ?_⟩
    · refine as_one (as_ret (ae_tuple A B (ae_lc1 A (ai_tup ?_))))
      repeat walk_at "e"
      refine ⟨_, rfl, (show 4 ≤ 100000 by decide), fun _ _ _ _ => trivial, trivial, fun j e => ∃ x, [W.a, W.b, W.c, W.d][j]? = some x ∧ e = .int (0 - x), ?_, ?_⟩
      · intro j d D acc X' hj hd hD hla A' b
        have hx : ∃ x, [W.a, W.b, W.c, W.d][j]? = some x ∧ d = .int x := by
          match j, hj with
          | 0, _ => exact ⟨_, rfl, by cases hd; rfl⟩
          | 1, _ => exact ⟨_, rfl, by cases hd; rfl⟩
          | 2, _ => exact ⟨_, rfl, by cases hd; rfl⟩
          | 3, _ => exact ⟨_, rfl, by cases hd; rfl⟩
        obtain ⟨x, hx, rfl⟩ := hx
        repeat walk_at "e"
        exact ⟨Sub.refl, x, hx, rfl⟩
      · intro D acc hD hla hF
        have hacc := neg (.inl z) D acc hD hla hF
        subst hacc
        refine ⟨_, items_l up_same, ?_⟩
        rw [neg_mat, ← norm_neg (.inl z)]
        exact ⟨η, Sub.up hD, h⟩
    · refine aw_or1 (at_bool (aw_and (at_eq A ?_)))
      repeat walk_at "e"
      refine ⟨cmpr_of rfl rfl, fun y => ?_, fun y => ?_⟩
      · have y' : W.c = 0 := Dt.int.inj y
        refine aw_and1 (at_lt ?_)
        repeat walk_at "e"
        refine ⟨_, _, rfl, rfl, fun x => ?_, fun x => ?_⟩
        · refine as_one (as_ret (ae_tuple A B (ae_lc1 A (ai_tup ?_))))
          repeat walk_at "e"
          refine ⟨_, rfl, (show 4 ≤ 100000 by decide), fun _ _ _ _ => trivial, trivial, fun j e => ∃ x, [W.a, W.b, W.c, W.d][j]? = some x ∧ e = .int (0 - x), ?_, ?_⟩
          · intro j d D acc X' hj hd hD hla A' b
            have hx : ∃ x, [W.a, W.b, W.c, W.d][j]? = some x ∧ d = .int x := by
              match j, hj with
              | 0, _ => exact ⟨_, rfl, by cases hd; rfl⟩
              | 1, _ => exact ⟨_, rfl, by cases hd; rfl⟩
              | 2, _ => exact ⟨_, rfl, by cases hd; rfl⟩
              | 3, _ => exact ⟨_, rfl, by cases hd; rfl⟩
            obtain ⟨x, hx, rfl⟩ := hx
            repeat walk_at "e"
            exact ⟨Sub.refl, x, hx, rfl⟩
          · intro D acc hD hla hF
            have hacc := neg (.inr ⟨y', x⟩) D acc hD hla hF
            subst hacc
            refine ⟨_, items_l up_same, ?_⟩
            rw [neg_mat, ← norm_neg (.inr ⟨y', x⟩)]
            exact ⟨η, Sub.up hD, h⟩
        · exact as_nil ⟨rfl, rfl, norm_same fun q => q.elim z fun q => x q.2⟩
      · exact as_nil ⟨rfl, rfl, norm_same fun q => q.elim z fun q => y (by rw [q.1])⟩
  · rintro ρ1 η1 ⟨rfl, rfl, hn⟩
    refine as_one (as_ret ?_)
    repeat walk_at "e"
    rw [hn] at h
    exact ⟨_, Sub.refl, h⟩
end FgA
namespace FgA
open PySem PySem.Spec PyProof.Rows L2 Fg
local macro_rules | `(tactic| walk_at "n") => `(tactic| (refine is_name ?_; first
  | refine ae_nameV (by assumption) (by assumption) rfl rfl ?_
  | refine ae_glob (by assumption) (by assumption) ?_
  | refine ae_nameB (by assumption) rfl ?_))
local macro_rules | `(tactic| walk_at "set") => `(tactic| (refine is_set ?_; refine as_setV (by assumption) (by assumption) (by assumption) rfl ?_))
local macro_rules | `(tactic| walk_at "t") => `(tactic| first
  | (refine is_tgt ?_; refine ag_nameV (by assumption) (by assumption) (by assumption) rfl ?_)
  | refine ag_tup2 (by assumption) ?_
  | refine ag_tup3 (by assumption) ?_
  | refine ag_tup4 (by assumption) ?_)
local macro_rules | `(tactic| walk_at "e") => `(tactic| first
  | walk_at "n"
  | refine ae_int ?_
  | refine ae_str ?_
  | refine ae_sub' ?_
  | refine aa_cons ?_
  | refine aa_nil ?_
  | refine ae_add ?_
  | refine ae_sub ?_
  | refine ae_mul ?_
  | refine ae_mod ?_
  | refine ae_fdiv ?_
  | refine ae_tup ?_
  | refine ae_lst ?_
  | refine ae_slice ?_
  | refine ae_bl ?_
  | refine ae_non ?_
  | refine ae_len (by assumption) (by assumption) ?_
  | refine ae_abs (by assumption) (by assumption) ?_
  | refine ae_call (by assumption) (by assumption) ?_
  | refine addD_int ?_
  | (refine is_ii ?_; refine iiT trivial ?_)
  | refine szl_and rfl ?_
  | (refine is_sub ?_; first | refine subD_tup (ix0 rfl) ?_ | refine subD_tup (ix1 rfl) ?_ | refine subD_tup (ix2 rfl) ?_ | refine subD_tup (ix3 rfl) ?_))
local macro_rules | `(tactic| walk_at "h") => `(tactic| first
  | assumption
  | exact up_same
  | (refine up_new (by assumption) ?_; walk_at "h")
  | (refine up_old (by assumption) ?_; walk_at "h")
  | (refine up_old (Ne.symm (by assumption)) ?_; walk_at "h"))
local macro_rules | `(tactic| walk_at "f") => `(tactic| first
  | assumption
  | (apply free_up; walk_at "f"))
local macro_rules | `(tactic| walk_at "sub") => `(tactic| first
  | exact Sub.refl
  | (refine sub_both ?_; walk_at "sub")
  | (refine sub_new (by assumption) ?_; walk_at "sub"))
local macro_rules | `(tactic| walk_at "sx") => `(tactic| first
  | exact SubX.refl
  | (refine SubX.self ?_; walk_at "sx")
  | (refine SubX.new (by assumption) ?_; walk_at "sx"))
variable {X : Cx} {η : Eta} {Q0 : Dt → Eta → Prop}
theorem ninv_neg {M : Mat} (h : 0 < M.c ∨ (M.c = 0 ∧ M.a < 0)) : matD (ninv M) = .tup [.int (0 - M.d), .int M.b, .int M.c, .int (0 - M.a)] := by
  unfold ninv
  rw [norm_neg (by show -M.c < 0 ∨ (-M.c = 0 ∧ M.a < 0); omega)]
  unfold matD Mat.neg Mat.inv
  simp
theorem ninv_same {M : Mat} (h : ¬ (0 < M.c ∨ (M.c = 0 ∧ M.a < 0))) : matD (ninv M) = .tup [.int M.d, .int (0 - M.b), .int (0 - M.c), .int M.a] := by
  unfold ninv
  rw [norm_same (by show ¬ (-M.c < 0 ∨ (-M.c = 0 ∧ M.a < 0)); omega)]
  unfold matD Mat.inv
  simp
def p__law_contrary : ASp := fun ds η Q => ∃ M : Mat, ds = [matD M] ∧ Q (matD (ninv M)) η
theorem b__law_contrary (A : At X n__law_contrary (defScope s__law_contrary) 0) (B : Bt X) (hf : ∀ y, X.fn y = true) {ds : List Dt} (h : p__law_contrary ds η Q0) :
    ASs X (defBody s__law_contrary) (ds.map some ++ List.replicate 4 none) η (ends Q0) := by
  have V0 := v__law_contrary
  obtain ⟨M, rfl, h⟩ := h
  refine as_cons (as_asg ?_)
  repeat walk_at "e"
  repeat walk_at "t"
  refine as_cons (as_if (at_bool (aw_or (at_gt ?_))))
  repeat walk_at "e"
  refine ⟨_, _, rfl, rfl, fun z => ?_, fun z => ?_⟩
  · refine as_one (as_ret ?_)
    repeat walk_at "e"
    rw [ninv_neg (.inl z)] at h
    exact ⟨_, Sub.refl, h⟩
  · refine aw_or1 (at_bool (aw_and (at_eq A ?_)))
    repeat walk_at "e"
    refine ⟨cmpr_of rfl rfl, fun y => ?_, fun y => ?_⟩
    · have y' : M.c = 0 := Dt.int.inj y
      refine aw_and1 (at_lt ?_)
      repeat walk_at "e"
      refine ⟨_, _, rfl, rfl, fun x => ?_, fun x => ?_⟩
      · refine as_one (as_ret ?_)
        repeat walk_at "e"
        rw [ninv_neg (.inr ⟨y', x⟩)] at h
        exact ⟨_, Sub.refl, h⟩
      · refine as_nil (as_one (as_ret ?_))
        repeat walk_at "e"
        rw [ninv_same fun q => q.elim z fun q => x q.2] at h
        exact ⟨_, Sub.refl, h⟩
    · refine as_nil (as_one (as_ret ?_))
      repeat walk_at "e"
      rw [ninv_same fun q => q.elim z fun q => y (by rw [q.1])] at h
      exact ⟨_, Sub.refl, h⟩
def FrS (k : Nat) (u : Fr) : Prop := u.1.natAbs ≤ k ∧ u.2.natAbs ≤ k
def p__law_between : ASp := fun ds η Q => ∃ (u v : Fr) (k : Nat), ds = [frD u, frD v] ∧ FrS k u ∧ FrS k v ∧ k < 2 ^ 64 ∧ Q (matD (betw u v)) η
set_option maxHeartbeats 4000000 in
theorem b__law_between (A : At X n__law_between (defScope s__law_between) 0) (B : Bt X) (hf : ∀ y, X.fn y = true) {ds : List Dt} (h : p__law_between ds η Q0) :
    ASs X (defBody s__law_between) (ds.map some ++ List.replicate 3 none) η (ends Q0) := by
  have V0 := v__law_between
  obtain ⟨u, v, k, rfl, ⟨hu1, hu2⟩, ⟨hv1, hv2⟩, h64, h⟩ := h
  refine as_cons ?_
  walk_at "set"
  repeat (first | walk_at "e" | refine iiT (small_mul hu1 h64) ?_ | refine iiT (small_mul hu2 h64) ?_)
  rw [show u.1 * v.2 - u.2 * v.1 = cross u v from rfl]
  refine as_cons ?_
  walk_at "set"
  repeat (first | walk_at "e" | refine iiT (mul_small' (i := cross u v) (j := v.1) (by omega)) ?_ | refine iiT (mul_small' (i := cross u v) (j := v.2) (by omega)) ?_)
  have e : Dt.tup [.int u.1, .int (cross u v * v.1), .int u.2, .int (cross u v * v.2)] = matD ⟨u.1, cross u v * v.1, u.2, cross u v * v.2⟩ := rfl
  rw [e]
  unfold betw at h
  generalize (⟨u.1, cross u v * v.1, u.2, cross u v * v.2⟩ : Mat) = W at h
  have neg : ∀ (D : Addr) (acc : List Dt), acc.length = 4 → (∀ (j : Nat) (e : Dt), acc[j]? = some e → ∃ x, [W.a, W.b, W.c, W.d][j]? = some x ∧ e = .int (0 - x)) → acc = negD [W.a, W.b, W.c, W.d] :=
    fun D acc hl hF => acc_eq (l := [W.a, W.b, W.c, W.d]) hl hF
  refine as_cons (as_ifJ (fun ρ1 η1 => ρ1 = [some (frD u), some (frD v), some (.int (cross u v)), some (matD W), none] ∧ η1 = η ∧ W.norm = W) (at_bool (aw_or (at_lt ?_))) ?_)
  · repeat walk_at "e"
    refine ⟨_, _, rfl, rfl, fun z => ?_, fun z => ?_⟩
    · refine as_one (as_ret (ae_tuple A B (ae_lc1 A (ai_tup ?_))))
      repeat walk_at "e"
      refine ⟨_, rfl, (show 4 ≤ 100000 by decide), fun _ _ _ _ => trivial, trivial, fun j e => ∃ x, [W.a, W.b, W.c, W.d][j]? = some x ∧ e = .int (0 - x), ?_, ?_⟩
      · intro j d D acc X' hj hd hD hla A' b
        have hx : ∃ x, [W.a, W.b, W.c, W.d][j]? = some x ∧ d = .int x := by
          match j, hj with
          | 0, _ => exact ⟨_, rfl, by cases hd; rfl⟩
          | 1, _ => exact ⟨_, rfl, by cases hd; rfl⟩
          | 2, _ => exact ⟨_, rfl, by cases hd; rfl⟩
          | 3, _ => exact ⟨_, rfl, by cases hd; rfl⟩
        obtain ⟨x, hx, rfl⟩ := hx
        repeat walk_at "e"
        exact ⟨Sub.refl, x, hx, rfl⟩
      · intro D acc hD hla hF
        have hacc := neg D acc hla hF
        subst hacc
        refine ⟨_, items_l up_same, ?_⟩
        rw [neg_mat, ← norm_neg (.inl z)]
        exact ⟨η, Sub.up hD, h⟩
    · refine aw_or1 (at_bool (aw_and (at_eq A ?_)))
      repeat walk_at "e"
      refine ⟨cmpr_of rfl rfl, fun y => ?_, fun y => ?_⟩
      · have y' : W.c = 0 := Dt.int.inj y
        refine aw_and1 (at_lt ?_)
        repeat walk_at "e"
        refine ⟨_, _, rfl, rfl, fun x => ?_, fun x => ?_⟩
        · refine as_one (as_ret (ae_tuple A B (ae_lc1 A (ai_tup ?_))))
          repeat walk_at "e"
          refine ⟨_, rfl, (show 4 ≤ 100000 by decide), fun _ _ _ _ => trivial, trivial, fun j e => ∃ x, [W.a, W.b, W.c, W.d][j]? = some x ∧ e = .int (0 - x), ?_, ?_⟩
          · intro j d D acc X' hj hd hD hla A' b
            have hx : ∃ x, [W.a, W.b, W.c, W.d][j]? = some x ∧ d = .int x := by
              match j, hj with
              | 0, _ => exact ⟨_, rfl, by cases hd; rfl⟩
              | 1, _ => exact ⟨_, rfl, by cases hd; rfl⟩
              | 2, _ => exact ⟨_, rfl, by cases hd; rfl⟩
              | 3, _ => exact ⟨_, rfl, by cases hd; rfl⟩
            obtain ⟨x, hx, rfl⟩ := hx
            repeat walk_at "e"
            exact ⟨Sub.refl, x, hx, rfl⟩
          · intro D acc hD hla hF
            have hacc := neg D acc hla hF
            subst hacc
            refine ⟨_, items_l up_same, ?_⟩
            rw [neg_mat, ← norm_neg (.inr ⟨y', x⟩)]
            exact ⟨η, Sub.up hD, h⟩
        · exact as_nil ⟨rfl, rfl, norm_same fun q => q.elim z fun q => x q.2⟩
      · exact as_nil ⟨rfl, rfl, norm_same fun q => q.elim z fun q => y (by rw [q.1])⟩
  · rintro ρ1 η1 ⟨rfl, rfl, hn⟩
    refine as_one (as_ret ?_)
    repeat walk_at "e"
    rw [hn] at h
    exact ⟨_, Sub.refl, h⟩
/-! ### words -/
theorem letter_at (c : L) : lkA (mergeA [] [((Sum.inr (Str.ofString "s") : Key), Dt.tup [.int 0, .int (-1), .int 1, .int 0]), (Sum.inr (Str.ofString "r"), Dt.tup [.int 0, .int (-1), .int 1, .int (-1)]), (Sum.inr (Str.ofString "q"), Dt.tup [.int 1, .int (-1), .int 1, .int 0])]) (Sum.inr (ltS c)) = some (matD (lm c)) := by
  cases c <;> rfl
theorem nmul_step (u : Wd) (c : L) : nmul (ev u).norm (lm c) = (ev (u ++ [c])).norm := by
  have e1 : ev (u ++ [c]) = (ev u).mul (lm c) := by
    rw [ev_append]
    show (ev u).mul ((lm c).mul Mat.one) = _
    rw [Mat.mul_one]
  have d1 : (ev u).norm.det = 1 := by rw [(norm_eqv _).det]; exact ev_det u
  have d2 : (lm c).det = 1 := by cases c <;> rfl
  refine nrm_eq (norm_nrm _ (by rw [Mat.det_mul, d1, d2]; rfl)) (norm_nrm _ (ev_det _)) ?_
  rw [e1]
  exact (nmul_eqv (norm_eqv _) (Eqv.refl _)).trans (norm_eqv _).symm
def p__law_turning : ASp := fun ds η Q => ∃ w : Wd, ds = [.str (wS w)] ∧ w.length ≤ 60 ∧ Q (matD (ev w).norm) η
theorem b__law_turning (A : At X n__law_turning (defScope s__law_turning) 1) (B : Bt X) (hf : ∀ y, X.fn y = true) (f1 : FX X "_law_times" 1 2 p__law_times) {ds : List Dt} (h : p__law_turning ds η Q0) :
    ASs X (defBody s__law_turning) (ds.map some ++ List.replicate 2 none) η (ends Q0) := by
  have V0 := v__law_turning
  obtain ⟨w, rfl, hw, h⟩ := h
  refine as_cons ?_
  walk_at "set"
  repeat walk_at "e"
  refine as_cons (as_for A (ai_str ?_))
  repeat walk_at "e"
  refine ⟨wS w, rfl, fun i ρ η' => Sub η η' ∧ ∃ x, ρ = [some (.str (wS w)), some (matD (ev (w.take i)).norm), x], ?_, ?_, ?_, ?_⟩
  · exact ⟨Sub.refl, none, rfl⟩
  · intros; trivial
  · rintro i d ρ η' hi ⟨c, hc, rfl⟩ ⟨sb, x, rfl⟩
    have hi' : i < w.length := by rw [← wS_length w]; exact hi
    have hcc : c = chL w[i] := by
      unfold wS at hc
      simp [hi'] at hc
      exact hc.symm
    subst hcc
    walk_at "t"
    refine as_one ?_
    walk_at "set"
    refine ae_call A f1 (aa_cons ?_)
    walk_at "n"
    refine aa_cons (ae_dget A (ae_dispD3 fun p hp => ?_))
    repeat (first | walk_at "e" | (refine ae_neg ?_; walk_at "e"; refine ⟨_, rfl, ?_⟩))
    refine ⟨_, _, _, rfl, rfl, rfl, up_same, ?_⟩
    rw [up_up]
    repeat walk_at "e"
    refine ⟨p, _, .inr (ltS w[i]), matD (lm w[i]), rfl, up_same, rfl, letter_at _, ?_⟩
    repeat walk_at "e"
    have hs : Small (2 ^ 60) (ev (w.take i)).norm := ((small_word (w.take i)).eqv (norm_eqv _).symm).le (Nat.pow_le_pow_right (by decide) (by rw [List.length_take]; omega))
    refine ⟨rfl, _, _, _, rfl, hs, by decide, ?_⟩
    rw [nmul_step, List.take_append_getElem hi']
    exact ⟨sb.trans (Sub.up hp), _, rfl⟩
  · rintro ρ η' ⟨sb, x, rfl⟩
    refine as_one (as_ret ?_)
    repeat walk_at "e"
    have hw2 : w.take (wS w).cps.size = w := List.take_of_length_le (by rw [show (wS w).cps.size = w.length from wS_length w]; exact Nat.le_refl _)
    rw [hw2]
    exact ⟨_, sb, h⟩
theorem wS_snoc (w : Wd) (x : L) : wS w ++ ltS x = wS (w ++ [x]) := by
  unfold wS ltS
  show (⟨_⟩ : Str) = ⟨_⟩
  congr 1
  simp
def p__law_word : ASp := fun ds η Q => ∃ (r : Addr) (n : Nat), ds = [.ref r, .int 30] ∧ η r = some (.lst [nD n]) ∧ ∀ (w : Wd) (n' : Nat), w.length ≤ 30 → Q (.str (wS w)) (up η r (.lst [nD n']))
theorem b__law_word (A : At X n__law_word (defScope s__law_word) 1) (B : Bt X) (hf : ∀ y, X.fn y = true) (f1 : FX X "_law_digit" 1 2 p__law_digit) {ds : List Dt} (h : p__law_word ds η Q0) :
    ASs X (defBody s__law_word) (ds.map some ++ List.replicate 3 none) η (ends Q0) := by
  have V0 := v__law_word
  obtain ⟨r, n, rfl, hr, h⟩ := h
  refine as_cons ?_
  walk_at "set"
  repeat walk_at "e"
  refine as_cons ?_
  walk_at "set"
  repeat walk_at "e"
  refine ⟨rfl, r, n, 2, rfl, hr, by decide, by decide, fun f n2 hf2 => ?_⟩
  refine as_cons (as_for A (ai_range1 A B ?_))
  repeat walk_at "e"
  refine ⟨rfl, r, n2, 31, rfl, up_same, by decide, by decide, fun m n3 hm => ?_⟩
  rw [up_up]
  refine ⟨_, rfl, by omega, by omega, fun i ρ η' => ∃ (w : Wd) (n' : Nat) (x : Option Dt), ρ = [some (.ref r), some (.int 30), some (.str (wS w)), some (nD f), x] ∧ w.length = i ∧ η' = up η r (.lst [nD n']), ?_, ?_, ?_, ?_⟩
  · exact ⟨[], n3, none, rfl, rfl, rfl⟩
  · intros; trivial
  · rintro i d ρ η' hi rfl ⟨w, n', x, rfl, hwl, rfl⟩
    have hi' : i < m := by simpa using hi
    have hwl2 : (wS w).length ≤ 100 := by rw [wS_length]; omega
    walk_at "t"
    refine as_one (as_if (at_eq A ?_))
    repeat walk_at "e"
    refine iiT (by decide) ?_
    repeat walk_at "e"
    refine ⟨cmpr_of rfl rfl, fun z => ?_, fun z => ?_⟩
    · refine as_one ?_
      walk_at "set"
      repeat walk_at "e"
      refine addD_str (szl (Nat.ble_eq.mpr (by have : (Str.ofString "s").length = 1 := rfl; omega))) ?_
      exact ⟨w ++ [.s], n', _, by rw [s_s, wS_snoc]; rfl, by simp [hwl], rfl⟩
    · refine as_one ?_
      walk_at "set"
      repeat walk_at "e"
      refine ⟨rfl, r, n', 2, rfl, up_same, by decide, by decide, fun d n4 hd => ?_⟩
      rw [up_up]
      obtain ⟨c, hc⟩ : ∃ c : L, atI (Str.ofString "rq").cps.toList (d : Int) = some (chL c) := by
        match d, hd with
        | 0, _ => exact ⟨.r, rfl⟩
        | 1, _ => exact ⟨.q, rfl⟩
      refine subD_str (szl (Nat.ble_eq.mpr (by have : (Str.ofString "rq").length = 2 := rfl; omega))) hc ?_
      refine addD_str (szl (Nat.ble_eq.mpr (by have : (⟨#[chL c]⟩ : Str).length = 1 := rfl; omega))) ?_
      exact ⟨w ++ [c], n4, _, by rw [show (⟨#[chL c]⟩ : Str) = ltS c from rfl, wS_snoc]; rfl, by simp [hwl], rfl⟩
  · rintro ρ η' ⟨w, n', x, rfl, hwl, rfl⟩
    refine as_one (as_ret ?_)
    repeat walk_at "e"
    exact ⟨_, Sub.refl, h w n' (by simp at hwl; omega)⟩
end FgA
namespace FgA
open PySem PySem.Spec PyProof.Rows L2 Fg
local macro_rules | `(tactic| walk_at "n") => `(tactic| (refine is_name ?_; first
  | refine ae_nameV (by assumption) (by assumption) rfl rfl ?_
  | refine ae_glob (by assumption) (by assumption) ?_
  | refine ae_nameB (by assumption) rfl ?_))
local macro_rules | `(tactic| walk_at "set") => `(tactic| (refine is_set ?_; refine as_setV (by assumption) (by assumption) (by assumption) rfl ?_))
local macro_rules | `(tactic| walk_at "t") => `(tactic| first
  | (refine is_tgt ?_; refine ag_nameV (by assumption) (by assumption) (by assumption) rfl ?_)
  | refine ag_tup2 (by assumption) ?_
  | refine ag_tup3 (by assumption) ?_
  | refine ag_tup4 (by assumption) ?_)
local macro_rules | `(tactic| walk_at "e") => `(tactic| first
  | walk_at "n"
  | refine ae_int ?_
  | refine ae_str ?_
  | refine ae_sub' ?_
  | refine aa_cons ?_
  | refine aa_nil ?_
  | refine ae_add ?_
  | refine ae_sub ?_
  | refine ae_mul ?_
  | refine ae_mod ?_
  | refine ae_fdiv ?_
  | refine ae_tup ?_
  | refine ae_lst ?_
  | refine ae_slice ?_
  | refine ae_bl ?_
  | refine ae_non ?_
  | refine ae_len (by assumption) (by assumption) ?_
  | refine ae_abs (by assumption) (by assumption) ?_
  | refine ae_call (by assumption) (by assumption) ?_
  | refine addD_int ?_
  | (refine is_ii ?_; refine iiT trivial ?_)
  | refine szl_and rfl ?_
  | (refine is_sub ?_; first | refine subD_tup (ix0 rfl) ?_ | refine subD_tup (ix1 rfl) ?_ | refine subD_tup (ix2 rfl) ?_ | refine subD_tup (ix3 rfl) ?_))
local macro_rules | `(tactic| walk_at "h") => `(tactic| first
  | assumption
  | exact up_same
  | (refine up_new (by assumption) ?_; walk_at "h")
  | (refine up_old (by assumption) ?_; walk_at "h")
  | (refine up_old (Ne.symm (by assumption)) ?_; walk_at "h"))
local macro_rules | `(tactic| walk_at "f") => `(tactic| first
  | assumption
  | (apply free_up; walk_at "f"))
local macro_rules | `(tactic| walk_at "sub") => `(tactic| first
  | exact Sub.refl
  | (refine sub_both ?_; walk_at "sub")
  | (refine sub_new (by assumption) ?_; walk_at "sub"))
local macro_rules | `(tactic| walk_at "sx") => `(tactic| first
  | exact SubX.refl
  | (refine SubX.self ?_; walk_at "sx")
  | (refine SubX.new (by assumption) ?_; walk_at "sx"))
variable {X : Cx} {η : Eta} {Q0 : Dt → Eta → Prop}
theorem fr_small {k : Nat} {u v : Fr} (h : Small k (betw u v)) : FrS k u := by
  obtain ⟨a, _, c, _⟩ := (betw_eqv u v).abs
  obtain ⟨h1, _, h3, _⟩ := h
  exact ⟨by simp only at a; omega, by simp only at c; omega⟩
theorem small_s {k : Nat} {M : Mat} (h : Small k M) : Small (2 * k) (nmul M (lm .s)) := by
  refine Small.eqv ?_ (nmul_eqv (Eqv.refl M) (Eqv.refl _)).symm
  obtain ⟨h1, h2, h3, h4⟩ := h
  unfold Small Mat.mul lm
  simp only
  omega
theorem small_srs {k : Nat} {M : Mat} (h : Small k M) : Small (2 * k) (nmul M srsM) := by
  refine Small.eqv ?_ (nmul_eqv (Eqv.refl M) (Eqv.refl _)).symm
  obtain ⟨h1, h2, h3, h4⟩ := h
  unfold Small Mat.mul srsM
  simp only
  omega
theorem srs_turn : (ev [.s, .r, .s]).norm = srsM := by decide
def p__law_glue : ASp := fun ds η Q => ∃ (fr : List Fr) (mk : List Mk) (i : Nat), ds = [fanD fr mk, nD i] ∧ mk.length = fr.length ∧ fr.length ≤ 22 ∧ i < fr.length ∧ (∀ j, j < fr.length → Small (2 ^ 41) (gapM fr j)) ∧ (∀ i j, mk.getD i .half = .pair j → j < fr.length) ∧ Q (matD (glueM fr mk i)) η
set_option maxHeartbeats 4000000 in
theorem b__law_glue (A : At X n__law_glue (defScope s__law_glue) 2) (B : Bt X) (hf : ∀ y, X.fn y = true) (f1 : FX X "_law_gaps" 1 1 p__law_gaps) (f2 : FX X "_law_between" 1 2 p__law_between) (f3 : FX X "_law_times" 1 2 p__law_times) (f4 : FX X "_law_contrary" 1 1 p__law_contrary) (f5 : FX X "_law_turning" 2 1 p__law_turning)
    {ds : List Dt} (h : p__law_glue ds η Q0) : ASs X (defBody s__law_glue) (ds.map some ++ List.replicate 4 none) η (ends Q0) := by
  have V0 := v__law_glue
  obtain ⟨fr, mk, i, rfl, hm, hl, hi, hS, hpr, h⟩ := h
  have hfs : ∀ j, j < fr.length → FrS (2 ^ 41) (frAt fr j) := fun j hj => fr_small (hS j hj)
  have h64 : 2 ^ 41 < 2 ^ 64 := by decide
  have gat : ∀ j, j < fr.length → ((gapF fr).map sdD)[j]? = some (sdD (frAt fr j, frAt fr ((j + 1) % fr.length))) := fun j hj => by rw [List.getElem?_map, gapF_at hj]; rfl
  have hmi : (mk.map mkD)[i]? = some (mkD mk[i]) := by rw [List.getElem?_map, List.getElem?_eq_getElem (by omega)]; rfl
  have hget : mk.getD i .half = mk[i] := by rw [List.getD_eq_getElem?_getD, List.getElem?_eq_getElem (by omega)]; rfl
  refine as_cons ?_
  walk_at "set"
  repeat walk_at "e"
  refine ⟨rfl, fr, rfl, by omega, fun q hq => ?_⟩
  refine as_cons ?_
  walk_at "set"
  repeat walk_at "e"
  refine subD_lst up_same (atN (gat i hi)) ?_
  repeat walk_at "e"
  refine subD_lst up_same (atN (gat i hi)) ?_
  repeat walk_at "e"
  refine ⟨rfl, _, _, 2 ^ 41, rfl, hfs i hi, hfs _ (Nat.mod_lt _ (by omega)), h64, ?_⟩
  rw [show betw (frAt fr i) (frAt fr ((i + 1) % fr.length)) = gapM fr i from rfl]
  refine as_cons ?_
  walk_at "set"
  repeat walk_at "e"
  refine subD_tup (atN hmi) ?_
  unfold glueM at h
  rw [hget] at h
  refine as_cons (as_if (at_eq A ?_))
  repeat walk_at "e"
  refine ⟨cmpr_of (okd_mk _ _) (okd_mk 4 .half), fun z => ?_, fun z => ?_⟩
  · rw [mkD_half.mp z] at h
    refine as_one (as_ret ?_)
    repeat (first | walk_at "e" | (refine ae_neg ?_; walk_at "e"; refine ⟨_, rfl, ?_⟩))
    refine ⟨rfl, gapM fr i, lm .s, 2 ^ 41, rfl, hS i hi, h64, ?_⟩
    repeat walk_at "e"
    refine ⟨rfl, gapM fr i, rfl, ?_⟩
    repeat walk_at "e"
    exact ⟨rfl, _, _, 2 * 2 ^ 41, rfl, small_s (hS i hi), by decide, _, Sub.up hq, h⟩
  have z' : mk[i] ≠ .half := fun e => z (by rw [e]; rfl)
  refine as_nil ?_
  refine as_cons (as_if (at_eq A ?_))
  repeat walk_at "e"
  refine ⟨cmpr_of (okd_mk _ _) (okd_mk 4 .third), fun y => ?_, fun y => ?_⟩
  · rw [mkD_third.mp y] at h
    refine as_one (as_ret ?_)
    repeat walk_at "e"
    refine ⟨rfl, [.s, .r, .s], rfl, by decide, ?_⟩
    rw [srs_turn]
    repeat walk_at "e"
    refine ⟨rfl, gapM fr i, srsM, 2 ^ 41, rfl, hS i hi, h64, ?_⟩
    repeat walk_at "e"
    refine ⟨rfl, gapM fr i, rfl, ?_⟩
    repeat walk_at "e"
    exact ⟨rfl, _, _, 2 * 2 ^ 41, rfl, small_srs (hS i hi), by decide, _, Sub.up hq, h⟩
  have y' : mk[i] ≠ .third := fun e => y (by rw [e]; rfl)
  refine as_nil ?_
  obtain ⟨j, hj⟩ : ∃ j, mk[i] = .pair j := by
    cases hx : mk[i] with
    | half => exact absurd hx z'
    | third => exact absurd hx y'
    | pair j => exact ⟨j, rfl⟩
  have hjl := hpr i j (by rw [hget, hj])
  rw [hj] at h ⊢
  refine as_cons ?_
  walk_at "set"
  repeat walk_at "e"
  refine subD_lst up_same (atN (gat j hjl)) ?_
  repeat walk_at "e"
  refine subD_lst up_same (atN (gat j hjl)) ?_
  repeat walk_at "e"
  refine ⟨rfl, _, _, 2 ^ 41, rfl, hfs j hjl, hfs _ (Nat.mod_lt _ (by omega)), h64, ?_⟩
  rw [show betw (frAt fr j) (frAt fr ((j + 1) % fr.length)) = gapM fr j from rfl]
  refine as_one (as_ret ?_)
  repeat (first | walk_at "e" | (refine ae_neg ?_; walk_at "e"; refine ⟨_, rfl, ?_⟩))
  refine ⟨rfl, gapM fr j, lm .s, 2 ^ 41, rfl, hS j hjl, h64, ?_⟩
  repeat walk_at "e"
  refine ⟨rfl, gapM fr i, rfl, ?_⟩
  repeat walk_at "e"
  exact ⟨rfl, _, _, 2 * 2 ^ 41, rfl, small_s (hS j hjl), by decide, _, Sub.up hq, h⟩
/-! ### the gaps whose glues tell the group -/
theorem own_mk (mk : List Mk) {i : Nat} {m : Mk} (h : mk[i]? = some m) : isOwn mk i = true ↔ (m = .half ∨ m = .third ∨ ∃ j, m = .pair j ∧ i < j) := by
  unfold isOwn
  rw [List.getD_eq_getElem?_getD, h]
  cases m with
  | half => simp
  | third => simp
  | pair j => simp
def p__law_own : ASp := fun ds η Q => ∃ (fr : List Fr) (mk : List Mk), ds = [fanD fr mk] ∧ mk.length ≤ 100 ∧ ∀ q, η q = none → Q (.ref q) (up η q (.lst ((own mk).map nD)))
theorem b__law_own (A : At X n__law_own (defScope s__law_own) 0) (B : Bt X) (hf : ∀ y, X.fn y = true) {ds : List Dt} (h : p__law_own ds η Q0) :
    ASs X (defBody s__law_own) (ds.map some ++ List.replicate 2 none) η (ends Q0) := by
  have V0 := v__law_own
  obtain ⟨fr, mk, rfl, hl, h⟩ := h
  refine as_one (as_ret (ae_lcF2 A (ai_enumT A B ?_)))
  repeat walk_at "e"
  refine ⟨_, rfl, by rw [List.length_map]; omega, fun _ _ _ _ => trivial, trivial, fun m acc => acc = ((List.range m).filter (isOwn mk)).map nD, rfl, ?_, ?_⟩
  · rintro m d D acc hm ⟨y0, hy0, rfl⟩ hD rfl
    rw [List.getElem?_map] at hy0
    obtain ⟨mm, hmm, rfl⟩ := Option.map_eq_some_iff.mp hy0
    have hyes : isOwn mk m = true → ((List.range m).filter (isOwn mk)).map nD ++ [nD m] = ((List.range (m + 1)).filter (isOwn mk)).map nD := fun e => by
      rw [List.range_succ, List.filter_append, List.filter_cons, if_pos e, List.map_append]; rfl
    have hno : ¬ isOwn mk m = true → ((List.range m).filter (isOwn mk)).map nD = ((List.range (m + 1)).filter (isOwn mk)).map nD := fun e => by
      rw [List.range_succ, List.filter_append, List.filter_cons, if_neg e, List.map_append]; simp
    have ho := own_mk mk hmm
    refine ⟨_, _, rfl, fun X' A' b => at_bool (aw_or (at_inT ?_))⟩
    repeat walk_at "e"
    refine ⟨_, rfl, fun y hy => ?_, ?_, fun hin => ?_, fun hin => ?_⟩
    · simp only [List.mem_cons, List.not_mem_nil, or_false] at hy
      rcases hy with rfl | rfl <;> rfl
    · cases mm <;> rfl
    · refine ⟨Sub.refl, fun X2 A2 b2 => ?_⟩
      repeat walk_at "e"
      refine ⟨Sub.refl, hyes (ho.mpr ?_)⟩
      simp only [List.mem_cons, List.not_mem_nil, or_false] at hin
      rcases hin with e | e
      · exact .inl (mkD_half.mp e)
      · exact .inr (.inl (mkD_third.mp e))
    · obtain ⟨j, rfl⟩ : ∃ j, mm = .pair j := by
        cases mm with
        | half => exact absurd (List.mem_cons_self ..) hin
        | third => exact absurd (List.mem_cons_of_mem _ (List.mem_cons_self ..)) hin
        | pair j => exact ⟨j, rfl⟩
      refine aw_or1 (at_gt ?_)
      repeat walk_at "e"
      refine ⟨(j : Int), (m : Int), rfl, rfl, fun z => ?_, fun z => ?_⟩
      · refine ⟨Sub.refl, fun X2 A2 b2 => ?_⟩
        repeat walk_at "e"
        exact ⟨Sub.refl, hyes (ho.mpr (.inr (.inr ⟨j, rfl, by omega⟩)))⟩
      · refine ⟨Sub.refl, hno fun e => ?_⟩
        rcases ho.mp e with e | e | ⟨j', e, hj⟩
        · cases e
        · cases e
        · cases e; omega
  · rintro D acc hD rfl
    have e : own mk = (List.range (mk.map mkD).length).filter (isOwn mk) := by unfold own; rw [List.length_map]
    rw [← e]
    exact ⟨_, Sub.refl, h D hD⟩
def p__law_turnings : ASp := fun ds η Q => ∃ T : Tab, Valid T ∧ T.n ≤ 60 ∧ ds = [tabD T] ∧ ∀ (fr : List Fr) (mk : List Mk), FanOk T fr mk → ∀ q, η q = none → Q (.ref q) (up η q (.lst ((own mk).map fun i => matD (glueM fr mk i))))
theorem b__law_turnings (A : At X n__law_turnings (defScope s__law_turnings) 6) (B : Bt X) (hf : ∀ y, X.fn y = true) (f1 : FX X "fan_of" 6 1 p_fan_of) (f2 : FX X "_law_own" 1 1 p__law_own) (f3 : FX X "_law_glue" 3 2 p__law_glue) {ds : List Dt} (h : p__law_turnings ds η Q0) :
    ASs X (defBody s__law_turnings) (ds.map some ++ List.replicate 2 none) η (ends Q0) := by
  have V0 := v__law_turnings
  obtain ⟨T, V, hn, rfl, h⟩ := h
  refine as_cons ?_
  walk_at "set"
  repeat walk_at "e"
  refine ⟨rfl, T, V, hn, rfl, fun fr mk K => ?_⟩
  have hlo := K.lo
  have hhi := K.hi
  have hln := K.ln
  have hol : (own mk).length ≤ 22 := by
    unfold own
    refine Nat.le_trans (List.length_filter_le _ _) ?_
    simp; omega
  refine as_one (as_ret (ae_lc1 A (ai_list ?_)))
  repeat walk_at "e"
  refine ⟨rfl, fr, mk, rfl, by omega, fun u hu => ?_⟩
  refine ⟨u, _, rfl, up_same, by rw [List.length_map]; omega, fun η η' s e => s _ _ e, up_same, fun j e => ∃ i, (own mk)[j]? = some i ∧ e = matD (glueM fr mk i), ?_, ?_⟩
  · intro j d D acc X' hj hd hD hla A' b
    rw [List.getElem?_map] at hd
    obtain ⟨i, hi, rfl⟩ := Option.map_eq_some_iff.mp hd
    have him : i < mk.length := by
      have := List.mem_of_getElem? hi
      unfold own at this
      exact List.mem_range.mp (List.mem_filter.mp this).1
    have f3' := b.fa f3
    repeat walk_at "e"
    refine ⟨rfl, fr, mk, i, rfl, hln, hhi, by omega, fun j hj => ?_, K.mark, Sub.refl, i, hi, rfl⟩
    obtain ⟨w, hw, he⟩ := K.edge j hj
    exact ((small_word w).eqv he).le (Nat.pow_le_pow_right (by decide) hw)
  · intro D acc hD hla hF
    have hacc := acc_eq (l := own mk) (f := fun i => matD (glueM fr mk i)) (by rw [hla, List.length_map]) hF
    subst hacc
    exact ⟨up η D (.lst ((own mk).map fun i => matD (glueM fr mk i))), sub_both (Sub.up hu), h fr mk K D (free_up hD)⟩
end FgA
/-! FgB6: defs that may raise, told of data; raise, a call that may raise. -/
namespace FgA
open PySem PySem.Spec PyProof.Rows L2 Fg
variable {X : Cx} {K : PySem.W.Frag} {H H' : Hp} {ρ : Rho} {η : Eta} {Q : Dt → Eta → Prop} {E : AEnds} {N : List Str} {sc : Scope} {k : Nat} {T F : Eta → Prop} {QG : Rho → Eta → Prop}
/-- since the def was entered no tuple has gone -/
theorem kt_inv {pins : List (Addr × Obj)} {σ : L2.St} {s : Shared} (I : Inv X pins σ H s) : Kt X.K X.H_0 H := by
  intro a xs q
  rcases q with (q | ⟨o, q⟩) | q
  · exact .inl (.inl (I.base.tups _ _ q))
  · exact .inl (.inr ⟨o, I.base.frzs _ _ _ q⟩)
  · exact .inr q
/-- what may leave a def: a class, and what then stands -/
def XW (X : Cx) (R : Value → Eta → Prop) : WX := fun cls d _ H => d = none ∧ Kt X.K X.H_0 H ∧ ∃ η, HAb X.K H η ∧ R cls η
structure Ex (X : Cx) (R : Value → Eta → Prop) : Prop where
  tk : Takes X (XW X R)
abbrev ASpX := List Dt → Eta → (Dt → Eta → Prop) → (Value → Eta → Prop) → Prop
def LiftX (K : PySem.W.Frag) (n : Nat) (a : ASpX) : Sp := fun vs H Q E => vs.length = n ∧ ∃ ds η Q0 R0, Ims K H vs ds ∧ HAb K H η ∧ a ds η Q0 R0 ∧ (∀ d η' v H', Kt K H H' → Im K H' v d → HAb K H' η' → Q0 d η' → Q v H') ∧ ∀ cls η' H', Kt K H H' → HAb K H' η' → R0 cls η' → E cls none H'
structure FAX (P : Program) (w : World) (K : PySem.W.Frag) (mg : Str → Option Value) (base : Heap) (x : Str) (j n : Nat) (a : ASpX) : Prop where
  ex : ∃ f fd ps, ps.length = n ∧ FnOk P w K mg base (L2.CX P w) j f fd ps (LiftX K n a) ∧ mg x = some (.ref f) ∧ PySem.W.keepIn K (.ref f) = true ∧ Binds K fd ps []
theorem fa_mkX {P : Program} {w : World} {K : PySem.W.Frag} {mg : Str → Option Value} {base : Heap} {x qual : Str} {st : Stmt} {f : Addr} {fd : FuncData} {N ps : List Str} {k n : Nat} {a : ASpX} (F : Fun K x qual st f fd) (S : FnScope N ps (defScope st))
    (hb : Binds K fd ps []) (hm : mg x = some (.ref f)) (hn : ps.length = n)
    (body : ∀ (cdv : Value) (A : Around) (outer : List Env) (s : Shared) (H : Hp) (E : XK), At (cxOf (L2.CX P w) P w K mg base N qual (defScope st) f cdv A outer s H E) N (defScope st) k → ∀ ds η Q0 R0, ds.length = n → a ds η Q0 R0 → Ex (cxOf (L2.CX P w) P w K mg base N qual (defScope st) f cdv A outer s H E) R0 →
      ASs (cxOf (L2.CX P w) P w K mg base N qual (defScope st) f cdv A outer s H E) (defBody st) (ds.map some ++ List.replicate (N.length - n) none) η { nx := fun _ η' => ∃ η0, Sub η0 η' ∧ Q0 .non η0, rt := fun d η' => ∃ η0, Sub η0 η' ∧ Q0 d η0 }) : FAX P w K mg base x (k + 1) n a := by
  refine ⟨f, fd, ps, hn, F.okX S (fun vs H Q E h => h.1.trans hn.symm) ?_, hm, F.kp, hb⟩
  intro cdv A outer s H vs Q E hr hsp
  obtain ⟨hl, ds, η, Q0, R0, m, b, q, o, ox⟩ := hsp
  refine ⟨_, pssW _, ?_⟩
  have At0 : At (cxOf (L2.CX P w) P w K mg base N qual (defScope st) f cdv A outer s H E) N (defScope st) k := ⟨rfl, S.nd, rfl, rfl, hr, PassesOwn.leaving⟩
  have tk0 : Takes (cxOf (L2.CX P w) P w K mg base N qual (defScope st) f cdv A outer s H E) (fun cls d _ H' => E cls d H') := takes_of rfl rfl rfl rfl
  have ex0 : Ex (cxOf (L2.CX P w) P w K mg base N qual (defScope st) f cdv A outer s H E) R0 := ⟨tk0.imp fun c d σ H' ⟨e, kt, η', hab, r⟩ => by subst e; exact ox c η' H' kt hab r⟩
  have hb' := body cdv A outer s H E At0 ds η Q0 R0 (m.len.symm.trans hl) q ex0
  have e : L2.start N vs = vs.map some ++ List.replicate (N.length - n) none := by unfold L2.start; rw [hl]
  rw [e]
  refine hb'.run _ _ H (Vs.start m _) b ⟨?_, ?_, fun _ _ _ _ _ _ _ z => z.elim, fun _ _ _ _ _ _ _ z => z.elim⟩
  · rintro ρ' η' σ' H' k' v' b' ⟨η0, s0, q0⟩
    exact o _ η0 _ H' k' .non (b'.sub s0) q0
  · rintro d η' v H' k' m' b' ⟨η0, s0, q0⟩
    exact o d η0 v H' k' m' (b'.sub s0) q0
/-- a call of a def that may raise -/
theorem ae_callX (A : At X N sc k) {x : Str} {j n : Nat} {a : ASpX} (f : FAX X.prog X.w X.K X.mg X.base x j n a) {R : Value → Eta → Prop} (ex : Ex X R) {p pos : Pos} {e : Expr} {es : List Expr} (h : AA X (e :: es) ρ η fun ds η1 => ds.length = n ∧ a ds η1 Q R)
    (hj : j ≤ k := by decide) (hg : sc.names.lookup x = some .globalImplicit := by rfl) (hdb : (x == ("__debug__" : Str)) = false := by decide)
    (he : starEach (e :: es) X.env = (false, eval e X.env) :: starEach es X.env := by rfl) (hpl : (backTo pos (starEach es X.env)).any (·.1) = false := by rfl) : AE X (.Call (.Name x p) (e :: es) [] pos) ρ η Q := by
  obtain ⟨f', fd, ps, hp, F, hm, hk, hb⟩ := f.ex
  refine ⟨fun σ H R' v b o pins s I => ?_⟩
  refine wpAny_Call_Name_kw (ld_glob I (A.gl hg) hm ?_ hdb)
  refine PySem.W.callWith_K (h₀ := X.base) I.ok.mod.kin hk (thn (h.run σ H (fun vs H1 => Kt X.K H H1 ∧ ∃ ds η1, Ims X.K H1 vs ds ∧ HAb X.K H1 η1 ∧ ds.length = n ∧ a ds η1 Q R) v b (fun ds η1 vs H1 k1 m1 b1 q1 => ⟨k1, ds, η1, m1, b1, q1⟩) pos pins s I) fun us s1 ⟨vs, H1, I1, r, k1, ds, η1, m1, b1, hl, q1⟩ => ⟨I1.kIn, ?_⟩) he hpl
  refine run_fnS F (A.room.mono hj) hb (passAt ex.tk σ) I1 r ⟨m1.len.trans hl, ds, η1, Q, R, m1, b1, q1, o.kt k1, fun cls η' H' k' b' r' => ⟨rfl, (kt_inv I1).trans k', η', b', r'⟩⟩
/-- raise X('..'), X a class of the program without an __init__ of its own -/
structure Own (X : Cx) (x : Str) (C : Addr) : Prop where
  mg : X.mg x = some (.ref C)
  ex : PySem.W.excIn X.K C He.veBase "ValueError.__new__" = true
  kp : PySem.W.keepIn X.K (.ref C) = true
  sb : PySem.W.subIn X.K (.ref C) (.type "BaseException") = some true
  ty : PySem.W.typeIn X.K (.ref C) = some (.type "type")
theorem as_raise (A : At X N sc k) {x m : Str} {C : Addr} (O : Own X x C) {R : Value → Eta → Prop} (ex : Ex X R) {j : Nat} {p p2 p3 pos : Pos} (q : R (.ref C) η)
    (hg : sc.names.lookup x = some .globalImplicit := by rfl) (hdb : (x == ("__debug__" : Str)) = false := by decide) : AS X (.Raise (some (.Call (.Name x p) [.Constant (.str m) j p2] [] p3)) none pos) ρ η E := by
  refine ⟨fun D σ H v b l pins s I => ?_⟩
  exact (ps_raise A.calm ex.tk (pmk_own PySem.F.excBase_ValueError O.ex O.mg O.kp (raises_own O.sb O.ty) (A.gl hg) hdb)).run pins s σ H D I ⟨rfl, kt_inv I, η, b, q⟩
end FgA
namespace FgA
open PySem PySem.Spec PyProof.Rows L2 Fg
local macro_rules | `(tactic| walk_at "n") => `(tactic| (refine is_name ?_; first
  | refine ae_nameV (by assumption) (by assumption) rfl rfl ?_
  | refine ae_glob (by assumption) (by assumption) ?_
  | refine ae_nameB (by assumption) rfl ?_))
local macro_rules | `(tactic| walk_at "set") => `(tactic| (refine is_set ?_; refine as_setV (by assumption) (by assumption) (by assumption) rfl ?_))
local macro_rules | `(tactic| walk_at "t") => `(tactic| first
  | (refine is_tgt ?_; refine ag_nameV (by assumption) (by assumption) (by assumption) rfl ?_)
  | refine ag_tup2 (by assumption) ?_
  | refine ag_tup3 (by assumption) ?_
  | refine ag_tup4 (by assumption) ?_)
local macro_rules | `(tactic| walk_at "e") => `(tactic| first
  | walk_at "n"
  | refine ae_int ?_
  | refine ae_str ?_
  | refine ae_sub' ?_
  | refine aa_cons ?_
  | refine aa_nil ?_
  | refine ae_add ?_
  | refine ae_sub ?_
  | refine ae_mul ?_
  | refine ae_mod ?_
  | refine ae_fdiv ?_
  | refine ae_tup ?_
  | refine ae_lst ?_
  | refine ae_slice ?_
  | refine ae_bl ?_
  | refine ae_non ?_
  | refine ae_len (by assumption) (by assumption) ?_
  | refine ae_abs (by assumption) (by assumption) ?_
  | refine ae_call (by assumption) (by assumption) ?_
  | refine addD_int ?_
  | (refine is_ii ?_; refine iiT trivial ?_)
  | refine szl_and rfl ?_
  | (refine is_sub ?_; first | refine subD_tup (ix0 rfl) ?_ | refine subD_tup (ix1 rfl) ?_ | refine subD_tup (ix2 rfl) ?_ | refine subD_tup (ix3 rfl) ?_))
local macro_rules | `(tactic| walk_at "h") => `(tactic| first
  | assumption
  | exact up_same
  | (refine up_new (by assumption) ?_; walk_at "h")
  | (refine up_old (by assumption) ?_; walk_at "h")
  | (refine up_old (Ne.symm (by assumption)) ?_; walk_at "h"))
local macro_rules | `(tactic| walk_at "f") => `(tactic| first
  | assumption
  | (apply free_up; walk_at "f"))
local macro_rules | `(tactic| walk_at "sub") => `(tactic| first
  | exact Sub.refl
  | (refine sub_both ?_; walk_at "sub")
  | (refine sub_new (by assumption) ?_; walk_at "sub"))
local macro_rules | `(tactic| walk_at "sx") => `(tactic| first
  | exact SubX.refl
  | (refine SubX.self ?_; walk_at "sx")
  | (refine SubX.new (by assumption) ?_; walk_at "sx"))
variable {X : Cx} {η : Eta} {Q0 : Dt → Eta → Prop}
theorem row_at {T : Tab} (V : Valid T) {k x : Nat} (h : x < T.n) : ((rowL T k).map nD)[x]? = some (nD (rowF T k x)) := nD_get (by rw [rowL_len V]; exact h)
def p_led_pairs : ASp := fun ds η Q => ∃ (T S : Tab) (x : Nat × Nat), Valid T ∧ Valid S ∧ x.1 < T.n ∧ x.2 < S.n ∧ ds = [tabD T, tabD S, pairD x] ∧ ∀ q, η q = none → Q (.ref q) (up η q (.lst [pairD (ms T S x), pairD (mr T S x)]))
theorem b_led_pairs (A : At X n_led_pairs (defScope s_led_pairs) 0) (B : Bt X) (hf : ∀ y, X.fn y = true) {ds : List Dt} (h : p_led_pairs ds η Q0) :
    ASs X (defBody s_led_pairs) (ds.map some ++ List.replicate 1 none) η (ends Q0) := by
  have V0 := v_led_pairs
  obtain ⟨T, S, x, V, W, h1, h2, rfl, h⟩ := h
  refine as_one (as_ret (ae_lc1 A (ai_range1 A B ?_)))
  repeat walk_at "e"
  refine ⟨_, rfl, by omega, by omega, (show 2 ≤ 100000 by decide), fun _ _ _ _ => trivial, trivial, fun j e => ∃ y, [ms T S x, mr T S x][j]? = some y ∧ e = pairD y, ?_, ?_⟩
  · intro j d D acc X' hj hd hD hla A' b
    have hj' : j < 2 := hj
    subst hd
    rw [show (0 : Int) + (j : Nat) = (j : Nat) by omega]
    repeat walk_at "e"
    refine subD_tup (tab_row T hj') ?_
    repeat walk_at "e"
    refine subD_tup (atN (row_at V h1)) ?_
    repeat walk_at "e"
    refine subD_tup (tab_row S hj') ?_
    repeat walk_at "e"
    refine subD_tup (atN (row_at W h2)) ?_
    repeat walk_at "e"
    refine ⟨Sub.refl, ?_⟩
    match j, hj' with
    | 0, _ => exact ⟨_, rfl, rfl⟩
    | 1, _ => exact ⟨_, rfl, rfl⟩
  · intro D acc hD hla hF
    have hacc := acc_eq (l := [ms T S x, mr T S x]) (f := pairD) hla hF
    subst hacc
    exact ⟨_, Sub.refl, h D hD⟩
/-! ### pairs as keys -/
def keyP (x : Nat × Nat) : NestedKey := .tup [.num (x.1 : Int), .num (x.2 : Int)]
theorem dt_keyP (x : Nat × Nat) : pairD x = dtOf (keyP x) := by
  unfold keyP
  simp only [dtOf, dtOfs]
  rfl
theorem ok_keyP (x : Nat × Nat) : FgD.okK (keyP x) := ⟨by simp [keyP, NestedKey.depth, NestedKey.depthAll], fun x h => (by cases h)⟩
theorem pairD_inj {a b : Nat × Nat} (h : pairD a = pairD b) : a = b := by
  simp only [pairD, Dt.tup.injEq, List.cons.injEq, and_true] at h
  exact Prod.ext (nD_inj h.1) (nD_inj h.2)
theorem keyP_inj {a b : Nat × Nat} (h : keyP a = keyP b) : a = b := pairD_inj (by rw [dt_keyP, dt_keyP, h])
/-- the code of a lambda of the name q -/
def codeφ (q : Str) : PySem.W.Frag → Hp → Addr → Prop := fun _ H p => H p = some (LamX.CodeO p q)
/-- what a call of the thing at f brings about -/
structure Beh (X : Cx) (T S : Tab) (f c : Addr) (q : Str) : Prop where
  act : ∀ {e : Expr} {p1 p2 : Pos} {ρ : Rho} {η : Eta} {Q : Dt → Eta → Prop}, ρ[1]? = some (some (.ref f)) → starEach [e] X.env = (false, eval e X.env) :: starEach [] X.env → (backTo p2 (starEach [] X.env)).any (·.1) = false →
    AE X e ρ η (fun d η1 => ∃ x : Nat × Nat, d = pairD x ∧ x.1 < T.n ∧ x.2 < S.n ∧ η1 c = some (.oth (codeφ q)) ∧ ∀ r, η1 r = none → Q (.ref r) (up η1 r (.lst [pairD (ms T S x), pairD (mr T S x)]))) → AE X (.Call (.Name "behind" p1) [e] [] p2) ρ η Q
theorem ne_mo {η : Eta} {a b : Addr} {m m' : Mo} (h1 : η a = some m) (h2 : η b = some m') (h : m ≠ m') : a ≠ b := fun e => by subst e; rw [h1] at h2; exact h (Option.some.inj h2)
theorem ix_app {α : Type} [DecidableEq α] (l1 l2 : List α) (x : α) : ixOf (l1 ++ l2) x = if x ∈ l1 then ixOf l1 x else ixOf l2 x + l1.length := by
  unfold ixOf
  exact List.idxOf_append
theorem ix_head {α : Type} [DecidableEq α] (l : List α) (x : α) : ixOf (x :: l) x = 0 := by
  unfold ixOf
  exact List.idxOf_cons_self
/-- the pairs' numbers in the order in which they are met -/
structure Nums (kvs : List (NestedKey × Dt)) (m : List (Nat × Nat)) : Prop where
  has : ∀ y, y ∈ m → lkA kvs (keyP y) = some (nD (ixOf m y))
  not : ∀ y, y ∉ m → lkA kvs (keyP y) = none
theorem Nums.put {kvs : List (NestedKey × Dt)} {m : List (Nat × Nat)} {y : Nat × Nat} (h : Nums kvs m) (hy : y ∉ m) : Nums (putA kvs (keyP y) (nD m.length)) (m ++ [y]) := by
  refine ⟨fun z hz => ?_, fun z hz => ?_⟩
  · rw [lkA_put]
    by_cases e : z = y
    · subst e
      rw [if_pos rfl, ix_app, if_neg hy, ix_head, Nat.zero_add]
    · rw [if_neg (fun q => e (keyP_inj q))]
      have hz' : z ∈ m := by
        rcases List.mem_append.mp hz with q | q
        · exact q
        · simp at q; exact absurd q e
      rw [h.has z hz', ix_app, if_pos hz']
  · have h1 : z ∉ m := fun q => hz (List.mem_append_left _ q)
    have h2 : z ≠ y := fun q => hz (by simp [q])
    rw [lkA_put, if_neg (fun q => h2 (keyP_inj q))]
    exact h.not z h1
theorem pre_idx {m fin : List (Nat × Nat)} (h : m <+: fin) {y : Nat × Nat} (hy : y ∈ m) : ixOf fin y = ixOf m y := by
  obtain ⟨t, rfl⟩ := h
  rw [ix_app, if_pos hy]
def leadL (fin : List (Nat × Nat)) (s r : Nat × Nat → Nat × Nat) (x : Nat × Nat) : List Dt := [nD (ixOf fin (s x)), nD (ixOf fin (r x))]
set_option maxHeartbeats 4000000 in
theorem b_met_states (A : At X n_met_states (defScope s_met_states) 3) (B : Bt X) (hf : ∀ y, X.fn y = true) (gM : GV X "MOST" (.int 60)) {T S : Tab} (V : Valid T) (W : Valid S) (hT : T.n ≤ 60) (hS : S.n ≤ 60) {f c C : Addr} {q : Str} (Bh : Beh X T S f c q) {R : Value → Eta → Prop} (ex : Ex X R) (O : Own X "TooMany" C)
    (hc : η c = some (.oth (codeφ q))) (hQ : (meetL T S).length ≤ 60 → Q0 (tabD (tabOf (ms T S) (mr T S) (meetL T S))) η) (hR : R (.ref C) η) :
    ASs X (defBody s_met_states) ([some (pairD (0, 0)), some (.ref f)] ++ List.replicate 6 none) η (ends Q0) := by
  have V0 := v_met_states
  obtain ⟨M, hP, _⟩ := meet_met V W
  have hlen : (meetL T S).length ≤ 3600 := by
    have h1 := (met_of (meet_sys V W) (first := (0, 0)) ⟨V.pos, W.pos⟩ (allPairs T.n S.n) fun x hx => mem_allPairs hx).2.2
    have h2 : (allPairs T.n S.n).length = T.n * S.n := by
      unfold allPairs
      rw [List.length_flatMap]
      simp only [List.length_map, List.length_range]
      rw [List.map_const', List.length_range, List.sum_replicate_nat]
    have h3 : T.n * S.n ≤ 60 * 60 := Nat.mul_le_mul hT hS
    have h4 : (meetL T S).length ≤ (allPairs T.n S.n).length := h1
    omega
  have hcl := M.cl
  have hfin : bfs (ms T S) (mr T S) (meetL T S).length [(0, 0)] 0 = meetL T S := M.eq _ (Nat.le_refl _)
  have hnd := M.nd
  generalize meetL T S = fin at hQ hP hlen hcl hfin hnd
  have oks : ∀ (l : List (Nat × Nat)), ∀ y ∈ l.map pairD, okd 8 y = true := fun l y hy => by
    obtain ⟨z, _, rfl⟩ := List.mem_map.mp hy
    rfl
  refine as_cons ?_
  walk_at "set"
  refine ae_disp1 A fun u hu => ?_
  repeat walk_at "e"
  refine ⟨keyP (0, 0), dt_keyP _, ok_keyP _, up_same, ?_⟩
  rw [up_up]
  refine as_cons ?_
  walk_at "set"
  repeat walk_at "e"
  intro p hp
  refine as_cons ?_
  walk_at "set"
  repeat walk_at "e"
  intro w hw
  have hup : u ≠ p := (ne_at hp up_same).symm
  have hpw : p ≠ w := (ne_at hw up_same).symm
  have huw : u ≠ w := (ne_at hw (up_new hp up_same)).symm
  have hp0 : η p = none := free_up hp
  have hw0 : η w = none := free_up (free_up hw)
  refine as_cons ?_
  refine as_while A (fun k ρ η' => ∃ (m : List (Nat × Nat)) (las : List Addr) (g : Nat) (kvs : List (NestedKey × Dt)) (x5 x6 : Option Dt), ρ = [some (pairD (0, 0)), some (.ref f), some (.ref u), some (.ref p), some (.ref w), x5, x6, none] ∧ Sub η η' ∧ η' u = some (.nst X.w kvs) ∧ η' p = some (.lst (m.map pairD)) ∧ η' w = some (.lst (las.map Dt.ref)) ∧
    (∀ (j : Nat) (a : Addr), las[j]? = some a → ∃ x, fin[j]? = some x ∧ η' a = some (.lst (leadL fin (ms T S) (mr T S) x))) ∧ Nums kvs m ∧ kvs.length ≤ m.length + 2 ∧ bfs (ms T S) (mr T S) g m las.length = fin ∧ fin.length ≤ g + las.length ∧ las.length ≤ m.length ∧ m ≠ [] ∧ (0 < las.length → m.length ≤ 60) ∧ k = fin.length - las.length) fin.length ?_ ?_
  · refine ⟨[(0, 0)], [], fin.length, _, none, none, rfl, sub_new hw (sub_new hp (Sub.up hu)), up_new hw (up_new hp up_same), up_new hw up_same, up_same, fun j a h => by simp at h, ⟨fun y hy => ?_, fun y hy => ?_⟩, by simp [putAll, putA], hfin, by simp, by simp, by simp, by simp, rfl⟩
    · simp at hy; subst hy; rfl
    · unfold putAll
      simp only [List.foldl_cons, List.foldl_nil]
      rw [lkA_put, if_neg (fun e => hy (by rw [keyP_inj e]; simp))]; rfl
  · rintro k ρ η' ⟨m, las, g, kvs, x5, x6, rfl, sb, hu', hp', hw', hle, hN, hkl, hb, hgl, him, hm0, h60, hk⟩
    have hmf : m <+: fin := by rw [← hb]; exact bfs_prefix g m las.length
    have hmfl : m.length ≤ fin.length := prefix_len hmf
    have hPm : ∀ y ∈ m, y.1 < T.n ∧ y.2 < S.n := fun y hy => hP y (hmf.subset hy)
    refine at_lt ?_
    repeat walk_at "e"
    refine len_l hw' (by rw [List.length_map]; omega) ?_
    repeat walk_at "e"
    refine len_l hp' (by rw [List.length_map]; omega) ?_
    rw [List.length_map, List.length_map]
    refine ⟨_, _, rfl, rfl, fun z => ?_, fun z => ?_⟩
    · have hi : las.length < m.length := by omega
      have hmi : m[las.length]? = some m[las.length] := List.getElem?_eq_getElem hi
      have hfi : fin[las.length]? = some m[las.length] := prefix_get hmf hmi
      have hPx := hPm _ (List.getElem_mem hi)
      have hat : (m.map pairD)[las.length]? = some (pairD m[las.length]) := by rw [List.getElem?_map, hmi]; rfl
      obtain ⟨g', rfl⟩ : ∃ g', g = g' + 1 := ⟨g - 1, by omega⟩
      rw [bfs, hmi] at hb
      generalize hx : m[las.length] = x at hb hfi hPx hat
      have hb' : bfs (ms T S) (mr T S) g' (pushN (pushN m (ms T S x)) (mr T S x)) (las.length + 1) = fin := hb
      have hxf : x ∈ fin := List.mem_of_getElem? hfi
      refine as_cons ?_
      walk_at "set"
      refine Bh.act rfl rfl rfl ?_
      repeat walk_at "e"
      refine len_l hw' (by rw [List.length_map]; omega) ?_
      rw [List.length_map]
      refine subD_lst hp' (atN hat) ?_
      refine ⟨x, rfl, hPx.1, hPx.2, sb _ _ hc, fun r hr => ?_⟩
      have hru : r ≠ u := ne_at hr hu'
      have hrp : r ≠ p := ne_at hr hp'
      have hrw : r ≠ w := ne_at hr hw'
      have hst : ∀ j d, j < 2 → [pairD (ms T S x), pairD (mr T S x)][j]? = some d → ∃ y, d = pairD y ∧ (if j + 1 = 0 then m else if j + 1 = 1 then pushN m (ms T S x) else pushN (pushN m (ms T S x)) (mr T S x)) = pushN (if j = 0 then m else if j = 1 then pushN m (ms T S x) else pushN (pushN m (ms T S x)) (mr T S x)) y := by
        intro j d hj hd
        match j, hj with
        | 0, _ => cases hd; exact ⟨_, rfl, rfl⟩
        | 1, _ => cases hd; exact ⟨_, rfl, rfl⟩
      have hm2l : ∀ j, (if j = 0 then m else if j = 1 then pushN m (ms T S x) else pushN (pushN m (ms T S x)) (mr T S x)).length ≤ m.length + 2 := by
        intro j
        have h1 : ∀ (l : List (Nat × Nat)) (z : Nat × Nat), (pushN l z).length ≤ l.length + 1 := by
          intro l z; unfold pushN; split <;> simp
        have := h1 m (ms T S x)
        have := h1 (pushN m (ms T S x)) (mr T S x)
        split
        · omega
        · split <;> omega
      refine as_cons (as_for A (ai_list ?_))
      repeat walk_at "e"
      refine ⟨r, _, rfl, up_same, fun j ρ η2 => ∃ kv2 y6 m2, m2 = (if j = 0 then m else if j = 1 then pushN m (ms T S x) else pushN (pushN m (ms T S x)) (mr T S x)) ∧ ρ = [some (pairD (0, 0)), some (.ref f), some (.ref u), some (.ref p), some (.ref w), some (.ref r), y6, none] ∧ Sub η η2 ∧ η2 r = some (.lst [pairD (ms T S x), pairD (mr T S x)]) ∧ η2 u = some (.nst X.w kv2) ∧ η2 p = some (.lst (m2.map pairD)) ∧ η2 w = some (.lst (las.map Dt.ref)) ∧
        (∀ (j : Nat) (a : Addr), las[j]? = some a → ∃ x, fin[j]? = some x ∧ η2 a = some (.lst (leadL fin (ms T S) (mr T S) x))) ∧ Nums kv2 m2 ∧ kv2.length ≤ m2.length + 2, ?_, ?_, ?_, ?_⟩
      · refine ⟨kvs, x6, m, rfl, rfl, sub_new hr sb, up_same, up_new hr hu', up_new hr hp', up_new hr hw', fun j a ha => ?_, hN, hkl⟩
        obtain ⟨x', h1, h2⟩ := hle j a ha
        exact ⟨x', h1, up_new hr h2⟩
      · rintro j ρ η2 _ ⟨_, _, _, _, _, _, e, _⟩
        exact e
      · rintro j d ρ η2 hj hd ⟨kv2, y6, m2, hm2, rfl, s2, a0, a1, a2, a3, a4, a5, a6⟩
        obtain ⟨y, rfl, hy⟩ := hst j d hj hd
        rw [← hm2] at hy
        have hm2l' : m2.length ≤ m.length + 2 := by rw [hm2]; exact hm2l j
        walk_at "t"
        refine as_one (as_if (at_ninN A ?_))
        repeat walk_at "e"
        refine ⟨u, kv2, keyP y, rfl, a1, dt_keyP y, ok_keyP _, fun v => ?_, fun v => ?_⟩
        · have hnm : y ∉ m2 := fun e => by rw [a5.has y e] at v; cases v
          replace hy := hy.trans (show pushN m2 y = m2 ++ [y] from if_neg hnm)
          refine as_cons (as_asg ?_)
          repeat walk_at "e"
          refine len_l a2 (by rw [List.length_map]; omega) ?_
          rw [List.length_map]
          refine ag_setN A ?_
          repeat walk_at "e"
          refine ⟨u, kv2, keyP y, rfl, a1, dt_keyP y, ok_keyP _, by omega, ?_⟩
          refine as_one (as_expr (ae_append ?_))
          repeat walk_at "e"
          have aq : up η2 u (.nst X.w (putA kv2 (keyP y) (.int (m2.length : Nat)))) p = some (.lst (m2.map pairD)) := up_old hup.symm a2
          refine ⟨isL aq, ?_⟩
          repeat walk_at "e"
          refine am_append aq (by rw [List.length_map]; omega) ?_
          refine ⟨_, _, m2 ++ [y], hy.symm, rfl, (s2.up' hu).up' hp0, up_old hrp (up_old hru a0), up_old hup up_same, by rw [up_same]; simp, up_old hpw.symm (up_old huw.symm a3), fun j a ha => ?_, a5.put hnm, ?_⟩
          · obtain ⟨x', h1, h2⟩ := a4 j a ha
            have n1 : a ≠ u := ne_mo h2 a1 (fun e => by cases e)
            have n2 : a ≠ p := ne_mo h2 a2 (fun e => by
              have e2 := Mo.lst.inj e
              cases m2 with
              | nil => cases e2
              | cons b t => rw [List.map_cons] at e2; cases e2)
            exact ⟨x', h1, up_old n2 (up_old n1 h2)⟩
          · have := put_len (kvs := kv2) (k := keyP y) (v := nD m2.length)
            simp only [List.length_append, List.length_cons, List.length_nil]
            show (putA kv2 (keyP y) (nD m2.length)).length ≤ _
            omega
        · have hm : y ∈ m2 := Classical.byContradiction fun e => v (a5.not y e)
          replace hy := hy.trans (show pushN m2 y = m2 from if_pos hm)
          exact as_nil ⟨_, _, m2, hy.symm, rfl, s2, a0, a1, a2, a3, a4, a5, a6⟩
      · rintro ρ η2 ⟨kv2, y6, m2, hm2, rfl, s2, a0, a1, a2, a3, a4, a5, a6⟩
        have hm2' : m2 = pushN (pushN m (ms T S x)) (mr T S x) := hm2
        have hm2l' : m2.length ≤ m.length + 2 := by rw [hm2]; exact hm2l 2
        have hml : m.length ≤ m2.length := by
          rw [hm2']; exact Nat.le_trans (prefix_len (pushN_prefix _ _)) (prefix_len (pushN_prefix _ _))
        have hm2f : m2 <+: fin := by rw [← hb', hm2']; exact bfs_prefix _ _ _
        have hsm : ms T S x ∈ m2 := by rw [hm2']; exact mem_pushN.mpr (.inl (mem_pushN.mpr (.inr rfl)))
        have hrm : mr T S x ∈ m2 := by rw [hm2']; exact mem_pushN.mpr (.inr rfl)
        refine as_cons (as_if (at_gt ?_))
        repeat walk_at "e"
        refine len_l a2 (by rw [List.length_map]; omega) ?_
        rw [List.length_map]
        repeat walk_at "e"
        refine ⟨_, _, rfl, rfl, fun y => ?_, fun y => ?_⟩
        · exact ass_forget s2 (as_one (as_raise A O ex hR))
        refine as_nil ?_
        refine as_one (as_expr (ae_append ?_))
        repeat walk_at "e"
        refine ⟨isL a3, ?_⟩
        refine aa_cons (ae_lc1 A (ai_list ?_))
        repeat walk_at "e"
        refine ⟨r, _, rfl, a0, (show 2 ≤ 100000 by decide), fun η η' s e => s _ _ e, a0, fun j e => (leadL fin (ms T S) (mr T S) x)[j]? = some e, ?_, ?_⟩
        · intro j d D acc X' hj hd hD hla A' b
          have hx2 : ∃ y, d = pairD y ∧ y ∈ m2 ∧ (leadL fin (ms T S) (mr T S) x)[j]? = some (nD (ixOf m2 y)) := by
            match j, hj with
            | 0, _ => cases hd; exact ⟨_, rfl, hsm, by unfold leadL; rw [pre_idx hm2f hsm]; rfl⟩
            | 1, _ => cases hd; exact ⟨_, rfl, hrm, by unfold leadL; rw [pre_idx hm2f hrm]; rfl⟩
          obtain ⟨y, rfl, hym, hl⟩ := hx2
          have hwX : X'.w = X.w := by obtain ⟨s, H, C, cl, fp, rfl⟩ := b.ex; rfl
          refine ae_item A' ?_
          repeat walk_at "e"
          rw [hwX, dt_keyP]
          exact ⟨.nst (up_new hD a1) (a5.has y hym) (ok_keyP y), Sub.refl, hl⟩
        · intro D acc hD hla hF
          have hacc : acc = leadL fin (ms T S) (mr T S) x := by
            apply List.ext_getElem?
            intro j
            by_cases hj : j < acc.length
            · rw [List.getElem?_eq_getElem hj]
              exact (hF j _ (List.getElem?_eq_getElem hj)).symm
            · rw [List.getElem?_eq_none (by omega), List.getElem?_eq_none (by rw [hla] at hj; exact Nat.le_of_not_lt hj)]
          subst hacc
          have hDu : D ≠ u := ne_at hD a1
          have hDp : D ≠ p := ne_at hD a2
          have hDw : D ≠ w := ne_at hD a3
          repeat walk_at "e"
          refine am_append (up_new hD a3) (by rw [List.length_map]; omega) ?_
          refine ⟨fin.length - (las.length + 1), by omega, m2, las ++ [D], g', kv2, _, _, rfl, (sub_new hD s2).up' hw0, up_old huw (up_new hD a1), up_old hpw (up_new hD a2), by rw [up_same]; simp, fun j a ha => ?_, a5, a6, by rw [List.length_append]; rw [hm2']; exact hb', by simp; omega, by simp; omega, fun e => hm0 (List.eq_nil_of_length_eq_zero (by rw [e] at hml; simp at hml; simp [hml])), fun _ => by omega, by simp⟩
          by_cases hja : j < las.length
          · rw [List.getElem?_append_left hja] at ha
            obtain ⟨x', h1, h2⟩ := a4 j a ha
            have n1 : a ≠ w := ne_mo h2 a3 (fun e => by
              have e2 := Mo.lst.inj e
              cases las with
              | nil => cases e2
              | cons b t => rw [List.map_cons] at e2; cases e2)
            exact ⟨x', h1, up_old n1 (up_new hD h2)⟩
          · have hje : j = las.length := by
              have := (List.getElem?_eq_some_iff.mp ha).1
              simp at this; omega
            subst hje
            simp at ha
            subst ha
            exact ⟨x, hfi, up_old hDw up_same⟩
    · have hi : m[las.length]? = none := List.getElem?_eq_none (by omega)
      have hm : m = fin := by
        rw [← hb]
        cases g with
        | zero => rfl
        | succ g => rw [bfs, hi]
      subst hm
      have hal : las.length = m.length := by omega
      have hpos : 0 < m.length := List.length_pos_iff.mpr hm0
      have h60' := h60 (by omega)
      have hq := hQ h60'
      have lk : ∀ (j : Nat) (d : Dt), (las.map Dt.ref)[j]? = some d → ∃ a x, d = .ref a ∧ m[j]? = some x ∧ η' a = some (.lst (leadL m (ms T S) (mr T S) x)) := by
        intro j d hd
        rw [List.getElem?_map] at hd
        obtain ⟨a, ha, rfl⟩ := Option.map_eq_some_iff.mp hd
        obtain ⟨x, h1, h2⟩ := hle j a ha
        exact ⟨a, x, rfl, h1, h2⟩
      refine as_one (as_ret ?_)
      refine ae_tup (aa_cons (ae_tuple A B (ae_lc1 A (ai_list ?_))))
      repeat walk_at "e"
      refine ⟨w, _, rfl, hw', by rw [List.length_map]; omega, fun η η' s e => s _ _ e, hw', fun j e => ∃ x, m[j]? = some x ∧ e = nD (ixOf m (ms T S x)), ?_, ?_⟩
      · intro j d D acc X' hj hd hD hla A' b
        obtain ⟨a, x, rfl, h1, h2⟩ := lk j d hd
        repeat walk_at "e"
        exact subD_lst (up_new hD h2) (ix0 rfl) ⟨Sub.refl, x, h1, rfl⟩
      intro D acc hD hla hF
      have hacc := acc_eq (l := m) (f := fun x => nD (ixOf m (ms T S x))) (by rw [hla, List.length_map]; exact hal) hF
      subst hacc
      refine ⟨_, items_l up_same, ?_⟩
      refine aa_cons (ae_tuple A B (ae_lc1 A (ai_list ?_)))
      repeat walk_at "e"
      have sD : Sub η' (up η' D (.lst (m.map fun x => nD (ixOf m (ms T S x))))) := Sub.up hD
      refine ⟨w, _, rfl, sD _ _ hw', by rw [List.length_map]; omega, fun η η' s e => s _ _ e, sD _ _ hw', fun j e => ∃ x, m[j]? = some x ∧ e = nD (ixOf m (mr T S x)), ?_, ?_⟩
      · intro j d D2 acc X' hj hd hD2 hla A' b
        obtain ⟨a, x, rfl, h1, h2⟩ := lk j d hd
        repeat walk_at "e"
        exact subD_lst (up_new hD2 (sD _ _ h2)) (ix1 rfl) ⟨Sub.refl, x, h1, rfl⟩
      intro D2 acc hD2 hla hF
      have hacc := acc_eq (l := m) (f := fun x => nD (ixOf m (mr T S x))) (by rw [hla, List.length_map]; exact hal) hF
      subst hacc
      refine ⟨_, items_l up_same, ?_⟩
      repeat walk_at "e"
      refine ⟨η, (sb.trans sD).trans (Sub.up hD2), ?_⟩
      have e : tabD (tabOf (ms T S) (mr T S) m) = .tup [.tup (m.map fun x => nD (ixOf m (ms T S x))), .tup (m.map fun x => nD (ixOf m (mr T S x)))] := by
        unfold tabD tabOf
        rw [List.map_map, List.map_map]; rfl
      rw [e] at hq
      exact hq
end FgA
/-! FgB7: a lambda of one parameter that is handed to a def which may raise. -/
namespace FgA
open PySem PySem.Spec PyProof.Rows L2 Fg
/-- one parameter p, else captured names and globals alone -/
structure Lam1 (sc scope : Scope) (p : Str) : Prop where
  kind : scope.kind = .function
  co : scope.isCoroutine = false
  gen : scope.isGenerator = false
  own : ∀ y ∈ scope.names, y.2 ≠ .cell ∧ (y.2 = .local → y.1 = p)
  par : scope.names.lookup p = some .local
  free : ∀ y ∈ scope.names, y.2 = .free → sc.names.lookup y.1 = some .cell ∨ sc.names.lookup y.1 = some .free
theorem Lam1.has {X : Cx} {scope : Scope} {p : Str} (L : Lam1 X.env.scope scope p) (ok : X.Ok) : ∀ y ∈ scope.names, y.2 = .free → ∃ c, X.env.cells.lookup y.1 = some c := fun y hy e => by
  rcases L.free y hy e with z | z
  · exact ok.has _ (.inl z)
  · exact ok.has _ (.inr z)
/-- the place of the lambda's body -/
def lam1Cx (X : Cx) (A : Around) (outer : List Env) (s : Shared) (H : Hp) (scope : Scope) (f c' : Addr) (p : Str) : Cx where
  prog := X.prog
  w := X.w
  K := X.K
  mg := X.mg
  base := X.base
  A := A.deeper (LamX.lamEnv X scope s.heap.objs.size f c')
  N := X.N ++ [p]
  s_0 := s
  H_0 := H
  env := LamX.lamEnv X scope s.heap.objs.size f c'
  outer := outer
  stack := LamX.lamEnv X scope s.heap.objs.size f c' :: outer
  ex := []
  fn := fun _ => false
  calm := true
  pn := []
  xe := fun e s' => wpAny (model X.prog X.w) (A.deeper (LamX.lamEnv X scope s.heap.objs.size f c')) (leaving (LamX.lamEnv X scope s.heap.objs.size f c') e) (fun _ s'' => L2.CX X.prog X.w outer H s E0 e s'') (fun e' s'' => L2.CX X.prog X.w outer H s E0 e' s'') s'
section
variable {X : Cx} {pins : List (Addr × Obj)} {σ : L2.St} {H HZ : Hp} {s s1 : Shared}
theorem lam1_start {A : Around} {outer : List Env} {scope : Scope} {f c' : Addr} {h₁ : Heap} {tk : Nat} {p : Str} {x : V} {u : Value} (I : Inv X pins σ H s) (L : Lam1 X.env.scope scope p) (hp : p ∉ X.N) (e0 : Env0 X.prog X.w X.K X.mg X.base A outer s1 HZ) (hd : A.handled = none)
    (un : Un (frs X.stack) [] H HZ s.heap s1.heap) (hns : h₁.Ns s1.heap.objs.size fun y => ([(p, u)] : List (Str × Value)).reverse.lookup y) (kp : ∀ b o, s1.heap.get? b = some o → h₁.get? b = some o) (r : RelV x u) :
    Inv (lam1Cx X A outer s1 HZ scope f c' p) [] (σ ++ [some x]) HZ { s1 with heap := h₁, toks := tk } := by
  have hfree := L.has I.ok
  have cm : ∀ {y c}, (cloFrom X.env.cells scope.names []).lookup y = some c → X.env.cells.lookup y = some c := fun {y c} e => by
    rcases cloFrom_mem (PySem.mem_of_lookup e) with hm | ⟨h1, h2⟩
    · cases hm
    · obtain ⟨c1, hc⟩ := hfree _ h1 rfl
      have hc : X.env.cells.lookup y = some c1 := hc
      have e2 : c = c1 := by
        rw [h2, hc] <;> rfl
      rw [e2]
      exact hc
  have look : ∀ {y}, scope.names.lookup y = some .free → ∃ c, (cloFrom X.env.cells scope.names []).lookup y = some c := fun {y} hl => by
    have hy : (y, NameKind.free) ∈ scope.names := PySem.mem_of_lookup hl
    exact mem_lookup (cloFrom_has (cells := X.env.cells) (acc := []) hy)
  have cellK : ∀ {c : Addr} {v : Option Value}, H c = none → s.heap.IsCell c v → h₁.IsCell c v := fun {c v} n ⟨o, ho, hd⟩ => by
    obtain ⟨sl, q⟩ := un.any ho n (by simp)
    exact ⟨_, kp _ _ q, hd⟩
  have noA : ∀ b : Addr, b ∉ (lam1Cx X A outer s1 HZ scope f c' p).ex := fun b z => absurd (show b ∈ ([] : List Addr) from z) (by simp)
  have nocell : ∀ y, scope.names.lookup y ≠ some .cell := fun y hy => (L.own _ (PySem.mem_of_lookup hy)).1 rfl
  have isp : ∀ y, scope.names.lookup y = some .local → y = p := fun y hy => (L.own _ (PySem.mem_of_lookup hy)).2 rfl
  have hlen : σ.length = X.N.length := I.len
  refine ⟨⟨e0.mod, L.kind, rfl, rfl, Nat.le_refl _, fun y z c e1 e2 => I.ok.inj y z c (cm e1) (cm e2), fun y hy => ?_, fun y c z _ => ?_, fun _ => hd, Around.frames_deeper e0.frames, .inr ⟨rfl, rfl⟩, fun b z => absurd z (noA b), e0.bs, e0.bsz, fun b _ _ => noA b,
      fun b z => absurd z (noA b), e0.funs, e0.frf⟩,
    rfl, e0.bare, Un.kept kp, ⟨_, hns, fun i y v e1 e2 e3 => ?_⟩, fun y c e => ?_, e0.hok.fresh (Nat.le_refl _), fun y c e => ?_, fun q hq => absurd (show q ∈ ([] : List (Addr × Obj)) ++ [] from hq) (by simp), e0.hok.kept kp, ?_⟩
  · have hy : scope.names.lookup y = some .cell ∨ scope.names.lookup y = some .free := hy
    rcases hy with hy | hy
    · exact absurd hy (nocell y)
    · exact look hy
  · have z : false = true := z
    cases z
  · have e1 : (X.N ++ [p])[i]? = some y := e1
    have e3 : Vis scope y := e3
    by_cases hi : i < X.N.length
    · rw [List.getElem?_append_left hi] at e1
      rw [List.getElem?_append_left (by omega)] at e2
      have hyp : y ≠ p := fun e => hp (e ▸ List.mem_of_getElem? e1)
      rcases e3 with z | z | z
      · exact absurd (isp y z) hyp
      · exact absurd z (nocell y)
      · obtain ⟨m, hn, hl⟩ := I.loc
        have hvis : Vis X.env.scope y := (L.free _ (PySem.mem_of_lookup z) rfl).elim (fun k => .inr (.inl k)) (fun k => .inr (.inr k))
        obtain ⟨w', rw', q⟩ := hl i y v e1 e2 hvis
        obtain ⟨c2, h2⟩ := look z
        refine ⟨w', rw', .inr ⟨.inr z, c2, h2, ?_⟩⟩
        have c1 := cm h2
        rcases q with ⟨k', _⟩ | ⟨_, c3, e', z'⟩
        · have k' : X.env.scope.names.lookup y = some .local := k'
          rcases L.free _ (PySem.mem_of_lookup z) rfl with k2 | k2 <;> rw [show X.env.scope.names.lookup y = _ from k2] at k' <;> cases k'
        · rw [c1] at e'
          cases e'
          exact cellK (I.freeC y _ c1) z'
    · have hi2 : i = X.N.length := by
        have := (List.getElem?_eq_some_iff.mp e1).1
        simp at this; omega
      subst hi2
      rw [List.getElem?_append_right (Nat.le_refl _), Nat.sub_self] at e1
      rw [List.getElem?_append_right (by omega), hlen, Nat.sub_self] at e2
      simp at e1 e2
      subst e1 e2
      exact ⟨u, r, .inl ⟨L.par, by simp⟩⟩
  · obtain ⟨w', z⟩ := I.cell y c (cm e)
    exact ⟨w', cellK (I.freeC y c (cm e)) z⟩
  · obtain ⟨v, o, ho, hd⟩ := I.cell y c (cm e)
    exact un.free c o ho (I.freeC y c (cm e)) (by simp)
  · show (σ ++ [some x]).length = (X.N ++ [p]).length
    simp [hlen]
theorem vs_snoc {K : PySem.W.Frag} {H : Hp} {σ : L2.St} {ρ : Rho} {x : V} {d : Dt} (v : Vs K H σ ρ) (m : Im K H x d) : Vs K H (σ ++ [some x]) (ρ ++ [some d]) := by
  refine ⟨by simp [v.1], fun i e hi => ?_⟩
  by_cases h : i < ρ.length
  · rw [List.getElem?_append_left h] at hi
    obtain ⟨y, h1, h2⟩ := v.2 i e hi
    exact ⟨y, by rw [List.getElem?_append_left (by rw [v.1]; exact h)]; exact h1, h2⟩
  · have hi2 : i = ρ.length := by
      have := (List.getElem?_eq_some_iff.mp hi).1
      simp at this; omega
    subst hi2
    rw [List.getElem?_append_right (Nat.le_refl _), Nat.sub_self] at hi
    simp at hi
    subst hi
    exact ⟨x, by rw [← v.1, List.getElem?_append_right (Nat.le_refl _), Nat.sub_self]; rfl, m⟩
/-- the lambda, called in the def that got it -/
theorem act1 {CXg : CXT} {Eg : XK} {Ng : List Str} {qg : Str} {sg : Scope} {g f c' : Addr} {cdg pm ctv : Value} {params : Arguments} {body : Expr} {scope : Scope} {kk i : Nat} {a p q : Str} {ρX : Rho} {P : Dt → Eta → (Dt → Eta → Prop) → Prop}
    (I : Inv X pins σ H s) (vX : Vs X.K H σ ρX) (L : Lam1 X.env.scope scope p) (hp : p ∉ X.N) (hnd : X.N.Nodup) (hf : s.heap.get? f = some (PySem.W.kla_obj "<lambda>" (X.env.qual ++ "<lambda>") params body scope (cloFrom X.env.cells scope.names []) pm c' ctv)) (hfn : H f = none) (hfr : f ∉ frs X.stack) (hq : X.env.qual ++ "<lambda>" = q)
    (hbind : ∀ u : Value, bindArgs (PySem.W.kla_fn "<lambda>" (X.env.qual ++ "<lambda>") params body scope (cloFrom X.env.cells scope.names []) pm (.ref c') ctv) ⟨[u], []⟩ = pure [(p, u)])
    (hr : Room (kk + 1) (X.A.deeper (envOfC qg sg s.heap.objs.size g cdg)))
    (hbody : ∀ X' : Cx, X'.prog = X.prog → X'.w = X.w → X'.K = X.K → X'.mg = X.mg → X'.base = X.base → At X' (X.N ++ [p]) scope kk → ∀ d η Q, P d η Q → AE X' body (ρX ++ [some d]) η Q)
    (hN : Ng[i]? = some a) (hv : Vis sg a) (hd : (a == ("__debug__" : Str)) = false := by decide) (hcd : (a == ("__classdict__" : Str)) = false := by decide) :
    ∀ {e : Expr} {p1 p2 : Pos} {ρ : Rho} {η : Eta} {Q : Dt → Eta → Prop}, ρ[i]? = some (some (.ref f)) → starEach [e] (cxOf CXg X.prog X.w X.K X.mg X.base Ng qg sg g cdg X.A X.stack s H Eg).env = (false, eval e (cxOf CXg X.prog X.w X.K X.mg X.base Ng qg sg g cdg X.A X.stack s H Eg).env) :: starEach [] (cxOf CXg X.prog X.w X.K X.mg X.base Ng qg sg g cdg X.A X.stack s H Eg).env →
      (backTo p2 (starEach [] (cxOf CXg X.prog X.w X.K X.mg X.base Ng qg sg g cdg X.A X.stack s H Eg).env)).any (·.1) = false →
      AE (cxOf CXg X.prog X.w X.K X.mg X.base Ng qg sg g cdg X.A X.stack s H Eg) e ρ η (fun d η1 => η1 c' = some (.oth (codeφ q)) ∧ P d η1 Q) → AE (cxOf CXg X.prog X.w X.K X.mg X.base Ng qg sg g cdg X.A X.stack s H Eg) (.Call (.Name a p1) [e] [] p2) ρ η Q := by
  intro e p1 p2 ρ η Q hρ he hpl h
  refine ⟨fun σZ HZ R vZ bZ oZ pinsZ sZ IZ => ?_⟩
  obtain ⟨y, hy1, hy2⟩ := vZ.2 i _ hρ
  obtain rfl : y = .ref f := hy2.ref_inv
  refine wpAny_Call_Name_kw (thn ((pe_var (pos := p1) (i := i) hN hv hd hcd).run pinsZ sZ σZ HZ (fun v H1 => v = .ref f ∧ H1 = HZ) IZ ⟨.ref f, hy1, rfl, rfl⟩) fun u s1 ⟨v, H1, I1, r1, q1⟩ => ?_)
  obtain ⟨ev, eH⟩ := q1
  subst ev
  rw [eH] at I1
  obtain rfl : u = Value.ref f := r1
  have of1 : s1.heap.get? f = some (PySem.W.kla_obj "<lambda>" (X.env.qual ++ "<lambda>") params body scope (cloFrom X.env.cells scope.names []) pm c' ctv) := I1.base.keep f _ hf hfn hfr (fun z => nomatch (show f ∈ ([] : List Addr) from z))
  refine PySem.W.callWith_F ⟨_, _, _, _, of1⟩ ?_ he hpl
  have hA : AA (cxOf CXg X.prog X.w X.K X.mg X.base Ng qg sg g cdg X.A X.stack s H Eg) [e] ρ η fun ds η1 => ∃ d, ds = [d] ∧ η1 c' = some (.oth (codeφ q)) ∧ P d η1 Q := aa_cons (h.mono fun d η1 z => aa_nil ⟨d, rfl, z⟩) he
  refine thn (hA.run σZ HZ (fun vs H2 => Kt X.K HZ H2 ∧ ∃ d η1, Ims X.K H2 vs [d] ∧ HAb X.K H2 η1 ∧ η1 c' = some (.oth (codeφ q)) ∧ P d η1 Q) vZ bZ (fun ds η1 vs H2 k2 m2 b2 ⟨d, ed, z⟩ => ⟨k2, d, η1, ed ▸ m2, b2, z⟩) p2 pinsZ s1 I1) fun us s2 ⟨vs, H2, I2, r2, k2, d, η1, m2, b2, hc2, pq⟩ => ?_
  obtain ⟨x, rfl, mx⟩ := m2.one_inv
  cases r2 with
  | @cons _ u _ us' ru rn =>
  cases rn
  have of2 : s2.heap.get? f = some (PySem.W.kla_obj "<lambda>" (X.env.qual ++ "<lambda>") params body scope (cloFrom X.env.cells scope.names []) pm c' ctv) := I2.base.keep f _ hf hfn hfr (fun z => nomatch (show f ∈ ([] : List Addr) from z))
  have un : Un (frs X.stack) [] H H2 s.heap s2.heap := I2.base
  have kH : Kt X.K H H2 := kt_inv I2
  have hcode : H2 c' = some (LamX.CodeO c' q) := (b2 _ _ hc2).2 H2 Kt.refl rfl
  obtain ⟨⟨oc, vs, t, hoc, hdc, hvc⟩, _, _⟩ := I2.hok c' _ hcode
  rw [← hq] at hvc
  refine ⟨⟨_, _, _, _, of2⟩, ?_⟩
  have rc : codeAny (model X.prog X.w) (X.A.deeper (envOfC qg sg s.heap.objs.size g cdg)) (.call (.ref f) ⟨[u], []⟩) (CR (L2.CX X.prog X.w) (envOfC qg sg s.heap.objs.size g cdg :: X.stack) X.prog X.w H2 s2 R E0) s2 := by
    refine PySem.W.kla_callFunE hr.depth of2 rfl L.co L.gen rfl ⟨c', oc, vs, t, rfl, hoc, hdc, hvc⟩ ?_
    rw [hbind]
    refine wpAny_pure (wpAny_newFunctionEnv (fun y hy => (L.own y hy).1) (fun y hy => ?_) (fun h₁ hns hsb => ⟨I2.nolimit.fresh _ hsb, ?_⟩) L.kind)
    · simp at hy
      subst hy
      exact L.par
    show codeAny _ _ (.expr body (LamX.lamEnv X scope s2.heap.objs.size f c')) _ _
    have kp : ∀ b o, s2.heap.get? b = some o → h₁.get? b = some o := fun b o e => hsb.extBut b o (Nat.ne_of_lt (Heap.lt_size e)) (Heap.get?_push_of_some _ e)
    have J : Inv (lam1Cx X (X.A.deeper (envOfC qg sg s.heap.objs.size g cdg)) (envOfC qg sg s.heap.objs.size g cdg :: X.stack) s2 H2 scope f c' p) [] (σ ++ [some x]) H2 { s2 with heap := h₁, toks := s2.toks + ([(p, u)] : List (Str × Value)).length } :=
      lam1_start I L hp I2.env0 hr.hd un hns kp ru
    have hA' : At (lam1Cx X (X.A.deeper (envOfC qg sg s.heap.objs.size g cdg)) (envOfC qg sg s.heap.objs.size g cdg :: X.stack) s2 H2 scope f c' p) (X.N ++ [p]) scope kk :=
      ⟨rfl, by rw [List.nodup_append]; exact ⟨hnd, by simp, fun y hy z hz e => hp (by simp at hz; rw [← hz, ← e]; exact hy)⟩, rfl, rfl, hr.deeper _, PassesOwn.leaving⟩
    have hb := hbody (lam1Cx X (X.A.deeper (envOfC qg sg s.heap.objs.size g cdg)) (envOfC qg sg s.heap.objs.size g cdg :: X.stack) s2 H2 scope f c' p) rfl rfl rfl rfl rfl hA' d η1 Q pq
    refine PySem.W.kla_codeExpr (wpAny_mono (hb.run (σ ++ [some x]) H2 R (vs_snoc (vX.kt kH) mx) b2 (oZ.kt k2) [] _ J) (fun v s' hq => ?_) fun e s' hq => hq)
    obtain ⟨w', H', J', rv, q⟩ := hq
    exact ⟨w', H', J'.os, J'.bare, J'.base, J'.hok, rv, q⟩
  have hx : Passes (L2.CX X.prog X.w) (cxOf CXg X.prog X.w X.K X.mg X.base Ng qg sg g cdg X.A X.stack s H Eg) E0 := passL
  refine wpAny_call (codeAny_mono rc fun r s' hq => ?_)
  cases r with
  | error e => exact hx pinsZ σZ H2 s2 e s' I2 hq
  | ok fl =>
    cases fl with
    | ret u => exact I2.after hq
    | next => exact False.elim hq
    | brk => exact False.elim hq
    | cont => exact False.elim hq
end
end FgA
/-! FgB8: the table of code objects as data; a def called with a lambda. -/
namespace FgA
open PySem PySem.Spec PyProof.Rows L2 Fg
def tblφ (ps : Array Value) : PySem.W.Frag → Hp → Addr → Prop := fun _ H p => H p = some (.tbl ps)
/-- at P the table of the code objects of the name q; besides there are but lists -/
structure TabE (η : Eta) (P : Addr) (q : Str) : Prop where
  ex : ∃ ps : Array Value, η P = some (.oth (tblφ ps)) ∧ TriplesOk ps.toList ∧ ∀ (pos : Pos) (cv : Value), codeAmong pos ps.toList = some cv → ∃ c, cv = .ref c ∧ η c = some (.oth (codeφ q))
  only : ∀ p m, η p = some m → p ≠ P → (∃ ds, m = .lst ds ∨ m = .rl ds) ∨ m = .oth (codeφ q)
variable {K : PySem.W.Frag} {H H1 : Hp} {η : Eta} {P : Addr} {q : Str}
theorem TabE.tabs (t : TabE η P q) (b : HAb K H η) : LamX.Tabs [(P, q)] H := by
  intro p hp
  simp at hp
  subst hp
  obtain ⟨ps, h1, h2, h3⟩ := t.ex
  refine ⟨ps, (b _ _ h1).2 H Kt.refl rfl, h2, fun pos cv hc => ?_⟩
  obtain ⟨c, e, h4⟩ := h3 pos cv hc
  exact ⟨c, e, (b _ _ h4).2 H Kt.refl rfl⟩
theorem kt_ext (eN : LamX.ExtN H H1) : Kt K H H1 := by
  intro a xs h
  rcases h with (h | ⟨o, h⟩) | h
  · exact .inl (.inl (eN _ _ h fun ps z => (by cases z)))
  · exact .inl (.inr ⟨o, eN _ _ h fun ps z => (by cases z)⟩)
  · exact .inr h
open Classical in
theorem hab_code {c' : Addr} (b : HAb K H η) (t : TabE η P q) (eN : LamX.ExtN H H1) (T1 : LamX.Tabs [(P, q)] H1) (hc : H1 c' = some (LamX.CodeO c' q)) : ∃ η1, HAb K H1 η1 ∧ SubX P η η1 ∧ TabE η1 P q ∧ η1 c' = some (.oth (codeφ q)) := by
  obtain ⟨ps, hP, ht, ha⟩ := T1 _ (List.mem_cons_self ..)
  have kt : Kt K H H1 := kt_ext eN
  have old : ∀ p m, η p = some m → p ≠ P → MoOk K H1 p m ∧ (H1 p = some (LamX.CodeO p q) → m = .oth (codeφ q)) := by
    intro p m hm hp
    have h0 := b p m hm
    rcases t.only p m hm hp with ⟨ds, rfl | rfl⟩ | rfl
    · obtain ⟨vs, h1, h2⟩ := h0
      have h3 := eN _ _ h1 fun ps z => (by cases z)
      exact ⟨⟨vs, h3, h2.kt kt⟩, fun z => by rw [h3] at z; cases z⟩
    · obtain ⟨o, vs, h1, h2⟩ := h0
      have h3 := eN _ _ h1 fun ps z => (by cases z)
      exact ⟨⟨o, vs, h3, h2.kt kt⟩, fun z => by rw [h3] at z; cases z⟩
    · have h1 : H p = some (LamX.CodeO p q) := h0.2 H Kt.refl rfl
      have h3 := eN _ _ h1 fun ps => LamX.codeO_ne ps
      exact ⟨⟨by rw [h3]; simp, fun H' k e => e.trans h3⟩, fun _ => rfl⟩
  have hPc : ∀ c, H1 c = some (LamX.CodeO c q) → c ≠ P := fun c h e => by
    subst e
    rw [hP] at h
    cases h
  have code : ∀ c, H1 c = some (LamX.CodeO c q) → (if c = P then some (Mo.oth (tblφ ps)) else match η c with | some m => some m | none => if H1 c = some (LamX.CodeO c q) then some (.oth (codeφ q)) else none) = some (.oth (codeφ q)) := by
    intro c h
    rw [if_neg (hPc c h)]
    cases e : η c with
    | none => exact if_pos h
    | some m => rw [(old c m e (hPc c h)).2 h]
  refine ⟨fun p => if p = P then some (.oth (tblφ ps)) else match η p with | some m => some m | none => if H1 p = some (LamX.CodeO p q) then some (.oth (codeφ q)) else none, fun p m hm => ?_, fun p m hp hm => ?_, ⟨⟨ps, if_pos rfl, ht, fun pos cv h => ?_⟩, fun p m hm hp => ?_⟩, code c' hc⟩
  · dsimp only at hm
    by_cases hp : p = P
    · rw [if_pos hp] at hm
      cases hm
      subst hp
      exact ⟨by rw [hP]; simp, fun H' k e => e.trans hP⟩
    · rw [if_neg hp] at hm
      cases e : η p with
      | some m' =>
        rw [e] at hm
        cases hm
        exact (old p _ e hp).1
      | none =>
        rw [e] at hm
        dsimp only at hm
        by_cases h : H1 p = some (LamX.CodeO p q)
        · rw [if_pos h] at hm
          cases hm
          exact ⟨by rw [h]; simp, fun H' k e => e.trans h⟩
        · rw [if_neg h] at hm
          cases hm
  · show (if p = P then _ else _) = some m
    rw [if_neg hp, hm]
  · obtain ⟨c, e, h4⟩ := ha pos cv h
    exact ⟨c, e, code c h4⟩
  · rw [if_neg hp] at hm
    cases e : η p with
    | some m' =>
      rw [e] at hm
      cases hm
      exact t.only p _ e hp
    | none =>
      rw [e] at hm
      dsimp only at hm
      by_cases h : H1 p = some (LamX.CodeO p q)
      · rw [if_pos h] at hm
        cases hm
        exact .inr rfl
      · rw [if_neg h] at hm
        cases hm
variable {X : Cx} {N : List Str} {sc : Scope} {kk : Nat} {ρ : Rho} {Q : Dt → Eta → Prop}
/-- x(e1, lambda p: body), where x may raise -/
theorem ae_lam2 (A : At X N sc (kk + 2)) {x a1 a2 p : Str} {st : Stmt} {g cc : Addr} {fd : FuncData} {Ng : List Str} (F : Fun X.K x x st g fd) (Sg : FnScope Ng [a1, a2] (defScope st)) (hb : Binds X.K fd [a1, a2] []) (hm : X.mg x = some (.ref g)) (hg : sc.names.lookup x = some .globalImplicit)
    {R : Value → Eta → Prop} (ex : Ex X R) (TB : LamX.TabB X.base X.mg cc P) (hcode : X.env.code = .ref cc) (hq : X.env.qual ++ "<lambda>" = q) {params : Arguments} {body : Expr} {scope : Scope} (L : Lam1 sc scope p) (hp : p ∉ N) (hdef : defaultsOf params X.env = ([], []))
    (hbind : ∀ (q : Str) (cl : List (Str × Addr)) (pm cv ctv u : Value), bindArgs (PySem.W.kla_fn "<lambda>" q params body scope cl pm cv ctv) ⟨[u], []⟩ = pure [(p, u)]) {Pl : Dt → Eta → (Dt → Eta → Prop) → Prop}
    (hbody : ∀ X' : Cx, X'.prog = X.prog → X'.w = X.w → X'.K = X.K → X'.mg = X.mg → X'.base = X.base → At X' (N ++ [p]) scope kk → ∀ d η Q, Pl d η Q → AE X' body (ρ ++ [some d]) η Q)
    (hT : TabE η P q) (h1 : Ng[1]? = some a2) (hv : Vis (defScope st) a2) {e1 : Expr} {lpos pos px : Pos}
    (h : AE X e1 ρ η fun d1 η1 => η1 = η ∧ ∀ (f c' : Addr) (η2 : Eta) (Z : Cx), SubX P η η2 → TabE η2 P q → η2 c' = some (.oth (codeφ q)) → Z.prog = X.prog → Z.w = X.w → Z.K = X.K → Z.mg = X.mg → Z.base = X.base → At Z Ng (defScope st) (kk + 1) → (∀ y, Z.fn y = true) → Ex Z R →
      (∀ {e : Expr} {p1 p2 : Pos} {ρ : Rho} {η : Eta} {Q : Dt → Eta → Prop}, ρ[1]? = some (some (.ref f)) → starEach [e] Z.env = (false, eval e Z.env) :: starEach [] Z.env → (backTo p2 (starEach [] Z.env)).any (·.1) = false → AE Z e ρ η (fun d η1 => η1 c' = some (.oth (codeφ q)) ∧ Pl d η1 Q) → AE Z (.Call (.Name a2 p1) [e] [] p2) ρ η Q) →
      ASs Z (defBody st) ([some d1, some (.ref f)] ++ List.replicate (Ng.length - 2) none) η2 { nx := fun _ η' => ∃ η0, Sub η0 η' ∧ Q .non η0, rt := fun d η' => ∃ η0, Sub η0 η' ∧ Q d η0 })
    (hdb : (x == ("__debug__" : Str)) = false := by decide) (hd : (a2 == ("__debug__" : Str)) = false := by decide) (hcd : (a2 == ("__classdict__" : Str)) = false := by decide)
    (hs : starEach [e1, .Lambda params body scope lpos] X.env = (false, eval e1 X.env) :: (false, eval (.Lambda params body scope lpos) X.env) :: starEach [] X.env := by rfl) :
    AE X (.Call (.Name x px) [e1, .Lambda params body scope lpos] [] pos) ρ η Q := by
  have L' : Lam1 X.env.scope scope p := by rw [A.eS]; exact L
  have hp' : p ∉ X.N := by rw [A.eN]; exact hp
  refine ⟨fun σ H R0 v b o pins s I => ?_⟩
  refine wpAny_Call_Name_kw (ld_glob I (A.gl hg) hm ?_ hdb)
  refine PySem.W.callWith_K (h₀ := X.base) I.ok.mod.kin F.kp ?_ (by first | rfl | (rw [hs]; rfl)) (by rfl)
  rw [hs]
  show wpAny _ _ (spliced ((false, eval e1 X.env) :: (false, eval (.Lambda params body scope lpos) X.env) :: backTo pos (starEach [] X.env))) _ _ s
  refine Calls.spliced_cons (thn (h.run σ H (fun v1 H1 => Kt X.K H H1 ∧ HAb X.K H1 η ∧ ∃ d1, Im X.K H1 v1 d1 ∧ _) v b (fun d1 η1 v1 H1 k1 m1 b1 q1 => ⟨k1, q1.1 ▸ b1, d1, m1, q1.2⟩) pins s I) fun u1 s1 ⟨v1, H1, I1, ru1, k1, b1, d1, m1, hz⟩ => ?_)
  refine Calls.spliced_cons (LamX.lam_make2 I1 TB hcode (T := [(P, q)]) (by rw [hq]; exact List.mem_cons_self ..) (fun z hz _ => by simp at hz; rw [hz, hq]) (hT.tabs b1) hdef (L'.has I.ok) fun f c' pm' ctv H2 s2 I2 eN T1 hf hfn hfr hco => ?_)
  rw [hq] at hco
  refine Calls.spliced_nil ⟨I2.kIn, ?_⟩
  obtain ⟨η2, b2, sx, hT2, hc2⟩ := hab_code b1 hT eN T1 hco
  have k2 : Kt X.K H1 H2 := kt_ext eN
  obtain ⟨oc, od, kV, doc, pm, an, cdv, ct, osl, rfl, lk, hcd'⟩ := F.ex
  have rc : codeAny (model X.prog X.w) X.A (.call (.ref g) ⟨[u1, .ref f], []⟩) (CR (L2.CX X.prog X.w) X.stack X.prog X.w H2 s2 R0 (fun cls d H' => d = none ∧ Kt X.K H2 H' ∧ ∃ η', HAb X.K H' η' ∧ R cls η')) s2 := by
    refine LamX.run_ofS (N := Ng) (ps := [a1, a2]) (us := [u1, .ref f]) (vs := [v1, .ref f]) lk hcd' Sg (k := kk + 1) A.room I2.env0 (by have := hb s2 [u1, .ref f] I2.kIn rfl; rw [List.append_nil] at this; exact this) (.cons ru1 (.cons rfl .nil)) rfl fun hr' => ?_
    refine ⟨_, pssW _, ?_⟩
    have hZ : At (cxOf (L2.CX X.prog X.w) X.prog X.w X.K X.mg X.base Ng x (defScope st) g cdv X.A X.stack s2 H2 (fun cls d H' => d = none ∧ Kt X.K H2 H' ∧ ∃ η', HAb X.K H' η' ∧ R cls η')) Ng (defScope st) (kk + 1) := ⟨rfl, Sg.nd, rfl, rfl, hr', PassesOwn.leaving⟩
    have tk0 : Takes (cxOf (L2.CX X.prog X.w) X.prog X.w X.K X.mg X.base Ng x (defScope st) g cdv X.A X.stack s2 H2 (fun cls d H' => d = none ∧ Kt X.K H2 H' ∧ ∃ η', HAb X.K H' η' ∧ R cls η')) (fun cls d _ H' => d = none ∧ Kt X.K H2 H' ∧ ∃ η', HAb X.K H' η' ∧ R cls η') := takes_of rfl rfl rfl rfl
    have hb0 := hz f c' η2 (cxOf (L2.CX X.prog X.w) X.prog X.w X.K X.mg X.base Ng x (defScope st) g cdv X.A X.stack s2 H2 (fun cls d H' => d = none ∧ Kt X.K H2 H' ∧ ∃ η', HAb X.K H' η' ∧ R cls η')) sx hT2 hc2 rfl rfl rfl rfl rfl hZ (fun _ => rfl) ⟨tk0.imp fun c d σ H' z => z⟩
      (act1 I2 (v.kt (k1.trans k2)) L' hp' (by rw [A.eN]; exact A.nd) hf hfn hfr hq (fun u => hbind _ _ _ _ _ u) hr' (by rw [A.eN]; exact hbody) h1 hv hd hcd)
    refine hb0.run _ _ H2 (Vs.start (ds := [d1, .ref f]) (.cons (m1.kt k2) (.cons (.ref f) .nil)) _) b2 ⟨?_, ?_, fun _ _ _ _ _ _ _ z => z.elim, fun _ _ _ _ _ _ _ z => z.elim⟩
    · rintro ρ' η' σ' H' k' v' b' ⟨η0, s0, q0⟩
      exact o _ η0 _ H' ((k1.trans k2).trans k') .non (b'.sub s0) q0
    · rintro d η' v H' k' m' b' ⟨η0, s0, q0⟩
      exact o d η0 v H' ((k1.trans k2).trans k') m' (b'.sub s0) q0
  refine wpAny_call (codeAny_mono rc fun r s' hr => ?_)
  cases r with
  | error e => exact ex.tk e s' (XE.of_call (σ := σ) I2 (fun cls d H' hE => ⟨hE.1, (kt_inv I2).trans hE.2.1, hE.2.2⟩) hr)
  | ok fl =>
    cases fl with
    | ret u => exact I2.after hr
    | next => exact False.elim hr
    | brk => exact False.elim hr
    | cont => exact False.elim hr
end FgA
namespace FgA
open PySem PySem.Spec PyProof.Rows L2 Fg
local macro_rules | `(tactic| walk_at "n") => `(tactic| (refine is_name ?_; first
  | refine ae_nameV (by assumption) (by assumption) rfl rfl ?_
  | refine ae_glob (by assumption) (by assumption) ?_
  | refine ae_nameB (by assumption) rfl ?_))
local macro_rules | `(tactic| walk_at "set") => `(tactic| (refine is_set ?_; refine as_setV (by assumption) (by assumption) (by assumption) rfl ?_))
local macro_rules | `(tactic| walk_at "t") => `(tactic| first
  | (refine is_tgt ?_; refine ag_nameV (by assumption) (by assumption) (by assumption) rfl ?_)
  | refine ag_tup2 (by assumption) ?_
  | refine ag_tup3 (by assumption) ?_
  | refine ag_tup4 (by assumption) ?_)
local macro_rules | `(tactic| walk_at "e") => `(tactic| first
  | walk_at "n"
  | refine ae_int ?_
  | refine ae_str ?_
  | refine ae_sub' ?_
  | refine aa_cons ?_
  | refine aa_nil ?_
  | refine ae_add ?_
  | refine ae_sub ?_
  | refine ae_mul ?_
  | refine ae_mod ?_
  | refine ae_fdiv ?_
  | refine ae_tup ?_
  | refine ae_lst ?_
  | refine ae_slice ?_
  | refine ae_bl ?_
  | refine ae_non ?_
  | refine ae_len (by assumption) (by assumption) ?_
  | refine ae_abs (by assumption) (by assumption) ?_
  | refine ae_call (by assumption) (by assumption) ?_
  | refine addD_int ?_
  | (refine is_ii ?_; refine iiT trivial ?_)
  | refine szl_and rfl ?_
  | (refine is_sub ?_; first | refine subD_tup (ix0 rfl) ?_ | refine subD_tup (ix1 rfl) ?_ | refine subD_tup (ix2 rfl) ?_ | refine subD_tup (ix3 rfl) ?_))
local macro_rules | `(tactic| walk_at "h") => `(tactic| first
  | assumption
  | exact up_same
  | (refine up_new (by assumption) ?_; walk_at "h")
  | (refine up_old (by assumption) ?_; walk_at "h")
  | (refine up_old (Ne.symm (by assumption)) ?_; walk_at "h"))
local macro_rules | `(tactic| walk_at "f") => `(tactic| first
  | assumption
  | (apply free_up; walk_at "f"))
local macro_rules | `(tactic| walk_at "sub") => `(tactic| first
  | exact Sub.refl
  | (refine sub_both ?_; walk_at "sub")
  | (refine sub_new (by assumption) ?_; walk_at "sub"))
local macro_rules | `(tactic| walk_at "sx") => `(tactic| first
  | exact SubX.refl
  | (refine SubX.self ?_; walk_at "sx")
  | (refine SubX.new (by assumption) ?_; walk_at "sx"))
variable {X : Cx} {η : Eta} {Q0 : Dt → Eta → Prop}
def qM : Str := (envOfC "meet" (defScope s_meet) 0 0 .none).qual ++ "<lambda>"
def p_meet (P C : Addr) : ASpX := fun ds η Q R => ∃ T S : Tab, Valid T ∧ Valid S ∧ T.n ≤ 60 ∧ S.n ≤ 60 ∧ ds = [tabD T, tabD S] ∧ TabE η P qM ∧
  (∀ η', SubX P η η' → TabE η' P qM → (meetL T S).length ≤ 60 → Q (tabD (tabOf (ms T S) (mr T S) (meetL T S))) η') ∧ ∀ η', SubX P η η' → TabE η' P qM → R (.ref C) η'
instance : Slot (n_meet ++ [("pair" : Str)]) "one" 0 := ⟨rfl⟩
instance : Slot (n_meet ++ [("pair" : Str)]) "other" 1 := ⟨rfl⟩
instance : Slot (n_meet ++ [("pair" : Str)]) "pair" 2 := ⟨rfl⟩
def lam1B (sc scope : Scope) (p : Str) : Bool :=
  decide (scope.kind = .function) && !scope.isCoroutine && !scope.isGenerator && (scope.names.all fun y => !decide (y.2 = .cell) && (!decide (y.2 = .local) || decide (y.1 = p)) && (!decide (y.2 = .free) || decide (sc.names.lookup y.1 = some .cell) || decide (sc.names.lookup y.1 = some .free))) && decide (scope.names.lookup p = some .local)
theorem lam1_by {sc scope : Scope} {p : Str} (h : lam1B sc scope p = true) : Lam1 sc scope p := by
  unfold lam1B at h
  simp only [Bool.and_eq_true, Bool.or_eq_true, Bool.not_eq_true', decide_eq_true_eq, decide_eq_false_iff_not, List.all_eq_true] at h
  obtain ⟨⟨⟨⟨h1, h2⟩, h3⟩, h4⟩, h5⟩ := h
  refine ⟨h1, h2, h3, fun y hy => ⟨(h4 y hy).1.1, fun e => ?_⟩, h5, fun y hy e => ?_⟩
  · rcases (h4 y hy).1.2 with z | z
    · exact absurd e z
    · exact z
  · rcases (h4 y hy).2 with (z | z) | z
    · exact absurd e z
    · exact .inl z
    · exact .inr z
theorem b_meet {P C g cc : Addr} {fd : FuncData} {R : Value → Eta → Prop} (A : At X n_meet (defScope s_meet) 4) (B : Bt X) (ex : Ex X R) (F : Fun X.K "met_states" "met_states" s_met_states g fd) (hb : Binds X.K fd ["first", "behind"] []) (hm : X.mg "met_states" = some (.ref g)) (TB : LamX.TabB X.base X.mg cc P)
    (hcode : X.env.code = .ref cc) (hq : X.env.qual ++ "<lambda>" = qM) (f1 : FX X "led_pairs" 1 3 p_led_pairs) (O : Own X "TooMany" C) (gM : GV X "MOST" (.int 60)) {ds : List Dt} (h : p_meet P C ds η Q0 R) : ASs X (defBody s_meet) (ds.map some ++ List.replicate 0 none) η (ends Q0) := by
  obtain ⟨T, S, V, W, hT, hS, rfl, hTE, hQ, hR⟩ := h
  refine as_one (as_ret ?_)
  refine ae_lam2 (kk := 2) (Pl := fun d η Q => ∃ x : Nat × Nat, d = pairD x ∧ x.1 < T.n ∧ x.2 < S.n ∧ ∀ r, η r = none → Q (.ref r) (up η r (.lst [pairD (ms T S x), pairD (mr T S x)]))) A F sc_met_states hb hm rfl ex TB hcode hq (lam1_by (by decide +kernel)) (by decide +kernel) rfl (fun _ _ _ _ _ _ => rfl) ?_ hTE rfl (.inl rfl) ?_
  · rintro X' e1 e2 e3 e4 e5 A' d η Q ⟨x, rfl, h1, h2, hq⟩
    have f1' : FX X' "led_pairs" 1 3 p_led_pairs := by
      show FA X'.prog X'.w X'.K X'.mg X'.base _ _ _ _
      rw [e1, e2, e3, e4, e5]
      exact f1
    repeat walk_at "e"
    exact ⟨rfl, T, S, x, V, W, h1, h2, rfl, hq⟩
  · repeat walk_at "e"
    refine ⟨rfl, fun f c' η2 Z sx hT2 hc2 z1 z2 z3 z4 z5 AZ hfZ exZ act => ?_⟩
    have BZ : Bt Z := ⟨z4 ▸ B.len, z4 ▸ B.abs, z4 ▸ B.min, z4 ▸ B.max, z4 ▸ B.int, z4 ▸ B.range, z4 ▸ B.enumerate, z4 ▸ B.list, z4 ▸ B.tuple, z4 ▸ B.dict, z4 ▸ B.any⟩
    have gZ : GV Z "MOST" (.int 60) := by
      obtain ⟨v, u, h1, h2, h3⟩ := gM.ex
      exact ⟨v, u, by rw [z4]; exact h1, h2, by rw [z3]; exact h3⟩
    have OZ : Own Z "TooMany" C := ⟨by rw [z4]; exact O.mg, by rw [z3]; exact O.ex, by rw [z3]; exact O.kp, by rw [z3]; exact O.sb, by rw [z3]; exact O.ty⟩
    have Bh : Beh Z T S f c' qM := ⟨fun hρ he hpl h => act hρ he hpl (h.mono fun d η1 ⟨x, e, a, b, c, r⟩ => ⟨c, x, e, a, b, r⟩)⟩
    exact b_met_states AZ BZ hfZ gZ V W hT hS Bh exZ OZ hc2 (fun hlen => ⟨η2, Sub.refl, hQ η2 sx hT2 hlen⟩) (hR η2 sx hT2)
/-! ### told: what the meet tells, or nothing -/
def p__law_told (P : Addr) : ASp := fun ds η Q => ∃ T S : Tab, Valid T ∧ Valid S ∧ T.n ≤ 60 ∧ S.n ≤ 60 ∧ ds = [tabD T, tabD S] ∧ TabE η P qM ∧
  ∀ η' d, SubX P η η' → TabE η' P qM → (d = .non ∨ (d = tabD (tabOf (ms T S) (mr T S) (meetL T S)) ∧ (meetL T S).length ≤ 60)) → Q d η'
def toldB : List Stmt := match defBody s__law_told with
  | [.Try b _ _ _ _] => b
  | _ => []
theorem fa_told {Pr : Program} {w : World} {K : PySem.W.Frag} {mg : Str → Option Value} {base : Heap} {f P C : Addr} {fd : FuncData} (F : Fun K "_law_told" "_law_told" s__law_told f fd) (hb : Binds K fd ["_law_one", "_law_other"] []) (hm : mg "_law_told" = some (.ref f)) (fm : FAX Pr w K mg base "meet" 5 2 (p_meet P C))
    (mgC : mg "TooMany" = some (.ref C)) (exm : PySem.W.exmOne K (.ref C) (.ref C) = some true) : FA Pr w K mg base "_law_told" 6 2 (p__law_told P) := by
  refine ⟨f, fd, ["_law_one", "_law_other"], rfl, F.ok sc__law_told (fun vs H Q E h => h.1) ?_, hm, F.kp, hb⟩
  intro cdv A outer s H vs Q E hr hsp
  obtain ⟨hl, ds, η, Q0, m, b, ⟨T, S, V, W, hT, hS, rfl, hTE, hQN⟩, o⟩ := hsp
  have hQ : ∀ η', SubX P η η' → TabE η' P qM → (meetL T S).length ≤ 60 → Q0 (tabD (tabOf (ms T S) (mr T S) (meetL T S))) η' := fun η' a b c => hQN η' _ a b (.inr ⟨rfl, c⟩)
  have hN : ∀ η', SubX P η η' → TabE η' P qM → Q0 .non η' := fun η' a b => hQN η' _ a b (.inl rfl)
  refine ⟨_, pss_one (ps_try_only (X := (cxOf CX0 Pr w K mg base n__law_told "_law_told" (defScope s__law_told) f cdv A outer s H E).nox) (c := .ref C) (body := toldB)
    (tb := fun W D σ H' => ∀ pn xe, Takes ((cxOf CX0 Pr w K mg base n__law_told "_law_told" (defScope s__law_told) f cdv A outer s H E).nox.tr pn xe) W → PassesOwn (model Pr w) (cxOf CX0 Pr w K mg base n__law_told "_law_told" (defScope s__law_told) f cdv A outer s H E).nox.A (cxOf CX0 Pr w K mg base n__law_told "_law_told" (defScope s__law_told) f cdv A outer s H E).nox.env xe → tWSs ((cxOf CX0 Pr w K mg base n__law_told "_law_told" (defScope s__law_told) f cdv A outer s H E).nox.tr pn xe) toldB D σ H')
    rfl rfl ⟨rfl, by decide, .inl mgC⟩ takes0 (fun W pn xe tk po => ⟨fun pins s σ H D I h => h pn xe tk po pins s I⟩) (fun a oe cls d pn _ _ => pss_one (ps_ret pe_non))), ?_⟩
  intro pn xe tk po
  have A1 : At ((cxOf CX0 Pr w K mg base n__law_told "_law_told" (defScope s__law_told) f cdv A outer s H E).nox.tr pn xe) n__law_told (defScope s__law_told) 5 := ⟨rfl, sc__law_told.nd, rfl, rfl, hr, po⟩
  have ex1 : Ex ((cxOf CX0 Pr w K mg base n__law_told "_law_told" (defScope s__law_told) f cdv A outer s H E).nox.tr pn xe) (fun cls η' => cls = .ref C ∧ Q0 .non η') := by
    refine ⟨tk.imp fun c d σ H' z => ?_⟩
    obtain ⟨e, kt, η', hab, rfl, q⟩ := z
    exact ⟨true, exm, fun _ a _ => o .non η' .non H' kt .non hab q, fun z => (by cases z)⟩
  have V0 := v__law_told
  have hAS : ASs ((cxOf CX0 Pr w K mg base n__law_told "_law_told" (defScope s__law_told) f cdv A outer s H E).nox.tr pn xe) toldB ([tabD T, tabD S].map some ++ List.replicate 0 none) η { nx := fun _ _ => False, rt := Q0 } := by
    refine as_one (as_ret (ae_callX A1 fm ex1 ?_))
    repeat walk_at "e"
    exact ⟨rfl, T, S, V, W, hT, hS, rfl, hTE, hQ, fun η' h1 h2 => ⟨rfl, hN η' h1 h2⟩⟩
  have e : L2.start n__law_told vs = vs.map some ++ List.replicate 0 none := by unfold L2.start; rw [hl]; rfl
  rw [e]
  exact hAS.run _ _ H (Vs.start m _) b ⟨fun _ _ _ _ _ _ _ z => z.elim, o, fun _ _ _ _ _ _ _ z => z.elim, fun _ _ _ _ _ _ _ z => z.elim⟩
end FgA
namespace FgA
open PySem PySem.Spec PyProof.Rows L2 Fg
local macro_rules | `(tactic| walk_at "n") => `(tactic| (refine is_name ?_; first
  | refine ae_nameV (by assumption) (by assumption) rfl rfl ?_
  | refine ae_glob (by assumption) (by assumption) ?_
  | refine ae_nameB (by assumption) rfl ?_))
local macro_rules | `(tactic| walk_at "set") => `(tactic| (refine is_set ?_; refine as_setV (by assumption) (by assumption) (by assumption) rfl ?_))
local macro_rules | `(tactic| walk_at "t") => `(tactic| first
  | (refine is_tgt ?_; refine ag_nameV (by assumption) (by assumption) (by assumption) rfl ?_)
  | refine ag_tup2 (by assumption) ?_
  | refine ag_tup3 (by assumption) ?_
  | refine ag_tup4 (by assumption) ?_)
local macro_rules | `(tactic| walk_at "e") => `(tactic| first
  | walk_at "n"
  | refine ae_int ?_
  | refine ae_str ?_
  | refine ae_sub' ?_
  | refine aa_cons ?_
  | refine aa_nil ?_
  | refine ae_add ?_
  | refine ae_sub ?_
  | refine ae_mul ?_
  | refine ae_mod ?_
  | refine ae_fdiv ?_
  | refine ae_tup ?_
  | refine ae_lst ?_
  | refine ae_slice ?_
  | refine ae_bl ?_
  | refine ae_non ?_
  | refine ae_len (by assumption) (by assumption) ?_
  | refine ae_abs (by assumption) (by assumption) ?_
  | refine ae_call (by assumption) (by assumption) ?_
  | refine addD_int ?_
  | (refine is_ii ?_; refine iiT trivial ?_)
  | refine szl_and rfl ?_
  | (refine is_sub ?_; first | refine subD_tup (ix0 rfl) ?_ | refine subD_tup (ix1 rfl) ?_ | refine subD_tup (ix2 rfl) ?_ | refine subD_tup (ix3 rfl) ?_))
local macro_rules | `(tactic| walk_at "h") => `(tactic| first
  | assumption
  | exact up_same
  | (refine up_new (by assumption) ?_; walk_at "h")
  | (refine up_old (by assumption) ?_; walk_at "h")
  | (refine up_old (Ne.symm (by assumption)) ?_; walk_at "h"))
local macro_rules | `(tactic| walk_at "f") => `(tactic| first
  | assumption
  | (apply free_up; walk_at "f"))
local macro_rules | `(tactic| walk_at "sub") => `(tactic| first
  | exact Sub.refl
  | (refine sub_both ?_; walk_at "sub")
  | (refine sub_new (by assumption) ?_; walk_at "sub"))
local macro_rules | `(tactic| walk_at "sx") => `(tactic| first
  | exact SubX.refl
  | (refine SubX.self ?_; walk_at "sx")
  | (refine SubX.new (by assumption) ?_; walk_at "sx"))
variable {X : Cx} {η : Eta} {Q0 : Dt → Eta → Prop}
theorem TabE.up {P : Addr} {q : Str} {p : Addr} {ds : List Dt} (t : TabE η P q) (hp : η p = none) : TabE (FgA.up η p (.lst ds)) P q := by
  obtain ⟨ps, h1, h2, h3⟩ := t.ex
  refine ⟨⟨ps, up_new hp h1, h2, fun pos cv h => ?_⟩, fun z m hm hz => ?_⟩
  · obtain ⟨c, e, hc⟩ := h3 pos cv h
    exact ⟨c, e, up_new hp hc⟩
  · by_cases e : z = p
    · subst e; rw [up_same] at hm; cases hm; exact .inl ⟨_, .inl rfl⟩
    · rw [up_ne e] at hm; exact t.only z m hm hz
theorem okd_tup {n : Nat} {l : List Dt} (h : ∀ x ∈ l, okd n x = true) : okd (n + 1) (.tup l) = true := by
  simp only [okd, List.all_eq_true]
  exact h
theorem okd_tab (n : Nat) (T : Tab) : okd (n + 2) (tabD T) = true := by
  refine okd_tup fun x hx => ?_
  simp only [List.mem_cons, List.not_mem_nil, or_false] at hx
  rcases hx with rfl | rfl
  · exact okd_tup (okd_nDs _ _)
  · exact okd_tup (okd_nDs _ _)
theorem okd_closed (T : Tab) : okd 4 (.tup [.str "closed", tabD T]) = true := by
  refine okd_tup fun x hx => ?_
  simp only [List.mem_cons, List.not_mem_nil, or_false] at hx
  rcases hx with rfl | rfl
  · exact okd_str (by decide +kernel)
  · exact okd_tab 1 T
theorem tab_len {T : Tab} : (T.hs.map nD).length = T.n := by rw [List.length_map]; rfl
/-- a turning by a word that is told -/
theorem wok_of {M : Mat} {u v : Wd} (h : Nrm M) (e : Eqv (ev u) M) (hu : u.length ≤ 100) (w : WordOf M v) : WOk M v := by
  obtain ⟨_, _, s3, _⟩ := (small_word u).eqv e
  have h1 : 2 ^ u.length ≤ 2 ^ 100 := Nat.pow_le_pow_right (by decide) hu
  have h2 : (2 : Nat) ^ 100 < 2 ^ 8000 := Nat.pow_lt_pow_right (by decide) (by decide)
  refine ⟨h.1, ?_, Nat.lt_of_le_of_lt (Nat.le_trans s3 h1) h2, w⟩
  rcases h.2 with z | z <;> omega
theorem fan_turns {T : Tab} {fr : List Fr} {mk : List Mk} (K : FanOk T fr mk) {v : Nat → Wd} (W : FanWords T (own mk) (glueM fr mk) v) : ∀ i ∈ own mk, WOk (glueM fr mk i) (v i) ∧ (v i).length ≤ 200 := by
  obtain ⟨gw, h1, _⟩ := K.words
  intro i hi
  obtain ⟨a1, a2, _, a4⟩ := h1 i hi
  obtain ⟨b1, b2⟩ := W.told i hi
  exact ⟨wok_of a1 a2 (by omega) b1, by omega⟩
theorem turns_one {is : List Nat} {g : Nat → Mat} {v : Nat → Wd} (h : ∀ i ∈ is, WOk (g i) (v i) ∧ (v i).length ≤ 200) : Turns (is.map g) (is.map v) := by
  refine ⟨by simp, fun i M w h1 h2 => ?_⟩
  rw [List.getElem?_map] at h1 h2
  obtain ⟨x, hx, rfl⟩ := Option.map_eq_some_iff.mp h1
  rw [hx] at h2
  cases h2
  exact h x (List.mem_of_getElem? hx)
theorem turns_two {ms ms' : List Mat} {ws ws' : List Wd} (a : Turns ms ws) (b : Turns ms' ws') : Turns (ms ++ ms') (ws ++ ws') := by
  refine ⟨by rw [List.length_append, List.length_append, a.ln, b.ln], fun i M w h1 h2 => ?_⟩
  by_cases hi : i < ms.length
  · rw [List.getElem?_append_left hi] at h1
    rw [List.getElem?_append_left (by rw [a.ln]; exact hi)] at h2
    exact a.ok i M w h1 h2
  · rw [List.getElem?_append_right (by omega)] at h1
    rw [List.getElem?_append_right (by rw [a.ln]; omega), a.ln] at h2
    exact b.ok _ M w h1 h2
def p_law (K : PySem.W.Frag) (P : Addr) : ASp := fun ds η Q => ∃ (r : Addr) (sc : List Int), ds = [.ref r] ∧ Scr K η r sc ∧ sc.length ≤ 1000 ∧ r ≠ P ∧ TabE η P qM ∧ ∀ η', Q (.bl true) η'
set_option maxHeartbeats 8000000 in
theorem b_law {P : Addr} (A : At X n_law (defScope s_law) 7) (B : Bt X) (hf : ∀ y, X.fn y = true) (f1 : FX X "_law_big" 2 2 (p__law_big X.K)) (f2 : FX X "_law_drawn" 4 1 p__law_drawn) (f3 : FX X "_law_digit" 1 2 p__law_digit) (f4 : FX X "_law_word" 2 2 p__law_word) (f5 : FX X "_law_turning" 2 1 p__law_turning)
    (f6 : FX X "turned" 5 2 p_turned) (f7 : FX X "_law_told" 6 2 (p__law_told P)) (f8 : FX X "_law_turnings" 7 1 p__law_turnings) (f9 : FX X "folded" 4 1 p_folded) (f10 : FX X "is_within" 1 2 p_is_within) {ds : List Dt} (h : p_law X.K P ds η Q0) :
    ASs X (defBody s_law) (ds.map some ++ List.replicate 7 none) η (ends Q0) := by
  have V0 := v_law
  obtain ⟨r, sc, rfl, hr, hl, hrP, hTE, h⟩ := h
  refine as_cons (as_for A (ai_range1 A B (ae_max A B ?_)))
  repeat walk_at "e"
  refine ae_min A B ?_
  walk_at "e"
  refine ae_lenS A B ?_
  walk_at "e"
  refine ⟨r, sc, rfl, hr, ?_⟩
  refine ⟨_, _, rfl, rfl, _, _, rfl, rfl, ?_⟩
  have hn3 : ∀ j : Int, j = (if (sc.length : Int) < 3 then (sc.length : Int) else 3) → (if j > 1 then j else 1) ≤ 3 ∧ 1 ≤ (if j > 1 then j else 1) := by
    intro j hj
    subst hj
    split <;> split <;> omega
  obtain ⟨hb1, hb2⟩ := hn3 _ rfl
  refine ⟨_, rfl, by omega, by omega, fun i ρ η' => ∃ (η0 : Eta) (x1 x2 x3 x4 x5 x6 x7 : Option Dt), ρ = [some (.ref r), x1, x2, x3, x4, x5, x6, x7] ∧ Sub η0 η' ∧ TabE η0 P qM ∧ Scr X.K η0 r sc, ?_, ?_, ?_, ?_⟩
  · exact ⟨η, none, none, none, none, none, none, none, rfl, Sub.refl, hTE, hr⟩
  · intros; trivial
  · rintro i d ρ η' hi rfl ⟨η0, x1, x2, x3, x4, x5, x6, x7, rfl, sb, hT0, hr0⟩
    rw [show (0 : Int) + (i : Nat) = (i : Nat) by omega]
    walk_at "t"
    refine ass_forget sb ?_
    refine as_cons ?_
    walk_at "set"
    repeat walk_at "e"
    refine ⟨rfl, r, sc, i, rfl, hr0, fun n => ?_⟩
    repeat walk_at "e"
    intro p hp
    refine as_cons ?_
    walk_at "set"
    repeat walk_at "e"
    refine ⟨rfl, p, n, rfl, up_same, fun T0 n2 VT0 hT0n => ?_⟩
    rw [up_up]
    refine as_cons ?_
    walk_at "set"
    repeat walk_at "e"
    refine ⟨rfl, p, n2, rfl, up_same, fun S n3 VS hSn => ?_⟩
    rw [up_up]
    refine as_cons (as_ifJ (fun ρ1 η1 => ∃ (T : Tab) (n' : Nat), ρ1 = [some (.ref r), some (nD i), some (.ref p), some (tabD T), some (tabD S), x5, x6, x7] ∧ Valid T ∧ T.n ≤ 60 ∧ η1 = up η0 p (.lst [nD n'])) (at_eq A ?_) ?_)
    · repeat walk_at "e"
      refine ⟨rfl, p, n3, 3, rfl, up_same, by decide, by decide, fun d n4 hd => ?_⟩
      rw [up_up]
      repeat walk_at "e"
      refine ⟨cmpr_of rfl rfl, fun z => ?_, fun z => ?_⟩
      · refine as_one ?_
        walk_at "set"
        repeat walk_at "e"
        refine ⟨rfl, p, n4, rfl, up_same, fun w n5 hw => ?_⟩
        rw [up_up]
        repeat walk_at "e"
        refine ⟨rfl, w, rfl, by omega, ?_⟩
        repeat walk_at "e"
        have hN : Nrm (ev w).norm := norm_nrm _ (ev_det w)
        have hE : Eqv (ev w) (ev w).norm := (norm_eqv _).symm
        have hrun := VT0.run_lt (red w) VT0.pos
        obtain ⟨_, _, _, V', hn'⟩ := anew_met VT0 hrun
        exact ⟨rfl, T0, _, red w, VT0, by omega, wok_of hN hE (by omega) (word_told hN hE (by omega)), rfl, _, n5, rfl, V', by omega, rfl⟩
      · exact as_nil ⟨T0, n4, rfl, VT0, hT0n, rfl⟩
    rintro ρ1 η1 ⟨T, n', rfl, VT, hTn, rfl⟩
    have hT1 : TabE (up η0 p (.lst [nD n'])) P qM := hT0.up hp
    have hr1 : Scr X.K (up η0 p (.lst [nD n'])) r sc := hr0.sub (Sub.up hp)
    generalize up η0 p (.lst [nD n']) = η1 at hT1 hr1
    refine as_cons ?_
    walk_at "set"
    repeat walk_at "e"
    refine ⟨rfl, T, S, VT, VS, hTn, hSn, rfl, hT1, fun η2 dB sx hT2 hdB => ?_⟩
    have hr2 : Scr X.K η2 r sc := hr1.imp (fun z => z.imp (fun z => sx r _ hrP z) fun z => sx r _ hrP z) fun z => z
    refine as_cons (as_ifJ (fun ρ1 η3 => ∃ y6, ρ1 = [some (.ref r), some (nD i), some (.ref p), some (tabD T), some (tabD S), some dB, y6, x7] ∧ Sub η2 η3) (at_notN ?_) ?_)
    · repeat walk_at "e"
      refine ⟨fun hne => ?_, fun _ => as_nil ⟨x6, rfl, Sub.refl⟩⟩
      rcases hdB with e | ⟨rfl, hlen⟩
      · exact absurd e hne
      obtain ⟨_, _, VU⟩ := meet_met VT VS
      have hUn : (tabOf (ms T S) (mr T S) (meetL T S)).n ≤ 60 := by rw [tabOf_n]; exact hlen
      generalize tabOf (ms T S) (mr T S) (meetL T S) = U at VU hUn
      refine as_cons ?_
      walk_at "set"
      repeat walk_at "e"
      refine ⟨rfl, U, VU, hUn, rfl, fun fr mk K q hq => ?_⟩
      obtain ⟨v, W⟩ := fan_words VU K
      have hTu := turns_one (fan_turns K W)
      refine as_one (as_if (at_bool (aw_and (at_lt ?_))))
      repeat walk_at "e"
      have hol : (own mk).length ≤ 22 := by
        have hhi := K.hi
        have hln := K.ln
        unfold own
        refine Nat.le_trans (List.length_filter_le _ _) ?_
        simp; omega
      refine len_l up_same (by rw [List.length_map]; omega) ?_
      rw [List.length_map]
      repeat walk_at "e"
      refine ⟨_, _, rfl, rfl, fun z => ?_, fun _ => as_nil ⟨_, rfl, Sub.up hq⟩⟩
      refine aw_and1 (at_ne A ?_)
      repeat walk_at "e"
      refine ⟨rfl, q, (own mk).map (glueM fr mk), (own mk).map v, rfl, by rw [up_same, List.map_map]; rfl, by rw [List.length_map]; omega, hTu, fun G hG => (fold_one VU W hG).1, fun G hG => ?_⟩
      rw [(fold_one VU W hG).2]
      repeat walk_at "e"
      exact ⟨cmpr_of (okd_closed U) (okd_closed U), fun z => absurd rfl z, fun _ => as_nil ⟨_, rfl, Sub.up hq⟩⟩
    rintro ρ1 η3 ⟨y6, rfl, s3⟩
    refine as_cons ?_
    walk_at "set"
    repeat walk_at "e"
    refine ⟨rfl, T, VT, hTn, rfl, fun fr mk K q hq => ?_⟩
    repeat walk_at "e"
    refine ⟨rfl, S, VS, hSn, rfl, fun fr' mk' K' q' hq' => ?_⟩
    have hq2 : up (up η3 q (.lst ((own mk).map fun i => matD (glueM fr mk i)))) q' (.lst ((own mk').map fun i => matD (glueM fr' mk' i))) q = some (.lst ((own mk).map fun i => matD (glueM fr mk i))) := up_new hq' up_same
    have hol : (own mk).length ≤ 22 := by
      have hhi := K.hi
      have hln := K.ln
      unfold own
      refine Nat.le_trans (List.length_filter_le _ _) ?_
      simp; omega
    have hol' : (own mk').length ≤ 22 := by
      have hhi := K'.hi
      have hln := K'.ln
      unfold own
      refine Nat.le_trans (List.length_filter_le _ _) ?_
      simp; omega
    refine addD_lst hq2 up_same (szl (Nat.ble_eq.mpr (by rw [List.length_map, List.length_map]; omega))) fun q3 hq3 => ?_
    have s4 : Sub η2 (up (up (up η3 q (.lst ((own mk).map fun i => matD (glueM fr mk i)))) q' (.lst ((own mk').map fun i => matD (glueM fr' mk' i)))) q3 (.lst (((own mk).map fun i => matD (glueM fr mk i)) ++ ((own mk').map fun i => matD (glueM fr' mk' i))))) := sub_new hq3 (sub_new hq' (sub_new hq s3))
    have hq4 : up (up (up η3 q (.lst ((own mk).map fun i => matD (glueM fr mk i)))) q' (.lst ((own mk').map fun i => matD (glueM fr' mk' i)))) q3 (.lst (((own mk).map fun i => matD (glueM fr mk i)) ++ ((own mk').map fun i => matD (glueM fr' mk' i)))) q3 = some (.lst (((own mk).map fun i => matD (glueM fr mk i)) ++ ((own mk').map fun i => matD (glueM fr' mk' i)))) := up_same
    generalize up (up (up η3 q (.lst ((own mk).map fun i => matD (glueM fr mk i)))) q' (.lst ((own mk').map fun i => matD (glueM fr' mk' i)))) q3 (.lst (((own mk).map fun i => matD (glueM fr mk i)) ++ ((own mk').map fun i => matD (glueM fr' mk' i)))) = η4 at s4 hq4
    have hll : (((own mk).map fun i => matD (glueM fr mk i)) ++ ((own mk').map fun i => matD (glueM fr' mk' i))).length = (own mk).length + (own mk').length := by rw [List.length_append, List.length_map, List.length_map]
    refine as_one (as_if (at_lt ?_))
    repeat walk_at "e"
    refine len_l hq4 (by rw [hll]; omega) ?_
    rw [hll]
    repeat walk_at "e"
    refine ⟨_, _, rfl, rfl, fun z => ?_, fun _ => as_nil ⟨η2, _, _, _, _, _, _, _, rfl, s4, hT2, hr2⟩⟩
    obtain ⟨v, W⟩ := fan_words VT K
    obtain ⟨v', W'⟩ := fan_words VS K'
    have hTu := turns_two (turns_one (fan_turns K W)) (turns_one (fan_turns K' W'))
    refine as_cons ?_
    walk_at "set"
    repeat walk_at "e"
    refine ⟨rfl, q3, (own mk).map (glueM fr mk) ++ (own mk').map (glueM fr' mk'), (own mk).map v ++ (own mk').map v', rfl, by rw [hq4, List.map_append, List.map_map, List.map_map]; rfl, by rw [List.length_append, List.length_map, List.length_map]; omega, hTu, fun G hG => (fold_two VT VS W W' hG).1, fun G hG => ?_⟩
    obtain ⟨_, VF, oT, oS, dT, dS⟩ := fold_two VT VS W W' hG
    generalize foldTab G = FT at VF oT oS dT dS
    have hFp := VF.pos
    refine as_cons (as_ifS (at_bool (aw_or (at_ne A ?_))) ?_)
    · repeat walk_at "e"
      refine ⟨cmpr_of (okd_str (by decide +kernel)) (okd_str (by decide +kernel)), fun z => absurd rfl z, fun _ => ?_⟩
      refine aw_or (at_not (at_val ?_))
      repeat walk_at "e"
      refine ⟨rfl, T, FT, VT, VF, oT, by omega, rfl, true, rfl, fun _ => ?_, fun z => (by cases z)⟩
      refine aw_or1 (at_not (at_val ?_))
      repeat walk_at "e"
      exact ⟨rfl, S, FT, VS, VF, oS, by omega, rfl, true, rfl, fun _ => Sub.refl, fun z => (by cases z)⟩
    refine as_nil ?_
    have hFn : FT.n ≤ 60 := Nat.le_trans (Nat.le_of_dvd VT.pos dT) hTn
    refine as_one (as_ifS (at_bool (aw_or (at_gt ?_))) ?_)
    · repeat walk_at "e"
      refine len_t (by rw [tab_len]; omega) ?_
      rw [tab_len]
      repeat walk_at "e"
      refine len_t (by rw [tab_len]; omega) ?_
      rw [tab_len]
      refine iiT (by omega) ?_
      rw [emod_nat _ _ hFp, Nat.mod_eq_zero_of_dvd dT]
      repeat walk_at "e"
      refine ⟨_, _, rfl, rfl, fun z => absurd z (by decide), fun _ => ?_⟩
      refine aw_or1 (at_gt ?_)
      repeat walk_at "e"
      refine len_t (by rw [tab_len]; omega) ?_
      rw [tab_len]
      repeat walk_at "e"
      refine len_t (by rw [tab_len]; omega) ?_
      rw [tab_len]
      refine iiT (by omega) ?_
      rw [emod_nat _ _ hFp, Nat.mod_eq_zero_of_dvd dS]
      repeat walk_at "e"
      exact ⟨_, _, rfl, rfl, fun z => absurd z (by decide), fun _ => Sub.refl⟩
    exact as_nil ⟨η2, _, _, _, _, _, _, _, rfl, s4, hT2, hr2⟩
  · rintro ρ η' ⟨η0, x1, x2, x3, x4, x5, x6, x7, rfl, _⟩
    refine as_one (as_ret ?_)
    repeat walk_at "e"
    exact ⟨fun _ => none, fun _ _ e => (by cases e), h _⟩
end FgA
set_option Elab.async false
set_option linter.all false
set_option maxRecDepth 100000
/-! FgEnd: each def of the program keeps its promise (printed by gen_end.py); the law's end. -/
namespace FgA
open PySem PySem.Spec PyProof.Rows L2 Fg
structure HX (w : World) (K : PySem.W.Frag) (mg : Str → Option Value) : Prop where
  fact : ∀ f ∈ Fg.fa, f.ok K = true
  defs : ∀ d ∈ Fg.fn, ∃ fd, L2.FunD K d.name d.qual d.params d.body d.scope (d.dvs K) (d.kws K) (He.fAd K d.at_) fd
  pow : ∃ es n, KDict K w (He.ga K "POWERS") es n
  more : ex2 K = true
  glo : ∀ x, (He.Fa.glo x).ok K = true → mg x = some (.ref (He.ga K x))
  fre : ∀ x, (He.Fa.free x).ok K = true → mg x = none
  int : ∀ x i, (He.Fa.int x i).ok K = true → ∃ t, mg x = some (.int i t)
theorem hx_of {w : World} {K : PySem.W.Frag} {h h0 : Heap} {mg : Str → Option Value} (X : K.In h) (G : h.Ns mainGlobals mg) (c : He.SaysX Fg.fa Fg.fn tabs tf ex2 w h0 K) : HX w K mg :=
  ⟨fun f hf => c.t.d.facts hf, fun d hd => c.t.d.defs hd, c.t.tab 0, c.more, fun x h => He.glo_ok X G h, fun x h => He.free_ok X G h, fun x i h => He.int_ok X G h⟩
section
variable {Pr : Program} {w : World} {K : PySem.W.Frag} {mg : Str → Option Value} {base : Heap}
theorem HX.at (Z : HX w K mg) (i : Nat) {f : He.Fa} (h : Fg.fa[i]? = some f := by rfl) : f.ok K = true := Z.fact f (List.mem_of_getElem? h)
theorem fun_of {x q : Str} {st : Stmt} {kws : List (Str × V)} {f : Addr} {fd : FuncData} (F : L2.FunD K x q (defArgs st) (defBody st) (defScope st) [] kws f fd) : Fun K x q st f fd := by
  obtain ⟨oc, od, dV, kV, doc, pm, an, cdv, ct, osl, h1, h2, h3, h4, h5⟩ := F.ex
  rcases h4 with ⟨_, rfl⟩ | ⟨e, _⟩
  · exact ⟨⟨oc, od, kV, doc, pm, an, cdv, ct, osl, h1, h2, h3⟩, F.kp⟩
  · exact absurd rfl e
def Def1 (K : PySem.W.Frag) (mg : Str → Option Value) (x : Str) (st : Stmt) (ps : List Str) : Prop := ∃ fd, Fun K x x st (He.ga K x) fd ∧ Binds K fd ps [] ∧ mg x = some (.ref (He.ga K x))
theorem def1 {x : Str} {st : Stmt} {ps : List Str} (hd : ∃ fd, L2.FunD K x x (defArgs st) (defBody st) (defScope st) [] [] (He.ga K x) fd) (g : mg x = some (.ref (He.ga K x)))
    (h : ∀ (kV doc pm : Value) (an : Option Addr) (cdv ct : Value) (us : List Value), us.length = ps.length → bindArgs (PySem.W.fnOf x x (defArgs st) (defBody st) (defScope st) .none kV doc pm an cdv ct) ⟨us, []⟩ = pure (ps.zip us)) : Def1 K mg x st ps := by
  obtain ⟨fd, F⟩ := hd
  exact ⟨fd, fun_of F, (fun_of F).binds h, g⟩
/-- a def keeps its promise, wherever it stands -/
theorem fn_mk {x qual : Str} {st : Stmt} {f : Addr} {fd : FuncData} {N ps : List Str} {k n : Nat} {a : ASp} (F : Fun K x qual st f fd) (S : FnScope N ps (defScope st)) (hn : ps.length = n)
    (body : ∀ X : Cx, X.prog = Pr → X.w = w → X.K = K → X.mg = mg → X.base = base → At X N (defScope st) k → (∀ y, X.fn y = true) → ∀ ds η Q0, a ds η Q0 →
      ASs X (defBody st) (ds.map some ++ List.replicate (N.length - n) none) η (ends Q0)) : FnOk Pr w K mg base CX0 (k + 1) f fd ps (Lift K n a) := by
  refine F.ok S (fun vs H Q E h => h.1.trans hn.symm) ?_
  intro cdv A outer s H vs Q E hr hsp
  obtain ⟨hl, ds, η, Q0, m, b, q, o⟩ := hsp
  refine ⟨_, pssW _, ?_⟩
  have At0 : At (cxOf CX0 Pr w K mg base N qual (defScope st) f cdv A outer s H E).nox N (defScope st) k := ⟨rfl, S.nd, rfl, rfl, hr, PassesOwn.never⟩
  have hb' := body (cxOf CX0 Pr w K mg base N qual (defScope st) f cdv A outer s H E).nox rfl rfl rfl rfl rfl At0 (fun _ => rfl) ds η Q0 q
  have e : L2.start N vs = vs.map some ++ List.replicate (N.length - n) none := by unfold L2.start; rw [hl]
  rw [e]
  refine hb'.run _ _ H (Vs.start m _) b ⟨?_, ?_, fun _ _ _ _ _ _ _ z => z.elim, fun _ _ _ _ _ _ _ z => z.elim⟩
  · rintro ρ' η' σ' H' k' v' b' ⟨η0, s0, q0⟩
    exact o _ η0 _ H' k' .non (b'.sub s0) q0
  · rintro d η' v H' k' m' b' ⟨η0, s0, q0⟩
    exact o d η0 v H' k' m' (b'.sub s0) q0
theorem fa_of {x : Str} {st : Stmt} {N ps : List Str} {k n : Nat} {a : ASp} (D : Def1 K mg x st ps) (S : FnScope N ps (defScope st)) (hn : ps.length = n)
    (body : ∀ X : Cx, X.prog = Pr → X.w = w → X.K = K → X.mg = mg → X.base = base → At X N (defScope st) k → (∀ y, X.fn y = true) → ∀ ds η Q0, a ds η Q0 →
      ASs X (defBody st) (ds.map some ++ List.replicate (N.length - n) none) η (ends Q0)) : FA Pr w K mg base x (k + 1) n a := by
  obtain ⟨fd, F, hb, hm⟩ := D
  exact ⟨_, fd, ps, hn, fn_mk F S hn body, hm, F.kp, hb⟩
theorem bt_of {X : Cx} (Z : HX X.w X.K X.mg) : Bt X :=
  ⟨Z.fre "len" (Z.at 61), Z.fre "abs" (Z.at 62), Z.fre "min" (Z.at 64), Z.fre "max" (Z.at 63), Z.fre "int" (Z.at 70), Z.fre "range" (Z.at 65), Z.fre "enumerate" (Z.at 68), Z.fre "list" (Z.at 66), Z.fre "tuple" (Z.at 67), Z.fre "dict" (Z.at 69), Z.fre "any" (Z.at 71)⟩
theorem gv_int {X : Cx} (Z : HX X.w X.K X.mg) {x : Str} {i : Int} (h : (He.Fa.int x i).ok X.K = true) : GV X x (.int i) := by
  obtain ⟨t, e⟩ := Z.int x i h
  exact ⟨.int i, _, e, ⟨t, rfl⟩, fun H => .int i⟩
theorem gv_tup {X : Cx} (Z : HX X.w X.K X.mg) {x : Str} {vs : List He.Dv} {ds : List Dt} (h : (He.Fa.glo x).ok X.K = true) (t : He.tupB X.K x vs = true) (hi : ∀ H, Ims X.K H (vs.map (He.Dv.v X.K)) ds) : GV X x (.tup ds) :=
  ⟨.ref (He.ga X.K x), _, Z.glo x h, rfl, fun H => .tup (He.tupB_ok t H) (hi H)⟩
structure Ex2 (K : PySem.W.Frag) : Prop where
  e1 : He.tupB K "ENDLESS" [.int 1, .int 0] = true
  e2 : He.tupB K "NOUGHT" [.int 0, .int 1] = true
  e3 : He.tupB K "ONE" [.int 1, .int 1] = true
  e4 : He.tupB K "LESS" [.int (-1), .int 1] = true
  e5 : He.tupB K "TWO_FRACTIONS" [.glo "ENDLESS", .glo "NOUGHT"] = true
  e6 : He.tupB K "THIRDS" [.str "", .str "r", .str "q"] = true
  e7 : He.valsB K (He.ga K "POWERS") [("r", .int 1), ("q", .int 2)] = true
  e8 : PySem.W.excIn K (He.ga K "TooMany") He.veBase "ValueError.__new__" = true
  e9 : PySem.W.subIn K (.ref (He.ga K "TooMany")) (.type "BaseException") = some true
  e10 : PySem.W.typeIn K (.ref (He.ga K "TooMany")) = some (.type "type")
theorem ex2_of (h : ex2 K = true) : Ex2 K := by
  obtain ⟨h1, h⟩ := He.ba h
  obtain ⟨h2, h⟩ := He.ba h
  obtain ⟨h3, h⟩ := He.ba h
  obtain ⟨h4, h⟩ := He.ba h
  obtain ⟨h5, h⟩ := He.ba h
  obtain ⟨h6, h⟩ := He.ba h
  obtain ⟨h7, h⟩ := He.ba h
  obtain ⟨h8, h⟩ := He.ba h
  obtain ⟨h9, h10⟩ := He.ba h
  exact ⟨h1, h2, h3, h4, h5, h6, h7, h8, of_decide_eq_true h9, of_decide_eq_true h10⟩
theorem gv_E {X : Cx} (Z : HX X.w X.K X.mg) : GV X "ENDLESS" (frD inf) := gv_tup Z (Z.at 86) (ex2_of Z.more).e1 fun H => .cons (.int _) (.cons (.int _) .nil)
theorem gv_N {X : Cx} (Z : HX X.w X.K X.mg) : GV X "NOUGHT" (frD (0, 1)) := gv_tup Z (Z.at 87) (ex2_of Z.more).e2 fun H => .cons (.int _) (.cons (.int _) .nil)
theorem gv_O {X : Cx} (Z : HX X.w X.K X.mg) : GV X "ONE" (frD (1, 1)) := gv_tup Z (Z.at 88) (ex2_of Z.more).e3 fun H => .cons (.int _) (.cons (.int _) .nil)
theorem gv_L {X : Cx} (Z : HX X.w X.K X.mg) : GV X "LESS" (frD (-1, 1)) := gv_tup Z (Z.at 89) (ex2_of Z.more).e4 fun H => .cons (.int _) (.cons (.int _) .nil)
theorem gv_T {X : Cx} (Z : HX X.w X.K X.mg) : GV X "TWO_FRACTIONS" (.tup [frD inf, frD (0, 1)]) :=
  gv_tup Z (Z.at 90) (ex2_of Z.more).e5 fun H => .cons (.tup (He.tupB_ok (ex2_of Z.more).e1 H) (.cons (.int _) (.cons (.int _) .nil))) (.cons (.tup (He.tupB_ok (ex2_of Z.more).e2 H) (.cons (.int _) (.cons (.int _) .nil))) .nil)
theorem gv_Th {X : Cx} (Z : HX X.w X.K X.mg) : GV X "THIRDS" (.tup [.str "", .str "r", .str "q"]) := gv_tup Z (Z.at 92) (ex2_of Z.more).e6 fun H => .cons (.str _) (.cons (.str _) (.cons (.str _) .nil))
theorem pow_of {X : Cx} (Z : HX X.w X.K X.mg) : Pow X := by
  obtain ⟨es, n, D⟩ := Z.pow
  have h := (ex2_of Z.more).e7
  obtain ⟨u1, a1, b1⟩ := He.valsB_ok h (List.mem_cons_self ..)
  obtain ⟨u2, a2, b2⟩ := He.valsB_ok h (List.mem_cons_of_mem _ (List.mem_cons_self ..))
  exact ⟨_, Z.glo "POWERS" (Z.at 91), ⟨es, n, u1, D.at_, D.lit, a1, b1⟩, ⟨es, n, u2, D.at_, D.lit, a2, b2⟩⟩
theorem foldC_of {X : Cx} (Z : HX X.w X.K X.mg) : FoldC X (He.ga X.K "Fold") := ⟨He.cls_ok (x := "Fold") (Z.at 73), He.noat_ok (x := "Fold") (Z.at 75), He.noat_ok (x := "Fold") (Z.at 76), He.noat_ok (x := "Fold") (Z.at 77)⟩
theorem own_of {X : Cx} (Z : HX X.w X.K X.mg) : Own X "TooMany" (He.ga X.K "TooMany") := ⟨Z.glo "TooMany" (Z.at 79), (ex2_of Z.more).e8, He.keep_ok (x := "TooMany") (Z.at 80), (ex2_of Z.more).e9, (ex2_of Z.more).e10⟩
theorem D__law_cell_at (Z : HX w K mg) : Def1 K mg "_law_cell_at" s__law_cell_at ["_law_script", "_law_k"] :=
  def1 (Z.defs d__law_cell_at (List.mem_of_getElem? (i := 39) rfl)) (Z.glo "_law_cell_at" (Z.at 39)) (fun _ _ _ _ _ _ us hl => match us, hl with | [_, _], _ => rfl)
theorem F__law_cell_at (Z : HX w K mg) : FA Pr w K mg base "_law_cell_at" 1 2 (p__law_cell_at K) := by
  refine fa_of (D__law_cell_at Z) sc__law_cell_at rfl ?_
  rintro X e1 e2 e3 e4 e5 A hf ds η Q0 h
  subst e1 e2 e3 e4 e5
  exact b__law_cell_at A (bt_of Z) hf  h
theorem D__law_big (Z : HX w K mg) : Def1 K mg "_law_big" s__law_big ["_law_script", "_law_at"] :=
  def1 (Z.defs d__law_big (List.mem_of_getElem? (i := 40) rfl)) (Z.glo "_law_big" (Z.at 40)) (fun _ _ _ _ _ _ us hl => match us, hl with | [_, _], _ => rfl)
theorem F__law_big (Z : HX w K mg) : FA Pr w K mg base "_law_big" 2 2 (p__law_big K) := by
  refine fa_of (D__law_big Z) sc__law_big rfl ?_
  rintro X e1 e2 e3 e4 e5 A hf ds η Q0 h
  subst e1 e2 e3 e4 e5
  exact b__law_big A (bt_of Z) hf (F__law_cell_at Z) h
theorem D__law_gaps (Z : HX w K mg) : Def1 K mg "_law_gaps" s__law_gaps ["_law_fractions_here"] :=
  def1 (Z.defs d__law_gaps (List.mem_of_getElem? (i := 46) rfl)) (Z.glo "_law_gaps" (Z.at 46)) (fun _ _ _ _ _ _ us hl => match us, hl with | [_], _ => rfl)
theorem F__law_gaps (Z : HX w K mg) : FA Pr w K mg base "_law_gaps" 1 1 p__law_gaps := by
  refine fa_of (D__law_gaps Z) sc__law_gaps rfl ?_
  rintro X e1 e2 e3 e4 e5 A hf ds η Q0 h
  subst e1 e2 e3 e4 e5
  exact b__law_gaps A (bt_of Z) hf  h
theorem D__law_tiles (Z : HX w K mg) : Def1 K mg "_law_tiles" s__law_tiles ["_law_fractions_here"] :=
  def1 (Z.defs d__law_tiles (List.mem_of_getElem? (i := 45) rfl)) (Z.glo "_law_tiles" (Z.at 45)) (fun _ _ _ _ _ _ us hl => match us, hl with | [_], _ => rfl)
theorem F__law_tiles (Z : HX w K mg) : FA Pr w K mg base "_law_tiles" 1 1 p__law_tiles := by
  refine fa_of (D__law_tiles Z) sc__law_tiles rfl ?_
  rintro X e1 e2 e3 e4 e5 A hf ds η Q0 h
  subst e1 e2 e3 e4 e5
  exact b__law_tiles A (bt_of Z) hf  h
theorem D__law_links (Z : HX w K mg) : Def1 K mg "_law_links" s__law_links ["_law_fan_here"] :=
  def1 (Z.defs d__law_links (List.mem_of_getElem? (i := 47) rfl)) (Z.glo "_law_links" (Z.at 47)) (fun _ _ _ _ _ _ us hl => match us, hl with | [_], _ => rfl)
theorem F__law_links (Z : HX w K mg) : FA Pr w K mg base "_law_links" 2 1 (p__law_links w) := by
  refine fa_of (D__law_links Z) sc__law_links rfl ?_
  rintro X e1 e2 e3 e4 e5 A hf ds η Q0 h
  subst e1 e2 e3 e4 e5
  exact b__law_links A (bt_of Z) hf (F__law_gaps Z) (F__law_tiles Z) h
theorem D__law_anew (Z : HX w K mg) : Def1 K mg "_law_anew" s__law_anew ["_law_halves", "_law_thirds", "_law_first"] :=
  def1 (Z.defs d__law_anew (List.mem_of_getElem? (i := 48) rfl)) (Z.glo "_law_anew" (Z.at 48)) (fun _ _ _ _ _ _ us hl => match us, hl with | [_, _, _], _ => rfl)
theorem F__law_anew (Z : HX w K mg) : FA Pr w K mg base "_law_anew" 1 3 (p__law_anew w) := by
  refine fa_of (D__law_anew Z) sc__law_anew rfl ?_
  rintro X e1 e2 e3 e4 e5 A hf ds η Q0 h
  subst e1 e2 e3 e4 e5
  exact b__law_anew A (bt_of Z) hf  h
theorem D__law_table (Z : HX w K mg) : Def1 K mg "_law_table" s__law_table ["_law_fan_here"] :=
  def1 (Z.defs d__law_table (List.mem_of_getElem? (i := 49) rfl)) (Z.glo "_law_table" (Z.at 49)) (fun _ _ _ _ _ _ us hl => match us, hl with | [_], _ => rfl)
theorem F__law_table (Z : HX w K mg) : FA Pr w K mg base "_law_table" 3 1 p__law_table := by
  refine fa_of (D__law_table Z) sc__law_table rfl ?_
  rintro X e1 e2 e3 e4 e5 A hf ds η Q0 h
  subst e1 e2 e3 e4 e5
  exact b__law_table A (bt_of Z) hf (F__law_links Z) (F__law_anew Z) h
theorem D__law_digit (Z : HX w K mg) : Def1 K mg "_law_digit" s__law_digit ["_law_rest", "_law_many"] :=
  def1 (Z.defs d__law_digit (List.mem_of_getElem? (i := 41) rfl)) (Z.glo "_law_digit" (Z.at 41)) (fun _ _ _ _ _ _ us hl => match us, hl with | [_, _], _ => rfl)
theorem F__law_digit (Z : HX w K mg) : FA Pr w K mg base "_law_digit" 1 2 p__law_digit := by
  refine fa_of (D__law_digit Z) sc__law_digit rfl ?_
  rintro X e1 e2 e3 e4 e5 A hf ds η Q0 h
  subst e1 e2 e3 e4 e5
  exact b__law_digit A (bt_of Z) hf  h
theorem D__law_fractions (Z : HX w K mg) : Def1 K mg "_law_fractions" s__law_fractions ["_law_rest", "_law_many"] :=
  def1 (Z.defs d__law_fractions (List.mem_of_getElem? (i := 42) rfl)) (Z.glo "_law_fractions" (Z.at 42)) (fun _ _ _ _ _ _ us hl => match us, hl with | [_, _], _ => rfl)
theorem F__law_fractions (Z : HX w K mg) : FA Pr w K mg base "_law_fractions" 2 2 p__law_fractions := by
  refine fa_of (D__law_fractions Z) sc__law_fractions rfl ?_
  rintro X e1 e2 e3 e4 e5 A hf ds η Q0 h
  subst e1 e2 e3 e4 e5
  exact b__law_fractions A (bt_of Z) hf (F__law_digit Z) h
theorem D__law_marks (Z : HX w K mg) : Def1 K mg "_law_marks" s__law_marks ["_law_rest", "_law_many"] :=
  def1 (Z.defs d__law_marks (List.mem_of_getElem? (i := 43) rfl)) (Z.glo "_law_marks" (Z.at 43)) (fun _ _ _ _ _ _ us hl => match us, hl with | [_, _], _ => rfl)
theorem F__law_marks (Z : HX w K mg) : FA Pr w K mg base "_law_marks" 2 2 p__law_marks := by
  refine fa_of (D__law_marks Z) sc__law_marks rfl ?_
  rintro X e1 e2 e3 e4 e5 A hf ds η Q0 h
  subst e1 e2 e3 e4 e5
  exact b__law_marks A (bt_of Z) hf (F__law_digit Z) h
theorem D__law_fan (Z : HX w K mg) : Def1 K mg "_law_fan" s__law_fan ["_law_rest", "_law_most", "_law_great"] :=
  def1 (Z.defs d__law_fan (List.mem_of_getElem? (i := 44) rfl)) (Z.glo "_law_fan" (Z.at 44)) (fun _ _ _ _ _ _ us hl => match us, hl with | [_, _, _], _ => rfl)
theorem F__law_fan (Z : HX w K mg) : FA Pr w K mg base "_law_fan" 3 3 p__law_fan := by
  refine fa_of (D__law_fan Z) sc__law_fan rfl ?_
  rintro X e1 e2 e3 e4 e5 A hf ds η Q0 h
  subst e1 e2 e3 e4 e5
  exact b__law_fan A (bt_of Z) hf (F__law_digit Z) (F__law_fractions Z) (F__law_marks Z) h
theorem D__law_drawn (Z : HX w K mg) : Def1 K mg "_law_drawn" s__law_drawn ["_law_rest"] :=
  def1 (Z.defs d__law_drawn (List.mem_of_getElem? (i := 56) rfl)) (Z.glo "_law_drawn" (Z.at 56)) (fun _ _ _ _ _ _ us hl => match us, hl with | [_], _ => rfl)
theorem F__law_drawn (Z : HX w K mg) : FA Pr w K mg base "_law_drawn" 4 1 p__law_drawn := by
  refine fa_of (D__law_drawn Z) sc__law_drawn rfl ?_
  rintro X e1 e2 e3 e4 e5 A hf ds η Q0 h
  subst e1 e2 e3 e4 e5
  exact b__law_drawn A (bt_of Z) hf (F__law_table Z) (F__law_fan Z) (F__law_anew Z) (F__law_digit Z) h
theorem D__law_word (Z : HX w K mg) : Def1 K mg "_law_word" s__law_word ["_law_rest", "_law_most"] :=
  def1 (Z.defs d__law_word (List.mem_of_getElem? (i := 57) rfl)) (Z.glo "_law_word" (Z.at 57)) (fun _ _ _ _ _ _ us hl => match us, hl with | [_, _], _ => rfl)
theorem F__law_word (Z : HX w K mg) : FA Pr w K mg base "_law_word" 2 2 p__law_word := by
  refine fa_of (D__law_word Z) sc__law_word rfl ?_
  rintro X e1 e2 e3 e4 e5 A hf ds η Q0 h
  subst e1 e2 e3 e4 e5
  exact b__law_word A (bt_of Z) hf (F__law_digit Z) h
theorem D__law_times (Z : HX w K mg) : Def1 K mg "_law_times" s__law_times ["_law_one", "_law_other"] :=
  def1 (Z.defs d__law_times (List.mem_of_getElem? (i := 50) rfl)) (Z.glo "_law_times" (Z.at 50)) (fun _ _ _ _ _ _ us hl => match us, hl with | [_, _], _ => rfl)
theorem F__law_times (Z : HX w K mg) : FA Pr w K mg base "_law_times" 1 2 p__law_times := by
  refine fa_of (D__law_times Z) sc__law_times rfl ?_
  rintro X e1 e2 e3 e4 e5 A hf ds η Q0 h
  subst e1 e2 e3 e4 e5
  exact b__law_times A (bt_of Z) hf  h
theorem D__law_turning (Z : HX w K mg) : Def1 K mg "_law_turning" s__law_turning ["_law_word_here"] :=
  def1 (Z.defs d__law_turning (List.mem_of_getElem? (i := 52) rfl)) (Z.glo "_law_turning" (Z.at 52)) (fun _ _ _ _ _ _ us hl => match us, hl with | [_], _ => rfl)
theorem F__law_turning (Z : HX w K mg) : FA Pr w K mg base "_law_turning" 2 1 p__law_turning := by
  refine fa_of (D__law_turning Z) sc__law_turning rfl ?_
  rintro X e1 e2 e3 e4 e5 A hf ds η Q0 h
  subst e1 e2 e3 e4 e5
  exact b__law_turning A (bt_of Z) hf (F__law_times Z) h
theorem D_goes_back (Z : HX w K mg) : Def1 K mg "goes_back" s_goes_back ["exchange", "times"] :=
  def1 (Z.defs d_goes_back (List.mem_of_getElem? (i := 13) rfl)) (Z.glo "goes_back" (Z.at 13)) (fun _ _ _ _ _ _ us hl => match us, hl with | [_, _], _ => rfl)
theorem F_goes_back (Z : HX w K mg) : FA Pr w K mg base "goes_back" 1 2 p_goes_back := by
  refine fa_of (D_goes_back Z) sc_goes_back rfl ?_
  rintro X e1 e2 e3 e4 e5 A hf ds η Q0 h
  subst e1 e2 e3 e4 e5
  exact b_goes_back A (bt_of Z) hf  h
theorem D_met_from (Z : HX w K mg) : Def1 K mg "met_from" s_met_from ["halves", "thirds", "first"] :=
  def1 (Z.defs d_met_from (List.mem_of_getElem? (i := 14) rfl)) (Z.glo "met_from" (Z.at 14)) (fun _ _ _ _ _ _ us hl => match us, hl with | [_, _, _], _ => rfl)
theorem F_met_from (Z : HX w K mg) : FA Pr w K mg base "met_from" 1 3 (p_met_from w) := by
  refine fa_of (D_met_from Z) sc_met_from rfl ?_
  rintro X e1 e2 e3 e4 e5 A hf ds η Q0 h
  subst e1 e2 e3 e4 e5
  exact b_met_from A (bt_of Z) hf  h
theorem D_told_anew (Z : HX w K mg) : Def1 K mg "told_anew" s_told_anew ["halves", "thirds", "met"] :=
  def1 (Z.defs d_told_anew (List.mem_of_getElem? (i := 15) rfl)) (Z.glo "told_anew" (Z.at 15)) (fun _ _ _ _ _ _ us hl => match us, hl with | [_, _, _], _ => rfl)
theorem F_told_anew (Z : HX w K mg) : FA Pr w K mg base "told_anew" 1 3 (p_told_anew w) := by
  refine fa_of (D_told_anew Z) sc_told_anew rfl ?_
  rintro X e1 e2 e3 e4 e5 A hf ds η Q0 h
  subst e1 e2 e3 e4 e5
  exact b_told_anew A (bt_of Z) hf  h
theorem D_numbered (Z : HX w K mg) : Def1 K mg "numbered" s_numbered ["halves", "thirds", "first"] :=
  def1 (Z.defs d_numbered (List.mem_of_getElem? (i := 16) rfl)) (Z.glo "numbered" (Z.at 16)) (fun _ _ _ _ _ _ us hl => match us, hl with | [_, _, _], _ => rfl)
theorem F_numbered (Z : HX w K mg) : FA Pr w K mg base "numbered" 2 3 (p_numbered w) := by
  refine fa_of (D_numbered Z) sc_numbered rfl ?_
  rintro X e1 e2 e3 e4 e5 A hf ds η Q0 h
  subst e1 e2 e3 e4 e5
  exact b_numbered A (bt_of Z) hf (F_goes_back Z) (F_met_from Z) (F_told_anew Z) h
theorem D_led_by (Z : HX w K mg) : Def1 K mg "led_by" s_led_by ["table", "place", "letter"] :=
  def1 (Z.defs d_led_by (List.mem_of_getElem? (i := 17) rfl)) (Z.glo "led_by" (Z.at 17)) (fun _ _ _ _ _ _ us hl => match us, hl with | [_, _, _], _ => rfl)
theorem F_led_by (Z : HX w K mg) : FA Pr w K mg base "led_by" 1 3 p_led_by := by
  refine fa_of (D_led_by Z) sc_led_by rfl ?_
  rintro X e1 e2 e3 e4 e5 A hf ds η Q0 h
  subst e1 e2 e3 e4 e5
  exact b_led_by A (bt_of Z) hf  h
theorem D_led_on (Z : HX w K mg) : Def1 K mg "led_on" s_led_on ["table", "place", "word"] :=
  def1 (Z.defs d_led_on (List.mem_of_getElem? (i := 18) rfl)) (Z.glo "led_on" (Z.at 18)) (fun _ _ _ _ _ _ us hl => match us, hl with | [_, _, _], _ => rfl)
theorem F_led_on (Z : HX w K mg) : FA Pr w K mg base "led_on" 2 3 p_led_on := by
  refine fa_of (D_led_on Z) sc_led_on rfl ?_
  rintro X e1 e2 e3 e4 e5 A hf ds η Q0 h
  subst e1 e2 e3 e4 e5
  exact b_led_on A (bt_of Z) hf (F_led_by Z) h
theorem D_steps_of (Z : HX w K mg) : Def1 K mg "steps_of" s_steps_of ["one"] :=
  def1 (Z.defs d_steps_of (List.mem_of_getElem? (i := 11) rfl)) (Z.glo "steps_of" (Z.at 11)) (fun _ _ _ _ _ _ us hl => match us, hl with | [_], _ => rfl)
theorem F_steps_of (Z : HX w K mg) : FA Pr w K mg base "steps_of" 1 1 p_steps_of := by
  refine fa_of (D_steps_of Z) sc_steps_of rfl ?_
  rintro X e1 e2 e3 e4 e5 A hf ds η Q0 h
  subst e1 e2 e3 e4 e5
  exact b_steps_of A (bt_of Z) hf (gv_int Z (Z.at 83)) h
theorem D_steps_word (Z : HX w K mg) : Def1 K mg "steps_word" s_steps_word ["many"] :=
  def1 (Z.defs d_steps_word (List.mem_of_getElem? (i := 10) rfl)) (Z.glo "steps_word" (Z.at 10)) (fun _ _ _ _ _ _ us hl => match us, hl with | [_], _ => rfl)
theorem F_steps_word (Z : HX w K mg) : FA Pr w K mg base "steps_word" 1 1 p_steps_word := by
  refine fa_of (D_steps_word Z) sc_steps_word rfl ?_
  rintro X e1 e2 e3 e4 e5 A hf ds η Q0 h
  subst e1 e2 e3 e4 e5
  exact b_steps_word A (bt_of Z) hf  h
theorem D_put_behind (Z : HX w K mg) : Def1 K mg "put_behind" s_put_behind ["row", "letter"] :=
  def1 (Z.defs d_put_behind (List.mem_of_getElem? (i := 8) rfl)) (Z.glo "put_behind" (Z.at 8)) (fun _ _ _ _ _ _ us hl => match us, hl with | [_, _], _ => rfl)
theorem F_put_behind (Z : HX w K mg) : FA Pr w K mg base "put_behind" 1 2 p_put_behind := by
  refine fa_of (D_put_behind Z) sc_put_behind rfl ?_
  rintro X e1 e2 e3 e4 e5 A hf ds η Q0 h
  subst e1 e2 e3 e4 e5
  exact b_put_behind A (bt_of Z) hf (pow_of Z) (gv_Th Z) h
theorem D_shortened (Z : HX w K mg) : Def1 K mg "shortened" s_shortened ["word"] :=
  def1 (Z.defs d_shortened (List.mem_of_getElem? (i := 9) rfl)) (Z.glo "shortened" (Z.at 9)) (fun _ _ _ _ _ _ us hl => match us, hl with | [_], _ => rfl)
theorem F_shortened (Z : HX w K mg) : FA Pr w K mg base "shortened" 2 1 p_shortened := by
  refine fa_of (D_shortened Z) sc_shortened rfl ?_
  rintro X e1 e2 e3 e4 e5 A hf ds η Q0 h
  subst e1 e2 e3 e4 e5
  exact b_shortened A (bt_of Z) hf (F_put_behind Z) h
theorem D_word_of (Z : HX w K mg) : Def1 K mg "word_of" s_word_of ["one"] :=
  def1 (Z.defs d_word_of (List.mem_of_getElem? (i := 12) rfl)) (Z.glo "word_of" (Z.at 12)) (fun _ _ _ _ _ _ us hl => match us, hl with | [_], _ => rfl)
theorem F_word_of (Z : HX w K mg) : FA Pr w K mg base "word_of" 3 1 p_word_of := by
  refine fa_of (D_word_of Z) sc_word_of rfl ?_
  rintro X e1 e2 e3 e4 e5 A hf ds η Q0 h
  subst e1 e2 e3 e4 e5
  exact b_word_of A (bt_of Z) hf (gv_int Z (Z.at 82)) (F_steps_of Z) (F_steps_word Z) (F_shortened Z) h
theorem D_place_of (Z : HX w K mg) : Def1 K mg "place_of" s_place_of ["table", "one"] :=
  def1 (Z.defs d_place_of (List.mem_of_getElem? (i := 19) rfl)) (Z.glo "place_of" (Z.at 19)) (fun _ _ _ _ _ _ us hl => match us, hl with | [_, _], _ => rfl)
theorem F_place_of (Z : HX w K mg) : FA Pr w K mg base "place_of" 4 2 p_place_of := by
  refine fa_of (D_place_of Z) sc_place_of rfl ?_
  rintro X e1 e2 e3 e4 e5 A hf ds η Q0 h
  subst e1 e2 e3 e4 e5
  exact b_place_of A (bt_of Z) hf (F_led_on Z) (F_word_of Z) h
theorem D_turned (Z : HX w K mg) : Def1 K mg "turned" s_turned ["table", "one"] :=
  def1 (Z.defs d_turned (List.mem_of_getElem? (i := 25) rfl)) (Z.glo "turned" (Z.at 25)) (fun _ _ _ _ _ _ us hl => match us, hl with | [_, _], _ => rfl)
theorem F_turned (Z : HX w K mg) : FA Pr w K mg base "turned" 5 2 p_turned := by
  refine fa_of (D_turned Z) sc_turned rfl ?_
  rintro X e1 e2 e3 e4 e5 A hf ds η Q0 h
  subst e1 e2 e3 e4 e5
  exact b_turned A (bt_of Z) hf (F_numbered Z) (F_place_of Z) h
theorem D_led_pairs (Z : HX w K mg) : Def1 K mg "led_pairs" s_led_pairs ["one", "other", "pair"] :=
  def1 (Z.defs d_led_pairs (List.mem_of_getElem? (i := 21) rfl)) (Z.glo "led_pairs" (Z.at 21)) (fun _ _ _ _ _ _ us hl => match us, hl with | [_, _, _], _ => rfl)
theorem F_led_pairs (Z : HX w K mg) : FA Pr w K mg base "led_pairs" 1 3 p_led_pairs := by
  refine fa_of (D_led_pairs Z) sc_led_pairs rfl ?_
  rintro X e1 e2 e3 e4 e5 A hf ds η Q0 h
  subst e1 e2 e3 e4 e5
  exact b_led_pairs A (bt_of Z) hf  h
theorem D_meet (Z : HX w K mg) : Def1 K mg "meet" s_meet ["one", "other"] :=
  def1 (Z.defs d_meet (List.mem_of_getElem? (i := 23) rfl)) (Z.glo "meet" (Z.at 23)) (fun _ _ _ _ _ _ us hl => match us, hl with | [_, _], _ => rfl)
theorem D_met_states (Z : HX w K mg) : Def1 K mg "met_states" s_met_states ["first", "behind"] :=
  def1 (Z.defs d_met_states (List.mem_of_getElem? (i := 22) rfl)) (Z.glo "met_states" (Z.at 22)) (fun _ _ _ _ _ _ us hl => match us, hl with | [_, _], _ => rfl)
theorem F_meet (Z : HX w K mg) (TB : LamX.TabB base mg (He.cT K ("meet", none)).1 (He.cT K ("meet", none)).2) : FAX Pr w K mg base "meet" 5 2 (p_meet (He.cT K ("meet", none)).2 (He.ga K "TooMany")) := by
  obtain ⟨fd, F, hb, hm⟩ := D_meet Z
  obtain ⟨gd, G, gb, gm⟩ := D_met_states Z
  obtain ⟨oc, od, kV, doc, pm, an, cdv, ct, osl, rfl, lk, hcd⟩ := F.ex
  obtain ⟨c, rfl⟩ := He.codeIn_ref hcd
  have ec : He.codeOf K ("meet", none) = c := He.codeOf_eq (p := ("meet", none)) lk rfl
  refine ⟨_, _, ["one", "other"], rfl, fn_of lk hcd sc_meet (fun vs H Q E h => h.1) ?_, hm, F.kp, hb⟩
  intro A outer s H vs Q E hr hsp
  obtain ⟨hl, ds, η, Q0, R0, m, b, q, o, ox⟩ := hsp
  refine ⟨_, pssW _, ?_⟩
  have At0 : At (cxOf (L2.CX Pr w) Pr w K mg base n_meet "meet" (defScope s_meet) (He.ga K "meet") (.ref c) A outer s H E) n_meet (defScope s_meet) 4 := ⟨rfl, sc_meet.nd, rfl, rfl, hr, PassesOwn.leaving⟩
  have tk0 : Takes (cxOf (L2.CX Pr w) Pr w K mg base n_meet "meet" (defScope s_meet) (He.ga K "meet") (.ref c) A outer s H E) (fun cls d _ H' => E cls d H') := takes_of rfl rfl rfl rfl
  have ex0 : Ex (cxOf (L2.CX Pr w) Pr w K mg base n_meet "meet" (defScope s_meet) (He.ga K "meet") (.ref c) A outer s H E) R0 := ⟨tk0.imp fun c d σ H' ⟨e, kt, η', hab, r⟩ => by subst e; exact ox c η' H' kt hab r⟩
  have ZX : HX (cxOf (L2.CX Pr w) Pr w K mg base n_meet "meet" (defScope s_meet) (He.ga K "meet") (.ref c) A outer s H E).w (cxOf (L2.CX Pr w) Pr w K mg base n_meet "meet" (defScope s_meet) (He.ga K "meet") (.ref c) A outer s H E).K (cxOf (L2.CX Pr w) Pr w K mg base n_meet "meet" (defScope s_meet) (He.ga K "meet") (.ref c) A outer s H E).mg := Z
  have hb' := b_meet At0 (bt_of ZX) ex0 G gb gm TB (congrArg Value.ref ec.symm) rfl (F_led_pairs ZX) (own_of ZX) (gv_int ZX (ZX.at 84)) q
  have e : L2.start n_meet vs = vs.map some ++ List.replicate (n_meet.length - 2) none := by unfold L2.start; rw [hl]
  rw [e]
  refine hb'.run _ _ H (Vs.start m _) b ⟨?_, ?_, fun _ _ _ _ _ _ _ z => z.elim, fun _ _ _ _ _ _ _ z => z.elim⟩
  · rintro ρ' η' σ' H' k' v' b' ⟨η0, s0, q0⟩
    exact o _ η0 _ H' k' .non (b'.sub s0) q0
  · rintro d η' v H' k' m' b' ⟨η0, s0, q0⟩
    exact o d η0 v H' k' m' (b'.sub s0) q0
theorem D__law_told (Z : HX w K mg) : Def1 K mg "_law_told" s__law_told ["_law_one", "_law_other"] :=
  def1 (Z.defs d__law_told (List.mem_of_getElem? (i := 58) rfl)) (Z.glo "_law_told" (Z.at 58)) (fun _ _ _ _ _ _ us hl => match us, hl with | [_, _], _ => rfl)
theorem F__law_told (Z : HX w K mg) (TB : LamX.TabB base mg (He.cT K ("meet", none)).1 (He.cT K ("meet", none)).2) : FA Pr w K mg base "_law_told" 6 2 (p__law_told (He.cT K ("meet", none)).2) := by
  obtain ⟨fd, F, hb, hm⟩ := D__law_told Z
  exact fa_told F hb hm (F_meet Z TB) (Z.glo "TooMany" (Z.at 79)) (He.exm_ok (x := "TooMany") (y := "TooMany") (Z.at 81))
theorem D_first_gaps (Z : HX w K mg) : Def1 K mg "first_gaps" s_first_gaps ["table"] :=
  def1 (Z.defs d_first_gaps (List.mem_of_getElem? (i := 2) rfl)) (Z.glo "first_gaps" (Z.at 2)) (fun _ _ _ _ _ _ us hl => match us, hl with | [_], _ => rfl)
theorem F_first_gaps (Z : HX w K mg) : FA Pr w K mg base "first_gaps" 1 1 p_first_gaps := by
  refine fa_of (D_first_gaps Z) sc_first_gaps rfl ?_
  rintro X e1 e2 e3 e4 e5 A hf ds η Q0 h
  subst e1 e2 e3 e4 e5
  exact b_first_gaps A (bt_of Z) hf (gv_E Z) (gv_N Z) (gv_O Z) (gv_L Z) h
theorem D_gap_to_open (Z : HX w K mg) : Def1 K mg "gap_to_open" s_gap_to_open ["table", "gaps", "used"] :=
  def1 (Z.defs d_gap_to_open (List.mem_of_getElem? (i := 5) rfl)) (Z.glo "gap_to_open" (Z.at 5)) (fun _ _ _ _ _ _ us hl => match us, hl with | [_, _, _], _ => rfl)
theorem F_gap_to_open (Z : HX w K mg) : FA Pr w K mg base "gap_to_open" 1 3 p_gap_to_open := by
  refine fa_of (D_gap_to_open Z) sc_gap_to_open rfl ?_
  rintro X e1 e2 e3 e4 e5 A hf ds η Q0 h
  subst e1 e2 e3 e4 e5
  exact b_gap_to_open A (bt_of Z) hf  h
theorem D_common_part (Z : HX w K mg) : Def1 K mg "common_part" s_common_part ["one", "other"] :=
  def1 (Z.defs d_common_part (List.mem_of_getElem? (i := 0) rfl)) (Z.glo "common_part" (Z.at 0)) (fun _ _ _ _ _ _ us hl => match us, hl with | [_, _], _ => rfl)
theorem F_common_part (Z : HX w K mg) : FA Pr w K mg base "common_part" 1 2 p_common_part := by
  refine fa_of (D_common_part Z) sc_common_part rfl ?_
  rintro X e1 e2 e3 e4 e5 A hf ds η Q0 h
  subst e1 e2 e3 e4 e5
  exact b_common_part A (bt_of Z) hf  h
theorem D_fraction (Z : HX w K mg) : Def1 K mg "fraction" s_fraction ["p", "q"] :=
  def1 (Z.defs d_fraction (List.mem_of_getElem? (i := 1) rfl)) (Z.glo "fraction" (Z.at 1)) (fun _ _ _ _ _ _ us hl => match us, hl with | [_, _], _ => rfl)
theorem F_fraction (Z : HX w K mg) : FA Pr w K mg base "fraction" 2 2 p_fraction := by
  refine fa_of (D_fraction Z) sc_fraction rfl ?_
  rintro X e1 e2 e3 e4 e5 A hf ds η Q0 h
  subst e1 e2 e3 e4 e5
  exact b_fraction A (bt_of Z) hf (F_common_part Z) h
theorem D_between (Z : HX w K mg) : Def1 K mg "between" s_between ["one", "other"] :=
  def1 (Z.defs d_between (List.mem_of_getElem? (i := 3) rfl)) (Z.glo "between" (Z.at 3)) (fun _ _ _ _ _ _ us hl => match us, hl with | [_, _], _ => rfl)
theorem F_between (Z : HX w K mg) : FA Pr w K mg base "between" 3 2 p_between := by
  refine fa_of (D_between Z) sc_between rfl ?_
  rintro X e1 e2 e3 e4 e5 A hf ds η Q0 h
  subst e1 e2 e3 e4 e5
  exact b_between A (bt_of Z) hf (gv_E Z) (F_fraction Z) h
theorem D_opened (Z : HX w K mg) : Def1 K mg "opened" s_opened ["table", "gaps", "i"] :=
  def1 (Z.defs d_opened (List.mem_of_getElem? (i := 4) rfl)) (Z.glo "opened" (Z.at 4)) (fun _ _ _ _ _ _ us hl => match us, hl with | [_, _, _], _ => rfl)
theorem F_opened (Z : HX w K mg) : FA Pr w K mg base "opened" 4 3 p_opened := by
  refine fa_of (D_opened Z) sc_opened rfl ?_
  rintro X e1 e2 e3 e4 e5 A hf ds η Q0 h
  subst e1 e2 e3 e4 e5
  exact b_opened A (bt_of Z) hf (F_between Z) h
theorem D_all_gaps (Z : HX w K mg) : Def1 K mg "all_gaps" s_all_gaps ["table"] :=
  def1 (Z.defs d_all_gaps (List.mem_of_getElem? (i := 6) rfl)) (Z.glo "all_gaps" (Z.at 6)) (fun _ _ _ _ _ _ us hl => match us, hl with | [_], _ => rfl)
theorem F_all_gaps (Z : HX w K mg) : FA Pr w K mg base "all_gaps" 5 1 p_all_gaps := by
  refine fa_of (D_all_gaps Z) sc_all_gaps rfl ?_
  rintro X e1 e2 e3 e4 e5 A hf ds η Q0 h
  subst e1 e2 e3 e4 e5
  exact b_all_gaps A (bt_of Z) hf (F_first_gaps Z) (F_gap_to_open Z) (F_opened Z) h
theorem D_mark_of (Z : HX w K mg) : Def1 K mg "mark_of" s_mark_of ["table", "places", "place"] :=
  def1 (Z.defs d_mark_of (List.mem_of_getElem? (i := 7) rfl)) (Z.glo "mark_of" (Z.at 7)) (fun _ _ _ _ _ _ us hl => match us, hl with | [_, _, _], _ => rfl)
theorem F_mark_of (Z : HX w K mg) : FA Pr w K mg base "mark_of" 1 3 p_mark_of := by
  refine fa_of (D_mark_of Z) sc_mark_of rfl ?_
  rintro X e1 e2 e3 e4 e5 A hf ds η Q0 h
  subst e1 e2 e3 e4 e5
  exact b_mark_of A (bt_of Z) hf  h
theorem D_fan_of (Z : HX w K mg) : Def1 K mg "fan_of" s_fan_of ["table"] :=
  def1 (Z.defs d_fan_of (List.mem_of_getElem? (i := 20) rfl)) (Z.glo "fan_of" (Z.at 20)) (fun _ _ _ _ _ _ us hl => match us, hl with | [_], _ => rfl)
theorem F_fan_of (Z : HX w K mg) : FA Pr w K mg base "fan_of" 6 1 p_fan_of := by
  refine fa_of (D_fan_of Z) sc_fan_of rfl ?_
  rintro X e1 e2 e3 e4 e5 A hf ds η Q0 h
  subst e1 e2 e3 e4 e5
  exact b_fan_of A (bt_of Z) hf (gv_T Z) (F_all_gaps Z) (F_mark_of Z) h
theorem D__law_own (Z : HX w K mg) : Def1 K mg "_law_own" s__law_own ["_law_fan_here"] :=
  def1 (Z.defs d__law_own (List.mem_of_getElem? (i := 55) rfl)) (Z.glo "_law_own" (Z.at 55)) (fun _ _ _ _ _ _ us hl => match us, hl with | [_], _ => rfl)
theorem F__law_own (Z : HX w K mg) : FA Pr w K mg base "_law_own" 1 1 p__law_own := by
  refine fa_of (D__law_own Z) sc__law_own rfl ?_
  rintro X e1 e2 e3 e4 e5 A hf ds η Q0 h
  subst e1 e2 e3 e4 e5
  exact b__law_own A (bt_of Z) hf  h
theorem D__law_between (Z : HX w K mg) : Def1 K mg "_law_between" s__law_between ["_law_one", "_law_other"] :=
  def1 (Z.defs d__law_between (List.mem_of_getElem? (i := 53) rfl)) (Z.glo "_law_between" (Z.at 53)) (fun _ _ _ _ _ _ us hl => match us, hl with | [_, _], _ => rfl)
theorem F__law_between (Z : HX w K mg) : FA Pr w K mg base "_law_between" 1 2 p__law_between := by
  refine fa_of (D__law_between Z) sc__law_between rfl ?_
  rintro X e1 e2 e3 e4 e5 A hf ds η Q0 h
  subst e1 e2 e3 e4 e5
  exact b__law_between A (bt_of Z) hf  h
theorem D__law_contrary (Z : HX w K mg) : Def1 K mg "_law_contrary" s__law_contrary ["_law_one"] :=
  def1 (Z.defs d__law_contrary (List.mem_of_getElem? (i := 51) rfl)) (Z.glo "_law_contrary" (Z.at 51)) (fun _ _ _ _ _ _ us hl => match us, hl with | [_], _ => rfl)
theorem F__law_contrary (Z : HX w K mg) : FA Pr w K mg base "_law_contrary" 1 1 p__law_contrary := by
  refine fa_of (D__law_contrary Z) sc__law_contrary rfl ?_
  rintro X e1 e2 e3 e4 e5 A hf ds η Q0 h
  subst e1 e2 e3 e4 e5
  exact b__law_contrary A (bt_of Z) hf  h
theorem D__law_glue (Z : HX w K mg) : Def1 K mg "_law_glue" s__law_glue ["_law_fan_here", "_law_gap"] :=
  def1 (Z.defs d__law_glue (List.mem_of_getElem? (i := 54) rfl)) (Z.glo "_law_glue" (Z.at 54)) (fun _ _ _ _ _ _ us hl => match us, hl with | [_, _], _ => rfl)
theorem F__law_glue (Z : HX w K mg) : FA Pr w K mg base "_law_glue" 3 2 p__law_glue := by
  refine fa_of (D__law_glue Z) sc__law_glue rfl ?_
  rintro X e1 e2 e3 e4 e5 A hf ds η Q0 h
  subst e1 e2 e3 e4 e5
  exact b__law_glue A (bt_of Z) hf (F__law_gaps Z) (F__law_between Z) (F__law_times Z) (F__law_contrary Z) (F__law_turning Z) h
theorem D__law_turnings (Z : HX w K mg) : Def1 K mg "_law_turnings" s__law_turnings ["_law_table_here"] :=
  def1 (Z.defs d__law_turnings (List.mem_of_getElem? (i := 59) rfl)) (Z.glo "_law_turnings" (Z.at 59)) (fun _ _ _ _ _ _ us hl => match us, hl with | [_], _ => rfl)
theorem F__law_turnings (Z : HX w K mg) : FA Pr w K mg base "_law_turnings" 7 1 p__law_turnings := by
  refine fa_of (D__law_turnings Z) sc__law_turnings rfl ?_
  rintro X e1 e2 e3 e4 e5 A hf ds η Q0 h
  subst e1 e2 e3 e4 e5
  exact b__law_turnings A (bt_of Z) hf (F_fan_of Z) (F__law_own Z) (F__law_glue Z) h
theorem D_head_of (Z : HX w K mg) : Def1 K mg "head_of" s_head_of ["fold", "place"] :=
  def1 (Z.defs d_head_of (List.mem_of_getElem? (i := 26) rfl)) (Z.glo "head_of" (Z.at 26)) (fun _ _ _ _ _ _ us hl => match us, hl with | [_, _], _ => rfl)
theorem F_head_of (Z : HX w K mg) : FA Pr w K mg base "head_of" 1 2 (p_head_of (He.ga K "Fold")) := by
  refine fa_of (D_head_of Z) sc_head_of rfl ?_
  rintro X e1 e2 e3 e4 e5 A hf ds η Q0 h
  subst e1 e2 e3 e4 e5
  exact b_head_of A (bt_of Z) hf (foldC_of Z) h
theorem D_new_place (Z : HX w K mg) : Def1 K mg "new_place" s_new_place ["fold"] :=
  def1 (Z.defs d_new_place (List.mem_of_getElem? (i := 27) rfl)) (Z.glo "new_place" (Z.at 27)) (fun _ _ _ _ _ _ us hl => match us, hl with | [_], _ => rfl)
theorem F_new_place (Z : HX w K mg) : FA Pr w K mg base "new_place" 1 1 (p_new_place (He.ga K "Fold")) := by
  refine fa_of (D_new_place Z) sc_new_place rfl ?_
  rintro X e1 e2 e3 e4 e5 A hf ds η Q0 h
  subst e1 e2 e3 e4 e5
  exact b_new_place A (bt_of Z) hf (foldC_of Z) h
theorem D_half_behind (Z : HX w K mg) : Def1 K mg "half_behind" s_half_behind ["fold", "place"] :=
  def1 (Z.defs d_half_behind (List.mem_of_getElem? (i := 28) rfl)) (Z.glo "half_behind" (Z.at 28)) (fun _ _ _ _ _ _ us hl => match us, hl with | [_, _], _ => rfl)
theorem F_half_behind (Z : HX w K mg) : FA Pr w K mg base "half_behind" 2 2 (p_half_behind (He.ga K "Fold")) := by
  refine fa_of (D_half_behind Z) sc_half_behind rfl ?_
  rintro X e1 e2 e3 e4 e5 A hf ds η Q0 h
  subst e1 e2 e3 e4 e5
  exact b_half_behind A (bt_of Z) hf (foldC_of Z) (F_head_of Z) (F_new_place Z) h
theorem D_third_behind (Z : HX w K mg) : Def1 K mg "third_behind" s_third_behind ["fold", "place"] :=
  def1 (Z.defs d_third_behind (List.mem_of_getElem? (i := 29) rfl)) (Z.glo "third_behind" (Z.at 29)) (fun _ _ _ _ _ _ us hl => match us, hl with | [_, _], _ => rfl)
theorem F_third_behind (Z : HX w K mg) : FA Pr w K mg base "third_behind" 2 2 (p_third_behind (He.ga K "Fold")) := by
  refine fa_of (D_third_behind Z) sc_third_behind rfl ?_
  rintro X e1 e2 e3 e4 e5 A hf ds η Q0 h
  subst e1 e2 e3 e4 e5
  exact b_third_behind A (bt_of Z) hf (foldC_of Z) (F_head_of Z) (F_new_place Z) h
theorem D_walked (Z : HX w K mg) : Def1 K mg "walked" s_walked ["fold", "word"] :=
  def1 (Z.defs d_walked (List.mem_of_getElem? (i := 30) rfl)) (Z.glo "walked" (Z.at 30)) (fun _ _ _ _ _ _ us hl => match us, hl with | [_, _], _ => rfl)
theorem F_walked (Z : HX w K mg) : FA Pr w K mg base "walked" 3 2 (p_walked (He.ga K "Fold")) := by
  refine fa_of (D_walked Z) sc_walked rfl ?_
  rintro X e1 e2 e3 e4 e5 A hf ds η Q0 h
  subst e1 e2 e3 e4 e5
  exact b_walked A (bt_of Z) hf (F_head_of Z) (F_half_behind Z) (F_third_behind Z) h
theorem D_both_behind (Z : HX w K mg) : Def1 K mg "both_behind" s_both_behind ["fold", "leads", "one", "other"] :=
  def1 (Z.defs d_both_behind (List.mem_of_getElem? (i := 31) rfl)) (Z.glo "both_behind" (Z.at 31)) (fun _ _ _ _ _ _ us hl => match us, hl with | [_, _, _, _], _ => rfl)
theorem F_both_behind (Z : HX w K mg) : FA Pr w K mg base "both_behind" 1 4 p_both_behind := by
  refine fa_of (D_both_behind Z) sc_both_behind rfl ?_
  rintro X e1 e2 e3 e4 e5 A hf ds η Q0 h
  subst e1 e2 e3 e4 e5
  exact b_both_behind A (bt_of Z) hf  h
theorem D_put_together (Z : HX w K mg) : Def1 K mg "put_together" s_put_together ["fold", "one", "other"] :=
  def1 (Z.defs d_put_together (List.mem_of_getElem? (i := 32) rfl)) (Z.glo "put_together" (Z.at 32)) (fun _ _ _ _ _ _ us hl => match us, hl with | [_, _, _], _ => rfl)
theorem F_put_together (Z : HX w K mg) : FA Pr w K mg base "put_together" 2 3 (p_put_together (He.ga K "Fold")) := by
  refine fa_of (D_put_together Z) sc_put_together rfl ?_
  rintro X e1 e2 e3 e4 e5 A hf ds η Q0 h
  subst e1 e2 e3 e4 e5
  exact b_put_together A (bt_of Z) hf (foldC_of Z) (F_head_of Z) (F_both_behind Z) h
theorem D_heads_alone (Z : HX w K mg) : Def1 K mg "heads_alone" s_heads_alone ["fold"] :=
  def1 (Z.defs d_heads_alone (List.mem_of_getElem? (i := 33) rfl)) (Z.glo "heads_alone" (Z.at 33)) (fun _ _ _ _ _ _ us hl => match us, hl with | [_], _ => rfl)
theorem F_heads_alone (Z : HX w K mg) : FA Pr w K mg base "heads_alone" 2 1 (p_heads_alone (He.ga K "Fold")) := by
  refine fa_of (D_heads_alone Z) sc_heads_alone rfl ?_
  rintro X e1 e2 e3 e4 e5 A hf ds η Q0 h
  subst e1 e2 e3 e4 e5
  exact b_heads_alone A (bt_of Z) hf (foldC_of Z) (F_head_of Z) h
theorem D_is_bare (Z : HX w K mg) : Def1 K mg "is_bare" s_is_bare ["halves", "thirds", "place"] :=
  def1 (Z.defs d_is_bare (List.mem_of_getElem? (i := 35) rfl)) (Z.glo "is_bare" (Z.at 35)) (fun _ _ _ _ _ _ us hl => match us, hl with | [_, _, _], _ => rfl)
theorem F_is_bare (Z : HX w K mg) : FA Pr w K mg base "is_bare" 1 3 p_is_bare := by
  refine fa_of (D_is_bare Z) sc_is_bare rfl ?_
  rintro X e1 e2 e3 e4 e5 A hf ds η Q0 h
  subst e1 e2 e3 e4 e5
  exact b_is_bare A (bt_of Z) hf  h
theorem D_pruned_once (Z : HX w K mg) : Def1 K mg "pruned_once" s_pruned_once ["halves", "thirds"] :=
  def1 (Z.defs d_pruned_once (List.mem_of_getElem? (i := 36) rfl)) (Z.glo "pruned_once" (Z.at 36)) (fun _ _ _ _ _ _ us hl => match us, hl with | [_, _], _ => rfl)
theorem F_pruned_once (Z : HX w K mg) : FA Pr w K mg base "pruned_once" 2 2 p_pruned_once := by
  refine fa_of (D_pruned_once Z) sc_pruned_once rfl ?_
  rintro X e1 e2 e3 e4 e5 A hf ds η Q0 h
  subst e1 e2 e3 e4 e5
  exact b_pruned_once A (bt_of Z) hf (F_is_bare Z) h
theorem D_pruned (Z : HX w K mg) : Def1 K mg "pruned" s_pruned ["halves", "thirds"] :=
  def1 (Z.defs d_pruned (List.mem_of_getElem? (i := 37) rfl)) (Z.glo "pruned" (Z.at 37)) (fun _ _ _ _ _ _ us hl => match us, hl with | [_, _], _ => rfl)
theorem F_pruned (Z : HX w K mg) : FA Pr w K mg base "pruned" 3 2 p_pruned := by
  refine fa_of (D_pruned Z) sc_pruned rfl ?_
  rintro X e1 e2 e3 e4 e5 A hf ds η Q0 h
  subst e1 e2 e3 e4 e5
  exact b_pruned A (bt_of Z) hf (F_pruned_once Z) h
theorem foldM_of {X : Cx} (Z : HX X.w X.K X.mg) : FoldM X (He.ga X.K "Fold") := by
  obtain ⟨fd, F⟩ := Z.defs d_Fold_init (List.mem_of_getElem? (i := 61) rfl)
  have F1 : Fun X.K "__init__" "Fold.__init__" s_Fold___init__ (He.ma X.K (He.ga X.K "Fold") "__init__") fd := fun_of F
  refine ⟨_, fd, ["self"], He.mkr_ok (x := "Fold") (Z.at 78), fn_mk F1 sc_Fold___init__ rfl ?_, Z.glo "Fold" (Z.at 74), F1.binds (fun _ _ _ _ _ _ us hl => match us, hl with | [_], _ => rfl)⟩
  rintro Y e1 e2 e3 e4 e5 A hf ds η Q0 h
  have Z' : HX Y.w Y.K Y.mg := by rw [e2, e3, e4]; exact Z
  rw [← e3] at h
  exact b_Fold___init__ A (bt_of Z') hf (foldC_of Z') h
theorem D_folded (Z : HX w K mg) : Def1 K mg "folded" s_folded ["turnings"] :=
  def1 (Z.defs d_folded (List.mem_of_getElem? (i := 38) rfl)) (Z.glo "folded" (Z.at 38)) (fun _ _ _ _ _ _ us hl => match us, hl with | [_], _ => rfl)
theorem F_folded (Z : HX w K mg) : FA Pr w K mg base "folded" 4 1 p_folded := by
  refine fa_of (D_folded Z) sc_folded rfl ?_
  rintro X e1 e2 e3 e4 e5 A hf ds η Q0 h
  subst e1 e2 e3 e4 e5
  exact b_folded A (bt_of Z) hf (gv_int Z (Z.at 85)) (foldC_of Z) (foldM_of Z) (F_word_of Z) (F_walked Z) (F_put_together Z) (F_heads_alone Z) (F_pruned Z) (F_told_anew Z) (F_met_from Z) h
theorem D_is_within (Z : HX w K mg) : Def1 K mg "is_within" s_is_within ["one", "other"] :=
  def1 (Z.defs d_is_within (List.mem_of_getElem? (i := 24) rfl)) (Z.glo "is_within" (Z.at 24)) (fun _ _ _ _ _ _ us hl => match us, hl with | [_, _], _ => rfl)
theorem F_is_within (Z : HX w K mg) : FA Pr w K mg base "is_within" 1 2 p_is_within := by
  refine fa_of (D_is_within Z) sc_is_within rfl ?_
  rintro X e1 e2 e3 e4 e5 A hf ds η Q0 h
  subst e1 e2 e3 e4 e5
  exact b_is_within A (bt_of Z) hf  h
theorem F_law (Z : HX w K mg) (TB : LamX.TabB base mg (He.cT K ("meet", none)).1 (He.cT K ("meet", none)).2) {fd : FuncData} (F : Fun K "law" "law" s_law (He.ga K "law") fd) : FnOk Pr w K mg base CX0 8 (He.ga K "law") fd ["_law_script"] (Lift K 1 (p_law K (He.cT K ("meet", none)).2)) := by
  refine fn_mk F sc_law rfl ?_
  rintro X e1 e2 e3 e4 e5 A hf ds η Q0 h
  subst e1 e2 e3 e4 e5
  exact b_law A (bt_of Z) hf (F__law_big Z) (F__law_drawn Z) (F__law_digit Z) (F__law_word Z) (F__law_turning Z) (F_turned Z) (F__law_told Z TB) (F__law_turnings Z) (F_folded Z) (F_is_within Z) h
/-! ### the law's promise at the head's heap -/
theorem ims_ints {H : Hp} : ∀ ns : List Int, Ims K H (ns.map V.int) (ns.map intD)
  | [] => .nil
  | n :: r => .cons (.int n) (ims_ints r)
open Classical in
theorem law_start {P a : Addr} {ns : List Int} {H : Hp} (hl : ns.length ≤ 63) (hP : H P = some (.tbl #[])) (nP : K.lookup P = none) (hS : SqL K H a (ns.map V.int)) : Lift K 1 (p_law K P) [.ref a] H (fun v _ => v = .bl true) fun _ _ _ => False := by
  have key : ∀ m : Option Mo, (∀ m', m = some m' → MoOk K H a m' ∧ (∃ ds, m' = .lst ds ∨ m' = .rl ds)) → a ≠ P → (∀ η : Eta, η a = m → Scr K η a ns) → Lift K 1 (p_law K P) [.ref a] H (fun v _ => v = .bl true) fun _ _ _ => False := by
    intro m hm haP hs
    have e1 : (fun p => if p = P then some (Mo.oth (tblφ #[])) else if p = a then m else none : Eta) P = some (.oth (tblφ #[])) := if_pos rfl
    have e2 : (fun p => if p = P then some (Mo.oth (tblφ #[])) else if p = a then m else none : Eta) a = m := (if_neg haP).trans (if_pos rfl)
    refine ⟨rfl, [.ref a], (fun p => if p = P then some (Mo.oth (tblφ #[])) else if p = a then m else none : Eta), fun d _ => d = .bl true, .cons (.ref a) .nil, fun p m' h => ?_, ⟨a, ns, rfl, hs _ e2, by omega, haP, ⟨⟨#[], e1, ?_, fun pos cv h => ?_⟩, fun p m' h hp => ?_⟩, fun _ => rfl⟩, fun d η' v H' k m' b h => ?_⟩
    · try dsimp only at h
      by_cases hp : p = P
      · rw [if_pos hp] at h
        cases h
        subst hp
        exact ⟨by rw [hP]; simp, fun H' k e => e.trans hP⟩
      · rw [if_neg hp] at h
        by_cases ha : p = a
        · rw [if_pos ha] at h
          subst ha
          exact (hm m' h).1
        · rw [if_neg ha] at h
          cases h
    · trivial
    · cases h
    · try dsimp only at h
      rw [if_neg hp] at h
      by_cases ha : p = a
      · rw [if_pos ha] at h
        exact .inl (hm m' h).2
      · rw [if_neg ha] at h
        cases h
    · have h' : d = .bl true := h
      subst h'
      exact m'.bl_inv
  rcases hS with (hS | ⟨o, hS⟩) | ⟨o, its, n, h1, h2, h3, h4, h5, h6⟩
  · refine key (some (.lst (ns.map intD))) (fun m' e => ?_) (fun e => by subst e; rw [hP] at hS; cases hS) fun η e => .inl (.inr e)
    cases e
    exact ⟨⟨_, hS, ims_ints ns⟩, _, .inl rfl⟩
  · refine key (some (.rl (ns.map intD))) (fun m' e => ?_) (fun e => by subst e; rw [hP] at hS; cases hS) fun η e => .inl (.inl e)
    cases e
    exact ⟨⟨o, _, hS, ims_ints ns⟩, _, .inr rfl⟩
  · exact key none (fun m' e => by cases e) (fun e => by subst e; rw [nP] at h1; cases h1) fun η _ => .inr fun H' => .inr ⟨o, its, n, h1, h2, h3, h4, h5, h6⟩
theorem law_at {l : PySem.W.OpenLaw} {h : Heap} {f : Addr} (X : K.In h) (G : h.Ns mainGlobals mg) (hf : mg ("law" : Str) = some (.ref f)) (c : He.SaysX Fg.fa Fg.fn tabs tf ex2 w h K) : LamX.LawAtS l w K CX0 8 63 "_law_script" mg f h := by
  have Z := hx_of X G c
  have ef := hf.symm.trans (Z.glo "law" (Z.at 60))
  cases ef
  obtain ⟨fd, F⟩ := Z.defs d_law (List.mem_of_getElem? (i := 60) rfl)
  have hb := FunD.bindsA (ps := ["_law_script"]) F fun _ _ _ _ _ _ us hl => match us, hl with | [_], _ => rfl
  have one : ∀ p ∈ [He.cT K ("meet", none)], p = He.cT K ("meet", none) := fun p hp => List.mem_singleton.mp hp
  refine ⟨fd, [He.cT K ("meet", none)], Lift K 1 (p_law K (He.cT K ("meet", none)).2), fun p hp => ?_, fun p hp => ?_, fun p hp => ?_, fun s u => hb s [u] rfl, fun H a ns hl _ hH hS => ?_, fun base _ _ hTB => ?_⟩
  · rw [one p hp]; exact c.empty _ (List.mem_cons_self ..)
  · rw [one p hp]; exact c.out _ (List.mem_cons_self ..)
  · rw [one p hp]; exact PySem.W.codeHd_of_K X (c.hd _ (List.mem_cons_self ..))
  · exact law_start hl (hH _ (List.mem_cons_self ..)) (c.out _ (List.mem_cons_self ..)) hS
  · exact F_law Z (hTB _ (List.mem_cons_self ..)) (fun_of F)
end
end FgA
open PySem PySem.W PySem.Calls PyProof.Rows
set_option maxHeartbeats 0
theorem PySem.Challenge.cw_fanglue_k48_whole_meets_folded_holds : PySem.Challenge.rw_fanglue_k48_whole_meets_folded.Holds := by
  w_on; o_law
  refine HandSHeadRun.head_any (r := Fg.R) (q := view Fg.R.prog [Fg.lawI]) (H := Fg.hk2) (ob := Fg.ob2) (M := 6000) (loose := Fg.loose) (d := HandSHeadRun.topDef Fg.R.prog Fg.lawI) (kwd := []) Fg.ob2_eq
    (by kernel_rfl) (fun s => by kernel_rfl) Fg.runE (by kernel_rfl) (by kernel_rfl) (by kernel_rfl) (by rfl) (by first | assumption | decide +kernel) (by decide +kernel)
    ⟨rfl, rfl, rfl, rfl, rfl, by decide +kernel⟩ ?hw ?hc
  case hw => w_witness2
  case hc =>
    refine LamX.walk_ofTsE (l := PySem.Challenge.rw_fanglue_k48_whole_meets_folded) (n := 63) (k := 8) (x := "_law_script") (CX := fun _ => L2.CX0) rfl (by decide) (by kernel_rfl) ⟨rfl, by decide, by decide⟩ ?F (fun _ _ _ _ _ z => z)
    intro w mg f h Y G hmg0
    obtain ⟨K, KX, c⟩ := Y
    have hmg : mg ("law" : PySem.Str) = some (.ref f) := by
      have e : (HandSHeadRun.topDef Fg.R.prog Fg.lawI).name = ("law" : PySem.Str) := by kernel_rfl
      rw [← e]
      exact hmg0
    exact ⟨K, KX, FgA.law_at KX G hmg c⟩
