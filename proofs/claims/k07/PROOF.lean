import PyProof.Rows.All
import Wide.All
import OpenK.AllK
import Wide.FinOn
import HandS.ForMost
import HandS.ForExc
import HandS.Defaults
import HandS.HeadEnd
import HandS.HeadHook1
import HandS.HeadHook2
import KE.KStateDown
import Lean
import HandS.Head0
import HandS.Head1
import HandS.Head2
import HandS.ExcInit
import HandS.ExcIs
import HandS.ExcField
import HandS.Conv
import HandS.Style
import HandS.TupAny
import HandS.Zip
import HandS.Walk
import HandS.IsInst
import HandS.Flow
import HandS.Strs
import HandS.CallLocal
import KE.KUnpackStar
import PyProof.DictUpdate
import PyProof.DictCopy
import HandS.Dict
import HandS.DictComp
import KE.LtData
import HandS.Iter
import KE.GoesEnum
import KE.GoesMore
import HandS.TryOnly
import HandS.TryMany
import KE.KExcIs
import PyProof.Rows.ReprR
import PyProof.ReprBulk
import HandS.TupSets
import KE.KSortTupG
import KE.KSortTupUse
import PySem.Challenge.RW_forktales_k07_wholeness_judged
set_option Elab.async false
set_option linter.all false
set_option maxRecDepth 100000
set_option maxHeartbeats 4000000
namespace Fk
open PySem PySem.Spec PyProof.Rows L2
def top (i : Nat) : Stmt := PySem.Challenge.pw_forktales_k07_wholeness_judged.main.body.getD i (.Pass ⟨0, 0, 0, 0⟩)
abbrev t_sum_namings : Stmt := top 14
abbrev t_test_namings : Stmt := top 15
abbrev t_own_namings : Stmt := top 16
abbrev t_pieces_within : Stmt := top 17
abbrev t_pieces_namings : Stmt := top 18
abbrev t_deed_namings : Stmt := top 19
abbrev t_choice_namings : Stmt := top 20
abbrev t_all_namings : Stmt := top 21
abbrev t_namings_of : Stmt := top 22
abbrev t_is_number : Stmt := top 27
abbrev t_is_word : Stmt := top 28
abbrev t_is_row_text : Stmt := top 29
abbrev t_is_sign : Stmt := top 30
abbrev t_are_all : Stmt := top 31
abbrev t_is_formed : Stmt := top 32
abbrev t_is_sum : Stmt := top 33
abbrev t_are_tests : Stmt := top 34
abbrev t_is_test : Stmt := top 35
abbrev t_label_forms : Stmt := top 36
abbrev t_are_pieces_by : Stmt := top 37
abbrev t_are_label_pieces : Stmt := top 38
abbrev t_are_pieces : Stmt := top 39
abbrev t_is_deed : Stmt := top 40
abbrev t_is_next : Stmt := top 41
abbrev t_is_row_of : Stmt := top 43
abbrev t_are_unlike : Stmt := top 44
abbrev t_is_truth : Stmt := top 45
abbrev t_are_deeds : Stmt := top 46
abbrev t_is_choice : Stmt := top 47
abbrev t_are_choices : Stmt := top 48
abbrev t_are_unlike_words : Stmt := top 49
abbrev t_is_ending : Stmt := top 50
abbrev t_is_scene : Stmt := top 51
abbrev t_do_rise : Stmt := top 52
abbrev t_is_bounded : Stmt := top 53
abbrev t_are_named : Stmt := top 54
abbrev t_is_word_pair : Stmt := top 55
abbrev t_is_door : Stmt := top 56
abbrev t_is_digit : Stmt := top 57
abbrev t_is_story : Stmt := top 58
abbrev t_names_there : Stmt := top 60
abbrev t_need : Stmt := top 61
abbrev t_lets_ground : Stmt := top 62
abbrev t_lets_whole : Stmt := top 63
abbrev t_is_whole : Stmt := top 64
abbrev t_law_feed : Stmt := top 66
abbrev t_law_draw : Stmt := top 67
abbrev t_law_spoilt : Stmt := top 68
abbrev t_law_pick : Stmt := top 69
abbrev t_law_spent : Stmt := top 70
abbrev t_law_sum : Stmt := top 71
abbrev t_law_test : Stmt := top 72
abbrev t_law_pieces : Stmt := top 73
abbrev t_law_piece : Stmt := top 74
abbrev t_law_act : Stmt := top 75
abbrev t_law_next : Stmt := top 76
abbrev t_law_choice : Stmt := top 77
abbrev t_law_scene : Stmt := top 78
abbrev t_law_tale : Stmt := top 79
abbrev t_law_lost : Stmt := top 80
abbrev t_law_due : Stmt := top 81
abbrev t_law_heard : Stmt := top 82
abbrev t_law_fewer : Stmt := top 83
abbrev t_law : Stmt := top 84
def d_sum_namings : He.DefD := ⟨("sum_namings", none), "sum_namings", "sum_namings", defArgs t_sum_namings, defBody t_sum_namings, defScope t_sum_namings, [], []⟩
def d_test_namings : He.DefD := ⟨("test_namings", none), "test_namings", "test_namings", defArgs t_test_namings, defBody t_test_namings, defScope t_test_namings, [], []⟩
def d_own_namings : He.DefD := ⟨("own_namings", none), "own_namings", "own_namings", defArgs t_own_namings, defBody t_own_namings, defScope t_own_namings, [], []⟩
def d_pieces_within : He.DefD := ⟨("pieces_within", none), "pieces_within", "pieces_within", defArgs t_pieces_within, defBody t_pieces_within, defScope t_pieces_within, [], []⟩
def d_pieces_namings : He.DefD := ⟨("pieces_namings", none), "pieces_namings", "pieces_namings", defArgs t_pieces_namings, defBody t_pieces_namings, defScope t_pieces_namings, [], []⟩
def d_deed_namings : He.DefD := ⟨("deed_namings", none), "deed_namings", "deed_namings", defArgs t_deed_namings, defBody t_deed_namings, defScope t_deed_namings, [], []⟩
def d_choice_namings : He.DefD := ⟨("choice_namings", none), "choice_namings", "choice_namings", defArgs t_choice_namings, defBody t_choice_namings, defScope t_choice_namings, [], []⟩
def d_all_namings : He.DefD := ⟨("all_namings", none), "all_namings", "all_namings", defArgs t_all_namings, defBody t_all_namings, defScope t_all_namings, [], []⟩
def d_namings_of : He.DefD := ⟨("namings_of", none), "namings_of", "namings_of", defArgs t_namings_of, defBody t_namings_of, defScope t_namings_of, [], []⟩
def d_is_number : He.DefD := ⟨("is_number", none), "is_number", "is_number", defArgs t_is_number, defBody t_is_number, defScope t_is_number, [], []⟩
def d_is_word : He.DefD := ⟨("is_word", none), "is_word", "is_word", defArgs t_is_word, defBody t_is_word, defScope t_is_word, [], []⟩
def d_is_row_text : He.DefD := ⟨("is_row_text", none), "is_row_text", "is_row_text", defArgs t_is_row_text, defBody t_is_row_text, defScope t_is_row_text, [], []⟩
def d_is_sign : He.DefD := ⟨("is_sign", none), "is_sign", "is_sign", defArgs t_is_sign, defBody t_is_sign, defScope t_is_sign, [], []⟩
def d_are_all : He.DefD := ⟨("are_all", none), "are_all", "are_all", defArgs t_are_all, defBody t_are_all, defScope t_are_all, [], []⟩
def d_is_formed : He.DefD := ⟨("is_formed", none), "is_formed", "is_formed", defArgs t_is_formed, defBody t_is_formed, defScope t_is_formed, [], []⟩
def d_is_sum : He.DefD := ⟨("is_sum", none), "is_sum", "is_sum", defArgs t_is_sum, defBody t_is_sum, defScope t_is_sum, [], []⟩
def d_are_tests : He.DefD := ⟨("are_tests", none), "are_tests", "are_tests", defArgs t_are_tests, defBody t_are_tests, defScope t_are_tests, [], []⟩
def d_is_test : He.DefD := ⟨("is_test", none), "is_test", "is_test", defArgs t_is_test, defBody t_is_test, defScope t_is_test, [], []⟩
def d_label_forms : He.DefD := ⟨("label_forms", none), "label_forms", "label_forms", defArgs t_label_forms, defBody t_label_forms, defScope t_label_forms, [], []⟩
def d_are_pieces_by : He.DefD := ⟨("are_pieces_by", none), "are_pieces_by", "are_pieces_by", defArgs t_are_pieces_by, defBody t_are_pieces_by, defScope t_are_pieces_by, [], []⟩
def d_are_label_pieces : He.DefD := ⟨("are_label_pieces", none), "are_label_pieces", "are_label_pieces", defArgs t_are_label_pieces, defBody t_are_label_pieces, defScope t_are_label_pieces, [], []⟩
def d_are_pieces : He.DefD := ⟨("are_pieces", none), "are_pieces", "are_pieces", defArgs t_are_pieces, defBody t_are_pieces, defScope t_are_pieces, [], []⟩
def d_is_deed : He.DefD := ⟨("is_deed", none), "is_deed", "is_deed", defArgs t_is_deed, defBody t_is_deed, defScope t_is_deed, [], []⟩
def d_is_next : He.DefD := ⟨("is_next", none), "is_next", "is_next", defArgs t_is_next, defBody t_is_next, defScope t_is_next, [], []⟩
def d_is_row_of : He.DefD := ⟨("is_row_of", none), "is_row_of", "is_row_of", defArgs t_is_row_of, defBody t_is_row_of, defScope t_is_row_of, [], []⟩
def d_are_unlike : He.DefD := ⟨("are_unlike", none), "are_unlike", "are_unlike", defArgs t_are_unlike, defBody t_are_unlike, defScope t_are_unlike, [], []⟩
def d_is_truth : He.DefD := ⟨("is_truth", none), "is_truth", "is_truth", defArgs t_is_truth, defBody t_is_truth, defScope t_is_truth, [], []⟩
def d_are_deeds : He.DefD := ⟨("are_deeds", none), "are_deeds", "are_deeds", defArgs t_are_deeds, defBody t_are_deeds, defScope t_are_deeds, [], []⟩
def d_is_choice : He.DefD := ⟨("is_choice", none), "is_choice", "is_choice", defArgs t_is_choice, defBody t_is_choice, defScope t_is_choice, [], []⟩
def d_are_choices : He.DefD := ⟨("are_choices", none), "are_choices", "are_choices", defArgs t_are_choices, defBody t_are_choices, defScope t_are_choices, [], []⟩
def d_are_unlike_words : He.DefD := ⟨("are_unlike_words", none), "are_unlike_words", "are_unlike_words", defArgs t_are_unlike_words, defBody t_are_unlike_words, defScope t_are_unlike_words, [], []⟩
def d_is_ending : He.DefD := ⟨("is_ending", none), "is_ending", "is_ending", defArgs t_is_ending, defBody t_is_ending, defScope t_is_ending, [], []⟩
def d_is_scene : He.DefD := ⟨("is_scene", none), "is_scene", "is_scene", defArgs t_is_scene, defBody t_is_scene, defScope t_is_scene, [], []⟩
def d_do_rise : He.DefD := ⟨("do_rise", none), "do_rise", "do_rise", defArgs t_do_rise, defBody t_do_rise, defScope t_do_rise, [], []⟩
def d_is_bounded : He.DefD := ⟨("is_bounded", none), "is_bounded", "is_bounded", defArgs t_is_bounded, defBody t_is_bounded, defScope t_is_bounded, [], []⟩
def d_are_named : He.DefD := ⟨("are_named", none), "are_named", "are_named", defArgs t_are_named, defBody t_are_named, defScope t_are_named, [], []⟩
def d_is_word_pair : He.DefD := ⟨("is_word_pair", none), "is_word_pair", "is_word_pair", defArgs t_is_word_pair, defBody t_is_word_pair, defScope t_is_word_pair, [], []⟩
def d_is_door : He.DefD := ⟨("is_door", none), "is_door", "is_door", defArgs t_is_door, defBody t_is_door, defScope t_is_door, [], []⟩
def d_is_digit : He.DefD := ⟨("is_digit", none), "is_digit", "is_digit", defArgs t_is_digit, defBody t_is_digit, defScope t_is_digit, [], []⟩
def d_is_story : He.DefD := ⟨("is_story", none), "is_story", "is_story", defArgs t_is_story, defBody t_is_story, defScope t_is_story, [], []⟩
def d_names_there : He.DefD := ⟨("names_there", none), "names_there", "names_there", defArgs t_names_there, defBody t_names_there, defScope t_names_there, [], []⟩
def d_need : He.DefD := ⟨("need", none), "need", "need", defArgs t_need, defBody t_need, defScope t_need, [], []⟩
def d_lets_ground : He.DefD := ⟨("lets_ground", none), "lets_ground", "lets_ground", defArgs t_lets_ground, defBody t_lets_ground, defScope t_lets_ground, [], []⟩
def d_lets_whole : He.DefD := ⟨("lets_whole", none), "lets_whole", "lets_whole", defArgs t_lets_whole, defBody t_lets_whole, defScope t_lets_whole, [], []⟩
def d_is_whole : He.DefD := ⟨("is_whole", none), "is_whole", "is_whole", defArgs t_is_whole, defBody t_is_whole, defScope t_is_whole, [], []⟩
def d_law_feed : He.DefD := ⟨("_law_feed", none), "_law_feed", "_law_feed", defArgs t_law_feed, defBody t_law_feed, defScope t_law_feed, [], []⟩
def d_law_draw : He.DefD := ⟨("_law_draw", none), "_law_draw", "_law_draw", defArgs t_law_draw, defBody t_law_draw, defScope t_law_draw, [], []⟩
def d_law_spoilt : He.DefD := ⟨("_law_spoilt", none), "_law_spoilt", "_law_spoilt", defArgs t_law_spoilt, defBody t_law_spoilt, defScope t_law_spoilt, [], []⟩
def d_law_pick : He.DefD := ⟨("_law_pick", none), "_law_pick", "_law_pick", defArgs t_law_pick, defBody t_law_pick, defScope t_law_pick, [], []⟩
def d_law_spent : He.DefD := ⟨("_law_spent", none), "_law_spent", "_law_spent", defArgs t_law_spent, defBody t_law_spent, defScope t_law_spent, [], []⟩
def d_law_sum : He.DefD := ⟨("_law_sum", none), "_law_sum", "_law_sum", defArgs t_law_sum, defBody t_law_sum, defScope t_law_sum, [], []⟩
def d_law_test : He.DefD := ⟨("_law_test", none), "_law_test", "_law_test", defArgs t_law_test, defBody t_law_test, defScope t_law_test, [], []⟩
def d_law_pieces : He.DefD := ⟨("_law_pieces", none), "_law_pieces", "_law_pieces", defArgs t_law_pieces, defBody t_law_pieces, defScope t_law_pieces, [], []⟩
def d_law_piece : He.DefD := ⟨("_law_piece", none), "_law_piece", "_law_piece", defArgs t_law_piece, defBody t_law_piece, defScope t_law_piece, [], []⟩
def d_law_act : He.DefD := ⟨("_law_act", none), "_law_act", "_law_act", defArgs t_law_act, defBody t_law_act, defScope t_law_act, [], []⟩
def d_law_next : He.DefD := ⟨("_law_next", none), "_law_next", "_law_next", defArgs t_law_next, defBody t_law_next, defScope t_law_next, [], []⟩
def d_law_choice : He.DefD := ⟨("_law_choice", none), "_law_choice", "_law_choice", defArgs t_law_choice, defBody t_law_choice, defScope t_law_choice, [], []⟩
def d_law_scene : He.DefD := ⟨("_law_scene", none), "_law_scene", "_law_scene", defArgs t_law_scene, defBody t_law_scene, defScope t_law_scene, [], []⟩
def d_law_tale : He.DefD := ⟨("_law_tale", none), "_law_tale", "_law_tale", defArgs t_law_tale, defBody t_law_tale, defScope t_law_tale, [], []⟩
def d_law_lost : He.DefD := ⟨("_law_lost", none), "_law_lost", "_law_lost", defArgs t_law_lost, defBody t_law_lost, defScope t_law_lost, [], []⟩
def d_law_due : He.DefD := ⟨("_law_due", none), "_law_due", "_law_due", defArgs t_law_due, defBody t_law_due, defScope t_law_due, [], []⟩
def d_law_heard : He.DefD := ⟨("_law_heard", none), "_law_heard", "_law_heard", defArgs t_law_heard, defBody t_law_heard, defScope t_law_heard, [], []⟩
def d_law_fewer : He.DefD := ⟨("_law_fewer", none), "_law_fewer", "_law_fewer", defArgs t_law_fewer, defBody t_law_fewer, defScope t_law_fewer, [], []⟩
def d_law : He.DefD := ⟨("law", none), "law", "law", defArgs t_law, defBody t_law, defScope t_law, [], []⟩
def i_NoStory : Stmt := inClass (top 4) 0
def d_init : He.DefD := ⟨("NoStory", some "__init__"), "__init__", "NoStory.__init__", defArgs i_NoStory, defBody i_NoStory, defScope i_NoStory, [], []⟩
def fn1 : List He.DefD := [d_sum_namings, d_test_namings, d_own_namings, d_pieces_within, d_pieces_namings, d_deed_namings, d_choice_namings, d_all_namings, d_namings_of, d_is_number, d_is_word, d_is_row_text, d_is_sign, d_are_all, d_is_formed, d_is_sum]
def fn2 : List He.DefD := [d_are_tests, d_is_test, d_label_forms, d_are_pieces_by, d_are_label_pieces, d_are_pieces, d_is_deed, d_is_next, d_is_row_of, d_are_unlike, d_is_truth, d_are_deeds, d_is_choice, d_are_choices, d_are_unlike_words, d_is_ending]
def fn3 : List He.DefD := [d_is_scene, d_do_rise, d_is_bounded, d_are_named, d_is_word_pair, d_is_door, d_is_digit, d_is_story, d_names_there, d_need, d_lets_ground, d_lets_whole, d_is_whole, d_law_feed, d_law_draw, d_law_spoilt]
def fn4 : List He.DefD := [d_law_pick, d_law_spent, d_law_sum, d_law_test, d_law_pieces, d_law_piece, d_law_act, d_law_next, d_law_choice, d_law_scene, d_law_tale, d_law_lost, d_law_due, d_law_heard, d_law_fewer, d_law]
def fn5 : List He.DefD := [d_init]
def fn : List He.DefD := fn1 ++ (fn2 ++ (fn3 ++ (fn4 ++ (fn5))))
def glos1 : List Str := ["sum_namings", "test_namings", "own_namings", "pieces_within", "pieces_namings", "deed_namings", "choice_namings", "all_namings", "namings_of", "is_number", "is_word", "is_row_text", "is_sign", "are_all", "is_formed", "is_sum"]
def glos2 : List Str := ["are_tests", "is_test", "label_forms", "are_pieces_by", "are_label_pieces", "are_pieces", "is_deed", "is_next", "is_row_of", "are_unlike", "is_truth", "are_deeds", "is_choice", "are_choices", "are_unlike_words", "is_ending"]
def glos3 : List Str := ["is_scene", "do_rise", "is_bounded", "are_named", "is_word_pair", "is_door", "is_digit", "is_story", "names_there", "need", "lets_ground", "lets_whole", "is_whole", "_law_feed", "_law_draw", "_law_spoilt"]
def glos4 : List Str := ["_law_pick", "_law_spent", "_law_sum", "_law_test", "_law_pieces", "_law_piece", "_law_act", "_law_next", "_law_choice", "_law_scene", "_law_tale", "_law_lost", "_law_due", "_law_heard", "_law_fewer", "law"]
def glos5 : List Str := ["TaleError", "LackError", "NoPaper", "NoStory", "NoChoice", "NoRow", "NoMore", "NoText", "NoScene", "NoReader", "NoEnding", "NoStep"]
def glos : List Str := glos1 ++ (glos2 ++ (glos3 ++ (glos4 ++ (glos5))))
def frees : List Str := ["isinstance", "int", "bool", "str", "tuple", "list", "dict", "set", "len", "all", "zip", "range", "enumerate", "sorted", "repr", "ValueError"]
def fa : List He.Fa := glos.map He.Fa.glo ++ (frees.map He.Fa.free ++ [.int "LONGEST" 8, .str "LETTERS" "abcdefghijklmnopqrstuvwxyz", .glo "SIGNS"])
def loose1 : List Str := ["__name__", "TaleError", "LackError", "NoPaper", "NoStory", "NoChoice", "NoRow", "NoMore", "NoText", "NoScene", "NoReader", "NoEnding", "NoStep", "sum_namings", "test_namings", "own_namings"]
def loose2 : List Str := ["pieces_within", "pieces_namings", "deed_namings", "choice_namings", "all_namings", "namings_of", "LETTERS", "LONGEST", "SIGNS", "is_number", "is_word", "is_row_text", "is_sign", "are_all", "is_formed", "is_sum"]
def loose3 : List Str := ["are_tests", "is_test", "label_forms", "are_pieces_by", "are_label_pieces", "are_pieces", "is_deed", "is_next", "is_row_of", "are_unlike", "is_truth", "are_deeds", "is_choice", "are_choices", "are_unlike_words", "is_ending"]
def loose4 : List Str := ["is_scene", "do_rise", "is_bounded", "are_named", "is_word_pair", "is_door", "is_digit", "is_story", "names_there", "need", "lets_ground", "lets_whole", "is_whole", "_law_feed", "_law_draw", "_law_spoilt"]
def loose5 : List Str := ["_law_pick", "_law_spent", "_law_sum", "_law_test", "_law_pieces", "_law_piece", "_law_act", "_law_next", "_law_choice", "_law_scene", "_law_tale", "_law_lost", "_law_due", "_law_heard", "_law_fewer"]
def loose : List Str := loose1 ++ (loose2 ++ (loose3 ++ (loose4 ++ (loose5))))
end Fk
set_option Elab.async false
set_option linter.all false
set_option maxRecDepth 100000
set_option maxHeartbeats 0
namespace Fk
open PySem PySem.Spec PyProof.Rows L2
/-! ### the part of the heap that is told: the module's names, what they stand for, codes, classes' namespaces, methods -/
def valsAt (g : Addr → Option Obj) (a : Addr) : List Addr := match g a with
  | some o => (match o.data with
    | .dict es _ => es.toList.flatMap fun e => He.refV e.val
    | _ => [])
  | none => []
def partsAt (g : Addr → Option Obj) (a : Addr) : List Addr := match g a with
  | some o => (match o.data with
    | .func fd => He.refV fd.code
    | .cls cd => [cd.ns]
    | _ => [])
  | none => []
def asK (g : Addr → Option Obj) : List Addr :=
  let fs := valsAt g mainGlobals
  let ps := fs.flatMap (partsAt g)
  let ms := ps.flatMap (valsAt g)
  [mainGlobals, PySem.cStatics] ++ (fs ++ (ps ++ (ms ++ ms.flatMap (partsAt g))))
/-! ### facts of the error classes -/
def eqV (a b : Option Value) : Bool := decide (a = b)
def eqVV (a b : Option (Option Value)) : Bool := decide (a = b)
def eqB (a b : Option Bool) : Bool := decide (a = b)
def oexB (K : PySem.W.Frag) (C : Addr) : Bool := match K.lookup C with
  | some ⟨.type t, _, .cls cd, sl⟩ => (match cd.mro, sl.toList with
    | .ref C' :: bm, [_, _, _, _, some (.builtin n), _] => decide (t = "type") && (decide (C' = C) && (decide (n = "ValueError.__new__") && (!cd.hasDel && (cd.hasDict && PySem.HandSPX.refsVE bm))))
    | _, _ => false)
  | _ => false
theorem oexB_ok {K : PySem.W.Frag} {C : Addr} (q : oexB K C = true) : ∃ nm q N bs bm sn sub ab col dd k0 k1 k2 k3 k5, K.lookup C = some (excClassObj nm q C N bs bm true sn sub ab col dd k0 k1 k2 k3 k5 "ValueError.__new__") ∧ PySem.HandSPX.refsVE bm = true := by
  unfold oexB at q
  split at q
  · rename_i t dd cd sl ho
    split at q
    · rename_i C' bm k0 k1 k2 k3 n k5 hm hs
      obtain ⟨q1, q⟩ := He.ba q
      obtain ⟨q2, q⟩ := He.ba q
      obtain ⟨q3, q⟩ := He.ba q
      obtain ⟨q4, q⟩ := He.ba q
      obtain ⟨q5, q6⟩ := He.ba q
      have e1 := of_decide_eq_true q1
      have e2 := of_decide_eq_true q2
      have e3 := of_decide_eq_true q3
      subst e1 e2 e3
      obtain ⟨nm, bs, mro, ns, qn, hd, sn, sub, ab, col, del⟩ := cd
      dsimp only at hm q4 q5
      have e4 : del = false := by
        cases del with
        | false => rfl
        | true => cases q4
      subst hm e4 q5
      have hsl : sl = #[k0, k1, k2, k3, some (.builtin "ValueError.__new__"), k5] := by
        obtain ⟨l⟩ := sl
        simp only at hs
        rw [hs]
      subst hsl
      exact ⟨nm, qn, ns, bs, bm, sn, sub, ab, col, dd, k0, k1, k2, k3, k5, ho, q6⟩
    · cases q
  · cases q
def clsFoundB (K : PySem.W.Frag) (T : Addr) : Bool := match PySem.W.findCls K (.ref T) (.type "type") "__init__" with
  | some (.val (.builtin n)) => decide (n = "ValueError.__init__")
  | _ => false
theorem clsFoundB_ok {K : PySem.W.Frag} {T : Addr} (q : clsFoundB K T = true) : PySem.W.findCls K (.ref T) (.type "type") "__init__" = some (.val (.builtin "ValueError.__init__")) := by
  unfold clsFoundB at q
  split at q
  · rename_i n h
    rw [h, of_decide_eq_true q]
  · cases q
def noOthers : List Str := ["LackError", "NoChoice", "NoEnding", "NoMore", "NoPaper", "NoReader", "NoRow", "NoScene", "NoStep", "NoText"]
/-- what is asked of NoStory, TaleError, LackError -/
def exL (K : PySem.W.Frag) : List Bool :=
  let C := He.ga K "NoStory"
  let T := He.ga K "TaleError"
  [oexB K C,
   eqVV (PySem.W.findIn K (.ref C) "__setattr__") (some (some (.builtin "object.__setattr__"))),
   eqB (PySem.W.subIn K (.ref C) (.type "BaseException")) (some true),
   eqV (PySem.W.typeIn K (.ref C)) (some (.type "type")),
   PySem.W.keepIn K (.ref C),
   eqVV (PySem.W.findIn K (.ref C) "__init__") (some (some (.ref (He.ma K C "__init__")))),
   eqV (PySem.W.typeIn K (.ref (He.ma K C "__init__"))) (some (.type "function")),
   eqVV (PySem.W.findIn K (.ref C) "word") (some none),
   eqVV (PySem.W.findIn K (.ref C) "at") (some none),
   eqB (PySem.W.exmOne K (.ref C) (.ref C)) (some true),
   eqB (PySem.W.exmOne K (.ref C) (.ref T)) (some true),
   eqB (PySem.W.exmOne K (.ref C) (.ref (He.ga K "LackError"))) (some false),
   noOthers.all fun x => eqB (PySem.W.kitOne K (.ref C) (.ref (He.ga K x))) (some false),
   eqB (PySem.W.kitOne K (.ref C) (.type "ValueError")) (some true),
   eqB (PySem.W.kitOne K (.ref C) (.ref C)) (some true),
   eqVV (PySem.W.findIn K (.ref C) "__getattribute__") (some (some (.builtin "BaseException.__getattribute__"))),
   eqVV (PySem.W.findIn K (.ref C) "__getattr__") (some none),
   PySem.W.hasDictIn K C,
   eqVV (PySem.W.findIn K (.ref C) "__class__") (some (some (.builtin "object.__class__"))),
   eqVV (PySem.W.specialIn K (.builtin "object.__class__") "__get__") (some (some (.builtin "getset_descriptor.__get__"))),
   eqB (PySem.W.takesIn K (.builtin "object.__class__")) (some true),
   eqB (PySem.W.mroIn K C (.type "object")) (some true),
   eqVV (PySem.W.specialIn K (.ref T) "__getattribute__") (some (some (.builtin "type.__getattribute__"))),
   PySem.W.readsIn K T (.type "type"),
   clsFoundB K T,
   He.tupB K "SIGNS" [.str "<", .str "=", .str ">"],
   glos.all fun x => PySem.W.keepIn K (.ref (He.ga K x))]
def exB (K : PySem.W.Frag) : Bool := (exL K).all id
/-! ### the Hook -/
abbrev AlK : Type := He.AlD × Bool
def obsK (g : Addr → Option Obj) : AlK := (He.obsD fa fn (He.frG g (asK g)), exB (He.frG g (asK g)))
def hookK : PySem.W.Hook where
  α := AlK
  obs := fun s => obsK s.heap.get?
  val := fun _ => (He.valD fn, true)
  says := fun _ h => ∃ K : PySem.W.Frag, K.In h ∧ He.SaysD fa fn K ∧ exB K = true
  of := fun _ _ e => ⟨_, He.frG_in, congrArg (fun z : AlK => z.1) e, congrArg (fun z : AlK => z.2) e⟩
  keeps := fun _ _ _ ⟨K, hK, c⟩ k => ⟨K, PySem.W.Frag.In.keeps hK k, c⟩
theorem obsK_eq {g : Addr → Option Obj} {s : Shared} (h : ∀ a, g a = s.heap.get? a) : obsK g = hookK.obs s := by
  have e : g = s.heap.get? := funext h
  rw [e] <;> rfl
abbrev R : PySem.W.OpenRow := PySem.W.OpenLaw.row PySem.Challenge.rw_forktales_k07_wholeness_judged
def ob (s : PySem.W.SharedT) : AlK := obsK (HandSHeadRun.getT s)
theorem ob_eq (s : PySem.W.SharedT) : ob s = hookK.obs s.abs := obsK_eq (HandSHeadRun.getT_eq s)
theorem run0 (w : World) : HandSHeadRun.RunEq R (PySem.W.view R.prog [84]) hookK ob 8000 loose w := by
  intro os
  kernel_rfl
end Fk
set_option Elab.async false
set_option linter.all false
set_option maxRecDepth 100000
set_option maxHeartbeats 4000000
/-! K1: data (D), how the heap bears it (DD), what is canonical of an expression (WE ..), judgements on data alone (HE ..). -/
namespace Fk
open PySem PySem.Spec PyProof.Rows L2
/-! ### data -/
inductive D where
  | non | bl (b : Bool) | int (i : Int) | str (s : Str)
  | tup (ds : List D) | lst (ds : List D)
  | dic (ks : List Str) (vs : List D)
  | fn (x : Str) | obj (a : Addr)
mutual
inductive DD (K : PySem.W.Frag) (W : List Addr) (H : Hp) : V → D → Prop
  | non : DD K W H .non .non
  | bl (b : Bool) : DD K W H (.bl b) (.bl b)
  | int (i : Int) : DD K W H (.int i) (.int i)
  | str (x : Str) : DD K W H (.str x) (.str x)
  | tup {a : Addr} {xs : List V} {ds : List D} : a ∉ W → H a = some (.tup xs) → DDs K W H xs ds → DD K W H (.ref a) (.tup ds)
  | lst {a : Addr} {xs : List V} {ds : List D} : a ∉ W → H a = some (.lst xs) → DDs K W H xs ds → DD K W H (.ref a) (.lst ds)
  | dic {a : Addr} {kvs : List (Key × V)} {ks : List Str} {ds : List D} : a ∉ W → H a = some (.dK kvs) → kvs.map (·.1) = ks.map Sum.inr → DDs K W H (kvs.map (·.2)) ds → DD K W H (.ref a) (.dic ks ds)
  | fn (x : Str) : DD K W H (.ref (He.ga K x)) (.fn x)
  | obj (a : Addr) : DD K W H (.ref a) (.obj a)
inductive DDs (K : PySem.W.Frag) (W : List Addr) (H : Hp) : List V → List D → Prop
  | nil : DDs K W H [] []
  | cons {v : V} {vs : List V} {d : D} {ds : List D} : DD K W H v d → DDs K W H vs ds → DDs K W H (v :: vs) (d :: ds)
end
section
variable {K : PySem.W.Frag} {W W' G : List Addr} {H H' : Hp}
/-- all but G is as it was -/
def Ext (G : List Addr) (H H' : Hp) : Prop := ∀ a o, a ∉ G → H a = some o → H' a = some o
theorem Ext.refl : Ext G H H := fun _ _ _ h => h
theorem Ext.trans {H'' : Hp} (x : Ext G H H') (y : Ext G H' H'') : Ext G H H'' := fun a o n h => y a o n (x a o n h)
theorem Ext.of_same (s : Same H H') : Ext G H H' := fun a o _ h => s a o h
theorem Ext.same (x : Ext [] H H') : Same H H' := fun a o h => x a o (by simp) h
theorem Ext.mono {G' : List Addr} (x : Ext G H H') (s : ∀ a ∈ G, a ∈ G') : Ext G' H H' := fun a o n h => x a o (fun z => n (s a z)) h
theorem Ext.upd {p : Addr} {o : HO} (h : H p = none) : Ext G H (upd H p o) := fun a u _ e => by
  rw [upd_ne (ne_of_none e h)]
  exact e
theorem Same.upd {p : Addr} {o : HO} (h : H p = none) : Same H (upd H p o) := fun a u e => by
  rw [upd_ne (ne_of_none e h)]
  exact e
mutual
theorem DD.mono (s : ∀ a ∈ W', a ∈ W) (e : Ext W H H') : ∀ {d : D} {v : V}, DD K W H v d → DD K W' H' v d
  | .non, _, h => by cases h; exact .non
  | .bl _, _, h => by cases h; exact .bl _
  | .int _, _, h => by cases h; exact .int _
  | .str _, _, h => by cases h; exact .str _
  | .tup ds, _, h => by
    cases h with
    | tup n h1 h2 => exact .tup (fun z => n (s _ z)) (e _ _ n h1) (DDs.mono s e h2)
  | .lst ds, _, h => by
    cases h with
    | lst n h1 h2 => exact .lst (fun z => n (s _ z)) (e _ _ n h1) (DDs.mono s e h2)
  | .dic ks ds, _, h => by
    cases h with
    | dic n h1 h2 h3 => exact .dic (fun z => n (s _ z)) (e _ _ n h1) h2 (DDs.mono s e h3)
  | .fn _, _, h => by cases h; exact .fn _
  | .obj _, _, h => by cases h; exact .obj _
theorem DDs.mono (s : ∀ a ∈ W', a ∈ W) (e : Ext W H H') : ∀ {ds : List D} {vs : List V}, DDs K W H vs ds → DDs K W' H' vs ds
  | [], _, h => by cases h; exact .nil
  | d :: ds, _, h => by
    cases h with
    | cons h1 h2 => exact .cons (DD.mono s e h1) (DDs.mono s e h2)
end
theorem DD.ext (h : DD K W H v d) (e : Ext W H H') : DD K W H' v d := h.mono (fun _ z => z) e
theorem DDs.ext (h : DDs K W H vs ds) (e : Ext W H H') : DDs K W H' vs ds := h.mono (fun _ z => z) e
theorem DD.same (h : DD K W H v d) (e : Same H H') : DD K W H' v d := h.ext (.of_same e)
theorem DDs.same (h : DDs K W H vs ds) (e : Same H H') : DDs K W H' vs ds := h.ext (.of_same e)
mutual
/-- a new address is in no data -/
theorem DD.fresh {p : Addr} (n : H p = none) : ∀ {d : D} {v : V}, DD K W H v d → DD K (p :: W) H v d
  | .non, _, h => by cases h; exact .non
  | .bl _, _, h => by cases h; exact .bl _
  | .int _, _, h => by cases h; exact .int _
  | .str _, _, h => by cases h; exact .str _
  | .tup ds, _, h => by
    cases h with
    | tup m h1 h2 => exact .tup (fun z => (List.mem_cons.mp z).elim (fun q => ne_of_none h1 n q) m) h1 (DDs.fresh n h2)
  | .lst ds, _, h => by
    cases h with
    | lst m h1 h2 => exact .lst (fun z => (List.mem_cons.mp z).elim (fun q => ne_of_none h1 n q) m) h1 (DDs.fresh n h2)
  | .dic ks ds, _, h => by
    cases h with
    | dic m h1 h2 h3 => exact .dic (fun z => (List.mem_cons.mp z).elim (fun q => ne_of_none h1 n q) m) h1 h2 (DDs.fresh n h3)
  | .fn _, _, h => by cases h; exact .fn _
  | .obj _, _, h => by cases h; exact .obj _
theorem DDs.fresh {p : Addr} (n : H p = none) : ∀ {ds : List D} {vs : List V}, DDs K W H vs ds → DDs K (p :: W) H vs ds
  | [], _, h => by cases h; exact .nil
  | d :: ds, _, h => by
    cases h with
    | cons h1 h2 => exact .cons (DD.fresh n h1) (DDs.fresh n h2)
end
theorem DDs.length : ∀ {ds : List D} {vs : List V}, DDs K W H vs ds → vs.length = ds.length
  | [], _, h => by cases h; rfl
  | d :: ds, _, h => by
    cases h with
    | cons _ h2 => simp [DDs.length h2]
theorem DDs.get : ∀ {ds : List D} {vs : List V} {i : Nat} {d : D}, DDs K W H vs ds → ds[i]? = some d → ∃ v, vs[i]? = some v ∧ DD K W H v d
  | [], _, _, _, _, e => by simp at e
  | d :: ds, _, i, d', h, e => by
    cases h with
    | cons h1 h2 =>
      cases i with
      | zero =>
        simp at e
        subst e
        exact ⟨_, rfl, h1⟩
      | succ i => exact DDs.get (i := i) h2 (by simpa using e)
theorem DDs.getV : ∀ {ds : List D} {vs : List V} {i : Nat} {v : V}, DDs K W H vs ds → vs[i]? = some v → ∃ d, ds[i]? = some d ∧ DD K W H v d
  | [], _, _, _, h, e => by cases h; simp at e
  | d :: ds, _, i, v', h, e => by
    cases h with
    | cons h1 h2 =>
      cases i with
      | zero =>
        simp at e
        subst e
        exact ⟨_, rfl, h1⟩
      | succ i => exact DDs.getV (i := i) h2 (by simpa using e)
theorem DDs.append : ∀ {ds es : List D} {vs us : List V}, DDs K W H vs ds → DDs K W H us es → DDs K W H (vs ++ us) (ds ++ es)
  | [], _, _, _, h, k => by cases h; exact k
  | d :: ds, _, _, _, h, k => by
    cases h with
    | cons h1 h2 => exact .cons h1 (DDs.append h2 k)
theorem DDs.drop : ∀ {ds : List D} {vs : List V} (n : Nat), DDs K W H vs ds → DDs K W H (vs.drop n) (ds.drop n)
  | _, _, 0, h => h
  | [], _, _ + 1, h => by cases h; exact .nil
  | d :: ds, _, n + 1, h => by
    cases h with
    | cons _ h2 => exact DDs.drop n h2
theorem DDs.take : ∀ {ds : List D} {vs : List V} (n : Nat), DDs K W H vs ds → DDs K W H (vs.take n) (ds.take n)
  | _, _, 0, _ => .nil
  | [], _, _ + 1, h => by cases h; exact .nil
  | d :: ds, _, n + 1, h => by
    cases h with
    | cons h1 h2 => exact .cons h1 (DDs.take n h2)
theorem DDs.reverse : ∀ {ds : List D} {vs : List V}, DDs K W H vs ds → DDs K W H vs.reverse ds.reverse
  | [], _, h => by cases h; exact .nil
  | d :: ds, _, h => by
    cases h with
    | cons h1 h2 =>
      rw [List.reverse_cons, List.reverse_cons]
      exact (DDs.reverse h2).append (.cons h1 .nil)
theorem DDs.set : ∀ {ds : List D} {vs : List V} {v : V} {d : D} (n : Nat), DDs K W H vs ds → DD K W H v d → DDs K W H (vs.set n v) (ds.set n d)
  | [], _, _, _, _, h, _ => by cases h; exact .nil
  | d :: ds, _, _, _, 0, h, k => by
    cases h with
    | cons _ h2 => exact .cons k h2
  | d :: ds, _, _, _, n + 1, h, k => by
    cases h with
    | cons h1 h2 => exact .cons h1 (DDs.set n h2 k)
theorem DDs.dropLast {ds : List D} {vs : List V} (h : DDs K W H vs ds) : DDs K W H vs.dropLast ds.dropLast := by
  rw [List.dropLast_eq_take, List.dropLast_eq_take, h.length]
  exact h.take _
end
/-! ### canonical readings -/
@[irreducible] def WE (X : Cx) (e : Expr) : TE := fun σ H Q => ∀ pins s, Inv X pins σ H s → wpAny (model X.prog X.w) X.A (eval e X.env) (EP X pins σ Q) X.xe s
@[irreducible] def WT (X : Cx) (e : Expr) : TT := fun σ H Q => ∀ pins s, Inv X pins σ H s → wpAny (model X.prog X.w) X.A (isTrue e X.env (eval e X.env)) (TP X pins σ Q) X.xe s
@[irreducible] def WA (X : Cx) (es : List Expr) : TA := fun σ H Q => ∀ pos pins s, Inv X pins σ H s → wpAny (model X.prog X.w) X.A (spliced (backTo pos (starEach es X.env))) (AP X pins σ Q) X.xe s
@[irreducible] def WS (X : Cx) (st : Stmt) : TS := fun D σ H => ∀ pins s, Inv X pins σ H s → wpAny (model X.prog X.w) X.A (exec st X.env) (SP X pins D) X.xe s
@[irreducible] def WSs (X : Cx) (st : List Stmt) : TS := fun D σ H => ∀ pins s, Inv X pins σ H s → wpAny (model X.prog X.w) X.A (execs st X.env) (SP X pins D) X.xe s
@[irreducible] def WG (X : Cx) (tg : Expr) : TG := fun v σ H Q => ∀ pins s u, Inv X pins σ H s → RelV v u → wpAny (model X.prog X.w) X.A (assign tg X.env u) (fun _ s' => ∃ σ' H', Inv X pins σ' H' s' ∧ Q σ' H') X.xe s
@[irreducible] def WTs (X : Cx) (ifs : List Expr) : TT := fun σ H Q => ∀ pins s, Inv X pins σ H s → wpAny (model X.prog X.w) X.A (forIn ifs true fun c r => if r = true then do let ok ← isTrue c X.env (eval c X.env); pure (ForInStep.yield ok) else pure (ForInStep.yield r)) (TP X pins σ Q) X.xe s
section
variable {X : Cx}
theorem peW {e : Expr} : PE X e (WE X e) := ⟨fun pins s _ _ _ I h => by unfold WE at h; exact h pins s I⟩
theorem ptW {e : Expr} : PT X e (WT X e) := ⟨fun pins s _ _ _ I h => by unfold WT at h; exact h pins s I⟩
theorem paW {es : List Expr} : PA X es (WA X es) := ⟨fun pos pins s _ _ _ I h => by unfold WA at h; exact h pos pins s I⟩
theorem psW {st : Stmt} : PS X st (WS X st) := ⟨fun pins s _ _ _ I h => by unfold WS at h; exact h pins s I⟩
theorem pssW {st : List Stmt} : PSs X st (WSs X st) := ⟨fun pins s _ _ _ I h => by unfold WSs at h; exact h pins s I⟩
theorem pgW {tg : Expr} : PG X tg (WG X tg) := ⟨fun pins s _ _ _ u _ I r h => by unfold WG at h; exact h pins s u I r⟩
theorem ptsW {ifs : List Expr} : PTs X ifs (WTs X ifs) := ⟨fun pins s _ _ _ I h => by unfold WTs at h; exact h pins s I⟩
theorem _root_.L2.PE.wpr {e : Expr} {t : TE} (p : PE X e t) {σ : L2.St} {H : Hp} {Q : VK} (h : t σ H Q) : WE X e σ H Q := by unfold WE; exact fun pins s I => p.run pins s σ H Q I h
theorem _root_.L2.PT.wpr {e : Expr} {t : TT} (p : PT X e t) {σ : L2.St} {H : Hp} {Q : Bool → Hp → Prop} (h : t σ H Q) : WT X e σ H Q := by unfold WT; exact fun pins s I => p.run pins s σ H Q I h
theorem _root_.L2.PA.wpr {es : List Expr} {t : TA} (p : PA X es t) {σ : L2.St} {H : Hp} {Q : List V → Hp → Prop} (h : t σ H Q) : WA X es σ H Q := by unfold WA; exact fun pos pins s I => p.run pos pins s σ H Q I h
theorem _root_.L2.PS.wpr {st : Stmt} {t : TS} (p : PS X st t) {σ : L2.St} {H : Hp} {D : Ends} (h : t D σ H) : WS X st D σ H := by unfold WS; exact fun pins s I => p.run pins s σ H D I h
theorem _root_.L2.PSs.wpr {st : List Stmt} {t : TS} (p : PSs X st t) {σ : L2.St} {H : Hp} {D : Ends} (h : t D σ H) : WSs X st D σ H := by unfold WSs; exact fun pins s I => p.run pins s σ H D I h
theorem _root_.L2.PG.wpr {tg : Expr} {t : TG} (p : PG X tg t) {v : V} {σ : L2.St} {H : Hp} {Q : L2.St → Hp → Prop} (h : t v σ H Q) : WG X tg v σ H Q := by unfold WG; exact fun pins s u I r => p.run pins s σ H v u Q I r h
theorem _root_.L2.PTs.wpr {ifs : List Expr} {t : TT} (p : PTs X ifs t) {σ : L2.St} {H : Hp} {Q : Bool → Hp → Prop} (h : t σ H Q) : WTs X ifs σ H Q := by unfold WTs; exact fun pins s I => p.run pins s σ H Q I h
end
end Fk
set_option Elab.async false
set_option linter.all false
set_option maxRecDepth 100000
set_option maxHeartbeats 4000000
/-! K2: judgements on data alone, the first rules. -/
namespace Fk
open PySem PySem.Spec PyProof.Rows L2
/-! ### what the run carries besides the data: G may be changed by calls, F is looked at by J; J n: n bounds what was drawn -/
structure Gx where
  G : List Addr
  F : List Addr
  R : List Addr
  J : Nat → Hp → Prop
  sub : ∀ a ∈ G, a ∈ F
  subR : ∀ a ∈ R, a ∈ F
  nR : ∀ a ∈ G, a ∉ R
  trk : ∀ n H, J n H → ∀ a ∈ F, ∃ o, H a = some o
  lstR : ∀ n H, J n H → ∀ a ∈ R, ∃ xs, H a = some (.lst xs)
  stab : ∀ n H H', J n H → (∀ a ∈ F, H' a = H a) → J n H'
theorem Gx.same (g : Gx) {n : Nat} {H H' : Hp} (j : g.J n H) (s : Same H H') : g.J n H' := g.stab n H H' j fun a ha => by
  obtain ⟨o, e⟩ := g.trk n H j a ha
  rw [e]
  exact s a o e
/-- nothing is carried -/
def gx0 : Gx := ⟨[], [], [], fun _ _ => True, fun _ h => h, fun _ h => h, fun _ h => absurd h (by simp), fun _ _ _ _ h => absurd h (by simp), fun _ _ _ _ h => absurd h (by simp), fun _ _ _ _ _ => trivial⟩
/-- what is carried must not be met in data, but for the lists that are only read -/
structure GW (g : Gx) (W : List Addr) : Prop where
  f : ∀ a ∈ g.F, a ∈ W ∨ a ∈ g.R
  r : ∀ a ∈ g.R, a ∉ W
theorem GW.G {g : Gx} {W : List Addr} (h : GW g W) : ∀ a ∈ g.G, a ∈ W := fun a ha => (h.f a (g.sub a ha)).resolve_right (g.nR a ha)
theorem GW.cons {g : Gx} {W : List Addr} {p : Addr} {n : Nat} {H : Hp} (h : GW g W) (j : g.J n H) (hp : H p = none) : GW g (p :: W) :=
  ⟨fun a ha => (h.f a ha).imp_left (List.mem_cons_of_mem _), fun a ha hm => by
    rcases List.mem_cons.mp hm with rfl | hm
    · obtain ⟨o, e⟩ := g.trk n H j _ (g.subR _ ha)
      rw [hp] at e
      cases e
    · exact h.r a ha hm⟩
/-- a slot: not looked at, a datum, a list of one's own that may change -/
inductive SV where
  | no | dat (d : D) | own (ds : List D)
/-- the state: W must not be met in data -/
structure Ok (K : PySem.W.Frag) (g : Gx) (W : List Addr) (n : Nat) (ρ : List SV) (σ : L2.St) (H : Hp) : Prop where
  j : g.J n H
  gw : GW g W
  trk : ∀ a ∈ W, ∃ o, H a = some o
  len : ρ.length = σ.length
  dats : ∀ (i : Nat) (d : D), ρ[i]? = some (SV.dat d) → ∃ v, σ[i]? = some (some v) ∧ DD K W H v d
  owns : ∀ (i : Nat) (ds : List D), ρ[i]? = some (SV.own ds) → ∃ a xs, σ[i]? = some (some (.ref a)) ∧ a ∈ W ∧ a ∉ g.F ∧ H a = some (.lst xs) ∧ DDs K W H xs ds
section
variable {K : PySem.W.Frag} {g : Gx} {W : List Addr} {n n' : Nat} {ρ : List SV} {σ : L2.St} {H H' : Hp}
theorem Ok.extW (k : Ok K g W n ρ σ H) (e : Ext g.G H H') : Ext W H H' := e.mono fun a h => k.gw.G a h
theorem Ok.step (k : Ok K g W n ρ σ H) (e : Ext g.G H H') (j : g.J n' H') : Ok K g W n' ρ σ H' := by
  refine ⟨j, k.gw, fun a ha => ?_, k.len, fun i d h => ?_, fun i ds h => ?_⟩
  · by_cases hf : a ∈ g.F
    · exact g.trk n' H' j a hf
    · obtain ⟨o, q⟩ := k.trk a ha
      exact ⟨o, e a o (fun z => hf (g.sub a z)) q⟩
  · obtain ⟨v, h1, h2⟩ := k.dats i d h
    exact ⟨v, h1, h2.ext (k.extW e)⟩
  · obtain ⟨a, xs, h1, h2, h3, h4, h5⟩ := k.owns i ds h
    exact ⟨a, xs, h1, h2, h3, e a _ (fun z => h3 (g.sub a z)) h4, h5.ext (k.extW e)⟩
theorem Ok.same (k : Ok K g W n ρ σ H) (s : Same H H') : Ok K g W n ρ σ H' := k.step (.of_same s) (g.same k.j s)
theorem Ok.fresh {p : Addr} {o : HO} (k : Ok K g W n ρ σ H) (h : H p = none) : p ∉ W := fun z => by
  obtain ⟨o, q⟩ := k.trk p z
  rw [h] at q
  cases q
/-- one more address that must not be met -/
theorem Ok.more {p : Addr} {o : HO} (k : Ok K g W n ρ σ H) (h : H p = none) : Ok K g (p :: W) n ρ σ (upd H p o) := by
  have s : Same H (upd H p o) := Same.upd h
  have ext : Ext (p :: W) H (upd H p o) := .of_same s
  refine ⟨g.same k.j s, k.gw.cons k.j h, fun a ha => ?_, k.len, fun i d e => ?_, fun i ds e => ?_⟩
  · rcases List.mem_cons.mp ha with rfl | ha
    · exact ⟨o, upd_same⟩
    · obtain ⟨u, q⟩ := k.trk a ha
      exact ⟨u, s _ _ q⟩
  · obtain ⟨v, h1, h2⟩ := k.dats i d e
    exact ⟨v, h1, (h2.fresh h).ext ext⟩
  · obtain ⟨a, xs, h1, h2, h3, h4, h5⟩ := k.owns i ds e
    exact ⟨a, xs, h1, List.mem_cons_of_mem _ h2, h3, s _ _ h4, (h5.fresh h).ext ext⟩
end
/-! ### the judgements -/
section
variable (X : Cx) (g : Gx) (n : Nat) (ρ : List SV)
/-- an expression gives a datum -/
def HE (e : Expr) (Q : Nat → D → Prop) : Prop := ∀ (W : List Addr) (σ : L2.St) (H : Hp), Ok X.K g W n ρ σ H → ∀ R : VK,
  (∀ n' d v H', Q n' d → Ext g.G H H' → g.J n' H' → DD X.K W H' v d → R v H') → WE X e σ H R
/-- .. a new list of its own -/
def HF (e : Expr) (Q : Nat → List D → Prop) : Prop := ∀ (W : List Addr) (σ : L2.St) (H : Hp), Ok X.K g W n ρ σ H → ∀ R : VK,
  (∀ n' ds a xs H', Q n' ds → H a = none → Ext g.G H H' → g.J n' H' → H' a = some (.lst xs) → DDs X.K (a :: W) H' xs ds → R (.ref a) H') → WE X e σ H R
def HT (e : Expr) (Q : Nat → Bool → Prop) : Prop := ∀ (W : List Addr) (σ : L2.St) (H : Hp), Ok X.K g W n ρ σ H → ∀ R : Bool → Hp → Prop,
  (∀ n' b H', Q n' b → Ext g.G H H' → g.J n' H' → R b H') → WT X e σ H R
def HA (es : List Expr) (Q : Nat → List D → Prop) : Prop := ∀ (W : List Addr) (σ : L2.St) (H : Hp), Ok X.K g W n ρ σ H → ∀ R : List V → Hp → Prop,
  (∀ n' ds vs H', Q n' ds → Ext g.G H H' → g.J n' H' → DDs X.K W H' vs ds → R vs H') → WA X es σ H R
/-- a walk's items -/
structure Feeds (K : PySem.W.Frag) (J : It) (τ : List (V × D)) (ds : List D) : Prop where
  go : ∀ (W : List Addr) (H : Hp), (∀ p ∈ τ, DD K W H p.1 p.2) → ∀ (i : Nat) (d : D), ds[i]? = some d → J.go i H
  yld : ∀ (W : List Addr) (H : Hp), (∀ p ∈ τ, DD K W H p.1 p.2) → (∀ a ∈ W, ∃ o, H a = some o) → ∀ (i : Nat) (d : D), ds[i]? = some d → ∀ x H', J.yld i H x H' → Same H H' ∧ DD K W H' x d
  stop : ∀ (W : List Addr) (H : Hp), (∀ p ∈ τ, DD K W H p.1 p.2) → J.stop ds.length H
def HI (tg iter : Expr) (Q : Nat → List D → Prop) : Prop := ∃ wi : TI, PI X tg iter wi ∧ ∀ (W : List Addr) (σ : L2.St) (H : Hp), Ok X.K g W n ρ σ H → ∀ R : It → Hp → Prop,
  (∀ n' ds J τ H', Q n' ds → Ext g.G H H' → g.J n' H' → Feeds X.K J τ ds → (∀ p ∈ τ, DD X.K W H' p.1 p.2) → R J H') → wi σ H R
/-- a datum goes to a target: the slots vs change -/
structure HG (vs : List Nat) (tg : Expr) (d : D) (ρ' : List SV) : Prop where
  fr : ∀ i, i ∉ vs → ρ'[i]? = ρ[i]?
  ow : ∀ i, i ∈ vs → ∀ ds, ρ'[i]? ≠ some (SV.own ds)
  run : ∀ (n : Nat) (W : List Addr) (σ : L2.St) (H : Hp) (v : V), Ok X.K g W n ρ σ H → DD X.K W H v d → ∀ R : L2.St → Hp → Prop,
    (∀ σ' H', Same H H' → Ok X.K g W n ρ' σ' H' → (∀ (i : Nat), i ∉ vs → σ'[i]? = σ[i]?) → σ'.length = σ.length → R σ' H') → WG X tg v σ H R
end
/-! ### from the rules of the layer -/
section
variable {X : Cx} {g : Gx} {n : Nat} {ρ : List SV} {e a b c : Expr} {pos : Pos} {Q : Nat → D → Prop}
theorem HE.mono {Q' : Nat → D → Prop} (h : HE X g n ρ e Q) (q : ∀ n d, Q n d → Q' n d) : HE X g n ρ e Q' := fun W σ H k R r => h W σ H k R fun n' d v H' z => r n' d v H' (q _ _ z)
theorem HF.he {Q : Nat → List D → Prop} (h : HF X g n ρ e Q) : HE X g n ρ e fun n' d => ∃ ds, d = .lst ds ∧ Q n' ds := fun W σ H k R r =>
  h W σ H k R fun n' ds a xs H' q na ex j ha dd => r n' (.lst ds) _ _ ⟨ds, rfl, q⟩ ex j (.lst (k.fresh (o := .lst xs) na) ha (dd.mono (fun _ z => List.mem_cons_of_mem _ z) (fun _ _ _ z => z)))
theorem he_lst {Q : Nat → D → Prop} (h : HF X g n ρ e fun n' ds => Q n' (.lst ds)) : HE X g n ρ e Q := HE.mono (HF.he h) fun _ _ ⟨_, e, q⟩ => e ▸ q
theorem HT.mono {Q Q' : Nat → Bool → Prop} (h : HT X g n ρ e Q) (q : ∀ n d, Q n d → Q' n d) : HT X g n ρ e Q' := fun W σ H k R r => h W σ H k R fun n' d H' z => r n' d H' (q _ _ z)
/-- a name whose slot holds a datum -/
theorem he_name {i : Nat} {x : Str} {d : D} (hr : ρ[i]? = some (.dat d)) (hN : X.N[i]? = some x) (q : Q n d)
    (hv : Vis X.env.scope x := by first | exact Or.inl rfl | exact Or.inr (Or.inl rfl) | exact Or.inr (Or.inr rfl)) (hd : (x == ("__debug__" : Str)) = false := by decide) (hcd : (x == ("__classdict__" : Str)) = false := by decide) : HE X g n ρ (.Name x pos) Q := fun W σ H k R r => by
  obtain ⟨v, h1, h2⟩ := k.dats i d hr
  exact (pe_var hN hv hd hcd).wpr ⟨v, h1, r n d v H q (Ext.refl) k.j h2⟩
theorem he_int {i : Int} {j : Nat} (q : Q n (.int i)) : HE X g n ρ (.Constant (.int i) j pos) Q := fun W σ H k R r => pe_int.wpr (r n _ _ H q .refl k.j (.int i))
theorem he_bl {i : Bool} {j : Nat} (q : Q n (.bl i)) : HE X g n ρ (.Constant (.bool i) j pos) Q := fun W σ H k R r => pe_bl.wpr (r n _ _ H q .refl k.j (.bl i))
theorem he_non {j : Nat} (q : Q n .non) : HE X g n ρ (.Constant .none j pos) Q := fun W σ H k R r => pe_non.wpr (r n _ _ H q .refl k.j .non)
theorem he_str {x : Str} {j : Nat} (q : Q n (.str x)) : HE X g n ρ (.Constant (.str x) j pos) Q := fun W σ H k R r => pe_str.wpr (r n _ _ H q .refl k.j (.str x))
/-- a def of the text as a value -/
theorem he_fn {x : Str} (hm : X.mg x = some (.ref (He.ga X.K x))) (q : Q n (.fn x)) (hg : Gl X x := by rfl) (hd : (x == ("__debug__" : Str)) = false := by decide) : HE X g n ρ (.Name x pos) Q := fun W σ H k R r =>
  (pe_glob (v := .ref (He.ga X.K x)) hg hm rfl hd).wpr (r n _ _ H q .refl k.j (.fn x))
theorem he_gint {x : Str} {i : Int} (hm : ∃ t, X.mg x = some (.int i t)) (q : Q n (.int i)) (hg : Gl X x := by rfl) (hd : (x == ("__debug__" : Str)) = false := by decide) : HE X g n ρ (.Name x pos) Q := fun W σ H k R r => by
  obtain ⟨t, e⟩ := hm
  exact (pe_glob (v := .int i) hg e ⟨t, rfl⟩ hd).wpr (r n _ _ H q .refl k.j (.int i))
theorem he_gstr {x z : Str} (hm : ∃ t, X.mg x = some (.str z t)) (q : Q n (.str z)) (hg : Gl X x := by rfl) (hd : (x == ("__debug__" : Str)) = false := by decide) : HE X g n ρ (.Name x pos) Q := fun W σ H k R r => by
  obtain ⟨t, e⟩ := hm
  exact (pe_glob (v := .str z) hg e ⟨t, rfl⟩ hd).wpr (r n _ _ H q .refl k.j (.str z))
/-! arguments -/
theorem ha_nil {Q : Nat → List D → Prop} (q : Q n []) : HA X g n ρ [] Q := fun W σ H k R r => pa_nil.wpr (r n [] [] H q .refl k.j .nil)
theorem ha_cons {es : List Expr} {Q : Nat → List D → Prop} (h : HE X g n ρ e fun n1 d => HA X g n1 ρ es fun n2 ds => Q n2 (d :: ds))
    (hs : starEach (e :: es) X.env = (false, eval e X.env) :: starEach es X.env := by rfl) : HA X g n ρ (e :: es) Q := fun W σ H k R r => by
  refine (pa_cons peW paW hs).wpr (h W σ H k _ fun n1 d v H1 q1 e1 j1 d1 => ?_)
  refine q1 W σ H1 (k.step e1 j1) _ fun n2 ds vs H2 q2 e2 j2 d2 => ?_
  exact r n2 _ _ H2 q2 (e1.trans e2) j2 (.cons (d1.ext ((k.step e1 j1).extW e2)) d2)
theorem he_tup {es : List Expr} {x1} (h : HA X g n ρ es fun n' ds => ds.length ≤ sizeLine ∧ Q n' (.tup ds)) : HE X g n ρ (.Tuple es x1 pos) Q := fun W σ H k R r => by
  refine (pe_tup paW).wpr (h W σ H k _ fun n' ds vs H1 q e1 j1 d1 => ⟨by rw [d1.length]; exact q.1, fun p hp => ?_⟩)
  have k1 := k.step e1 j1
  exact r n' _ _ _ q.2 (e1.trans (Ext.upd hp)) (g.same j1 (Same.upd hp)) (.tup (k1.fresh (o := .tup vs) hp) upd_same (d1.same (Same.upd hp)))
theorem hf_lst {es : List Expr} {Q : Nat → List D → Prop} (h : HA X g n ρ es fun n' ds => ds.length ≤ sizeLine ∧ Q n' ds) : HF X g n ρ (.List es pos) Q := fun W σ H k R r => by
  refine (pe_lst paW).wpr (h W σ H k _ fun n' ds vs H1 q e1 j1 d1 => ⟨by rw [d1.length]; exact q.1, fun p hp => ?_⟩)
  have hp0 : H p = none := by
    cases z : H p with
    | none => rfl
    | some o =>
      by_cases hg : p ∈ g.G
      · obtain ⟨o1, z1⟩ := g.trk n' H1 j1 p (g.sub p hg)
        rw [hp] at z1
        cases z1
      · rw [e1 p o hg z] at hp
        cases hp
  exact r n' ds p vs _ q.2 hp0 (e1.trans (Ext.upd hp)) (g.same j1 (Same.upd hp)) upd_same ((d1.fresh hp).same (Same.upd hp))
/-- new there is new here -/
theorem Ok.back {K : PySem.W.Frag} {g : Gx} {W : List Addr} {n n' : Nat} {ρ : List SV} {σ : L2.St} {H H1 : Hp} {p : Addr} (k : Ok K g W n ρ σ H) (e1 : Ext g.G H H1) (j1 : g.J n' H1) (hp : H1 p = none) : H p = none := by
  cases z : H p with
  | none => rfl
  | some o =>
    by_cases hg : p ∈ g.G
    · obtain ⟨o1, z1⟩ := g.trk n' H1 j1 p (g.sub p hg)
      rw [hp] at z1
      cases z1
    · rw [e1 p o hg z] at hp
      cases hp
/-! two-place operators -/
/-- what an operator asks of two data, where it changes nothing but by a new object -/
def RD (K : PySem.W.Frag) (r : R2) (x y : D) (Q : D → Prop) : Prop := ∀ (W : List Addr) (H : Hp) (v u : V), (∀ a ∈ W, ∃ o, H a = some o) → DD K W H v x → DD K W H u y → ∀ R : VK, (∀ z z' H', Q z → Same H H' → DD K W H' z' z → R z' H') → r v u H R
theorem he_op {op : Operator} {r : R2} (ho : OpR X (binaryOp op) r) (h : HE X g n ρ a fun n1 x => HE X g n1 ρ b fun n2 y => RD X.K r x y (Q n2)) : HE X g n ρ (.BinOp a op b pos) Q := fun W σ H k R rr => by
  refine (pe_op ho peW peW).wpr (h W σ H k _ fun n1 x v H1 q1 e1 j1 d1 => ?_)
  refine q1 W σ H1 (k.step e1 j1) _ fun n2 y u H2 q2 e2 j2 d2 => ?_
  have k2 := (k.step e1 j1).step e2 j2
  refine q2 W H2 v u k2.trk (d1.ext ((k.step e1 j1).extW e2)) d2 R fun z z' H' qz s dz => ?_
  exact rr n2 z z' H' qz ((e1.trans e2).trans (.of_same s)) (g.same j2 s) dz
theorem he_cmp {op : CmpOp} {r : R2} (ho : OpR X (compareOp op) r) (h : HE X g n ρ a fun n1 x => HE X g n1 ρ b fun n2 y => RD X.K r x y (Q n2)) (hm : behindInMarks op b = false := by first | exact nomark _ | rfl) : HE X g n ρ (.Compare a [op] [b] pos) Q := fun W σ H k R rr => by
  refine (pe_cmpR ho peW peW hm).wpr (h W σ H k _ fun n1 x v H1 q1 e1 j1 d1 => ?_)
  refine q1 W σ H1 (k.step e1 j1) _ fun n2 y u H2 q2 e2 j2 d2 => ?_
  have k2 := (k.step e1 j1).step e2 j2
  refine q2 W H2 v u k2.trk (d1.ext ((k.step e1 j1).extW e2)) d2 R fun z z' H' qz s dz => ?_
  exact rr n2 z z' H' qz ((e1.trans e2).trans (.of_same s)) (g.same j2 s) dz
end
end Fk
set_option Elab.async false
set_option linter.all false
set_option maxRecDepth 100000
set_option maxHeartbeats 4000000
/-! K3: tests, calls, subscripts, statements, a def's contract. -/
namespace Fk
open PySem PySem.Spec PyProof.Rows L2
section
variable {X : Cx} {g : Gx} {n : Nat} {ρ : List SV} {e a b c : Expr} {pos : Pos} {Q : Nat → D → Prop} {QB : Nat → Bool → Prop} {op : CmpOp} {rest : List Expr}
theorem DD.bl_inv {K : PySem.W.Frag} {W : List Addr} {H : Hp} {v : V} {b : Bool} (h : DD K W H v (.bl b)) : v = .bl b := by cases h; rfl
theorem DD.int_inv {K : PySem.W.Frag} {W : List Addr} {H : Hp} {v : V} {b : Int} (h : DD K W H v (.int b)) : v = .int b := by cases h; rfl
theorem DD.str_inv {K : PySem.W.Frag} {W : List Addr} {H : Hp} {v : V} {b : Str} (h : DD K W H v (.str b)) : v = .str b := by cases h; rfl
theorem DD.non_inv {K : PySem.W.Frag} {W : List Addr} {H : Hp} {v : V} (h : DD K W H v .non) : v = .non := by cases h; rfl
theorem DD.fn_inv {K : PySem.W.Frag} {W : List Addr} {H : Hp} {v : V} {x : Str} (h : DD K W H v (.fn x)) : v = .ref (He.ga K x) := by cases h; rfl
theorem DD.tup_inv {K : PySem.W.Frag} {W : List Addr} {H : Hp} {v : V} {ds : List D} (h : DD K W H v (.tup ds)) : ∃ a xs, v = .ref a ∧ a ∉ W ∧ H a = some (.tup xs) ∧ DDs K W H xs ds := by
  cases h with
  | tup n h1 h2 => exact ⟨_, _, rfl, n, h1, h2⟩
theorem DD.lst_inv {K : PySem.W.Frag} {W : List Addr} {H : Hp} {v : V} {ds : List D} (h : DD K W H v (.lst ds)) : ∃ a xs, v = .ref a ∧ a ∉ W ∧ H a = some (.lst xs) ∧ DDs K W H xs ds := by
  cases h with
  | lst n h1 h2 => exact ⟨_, _, rfl, n, h1, h2⟩
theorem DD.dic_inv {K : PySem.W.Frag} {W : List Addr} {H : Hp} {v : V} {ks : List Str} {ds : List D} (h : DD K W H v (.dic ks ds)) : ∃ a kvs, v = .ref a ∧ a ∉ W ∧ H a = some (.dK kvs) ∧ kvs.map (·.1) = ks.map Sum.inr ∧ DDs K W H (kvs.map (·.2)) ds := by
  cases h with
  | dic n h1 h2 h3 => exact ⟨_, _, rfl, n, h1, h2, h3⟩
/-! ### and, or, not, if -/
theorem he_one {o : BoolOp} (h : HE X g n ρ a Q) : HE X g n ρ (.BoolOp o [a] pos) Q := fun W σ H k R r => (pe_one peW).wpr (h W σ H k R r)
theorem he_and (h : HE X g n ρ a fun n1 d => ∃ c, d = .bl c ∧ (c = true → HE X g n1 ρ (.BoolOp .And (b :: rest) pos) Q) ∧ (c = false → Q n1 (.bl false))) : HE X g n ρ (.BoolOp .And (a :: b :: rest) pos) Q := fun W σ H k R r => by
  refine (pe_and peW peW).wpr (h W σ H k _ fun n1 d v H1 q e1 j1 dd => ?_)
  obtain ⟨c, rfl, q1, q2⟩ := q
  refine ⟨c, dd.bl_inv, ?_⟩
  cases c with
  | true => exact q1 rfl W σ H1 (k.step e1 j1) R fun n' d v H' q e j z => r n' d v H' q (e1.trans e) j z
  | false => exact r n1 _ _ H1 (q2 rfl) e1 j1 (.bl false)
theorem he_or (h : HE X g n ρ a fun n1 d => ∃ c, d = .bl c ∧ (c = true → Q n1 (.bl true)) ∧ (c = false → HE X g n1 ρ (.BoolOp .Or (b :: rest) pos) Q)) : HE X g n ρ (.BoolOp .Or (a :: b :: rest) pos) Q := fun W σ H k R r => by
  refine (pe_or peW peW).wpr (h W σ H k _ fun n1 d v H1 q e1 j1 dd => ?_)
  obtain ⟨c, rfl, q1, q2⟩ := q
  refine ⟨c, dd.bl_inv, ?_⟩
  cases c with
  | false => exact q2 rfl W σ H1 (k.step e1 j1) R fun n' d v H' q e j z => r n' d v H' q (e1.trans e) j z
  | true => exact r n1 _ _ H1 (q1 rfl) e1 j1 (.bl true)
theorem he_not (h : HE X g n ρ a fun n1 d => ∃ c, d = .bl c ∧ Q n1 (.bl (!c))) : HE X g n ρ (.UnaryOp .Not a pos) Q := fun W σ H k R r => by
  refine (pe_not peW).wpr (h W σ H k _ fun n1 d v H1 q e1 j1 dd => ?_)
  obtain ⟨c, rfl, q1⟩ := q
  exact ⟨c, dd.bl_inv, r n1 _ _ H1 q1 e1 j1 (.bl _)⟩
theorem he_neg {i : Int} {j : Nat} {p2 : Pos} (q : Q n (.int (-i))) : HE X g n ρ (.UnaryOp .USub (.Constant (.int i) j p2) pos) Q := fun W σ H k R r =>
  (pe_un un_neg pe_int).wpr ⟨i, rfl, r n _ _ H q .refl k.j (.int _)⟩
theorem he_if (h : HT X g n ρ c fun n1 t => (t = true → HE X g n1 ρ a Q) ∧ (t = false → HE X g n1 ρ b Q)) : HE X g n ρ (.IfExp c a b pos) Q := fun W σ H k R r => by
  refine (pe_ifExp ptW peW peW).wpr (h W σ H k _ fun n1 t H1 q e1 j1 => ?_)
  cases t with
  | true => exact q.1 rfl W σ H1 (k.step e1 j1) R fun n' d v H' q e j z => r n' d v H' q (e1.trans e) j z
  | false => exact q.2 rfl W σ H1 (k.step e1 j1) R fun n' d v H' q e j z => r n' d v H' q (e1.trans e) j z
theorem hf_if {Q : Nat → List D → Prop} (h : HT X g n ρ c fun n1 t => (t = true → HF X g n1 ρ a Q) ∧ (t = false → HF X g n1 ρ b Q)) : HF X g n ρ (.IfExp c a b pos) Q := fun W σ H k R r => by
  refine (pe_ifExp ptW peW peW).wpr (h W σ H k _ fun n1 t H1 q e1 j1 => ?_)
  cases t with
  | true => exact q.1 rfl W σ H1 (k.step e1 j1) R fun n' d v xs H' q na e j z => r n' d v xs H' q (k.back e1 j1 na) (e1.trans e) j z
  | false => exact q.2 rfl W σ H1 (k.step e1 j1) R fun n' d v xs H' q na e j z => r n' d v xs H' q (k.back e1 j1 na) (e1.trans e) j z
/-! ### tests -/
/-- a value that is True or False -/
theorem ht_val (h : HE X g n ρ e fun n1 d => ∃ c, d = .bl c ∧ QB n1 c) (he : ∀ whole, isTrue e X.env whole = (do let v ← whole; standAt e.pos; holding [v] (truthy v)) := by intro _; rfl) : HT X g n ρ e QB := fun W σ H k R r => by
  refine (pt_val peW he).wpr (h W σ H k _ fun n1 d v H1 q e1 j1 dd => ?_)
  obtain ⟨c, rfl, q1⟩ := q
  exact ⟨c, dd.bl_inv, r n1 c H1 q1 e1 j1⟩
theorem ht_cmp {r : R2} (ho : OpR X (compareOp op) r) (h : HE X g n ρ a fun n1 x => HE X g n1 ρ b fun n2 y => RD X.K r x y fun z => ∃ c, z = .bl c ∧ QB n2 c) (hm : behindInMarks op b = false := by first | exact nomark _ | rfl) : HT X g n ρ (.Compare a [op] [b] pos) QB := fun W σ H k R rr => by
  refine (pt_cmpR ho peW peW hm).wpr (h W σ H k _ fun n1 x v H1 q1 e1 j1 d1 => ?_)
  refine q1 W σ H1 (k.step e1 j1) _ fun n2 y u H2 q2 e2 j2 d2 => ?_
  have k2 := (k.step e1 j1).step e2 j2
  refine q2 W H2 v u k2.trk (d1.ext ((k.step e1 j1).extW e2)) d2 _ fun z z' H' qz s dz => ?_
  obtain ⟨c, rfl, qc⟩ := qz
  exact ⟨c, dz.bl_inv, rr n2 c H' qc ((e1.trans e2).trans (.of_same s)) (g.same j2 s)⟩
theorem ht_not (h : HT X g n ρ a fun n1 c => QB n1 (!c)) : HT X g n ρ (.UnaryOp .Not a pos) QB := fun W σ H k R r =>
  (pt_not ptW).wpr (h W σ H k _ fun n1 c H1 q e1 j1 => r n1 _ H1 q e1 j1)
end
/-- a test of several, whatever stands around -/
@[irreducible] def WW (X : Cx) (e : Expr) : TT := fun σ H Q => ∀ whole pins s, Inv X pins σ H s → wpAny (model X.prog X.w) X.A (isTrue e X.env whole) (TP X pins σ Q) X.xe s
theorem pwW {X : Cx} {e : Expr} : PW X e (WW X e) := ⟨fun wh pins s _ _ _ I h => by unfold WW at h; exact h wh pins s I⟩
def HW (X : Cx) (g : Gx) (n : Nat) (ρ : List SV) (e : Expr) (Q : Nat → Bool → Prop) : Prop := ∀ (W : List Addr) (σ : L2.St) (H : Hp), Ok X.K g W n ρ σ H → ∀ R : Bool → Hp → Prop,
  (∀ n' b H', Q n' b → Ext g.G H H' → g.J n' H' → R b H') → WW X e σ H R
section
variable {X : Cx} {g : Gx} {n : Nat} {ρ : List SV} {e a b c : Expr} {pos : Pos} {Q : Nat → D → Prop} {QB : Nat → Bool → Prop} {op : CmpOp} {rest : List Expr}
theorem PW.wpr {e : Expr} {t : TT} (p : PW X e t) {σ : L2.St} {H : Hp} {Q : Bool → Hp → Prop} (h : t σ H Q) : WW X e σ H Q := by unfold WW; exact fun wh pins s I => p.run wh pins s σ H Q I h
theorem ht_bool (h : HW X g n ρ e QB) : HT X g n ρ e QB := fun W σ H k R r => PT.wpr (PW.pt pwW) (h W σ H k R r)
theorem hw_and1 (h : HT X g n ρ a QB) : HW X g n ρ (.BoolOp .And [a] pos) QB := fun W σ H k R r => PW.wpr (pw_and1 ptW) (h W σ H k R r)
theorem hw_or1 (h : HT X g n ρ a QB) : HW X g n ρ (.BoolOp .Or [a] pos) QB := fun W σ H k R r => PW.wpr (pw_or1 ptW) (h W σ H k R r)
theorem hw_and (h : HT X g n ρ a fun n1 c => (c = true → HW X g n1 ρ (.BoolOp .And (b :: rest) pos) QB) ∧ (c = false → QB n1 false)) : HW X g n ρ (.BoolOp .And (a :: b :: rest) pos) QB := fun W σ H k R r => by
  refine PW.wpr (pw_and ptW pwW) (h W σ H k _ fun n1 c H1 q e1 j1 => ?_)
  cases c with
  | true => exact q.1 rfl W σ H1 (k.step e1 j1) R fun n' d H' q e j => r n' d H' q (e1.trans e) j
  | false => exact r n1 _ H1 (q.2 rfl) e1 j1
theorem hw_or (h : HT X g n ρ a fun n1 c => (c = true → QB n1 true) ∧ (c = false → HW X g n1 ρ (.BoolOp .Or (b :: rest) pos) QB)) : HW X g n ρ (.BoolOp .Or (a :: b :: rest) pos) QB := fun W σ H k R r => by
  refine PW.wpr (pw_or ptW pwW) (h W σ H k _ fun n1 c H1 q e1 j1 => ?_)
  cases c with
  | false => exact q.2 rfl W σ H1 (k.step e1 j1) R fun n' d H' q e j => r n' d H' q (e1.trans e) j
  | true => exact r n1 _ H1 (q.1 rfl) e1 j1
/-- a chain a op b op' c -/
theorem he_chain {op' : CmpOp} {r r' : R2} (ho : OpR X (compareOp op) r) (ho' : OpR X (compareOp op') r')
    (h : HE X g n ρ a fun n1 x => HE X g n1 ρ b fun n2 y => RD X.K r x y fun z => ∃ c1, z = .bl c1 ∧ (c1 = true → HE X g n2 ρ c fun n3 z => RD X.K r' y z (Q n3)) ∧ (c1 = false → Q n2 (.bl false)))
    (hm : lastMarks [op, op'] [b, c] = false := by with_unfolding_all rfl) : HE X g n ρ (.Compare a [op, op'] [b, c] pos) Q := fun W σ H k R rr => by
  refine (pe_chain ho ho' peW peW peW hm).wpr (h W σ H k _ fun n1 x v H1 q1 e1 j1 d1 => ?_)
  refine q1 W σ H1 (k.step e1 j1) _ fun n2 y u H2 q2 e2 j2 d2 => ?_
  have k1 := k.step e1 j1
  have k2 := k1.step e2 j2
  refine q2 W H2 v u k2.trk (d1.ext (k1.extW e2)) d2 _ fun z z' H3 qz s dz => ?_
  obtain ⟨c1, rfl, y1, y2⟩ := qz
  have k3 := k2.same s
  refine ⟨c1, dz.bl_inv, ?_⟩
  cases c1 with
  | true =>
    refine y1 rfl W σ H3 k3 _ fun n4 z4 v4 H4 q4 e4 j4 d4 => ?_
    have k4 := k3.step e4 j4
    refine q4 W H4 u v4 k4.trk ((d2.same s).ext (k3.extW e4)) d4 R fun z5 z5' H5 q5 s5 d5 => ?_
    exact rr n4 z5 z5' H5 q5 ((((e1.trans e2).trans (.of_same s)).trans e4).trans (.of_same s5)) (g.same j4 s5) d5
  | false => exact rr n2 _ _ H3 (y2 rfl) ((e1.trans e2).trans (.of_same s)) (g.same j2 s) (.bl false)
theorem ht_chain {op' : CmpOp} {r r' : R2} (ho : OpR X (compareOp op) r) (ho' : OpR X (compareOp op') r')
    (h : HE X g n ρ a fun n1 x => HE X g n1 ρ b fun n2 y => RD X.K r x y fun z => ∃ c1, z = .bl c1 ∧ (c1 = true → HE X g n2 ρ c fun n3 z => RD X.K r' y z fun q => ∃ c2, q = .bl c2 ∧ QB n3 c2) ∧ (c1 = false → QB n2 false))
    (hm : lastMarks [op, op'] [b, c] = false := by with_unfolding_all rfl) : HT X g n ρ (.Compare a [op, op'] [b, c] pos) QB := fun W σ H k R rr => by
  refine (pt_chain ho ho' peW peW peW hm).wpr (h W σ H k _ fun n1 x v H1 q1 e1 j1 d1 => ?_)
  refine q1 W σ H1 (k.step e1 j1) _ fun n2 y u H2 q2 e2 j2 d2 => ?_
  have k1 := k.step e1 j1
  have k2 := k1.step e2 j2
  refine q2 W H2 v u k2.trk (d1.ext (k1.extW e2)) d2 _ fun z z' H3 qz s dz => ?_
  obtain ⟨c1, rfl, y1, y2⟩ := qz
  have k3 := k2.same s
  refine ⟨c1, dz.bl_inv, ?_⟩
  cases c1 with
  | true =>
    refine y1 rfl W σ H3 k3 _ fun n4 z4 v4 H4 q4 e4 j4 d4 => ?_
    have k4 := k3.step e4 j4
    refine q4 W H4 u v4 k4.trk ((d2.same s).ext (k3.extW e4)) d4 _ fun z5 z5' H5 q5 s5 d5 => ?_
    obtain ⟨c2, rfl, q6⟩ := q5
    exact ⟨c2, d5.bl_inv, rr n4 c2 H5 q6 ((((e1.trans e2).trans (.of_same s)).trans e4).trans (.of_same s5)) (g.same j4 s5)⟩
  | false => exact ⟨false, rfl, rr n2 _ H3 (y2 rfl) ((e1.trans e2).trans (.of_same s)) (g.same j2 s)⟩
end
/-! ### what operators make of data -/
section
variable {K : PySem.W.Frag} {Q : D → Prop} {x y : D}
theorem rd_int {f : Int → Int → Int} {i j : Int} (q : Q (.int (f i j))) : RD K (rI0 fun i j => .int (f i j)) (.int i) (.int j) Q := fun W H v u _ dx dy R r =>
  ⟨i, j, dx.int_inv, dy.int_inv, r _ _ H q (Same.refl H) (.int _)⟩
theorem rd_intC {C : Int → Int → Prop} {f : Int → Int → Int} {i j : Int} (hc : C i j) (q : Q (.int (f i j))) : RD K (rI C fun i j => .int (f i j)) (.int i) (.int j) Q := fun W H v u _ dx dy R r =>
  ⟨i, j, dx.int_inv, dy.int_inv, hc, r _ _ H q (Same.refl H) (.int _)⟩
theorem rd_intB {f : Int → Int → Bool} {i j : Int} (q : Q (.bl (f i j))) : RD K (rI0 fun i j => .bl (f i j)) (.int i) (.int j) Q := fun W H v u _ dx dy R r =>
  ⟨i, j, dx.int_inv, dy.int_inv, r _ _ H q (Same.refl H) (.bl _)⟩
theorem rd_eqS {s t : Str} (q : Q (.bl (decide (s = t)))) : RD K rEq (.str s) (.str t) Q := fun W H v u _ dx dy R r => by
  cases dx
  cases dy
  refine ⟨rfl, ?_⟩
  have z : decide (V.str s = V.str t) = decide (s = t) := by simp
  rw [z]
  exact r _ _ H q (Same.refl H) (.bl _)
theorem rd_eqI {s t : Int} (q : Q (.bl (decide (s = t)))) : RD K rEq (.int s) (.int t) Q := fun W H v u _ dx dy R r => by
  cases dx
  cases dy
  refine ⟨rfl, ?_⟩
  have z : decide (V.int s = V.int t) = decide (s = t) := by simp
  rw [z]
  exact r _ _ H q (Same.refl H) (.bl _)
theorem rd_neS {s t : Str} (q : Q (.bl (!decide (s = t)))) : RD K rNe (.str s) (.str t) Q := fun W H v u _ dx dy R r => by
  cases dx
  cases dy
  refine ⟨rfl, ?_⟩
  have z : decide (V.str s = V.str t) = decide (s = t) := by simp
  rw [z]
  exact r _ _ H q (Same.refl H) (.bl _)
theorem rd_ltS {s t : Str} (q : Q (.bl (decide (s.cps.toList < t.cps.toList)))) : RD K (fun x y H Q => ∃ i j, x = .str i ∧ y = .str j ∧ Q (.bl (decide (i.cps.toList < j.cps.toList))) H) (.str s) (.str t) Q := fun W H v u _ dx dy R r => by
  cases dx
  cases dy
  exact ⟨s, t, rfl, rfl, r _ _ H q (Same.refl H) (.bl _)⟩
theorem rd_inS {c : Nat} {z : Str} (q : Q (.bl (decide (c ∈ z.cps.toList)))) : RD K (fun x y H Q => ∃ (c : Nat) (z : Str), x = .str ⟨#[c]⟩ ∧ y = .str z ∧ Q (.bl (decide (c ∈ z.cps.toList))) H) (.str ⟨#[c]⟩) (.str z) Q := fun W H v u _ dx dy R r => by
  cases dx
  cases dy
  exact ⟨c, z, rfl, rfl, r _ _ H q (Same.refl H) (.bl _)⟩
theorem rd_notInS {c : Nat} {z : Str} (q : Q (.bl (!decide (c ∈ z.cps.toList)))) : RD K (fun x y H Q => ∃ (c : Nat) (z : Str), x = .str ⟨#[c]⟩ ∧ y = .str z ∧ Q (.bl (!decide (c ∈ z.cps.toList))) H) (.str ⟨#[c]⟩) (.str z) Q := fun W H v u _ dx dy R r => by
  cases dx
  cases dy
  exact ⟨c, z, rfl, rfl, r _ _ H q (Same.refl H) (.bl _)⟩
def D.isNon : D → Bool
  | .non => true
  | _ => false
theorem DD.isNon {W : List Addr} {H : Hp} {v : V} {d : D} (h : DD K W H v d) : decide (v = .non) = d.isNon := by
  cases h <;> first | rfl | (simp [D.isNon])
theorem rd_isN (q : Q (.bl x.isNon)) : RD K (fun x y H Q => y = .non ∧ Q (.bl (decide (x = .non))) H) x .non Q := fun W H v u _ dx dy R r => by
  cases dy
  refine ⟨rfl, ?_⟩
  rw [dx.isNon]
  exact r _ _ H q (Same.refl H) (.bl _)
theorem rd_notN (q : Q (.bl (!x.isNon))) : RD K (fun x y H Q => y = .non ∧ Q (.bl (!decide (x = .non))) H) x .non Q := fun W H v u _ dx dy R r => by
  cases dy
  refine ⟨rfl, ?_⟩
  rw [dx.isNon]
  exact r _ _ H q (Same.refl H) (.bl _)
theorem rd_notB {a b : Bool} (q : Q (.bl (!decide (a = b)))) : RD K rNotB (.bl a) (.bl b) Q := fun W H v u _ dx dy R r => by
  cases dx
  cases dy
  exact ⟨a, b, rfl, rfl, r _ _ H q (Same.refl H) (.bl _)⟩
/-- texts in a tuple or list of texts -/
theorem DDs.strs {W : List Addr} {H : Hp} : ∀ {ss : List Str} {vs : List V}, DDs K W H vs (ss.map D.str) → vs = ss.map V.str
  | [], _, h => by cases h; rfl
  | s :: ss, _, h => by
    cases h with
    | cons h1 h2 =>
      cases h1
      rw [DDs.strs h2] <;> rfl
theorem DDs.bls {W : List Addr} {H : Hp} : ∀ {bs : List Bool} {vs : List V}, DDs K W H vs (bs.map D.bl) → vs = bs.map V.bl
  | [], _, h => by cases h; rfl
  | s :: ss, _, h => by
    cases h with
    | cons h1 h2 =>
      cases h1
      rw [DDs.bls h2] <;> rfl
theorem inV_strs (s : Str) : ∀ ss : List Str, inV (.str s) (ss.map V.str) = decide (s ∈ ss)
  | [] => by simp [inV]
  | t :: ss => by
    have ih := inV_strs s ss
    unfold inV at ih ⊢
    rw [List.map_cons, List.any_cons, ih]
    show (t == s || decide (s ∈ ss)) = decide (s ∈ t :: ss)
    by_cases h : s = t
    · subst h
      simp
    · have h' : ¬ t = s := fun z => h z.symm
      simp [h, h']
theorem flat_strs : ∀ ss : List Str, (ss.map V.str).all flatV = true
  | [] => rfl
  | _ :: ss => by rw [List.map_cons, List.all_cons, flat_strs ss] <;> rfl
theorem rd_inT {s : Str} {ss : List Str} (q : Q (.bl (decide (s ∈ ss)))) : RD K (rIn K false) (.str s) (.tup (ss.map .str)) Q := fun W H v u _ dx dy R r => by
  cases dx
  obtain ⟨a, xs, rfl, _, ha, h⟩ := dy.tup_inv
  have e := h.strs
  subst e
  refine ⟨a, _, rfl, .inr (.inl (.inl ha)), rfl, flat_strs ss, ?_⟩
  show R (.bl (inV _ _)) H
  rw [inV_strs]
  exact r _ _ H q (Same.refl H) (.bl _)
theorem rd_notInT {s : Str} {ss : List Str} (q : Q (.bl (!decide (s ∈ ss)))) : RD K (rIn K true) (.str s) (.tup (ss.map .str)) Q := fun W H v u _ dx dy R r => by
  cases dx
  obtain ⟨a, xs, rfl, _, ha, h⟩ := dy.tup_inv
  have e := h.strs
  subst e
  refine ⟨a, _, rfl, .inr (.inl (.inl ha)), rfl, flat_strs ss, ?_⟩
  show R (.bl (!inV _ _)) H
  rw [inV_strs]
  exact r _ _ H q (Same.refl H) (.bl _)
theorem rd_notInL {s : Str} {ss : List Str} (q : Q (.bl (!decide (s ∈ ss)))) : RD K (rIn K true) (.str s) (.lst (ss.map .str)) Q := fun W H v u _ dx dy R r => by
  cases dx
  obtain ⟨a, xs, rfl, _, ha, h⟩ := dy.lst_inv
  have e := h.strs
  subst e
  refine ⟨a, _, rfl, .inl (.inl (.inl ha)), rfl, flat_strs ss, ?_⟩
  show R (.bl (!inV _ _)) H
  rw [inV_strs]
  exact r _ _ H q (Same.refl H) (.bl _)
/-- tuples joined -/
theorem rd_catT {xs ys : List D} (hz : xs.length + ys.length ≤ sizeLine) (q : Q (.tup (xs ++ ys))) : RD K (rCatA K) (.tup xs) (.tup ys) Q := fun W H v u tr dx dy R r => by
  obtain ⟨a, vs, rfl, na, ha, h⟩ := dx.tup_inv
  obtain ⟨b, us, rfl, nb, hb, h'⟩ := dy.tup_inv
  have l1 := h.length
  have l2 := h'.length
  refine ⟨a, b, vs, us, rfl, rfl, .inl (.inl ha), .inl (.inl hb), by omega, fun e => ?_, fun _ e => ?_, fun _ _ p hp => ?_⟩
  · subst e
    have e2 : xs = [] := List.length_eq_zero_iff.mp (by rw [← l1]; rfl)
    subst e2
    exact r _ _ H q (Same.refl H) (.tup nb hb h')
  · subst e
    have e2 : ys = [] := List.length_eq_zero_iff.mp (by rw [← l2]; rfl)
    subst e2
    rw [List.append_nil] at q
    exact r _ _ H q (Same.refl H) (.tup na ha h)
  · have np : p ∉ W := fun z => by
      obtain ⟨o, e⟩ := tr p z
      rw [hp] at e
      cases e
    exact r _ _ _ q (Same.upd hp) (.tup np upd_same ((h.append h').same (Same.upd hp)))
end
end Fk
set_option Elab.async false
set_option linter.all false
set_option maxRecDepth 100000
set_option maxHeartbeats 4000000
/-! K4: calls of defs and of built-ins, subscripts, slices, lists joined, comprehensions. -/
namespace Fk
open PySem PySem.Spec PyProof.Rows L2
/-! ### a def's contract: what is asked of the data, by what is wanted of the answer -/
abbrev Acc := Gx → Nat → List D → (Nat → D → Prop) → Prop
def spA (K : PySem.W.Frag) (A : Acc) : Sp := fun vs H Q _ => ∃ (g : Gx) (W : List Addr) (n : Nat) (ds : List D) (Qd : Nat → D → Prop), A g n ds Qd ∧ g.J n H ∧ GW g W ∧ (∀ a ∈ W, ∃ o, H a = some o) ∧ DDs K W H vs ds ∧
  ∀ n' d v H', Qd n' d → Ext g.G H H' → g.J n' H' → DD K W H' v d → Q v H'
structure Has (P : Program) (w : World) (K : PySem.W.Frag) (mg : Str → Option Value) (base : Heap) (k : Nat) (x : Str) (ps : List Str) (A : Acc) : Prop where
  ok : ∃ fd, FnOk P w K mg base CX0 k (He.ga K x) fd ps (spA K A) ∧ Binds K fd ps []
  m : mg x = some (.ref (He.ga K x))
  kp : PySem.W.keepIn K (.ref (He.ga K x)) = true
theorem Has.imp {P : Program} {w : World} {K : PySem.W.Frag} {mg : Str → Option Value} {base : Heap} {k k' : Nat} {x : Str} {ps : List Str} {A A' : Acc} (T : Has P w K mg base k x ps A) (hk : k ≤ k') (h : ∀ g n ds Q, A' g n ds Q → A g n ds Q) : Has P w K mg base k' x ps A' := by
  obtain ⟨fd, F, B⟩ := T.ok
  refine ⟨⟨fd, (F.mono hk).imp fun vs H Q E q => ?_, B⟩, T.m, T.kp⟩
  obtain ⟨g, W, n, ds, Qd, q1, q2⟩ := q
  exact ⟨g, W, n, ds, Qd, h _ _ _ _ q1, q2⟩
section
variable {X : Cx} {g : Gx} {n : Nat} {ρ : List SV} {e a b c : Expr} {es : List Expr} {pos p : Pos} {Q : Nat → D → Prop} {x : Str} {k : Nat} {ps : List Str} {A : Acc}
theorem he_call (T : Has X.prog X.w X.K X.mg X.base k x ps A) (hr : Room k X.A) (h : HA X g n ρ (e :: es) fun n' ds => A g n' ds Q) (hg : Gl X x := by rfl) (hdb : (x == ("__debug__" : Str)) = false := by decide)
    (he : starEach (e :: es) X.env = (false, eval e X.env) :: starEach es X.env := by rfl) (hpl : (backTo pos (starEach es X.env)).any (·.1) = false := by rfl) : HE X g n ρ (.Call (.Name x p) (e :: es) [] pos) Q := fun W σ H kk R r => by
  obtain ⟨fd, F, B⟩ := T.ok
  refine (pe_call F hr hg T.m T.kp B .nil pass0 paW hdb he hpl).wpr (h W σ H kk _ fun n1 ds vs H1 q e1 j1 dd => ?_)
  have k1 := kk.step e1 j1
  rw [List.append_nil]
  exact ⟨g, W, n1, ds, Q, q, j1, k1.gw, k1.trk, dd, fun n' d v H' qd e2 j2 d2 => r n' d v H' qd (e1.trans e2) j2 d2⟩
theorem he_call0 (T : Has X.prog X.w X.K X.mg X.base k x ps A) (hr : Room k X.A) (h : A g n [] Q) (hg : Gl X x := by rfl) (hdb : (x == ("__debug__" : Str)) = false := by decide) : HE X g n ρ (.Call (.Name x p) [] [] pos) Q := fun W σ H kk R r => by
  obtain ⟨fd, F, B⟩ := T.ok
  refine (pe_call0 F hr hg T.m T.kp B .nil pass0 hdb).wpr ?_
  exact ⟨g, W, n, [], Q, h, kk.j, kk.gw, kk.trk, .nil, fun n' d v H' qd e2 j2 d2 => r n' d v H' qd e2 j2 d2⟩
/-- a call of a name of one's own that holds a def -/
theorem he_callv {i : Nat} {y : Str} (hs : ρ[i]? = some (.dat (.fn x))) (T : Has X.prog X.w X.K X.mg X.base k x ps A) (hr : Room k X.A) (hN : X.N[i]? = some y) (h : HA X g n ρ (e :: es) fun n' ds => A g n' ds Q)
    (hv : Vis X.env.scope y := by first | exact Or.inl rfl | exact Or.inr (Or.inl rfl) | exact Or.inr (Or.inr rfl)) (hdb : (y == ("__debug__" : Str)) = false := by decide) (hcd : (y == ("__classdict__" : Str)) = false := by decide)
    (he : starEach (e :: es) X.env = (false, eval e X.env) :: starEach es X.env := by rfl) (hpl : (backTo pos (starEach es X.env)).any (·.1) = false := by rfl) : HE X g n ρ (.Call (.Name y p) (e :: es) [] pos) Q := fun W σ H kk R r => by
  obtain ⟨fd, F, B⟩ := T.ok
  obtain ⟨v, h1, h2⟩ := kk.dats i _ hs
  have ev := h2.fn_inv
  subst ev
  refine (PE.mk fun pins s σ' H' Q' I hq => ?_ : PE X (.Call (.Name y p) (e :: es) [] pos) (tCallL i (He.ga X.K x) (spA X.K A) [] E0 (WA X (e :: es)))).wpr ⟨h1, h W σ H kk _ fun n1 ds vs H1 q e1 j1 dd => ?_⟩
  · exact (pe_callL F hr hN hv T.kp B .nil pass0 paW hdb hcd he hpl).run pins s σ' H' Q' I hq
  · have k1 := kk.step e1 j1
    rw [List.append_nil]
    exact ⟨g, W, n1, ds, Q, q, j1, k1.gw, k1.trk, dd, fun n' d v H' qd e2 j2 d2 => r n' d v H' qd (e1.trans e2) j2 d2⟩
/-! built-ins -/
/-- what a call by values makes of data -/
def RCd (K : PySem.W.Frag) (r : List V → Hp → VK → Prop) (ds : List D) (Q : D → Prop) : Prop := ∀ (W : List Addr) (H : Hp) (vs : List V), (∀ a ∈ W, ∃ o, H a = some o) → DDs K W H vs ds → ∀ R : VK, (∀ z z' H', Q z → Same H H' → DD K W H' z' z → R z' H') → r vs H R
theorem he_callB {id : String} {r : List V → Hp → VK → Prop} (hc : CallR X (.builtin id) r) (hm : X.mg x = none) (hv : bootBuiltins x = some (.builtin id)) (h : HA X g n ρ (e :: es) fun n' ds => RCd X.K r ds (Q n')) (hg : Gl X x := by rfl)
    (hn : x ≠ "__name__" := by decide) (hdb : (x == ("__debug__" : Str)) = false := by decide)
    (he : starEach (e :: es) X.env = (false, eval e X.env) :: starEach es X.env := by rfl) (hpl : (backTo pos (starEach es X.env)).any (·.1) = false := by rfl) : HE X g n ρ (.Call (.Name x p) (e :: es) [] pos) Q := fun W σ H kk R rr => by
  refine (pe_callB hc hg hm hv paW hn hdb he hpl).wpr (h W σ H kk _ fun n1 ds vs H1 q e1 j1 dd => ?_)
  have k1 := kk.step e1 j1
  exact q W H1 vs k1.trk dd R fun z z' H' qz s dz => rr n1 z z' H' qz (e1.trans (.of_same s)) (g.same j1 s) dz
theorem he_callTy {T : String} {r : List V → Hp → VK → Prop} (hc : CallR X (.type T) r) (hm : X.mg x = none) (hv : bootBuiltins x = some (.type T)) (h : HA X g n ρ (e :: es) fun n' ds => RCd X.K r ds (Q n')) (hg : Gl X x := by rfl)
    (hn : x ≠ "__name__" := by decide) (hdb : (x == ("__debug__" : Str)) = false := by decide)
    (he : starEach (e :: es) X.env = (false, eval e X.env) :: starEach es X.env := by rfl) (hpl : (backTo pos (starEach es X.env)).any (·.1) = false := by rfl) : HE X g n ρ (.Call (.Name x p) (e :: es) [] pos) Q := fun W σ H kk R rr => by
  refine (pe_callTy hc hg hm hv paW hn hdb he hpl).wpr (h W σ H kk _ fun n1 ds vs H1 q e1 j1 dd => ?_)
  have k1 := kk.step e1 j1
  exact q W H1 vs k1.trk dd R fun z z' H' qz s dz => rr n1 z z' H' qz (e1.trans (.of_same s)) (g.same j1 s) dz
/-- how long -/
def D.len : D → Nat
  | .str s => s.length
  | .tup ds => ds.length
  | .lst ds => ds.length
  | _ => 0
def D.sized : D → Bool
  | .str s => decide (s.length ≤ sizeLine)
  | .tup _ => true
  | .lst _ => true
  | _ => false
theorem rc_len {K : PySem.W.Frag} {d : D} {Q : D → Prop} (hs : d.sized = true) (q : Q (.int d.len)) : RCd K (fun xs H Q => ∃ x n, xs = [x] ∧ LenV K x H n ∧ Q (.int n) H) [d] Q := fun W H vs _ dd R r => by
  cases dd with
  | cons h1 h2 =>
    cases h2
    refine ⟨_, d.len, rfl, ?_, r _ _ H q (Same.refl H) (.int _)⟩
    cases h1 with
    | str s => exact ⟨of_decide_eq_true hs, rfl⟩
    | tup nw ha h => exact .inr ⟨_, .inl (.inl ha), h.length.symm⟩
    | lst nw ha h => exact .inl ⟨_, .inl (.inl ha), h.length.symm⟩
    | _ => cases hs
theorem he_len (hm : X.mg "len" = none) (h : HE X g n ρ e fun n1 d => d.sized = true ∧ Q n1 (.int d.len)) (hg : Gl X "len" := by rfl) (hs : starEach [e] X.env = (false, eval e X.env) :: starEach [] X.env := by rfl) : HE X g n ρ (.Call (.Name "len" p) [e] [] pos) Q :=
  he_callB call_len hm PySem.boot_len (ha_cons (HE.mono h fun _ _ q => ha_nil (rc_len q.1 q.2)) hs) hg (by decide) (by decide) hs rfl
end
end Fk
set_option Elab.async false
set_option linter.all false
set_option maxRecDepth 100000
set_option maxHeartbeats 4000000
/-! K5: isinstance, all, list, tuple, subscripts, slices, lists joined; what is walked; comprehensions. -/
namespace Fk
open PySem PySem.Spec PyProof.Rows L2
/-! ### kinds -/
def D.cls : D → String
  | .non => "NoneType"
  | .bl _ => "bool"
  | .int _ => "int"
  | .str _ => "str"
  | .tup _ => "tuple"
  | .lst _ => "list"
  | .dic _ _ => "dict"
  | .fn _ => "function"
  | .obj _ => "object"
def D.typed : D → Bool
  | .fn _ => false
  | .obj _ => false
  | _ => true
def D.isTup : D → Bool
  | .tup _ => true
  | _ => false
def D.isStr : D → Bool
  | .str _ => true
  | _ => false
def D.isBl : D → Bool
  | .bl _ => true
  | _ => false
def D.isInt : D → Bool
  | .bl _ => true
  | .int _ => true
  | _ => false
theorem DD.ty {K : PySem.W.Frag} {W : List Addr} {H : Hp} {v : V} {d : D} (h : DD K W H v d) (t : d.typed = true) : TyX K H v (.type d.cls) := by
  cases h with
  | non => exact .base .non
  | bl b => exact .base (.bl b)
  | int i => exact .base (.int i)
  | str x => exact .base (.str x)
  | tup _ ha _ => exact .base (.tup ha)
  | lst _ ha _ => exact .base (.lst ha)
  | dic _ ha _ _ => exact .base (.dK ha)
  | fn x => cases t
  | obj a => cases t
theorem kit_tup {d : D} (t : d.typed = true) : kitB d.cls "tuple" = some d.isTup := by cases d <;> first | (cases t; done) | (simp only [D.cls, D.isTup, D.isStr, D.isBl, D.isInt]; decide +kernel)
theorem kit_str {d : D} (t : d.typed = true) : kitB d.cls "str" = some d.isStr := by cases d <;> first | (cases t; done) | (simp only [D.cls, D.isTup, D.isStr, D.isBl, D.isInt]; decide +kernel)
theorem kit_bl {d : D} (t : d.typed = true) : kitB d.cls "bool" = some d.isBl := by cases d <;> first | (cases t; done) | (simp only [D.cls, D.isTup, D.isStr, D.isBl, D.isInt]; decide +kernel)
theorem kit_int {d : D} (t : d.typed = true) : kitB d.cls "int" = some d.isInt := by cases d <;> first | (cases t; done) | (simp only [D.cls, D.isTup, D.isStr, D.isBl, D.isInt]; decide +kernel)
section
variable {X : Cx} {g : Gx} {n : Nat} {ρ : List SV} {e a b c : Expr} {es : List Expr} {pos p p2 : Pos} {Q : Nat → D → Prop} {QF : Nat → List D → Prop} {x : Str}
theorem he_isi {T : String} {f : D → Bool} (hk : ∀ {d : D}, d.typed = true → kitB d.cls T = some (f d)) (hm : X.mg "isinstance" = none) (hmT : X.mg x = none) (hb : bootBuiltins x = some (.type T)) (h : HE X g n ρ e fun n1 d => d.typed = true ∧ Q n1 (.bl (f d)))
    (hg : Gl X "isinstance" := by rfl) (hgT : Gl X x := by rfl) (hn : x ≠ "__name__" := by decide) (hdb : (x == ("__debug__" : Str)) = false := by decide)
    (hs : starEach [e, .Name x p2] X.env = (false, eval e X.env) :: starEach [.Name x p2] X.env := by rfl) (hs2 : starEach [.Name x p2] X.env = (false, eval (.Name x p2) X.env) :: starEach [] X.env := by rfl)
    (hpl : (backTo pos (starEach [.Name x p2] X.env)).any (·.1) = false := by rfl) : HE X g n ρ (.Call (.Name "isinstance" p) [e, .Name x p2] [] pos) Q := fun W σ H k R r => by
  refine (pe_callB call_isi hg hm PyProof.Rows.boot_isinstance (pa_cons peW (pa_cons (pe_bltn (v := .ty T) hgT hmT hb rfl hn hdb) pa_nil hs2) hs) (by decide) (by decide) hs hpl).wpr (h W σ H k _ fun n1 d v H1 q e1 j1 dd => ?_)
  exact ⟨v, .ty T, _, _, f d, rfl, .ty T, dd.ty q.1, kit_ty (hk q.1), r n1 _ _ H1 q.2 e1 j1 (.bl _)⟩
theorem he_all (hm : X.mg "all" = none) (hc : X.calm = true) (h : HE X g n ρ e fun n1 d => ∃ bs : List Bool, d = .lst (bs.map .bl) ∧ Q n1 (.bl (bs.all id))) (hg : Gl X "all" := by rfl) (hs : starEach [e] X.env = (false, eval e X.env) :: starEach [] X.env := by rfl) : HE X g n ρ (.Call (.Name "all" p) [e] [] pos) Q :=
  he_callB (cr_all hc) hm PyProof.Rows.boot_all (ha_cons (HE.mono h fun _ d q => ha_nil fun W H vs tr dd R r => by
    obtain ⟨bs, rfl, q⟩ := q
    cases dd with
    | cons h1 h2 =>
      cases h2
      obtain ⟨a, xs, rfl, na, ha, h⟩ := h1.lst_inv
      have e := h.bls
      subst e
      exact ⟨a, bs, rfl, .inl (.inl ha), r _ _ H q (Same.refl H) (.bl _)⟩) hs) hg (by decide) (by decide) hs rfl
/-- list(x), x a tuple or a list: new -/
theorem hf_list (hm : X.mg "list" = none) (h : HE X g n ρ e fun n1 d => ∃ ds, (d = .lst ds ∨ d = .tup ds) ∧ QF n1 ds) (hg : Gl X "list" := by rfl) (hs : starEach [e] X.env = (false, eval e X.env) :: starEach [] X.env := by rfl) : HF X g n ρ (.Call (.Name "list" p) [e] [] pos) QF := fun W σ H k R r => by
  refine (pe_callTy call_list_of hg hm PyProof.Rows.boot_list (pa_cons peW pa_nil hs) (by decide) (by decide) hs rfl).wpr (h W σ H k _ fun n1 d v H1 q e1 j1 dd => ?_)
  obtain ⟨ds, hd, q⟩ := q
  have fin : ∀ (a : Addr) (xs : List V), DDs X.K W H1 xs ds → ∀ l, H1 l = none → R (.ref l) (upd H1 l (.lst xs)) := fun a xs h1 l hl =>
    r n1 ds l xs _ q (k.back e1 j1 hl) (e1.trans (Ext.upd hl)) (g.same j1 (Same.upd hl)) upd_same ((h1.fresh hl).same (Same.upd hl))
  rcases hd with rfl | rfl
  · obtain ⟨a, xs, rfl, na, ha, h1⟩ := dd.lst_inv
    exact ⟨a, xs, rfl, .inl (.inl (.inl ha)), fin a xs h1⟩
  · obtain ⟨a, xs, rfl, na, ha, h1⟩ := dd.tup_inv
    exact ⟨a, xs, rfl, .inr (.inl (.inl ha)), fin a xs h1⟩
/-- tuple(x), x a list -/
theorem he_tuple (hm : X.mg "tuple" = none) (h : HE X g n ρ e fun n1 d => ∃ ds, d = .lst ds ∧ Q n1 (.tup ds)) (hg : Gl X "tuple" := by rfl) (hs : starEach [e] X.env = (false, eval e X.env) :: starEach [] X.env := by rfl) : HE X g n ρ (.Call (.Name "tuple" p) [e] [] pos) Q :=
  he_callTy call_tuple_of hm PyProof.Rows.boot_tuple (ha_cons (HE.mono h fun _ d q => ha_nil fun W H vs tr dd R r => by
    obtain ⟨ds, rfl, q⟩ := q
    cases dd with
    | cons h1 h2 =>
      cases h2
      obtain ⟨a, xs, rfl, na, ha, h⟩ := h1.lst_inv
      refine ⟨a, xs, rfl, .inl ⟨.inl (.inl ha), fun l hl => ?_⟩⟩
      have nl : l ∉ W := fun z => by
        obtain ⟨o, e⟩ := tr l z
        rw [hl] at e
        cases e
      exact r _ _ _ q (Same.upd hl) (.tup nl upd_same (h.same (Same.upd hl)))) hs) hg (by decide) (by decide) hs rfl
/-! ### subscripts -/
theorem DDs.atI {K : PySem.W.Frag} {W : List Addr} {H : Hp} {ds : List D} {vs : List V} {i : Int} {d : D} (h : DDs K W H vs ds) (e : L2.atI ds i = some d) : ∃ v, L2.atI vs i = some v ∧ DD K W H v d := by
  unfold L2.atI at e ⊢
  rw [h.length]
  obtain ⟨j, h1, h2⟩ := Option.bind_eq_some_iff.mp e
  obtain ⟨v, h3, h4⟩ := h.get h2
  exact ⟨v, by rw [h1]; exact h3, h4⟩
theorem he_ixT (h : HE X g n ρ a fun n1 x => HE X g n1 ρ b fun n2 y => ∃ ds i d, x = .tup ds ∧ y = .int i ∧ atI ds i = some d ∧ Q n2 d) (hs : PlainIx b := by exact fun _ _ => rfl) : HE X g n ρ (.Subscript a b pos) Q := fun W σ H k R r => by
  refine (pe_ix ix_tup peW peW hs).wpr (h W σ H k _ fun n1 x v H1 q1 e1 j1 d1 => ?_)
  refine q1 W σ H1 (k.step e1 j1) _ fun n2 y u H2 q2 e2 j2 d2 => ?_
  obtain ⟨ds, i, d, rfl, rfl, hd, q⟩ := q2
  obtain ⟨c, xs, rfl, nc, hc, hx⟩ := (d1.ext ((k.step e1 j1).extW e2)).tup_inv
  obtain ⟨w, h1, h2⟩ := hx.atI hd
  exact ⟨c, xs, i, w, rfl, d2.int_inv, .inl (.inl hc), h1, r n2 _ _ H2 q (e1.trans e2) j2 h2⟩
theorem he_ixL (h : HE X g n ρ a fun n1 x => HE X g n1 ρ b fun n2 y => ∃ ds i d, x = .lst ds ∧ y = .int i ∧ atI ds i = some d ∧ Q n2 d) (hs : PlainIx b := by exact fun _ _ => rfl) : HE X g n ρ (.Subscript a b pos) Q := fun W σ H k R r => by
  refine (pe_ix ix_list peW peW hs).wpr (h W σ H k _ fun n1 x v H1 q1 e1 j1 d1 => ?_)
  refine q1 W σ H1 (k.step e1 j1) _ fun n2 y u H2 q2 e2 j2 d2 => ?_
  obtain ⟨ds, i, d, rfl, rfl, hd, q⟩ := q2
  obtain ⟨c, xs, rfl, nc, hc, hx⟩ := (d1.ext ((k.step e1 j1).extW e2)).lst_inv
  obtain ⟨w, h1, h2⟩ := hx.atI hd
  exact ⟨c, xs, i, w, rfl, d2.int_inv, .inl (.inl hc), h1, r n2 _ _ H2 q (e1.trans e2) j2 h2⟩
def dlook : List Str → List D → Str → Option D
  | k :: ks, v :: vs, s => if k = s then some v else dlook ks vs s
  | _, _, _ => none
theorem dic_val {K : PySem.W.Frag} {W : List Addr} {H : Hp} (s : Str) : ∀ {kvs : List (Key × V)} {ks : List Str} {ds : List D}, kvs.map (·.1) = ks.map Sum.inr → DDs K W H (kvs.map (·.2)) ds →
    (∀ d, dlook ks ds s = some d → ∃ v, valV kvs (Sum.inr s) = some v ∧ DD K W H v d) ∧ (dlook ks ds s = none → valV kvs (Sum.inr s) = none)
  | [], ks, ds, e, h => by
    cases h
    refine ⟨fun d z => ?_, fun _ => rfl⟩
    cases ks <;> (unfold dlook at z; cases z)
  | (k0, v0) :: kvs, [], ds, e, h => by cases e
  | (k0, v0) :: kvs, k :: ks, [], e, h => by cases h
  | (k0, v0) :: kvs, k :: ks, d0 :: ds, e, h => by
    rw [List.map_cons, List.map_cons] at e
    injection e with e1 e2
    have e1 : k0 = Sum.inr k := e1
    subst e1
    cases h with
    | cons h1 h2 =>
      have ih := dic_val s (kvs := kvs) e2 h2
      unfold dlook
      by_cases hk : k = s
      · subst hk
        rw [if_pos rfl]
        refine ⟨fun d z => ?_, fun z => by cases z⟩
        cases z
        exact ⟨v0, valV_pos rfl, h1⟩
      · rw [if_neg hk]
        have nk : ¬ (Sum.inr k : Key) = Sum.inr s := fun z => hk (Sum.inr.inj z)
        have e3 : valV ((Sum.inr k, v0) :: kvs) (Sum.inr s) = valV kvs (Sum.inr s) := valV_neg nk
        exact ⟨fun d z => by rw [e3]; exact ih.1 d z, fun z => by rw [e3]; exact ih.2 z⟩
theorem he_dget (hu : X.A.units + 1 < cLine) (h : HE X g n ρ a fun n1 x => HE X g n1 ρ b fun n2 y => ∃ ks ds s d, x = .dic ks ds ∧ y = .str s ∧ dlook ks ds s = some d ∧ Q n2 d) (hs : NoSl b := by exact fun _ _ => rfl) : HE X g n ρ (.Subscript a b pos) Q := fun W σ H k R r => by
  refine (pe_dget hu peW peW hs).wpr (h W σ H k _ fun n1 x v H1 q1 e1 j1 d1 => ?_)
  refine q1 W σ H1 (k.step e1 j1) _ fun n2 y u H2 q2 e2 j2 d2 => ?_
  obtain ⟨ks, ds, s, d, rfl, rfl, hd, q⟩ := q2
  obtain ⟨c, kvs, rfl, nc, hc, hk, hx⟩ := (d1.ext ((k.step e1 j1).extW e2)).dic_inv
  obtain ⟨w, h1, h2⟩ := (dic_val s hk hx).1 d hd
  refine ⟨c, w, rfl, ?_, r n2 _ _ H2 q (e1.trans e2) j2 h2⟩
  rw [d2.str_inv, ← h1]
  exact DGet.k (k := Sum.inr s) hc
/-- s in d, d a dict -/
theorem he_inD (hu : X.A.units + 1 < cLine) (h : HE X g n ρ a fun n1 y => HE X g n1 ρ b fun n2 x => ∃ ks ds s, x = .dic ks ds ∧ y = .str s ∧ Q n2 (.bl (dlook ks ds s).isSome)) (hm : behindInMarks .In b = false := by rfl) : HE X g n ρ (.Compare a [.In] [b] pos) Q := fun W σ H k R r => by
  refine (pe_cmp (pc_din hu peW peW) hm).wpr (h W σ H k _ fun n1 x v H1 q1 e1 j1 d1 => ?_)
  refine q1 W σ H1 (k.step e1 j1) _ fun n2 y u H2 q2 e2 j2 d2 => ?_
  obtain ⟨ks, ds, s, rfl, rfl, q⟩ := q2
  obtain ⟨c, kvs, rfl, nc, hc, hk, hx⟩ := d2.dic_inv
  have hv : v = .str s := (d1.ext ((k.step e1 j1).extW e2)).str_inv
  subst hv
  refine ⟨c, valV kvs (Sum.inr s), rfl, DGet.k (k := Sum.inr s) hc, ?_⟩
  have hd := dic_val s hk hx
  have z : (valV kvs (Sum.inr s)).isSome = (dlook ks ds s).isSome := by
    cases e : dlook ks ds s with
    | none => rw [hd.2 e] <;> rfl
    | some d =>
      obtain ⟨w, h1, _⟩ := hd.1 d e
      rw [h1]
      rfl
  rw [z]
  exact r n2 _ _ H2 q (e1.trans e2) j2 (.bl _)
theorem ht_notInD (hu : X.A.units + 1 < cLine) {QB : Nat → Bool → Prop} (h : HE X g n ρ a fun n1 y => HE X g n1 ρ b fun n2 x => ∃ ks ds s, x = .dic ks ds ∧ y = .str s ∧ QB n2 (!(dlook ks ds s).isSome)) (hm : behindInMarks .NotIn b = false := by rfl) : HT X g n ρ (.Compare a [.NotIn] [b] pos) QB := fun W σ H k R r => by
  refine (pt_cmp (pc_dnotin hu peW peW) hm).wpr (h W σ H k _ fun n1 x v H1 q1 e1 j1 d1 => ?_)
  refine q1 W σ H1 (k.step e1 j1) _ fun n2 y u H2 q2 e2 j2 d2 => ?_
  obtain ⟨ks, ds, s, rfl, rfl, q⟩ := q2
  obtain ⟨c, kvs, rfl, nc, hc, hk, hx⟩ := d2.dic_inv
  have hv : v = .str s := (d1.ext ((k.step e1 j1).extW e2)).str_inv
  subst hv
  refine ⟨c, valV kvs (Sum.inr s), rfl, DGet.k (k := Sum.inr s) hc, ?_⟩
  have hd := dic_val s hk hx
  have z : (valV kvs (Sum.inr s)).isSome = (dlook ks ds s).isSome := by
    cases e : dlook ks ds s with
    | none => rw [hd.2 e] <;> rfl
    | some d =>
      obtain ⟨w, h1, _⟩ := hd.1 d e
      rw [h1]
      rfl
  refine ⟨_, rfl, ?_⟩
  rw [z]
  exact r n2 _ H2 q (e1.trans e2) j2
/-! ### slices -/
def cutD (xs : List D) (lo hi : Option Int) : List D := (xs.drop (HT.sIx xs.length 0 lo)).take (HT.sIx xs.length xs.length hi - HT.sIx xs.length 0 lo)
theorem DDs.cut {K : PySem.W.Frag} {W : List Addr} {H : Hp} {ds : List D} {vs : List V} (h : DDs K W H vs ds) (lo hi : Option Int) : DDs K W H (cutV vs lo hi) (cutD ds lo hi) := by
  unfold cutV cutD
  rw [h.length]
  exact (h.drop _).take _
theorem cutD_whole {ds : List D} {lo hi : Option Int} (h : HT.sIx ds.length 0 lo = 0 ∧ HT.sIx ds.length ds.length hi = ds.length) : cutD ds lo hi = ds := by
  unfold cutD
  rw [h.1, h.2]
  simp
/-- a slice's part -/
def HO (X : Cx) (g : Gx) (n : Nat) (ρ : List SV) (o : Option Expr) (Q : Nat → Option Int → Prop) : Prop := match o with
  | none => Q n none
  | some e => HE X g n ρ e fun n1 d => ∃ i, d = .int i ∧ Q n1 (some i)
theorem HO.po {o : Option Expr} {QO : Nat → Option Int → Prop} (h : HO X g n ρ o QO) : ∃ t, PO X o t ∧ ∀ (W : List Addr) (σ : L2.St) (H : Hp), Ok X.K g W n ρ σ H → ∀ R : Option Int → Hp → Prop, (∀ n' i H', QO n' i → Ext g.G H H' → g.J n' H' → R i H') → t σ H R := by
  cases o with
  | none => exact ⟨tNoPart, po_none, fun W σ H k R r => r n none H h .refl k.j⟩
  | some e =>
    refine ⟨tPart (WE X e), po_some peW, fun W σ H k R r => h W σ H k _ fun n1 d v H1 q e1 j1 dd => ?_⟩
    obtain ⟨i, rfl, q⟩ := q
    exact ⟨i, dd.int_inv, r n1 _ H1 q e1 j1⟩
/-- canonical of a part -/
def WO (X : Cx) (o : Option Expr) : TO := fun σ H Q => ∀ pins s, Inv X pins σ H s → wpAny (model X.prog X.w) X.A (evalPart o X.env) (fun u s' => ∃ o H', Inv X pins σ H' s' ∧ IsPart u o ∧ Q o H') X.xe s
theorem poW {o : Option Expr} : PO X o (WO X o) := ⟨fun pins s _ _ _ I h => h pins s I⟩
theorem HO.w {o : Option Expr} {QO : Nat → Option Int → Prop} (h : HO X g n ρ o QO) {W : List Addr} {σ : L2.St} {H : Hp} (k : Ok X.K g W n ρ σ H) {R : Option Int → Hp → Prop} (r : ∀ n' i H', QO n' i → Ext g.G H H' → g.J n' H' → R i H') : WO X o σ H R := fun pins s I => by
  obtain ⟨t, pt, ht⟩ := h.po
  exact pt.run pins s σ H R I (ht W σ H k R r)
theorem he_slT {lo hi : Option Expr} (h : HE X g n ρ e fun n1 d => HO X g n1 ρ lo fun n2 l => HO X g n2 ρ hi fun n3 u => ∃ ds, d = .tup ds ∧ Q n3 (.tup (cutD ds l u))) : HE X g n ρ (.Subscript e (.Slice lo hi none p2) pos) Q := fun W σ H k R r => by
  refine (pe_slice sl_tupA peW poW poW).wpr (h W σ H k _ fun n1 d v H1 q1 e1 j1 d1 => ?_)
  have k1 := k.step e1 j1
  refine HO.w q1 k1 fun n2 l H2 q2 e2 j2 => ?_
  have k2 := k1.step e2 j2
  refine HO.w q2 k2 fun n3 u H3 q3 e3 j3 => ?_
  have k3 := k2.step e3 j3
  obtain ⟨ds, rfl, q⟩ := q3
  have d3 := (d1.ext (k1.extW e2)).ext (k2.extW e3)
  obtain ⟨c, xs, rfl, nc, hc, hx⟩ := d3.tup_inv
  have ee := (e1.trans e2).trans e3
  refine ⟨c, xs, rfl, .inl (.inl hc), fun hw => ?_, fun _ p hp => ?_⟩
  · rw [hx.length] at hw
    rw [cutD_whole hw] at q
    exact r n3 _ _ H3 q ee j3 d3
  · exact r n3 _ _ _ q (ee.trans (Ext.upd hp)) (g.same j3 (Same.upd hp)) (.tup (k3.fresh (o := .tup xs) hp) upd_same ((hx.cut l u).same (Same.upd hp)))
theorem hf_slL {lo hi : Option Expr} (h : HE X g n ρ e fun n1 d => HO X g n1 ρ lo fun n2 l => HO X g n2 ρ hi fun n3 u => ∃ ds, d = .lst ds ∧ QF n3 (cutD ds l u)) : HF X g n ρ (.Subscript e (.Slice lo hi none p2) pos) QF := fun W σ H k R r => by
  refine (pe_slice sl_list peW poW poW).wpr (h W σ H k _ fun n1 d v H1 q1 e1 j1 d1 => ?_)
  have k1 := k.step e1 j1
  refine HO.w q1 k1 fun n2 l H2 q2 e2 j2 => ?_
  have k2 := k1.step e2 j2
  refine HO.w q2 k2 fun n3 u H3 q3 e3 j3 => ?_
  have k3 := k2.step e3 j3
  obtain ⟨ds, rfl, q⟩ := q3
  have d3 := (d1.ext (k1.extW e2)).ext (k2.extW e3)
  obtain ⟨c, xs, rfl, nc, hc, hx⟩ := d3.lst_inv
  have ee := (e1.trans e2).trans e3
  refine ⟨c, xs, rfl, .inl (.inl hc), fun p hp => ?_⟩
  exact r n3 _ p _ _ q (k.back ee j3 hp) (ee.trans (Ext.upd hp)) (g.same j3 (Same.upd hp)) upd_same (((hx.cut l u).fresh hp).same (Same.upd hp))
theorem he_slS {lo hi : Option Expr} (h : HE X g n ρ e fun n1 d => HO X g n1 ρ lo fun n2 l => HO X g n2 ρ hi fun n3 u => ∃ z : Str, d = .str z ∧ z.length ≤ sizeLine ∧ Q n3 (.str (cutS z l u))) : HE X g n ρ (.Subscript e (.Slice lo hi none p2) pos) Q := fun W σ H k R r => by
  refine (pe_slice sl_str peW poW poW).wpr (h W σ H k _ fun n1 d v H1 q1 e1 j1 d1 => ?_)
  have k1 := k.step e1 j1
  refine HO.w q1 k1 fun n2 l H2 q2 e2 j2 => ?_
  have k2 := k1.step e2 j2
  refine HO.w q2 k2 fun n3 u H3 q3 e3 j3 => ?_
  obtain ⟨z, rfl, hz, q⟩ := q3
  exact ⟨z, d1.str_inv, hz, r n3 _ _ H3 q ((e1.trans e2).trans e3) j3 (.str _)⟩
/-- xs[::-1] -/
theorem hf_rev {kk : Nat} {q1 q2 q3 : Pos} (h : HE X g n ρ e fun n1 d => ∃ ds, d = .lst ds ∧ QF n1 ds.reverse) : HF X g n ρ (.Subscript e (.Slice none none (some (.UnaryOp .USub (.Constant (.int 1) kk q1) q2)) q3) pos) QF := fun W σ H k R r => by
  refine (pe_revL peW).wpr (h W σ H k _ fun n1 d v H1 q e1 j1 dd => ?_)
  obtain ⟨ds, rfl, q⟩ := q
  obtain ⟨c, xs, rfl, nc, hc, hx⟩ := dd.lst_inv
  exact ⟨c, xs, rfl, .inl (.inl hc), fun p hp => r n1 _ p _ _ q (k.back e1 j1 hp) (e1.trans (Ext.upd hp)) (g.same j1 (Same.upd hp)) upd_same ((hx.reverse.fresh hp).same (Same.upd hp))⟩
/-- lists joined: a new one -/
theorem hf_add (h : HE X g n ρ a fun n1 x => HE X g n1 ρ b fun n2 y => ∃ ds es, x = .lst ds ∧ y = .lst es ∧ ds.length + es.length ≤ sizeLine ∧ QF n2 (ds ++ es)) : HF X g n ρ (.BinOp a .Add b pos) QF := fun W σ H k R r => by
  refine (pe_op op_cat peW peW).wpr (h W σ H k _ fun n1 x v H1 q1 e1 j1 d1 => ?_)
  have k1 := k.step e1 j1
  refine q1 W σ H1 k1 _ fun n2 y u H2 q2 e2 j2 d2 => ?_
  obtain ⟨ds, es, rfl, rfl, hz, q⟩ := q2
  obtain ⟨c, xs, rfl, nc, hc, hx⟩ := (d1.ext (k1.extW e2)).lst_inv
  obtain ⟨c', ys, rfl, nc', hc', hy⟩ := d2.lst_inv
  have ee := e1.trans e2
  refine ⟨c, c', xs, ys, rfl, rfl, hc, hc', by rw [hx.length, hy.length]; exact hz, fun p hp => ?_⟩
  exact r n2 _ p _ _ q (k.back ee j2 hp) (ee.trans (Ext.upd hp)) (g.same j2 (Same.upd hp)) upd_same (((hx.append hy).fresh hp).same (Same.upd hp))
end
end Fk
set_option Elab.async false
set_option linter.all false
set_option maxRecDepth 100000
set_option maxHeartbeats 4000000
/-! K6: what is walked, targets, comprehensions. -/
namespace Fk
open PySem PySem.Spec PyProof.Rows L2
/-! ### walks -/
theorem Feeds.list {K : PySem.W.Frag} {a : Addr} {ds : List D} : Feeds K (Itl K a) [(.ref a, .lst ds)] ds := by
  have key : ∀ {W : List Addr} {H : Hp}, (∀ p ∈ [((.ref a : V), D.lst ds)], DD K W H p.1 p.2) → ∃ xs, SqL K H a xs ∧ DDs K W H xs ds := fun {W H} h => by
    obtain ⟨b, xs, e, _, hb, hx⟩ := (h _ List.mem_cons_self).lst_inv
    have e := V.ref.inj e
    subst e
    exact ⟨xs, .inl (.inl hb), hx⟩
  refine ⟨fun W H h i d e => ?_, fun W H h _ i d e x H' y => ?_, fun W H h => ?_⟩
  · obtain ⟨xs, h1, h2⟩ := key h
    obtain ⟨v, h3, _⟩ := h2.get e
    exact ⟨xs, v, h1, h3⟩
  · obtain ⟨xs, h1, h2⟩ := key h
    obtain ⟨v, h3, h4⟩ := h2.get e
    obtain ⟨rfl, y2⟩ := y
    have z := (y2 xs h1).symm.trans h3
    cases z
    exact ⟨Same.refl _, h4⟩
  · obtain ⟨xs, h1, h2⟩ := key h
    exact ⟨xs, h1, by rw [h2.length]; exact Nat.le_refl _⟩
theorem Feeds.tup {K : PySem.W.Frag} {a : Addr} {ds : List D} : Feeds K (Itt K a) [(.ref a, .tup ds)] ds := by
  have key : ∀ {W : List Addr} {H : Hp}, (∀ p ∈ [((.ref a : V), D.tup ds)], DD K W H p.1 p.2) → ∃ xs, SqT K H a xs ∧ DDs K W H xs ds := fun {W H} h => by
    obtain ⟨b, xs, e, _, hb, hx⟩ := (h _ List.mem_cons_self).tup_inv
    have e := V.ref.inj e
    subst e
    exact ⟨xs, .inl (.inl hb), hx⟩
  refine ⟨fun W H h i d e => ?_, fun W H h _ i d e x H' y => ?_, fun W H h => ?_⟩
  · obtain ⟨xs, h1, h2⟩ := key h
    obtain ⟨v, h3, _⟩ := h2.get e
    exact ⟨xs, v, h1, h3⟩
  · obtain ⟨xs, h1, h2⟩ := key h
    obtain ⟨v, h3, h4⟩ := h2.get e
    obtain ⟨rfl, y2⟩ := y
    have z := (y2 xs h1).symm.trans h3
    cases z
    exact ⟨Same.refl _, h4⟩
  · obtain ⟨xs, h1, h2⟩ := key h
    exact ⟨xs, h1, by rw [h2.length]; exact Nat.le_refl _⟩
/-- a new pair -/
theorem new_pair {K : PySem.W.Frag} {W : List Addr} {H : Hp} {T : Addr} {x y : V} {d e : D} (tr : ∀ a ∈ W, ∃ o, H a = some o) (hT : H T = none) (dx : DD K W H x d) (dy : DD K W H y e) : Same H (upd H T (.tup [x, y])) ∧ DD K W (upd H T (.tup [x, y])) (.ref T) (.tup [d, e]) := by
  have s : Same H (upd H T (.tup [x, y])) := Same.upd hT
  refine ⟨s, .tup (fun z => ?_) upd_same (.cons (dx.same s) (.cons (dy.same s) .nil))⟩
  obtain ⟨o, q⟩ := tr T z
  rw [hT] at q
  cases q
def zipD : List D → List D → List D
  | x :: xs, y :: ys => .tup [x, y] :: zipD xs ys
  | _, _ => []
theorem zipD_len : ∀ xs ys : List D, (zipD xs ys).length = min xs.length ys.length
  | [], ys => by simp [zipD]
  | x :: xs, [] => by simp [zipD]
  | x :: xs, y :: ys => by simp [zipD, zipD_len xs ys, Nat.add_min_add_right]
theorem zipD_get : ∀ {xs ys : List D} {i : Nat} {d : D}, (zipD xs ys)[i]? = some d → ∃ x y, xs[i]? = some x ∧ ys[i]? = some y ∧ d = .tup [x, y]
  | [], ys, i, d, h => by simp [zipD] at h
  | x :: xs, [], i, d, h => by simp [zipD] at h
  | x :: xs, y :: ys, 0, d, h => by
    simp [zipD] at h
    exact ⟨x, y, rfl, rfl, h.symm⟩
  | x :: xs, y :: ys, i + 1, d, h => by
    simp only [zipD, List.getElem?_cons_succ] at h ⊢
    exact zipD_get h
theorem Feeds.zipT {K : PySem.W.Frag} {a b : Addr} {ds es : List D} : Feeds K (RZ.ItzT K a b) [(.ref a, .tup ds), (.ref b, .tup es)] (zipD ds es) := by
  have key : ∀ {W : List Addr} {H : Hp}, (∀ p ∈ [((.ref a : V), D.tup ds), ((.ref b : V), D.tup es)], DD K W H p.1 p.2) → ∃ xs ys, SqT K H a xs ∧ DDs K W H xs ds ∧ SqT K H b ys ∧ DDs K W H ys es := fun {W H} h => by
    obtain ⟨c, xs, e, _, hb, hx⟩ := (h _ List.mem_cons_self).tup_inv
    have e := V.ref.inj e
    subst e
    obtain ⟨c', ys, e, _, hb', hy⟩ := (h _ (List.mem_cons_of_mem _ List.mem_cons_self)).tup_inv
    have e := V.ref.inj e
    subst e
    exact ⟨xs, ys, .inl (.inl hb), hx, .inl (.inl hb'), hy⟩
  refine ⟨fun W H h i d e => ?_, fun W H h tr i d e x H' y => ?_, fun W H h => ?_⟩
  · obtain ⟨xs, ys, h1, h2, h3, h4⟩ := key h
    obtain ⟨x, y, q1, q2, rfl⟩ := zipD_get e
    obtain ⟨v, h5, _⟩ := h2.get q1
    obtain ⟨u, h6, _⟩ := h4.get q2
    exact ⟨xs, ys, v, u, h1, h3, h5, h6⟩
  · obtain ⟨xs, ys, h1, h2, h3, h4⟩ := key h
    obtain ⟨x', y', q1, q2, rfl⟩ := zipD_get e
    obtain ⟨v, h5, h7⟩ := h2.get q1
    obtain ⟨u, h6, h8⟩ := h4.get q2
    obtain ⟨T, z1, z2, rfl, hT, rfl, y1, y2⟩ := y
    have w1 := (y1 xs h1).symm.trans h5
    have w2 := (y2 ys h3).symm.trans h6
    cases w1
    cases w2
    exact new_pair tr hT h7 h8
  · obtain ⟨xs, ys, h1, h2, h3, h4⟩ := key h
    refine ⟨xs, ys, h1, h3, ?_⟩
    rw [zipD_len, h2.length, h4.length]
    omega
theorem Feeds.zipL {K : PySem.W.Frag} {a b : Addr} {ds es : List D} : Feeds K (Itz K a b) [(.ref a, .lst ds), (.ref b, .lst es)] (zipD ds es) := by
  have key : ∀ {W : List Addr} {H : Hp}, (∀ p ∈ [((.ref a : V), D.lst ds), ((.ref b : V), D.lst es)], DD K W H p.1 p.2) → ∃ xs ys, SqL K H a xs ∧ DDs K W H xs ds ∧ SqL K H b ys ∧ DDs K W H ys es := fun {W H} h => by
    obtain ⟨c, xs, e, _, hb, hx⟩ := (h _ List.mem_cons_self).lst_inv
    have e := V.ref.inj e
    subst e
    obtain ⟨c', ys, e, _, hb', hy⟩ := (h _ (List.mem_cons_of_mem _ List.mem_cons_self)).lst_inv
    have e := V.ref.inj e
    subst e
    exact ⟨xs, ys, .inl (.inl hb), hx, .inl (.inl hb'), hy⟩
  refine ⟨fun W H h i d e => ?_, fun W H h tr i d e x H' y => ?_, fun W H h => ?_⟩
  · obtain ⟨xs, ys, h1, h2, h3, h4⟩ := key h
    obtain ⟨x, y, q1, q2, rfl⟩ := zipD_get e
    obtain ⟨v, h5, _⟩ := h2.get q1
    obtain ⟨u, h6, _⟩ := h4.get q2
    exact ⟨xs, ys, v, u, h1, h3, h5, h6⟩
  · obtain ⟨xs, ys, h1, h2, h3, h4⟩ := key h
    obtain ⟨x', y', q1, q2, rfl⟩ := zipD_get e
    obtain ⟨v, h5, h7⟩ := h2.get q1
    obtain ⟨u, h6, h8⟩ := h4.get q2
    obtain ⟨T, z1, z2, rfl, hT, rfl, y1, y2⟩ := y
    have w1 := (y1 xs h1).symm.trans h5
    have w2 := (y2 ys h3).symm.trans h6
    cases w1
    cases w2
    exact new_pair tr hT h7 h8
  · obtain ⟨xs, ys, h1, h2, h3, h4⟩ := key h
    refine ⟨xs, ys, h1, h3, ?_⟩
    rw [zipD_len, h2.length, h4.length]
    omega
def enumD : Nat → List D → List D
  | _, [] => []
  | k, d :: ds => .tup [.int k, d] :: enumD (k + 1) ds
theorem enumD_len : ∀ (k : Nat) (ds : List D), (enumD k ds).length = ds.length
  | _, [] => rfl
  | k, d :: ds => by simp [enumD, enumD_len (k + 1) ds]
theorem enumD_get : ∀ {ds : List D} {k i : Nat} {d : D}, (enumD k ds)[i]? = some d → ∃ x, ds[i]? = some x ∧ d = .tup [.int ((k + i : Nat) : Int), x]
  | [], k, i, d, h => by simp [enumD] at h
  | x :: ds, k, 0, d, h => by
    simp [enumD] at h
    exact ⟨x, rfl, h.symm⟩
  | x :: ds, k, i + 1, d, h => by
    simp only [enumD, List.getElem?_cons_succ] at h ⊢
    obtain ⟨y, h1, h2⟩ := enumD_get h
    exact ⟨y, h1, by rw [h2, show k + 1 + i = k + (i + 1) by omega]⟩
theorem Feeds.enum {K : PySem.W.Frag} {a : Addr} {ds : List D} : Feeds K (Ite K a) [(.ref a, .lst ds)] (enumD 0 ds) := by
  have key : ∀ {W : List Addr} {H : Hp}, (∀ p ∈ [((.ref a : V), D.lst ds)], DD K W H p.1 p.2) → ∃ xs, SqL K H a xs ∧ DDs K W H xs ds := fun {W H} h => by
    obtain ⟨b, xs, e, _, hb, hx⟩ := (h _ List.mem_cons_self).lst_inv
    have e := V.ref.inj e
    subst e
    exact ⟨xs, .inl (.inl hb), hx⟩
  refine ⟨fun W H h i d e => ?_, fun W H h tr i d e x H' y => ?_, fun W H h => ?_⟩
  · obtain ⟨xs, h1, h2⟩ := key h
    obtain ⟨y, q1, rfl⟩ := enumD_get e
    obtain ⟨v, h3, _⟩ := h2.get q1
    exact ⟨xs, v, h1, h3⟩
  · obtain ⟨xs, h1, h2⟩ := key h
    obtain ⟨y', q1, rfl⟩ := enumD_get e
    obtain ⟨v, h3, h4⟩ := h2.get q1
    obtain ⟨T, z1, rfl, hT, rfl, y1⟩ := y
    have w1 := (y1 xs h1).symm.trans h3
    cases w1
    rw [Nat.zero_add]
    exact new_pair tr hT (.int _) h4
  · obtain ⟨xs, h1, h2⟩ := key h
    exact ⟨xs, h1, by rw [enumD_len, h2.length]; exact Nat.le_refl _⟩
def signsD (z : Str) : List D := z.cps.toList.map fun c => .str ⟨#[c]⟩
theorem Feeds.text {K : PySem.W.Frag} {z : Str} : Feeds K (Its z) [] (signsD z) := by
  have w : Walk (Its z) z.cps.size (fun _ => True) _ := walk_str
  have hl : (signsD z).length = z.cps.size := by unfold signsD; simp
  refine ⟨fun W H h i d e => ?_, fun W H h tr i d e x H' y => ?_, fun W H h => ?_⟩
  · have hi : i < (signsD z).length := (List.getElem?_eq_some_iff.mp e).1
    exact w.goes i H (by omega) trivial
  · have hi : i < (signsD z).length := (List.getElem?_eq_some_iff.mp e).1
    obtain ⟨rfl, c, h1, rfl⟩ := w.yields i H x H' (by omega) trivial y
    refine ⟨Same.refl _, ?_⟩
    have e2 : (signsD z)[i]? = some (.str ⟨#[c]⟩) := by
      unfold signsD
      rw [List.getElem?_map, show z.cps.toList[i]? = some c by simpa using h1] <;> rfl
    rw [e2] at e
    cases e
    exact .str _
  · rw [hl]
    exact w.stops H trivial
def rangeD (n : Nat) : List D := (List.range n).map fun i : Nat => .int (i : Int)
theorem Feeds.range {K : PySem.W.Frag} {n : Nat} : Feeds K (Itr 0 n) [] (rangeD n) := by
  have hl : (rangeD n).length = n := by unfold rangeD; simp
  refine ⟨fun W H h i d e => ?_, fun W H h tr i d e x H' y => ?_, fun W H h => ?_⟩
  · have hi : i < (rangeD n).length := (List.getElem?_eq_some_iff.mp e).1
    show i < n
    omega
  · have hi : i < (rangeD n).length := (List.getElem?_eq_some_iff.mp e).1
    obtain ⟨rfl, rfl⟩ := y
    have e2 : (rangeD n)[i]? = some (.int (i : Int)) := by
      unfold rangeD
      rw [List.getElem?_map, List.getElem?_range (by omega)] <;> rfl
    rw [e2] at e
    cases e
    rw [Int.zero_add]
    exact ⟨Same.refl _, .int _⟩
  · show n ≤ (rangeD n).length
    omega
section
variable {X : Cx} {g : Gx} {n : Nat} {ρ : List SV} {e a b c tg : Expr} {es elts : List Expr} {pos p p2 tpos : Pos} {kk : Nat} {Q : Nat → List D → Prop} {x : Str}
theorem hi_list (h : HE X g n ρ e fun n1 d => ∃ ds, d = .lst ds ∧ Q n1 ds) : HI X g n ρ tg e Q := ⟨_, pi_list peW, fun W σ H k R r => h W σ H k _ fun n1 d v H1 q e1 j1 dd => by
  obtain ⟨ds, rfl, q⟩ := q
  obtain ⟨c, xs, rfl, nc, hc, hx⟩ := dd.lst_inv
  exact ⟨c, rfl, ⟨xs, .inl (.inl hc)⟩, r n1 ds _ _ H1 q e1 j1 Feeds.list fun p hp => by
    have e : p = (.ref c, .lst ds) := by simpa using hp
    subst e
    exact dd⟩⟩
theorem hi_tup (h : HE X g n ρ e fun n1 d => ∃ ds, d = .tup ds ∧ Q n1 ds) : HI X g n ρ tg e Q := ⟨_, pi_tup peW, fun W σ H k R r => h W σ H k _ fun n1 d v H1 q e1 j1 dd => by
  obtain ⟨ds, rfl, q⟩ := q
  obtain ⟨c, xs, rfl, nc, hc, hx⟩ := dd.tup_inv
  exact ⟨c, rfl, ⟨xs, .inl (.inl hc)⟩, r n1 ds _ _ H1 q e1 j1 Feeds.tup fun p hp => by
    have e : p = (.ref c, .tup ds) := by simpa using hp
    subst e
    exact dd⟩⟩
theorem hi_str (h : HE X g n ρ e fun n1 d => ∃ z, d = .str z ∧ Q n1 (signsD z)) : HI X g n ρ tg e Q := ⟨_, pi_str peW, fun W σ H k R r => h W σ H k _ fun n1 d v H1 q e1 j1 dd => by
  obtain ⟨z, rfl, q⟩ := q
  exact ⟨z, dd.str_inv, r n1 _ _ [] H1 q e1 j1 Feeds.text fun p hp => by simp at hp⟩⟩
theorem hi_range (hm : X.mg "range" = none) (h : HE X g n ρ e fun n1 d => ∃ j : Int, d = .int j ∧ -(2 ^ 62) ≤ j ∧ j < 2 ^ 62 ∧ Q n1 (rangeD j.toNat)) (hg : Gl X "range" := by rfl) (hs : starEach [e] X.env = [(false, eval e X.env)] := by rfl)
    (hs2 : starEach [e] X.env = (false, eval e X.env) :: starEach [] X.env := by rfl) : HI X g n ρ tg (.Call (.Name "range" p) [e] [] pos) Q := ⟨_, pi_range1 hg hm (pa_cons peW pa_nil hs2) hs, fun W σ H k R r => h W σ H k _ fun n1 d v H1 q e1 j1 dd => by
  obtain ⟨j, rfl, q1, q2, q⟩ := q
  have ev := dd.int_inv
  subst ev
  exact ⟨j, rfl, q1, q2, r n1 _ _ [] H1 q e1 j1 Feeds.range fun p hp => by simp at hp⟩⟩
theorem hi_enum (hm : X.mg "enumerate" = none) (h : HE X g n ρ e fun n1 d => ∃ ds, d = .lst ds ∧ Q n1 (enumD 0 ds)) (hg : Gl X "enumerate" := by rfl) (hs : starEach [e] X.env = [(false, eval e X.env)] := by rfl)
    (hs2 : starEach [e] X.env = (false, eval e X.env) :: starEach [] X.env := by rfl) : HI X g n ρ (.Tuple elts kk tpos) (.Call (.Name "enumerate" p) [e] [] pos) Q := ⟨_, pi_enum hg hm (pa_cons peW pa_nil hs2) hs, fun W σ H k R r => h W σ H k _ fun n1 d v H1 q e1 j1 dd => by
  obtain ⟨ds, rfl, q⟩ := q
  obtain ⟨c, xs, rfl, nc, hc, hx⟩ := dd.lst_inv
  exact ⟨c, xs, rfl, .inl (.inl hc), r n1 _ _ _ H1 q e1 j1 Feeds.enum fun p hp => by
    have e : p = (.ref c, .lst ds) := by simpa using hp
    subst e
    exact dd⟩⟩
/-- zip of two tuples, or of two lists -/
theorem hi_zip (hm : X.mg "zip" = none) (h : HE X g n ρ a fun n1 x => HE X g n1 ρ b fun n2 y => ∃ ds es, ((x = .tup ds ∧ y = .tup es) ∨ (x = .lst ds ∧ y = .lst es)) ∧ Q n2 (zipD ds es)) (hg : Gl X "zip" := by rfl)
    (hs : starEach [a, b] X.env = (false, eval a X.env) :: starEach [b] X.env := by rfl) (hs2 : starEach [b] X.env = (false, eval b X.env) :: starEach [] X.env := by rfl) (hpl : (backTo pos (starEach [b] X.env)).any (·.1) = false := by rfl) :
    HI X g n ρ (.Tuple elts kk tpos) (.Call (.Name "zip" p) [a, b] [] pos) Q := ⟨_, RZ.pi_zipA hg hm (pa_cons peW (pa_cons peW pa_nil hs2) hs) hs hpl, fun W σ H k R r => h W σ H k _ fun n1 x v H1 q1 e1 j1 d1 => by
  have k1 := k.step e1 j1
  refine q1 W σ H1 k1 _ fun n2 y u H2 q2 e2 j2 d2 => ?_
  obtain ⟨ds, es, hd, q⟩ := q2
  have d1 := d1.ext (k1.extW e2)
  rcases hd with ⟨rfl, rfl⟩ | ⟨rfl, rfl⟩
  · obtain ⟨c, xs, rfl, nc, hc, hx⟩ := d1.tup_inv
    obtain ⟨c', ys, rfl, nc', hc', hy⟩ := d2.tup_inv
    exact ⟨c, c', xs, ys, rfl, .inr ⟨.inl (.inl hc), .inl (.inl hc'), r n2 _ _ _ H2 q (e1.trans e2) j2 Feeds.zipT fun p hp => by
      have e : p = (.ref c, .tup ds) ∨ p = (.ref c', .tup es) := by simpa using hp
      rcases e with rfl | rfl
      · exact d1
      · exact d2⟩⟩
  · obtain ⟨c, xs, rfl, nc, hc, hx⟩ := d1.lst_inv
    obtain ⟨c', ys, rfl, nc', hc', hy⟩ := d2.lst_inv
    exact ⟨c, c', xs, ys, rfl, .inl ⟨.inl (.inl hc), .inl (.inl hc'), r n2 _ _ _ H2 q (e1.trans e2) j2 Feeds.zipL fun p hp => by
      have e : p = (.ref c, .lst ds) ∨ p = (.ref c', .lst es) := by simpa using hp
      rcases e with rfl | rfl
      · exact d1
      · exact d2⟩⟩⟩
end
end Fk
set_option Elab.async false
set_option linter.all false
set_option maxRecDepth 100000
set_option maxHeartbeats 4000000
/-! K7: targets, list comprehensions. -/
namespace Fk
open PySem PySem.Spec PyProof.Rows L2
theorem get_set {α : Type} (l : List α) (i j : Nat) (x : α) : (l.set i x)[j]? = if i = j then (if i < l.length then some x else none) else l[j]? := by
  by_cases h : i = j
  · subst h
    rw [if_pos rfl]
    by_cases h2 : i < l.length
    · rw [if_pos h2, List.getElem?_set_self h2]
    · rw [if_neg h2]
      exact List.getElem?_eq_none_iff.mpr (by simp; omega)
  · rw [if_neg h, List.getElem?_set_ne h]
section
variable {K : PySem.W.Frag} {g : Gx} {W : List Addr} {n n' : Nat} {ρ : List SV} {σ : L2.St} {H H' : Hp}
theorem Ok.set {i : Nat} {v : V} {d : D} (k : Ok K g W n ρ σ H) (dd : DD K W H v d) : Ok K g W n (ρ.set i (.dat d)) (σ.set i (some v)) H := by
  refine ⟨k.j, k.gw, k.trk, by simp [k.len], fun j e h => ?_, fun j ds h => ?_⟩
  · rw [get_set] at h ⊢
    by_cases hij : i = j
    · rw [if_pos hij] at h ⊢
      by_cases hl : i < ρ.length
      · rw [if_pos hl] at h
        rw [if_pos (by rw [← k.len]; exact hl)]
        cases h
        exact ⟨v, rfl, dd⟩
      · rw [if_neg hl] at h
        cases h
    · rw [if_neg hij] at h ⊢
      exact k.dats j e h
  · rw [get_set] at h ⊢
    by_cases hij : i = j
    · rw [if_pos hij] at h
      by_cases hl : i < ρ.length
      · rw [if_pos hl] at h
        cases h
      · rw [if_neg hl] at h
        cases h
    · rw [if_neg hij] at h ⊢
      exact k.owns j ds h
/-- slots that are not looked at may be wiped -/
theorem Ok.wiped {vs : List Nat} (k : Ok K g W n ρ σ H) (hv : ∀ i ∈ vs, ∀ x, ρ[i]? = some x → x = SV.no) : Ok K g W n ρ (wipe σ vs) H := by
  refine ⟨k.j, k.gw, k.trk, by rw [wipe_length]; exact k.len, fun j e h => ?_, fun j ds h => ?_⟩
  · have nj : j ∉ vs := fun z => by cases hv j z _ h
    rw [wipe_out nj]
    exact k.dats j e h
  · have nj : j ∉ vs := fun z => by cases hv j z _ h
    rw [wipe_out nj]
    exact k.owns j ds h
/-- a new object that is one's own for a while -/
theorem Ok.grow {p : Addr} {H1 : Hp} (k : Ok K g W n ρ σ H) (hp : H p = none) (e : Ext g.G H H1) (j : g.J n' H1) (hp1 : ∃ o, H1 p = some o) : Ok K g (p :: W) n' ρ σ H1 := by
  have k1 := k.step e j
  have ext : Ext (p :: W) H H1 := e.mono fun a h => List.mem_cons_of_mem _ (k.gw.G a h)
  refine ⟨j, k.gw.cons k.j hp, fun a ha => ?_, k.len, fun i d h => ?_, fun i ds h => ?_⟩
  · rcases List.mem_cons.mp ha with rfl | ha
    · exact hp1
    · exact k1.trk a ha
  · obtain ⟨v, h1, h2⟩ := k.dats i d h
    exact ⟨v, h1, (h2.fresh hp).ext ext⟩
  · obtain ⟨a, xs, h1, h2, h3, h4, h5⟩ := k.owns i ds h
    exact ⟨a, xs, h1, List.mem_cons_of_mem _ h2, h3, e a _ (fun z => h3 (g.sub a z)) h4, (h5.fresh hp).ext ext⟩
theorem wipe_in {i : Nat} : ∀ {vs : List Nat}, i ∈ vs → (wipe σ vs)[i]? = if i < σ.length then some none else none
  | v :: vs, h => by
    show ((wipe σ vs).set v none)[i]? = _
    rw [get_set, wipe_length]
    by_cases hv : v = i
    · subst hv
      rw [if_pos rfl]
    · rw [if_neg hv]
      exact wipe_in ((List.mem_cons.mp h).resolve_left fun z => hv z.symm)
theorem wipe_eq {σ' : L2.St} {vs : List Nat} (hl : σ'.length = (wipe σ vs).length) (h : ∀ i, i ∉ vs → σ'[i]? = (wipe σ vs)[i]?) : wipe σ' vs = wipe σ vs := by
  refine List.ext_getElem? fun i => ?_
  by_cases hi : i ∈ vs
  · rw [wipe_in hi, wipe_in hi, hl, wipe_length]
  · rw [wipe_out hi, h i hi]
end
/-! ### targets -/
section
variable {X : Cx} {g : Gx} {ρ ρ' : List SV} {pos : Pos} {x : Str} {d : D} {tg : Expr} {es : List Expr} {vs us : List Nat}
theorem hg_name {i : Nat} (hN : X.N.Nodup) (hi : X.N[i]? = some x) (hx : Loc X.env.scope x := by first | exact Or.inl rfl | exact Or.inr rfl) (hf : X.fn x = true ∨ X.env.scope.names.lookup x = some .local := by first | exact .inl rfl | exact .inr rfl) : HG X g ρ [i] (.Name x pos) d (ρ.set i (.dat d)) := by
  refine ⟨fun j hj => ?_, fun j hj ds => ?_, fun n W σ H v k dd R r => (pg_name hN hi hx hf).wpr (r _ H (Same.refl H) (k.set dd) (fun j hj => ?_) (by simp))⟩
  · have nj : i ≠ j := fun z => hj (by simp [z])
    rw [List.getElem?_set_ne nj]
  · have e : j = i := by simpa using hj
    subst e
    rw [get_set, if_pos rfl]
    by_cases hl : j < ρ.length
    · rw [if_pos hl]
      exact fun z => by cases z
    · rw [if_neg hl]
      exact fun z => by cases z
  · have nj : i ≠ j := fun z => hj (by simp [z])
    rw [List.getElem?_set_ne nj]
/-- several targets -/
def WGs (X : Cx) (ts : List Expr) : TGs := fun vs σ H Q => ∀ pins s us, Inv X pins σ H s → Vals vs us → wpAny (model X.prog X.w) X.A (assignInOrder ((assignEach ts X.env).map (·.2)) us) (fun _ s' => ∃ σ' H', Inv X pins σ' H' s' ∧ Q σ' H') X.xe s
theorem pgsW {ts : List Expr} : PGs X ts (WGs X ts) := ⟨fun pins s _ _ _ us _ I r h => h pins s us I r⟩
structure HGs (X : Cx) (g : Gx) (ρ : List SV) (vs : List Nat) (ts : List Expr) (ds : List D) (ρ' : List SV) : Prop where
  fr : ∀ i, i ∉ vs → ρ'[i]? = ρ[i]?
  ow : ∀ i, i ∈ vs → ∀ ds, ρ'[i]? ≠ some (SV.own ds)
  run : ∀ (n : Nat) (W : List Addr) (σ : L2.St) (H : Hp) (xs : List V), Ok X.K g W n ρ σ H → DDs X.K W H xs ds → ∀ R : L2.St → Hp → Prop,
    (∀ σ' H', Same H H' → Ok X.K g W n ρ' σ' H' → (∀ (i : Nat), i ∉ vs → σ'[i]? = σ[i]?) → σ'.length = σ.length → R σ' H') → WGs X ts xs σ H R
theorem hgs_nil : HGs X g ρ [] [] [] ρ := ⟨fun _ _ => rfl, fun i h => by simp at h, fun n W σ H xs k dd R r => by
  cases dd
  exact fun pins s us I rv => pgs_nil.run pins s σ H [] us R I rv ⟨rfl, r σ H (Same.refl H) k (fun _ _ => rfl) rfl⟩⟩
theorem hgs_cons {t : Expr} {ts : List Expr} {ds : List D} {ρ1 : List SV} (h1 : HG X g ρ vs t d ρ1) (h2 : HGs X g ρ1 us ts ds ρ')
    (hs : (assignEach (t :: ts) X.env).map (·.2) = assign t X.env :: (assignEach ts X.env).map (·.2) := by rfl) : HGs X g ρ (vs ++ us) (t :: ts) (d :: ds) ρ' := by
  refine ⟨fun i hi => ?_, fun i hi ds' => ?_, fun n W σ H xs k dd R r => ?_⟩
  · rw [h2.fr i fun z => hi (List.mem_append_right _ z), h1.fr i fun z => hi (List.mem_append_left _ z)]
  · by_cases hu : i ∈ us
    · exact h2.ow i hu ds'
    · rw [h2.fr i hu]
      exact h1.ow i ((List.mem_append.mp hi).resolve_right hu) ds'
  · cases dd with
    | cons d1 d2 =>
      intro pins s vs' I rv
      refine (pgs_cons pgW pgsW hs).run pins s σ H _ vs' R I rv ⟨_, _, rfl, h1.run n W σ H _ k d1 _ fun σ1 H1 s1 k1 f1 l1 => ?_⟩
      refine h2.run n W σ1 H1 _ k1 (d2.same s1) _ fun σ2 H2 s2 k2 f2 l2 => ?_
      refine r σ2 H2 (s1.trans s2) k2 (fun i hi => ?_) (l2.trans l1)
      rw [f2 i fun z => hi (List.mem_append_right _ z), f1 i fun z => hi (List.mem_append_left _ z)]
theorem hg_tup {ds : List D} {kk m : Nat} (hc : X.calm = true) (h : HGs X g ρ vs es ds ρ') (hl : ds.length = m) (hn : (assignEach es X.env).length = m := by rfl) (hst : (assignEach es X.env).findIdx? (·.1) = none := by rfl) : HG X g ρ vs (.Tuple es kk pos) (.tup ds) ρ' := ⟨h.fr, h.ow, fun n W σ H v k dd R r => by
  obtain ⟨a, xs, rfl, na, ha, hx⟩ := dd.tup_inv
  refine (pg_tup (n := m) hc pgsW hn hst).wpr ⟨a, xs, rfl, .inl (.inl ha), by rw [hx.length]; exact hl, ?_⟩
  exact h.run n W σ H xs k hx R r⟩
/-- i, j = a pair -/
theorem hg_two {i j : Nat} {y : Str} {p q : Pos} {kk : Nat} {d1 d2 : D} (hc : X.calm = true) (hN : X.N.Nodup) (hi : X.N[i]? = some x) (hj : X.N[j]? = some y) (hij : i ≠ j)
    (hx : Loc X.env.scope x := by first | exact Or.inl rfl | exact Or.inr rfl) (hfx : X.fn x = true ∨ X.env.scope.names.lookup x = some .local := by first | exact .inl rfl | exact .inr rfl)
    (hy : Loc X.env.scope y := by first | exact Or.inl rfl | exact Or.inr rfl) (hfy : X.fn y = true ∨ X.env.scope.names.lookup y = some .local := by first | exact .inl rfl | exact .inr rfl)
    (hn : (assignEach [.Name x p, .Name y q] X.env).length = 2 := by rfl) (hst : (assignEach [.Name x p, .Name y q] X.env).findIdx? (·.1) = none := by rfl)
    (hs : (assignEach [.Name x p, .Name y q] X.env).map (·.2) = assign (.Name x p) X.env :: (assignEach [.Name y q] X.env).map (·.2) := by rfl) (hs2 : (assignEach [.Name y q] X.env).map (·.2) = assign (.Name y q) X.env :: (assignEach [] X.env).map (·.2) := by rfl) :
    HG X g ρ [i, j] (.Tuple [.Name x p, .Name y q] kk pos) (.tup [d1, d2]) ((ρ.set i (.dat d1)).set j (.dat d2)) := by
  exact hg_tup hc (vs := [i] ++ ([j] ++ [])) (hgs_cons (hg_name hN hi hx hfx) (hgs_cons (hg_name hN hj hy hfy) hgs_nil hs2) hs) rfl hn hst
end
/-! ### a clause's tests -/
def HTs (X : Cx) (g : Gx) (n : Nat) (ρ : List SV) (ifs : List Expr) (Q : Nat → Bool → Prop) : Prop := ∀ (W : List Addr) (σ : L2.St) (H : Hp), Ok X.K g W n ρ σ H → ∀ R : Bool → Hp → Prop,
  (∀ n' b H', Q n' b → Ext g.G H H' → g.J n' H' → R b H') → WTs X ifs σ H R
section
variable {X : Cx} {g : Gx} {n : Nat} {ρ : List SV} {e : Expr} {QB : Nat → Bool → Prop}
theorem hts_nil (q : QB n true) : HTs X g n ρ [] QB := fun W σ H k R r => pts_nil.wpr (r n true H q .refl k.j)
theorem hts_one (h : HT X g n ρ e QB) : HTs X g n ρ [e] QB := fun W σ H k R r => (pts_one ptW).wpr (h W σ H k R r)
end
/-! ### [elt for tg in iter if ..] -/
section
variable {X : Cx} {g : Gx} {n : Nat} {ρ : List SV} {elt tg iter : Expr} {ifs : List Expr} {scope : Scope} {own : List (Str × Nat)} {pos : Pos} {Q : Nat → List D → Prop}
abbrev Cx.bk (X : Cx) (scope : Scope) (s : Shared) (H : Hp) (C : Addr) (cl : List (Str × Addr)) (fp : List Addr) : Cx := X.blk s H scope (compEnvC scope cl C X.env) fp
/-- one turn of a comprehension's block -/
def Turns (X : Cx) (g : Gx) (ρ : List SV) (scope : Scope) (vs : List Nat) (tg : Expr) (ifs : List Expr) (elt : Expr) (d : D) (n : Nat) (Qy : Nat → D → Prop) (Qn : Nat → Prop) : Prop :=
  ∃ ρ1, (∀ s H C cl fp, HG (Cx.bk X scope s H C cl fp) g ρ vs tg d ρ1) ∧ ∃ QB : Nat → Bool → Prop, (∀ s H C cl fp, HTs (Cx.bk X scope s H C cl fp) g n ρ1 ifs QB) ∧
    (∀ n', QB n' true → ∀ s H C cl fp, HE (Cx.bk X scope s H C cl fp) g n' ρ1 elt Qy) ∧ ∀ n', QB n' false → Qn n'
theorem lc_reading {wi : TI} (hc : X.calm = true) (hw : ∀ i ∈ own.map (·.2), ∀ x, ρ[i]? = some x → x = SV.no)
    (h : ∀ (W : List Addr) (σ : L2.St) (H : Hp), Ok X.K g W n ρ σ H → ∀ R : It → Hp → Prop,
      (∀ n1 ds J τ H', (∃ I : Nat → Nat → List D → Prop, I 0 n1 [] ∧ (∀ i d m acc, ds[i]? = some d → I i m acc → acc.length < sizeLine ∧ Turns X g ρ scope (own.map (·.2)) tg ifs elt d m (fun m' y => I (i + 1) m' (acc ++ [y])) (fun m' => I (i + 1) m' acc)) ∧ ∀ m acc, I ds.length m acc → Q m acc) →
        Ext g.G H H' → g.J n1 H' → Feeds X.K J τ ds → (∀ p ∈ τ, DD X.K W H' p.1 p.2) → R J H') → wi σ H R)
    {W : List Addr} {σ : L2.St} {H : Hp} (k : Ok X.K g W n ρ σ H) {R : VK} (r : ∀ n' ds a xs H', Q n' ds → H a = none → Ext g.G H H' → g.J n' H' → H' a = some (.lst xs) → DDs X.K (a :: W) H' xs ds → R (.ref a) H') :
    tLc wi (fun v σ H Q => ∀ s H0 C cl fp, WG (Cx.bk X scope s H0 C cl fp) tg v σ H Q) (fun σ H Q => ∀ s H0 C cl fp, WTs (Cx.bk X scope s H0 C cl fp) ifs σ H Q) (fun σ H Q => ∀ s H0 C cl fp, WE (Cx.bk X scope s H0 C cl fp) elt σ H Q) (own.map (·.2)) σ H R := by
  refine h W σ H k _ fun n1 ds J τ H1 hI e1 j1 F hτ D hD => ?_
  obtain ⟨I, I0, turn, fin⟩ := hI
  have k1 := k.step e1 j1
  refine ⟨fun i m H' => i + m = ds.length ∧ ∃ n' acc xs, I i n' acc ∧ Ext g.G H1 H' ∧ g.J n' H' ∧ H' D = some (.lst xs) ∧ DDs X.K (D :: W) H' xs acc, ⟨ds.length, by omega, n1, [], [], I0, Ext.upd hD, g.same j1 (Same.upd hD), upd_same, .nil⟩, fun i m H' hW => ?_⟩
  obtain ⟨hm, n', acc, xs, hi, e2, j2, hD2, dacc⟩ := hW
  have kk := k1.grow hD e2 j2 ⟨_, hD2⟩
  have extD : Ext (D :: W) H1 H' := e2.mono fun a h => List.mem_cons_of_mem _ (k1.gw.G a h)
  have hτ2 : ∀ p ∈ τ, DD X.K (D :: W) H' p.1 p.2 := fun p hp => ((hτ p hp).fresh hD).ext extD
  have nDF : D ∉ g.F := fun z => by
    obtain ⟨o, q⟩ := g.trk n1 H1 j1 D z
    rw [hD] at q
    cases q
  have nDG : D ∉ g.G := fun z => nDF (g.sub D z)
  cases q : ds[i]? with
  | none =>
    have hl : ds.length ≤ i := List.getElem?_eq_none_iff.mp q
    have ei : i = ds.length := by omega
    subst ei
    refine .inl ⟨F.stop _ H' hτ2, ?_⟩
    exact r n' acc D xs H' (fin n' acc hi) (k.back e1 j1 hD) (e1.trans e2) j2 hD2 dacc
  | some d =>
    have hlt : i < ds.length := (List.getElem?_eq_some_iff.mp q).1
    refine .inr ⟨F.go _ H' hτ2 i d q, fun H'' => ∃ n' acc xs, I (i + 1) n' acc ∧ Ext g.G H1 H'' ∧ g.J n' H'' ∧ H'' D = some (.lst xs) ∧ DDs X.K (D :: W) H'' xs acc, fun H'' hn => ⟨m - 1, by omega, by omega, hn⟩, fun x H3 hy s0 H0 C cl fp => ?_⟩
    obtain ⟨s3, dx⟩ := F.yld _ H' hτ2 kk.trk i d q x H3 hy
    have k3 := kk.same s3
    obtain ⟨hz, ρ1, hg, QB, ht, hy1, hn1⟩ := turn i d n' acc q hi
    refine (hg s0 H0 C cl fp).run n' (D :: W) (wipe σ (own.map (·.2))) H3 x (k3.wiped hw) dx _ fun σ4 H4 s4 k4 f4 l4 => ?_
    refine ⟨wipe_eq l4 f4, fun s0' H0' C' cl' fp' => ?_⟩
    refine ht s0' H0' C' cl' fp' (D :: W) σ4 H4 k4 _ fun n5 b H5 qb e5 j5 => ?_
    have keepD : ∀ {Ha Hb : Hp}, Ext g.G Ha Hb → Ha D = some (.lst xs) → Hb D = some (.lst xs) := fun e hq => e D _ nDG hq
    have hD5 : H5 D = some (.lst xs) := keepD e5 (s4 _ _ (s3 _ _ hD2))
    have e25 : Ext g.G H1 H5 := ((e2.trans (.of_same s3)).trans (.of_same s4)).trans e5
    have dacc5 : DDs X.K (D :: W) H5 xs acc := ((dacc.same s3).same s4).ext (k4.extW e5)
    have k5 := k4.step e5 j5
    cases b with
    | false =>
      rw [if_neg Bool.false_ne_true]
      exact ⟨n5, acc, xs, hn1 n5 qb, e25, j5, hD5, dacc5⟩
    | true =>
      rw [if_pos rfl]
      intro s6 H06 C6 cl6 fp6
      refine hy1 n5 qb s6 H06 C6 cl6 fp6 (D :: W) σ4 H5 k5 _ fun n7 y v H7 q7 e7 j7 dy => ?_
      have hD7 := keepD e7 hD5
      have dacc7 := dacc5.ext (k5.extW e7)
      refine ⟨xs, hD7, by rw [dacc7.length]; exact hz, n7, acc ++ [y], xs ++ [v], q7, ?_, ?_, upd_same, ?_⟩
      · intro a o ha hq
        have na : a ≠ D := fun z => by
          subst z
          rw [hD] at hq
          cases hq
        rw [upd_ne na]
        exact (e25.trans e7) a o ha hq
      · exact g.stab n7 H7 _ j7 fun a ha => upd_ne fun z => nDF (z ▸ ha)
      · have ext : Ext (D :: W) H7 (upd H7 D (.lst (xs ++ [v]))) := fun a o ha hq => by
          rw [upd_ne fun z => ha (by rw [z]; exact List.mem_cons_self)]
          exact hq
        exact (dacc7.ext ext).append (.cons (dy.ext ext) .nil)
theorem hf_lc (hc : X.calm = true) (hN : X.N.Nodup) (ok : BlkOk X.N X.env.scope scope own) (hw : ∀ i ∈ own.map (·.2), ∀ x, ρ[i]? = some x → x = SV.no)
    (h : HI X g n ρ tg iter fun n1 ds => ∃ I : Nat → Nat → List D → Prop, I 0 n1 [] ∧ (∀ i d m acc, ds[i]? = some d → I i m acc → acc.length < sizeLine ∧ Turns X g ρ scope (own.map (·.2)) tg ifs elt d m (fun m' y => I (i + 1) m' (acc ++ [y])) (fun m' => I (i + 1) m' acc)) ∧ ∀ m acc, I ds.length m acc → Q m acc)
    (hs : ∀ x, foldedSetIterable iter X.env x = pure x := by intro _; rfl) : HF X g n ρ (.ListComp elt [⟨tg, iter, ifs, 0⟩] scope pos) Q := fun W σ H k R r => by
  obtain ⟨wi, pi, hi⟩ := h
  have p1 : ∀ (s : Shared) (H0 : Hp) (C : Addr) (cl : List (Str × Addr)) (fp : List Addr), PG (X.blk s H0 scope (compEnvC scope cl C X.env) fp) tg (fun v σ H Q => ∀ s H0 C cl fp, WG (Cx.bk X scope s H0 C cl fp) tg v σ H Q) := fun s H0 C cl fp => ⟨fun pins s1 _ _ _ u _ I r h => pgW.run pins s1 _ _ _ u _ I r (h s H0 C cl fp)⟩
  have p2 : ∀ (s : Shared) (H0 : Hp) (C : Addr) (cl : List (Str × Addr)) (fp : List Addr), PTs (X.blk s H0 scope (compEnvC scope cl C X.env) fp) ifs (fun σ H Q => ∀ s H0 C cl fp, WTs (Cx.bk X scope s H0 C cl fp) ifs σ H Q) := fun s H0 C cl fp => ⟨fun pins s1 _ _ _ I h => ptsW.run pins s1 _ _ _ I (h s H0 C cl fp)⟩
  have p3 : ∀ (s : Shared) (H0 : Hp) (C : Addr) (cl : List (Str × Addr)) (fp : List Addr), PE (X.blk s H0 scope (compEnvC scope cl C X.env) fp) elt (fun σ H Q => ∀ s H0 C cl fp, WE (Cx.bk X scope s H0 C cl fp) elt σ H Q) := fun s H0 C cl fp => ⟨fun pins s1 _ _ _ I h => peW.run pins s1 _ _ _ I (h s H0 C cl fp)⟩
  refine (pe_lc hc hN pi ok p1 p2 p3 hs).wpr ?_
  exact lc_reading hc hw hi k r
end
end Fk
set_option Elab.async false
set_option linter.all false
set_option maxRecDepth 100000
set_option maxHeartbeats 4000000
/-! K8: statements; a def's body. -/
namespace Fk
open PySem PySem.Spec PyProof.Rows L2
/-- the state within a def that was entered at H0, where W0 was not to be met -/
structure SI (K : PySem.W.Frag) (g : Gx) (H0 : Hp) (W0 : List Addr) (n : Nat) (ρ : List SV) (τ : List (V × D)) (σ : L2.St) (H : Hp) : Prop where
  ext : Ext g.G H0 H
  old : ∀ a, H a = none → H0 a = none
  tr0 : ∀ a ∈ W0, ∃ o, H0 a = some o
  ex : ∃ W, (∀ a ∈ W0, a ∈ W) ∧ (∀ a ∈ W, a ∈ W0 ∨ H0 a = none) ∧ Ok K g W n ρ σ H ∧ ∀ p ∈ τ, DD K W H p.1 p.2
  own0 : ∀ (i : Nat) (ds : List D) (a : Addr), ρ[i]? = some (.own ds) → σ[i]? = some (some (.ref a)) → H0 a = none
  sep : ∀ (i j : Nat) (ds es : List D) (a : Addr), i ≠ j → ρ[i]? = some (.own ds) → ρ[j]? = some (.own es) → σ[i]? = some (some (.ref a)) → σ[j]? ≠ some (some (.ref a))
/-- what a def gives back: a datum, or a new list of the caller's own -/
def RO (K : PySem.W.Frag) (W0 : List Addr) (H0 H' : Hp) (v : V) : SV → Prop
  | .dat d => DD K W0 H' v d
  | .own ds => ∃ a xs, v = .ref a ∧ H0 a = none ∧ H' a = some (.lst xs) ∧ DDs K (a :: W0) H' xs ds
  | .no => True
section
variable {K : PySem.W.Frag} {g : Gx} {H0 : Hp} {W0 W : List Addr} {n n' : Nat} {ρ : List SV} {τ : List (V × D)} {σ : L2.St} {H H' : Hp}
/-- behind an expression -/
theorem SI.step (S : SI K g H0 W0 n ρ τ σ H) (k : Ok K g W n ρ σ H) (e : Ext g.G H H') (j : g.J n' H') : SI K g H0 W0 n' ρ τ σ H' := by
  obtain ⟨W1, h1, h2, k1, h3⟩ := S.ex
  exact ⟨S.ext.trans e, fun a ha => S.old a (k.back e j ha), S.tr0, ⟨W1, h1, h2, k1.step e j, fun p hp => (h3 p hp).ext (k1.extW e)⟩, S.own0, S.sep⟩
theorem DD.toW0 {v : V} {d : D} (h1 : ∀ a ∈ W0, a ∈ W) (dd : DD K W H v d) : DD K W0 H v d := dd.mono h1 (fun _ _ _ z => z)
end
section
variable (X : Cx) (g : Gx) (n : Nat) (ρ : List SV)
def HS (st : Stmt) (nx : Nat → List SV → Prop) (rt : Nat → SV → Prop) : Prop := ∀ (H0 : Hp) (W0 : List Addr) (τ : List (V × D)) (σ : L2.St) (H : Hp), SI X.K g H0 W0 n ρ τ σ H → ∀ Dd : Ends,
  (∀ n' ρ' σ' H', nx n' ρ' → SI X.K g H0 W0 n' ρ' τ σ' H' → Dd.nx σ' H') → (∀ n' r v H', rt n' r → Ext g.G H0 H' → g.J n' H' → RO X.K W0 H0 H' v r → Dd.rt v H') → WS X st Dd σ H
def HSs (st : List Stmt) (nx : Nat → List SV → Prop) (rt : Nat → SV → Prop) : Prop := ∀ (H0 : Hp) (W0 : List Addr) (τ : List (V × D)) (σ : L2.St) (H : Hp), SI X.K g H0 W0 n ρ τ σ H → ∀ Dd : Ends,
  (∀ n' ρ' σ' H', nx n' ρ' → SI X.K g H0 W0 n' ρ' τ σ' H' → Dd.nx σ' H') → (∀ n' r v H', rt n' r → Ext g.G H0 H' → g.J n' H' → RO X.K W0 H0 H' v r → Dd.rt v H') → WSs X st Dd σ H
end
section
variable {X : Cx} {g : Gx} {n : Nat} {ρ : List SV} {st : Stmt} {sts body orelse : List Stmt} {e c tg iter : Expr} {pos pos' : Pos} {nx : Nat → List SV → Prop} {rt : Nat → SV → Prop} {x : Str} {i : Nat}
theorem hss_nil (h : nx n ρ) : HSs X g n ρ [] nx rt := fun H0 W0 τ σ H S Dd q1 q2 => pss_nil.wpr (q1 n ρ σ H h S)
theorem hss_cons (h : HS X g n ρ st (fun n' ρ' => HSs X g n' ρ' sts nx rt) rt) : HSs X g n ρ (st :: sts) nx rt := fun H0 W0 τ σ H S Dd q1 q2 => by
  refine (pss_cons psW pssW).wpr ?_
  exact h H0 W0 τ σ H S { Dd with nx := WSs X sts Dd } (fun n' ρ' σ' H' hn S' => hn H0 W0 τ σ' H' S' Dd q1 q2) q2
theorem hs_ret (h : HE X g n ρ e fun n' d => rt n' (.dat d)) : HS X g n ρ (.Return (some e) pos) nx rt := fun H0 W0 τ σ H S Dd q1 q2 => by
  obtain ⟨W, h1, h2, k, h3⟩ := S.ex
  refine (ps_ret peW).wpr (h W σ H k Dd.rt fun n' d v H' q e j dd => q2 n' (.dat d) v H' q (S.ext.trans e) j (DD.toW0 h1 dd))
theorem hs_retF (h : HF X g n ρ e fun n' ds => rt n' (.own ds)) : HS X g n ρ (.Return (some e) pos) nx rt := fun H0 W0 τ σ H S Dd q1 q2 => by
  obtain ⟨W, h1, h2, k, h3⟩ := S.ex
  refine (ps_ret peW).wpr (h W σ H k Dd.rt fun n' ds a xs H' q na e j ha dd => q2 n' (.own ds) _ H' q (S.ext.trans e) j ⟨a, xs, rfl, S.old a na, ha, dd.mono (fun b hb => ?_) (fun _ _ _ z => z)⟩)
  rcases List.mem_cons.mp hb with rfl | hb
  · exact List.mem_cons_self
  · exact List.mem_cons_of_mem _ (h1 b hb)
theorem hs_retO {p : Pos} {ds : List D} (hr : ρ[i]? = some (.own ds)) (hN : X.N[i]? = some x) (q : rt n (.own ds))
    (hv : Vis X.env.scope x := by first | exact Or.inl rfl | exact Or.inr (Or.inl rfl) | exact Or.inr (Or.inr rfl)) (hd : (x == ("__debug__" : Str)) = false := by decide) (hcd : (x == ("__classdict__" : Str)) = false := by decide) : HS X g n ρ (.Return (some (.Name x p)) pos) nx rt := fun H0 W0 τ σ H S Dd q1 q2 => by
  obtain ⟨W, h1, h2, k, h3⟩ := S.ex
  obtain ⟨a, xs, e1, e2, e3, e4, e5⟩ := k.owns i ds hr
  refine (ps_ret (pe_var hN hv hd hcd)).wpr ⟨.ref a, e1, q2 n (.own ds) _ H q S.ext k.j ⟨a, xs, rfl, S.own0 i ds a hr e1, e4, e5.mono (fun b hb => ?_) (fun _ _ _ z => z)⟩⟩
  rcases List.mem_cons.mp hb with rfl | hb
  · exact e2
  · exact h1 b hb
theorem hs_if (h : HT X g n ρ c fun n' b => (b = true → HSs X g n' ρ body nx rt) ∧ (b = false → HSs X g n' ρ orelse nx rt)) : HS X g n ρ (.If c body orelse pos) nx rt := fun H0 W0 τ σ H S Dd q1 q2 => by
  obtain ⟨W, h1, h2, k, h3⟩ := S.ex
  refine (ps_if ptW pssW pssW).wpr (h W σ H k _ fun n' b H' q e j => ?_)
  have S' := S.step k e j
  cases b with
  | true => exact q.1 rfl H0 W0 τ σ H' S' Dd q1 q2
  | false => exact q.2 rfl H0 W0 τ σ H' S' Dd q1 q2
/-- a slot is stored -/
theorem SI.set {K : PySem.W.Frag} {H0 H : Hp} {W0 W : List Addr} {τ : List (V × D)} {σ : L2.St} {v : V} {d : D} (S : SI K g H0 W0 n ρ τ σ H) (h1 : ∀ a ∈ W0, a ∈ W) (h2 : ∀ a ∈ W, a ∈ W0 ∨ H0 a = none) (k : Ok K g W n ρ σ H) (h3 : ∀ p ∈ τ, DD K W H p.1 p.2) (dd : DD K W H v d) :
    SI K g H0 W0 n (ρ.set i (.dat d)) τ (σ.set i (some v)) H := by
  have key : ∀ {j : Nat} {ds : List D}, (ρ.set i (.dat d))[j]? = some (.own ds) → i ≠ j ∧ ρ[j]? = some (.own ds) := fun {j ds} h => by
    rw [get_set] at h
    by_cases hij : i = j
    · rw [if_pos hij] at h
      by_cases hl : i < ρ.length
      · rw [if_pos hl] at h
        cases h
      · rw [if_neg hl] at h
        cases h
    · rw [if_neg hij] at h
      exact ⟨hij, h⟩
  refine ⟨S.ext, S.old, S.tr0, ⟨W, h1, h2, k.set dd, h3⟩, fun j ds a hj ha => ?_, fun j l ds es a hjl hj hl ha => ?_⟩
  · obtain ⟨n1, e1⟩ := key hj
    rw [List.getElem?_set_ne n1] at ha
    exact S.own0 j ds a e1 ha
  · obtain ⟨n1, e1⟩ := key hj
    obtain ⟨n2, e2⟩ := key hl
    rw [List.getElem?_set_ne n1] at ha
    rw [List.getElem?_set_ne n2]
    exact S.sep j l ds es a hjl e1 e2 ha
theorem hs_set (hN : X.N.Nodup) (hi : X.N[i]? = some x) (h : HE X g n ρ e fun n' d => nx n' (ρ.set i (.dat d))) (hx : Loc X.env.scope x := by first | exact Or.inl rfl | exact Or.inr rfl) (hs : swapsWith e (some (.Name x pos')) pos.line X.env = pure false := by rfl)
    (hf : X.fn x = true ∨ X.env.scope.names.lookup x = some .local := by first | exact .inl rfl | exact .inr rfl) : HS X g n ρ (.Assign [.Name x pos'] e pos) nx rt := fun H0 W0 τ σ H S Dd q1 q2 => by
  obtain ⟨W, h1, h2, k, h3⟩ := S.ex
  refine (ps_set hN hi hx peW hs hf).wpr (h W σ H k _ fun n' d v H' q e j dd => ?_)
  exact q1 n' _ _ H' q ((S.step k e j).set h1 h2 (k.step e j) (fun p hp => (h3 p hp).ext (k.extW e)) dd)
/-- a target takes a datum -/
theorem SI.hg {H0 H : Hp} {W0 W : List Addr} {τ : List (V × D)} {σ : L2.St} {v : V} {d : D} {vs : List Nat} {ρ' : List SV} (S : SI X.K g H0 W0 n ρ τ σ H) (hg : HG X g ρ vs tg d ρ') (h1 : ∀ a ∈ W0, a ∈ W) (h2 : ∀ a ∈ W, a ∈ W0 ∨ H0 a = none) (k : Ok X.K g W n ρ σ H) (h3 : ∀ p ∈ τ, DD X.K W H p.1 p.2) (dd : DD X.K W H v d)
    {R : L2.St → Hp → Prop} (r : ∀ σ2 H2, SI X.K g H0 W0 n ρ' τ σ2 H2 → R σ2 H2) : WG X tg v σ H R := by
  refine hg.run n W σ H v k dd _ fun σ2 H2 s2 k2 f2 l2 => r σ2 H2 ?_
  have ext2 : Ext g.G H H2 := .of_same s2
  refine ⟨S.ext.trans ext2, fun a ha => S.old a (k.back ext2 (k2.j) ha), S.tr0, ⟨W, h1, h2, k2, fun p hp => (h3 p hp).same s2⟩, fun i ds a hi ha => ?_, fun i l ds es a hil hi hl ha => ?_⟩
  · have nv : i ∉ vs := fun z => hg.ow i z ds hi
    rw [hg.fr i nv] at hi
    rw [f2 i nv] at ha
    exact S.own0 i ds a hi ha
  · have nv : i ∉ vs := fun z => hg.ow i z ds hi
    have nl : l ∉ vs := fun z => hg.ow l z es hl
    rw [hg.fr i nv] at hi
    rw [hg.fr l nl] at hl
    rw [f2 i nv] at ha
    rw [f2 l nl]
    exact S.sep i l ds es a hil hi hl ha
/-- a target of any form -/
theorem hs_asg (h : HE X g n ρ e fun n' d => ∃ vs ρ', HG X g ρ vs tg d ρ' ∧ nx n' ρ') (hs : swapsWithSole [tg] e pos.line X.env = pure false := by rfl) (hw : swappedStores [tg] e X.env = pure none := by rfl)
    (ha : (assignEach [tg] X.env).map (·.2) = [assign tg X.env] := by rfl) : HS X g n ρ (.Assign [tg] e pos) nx rt := fun H0 W0 τ σ H S Dd q1 q2 => by
  obtain ⟨W, h1, h2, k, h3⟩ := S.ex
  refine (ps_asg peW pgW hs hw ha).wpr (h W σ H k _ fun n' d v H' q e j dd => ?_)
  obtain ⟨vs, ρ', hg, q⟩ := q
  exact (S.step k e j).hg hg h1 h2 (k.step e j) (fun p hp => (h3 p hp).ext (k.extW e)) dd fun σ2 H2 S2 => q1 n' ρ' σ2 H2 q S2
theorem hs_expr (h : HE X g n ρ e fun n' _ => nx n' ρ) (hs : swapsWith e none pos.line X.env = pure false := by rfl) : HS X g n ρ (.Expr e pos) nx rt := fun H0 W0 τ σ H S Dd q1 q2 => by
  obtain ⟨W, h1, h2, k, h3⟩ := S.ex
  exact (ps_expr peW hs).wpr (h W σ H k _ fun n' d v H' q e j dd => q1 n' ρ σ H' q (S.step k e j))
/-- a name gets a new list of its own -/
theorem SI.setO' {K : PySem.W.Frag} {H0 H H' : Hp} {W0 W : List Addr} {τ : List (V × D)} {σ : L2.St} {a : Addr} {xs : List V} {ds : List D} {n' : Nat} (S : SI K g H0 W0 n ρ τ σ H) (h1 : ∀ a ∈ W0, a ∈ W) (h2 : ∀ a ∈ W, a ∈ W0 ∨ H0 a = none) (k : Ok K g W n ρ σ H) (h3 : ∀ p ∈ τ, DD K W H p.1 p.2)
    (na : H a = none) (e : Ext g.G H H') (j : g.J n' H') (ha : H' a = some (.lst xs)) (dd : DDs K (a :: W) H' xs ds) : SI K g H0 W0 n' (ρ.set i (.own ds)) τ (σ.set i (some (.ref a))) H' ∧ (∀ b ∈ W0, b ∈ a :: W) ∧ (∀ b ∈ a :: W, b ∈ W0 ∨ H0 b = none) ∧ Ok K g (a :: W) n' (ρ.set i (.own ds)) (σ.set i (some (.ref a))) H' ∧ ∀ p ∈ τ, DD K (a :: W) H' p.1 p.2 := by
  have kk := k.grow na e j ⟨_, ha⟩
  have na0 := S.old a na
  have aF : a ∉ g.F := fun z => by
    obtain ⟨o, q⟩ := g.trk n H k.j a z
    rw [na] at q
    cases q
  have ext : Ext (a :: W) H H' := e.mono fun b h => List.mem_cons_of_mem _ (k.gw.G b h)
  have hi : ∀ {es : List D}, (ρ.set i (.own ds))[i]? = some (.own es) → es = ds := fun {es} h => by
    rw [get_set, if_pos rfl] at h
    by_cases hl : i < ρ.length
    · rw [if_pos hl] at h
      cases h
      rfl
    · rw [if_neg hl] at h
      cases h
  have hsi : ∀ {b : Addr}, (σ.set i (some (.ref a)))[i]? = some (some (.ref b)) → b = a := fun {b} h => by
    rw [get_set, if_pos rfl] at h
    by_cases hl : i < σ.length
    · rw [if_pos hl] at h
      cases h
      rfl
    · rw [if_neg hl] at h
      cases h
  have hne : ∀ {l : Nat} {es : List D} {b : Addr}, i ≠ l → ρ[l]? = some (.own es) → σ[l]? = some (some (.ref b)) → b ≠ a := fun {l es b} hl hr hb z => by
    obtain ⟨c, xs, e1, _, _, e4, _⟩ := k.owns l es hr
    rw [e1] at hb
    cases hb
    subst z
    rw [na] at e4
    cases e4
  have A1 : ∀ b ∈ W0, b ∈ a :: W := fun b hb => List.mem_cons_of_mem _ (h1 b hb)
  have A2 : ∀ b ∈ a :: W, b ∈ W0 ∨ H0 b = none := fun b hb => by
    rcases List.mem_cons.mp hb with rfl | hb
    · exact .inr na0
    · exact h2 b hb
  have A4 : ∀ p ∈ τ, DD K (a :: W) H' p.1 p.2 := fun p hp => ((h3 p hp).fresh na).ext ext
  suffices A3 : Ok K g (a :: W) n' (ρ.set i (.own ds)) (σ.set i (some (.ref a))) H' by
    refine ⟨⟨S.ext.trans e, fun b hb => S.old b (k.back e j hb), S.tr0, ⟨a :: W, A1, A2, A3, A4⟩, fun l es b hl hb => ?_, fun l m es fs b hlm hl hm hb hb2 => ?_⟩, A1, A2, A3, A4⟩
    · by_cases hl2 : i = l
      · subst hl2
        rw [hsi hb]
        exact na0
      · rw [List.getElem?_set_ne hl2] at hl hb
        exact S.own0 l es b hl hb
    · by_cases hl2 : i = l
      · subst hl2
        have e1 := hsi hb
        rw [List.getElem?_set_ne hlm] at hm hb2
        exact hne hlm hm hb2 e1
      · rw [List.getElem?_set_ne hl2] at hl hb
        by_cases hm2 : i = m
        · subst hm2
          exact hne hl2 hl hb (hsi hb2)
        · rw [List.getElem?_set_ne hm2] at hm hb2
          exact S.sep l m es fs b hlm hl hm hb hb2
  refine ⟨j, kk.gw, kk.trk, by simp [k.len], fun l d h => ?_, fun l es h => ?_⟩
  · by_cases hl : i = l
    · subst hl
      rw [get_set, if_pos rfl] at h
      split at h <;> cases h
    · rw [List.getElem?_set_ne hl] at h ⊢
      exact kk.dats l d h
  · by_cases hl : i = l
    · subst hl
      have e1 := hi h
      subst e1
      refine ⟨a, xs, ?_, List.mem_cons_self, aF, ha, dd⟩
      rw [get_set, if_pos rfl] at h ⊢
      rw [if_pos ?_]
      rw [← k.len]
      by_cases hl : i < ρ.length
      · exact hl
      · rw [if_neg hl] at h
        cases h
    · rw [List.getElem?_set_ne hl] at h ⊢
      exact kk.owns l es h
theorem SI.setO {K : PySem.W.Frag} {H0 H H' : Hp} {W0 W : List Addr} {τ : List (V × D)} {σ : L2.St} {a : Addr} {xs : List V} {ds : List D} {n' : Nat} (S : SI K g H0 W0 n ρ τ σ H) (h1 : ∀ a ∈ W0, a ∈ W) (h2 : ∀ a ∈ W, a ∈ W0 ∨ H0 a = none) (k : Ok K g W n ρ σ H) (h3 : ∀ p ∈ τ, DD K W H p.1 p.2)
    (na : H a = none) (e : Ext g.G H H') (j : g.J n' H') (ha : H' a = some (.lst xs)) (dd : DDs K (a :: W) H' xs ds) : SI K g H0 W0 n' (ρ.set i (.own ds)) τ (σ.set i (some (.ref a))) H' := (S.setO' h1 h2 k h3 na e j ha dd).1
theorem hs_setF (hN : X.N.Nodup) (hi : X.N[i]? = some x) (h : HF X g n ρ e fun n' ds => nx n' (ρ.set i (.own ds))) (hx : Loc X.env.scope x := by first | exact Or.inl rfl | exact Or.inr rfl) (hs : swapsWith e (some (.Name x pos')) pos.line X.env = pure false := by rfl)
    (hf : X.fn x = true ∨ X.env.scope.names.lookup x = some .local := by first | exact .inl rfl | exact .inr rfl) : HS X g n ρ (.Assign [.Name x pos'] e pos) nx rt := fun H0 W0 τ σ H S Dd q1 q2 => by
  obtain ⟨W, h1, h2, k, h3⟩ := S.ex
  refine (ps_set hN hi hx peW hs hf).wpr (h W σ H k _ fun n' ds a xs H' q na e j ha dd => ?_)
  exact q1 n' _ _ H' q (S.setO h1 h2 k h3 na e j ha dd)
/-- a list of one's own changes -/
theorem SI.modO {K : PySem.W.Frag} {H0 H : Hp} {W0 W : List Addr} {τ : List (V × D)} {σ : L2.St} {a : Addr} {ys : List V} {ds ds' : List D} (S : SI K g H0 W0 n ρ τ σ H) (h1 : ∀ a ∈ W0, a ∈ W) (h2 : ∀ a ∈ W, a ∈ W0 ∨ H0 a = none) (k : Ok K g W n ρ σ H) (h3 : ∀ p ∈ τ, DD K W H p.1 p.2)
    (hr : ρ[i]? = some (.own ds)) (ha : σ[i]? = some (some (.ref a))) (dd : DDs K W H ys ds') : SI K g H0 W0 n (ρ.set i (.own ds')) τ σ (upd H a (.lst ys)) := by
  have na0 := S.own0 i ds a hr ha
  obtain ⟨a', xs, e1, aW, aF, e4, e5⟩ := k.owns i ds hr
  rw [ha] at e1
  cases e1
  have ext : Ext W H (upd H a (.lst ys)) := fun b o hb hq => by
    rw [upd_ne fun z => hb (by rw [z]; exact aW)]
    exact hq
  have hi : ∀ {l : Nat} {es : List D}, (ρ.set i (.own ds'))[l]? = some (.own es) → ∃ es', ρ[l]? = some (.own es') := fun {l es} h => by
    by_cases hl : i = l
    · subst hl
      exact ⟨_, hr⟩
    · rw [List.getElem?_set_ne hl] at h
      exact ⟨_, h⟩
  refine ⟨fun b o hb hq => ?_, fun b hb => S.old b ?_, S.tr0, ⟨W, h1, h2, ⟨g.stab n H _ k.j fun b hb => upd_ne fun z => aF (by rw [← z]; exact hb), k.gw, fun b hb => ?_, by simp [k.len], fun l d h => ?_, fun l es h => ?_⟩, fun p hp => (h3 p hp).ext ext⟩, fun l es b hl hb => ?_, fun l m es fs b hlm hl hm hb => ?_⟩
  · have nb : b ≠ a := fun z => by
      subst z
      rw [na0] at hq
      cases hq
    rw [upd_ne nb]
    exact S.ext b o hb hq
  · have nb : b ≠ a := fun z => by
      subst z
      rw [upd_same] at hb
      cases hb
    rw [upd_ne nb] at hb
    exact hb
  · by_cases hba : b = a
    · subst hba
      exact ⟨_, upd_same⟩
    · rw [upd_ne hba]
      exact k.trk b hb
  · have hl : i ≠ l := fun z => by
      subst z
      rw [get_set, if_pos rfl] at h
      split at h <;> cases h
    rw [List.getElem?_set_ne hl] at h
    obtain ⟨v, q1, q2⟩ := k.dats l d h
    exact ⟨v, q1, q2.ext ext⟩
  · by_cases hl : i = l
    · subst hl
      rw [get_set, if_pos rfl] at h
      split at h
      · cases h
        exact ⟨a, ys, ha, aW, aF, upd_same, dd.ext ext⟩
      · cases h
    · rw [List.getElem?_set_ne hl] at h
      obtain ⟨b, xs, q1, q2, q3, q4, q5⟩ := k.owns l es h
      have nb : b ≠ a := fun z => by
        subst z
        exact S.sep i l ds es b hl hr h ha q1
      exact ⟨b, xs, q1, q2, q3, by rw [upd_ne nb]; exact q4, q5.ext ext⟩
  · obtain ⟨es', h'⟩ := hi hl
    exact S.own0 l es' b h' hb
  · obtain ⟨es', hl'⟩ := hi hl
    obtain ⟨fs', hm'⟩ := hi hm
    exact S.sep l m es' fs' b hlm hl' hm' hb
/-- x.extend(a list) -/
theorem hs_extend {p apos cpos : Pos} {ds : List D} (hr : ρ[i]? = some (.own ds)) (hN : X.N[i]? = some x) (h : HE X g n ρ e fun n' d => ∃ es, d = .lst es ∧ ds.length + es.length ≤ sizeLine ∧ nx n' (ρ.set i (.own (ds ++ es))))
    (hv : Vis X.env.scope x := by first | exact Or.inl rfl | exact Or.inr (Or.inl rfl) | exact Or.inr (Or.inr rfl)) (hd : (x == ("__debug__" : Str)) = false := by decide) (hcd : (x == ("__classdict__" : Str)) = false := by decide)
    (hbase : attributeBase (.Name x p) "extend" X.env (eval (.Name x p) X.env) = eval (.Name x p) X.env := by rfl)
    (hfew : ((backTo cpos (starEach [e] X.env)).all (fun x => !x.1) && (backToKw cpos (keywordEach [] X.env)).all (fun x => x.1.isSome) && decide (([e] : List Expr).length + ([] : List Keyword).length + (if ([] : List Keyword).isEmpty then 0 else 1) < 30)) = true := by rfl)
    (hline : (apos.endLine == cpos.line) = true := by rfl) (hse : starEach [e] X.env = (false, eval e X.env) :: starEach [] X.env := by rfl) (hsw : swapsWith (.Call (.Attribute (.Name x p) "extend" apos) [e] [] cpos) none pos.line X.env = pure false := by rfl) :
    HS X g n ρ (.Expr (.Call (.Attribute (.Name x p) "extend" apos) [e] [] cpos) pos) nx rt := fun H0 W0 τ σ H S Dd q1 q2 => by
  obtain ⟨W, h1, h2, k, h3⟩ := S.ex
  obtain ⟨a, xs, e1, aW, aF, e4, e5⟩ := k.owns i ds hr
  refine (ps_expr (pe_bm PySem.F.plainAttrs_list PySem.F.slot_list_extend PySem.F.type_list_extend mt_extend (pe_var hN hv hd hcd) (pa_cons peW pa_nil hse) hbase hfew hline hse rfl) hsw).wpr ?_
  refine ⟨.ref a, e1, .inl ⟨rfl, xs, .inl (.inl e4)⟩, h W σ H k _ fun n' d v H' q e j dd => ?_⟩
  obtain ⟨es, rfl, hlen, q⟩ := q
  obtain ⟨b, zs, rfl, nb, hb, hz⟩ := dd.lst_inv
  have k' := k.step e j
  obtain ⟨a', xs', e1', _, _, e4', e5'⟩ := k'.owns i ds hr
  rw [e1] at e1'
  cases e1'
  refine ⟨a, b, xs', zs, rfl, rfl, e4', hb, by rw [e5'.length, hz.length]; exact hlen, ?_⟩
  exact q1 n' _ σ _ q ((S.step k e j).modO h1 h2 k' (fun p hp => (h3 p hp).ext (k.extW e)) hr e1 (e5'.append hz))
/-- y = x.pop() -/
theorem hs_pop {p apos cpos : Pos} {ds : List D} {d : D} {y : Str} {l : Nat} (hNd : X.N.Nodup) (hr : ρ[i]? = some (.own (ds ++ [d]))) (hN : X.N[i]? = some x) (hj : X.N[l]? = some y) (hij : i ≠ l) (q : nx n ((ρ.set l (.dat d)).set i (.own ds)))
    (hv : Vis X.env.scope x := by first | exact Or.inl rfl | exact Or.inr (Or.inl rfl) | exact Or.inr (Or.inr rfl)) (hd : (x == ("__debug__" : Str)) = false := by decide) (hcd : (x == ("__classdict__" : Str)) = false := by decide)
    (hy : Loc X.env.scope y := by first | exact Or.inl rfl | exact Or.inr rfl) (hf : X.fn y = true ∨ X.env.scope.names.lookup y = some .local := by first | exact .inl rfl | exact .inr rfl)
    (hbase : attributeBase (.Name x p) "pop" X.env (eval (.Name x p) X.env) = eval (.Name x p) X.env := by rfl)
    (hline : (apos.endLine == cpos.line) = true := by rfl) (hs : swapsWith (.Call (.Attribute (.Name x p) "pop" apos) [] [] cpos) (some (.Name y pos')) pos.line X.env = pure false := by rfl) :
    HS X g n ρ (.Assign [.Name y pos'] (.Call (.Attribute (.Name x p) "pop" apos) [] [] cpos) pos) nx rt := fun H0 W0 τ σ H S Dd q1 q2 => by
  obtain ⟨W, h1, h2, k, h3⟩ := S.ex
  obtain ⟨a, xs, e1, aW, aF, e4, e5⟩ := k.owns i _ hr
  have hlen := e5.length
  obtain ⟨v, hv1, hv2⟩ := e5.get (i := ds.length) (d := d) (by simp)
  refine (ps_set hNd hj hy (pe_bm0 PySem.F.plainAttrs_list PySem.F.slot_list_pop PySem.F.type_list_pop mt_pop (pe_var hN hv hd hcd) hbase hline) hs hf).wpr ?_
  refine ⟨.ref a, e1, .inl ⟨rfl, xs, .inl (.inl e4)⟩, a, xs, v, rfl, rfl, e4, ?_, ?_⟩
  · rw [hlen, List.length_append, List.length_singleton]
    exact hv1
  · have S2 := S.set (i := l) h1 h2 k h3 hv2
    refine q1 n _ _ _ q ?_
    refine S2.modO h1 h2 (k.set hv2) h3 (by rw [List.getElem?_set_ne hij.symm]; exact hr) (by rw [List.getElem?_set_ne hij.symm]; exact e1) ?_
    have z := e5.dropLast
    rw [List.dropLast_concat] at z
    exact z
theorem SI.push {K : PySem.W.Frag} {H0 H : Hp} {W0 W : List Addr} {τ τ' : List (V × D)} {σ : L2.St} (S : SI K g H0 W0 n ρ τ σ H) (h1 : ∀ a ∈ W0, a ∈ W) (h2 : ∀ a ∈ W, a ∈ W0 ∨ H0 a = none) (k : Ok K g W n ρ σ H) (h3 : ∀ p ∈ τ, DD K W H p.1 p.2) (h4 : ∀ p ∈ τ', DD K W H p.1 p.2) : SI K g H0 W0 n ρ (τ' ++ τ) σ H :=
  ⟨S.ext, S.old, S.tr0, ⟨W, h1, h2, k, fun p hp => (List.mem_append.mp hp).elim (h4 p) (h3 p)⟩, S.own0, S.sep⟩
theorem SI.popT {K : PySem.W.Frag} {H0 H : Hp} {W0 : List Addr} {τ τ' : List (V × D)} {σ : L2.St} (S : SI K g H0 W0 n ρ (τ' ++ τ) σ H) : SI K g H0 W0 n ρ τ σ H := by
  obtain ⟨W, h1, h2, k, h3⟩ := S.ex
  exact ⟨S.ext, S.old, S.tr0, ⟨W, h1, h2, k, fun p hp => h3 p (List.mem_append_right _ hp)⟩, S.own0, S.sep⟩
theorem hs_for (hc : X.calm = true) (hp : PassesOwn (model X.prog X.w) X.A X.env X.xe)
    (h : HI X g n ρ tg iter fun n1 ds => ∃ I : Nat → Nat → List SV → Prop, I 0 n1 ρ ∧ (∀ i d m ρ1, ds[i]? = some d → I i m ρ1 → ∃ vs ρ2, HG X g ρ1 vs tg d ρ2 ∧ HSs X g m ρ2 body (fun m' ρ' => I (i + 1) m' ρ') rt) ∧ ∀ m ρ1, I ds.length m ρ1 → nx m ρ1)
    (hs : ∀ x, foldedSetIterable iter X.env x = pure x := by intro _; rfl) : HS X g n ρ (.For tg iter body [] pos) nx rt := fun H0 W0 τ σ H S Dd q1 q2 => by
  obtain ⟨wi, pi, hi⟩ := h
  obtain ⟨W, h1, h2, k, h3⟩ := S.ex
  refine (ps_for hp hc pi pgW pssW hs).wpr (hi W σ H k _ fun n1 ds J τf H1 hI e1 j1 F hτ => ?_)
  obtain ⟨I, I0, turn, fin⟩ := hI
  have S1 := (S.step k e1 j1).push h1 h2 (k.step e1 j1) (fun p hp => (h3 p hp).ext (k.extW e1)) hτ
  refine ⟨fun i m σ' H' => i + m = ds.length ∧ ∃ n' ρ', I i n' ρ' ∧ SI X.K g H0 W0 n' ρ' (τf ++ τ) σ' H', ⟨ds.length, by omega, n1, ρ, I0, S1⟩, fun i m σ' H' hW => ?_⟩
  obtain ⟨hm, n', ρ', hi', S'⟩ := hW
  obtain ⟨W', h1', h2', k', h3'⟩ := S'.ex
  have hτ' : ∀ p ∈ τf, DD X.K W' H' p.1 p.2 := fun p hp => h3' p (List.mem_append_left _ hp)
  cases q : ds[i]? with
  | none =>
    have hl : ds.length ≤ i := List.getElem?_eq_none_iff.mp q
    have ei : i = ds.length := by omega
    subst ei
    exact .inl ⟨F.stop _ H' hτ', q1 n' ρ' σ' H' (fin n' ρ' hi') S'.popT⟩
  | some d =>
    have hlt : i < ds.length := (List.getElem?_eq_some_iff.mp q).1
    refine .inr ⟨F.go _ H' hτ' i d q, fun σ'' H'' => ∃ n' ρ', I (i + 1) n' ρ' ∧ SI X.K g H0 W0 n' ρ' (τf ++ τ) σ'' H'', fun σ'' H'' hn => ⟨m - 1, by omega, by omega, hn⟩, fun x H3 hy => ?_⟩
    obtain ⟨s3, dx⟩ := F.yld _ H' hτ' k'.trk i d q x H3 hy
    obtain ⟨vs, ρ2, hg, hb⟩ := turn i d n' ρ' q hi'
    refine (S'.step k' (.of_same s3) (g.same k'.j s3)).hg hg h1' h2' (k'.same s3) (fun p hp => (h3' p hp).same s3) dx fun σ2 H2 S2 => ?_
    exact hb H0 W0 (τf ++ τ) σ2 H2 S2 _ (fun n3 ρ3 σ3 H3 i3 S3 => ⟨n3, ρ3, i3, S3⟩) q2
theorem hs_while (hp : PassesOwn (model X.prog X.w) X.A X.env X.xe) (I : Nat → Nat → List SV → Prop) {m0 : Nat} (h0 : I m0 n ρ)
    (h : ∀ m n ρ, I m n ρ → HT X g n ρ c fun n' b => (b = true → HSs X g n' ρ body (fun n'' ρ'' => ∃ m', m' < m ∧ I m' n'' ρ'') rt) ∧ (b = false → nx n' ρ)) : HS X g n ρ (.While c body [] pos) nx rt := fun H0 W0 τ σ H S Dd q1 q2 => by
  refine (ps_while hp ptW pssW).wpr ⟨fun m σ' H' => ∃ n' ρ', I m n' ρ' ∧ SI X.K g H0 W0 n' ρ' τ σ' H', ⟨m0, n, ρ, h0, S⟩, fun m σ' H' hW => ?_⟩
  obtain ⟨n', ρ', hi, S'⟩ := hW
  obtain ⟨W', h1', h2', k', h3'⟩ := S'.ex
  refine h m n' ρ' hi W' σ' H' k' _ fun n2 b H2 q e j => ?_
  have S2 := S'.step k' e j
  cases b with
  | false => exact q1 n2 ρ' σ' H2 (q.2 rfl) S2
  | true =>
    refine ⟨fun σ'' H'' => ∃ m' n'' ρ'', m' < m ∧ I m' n'' ρ'' ∧ SI X.K g H0 W0 n'' ρ'' τ σ'' H'', fun σ'' H'' hn => ?_, ?_⟩
    · obtain ⟨m', n'', ρ'', hm, hi, S⟩ := hn
      exact ⟨m', hm, n'', ρ'', hi, S⟩
    · exact q.1 rfl H0 W0 τ σ' H2 S2 _ (fun n3 ρ3 σ3 H3 ⟨m', hm, hi⟩ S3 => ⟨m', n3, ρ3, hm, hi, S3⟩) q2
end
end Fk
set_option Elab.async false
set_option linter.all false
set_option maxRecDepth 100000
set_option maxHeartbeats 4000000
/-! K9: a, *rest = a tuple; dict | dict; displays. -/
namespace Fk
open PySem PySem.Spec PyProof.Rows L2
/-! ### a starred target behind the others -/
theorem unpack_star {prog : Program} {w : World} {A : Around} {E : Value → Shared → Prop} {s : Shared} {l : Addr} {items : Array Value} {i : Nat} {Q : List Value → Shared → Prop} (hl : IsTup s.heap l items) (hh : A.handled = none) (hi : i ≤ items.size) (hz : items.size ≤ 16384)
    (h : ∀ (h' : Heap) (tk : Nat), (∀ b o, s.heap.get? b = some o → h'.get? b = some o) → Q (items.toList.take i ++ [.ref h'.objs.size]) { s with heap := h'.push { cls := .type "list", data := .seq (items.toList.drop i).toArray }, toks := tk }) : wpAny (model prog w) A (unpackItems (.ref l) (i + 1) (some i)) Q E s := by
  have hlt : l ≠ s.heap.objs.size := by obtain ⟨o, ho, _⟩ := hl; exact Nat.ne_of_lt (Heap.lt_size ho)
  unfold unpackItems
  refine wpAny_bind ?_
  unfold notIterableAtAll
  refine wpAny_bind (wpAny_specialOf hl.typeIs slot_tuple_iter.lookup ?_)
  refine wpAny_pure ?_
  simp only [Bool.false_eq_true, if_false]
  refine wpAny_bind (wpAny_holding (iter_tuple hl ?_))
  refine wpAny_bind (wpAny_holding (draw_tuple hlt i 0 _ _ ⟨_, Heap.get?_push_size _ rfl, rfl, rfl⟩ (hl.push _) (by omega) fun h₁ hit₁ hs₁ => ?_))
  have hl₁ : IsTup h₁ l items := (hl.push _).extBut hs₁.extBut hlt
  rw [Nat.zero_add] at hit₁
  obtain ⟨oi, hoi, _⟩ := id hit₁
  obtain ⟨ol, hol, _⟩ := id hl₁
  rw [List.drop_zero]
  have hfl : (items.toList.take i).length = i := by rw [List.length_take, Array.length_toList]; omega
  rw [if_neg (show ¬ ((items.toList.take i).length < i) by rw [hfl]; omega)]
  refine wpAny_bind (wpAny_holding (PySem.W.kun_collect (s := { s with heap := h₁ }) (T := "tuple_iterator") (.inr (.inr (.inr rfl))) (Walks.tuple (A := A.in1) hh s.heap.objs.size l hlt items) (fun j u st => st.1.typeIs) (k := i) (by omega) ⟨hit₁, hl₁⟩ (Heap.lt_size hoi) (Heap.lt_size hol) (fun h₂ tk hk => ?_) (by rw [sizeLine_eq]; omega)))
  have hrl : (items.toList.drop i).length = items.size - i := by rw [List.length_drop, Array.length_toList]
  have e0 : i + 1 - 1 - i = 0 := by omega
  show wpAny _ _ (if (items.toList.drop i).length < i + 1 - 1 - i then _ else _) _ _ _
  rw [if_neg (by rw [e0]; omega)]
  show wpAny _ _ (newList ((items.toList.drop i).take ((items.toList.drop i).length - (i + 1 - 1 - i))) >>= fun d => pure (items.toList.take i ++ [d] ++ (items.toList.drop i).drop ((items.toList.drop i).length - (i + 1 - 1 - i)))) _ _ _
  rw [e0, Nat.sub_zero, List.take_length, List.drop_length]
  refine wpAny_bind (wpAny_newObj_type ?_ ?_)
  · refine wpAny_pure ?_
    rw [List.append_nil]
    refine h h₂ tk fun b o e => ?_
    have hb : b ≠ s.heap.objs.size := Nat.ne_of_lt (Heap.lt_size e)
    exact hk b o hb (hs₁.extBut b o hb (Heap.get?_push_of_some _ e))
  · show (items.toList.drop i).toArray.size ≤ _
    rw [List.size_toArray, hrl, sizeLine_eq]
    omega
theorem DDs.snoc {K : PySem.W.Frag} {W : List Addr} {H : Hp} {vs : List V} {ds : List D} {v : V} {d : D} (h : DDs K W H vs ds) (k : DD K W H v d) : DDs K W H (vs ++ [v]) (ds ++ [d]) := h.append (.cons k .nil)
theorem hg_star {X : Cx} {g : Gx} {ρ ρ' : List SV} {vs : List Nat} {es es' : List Expr} {ds : List D} {kk i : Nat} {pos : Pos} (hc : X.calm = true) (h : HGs X g ρ vs es' (ds.take i ++ [.lst (ds.drop i)]) ρ') (hi : i ≤ ds.length) (hz : ds.length ≤ 16384)
    (hm : (assignEach es X.env).map (·.2) = (assignEach es' X.env).map (·.2) := by rfl) (hn : (assignEach es X.env).length = i + 1 := by rfl) (hst : (assignEach es X.env).findIdx? (·.1) = some i := by rfl) : HG X g ρ vs (.Tuple es kk pos) (.tup ds) ρ' := by
  refine ⟨h.fr, h.ow, fun n W σ H v k dd R r => ?_⟩
  obtain ⟨a, xs, rfl, na, ha, hx⟩ := dd.tup_inv
  unfold WG
  intro pins s u I ru
  cases ru
  obtain ⟨its, rv, ht, hz2⟩ := I.tuple (.inl (.inl ha))
  have hlen : its.length = ds.length := by rw [← rv.length, hx.length]
  rw [assign_Tuple]
  refine wpAny_bind (wpAny_standAt ?_)
  unfold unpack
  rw [hn, hst]
  refine wpAny_bind (wpAny_holding (unpack_star ht (I.ok.hd hc) (by simp; omega) (by simp; omega) fun h' tk hk => ?_))
  have I1 : Inv X pins σ H { s with heap := h', toks := tk } := I.kept hk
  have rd : Vals (xs.drop i) (its.drop i) := rv.drop i
  have rt : Vals (xs.take i) (its.take i) := rv.take i
  have I2 := I1.lnew (t' := tk) (its := its.drop i) (ys := xs.drop i) rd (by rw [List.length_drop]; omega)
  have hp : H h'.objs.size = none := I1.fresh
  rw [hm]
  have s2 : Same H (upd H h'.objs.size (.lst (xs.drop i))) := Same.upd hp
  have k2 := k.same s2
  have dts : DDs X.K W (upd H h'.objs.size (.lst (xs.drop i))) (xs.take i ++ [.ref h'.objs.size]) (ds.take i ++ [.lst (ds.drop i)]) :=
    ((hx.take i).same s2).snoc (.lst (k.fresh (o := .lst xs) hp) upd_same ((hx.drop i).same s2))
  refine h.run n W σ _ (xs.take i ++ [.ref h'.objs.size]) k2 dts R (fun σ' H' s' k' f' l' => r σ' H' (s2.trans s') k' f' l') pins _ _ I2 ?_
  have e1 : (its.toArray.toList.take i ++ [Value.ref h'.objs.size]) = its.take i ++ [Value.ref h'.objs.size] := rfl
  rw [e1]
  exact rt.append (.cons rfl .nil)
/-! ### dict | dict, both with keys by value -/
theorem meets_dict_or {prog : Program} {w : World} {K : Type} [DecidableEq K] (knd : PySem.KeyKind prog w K) (a b : Addr) (ha : (a == sysModules) = false) (hb : (b == sysModules) = false) :
    MeetsIn prog w (Builtin.«dict.__or__» ⟨[.ref a, .ref b], []⟩) (fun _ R s => ∃ kvs more, s.heap.DictOf knd a kvs ∧ s.heap.DictOf knd b more ∧ kvs.length + more.length ≤ sizeLine ∧
      ∀ h', h'.DictOf knd s.heap.objs.size (merged kvs more) → (∀ b o, s.heap.get? b = some o → h'.get? b = some o) → R (.ok (.ret (.ref s.heap.objs.size))) { s with heap := h' }) :=
  .of_wp fun A R s ⟨kvs, more, hm, hm2, hsz, h⟩ => by
    obtain ⟨o, es, ep, ho, hc, hdat, hk, hp, hn⟩ := id hm
    have hes : es.size ≤ sizeLine + 1 := by
      have e1 := hp.length
      have e2 : es.toList.length = es.size := by simp
      omega
    unfold Builtin.«dict.__or__»
    refine wpAny_bind ?_
    unfold Builtin.Dict.dictSlotArgs
    refine wpAny_bind (wpAny_notOrdered_dict hm.typeIs ?_)
    show wpAny _ _ (pure (Value.ref a, Value.ref b)) _ _ s
    refine wpAny_pure ?_
    show wpAny _ _ ((isInstance (.ref a) (.type "dict") <&&> isInstance (.ref b) (.type "dict")) >>= fun c => if (!c) = true then (rule "dict.__or__.not-a-dict" >>= fun _ => ret .notImplemented >>= fun r => pure r) else
      (Builtin.Dict.copyOf "dict.__or__" (.ref a) >>= fun new => Builtin.Dict.addrOf new >>= fun d => holding [new] (Builtin.Dict.updateFrom "dict.__or__" d (.ref b) [] new))) _ _ s
    refine wpAny_bind ?_
    unfold andM
    refine wpAny_bind (wpAny_isInstance hm.typeIs isSubtype_dict_dict ?_)
    show wpAny _ _ (isInstance (.ref b) (.type "dict")) _ _ s
    refine wpAny_isInstance hm2.typeIs isSubtype_dict_dict ?_
    rw [if_neg (by decide)]
    have fin : ∀ es' : Array DictEntry, es' = es → wpAny (model prog w) A.in1 (Builtin.Dict.addrOf (.ref s.heap.objs.size) >>= fun d => holding [.ref s.heap.objs.size] (Builtin.Dict.updateFrom "dict.__or__" d (.ref b) [] (.ref s.heap.objs.size)))
        (fun fin s' => ∃ v, fin = .done (.ret v) ∧ R (.ok (.ret v)) s') (fun e s' => R (.error e) s') { s with heap := s.heap.push { cls := .type "dict", data := .dict es' } } := by
      rintro es' rfl
      refine wpAny_bind (wpAny_pure ?_)
      refine wpAny_holding ?_
      unfold Builtin.Dict.updateFrom
      have hm2' := hm2.push { cls := .type "dict", data := .dict es' }
      refine wpAny_bind (wpAny_typeOf hm2'.typeIs ?_)
      rw [if_neg (by decide)]
      refine wpAny_bind ?_
      unfold Builtin.Dict.merge
      refine wpAny_bind ?_
      unfold Builtin.Dict.readDirectly
      refine wpAny_bind (wpAny_isInstance hm2'.typeIs isSubtype_dict_dict ?_)
      simp only [Bool.not_true, Bool.false_eq_true, if_false]
      refine wpAny_bind (wpAny_specialOf hm2'.typeIs F.slot_dict_iter.lookup (wpAny_pure ?_))
      simp only [beq_self_eq_true, if_true]
      refine wpAny_bind (wpAny_pure ?_)
      have hn2 : s.heap.objs.size ≠ b := by
        obtain ⟨ob, _, _, hb, _⟩ := hm2
        exact Ne.symm (Nat.ne_of_lt (Heap.lt_size hb))
      refine wpAny_mergeDict (hsz := hsz) hn2 hb ⟨_, es', 0, Heap.get?_push_size _ rfl, ⟨rfl, rfl, rfl⟩, rfl, hk, hp, hn⟩ hm2' fun h' hd' ho' hs' => ?_
      show wpAny _ _ (Builtin.Dict.addKeywords s.heap.objs.size [] >>= _) _ _ _
      refine wpAny_bind (wpAny_pure (wpAny_pure ⟨_, rfl, h h' hd' fun c o e => ?_⟩))
      exact (hs'.2 c (Nat.ne_of_lt (Heap.lt_size e))).trans (Heap.get?_push_of_some _ e)
    refine wpAny_bind ?_
    unfold Builtin.Dict.copyOf
    refine wpAny_bind (wpAny_pure ?_)
    unfold Builtin.Dict.showsAll
    rw [if_neg (by rw [ha]; exact Bool.false_ne_true)]
    refine wpAny_bind (wpAny_pure ?_)
    refine wpAny_bind (wpAny_dictEntries ho hdat ?_)
    by_cases hemp : es.isEmpty = true
    · rw [if_pos hemp]
      refine wpAny_bind (wpAny_rule (wpAny_newObj_type ?_))
      exact fin #[] (Array.isEmpty_iff.mp hemp).symm
    · rw [if_neg hemp]
      refine wpAny_bind ?_
      unfold Builtin.Dict.readDirectly
      refine wpAny_bind (wpAny_isInstance hm.typeIs isSubtype_dict_dict ?_)
      simp only [Bool.not_true, Bool.false_eq_true, if_false]
      refine wpAny_bind (wpAny_specialOf hm.typeIs F.slot_dict_iter.lookup (wpAny_pure ?_))
      simp only [beq_self_eq_true, if_true]
      refine wpAny_bind (wpAny_entriesForEmpty (knd := knd) ho hdat hk (wpAny_newObj_type ?_ hes))
      exact fin es rfl
theorem binaryOp_meetsIn {prog : Program} {w : World} {A : Around} {E : Value → Shared → Prop} {s : Shared} {T id : String} {op : Operator} {B : Builtin} {a b : Value} {S : PySem.Spec} {Q : Value → Shared → Prop} (ha : s.TypeIs a T) (hb : s.TypeIs b T)
    (fills : fillsNumberSlot (.type T) op.info.2 = pure true) (slot : Slot T (dunder op.info.2) id) (entry : entryFor table id = some B) (args : argsOk id ⟨[a, b], []⟩)
    (g : MeetsIn prog w (B ⟨[a, b], []⟩) S) (h : S A (wants (fun v s' => v ≠ .notImplemented ∧ Q v s') E) s) : wpAny (model prog w) A (binaryOp op a b) Q E s :=
  wpAny_binaryOp_same ha hb fills slot (call_meetsIn slot ha entry args g h)
def rOrD : R2 := fun x y H Q => ∃ a b kvs more, x = .ref a ∧ y = .ref b ∧ H a = some (.dK kvs) ∧ H b = some (.dK more) ∧ kvs.length + more.length ≤ sizeLine ∧ ∀ p, H p = none → Q (.ref p) (upd H p (.dK (mergeK kvs more)))
theorem op_orD {X : Cx} : OpR X (binaryOp .BitOr) rOrD := by
  intro pins s σ H x y v u Q I rx ry h
  obtain ⟨a, b, kvs, more, rfl, rfl, ha, hb, hz, q⟩ := h
  cases rx
  cases ry
  obtain ⟨z1, d1, vs, r1, m1⟩ := dk_of I.hok ha
  obtain ⟨z2, d2, us, r2, m2⟩ := dk_of I.hok hb
  refine binaryOp_meetsIn m1.typeIs m2.typeIs F.fills_dict_or F.slot_dict_or F.entry_dict_or (F.args_dict_or_2 _ _) (meets_dict_or (mixKind X.prog X.w) a b d1 d2) ⟨vs, us, m1, m2, by rw [← r1.length, ← r2.length]; exact hz, fun h' hd hk => ?_⟩
  show (Value.ref s.heap.objs.size ≠ .notImplemented) ∧ EP X pins σ Q _ _
  refine ⟨(fun z => by cases z), .ref s.heap.objs.size, _, I.laid (t' := s.toks) hk (Nat.le_refl _) (dk_new ?_ ?_ (r2.merge r1) hd), rfl, q _ I.fresh⟩
  · have := length_mergeK more kvs
    omega
  · exact beq_eq_false_iff_ne.mpr (Ne.symm (Nat.ne_of_lt I.big))
end Fk
set_option Elab.async false
set_option linter.all false
set_option maxRecDepth 100000
set_option maxHeartbeats 4000000
/-! KSet: set(x), x a list or a tuple of texts, however many; len of it. -/
namespace Fk
open PySem PySem.Spec PyProof.Rows L2 SS
/-- what was met first, in order -/
def met (xs : List Str) : List Str := xs.foldl step_dedup []
theorem step_anyS (σ : List Str) (v k : Str) : (step_dedup σ v).any (· == k) = (σ.any (· == k) || decide (k = v)) := by
  unfold step_dedup
  by_cases h : σ.any (· == v) = true
  · rw [if_pos h]
    by_cases e : k = v
    · rw [e, h]; simp
    · simp [e]
  · rw [if_neg h, List.any_append]
    by_cases e : k = v
    · rw [e]; simp
    · have hb : (v == k) = false := by simpa [beq_iff_eq] using (fun z : v = k => e z.symm)
      simp [hb, e]
theorem step_lenS (σ : List Str) (v : Str) : (step_dedup σ v).length = if σ.any (· == v) then σ.length else σ.length + 1 := by
  unfold step_dedup; split <;> simp
theorem met_le : ∀ (xs σ : List Str), (xs.foldl step_dedup σ).length ≤ σ.length + xs.length
  | [], σ => by simp
  | x :: xs, σ => by
    have h1 := met_le xs (step_dedup σ x)
    have h2 := step_lenS σ x
    have h3 : (step_dedup σ x).length ≤ σ.length + 1 := by rw [h2]; split <;> omega
    simp only [List.foldl_cons, List.length_cons]
    omega
theorem met_take {xs : List Str} {i : Nat} (hi : i < xs.length) : met (xs.take (i + 1)) = step_dedup (met (xs.take i)) (xs.getD i Str.empty) := by
  unfold met
  rw [List.take_add_one, List.foldl_append, List.getElem?_eq_getElem hi]
  simp [hi]
section
variable {prog : Program} {w : World} {A : Around} {R : Result → Shared → Prop} {I : Addr} {fp wr : List Addr} {G : Array GenState → Array GenState → Prop} {n : Nat} {P : Nat → Value → Prop} {St : Nat → Shared → Prop}
theorem loopTexts (W : WalksS prog w A.in1 I fp wr G n P St) (S : Addr) (hSf : S ∉ fp) (xs : List Str) (hsz : xs.length = n) (hb : n + 1 < scanBound) (hval : ∀ i v, P i v → ∃ t, v = .str (xs.getD i Str.empty) t) :
    ∀ (k i : Nat) (s : Shared), n - i = k → i ≤ n → St i s → s.heap.SetOf (PySem.strKind prog w) S (fun k' => (met (xs.take i)).any (· == k')) (met (xs.take i)).length →
      (∀ s', Moved (S :: wr) G s s' → s'.heap.SetOf (PySem.strKind prog w) S (fun k' => (met (xs.take n)).any (· == k')) (met (xs.take n)).length → R (.ok (.ret .none)) s') →
      codeAny (model prog w) A (.builtin "set.update.loop" ⟨[.ref S, .ref I], []⟩) R s := by
  have hSw : S ∉ wr := fun h => hSf (W.sub _ h)
  have hsub : ∀ b ∈ wr, b ∈ S :: wr := fun b hb => List.mem_cons_of_mem _ hb
  intro k
  induction k with
  | zero =>
    intro i s hk hi hst hS hR
    have hin : i = n := by omega
    subst hin
    refine codeAny_builtin PyProof.Rows.F.entry_set_update_loop ?_
    rw [Around.under_plainId PyProof.Rows.F.plain_set_update_loop _]
    show wpAny _ A.in1 (pyNext (.ref I) >>= _) _ _ s
    refine wpAny_bind (W.done s _ _ hst fun s' hm => ?_)
    show wpAny _ A.in1 (ret Value.none) _ _ s'
    refine wpAny_pure (hR s' (hm.mono hsub) ?_)
    obtain ⟨o, es, ep, t, ho, rest⟩ := hS
    exact ⟨o, es, ep, t, hm.heap S _ hSw ho, rest⟩
  | succ k ih =>
    intro i s hk hi hst hS hR
    have hlt : i < n := by omega
    refine codeAny_builtin PyProof.Rows.F.entry_set_update_loop ?_
    rw [Around.under_plainId PyProof.Rows.F.plain_set_update_loop _]
    show wpAny _ A.in1 (pyNext (.ref I) >>= _) _ _ s
    refine wpAny_bind (W.item i s _ _ hlt hst fun v s' hP hst' hm => ?_)
    obtain ⟨t, rfl⟩ := hval i v hP
    have hS' : s'.heap.SetOf (PySem.strKind prog w) S (fun k' => (met (xs.take i)).any (· == k')) (met (xs.take i)).length := by
      obtain ⟨o, es, ep, tb, ho, rest⟩ := hS
      exact ⟨o, es, ep, tb, hm.heap S _ hSw ho, rest⟩
    show wpAny _ A.in1 (holding [Value.str (xs.getD i Str.empty) t] (setAdd S (.str (xs.getD i Str.empty) t)) >>= _) _ _ s'
    refine wpAny_bind (wpAny_holding ?_)
    unfold setAdd
    refine wpAny_holding ?_
    refine wpAny_bind ((PySem.strKind prog w).pyHash (k := xs.getD i Str.empty) (strKind_is _ _ _ _) ?_)
    have hroom : (met (xs.take i)).length + 1 < scanBound := by
      have h1 := met_le (xs.take i) []
      rw [List.length_take, List.length_nil] at h1
      have h2 : (met (xs.take i)).length ≤ 0 + min i xs.length := h1
      omega
    refine wpAny_setAddHashed_of (knd := PySem.strKind prog w) (s := { s' with toks := s'.toks + 1 }) (strKind_is _ _ _ _) rfl hS' hroom fun h' hsb hS2 => ?_
    have hSi : h'.SetOf (PySem.strKind prog w) S (fun k' => (met (xs.take (i + 1))).any (· == k')) (met (xs.take (i + 1))).length :=
      PyProof.Rows.SetOf_congr hS2 (fun k' => by rw [met_take (by omega), step_anyS]) (by rw [met_take (by omega), step_lenS])
    refine wpAny_pure ⟨plainId_quiet PyProof.Rows.F.plain_set_update_loop _, ih (i + 1) _ (by omega) hlt (W.frame _ s' _ _ hst' (Nat.le_succ _) fun b hb o e => ?_) hSi fun s'' hm'' hS'' => ?_⟩
    · rw [hsb.2 b (fun h : b = S => hSf (by rw [← h]; exact hb))]
      exact e
    · refine hR s'' (Moved.trans W.gtrans ((hm.mono hsub).then_heap (Nat.le_succ _) fun b o hb e => ?_) hm'') hS''
      rw [hsb.2 b (fun h : b = S => hb (by rw [h]; exact List.mem_cons_self))]
      exact e
end
section
variable {prog : Program} {w : World} {A : Around} {E : Value → Shared → Prop} {s : Shared}
theorem set_of_list {l : Addr} {items : Array Value} {xs : List Str} {Q : Value → Shared → Prop} (hh : A.handled = none) (hl : s.heap.IsList l items) (hi : PyProof.Rows.StrsAre items.toList xs) (hn1 : xs.length + 1 < scanBound)
    (h : ∀ (h' : Heap) (tk : Nat), h'.SetOf (PySem.strKind prog w) s.heap.objs.size (fun k' => (met xs).any (· == k')) (met xs).length → (∀ b o, b < s.heap.objs.size → s.heap.get? b = some o → h'.get? b = some o) → Q (.ref s.heap.objs.size) { s with heap := h', toks := tk }) :
    wpAny (model prog w) A (call (.type "set") [.ref l]) Q E s := by
  obtain ⟨c, tl, hmro⟩ := PySem.F.called_set.mro
  have hmade := PySem.F.called_set.made
  have hsub := PySem.F.called_set.sub
  refine wpAny_call (codeAny_of_tree ?_)
  show wpAny _ _ (callAny (.type "set") _) _ _ _
  refine wpAny_pure ⟨Code.quiet_builtin _ (by decide +kernel), codeAny_builtin PySem.F.entry_type_call ?_⟩
  rw [Around.under_plain (weight_type_call_type "set" [.ref l] []) rfl]
  have h1 := PySem.F.called_set.notType
  have h2 := PySem.F.called_set.canCreate
  have hct := PySem.F.typeCall_set_1 (.ref l)
  repeat (any_goals (first | assumption | wp_step))
  refine codeAny_mono (code_set_new_1 (.ref l) (E := E) (Q₁ := fun obj s₁ => ∃ led : Bool, obj = .ref s.heap.objs.size ∧ s₁ = { s with heap := s.heap.push { cls := .type "set", dict := none, data := .set #[] 0 (.fresh 0 0 led) } }) fun led => ⟨led, rfl, rfl⟩) fun r s₁ hr => ?_
  cases r with
  | error e => exact hr
  | ok fl =>
    cases fl with
    | ret obj =>
      obtain ⟨led, rfl, rfl⟩ := hr
      have hS : (s.heap.push { cls := .type "set", dict := none, data := .set #[] 0 (.fresh 0 0 led) }).get? s.heap.objs.size = some { cls := .type "set", dict := none, data := .set #[] 0 (.fresh 0 0 led) } := Heap.get?_push_size _ rfl
      have hT : Shared.TypeIs { s with heap := s.heap.push { cls := .type "set", dict := none, data := .set #[] 0 (.fresh 0 0 led) } } (.ref s.heap.objs.size) "set" := ⟨_, hS, rfl⟩
      have hli := PySem.F.called_set.init.lookup
      have hbi := PySem.F.called_set.init.bind (.ref s.heap.objs.size)
      repeat (any_goals (first | assumption | wp_step))
      refine codeAny_mono (codeAny_call_builtin (R := wants (fun r s₂ => r = .none ∧ ∃ h' tk, s₂ = { s with heap := h', toks := tk } ∧
          h'.SetOf (PySem.strKind prog w) s.heap.objs.size (fun k' => (met xs).any (· == k')) (met xs).length ∧ (∀ b o, b < s.heap.objs.size → s.heap.get? b = some o → h'.get? b = some o)) E) PySem.F.called_set.init.plain PySem.F.entry_set_init (check_set_init_1 hT ?_)) fun r₂ s₂ hr₂ => ?_
      · obtain ⟨ol, hol, hcl, nl, hdl⟩ := hl
        obtain ⟨ocls, odict, odata, oslots⟩ := ol
        simp only at hcl hdl
        subst hcl
        subst hdl
        have hol' : (s.heap.push { cls := .type "set", dict := none, data := .set #[] 0 (.fresh 0 0 led) }).get? l = some { cls := .type "list", dict := odict, data := .seq items nl, slots := oslots } := Heap.get?_push_of_some _ hol
        have hsls := PySem.F.sub_list_set
        have hslf := PySem.F.sub_list_frozenset
        have hne : (Value.type "list" == Value.type "dict") = false := by decide
        have hl1 : (s.heap.push { cls := .type "set", dict := none, data := .set #[] 0 (.fresh 0 0 led) }).IsList l items := ⟨_, hol', rfl, nl, rfl⟩
        unfold Builtin.«set.__init__» noKeywords Builtin.Frozenset.updateFrom
        generalize hPI : pyIter = PI
        wp_walk
        subst hPI
        refine wpAny_pyIter_list hl1 ?_
        refine wpAny_bind (wpAny_runValue ?_)
        have hlS : l < s.heap.objs.size := Heap.lt_size hol
        have hh3 : A.in1.in1.in1.handled = none := by simp [hh]
        have hneI : l ≠ (s.heap.push { cls := .type "set", dict := none, data := .set #[] 0 (.fresh 0 0 led) }).objs.size := by
          rw [Heap.size_push]
          exact Nat.ne_of_lt (Nat.lt_succ_of_lt hlS)
        have hSf : s.heap.objs.size ∉ [(s.heap.push { cls := .type "set", dict := none, data := .set #[] 0 (.fresh 0 0 led) }).objs.size, l] := by
          rw [Heap.size_push]
          simp only [List.mem_cons, List.mem_singleton, List.not_mem_nil, or_false, not_or]
          exact ⟨Nat.ne_of_lt (Nat.lt_succ_self _), Nat.ne_of_gt hlS⟩
        have hsz : xs.length = items.size := by rw [← StrsAre.len_eq hi, Array.length_toList]
        have htk : xs.take items.size = xs := by rw [← hsz, List.take_length]
        have hval : ∀ (i : Nat) (v : Value), items[i]? = some v → ∃ t, v = .str (xs.getD i Str.empty) t := fun i v hv => strs_at hi i v (by rw [Array.getElem?_toList]; exact hv)
        refine loopTexts ((Walks.list hh3 _ l hneI items).toS) s.heap.objs.size hSf xs hsz (by rw [← hsz]; exact hn1) hval (items.size - 0) 0 _ (by omega) (Nat.zero_le _) ⟨⟨_, Heap.get?_push_size _ rfl, rfl, rfl⟩, (hl1.push _)⟩ ?hS0 ?hR
        case hS0 =>
          have hget : ((s.heap.push { cls := .type "set", dict := none, data := .set #[] 0 (.fresh 0 0 led) }).push { cls := .type "list_iterator", data := .fields #[.ref l, .int 0 0] }).get? s.heap.objs.size = some { cls := .type "set", dict := none, data := .set #[] 0 (.fresh 0 0 led) } := Heap.get?_push_of_some _ hS
          exact PyProof.Rows.SetOf_congr ((PyProof.Rows.setObjOf_fresh (knd := PySem.strKind prog w) led).setOf hget (by unfold scanBound; omega)) (fun _ => rfl) rfl
        case hR =>
          intro s' hm hS'
          rw [htk] at hS'
          obtain ⟨h', g', d', tk', os'⟩ := s'
          have eg : g' = s.gens := hm.gens
          have ed : d' = s.drawn := hm.drawn
          have eo : os' = s.os := hm.os
          subst eg
          subst ed
          subst eo
          show wpAny _ _ _ _ _ _
          refine wpAny_pure ?_
          show wpAny _ _ (ret Value.none) _ _ _
          refine wpAny_pure ⟨rfl, h', tk', rfl, hS', fun b o hb e => ?_⟩
          have hb1 : b ≠ s.heap.objs.size := Nat.ne_of_lt hb
          have hb2 : b ≠ (s.heap.push { cls := .type "set", dict := none, data := .set #[] 0 (.fresh 0 0 led) }).objs.size := by
            rw [Heap.size_push]
            exact Nat.ne_of_lt (Nat.lt_succ_of_lt hb)
          exact hm.heap b o (by simp only [List.mem_cons, List.mem_singleton, List.not_mem_nil, or_false, not_or]; exact ⟨hb1, hb2⟩) (Heap.get?_push_of_some _ (Heap.get?_push_of_some _ e))
      · cases r₂ with
        | error e => exact hr₂
        | ok fl₂ =>
          cases fl₂ with
          | ret r =>
            obtain ⟨rfl, h', tk, rfl, hS', hk'⟩ := hr₂
            repeat (any_goals (first | assumption | wp_step))
            exact h _ _ hS' hk'
          | _ => exact hr₂.elim
    | _ => exact hr.elim
theorem set_of_tuple {l : Addr} {items : Array Value} {xs : List Str} {Q : Value → Shared → Prop} (hh : A.handled = none) (hl : s.heap.IsTuple l items) (hi : PyProof.Rows.StrsAre items.toList xs) (hn1 : xs.length + 1 < scanBound)
    (h : ∀ (h' : Heap) (tk : Nat), h'.SetOf (PySem.strKind prog w) s.heap.objs.size (fun k' => (met xs).any (· == k')) (met xs).length → (∀ b o, b < s.heap.objs.size → s.heap.get? b = some o → h'.get? b = some o) → Q (.ref s.heap.objs.size) { s with heap := h', toks := tk }) :
    wpAny (model prog w) A (call (.type "set") [.ref l]) Q E s := by
  obtain ⟨c, tl, hmro⟩ := PySem.F.called_set.mro
  have hmade := PySem.F.called_set.made
  have hsub := PySem.F.called_set.sub
  refine wpAny_call (codeAny_of_tree ?_)
  show wpAny _ _ (callAny (.type "set") _) _ _ _
  refine wpAny_pure ⟨Code.quiet_builtin _ (by decide +kernel), codeAny_builtin PySem.F.entry_type_call ?_⟩
  rw [Around.under_plain (weight_type_call_type "set" [.ref l] []) rfl]
  have h1 := PySem.F.called_set.notType
  have h2 := PySem.F.called_set.canCreate
  have hct := PySem.F.typeCall_set_1 (.ref l)
  repeat (any_goals (first | assumption | wp_step))
  refine codeAny_mono (code_set_new_1 (.ref l) (E := E) (Q₁ := fun obj s₁ => ∃ led : Bool, obj = .ref s.heap.objs.size ∧ s₁ = { s with heap := s.heap.push { cls := .type "set", dict := none, data := .set #[] 0 (.fresh 0 0 led) } }) fun led => ⟨led, rfl, rfl⟩) fun r s₁ hr => ?_
  cases r with
  | error e => exact hr
  | ok fl =>
    cases fl with
    | ret obj =>
      obtain ⟨led, rfl, rfl⟩ := hr
      have hS : (s.heap.push { cls := .type "set", dict := none, data := .set #[] 0 (.fresh 0 0 led) }).get? s.heap.objs.size = some { cls := .type "set", dict := none, data := .set #[] 0 (.fresh 0 0 led) } := Heap.get?_push_size _ rfl
      have hT : Shared.TypeIs { s with heap := s.heap.push { cls := .type "set", dict := none, data := .set #[] 0 (.fresh 0 0 led) } } (.ref s.heap.objs.size) "set" := ⟨_, hS, rfl⟩
      have hli := PySem.F.called_set.init.lookup
      have hbi := PySem.F.called_set.init.bind (.ref s.heap.objs.size)
      repeat (any_goals (first | assumption | wp_step))
      refine codeAny_mono (codeAny_call_builtin (R := wants (fun r s₂ => r = .none ∧ ∃ h' tk, s₂ = { s with heap := h', toks := tk } ∧
          h'.SetOf (PySem.strKind prog w) s.heap.objs.size (fun k' => (met xs).any (· == k')) (met xs).length ∧ (∀ b o, b < s.heap.objs.size → s.heap.get? b = some o → h'.get? b = some o)) E) PySem.F.called_set.init.plain PySem.F.entry_set_init (check_set_init_1 hT ?_)) fun r₂ s₂ hr₂ => ?_
      · obtain ⟨ol, hol, hcl, nl, hdl⟩ := hl
        obtain ⟨ocls, odict, odata, oslots⟩ := ol
        simp only at hcl hdl
        subst hcl
        subst hdl
        have hol' : (s.heap.push { cls := .type "set", dict := none, data := .set #[] 0 (.fresh 0 0 led) }).get? l = some { cls := .type "tuple", dict := odict, data := .seq items nl, slots := oslots } := Heap.get?_push_of_some _ hol
        have hsls := PySem.F.sub_tuple_set
        have hslf := PySem.F.sub_tuple_frozenset
        have hne : (Value.type "tuple" == Value.type "dict") = false := by decide
        have hl1 : (s.heap.push { cls := .type "set", dict := none, data := .set #[] 0 (.fresh 0 0 led) }).IsTuple l items := ⟨_, hol', rfl, nl, rfl⟩
        unfold Builtin.«set.__init__» noKeywords Builtin.Frozenset.updateFrom
        generalize hPI : pyIter = PI
        wp_walk
        subst hPI
        refine wpAny_pyIter_tuple hl1 ?_
        refine wpAny_bind (wpAny_runValue ?_)
        have hlS : l < s.heap.objs.size := Heap.lt_size hol
        have hh3 : A.in1.in1.in1.handled = none := by simp [hh]
        have hneI : l ≠ (s.heap.push { cls := .type "set", dict := none, data := .set #[] 0 (.fresh 0 0 led) }).objs.size := by
          rw [Heap.size_push]
          exact Nat.ne_of_lt (Nat.lt_succ_of_lt hlS)
        have hSf : s.heap.objs.size ∉ [(s.heap.push { cls := .type "set", dict := none, data := .set #[] 0 (.fresh 0 0 led) }).objs.size, l] := by
          rw [Heap.size_push]
          simp only [List.mem_cons, List.mem_singleton, List.not_mem_nil, or_false, not_or]
          exact ⟨Nat.ne_of_lt (Nat.lt_succ_self _), Nat.ne_of_gt hlS⟩
        have hsz : xs.length = items.size := by rw [← StrsAre.len_eq hi, Array.length_toList]
        have htk : xs.take items.size = xs := by rw [← hsz, List.take_length]
        have hval : ∀ (i : Nat) (v : Value), items[i]? = some v → ∃ t, v = .str (xs.getD i Str.empty) t := fun i v hv => strs_at hi i v (by rw [Array.getElem?_toList]; exact hv)
        refine loopTexts ((Walks.tuple hh3 _ l hneI items).toS) s.heap.objs.size hSf xs hsz (by rw [← hsz]; exact hn1) hval (items.size - 0) 0 _ (by omega) (Nat.zero_le _) ⟨⟨_, Heap.get?_push_size _ rfl, rfl, rfl⟩, (hl1.push _)⟩ ?hS0 ?hR
        case hS0 =>
          have hget : ((s.heap.push { cls := .type "set", dict := none, data := .set #[] 0 (.fresh 0 0 led) }).push { cls := .type "tuple_iterator", data := .fields #[.ref l, .int 0 0] }).get? s.heap.objs.size = some { cls := .type "set", dict := none, data := .set #[] 0 (.fresh 0 0 led) } := Heap.get?_push_of_some _ hS
          exact PyProof.Rows.SetOf_congr ((PyProof.Rows.setObjOf_fresh (knd := PySem.strKind prog w) led).setOf hget (by unfold scanBound; omega)) (fun _ => rfl) rfl
        case hR =>
          intro s' hm hS'
          rw [htk] at hS'
          obtain ⟨h', g', d', tk', os'⟩ := s'
          have eg : g' = s.gens := hm.gens
          have ed : d' = s.drawn := hm.drawn
          have eo : os' = s.os := hm.os
          subst eg
          subst ed
          subst eo
          show wpAny _ _ _ _ _ _
          refine wpAny_pure ?_
          show wpAny _ _ (ret Value.none) _ _ _
          refine wpAny_pure ⟨rfl, h', tk', rfl, hS', fun b o hb e => ?_⟩
          have hb1 : b ≠ s.heap.objs.size := Nat.ne_of_lt hb
          have hb2 : b ≠ (s.heap.push { cls := .type "set", dict := none, data := .set #[] 0 (.fresh 0 0 led) }).objs.size := by
            rw [Heap.size_push]
            exact Nat.ne_of_lt (Nat.lt_succ_of_lt hb)
          exact hm.heap b o (by simp only [List.mem_cons, List.mem_singleton, List.not_mem_nil, or_false, not_or]; exact ⟨hb1, hb2⟩) (Heap.get?_push_of_some _ (Heap.get?_push_of_some _ e))
      · cases r₂ with
        | error e => exact hr₂
        | ok fl₂ =>
          cases fl₂ with
          | ret r =>
            obtain ⟨rfl, h', tk, rfl, hS', hk'⟩ := hr₂
            repeat (any_goals (first | assumption | wp_step))
            exact h _ _ hS' hk'
          | _ => exact hr₂.elim
    | _ => exact hr.elim
end
section
variable {X : Cx}
def tLenTexts (K : PySem.W.Frag) (ta : TE) : TE := fun σ H Q => ta σ H fun x H1 => ∃ l, ∃ xs : List Str, x = .ref l ∧ (SqL K H1 l (xs.map V.str) ∨ SqT K H1 l (xs.map V.str)) ∧ xs.length + 2 < scanBound ∧ Q (.int (met xs).length) H1
theorem pe_lenTexts {a : Expr} {ta : TE} {p p2 q pos : Pos} (hc : X.calm = true) (hg : Gl X "len") (hm : X.mg "len" = none) (hg2 : Gl X "set") (hm2 : X.mg "set" = none) (ha : PE X a ta)
    (na : starEach [a] X.env = (false, eval a X.env) :: starEach [] X.env := by rfl) : PE X (.Call (.Name "len" p) [.Call (.Name "set" p2) [a] [] q] [] pos) (tLenTexts X.K ta) := by
  refine ⟨fun pins s σ H Q I h => ?_⟩
  refine Call_ (ld_blt I hg hm boot_len ?_)
  refine PyProof.Rows.callWith_builtin1 (PyProof.Rows.args_cons ?_ rfl) rfl rfl
  refine Call_ (ld_blt I hg2 hm2 boot_set ?_)
  refine PyProof.Rows.callWith_type1 (PyProof.Rows.args_cons (thn (ha.run pins s σ H _ I h) fun v s1 ⟨x, H1, I1, r1, q1⟩ => PyProof.Rows.args_nil ?_) na) na rfl
  obtain ⟨l, xs, rfl, hq, h1, q1⟩ := q1
  cases r1
  have hle : (met xs).length ≤ 0 + xs.length := met_le xs []
  have fin : ∀ (h' : Heap) (tk : Nat), h'.SetOf (PySem.strKind X.prog X.w) s1.heap.objs.size (fun k' => (met xs).any (· == k')) (met xs).length → (∀ b o, b < s1.heap.objs.size → s1.heap.get? b = some o → h'.get? b = some o) →
      wpAny (model X.prog X.w) X.A (spliced (backTo pos (starEach [] X.env))) (fun vs s₂ => wpAny (model X.prog X.w) X.A (call (.builtin "len") (Value.ref s1.heap.objs.size :: vs)) (EP X pins σ Q) X.xe s₂) X.xe { s1 with heap := h', toks := tk } := fun h' tk hS hk => by
    refine PyProof.Rows.args_nil ?_
    obtain ⟨o, es, ep, t, ho, hex, hd, _, _, _, hf, hn⟩ := hS
    have I2 : Inv X pins σ H1 { s1 with heap := h', toks := tk } := I1.kept fun b o e => hk b o (Heap.lt_size e) e
    exact call_len_set ho hex hd hf (by rw [hn]; unfold scanBound at h1; omega) ⟨.int (met xs).length, H1, I2.tok _, ⟨_, by rw [hn]⟩, q1⟩
  rcases hq with hq | hq
  · obtain ⟨its, r, pl, hz⟩ := I1.list hq
    exact set_of_list (I1.ok.hd hc) pl.isList (by simpa using strsAre_of r) (by omega) fun h' tk hS hk => fin h' tk hS hk
  · obtain ⟨its, r, pl, hz⟩ := I1.tuple hq
    exact set_of_tuple (I1.ok.hd hc) pl (by simpa using strsAre_of r) (by omega) fun h' tk hS hk => fin h' tk hS hk
end
end Fk
set_option Elab.async false
set_option linter.all false
set_option maxRecDepth 100000
set_option maxHeartbeats 4000000
/-! K10: a def's contract from its body; the text's facts. -/
namespace Fk
open PySem PySem.Spec PyProof.Rows L2
/-- what the head tells of the text, behind the module's names -/
structure Top (K : PySem.W.Frag) (mg : Str → Option Value) : Prop where
  df : ∀ (i : Nat) (d : He.DefD), fn[i]? = some d → ∃ fd, FunD K d.name d.qual d.params d.body d.scope (d.dvs K) (d.kws K) (He.fAd K d.at_) fd
  gl : ∀ x : Str, glos.contains x = true → mg x = some (.ref (He.ga K x)) ∧ PySem.W.keepIn K (.ref (He.ga K x)) = true
  fr : ∀ x : Str, frees.contains x = true → mg x = none
  long : ∃ t, mg "LONGEST" = some (.int 8 t)
  letters : ∃ t, mg "LETTERS" = some (.str "abcdefghijklmnopqrstuvwxyz" t)
  signs : mg "SIGNS" = some (.ref (He.ga K "SIGNS"))
  tup : ∀ H, SqT K H (He.ga K "SIGNS") [.str "<", .str "=", .str ">"]
/-- the context of a def's body, no exception let out -/
abbrev CxB (P : Program) (w : World) (K : PySem.W.Frag) (mg : Str → Option Value) (base : Heap) (N : List Str) (qual : Str) (scope : Scope) (f : Addr) (cd : Value) (A : Around) (outer : List Env) (s : Shared) (H : Hp) (E : XK) : Cx :=
  (cxOf CX0 P w K mg base N qual scope f cd A outer s H E).nox
def rtQ (Q : Nat → D → Prop) : Nat → SV → Prop := fun n r => match r with
  | .dat d => Q n d
  | .own ds => Q n (.lst ds)
  | .no => False
def slots (N : List Str) (ds : List D) : List SV := ds.map SV.dat ++ List.replicate (N.length - ds.length) SV.no
theorem DDs.find {K : PySem.W.Frag} {W : List Addr} {H : Hp} {vs : List V} {ds : List D} (h : DDs K W H vs ds) : vs.length = ds.length := h.length
theorem slots_dat {N : List Str} {ds : List D} {i : Nat} {d : D} (h : (slots N ds)[i]? = some (.dat d)) : ds[i]? = some d := by
  unfold slots at h
  by_cases hi : i < ds.length
  · rw [List.getElem?_append_left (by simpa using hi), List.getElem?_map] at h
    cases e : ds[i]? with
    | none => rw [e] at h; cases h
    | some a => rw [e] at h; cases h; rfl
  · rw [List.getElem?_append_right (by simpa using hi), List.getElem?_replicate] at h
    split at h <;> cases h
theorem slots_own {N : List Str} {ds es : List D} {i : Nat} (h : (slots N ds)[i]? = some (.own es)) : False := by
  unfold slots at h
  by_cases hi : i < ds.length
  · rw [List.getElem?_append_left (by simpa using hi), List.getElem?_map] at h
    cases e : ds[i]? with
    | none => rw [e] at h; cases h
    | some a => rw [e] at h; cases h
  · rw [List.getElem?_append_right (by simpa using hi), List.getElem?_replicate] at h
    split at h <;> cases h
theorem entry {K : PySem.W.Frag} {g : Gx} {W : List Addr} {n : Nat} {N : List Str} {vs : List V} {ds : List D} {H : Hp} (j : g.J n H) (gw : GW g W) (tr : ∀ a ∈ W, ∃ o, H a = some o) (dd : DDs K W H vs ds) : SI K g H W n (slots N ds) [] (L2.start N vs) H := by
  refine ⟨.refl, fun _ h => h, tr, ⟨W, fun _ h => h, fun _ h => .inl h, ⟨j, gw, tr, ?_, fun i d h => ?_, fun i es h => (slots_own h).elim⟩, fun p hp => by cases hp⟩, fun i es a h => (slots_own h).elim, fun i l es fs a _ h => (slots_own h).elim⟩
  · unfold slots L2.start
    simp [dd.length]
  · obtain ⟨v, h1, h2⟩ := dd.get (slots_dat h)
    refine ⟨v, ?_, h2⟩
    unfold L2.start
    have hi : i < vs.length := (List.getElem?_eq_some_iff.mp h1).1
    rw [List.getElem?_append_left (by simpa using hi), List.getElem?_map, h1]
    rfl
section
variable {P : Program} {w : World} {K : PySem.W.Frag} {mg : Str → Option Value} {base : Heap}
theorem has_of (T : Top K mg) {i : Nat} {d : He.DefD} {N ps : List Str} {k : Nat} {A : Acc} (hd : fn[i]? = some d) (S : FnScope N ps d.scope) (hx : glos.contains d.name = true) (hat : d.at_ = (d.name, none)) (hdf : d.dfl = []) (hkw : d.kwd = [])
    (hb : ∀ (kV doc pm : Value) (an : Option Addr) (cdv ct : Value) (us : List Value), us.length = ps.length → bindArgs (PySem.W.fnOf d.name d.qual d.params d.body d.scope .none kV doc pm an cdv ct) ⟨us, []⟩ = pure (ps.zip us))
    (hlen : ∀ g n ds Q, A g n ds Q → ds.length = ps.length)
    (hbody : ∀ (cd : Value) (Ar : Around) (outer : List Env) (s : Shared) (H : Hp) (E : XK), Room k (CxB P w K mg base N d.qual d.scope (He.ga K d.name) cd Ar outer s H E).A → ∀ g n ds Q, A g n ds Q →
      HSs (CxB P w K mg base N d.qual d.scope (He.ga K d.name) cd Ar outer s H E) g n (slots N ds) d.body (fun n' _ => Q n' .non) (rtQ Q)) : Has P w K mg base (k + 1) d.name ps A := by
  obtain ⟨fd, F⟩ := T.df i d hd
  obtain ⟨m1, m2⟩ := T.gl d.name hx
  have e1 : d.dvs K = [] := by unfold He.DefD.dvs; rw [hdf]; rfl
  have e2 : d.kws K = [] := by unfold He.DefD.kws; rw [hkw]; rfl
  have e3 : He.fAd K d.at_ = He.ga K d.name := by rw [hat]; rfl
  rw [e1, e2, e3] at F
  refine ⟨⟨fd, F.ok S (fun vs H Q E h => ?_) (fun cdv Ar outer s H vs Q E hr h => ⟨_, PSs.nox pssW, ?_⟩), F.bindsN hb⟩, m1, m2⟩
  · obtain ⟨g, W, n, ds, Qd, h1, _, _, _, h5, _⟩ := h
    rw [h5.length]
    exact hlen g n ds Qd h1
  · obtain ⟨g, W, n, ds, Qd, h1, h2, h3, h4, h5, h6⟩ := h
    refine hbody cdv Ar outer s H E hr g n ds Qd h1 H W [] _ H (entry h2 h3 h4 h5) _ (fun n' ρ' σ' H' q S' => ?_) fun n' r v H' q e j ro => ?_
    · obtain ⟨W', _, _, k', _⟩ := S'.ex
      exact h6 n' .non .non H' q S'.ext k'.j .non
    · cases r with
      | dat d => exact h6 n' d v H' q e j ro
      | own es =>
        obtain ⟨a, xs, rfl, na, ha, hx⟩ := ro
        refine h6 n' (.lst es) _ H' q e j (.lst (fun z => ?_) ha (hx.mono (fun _ z => List.mem_cons_of_mem _ z) (fun _ _ _ z => z)))
        obtain ⟨o, q⟩ := h4 a z
        rw [na] at q
        cases q
      | no => exact q.elim
end
end Fk
set_option Elab.async false
set_option linter.all false
set_option maxRecDepth 100000
set_option maxHeartbeats 4000000
/-! K11: names of the top; more rules: displays, |, len(set(..)), two clauses, enumerate over a tuple, dict comprehensions. -/
namespace Fk
open PySem PySem.Spec PyProof.Rows L2
section
variable {K : PySem.W.Frag} {mg : Str → Option Value}
theorem Top.f_isinstance (T : Top K mg) : mg "isinstance" = none := T.fr _ (by decide +kernel)
theorem Top.f_int (T : Top K mg) : mg "int" = none := T.fr _ (by decide +kernel)
theorem Top.f_bool (T : Top K mg) : mg "bool" = none := T.fr _ (by decide +kernel)
theorem Top.f_str (T : Top K mg) : mg "str" = none := T.fr _ (by decide +kernel)
theorem Top.f_tuple (T : Top K mg) : mg "tuple" = none := T.fr _ (by decide +kernel)
theorem Top.f_list (T : Top K mg) : mg "list" = none := T.fr _ (by decide +kernel)
theorem Top.f_dict (T : Top K mg) : mg "dict" = none := T.fr _ (by decide +kernel)
theorem Top.f_set (T : Top K mg) : mg "set" = none := T.fr _ (by decide +kernel)
theorem Top.f_len (T : Top K mg) : mg "len" = none := T.fr _ (by decide +kernel)
theorem Top.f_all (T : Top K mg) : mg "all" = none := T.fr _ (by decide +kernel)
theorem Top.f_zip (T : Top K mg) : mg "zip" = none := T.fr _ (by decide +kernel)
theorem Top.f_range (T : Top K mg) : mg "range" = none := T.fr _ (by decide +kernel)
theorem Top.f_enumerate (T : Top K mg) : mg "enumerate" = none := T.fr _ (by decide +kernel)
theorem Top.f_sorted (T : Top K mg) : mg "sorted" = none := T.fr _ (by decide +kernel)
theorem Top.f_repr (T : Top K mg) : mg "repr" = none := T.fr _ (by decide +kernel)
theorem Top.f_ValueError (T : Top K mg) : mg "ValueError" = none := T.fr _ (by decide +kernel)
/-- a def's name -/
theorem Top.g (T : Top K mg) (x : Str) (h : glos.contains x = true) : mg x = some (.ref (He.ga K x)) := (T.gl x h).1
theorem Top.g_TaleError (T : Top K mg) : mg "TaleError" = some (.ref (He.ga K "TaleError")) := T.g _ (by decide +kernel)
theorem Top.g_LackError (T : Top K mg) : mg "LackError" = some (.ref (He.ga K "LackError")) := T.g _ (by decide +kernel)
theorem Top.g_NoPaper (T : Top K mg) : mg "NoPaper" = some (.ref (He.ga K "NoPaper")) := T.g _ (by decide +kernel)
theorem Top.g_NoStory (T : Top K mg) : mg "NoStory" = some (.ref (He.ga K "NoStory")) := T.g _ (by decide +kernel)
theorem Top.g_NoChoice (T : Top K mg) : mg "NoChoice" = some (.ref (He.ga K "NoChoice")) := T.g _ (by decide +kernel)
theorem Top.g_NoRow (T : Top K mg) : mg "NoRow" = some (.ref (He.ga K "NoRow")) := T.g _ (by decide +kernel)
theorem Top.g_NoMore (T : Top K mg) : mg "NoMore" = some (.ref (He.ga K "NoMore")) := T.g _ (by decide +kernel)
theorem Top.g_NoText (T : Top K mg) : mg "NoText" = some (.ref (He.ga K "NoText")) := T.g _ (by decide +kernel)
theorem Top.g_NoScene (T : Top K mg) : mg "NoScene" = some (.ref (He.ga K "NoScene")) := T.g _ (by decide +kernel)
theorem Top.g_NoReader (T : Top K mg) : mg "NoReader" = some (.ref (He.ga K "NoReader")) := T.g _ (by decide +kernel)
theorem Top.g_NoEnding (T : Top K mg) : mg "NoEnding" = some (.ref (He.ga K "NoEnding")) := T.g _ (by decide +kernel)
theorem Top.g_NoStep (T : Top K mg) : mg "NoStep" = some (.ref (He.ga K "NoStep")) := T.g _ (by decide +kernel)
theorem Top.g_sum_namings (T : Top K mg) : mg "sum_namings" = some (.ref (He.ga K "sum_namings")) := T.g _ (by decide +kernel)
theorem Top.g_test_namings (T : Top K mg) : mg "test_namings" = some (.ref (He.ga K "test_namings")) := T.g _ (by decide +kernel)
theorem Top.g_own_namings (T : Top K mg) : mg "own_namings" = some (.ref (He.ga K "own_namings")) := T.g _ (by decide +kernel)
theorem Top.g_pieces_within (T : Top K mg) : mg "pieces_within" = some (.ref (He.ga K "pieces_within")) := T.g _ (by decide +kernel)
theorem Top.g_pieces_namings (T : Top K mg) : mg "pieces_namings" = some (.ref (He.ga K "pieces_namings")) := T.g _ (by decide +kernel)
theorem Top.g_deed_namings (T : Top K mg) : mg "deed_namings" = some (.ref (He.ga K "deed_namings")) := T.g _ (by decide +kernel)
theorem Top.g_choice_namings (T : Top K mg) : mg "choice_namings" = some (.ref (He.ga K "choice_namings")) := T.g _ (by decide +kernel)
theorem Top.g_all_namings (T : Top K mg) : mg "all_namings" = some (.ref (He.ga K "all_namings")) := T.g _ (by decide +kernel)
theorem Top.g_namings_of (T : Top K mg) : mg "namings_of" = some (.ref (He.ga K "namings_of")) := T.g _ (by decide +kernel)
theorem Top.g_is_number (T : Top K mg) : mg "is_number" = some (.ref (He.ga K "is_number")) := T.g _ (by decide +kernel)
theorem Top.g_is_word (T : Top K mg) : mg "is_word" = some (.ref (He.ga K "is_word")) := T.g _ (by decide +kernel)
theorem Top.g_is_row_text (T : Top K mg) : mg "is_row_text" = some (.ref (He.ga K "is_row_text")) := T.g _ (by decide +kernel)
theorem Top.g_is_sign (T : Top K mg) : mg "is_sign" = some (.ref (He.ga K "is_sign")) := T.g _ (by decide +kernel)
theorem Top.g_are_all (T : Top K mg) : mg "are_all" = some (.ref (He.ga K "are_all")) := T.g _ (by decide +kernel)
theorem Top.g_is_formed (T : Top K mg) : mg "is_formed" = some (.ref (He.ga K "is_formed")) := T.g _ (by decide +kernel)
theorem Top.g_is_sum (T : Top K mg) : mg "is_sum" = some (.ref (He.ga K "is_sum")) := T.g _ (by decide +kernel)
theorem Top.g_are_tests (T : Top K mg) : mg "are_tests" = some (.ref (He.ga K "are_tests")) := T.g _ (by decide +kernel)
theorem Top.g_is_test (T : Top K mg) : mg "is_test" = some (.ref (He.ga K "is_test")) := T.g _ (by decide +kernel)
theorem Top.g_label_forms (T : Top K mg) : mg "label_forms" = some (.ref (He.ga K "label_forms")) := T.g _ (by decide +kernel)
theorem Top.g_are_pieces_by (T : Top K mg) : mg "are_pieces_by" = some (.ref (He.ga K "are_pieces_by")) := T.g _ (by decide +kernel)
theorem Top.g_are_label_pieces (T : Top K mg) : mg "are_label_pieces" = some (.ref (He.ga K "are_label_pieces")) := T.g _ (by decide +kernel)
theorem Top.g_are_pieces (T : Top K mg) : mg "are_pieces" = some (.ref (He.ga K "are_pieces")) := T.g _ (by decide +kernel)
theorem Top.g_is_deed (T : Top K mg) : mg "is_deed" = some (.ref (He.ga K "is_deed")) := T.g _ (by decide +kernel)
theorem Top.g_is_next (T : Top K mg) : mg "is_next" = some (.ref (He.ga K "is_next")) := T.g _ (by decide +kernel)
theorem Top.g_is_row_of (T : Top K mg) : mg "is_row_of" = some (.ref (He.ga K "is_row_of")) := T.g _ (by decide +kernel)
theorem Top.g_are_unlike (T : Top K mg) : mg "are_unlike" = some (.ref (He.ga K "are_unlike")) := T.g _ (by decide +kernel)
theorem Top.g_is_truth (T : Top K mg) : mg "is_truth" = some (.ref (He.ga K "is_truth")) := T.g _ (by decide +kernel)
theorem Top.g_are_deeds (T : Top K mg) : mg "are_deeds" = some (.ref (He.ga K "are_deeds")) := T.g _ (by decide +kernel)
theorem Top.g_is_choice (T : Top K mg) : mg "is_choice" = some (.ref (He.ga K "is_choice")) := T.g _ (by decide +kernel)
theorem Top.g_are_choices (T : Top K mg) : mg "are_choices" = some (.ref (He.ga K "are_choices")) := T.g _ (by decide +kernel)
theorem Top.g_are_unlike_words (T : Top K mg) : mg "are_unlike_words" = some (.ref (He.ga K "are_unlike_words")) := T.g _ (by decide +kernel)
theorem Top.g_is_ending (T : Top K mg) : mg "is_ending" = some (.ref (He.ga K "is_ending")) := T.g _ (by decide +kernel)
theorem Top.g_is_scene (T : Top K mg) : mg "is_scene" = some (.ref (He.ga K "is_scene")) := T.g _ (by decide +kernel)
theorem Top.g_do_rise (T : Top K mg) : mg "do_rise" = some (.ref (He.ga K "do_rise")) := T.g _ (by decide +kernel)
theorem Top.g_is_bounded (T : Top K mg) : mg "is_bounded" = some (.ref (He.ga K "is_bounded")) := T.g _ (by decide +kernel)
theorem Top.g_are_named (T : Top K mg) : mg "are_named" = some (.ref (He.ga K "are_named")) := T.g _ (by decide +kernel)
theorem Top.g_is_word_pair (T : Top K mg) : mg "is_word_pair" = some (.ref (He.ga K "is_word_pair")) := T.g _ (by decide +kernel)
theorem Top.g_is_door (T : Top K mg) : mg "is_door" = some (.ref (He.ga K "is_door")) := T.g _ (by decide +kernel)
theorem Top.g_is_digit (T : Top K mg) : mg "is_digit" = some (.ref (He.ga K "is_digit")) := T.g _ (by decide +kernel)
theorem Top.g_is_story (T : Top K mg) : mg "is_story" = some (.ref (He.ga K "is_story")) := T.g _ (by decide +kernel)
theorem Top.g_names_there (T : Top K mg) : mg "names_there" = some (.ref (He.ga K "names_there")) := T.g _ (by decide +kernel)
theorem Top.g_need (T : Top K mg) : mg "need" = some (.ref (He.ga K "need")) := T.g _ (by decide +kernel)
theorem Top.g_lets_ground (T : Top K mg) : mg "lets_ground" = some (.ref (He.ga K "lets_ground")) := T.g _ (by decide +kernel)
theorem Top.g_lets_whole (T : Top K mg) : mg "lets_whole" = some (.ref (He.ga K "lets_whole")) := T.g _ (by decide +kernel)
theorem Top.g_is_whole (T : Top K mg) : mg "is_whole" = some (.ref (He.ga K "is_whole")) := T.g _ (by decide +kernel)
theorem Top.g__law_feed (T : Top K mg) : mg "_law_feed" = some (.ref (He.ga K "_law_feed")) := T.g _ (by decide +kernel)
theorem Top.g__law_draw (T : Top K mg) : mg "_law_draw" = some (.ref (He.ga K "_law_draw")) := T.g _ (by decide +kernel)
theorem Top.g__law_spoilt (T : Top K mg) : mg "_law_spoilt" = some (.ref (He.ga K "_law_spoilt")) := T.g _ (by decide +kernel)
theorem Top.g__law_pick (T : Top K mg) : mg "_law_pick" = some (.ref (He.ga K "_law_pick")) := T.g _ (by decide +kernel)
theorem Top.g__law_spent (T : Top K mg) : mg "_law_spent" = some (.ref (He.ga K "_law_spent")) := T.g _ (by decide +kernel)
theorem Top.g__law_sum (T : Top K mg) : mg "_law_sum" = some (.ref (He.ga K "_law_sum")) := T.g _ (by decide +kernel)
theorem Top.g__law_test (T : Top K mg) : mg "_law_test" = some (.ref (He.ga K "_law_test")) := T.g _ (by decide +kernel)
theorem Top.g__law_pieces (T : Top K mg) : mg "_law_pieces" = some (.ref (He.ga K "_law_pieces")) := T.g _ (by decide +kernel)
theorem Top.g__law_piece (T : Top K mg) : mg "_law_piece" = some (.ref (He.ga K "_law_piece")) := T.g _ (by decide +kernel)
theorem Top.g__law_act (T : Top K mg) : mg "_law_act" = some (.ref (He.ga K "_law_act")) := T.g _ (by decide +kernel)
theorem Top.g__law_next (T : Top K mg) : mg "_law_next" = some (.ref (He.ga K "_law_next")) := T.g _ (by decide +kernel)
theorem Top.g__law_choice (T : Top K mg) : mg "_law_choice" = some (.ref (He.ga K "_law_choice")) := T.g _ (by decide +kernel)
theorem Top.g__law_scene (T : Top K mg) : mg "_law_scene" = some (.ref (He.ga K "_law_scene")) := T.g _ (by decide +kernel)
theorem Top.g__law_tale (T : Top K mg) : mg "_law_tale" = some (.ref (He.ga K "_law_tale")) := T.g _ (by decide +kernel)
theorem Top.g__law_lost (T : Top K mg) : mg "_law_lost" = some (.ref (He.ga K "_law_lost")) := T.g _ (by decide +kernel)
theorem Top.g__law_due (T : Top K mg) : mg "_law_due" = some (.ref (He.ga K "_law_due")) := T.g _ (by decide +kernel)
theorem Top.g__law_heard (T : Top K mg) : mg "_law_heard" = some (.ref (He.ga K "_law_heard")) := T.g _ (by decide +kernel)
theorem Top.g__law_fewer (T : Top K mg) : mg "_law_fewer" = some (.ref (He.ga K "_law_fewer")) := T.g _ (by decide +kernel)
theorem Top.g_law (T : Top K mg) : mg "law" = some (.ref (He.ga K "law")) := T.g _ (by decide +kernel)
end
/-! ### displays -/
section
variable {X : Cx} {g : Gx} {n : Nat} {ρ : List SV} {e a b c : Expr} {pos : Pos} {Q : Nat → D → Prop}
/-- pairs of a display, keys texts -/
def WPs (X : Cx) : List (Option Expr) → List Expr → List (TE × TE)
  | some k :: ks, v :: vs => (WE X k, WE X v) :: WPs X ks vs
  | _, _ => []
theorem ppsW : ∀ {keys : List (Option Expr)} {values : List Expr}, keys.all (·.isSome) = true → keys.length = values.length → PPs X pos keys values (WPs X keys values)
  | [], [], _, _ => pps_nil
  | [], _ :: _, _, h => by simp at h
  | _ :: _, [], _, h => by simp at h
  | none :: _, _ :: _, h, _ => by simp at h
  | some k :: ks, v :: vs, h, hl => pps_cons peW peW (ppsW (by simpa using h) (by simpa using hl))
def HP (X : Cx) (g : Gx) (n : Nat) (ρ : List SV) (keys : List (Option Expr)) (values : List Expr) (Q : Nat → List Str → List D → Prop) : Prop :=
  ∀ (W : List Addr) (σ : L2.St) (H : Hp), Ok X.K g W n ρ σ H → ∀ R : List (V × V) → Hp → Prop, (∀ n' ks ds vs H', Q n' ks ds → Ext g.G H H' → g.J n' H' → DDs X.K W H' vs ds → ks.length = vs.length → R ((ks.map V.str).zip vs) H') → tPairs (WPs X keys values) σ H R
theorem hp_nil {Q : Nat → List Str → List D → Prop} (q : Q n [] []) : HP X g n ρ [] [] Q := fun W σ H k R r => r n [] [] [] H q .refl k.j .nil rfl
theorem hp_cons {Q : Nat → List Str → List D → Prop} {s : Str} {j : Nat} {p : Pos} {v : Expr} {keys : List (Option Expr)} {values : List Expr} (h : HE X g n ρ v fun n1 d => HP X g n1 ρ keys values fun n2 ks ds => Q n2 (s :: ks) (d :: ds)) :
    HP X g n ρ (some (.Constant (.str s) j p) :: keys) (v :: values) Q := fun W σ H k R r => by
  show WE X (.Constant (.str s) j p) σ H _
  refine pe_str.wpr ?_
  show WE X v σ H _
  refine h W σ H k _ fun n1 d u H1 q1 e1 j1 dd => ?_
  refine q1 W σ H1 (k.step e1 j1) _ fun n' ks ds vs H' q e' j' dds hl => ?_
  exact r n' (s :: ks) (d :: ds) (u :: vs) H' q (e1.trans e') j' (.cons (dd.ext ((k.step e1 j1).extW e')) dds) (by simp [hl])
theorem putK_new {kvs : List (Key × V)} {k : Key} {v : V} (h : k ∉ kvs.map (·.1)) : putK kvs k v = kvs ++ [(k, v)] := by
  unfold putK
  rw [if_neg]
  intro z
  obtain ⟨p, hp, e⟩ := List.any_eq_true.mp z
  exact h (of_decide_eq_true e ▸ List.mem_map_of_mem hp)
theorem mergeK_new : ∀ {more kvs : List (Key × V)}, (kvs.map (·.1) ++ more.map (·.1)).Nodup → mergeK kvs more = kvs ++ more
  | [], kvs, _ => by simp [mergeK]
  | p :: more, kvs, h => by
    have h1 : p.1 ∉ kvs.map (·.1) := fun z => (List.nodup_append.mp h).2.2 _ z _ List.mem_cons_self rfl
    have e : mergeK kvs (p :: more) = mergeK (putK kvs p.1 p.2) more := rfl
    rw [e, putK_new h1, mergeK_new (by simpa using h)]
    simp
theorem nodup_inr {ks : List Str} (h : ks.Nodup) : (ks.map (Sum.inr : Str → Key)).Nodup := List.Pairwise.map _ (fun a b n z => n (Sum.inr.inj z)) h
theorem he_disp {keys : List (Option Expr)} {values : List Expr} (h : HP X g n ρ keys values fun n' ks ds => ks.Nodup ∧ ks.length ≤ 15 ∧ Q n' (.dic ks ds)) (hall : keys.all (·.isSome) = true := by rfl) (hl : keys.length = values.length := by rfl) (h0 : keys ≠ [] := by exact fun z => by cases z) (h15 : keys.length ≤ 15 := by decide) :
    HE X g n ρ (.Dict keys values pos) Q := fun W σ H k R r => by
  refine (pe_disp (ppsW hall hl) hall hl h0 h15).wpr fun p hp => ?_
  have k1 := k.more (o := .dK []) hp
  refine h (p :: W) σ _ k1 _ fun n' ks ds vs H2 q e2 j2 dds hlen => ?_
  have np : p ∉ g.G := fun z => by
    obtain ⟨o, e⟩ := g.trk n H k.j p (g.sub p z)
    rw [hp] at e
    cases e
  have hp2 : H2 p = some (.dK []) := e2 p _ np upd_same
  refine ⟨hp2, (ks.map (Sum.inr : Str → Key)).zip vs, ?_, ?_, ?_⟩
  · rw [List.zip_map_left, List.zip_map_left, List.map_map]
    rfl
  · rw [List.length_zip, List.length_map]
    omega
  · have hm : ((ks.map (Sum.inr : Str → Key)).zip vs).map (·.1) = ks.map Sum.inr := List.map_fst_zip (by simp; omega)
    have hv : ((ks.map (Sum.inr : Str → Key)).zip vs).map (·.2) = vs := List.map_snd_zip (by simp; omega)
    have e0 : mergeK [] ((ks.map (Sum.inr : Str → Key)).zip vs) = (ks.map (Sum.inr : Str → Key)).zip vs := by
      have z := mergeK_new (kvs := []) (more := (ks.map (Sum.inr : Str → Key)).zip vs) (by rw [hm]; exact nodup_inr q.1)
      simpa using z
    rw [e0]
    have nF : p ∉ g.F := fun z => by
      obtain ⟨o, e⟩ := g.trk n H k.j p z
      rw [hp] at e
      cases e
    have ext : Ext (p :: W) H2 (upd H2 p (.dK ((ks.map (Sum.inr : Str → Key)).zip vs))) := fun a o ha e => by
      rw [upd_ne fun z => ha (by rw [z]; exact List.mem_cons_self)]
      exact e
    refine r n' _ _ _ q.2.2 (fun a o ha e => ?_) (g.stab n' H2 _ j2 fun a ha => upd_ne fun z => nF (by rw [← z]; exact ha)) (.dic (k.fresh (o := .dK []) hp) upd_same hm ?_)
    · have na : a ≠ p := fun z => by
        rw [z, hp] at e
        cases e
      rw [upd_ne na]
      refine e2 a o ha ?_
      rw [upd_ne na]
      exact e
    · rw [hv]
      exact (dds.ext ext).mono (fun _ z => List.mem_cons_of_mem _ z) (fun _ _ _ z => z)
theorem he_orD (h : HE X g n ρ a fun n1 x => HE X g n1 ρ b fun n2 y => ∃ ks ds ls es, x = .dic ks ds ∧ y = .dic ls es ∧ (ks ++ ls).Nodup ∧ ks.length + ls.length ≤ sizeLine ∧ Q n2 (.dic (ks ++ ls) (ds ++ es))) : HE X g n ρ (.BinOp a .BitOr b pos) Q :=
  he_op op_orD (HE.mono h fun n1 x hx => HE.mono hx fun n2 y hy => by
    obtain ⟨ks, ds, ls, es, rfl, rfl, nd, hz, q⟩ := hy
    intro W H v u tr dx dy R r
    obtain ⟨p, kvs, rfl, np, hp, hk, hx⟩ := dx.dic_inv
    obtain ⟨p', more, rfl, np', hp', hk', hx'⟩ := dy.dic_inv
    have l1 : kvs.length = ks.length := by simpa using congrArg List.length hk
    have l2 : more.length = ls.length := by simpa using congrArg List.length hk'
    refine ⟨p, p', kvs, more, rfl, rfl, hp, hp', by omega, fun q' hq' => ?_⟩
    have em : mergeK kvs more = kvs ++ more := mergeK_new (by
      rw [hk, hk', ← List.map_append]
      exact nodup_inr nd)
    rw [em]
    have s : Same H (upd H q' (.dK (kvs ++ more))) := Same.upd hq'
    refine r _ _ _ q s (.dic (fun z => ?_) upd_same (by simp [hk, hk']) ?_)
    · obtain ⟨o, e⟩ := tr q' z
      rw [hq'] at e
      cases e
    · rw [List.map_append]
      exact (hx.same s).append (hx'.same s))
/-- len(set(x)), x a list or a tuple of texts -/
theorem he_lenSet {p p2 q : Pos} (hc : X.calm = true) (hm : X.mg "len" = none) (hm2 : X.mg "set" = none) (h : HE X g n ρ a fun n1 d => ∃ ss : List Str, (d = .lst (ss.map .str) ∨ d = .tup (ss.map .str)) ∧ ss.length + 2 < scanBound ∧ Q n1 (.int (met ss).length)) (hg : Gl X "len" := by rfl) (hg2 : Gl X "set" := by rfl)
    (na : starEach [a] X.env = (false, eval a X.env) :: starEach [] X.env := by rfl) : HE X g n ρ (.Call (.Name "len" p) [.Call (.Name "set" p2) [a] [] q] [] pos) Q := fun W σ H k R r => by
  refine (pe_lenTexts hc hg hm hg2 hm2 peW na).wpr (h W σ H k _ fun n1 d v H1 qd e1 j1 dd => ?_)
  obtain ⟨ss, hd, hz, qd⟩ := qd
  rcases hd with rfl | rfl
  · obtain ⟨l, xs, rfl, nl, hl, hx⟩ := dd.lst_inv
    have ex := hx.strs
    subst ex
    exact ⟨l, ss, rfl, .inl (.inl (.inl hl)), hz, r n1 _ _ H1 qd e1 j1 (.int _)⟩
  · obtain ⟨l, xs, rfl, nl, hl, hx⟩ := dd.tup_inv
    have ex := hx.strs
    subst ex
    exact ⟨l, ss, rfl, .inr (.inl (.inl hl)), hz, r n1 _ _ H1 qd e1 j1 (.int _)⟩
end
end Fk
set_option Elab.async false
set_option linter.all false
set_option maxRecDepth 100000
set_option maxHeartbeats 4000000
/-! M1: what the checkers say, on data. -/
namespace Fk
open PySem PySem.Spec PyProof.Rows L2
/-! ### how deep, how big -/
mutual
def D.fit : Nat → D → Bool
  | 0, _ => false
  | k + 1, d => match d with
    | .tup ds => decide (ds.length ≤ 1000) && fits k ds
    | .lst ds => decide (ds.length ≤ 1000) && fits k ds
    | .non => true
    | .bl _ => true
    | .int _ => true
    | .str _ => true
    | .dic _ _ => false
    | .fn _ => false
    | .obj _ => false
def fits : Nat → List D → Bool
  | _, [] => true
  | k, d :: ds => D.fit k d && fits k ds
end
mutual
def D.sz : D → Nat
  | .str s => s.length + 1
  | .tup ds => szs ds + 1
  | .lst ds => szs ds + 1
  | _ => 1
def szs : List D → Nat
  | [] => 0
  | d :: ds => d.sz + szs ds
end
theorem fits_mem : ∀ {k : Nat} {ds : List D}, fits k ds = true → ∀ d ∈ ds, d.fit k = true
  | _, [], _, d, h => by cases h
  | k, e :: ds, h, d, hd => by
    rw [fits, Bool.and_eq_true] at h
    rcases List.mem_cons.mp hd with rfl | hd
    · exact h.1
    · exact fits_mem h.2 d hd
theorem fits_of : ∀ {k : Nat} {ds : List D}, (∀ d ∈ ds, d.fit k = true) → fits k ds = true
  | _, [], _ => by rw [fits]
  | k, e :: ds, h => by
    rw [fits, h e List.mem_cons_self, fits_of fun d hd => h d (List.mem_cons_of_mem _ hd)]
    rfl
theorem szs_mem : ∀ {ds : List D} {d : D}, d ∈ ds → d.sz ≤ szs ds
  | [], _, h => by cases h
  | e :: ds, d, h => by
    rw [szs]
    rcases List.mem_cons.mp h with rfl | h
    · omega
    · have := szs_mem h
      omega
theorem sz_pos : ∀ d : D, 1 ≤ d.sz := fun d => by cases d <;> simp [D.sz]
theorem szs_len : ∀ ds : List D, ds.length ≤ szs ds
  | [] => by rw [szs]; exact Nat.le_refl _
  | d :: ds => by
    have h1 := szs_len ds
    have h2 := sz_pos d
    rw [szs, List.length_cons]
    omega
theorem fit_tup {k : Nat} {ds : List D} (h : (D.tup ds).fit k = true) : ∃ j, k = j + 1 ∧ ∀ d ∈ ds, d.fit j = true := by
  cases k with
  | zero => rw [D.fit] at h; cases h
  | succ j =>
    rw [D.fit, Bool.and_eq_true] at h
    exact ⟨j, rfl, fits_mem h.2⟩
theorem fit_len {k : Nat} {ds : List D} (h : (D.tup ds).fit k = true) : ds.length ≤ 1000 := by
  cases k with
  | zero => rw [D.fit] at h; cases h
  | succ j =>
    rw [D.fit, Bool.and_eq_true] at h
    exact of_decide_eq_true h.1
theorem fit_mono : ∀ {k j : Nat} {d : D}, k ≤ j → d.fit k = true → d.fit j = true := by
  intro k
  induction k with
  | zero => intro j d _ h; rw [D.fit] at h; cases h
  | succ k ih =>
    intro j d hj h
    obtain ⟨j, rfl⟩ : ∃ i, j = i + 1 := ⟨j - 1, by omega⟩
    cases d with
    | tup ds =>
      rw [D.fit, Bool.and_eq_true] at h ⊢
      exact ⟨h.1, fits_of fun d hd => ih (by omega) (fits_mem h.2 d hd)⟩
    | lst ds =>
      rw [D.fit, Bool.and_eq_true] at h ⊢
      exact ⟨h.1, fits_of fun d hd => ih (by omega) (fits_mem h.2 d hd)⟩
    | _ => first | rfl | (simp [D.fit] at h)
theorem fit_typed {k : Nat} {d : D} (h : d.fit k = true) : d.typed = true := by
  cases k with
  | zero => rw [D.fit] at h; cases h
  | succ k => cases d <;> first | rfl | (simp [D.fit] at h)
/-! ### the small checks -/
def isNum : D → Bool
  | .int _ => true
  | _ => false
def LET : Str := "abcdefghijklmnopqrstuvwxyz"
def isWord : D → Bool
  | .str s => (decide (1 ≤ s.length) && decide (s.length ≤ 8)) && s.cps.toList.all fun c => decide (c ∈ LET.cps.toList)
  | _ => false
def isRow : D → Bool
  | .str s => !(!(Builtin.Str.occurrences s "\n" 0 s.length 1).isEmpty)
  | _ => false
def SGN : List Str := ["<", "=", ">"]
def isSign : D → Bool
  | .str s => decide (s ∈ SGN)
  | _ => false
def areAll (p : D → Bool) : D → Bool
  | .tup ds => ds.all p
  | _ => false
def looked (L : Str → D → Bool) : D → D → Bool
  | .fn x, a => L x a
  | _, _ => true
def zipAll (L : Str → D → Bool) : List D → List D → Bool
  | l :: ls, a :: as => looked L l a && zipAll L ls as
  | _, _ => true
def formed (ks : List Str) (vs : List D) (L : Str → D → Bool) : D → Bool
  | .tup (.str h :: as) => match dlook ks vs h with
    | some (.tup ls) => decide (as.length = ls.length) && zipAll L ls as
    | _ => false
  | _ => false
def lookF (S T : D → Bool) (x : Str) (a : D) : Bool :=
  if x = "is_number" then isNum a else if x = "is_word" then isWord a else if x = "is_row_text" then isRow a else if x = "is_sign" then isSign a else if x = "is_sum" then S a else if x = "is_test" then T a else if x = "are_tests" then areAll T a else false
def sumK : List Str := ["num", "of", "seen", "plus", "minus"]
def sumV : List D := [.tup [.fn "is_number"], .tup [.fn "is_word"], .tup [.fn "is_word"], .tup [.fn "is_sum", .fn "is_sum"], .tup [.fn "is_sum", .fn "is_sum"]]
def isSumF : Nat → D → Bool
  | 0, _ => false
  | k + 1, d => formed sumK sumV (lookF (isSumF k) fun _ => false) d
def testK : List Str := ["is", "at", "with", "not", "all", "any"]
def testV : List D := [.tup [.fn "is_sum", .fn "is_sign", .fn "is_sum"], .tup [.fn "is_word", .fn "is_word"], .tup [.fn "is_word", .fn "is_word"], .tup [.fn "is_test"], .tup [.fn "are_tests"], .tup [.fn "are_tests"]]
def isTestF : Nat → D → Bool
  | 0, _ => false
  | k + 1, d => formed testK testV (lookF (isSumF k) (isTestF k)) d
def FU : Nat := 30
def lookU : Str → D → Bool := lookF (isSumF FU) (isTestF FU)
def labelK : List Str := ["text", "worth", "place", "end", "glue", "if"]
def labelV : List D := [.tup [.fn "is_row_text"], .tup [.fn "is_sum"], .tup [.fn "is_word"], .tup [], .tup [], .tup [.fn "is_test", .non, .non]]
def pieceK : List Str := labelK ++ [("only" : Str)]
def pieceV : List D := labelV ++ [.tup [.fn "is_word", .non]]
mutual
def okPs (ks : List Str) (vs : List D) : D → Bool
  | .tup ps => okL ks vs ps
  | _ => false
def okL (ks : List Str) (vs : List D) : List D → Bool
  | [] => true
  | p :: ps => okP ks vs p && okL ks vs ps
def okP (ks : List Str) (vs : List D) : D → Bool
  | .tup as => formed ks vs lookU (.tup as) && okA ks vs (match as with
    | .str h :: _ => match dlook ks vs h with
      | some (.tup ls) => .fn "" :: ls
      | _ => []
    | _ => []) as
  | _ => false
def okA (ks : List Str) (vs : List D) : List D → List D → Bool
  | .non :: ls, a :: as => okPs ks vs a && okA ks vs ls as
  | _ :: ls, _ :: as => okA ks vs ls as
  | _, _ => true
end
def deedK : List Str := ["set", "draw", "go", "put", "join", "leave"]
def deedV : List D := [.tup [.fn "is_word", .fn "is_sum"], .tup [.fn "is_word"], .tup [.fn "is_word", .fn "is_word"], .tup [.fn "is_word", .fn "is_word"], .tup [.fn "is_word", .fn "is_word"], .tup [.fn "is_word"]]
def isDeed (d : D) : Bool := formed deedK deedV lookU d
def nextK : List Str := ["to", "into", "back"]
def nextV : List D := [.tup [.fn "is_word"], .tup [.fn "is_word", .fn "is_word"], .tup []]
def isNext (d : D) : Bool := formed nextK nextV lookU d
/-! ### scenes, stories -/
def rowOf (L : Str → D → Bool) (ls : List Str) : D → Bool
  | .tup as => decide (as.length = ls.length) && zipAll L (ls.map D.fn) as
  | _ => false
def isBool : D → Bool
  | .bl _ => true
  | _ => false
def choiceL (x : Str) (a : D) : Bool :=
  if x = "is_word" then isWord a else if x = "are_label_pieces" then okPs labelK labelV a else if x = "is_test" then isTestF FU a else if x = "is_truth" then isBool a else if x = "are_deeds" then areAll isDeed a else if x = "is_next" then isNext a else false
def isChoice (d : D) : Bool := rowOf choiceL ["is_word", "are_label_pieces", "is_test", "is_truth", "are_deeds", "is_next"] d
/-- the first item of a tuple, a text -/
def key0 : D → Str
  | .tup (.str s :: _) => s
  | _ => Str.empty
def text : D → Str
  | .str s => s
  | _ => Str.empty
def unlike (ss : List Str) : Bool := decide ((met ss).length = ss.length)
def areChoices : D → Bool
  | .tup ds => ds.all isChoice && unlike (ds.map key0)
  | _ => false
def unlikeWords : D → Bool
  | .tup ds => ds.all isWord && unlike (ds.map text)
  | _ => false
def isEnding (d : D) : Bool := d.isNon || isWord d
def sceneL (x : Str) (a : D) : Bool :=
  if x = "is_word" then isWord a else if x = "are_pieces" then okPs pieceK pieceV a else if x = "are_choices" then areChoices a else if x = "are_unlike_words" then unlikeWords a else if x = "is_ending" then isEnding a else false
def isScene (d : D) : Bool := rowOf sceneL ["is_word", "are_pieces", "are_choices", "are_unlike_words", "is_ending"] d
mutual
def D.py : D → PyData
  | .non => .none
  | .bl b => .bool b
  | .int i => .int i
  | .str s => .str s
  | .tup ds => .tuple (pys ds)
  | .lst ds => .list (pys ds)
  | _ => .none
def pys : List D → List PyData
  | [] => []
  | d :: ds => d.py :: pys ds
end
/-- what Python's < says of two alike -/
def ltD (a b : D) : Bool := PySem.W.dataLt a.py b.py
def rise : List D → Bool
  | a :: b :: r => ltD a b && rise (b :: r)
  | _ => true
def isBounded : D → Bool
  | .tup [nm, .int lo, .int hi, .int f] => isWord nm && (decide (lo ≤ f) && decide (f ≤ hi))
  | _ => false
def isPair (d : D) : Bool := rowOf lookU ["is_word", "is_word"] d
def isDoor : D → Bool
  | .tup [.str a, .str b] => (isWord (.str a) && isWord (.str b)) && ltD (.str a) (.str b)
  | _ => false
def isDigit : D → Bool
  | .int i => decide (0 ≤ i) && decide (i ≤ 9)
  | _ => false
def named (p : D → Bool) : D → Bool
  | .tup ds => ds.all p && rise (ds.map fun d => .str (key0 d))
  | _ => false
def riseT : D → Bool
  | .tup ds => rise ds
  | _ => false
def isStory : D → Bool
  | .tup [nu, pl, dr, fi, dg, sc, bg] =>
    ((named isBounded nu && areAll isWord pl) && riseT pl) && (((areAll isDoor dr && riseT dr) && named isPair fi) && ((areAll isDigit dg && named isScene sc) && isWord bg))
  | _ => false
end Fk
set_option Elab.async false
set_option linter.all false
set_option maxRecDepth 100000
set_option maxHeartbeats 4000000
/-! K12: comprehensions of a function. -/
namespace Fk
open PySem PySem.Spec PyProof.Rows L2
section
variable {X : Cx} {g : Gx} {n : Nat} {ρ : List SV} {elt tg iter c : Expr} {scope : Scope} {own : List (Str × Nat)} {pos p : Pos} {Q : Nat → List D → Prop}
/-- a turn without a test -/
def Maps (X : Cx) (g : Gx) (ρ : List SV) (scope : Scope) (vs : List Nat) (tg elt : Expr) (n : Nat) (d y : D) : Prop :=
  ∃ ρ1, (∀ s H C cl fp, HG (Cx.bk X scope s H C cl fp) g ρ vs tg d ρ1) ∧ ∀ s H C cl fp, HE (Cx.bk X scope s H C cl fp) g n ρ1 elt fun n2 z => n2 = n ∧ z = y
theorem hf_map (f : D → D) (hc : X.calm = true) (hN : X.N.Nodup) (ok : BlkOk X.N X.env.scope scope own) (hw : ∀ i ∈ own.map (·.2), ∀ x, ρ[i]? = some x → x = SV.no)
    (h : HI X g n ρ tg iter fun n1 ds => ds.length ≤ sizeLine ∧ (∀ d ∈ ds, Maps X g ρ scope (own.map (·.2)) tg elt n1 d (f d)) ∧ Q n1 (ds.map f)) (hs : ∀ x, foldedSetIterable iter X.env x = pure x := by intro _; rfl) : HF X g n ρ (.ListComp elt [⟨tg, iter, [], 0⟩] scope pos) Q := by
  refine hf_lc hc hN ok hw ?_ hs
  obtain ⟨wi, pi, hi⟩ := h
  refine ⟨wi, pi, fun W σ H k R r => hi W σ H k R fun n1 ds J τ H' q => r n1 ds J τ H' ?_⟩
  obtain ⟨hz, hm, hq⟩ := q
  refine ⟨fun i m acc => m = n1 ∧ acc = (ds.take i).map f, ⟨rfl, rfl⟩, fun i d m acc hd hi => ?_, fun m acc hi => ?_⟩
  · obtain ⟨rfl, rfl⟩ := hi
    have hlt : i < ds.length := (List.getElem?_eq_some_iff.mp hd).1
    refine ⟨by simp; omega, ?_⟩
    obtain ⟨ρ1, h1, h2⟩ := hm d (List.mem_of_getElem? hd)
    refine ⟨ρ1, h1, fun n' b => n' = m ∧ b = true, fun s H C cl fp => hts_nil ⟨rfl, rfl⟩, fun n' hn s H C cl fp => ?_, fun n' hn => absurd hn.2 (by decide)⟩
    obtain ⟨rfl, _⟩ := hn
    refine HE.mono (h2 s H C cl fp) fun n2 y hy => ?_
    obtain ⟨rfl, rfl⟩ := hy
    refine ⟨rfl, ?_⟩
    rw [List.take_add_one, hd]
    simp
  · obtain ⟨rfl, rfl⟩ := hi
    rw [List.take_length]
    exact hq
/-- with a test: f gives what is kept -/
def MapsIf (X : Cx) (g : Gx) (ρ : List SV) (scope : Scope) (vs : List Nat) (tg c elt : Expr) (n : Nat) (d : D) (y : Option D) : Prop :=
  ∃ ρ1, (∀ s H C cl fp, HG (Cx.bk X scope s H C cl fp) g ρ vs tg d ρ1) ∧ (∀ s H C cl fp, HT (Cx.bk X scope s H C cl fp) g n ρ1 c fun n2 b => n2 = n ∧ b = y.isSome) ∧ ∀ s H C cl fp, y.isSome = true → HE (Cx.bk X scope s H C cl fp) g n ρ1 elt fun n2 z => n2 = n ∧ y = some z
theorem hf_mapIf (f : D → Option D) (hc : X.calm = true) (hN : X.N.Nodup) (ok : BlkOk X.N X.env.scope scope own) (hw : ∀ i ∈ own.map (·.2), ∀ x, ρ[i]? = some x → x = SV.no)
    (h : HI X g n ρ tg iter fun n1 ds => ds.length ≤ sizeLine ∧ (∀ d ∈ ds, MapsIf X g ρ scope (own.map (·.2)) tg c elt n1 d (f d)) ∧ Q n1 (ds.filterMap f)) (hs : ∀ x, foldedSetIterable iter X.env x = pure x := by intro _; rfl) : HF X g n ρ (.ListComp elt [⟨tg, iter, [c], 0⟩] scope pos) Q := by
  refine hf_lc hc hN ok hw ?_ hs
  obtain ⟨wi, pi, hi⟩ := h
  refine ⟨wi, pi, fun W σ H k R r => hi W σ H k R fun n1 ds J τ H' q => r n1 ds J τ H' ?_⟩
  obtain ⟨hz, hm, hq⟩ := q
  refine ⟨fun i m acc => m = n1 ∧ acc = (ds.take i).filterMap f, ⟨rfl, rfl⟩, fun i d m acc hd hi => ?_, fun m acc hi => ?_⟩
  · obtain ⟨rfl, rfl⟩ := hi
    have hlt : i < ds.length := (List.getElem?_eq_some_iff.mp hd).1
    have hl : ((ds.take i).filterMap f).length ≤ (ds.take i).length := List.length_filterMap_le ..
    refine ⟨by rw [List.length_take] at hl; omega, ?_⟩
    obtain ⟨ρ1, h1, h2, h3⟩ := hm d (List.mem_of_getElem? hd)
    refine ⟨ρ1, h1, fun n' b => n' = m ∧ b = (f d).isSome, fun s H C cl fp => hts_one (h2 s H C cl fp), fun n' hn s H C cl fp => ?_, fun n' hn => ?_⟩
    · obtain ⟨rfl, hb⟩ := hn
      refine HE.mono (h3 s H C cl fp hb.symm) fun n2 y hy => ?_
      obtain ⟨rfl, hy⟩ := hy
      refine ⟨rfl, ?_⟩
      rw [List.take_add_one, hd, List.filterMap_append]
      simp [hy]
    · obtain ⟨rfl, hb⟩ := hn
      refine ⟨rfl, ?_⟩
      have e : f d = none := by
        cases z : f d with
        | none => rfl
        | some y => rw [z] at hb; cases hb
      rw [List.take_add_one, hd, List.filterMap_append]
      simp [e]
  · obtain ⟨rfl, rfl⟩ := hi
    rw [List.take_length]
    exact hq
/-- all([..]) -/
theorem he_allMap (f : D → Bool) (hm : X.mg "all" = none) (hc : X.calm = true) (hN : X.N.Nodup) (ok : BlkOk X.N X.env.scope scope own) (hw : ∀ i ∈ own.map (·.2), ∀ x, ρ[i]? = some x → x = SV.no) {Q : Nat → D → Prop}
    (h : HI X g n ρ tg iter fun n1 ds => ds.length ≤ sizeLine ∧ (∀ d ∈ ds, Maps X g ρ scope (own.map (·.2)) tg elt n1 d (.bl (f d))) ∧ Q n1 (.bl (ds.all f))) {p2 : Pos} (hg : Gl X "all" := by rfl) (hs : ∀ x, foldedSetIterable iter X.env x = pure x := by intro _; rfl) :
    HE X g n ρ (.Call (.Name "all" p2) [.ListComp elt [⟨tg, iter, [], 0⟩] scope p] [] pos) Q := by
  refine he_all hm hc (he_lst (hf_map (fun d => .bl (f d)) hc hN ok hw ?_ hs)) hg
  obtain ⟨wi, pi, hi⟩ := h
  refine ⟨wi, pi, fun W σ H k R r => hi W σ H k R fun n1 ds J τ H' q => r n1 ds J τ H' ?_⟩
  obtain ⟨hz, hm, hq⟩ := q
  refine ⟨hz, hm, ds.map f, by rw [List.map_map]; rfl, ?_⟩
  have e : (ds.map f).all id = ds.all f := by rw [List.all_map]; rfl
  rw [e]
  exact hq
end
theorem own1 {ρ : List SV} {x : Str} {i : Nat} (h : ρ[i]? = some SV.no) : ∀ j ∈ ([(x, i)] : List (Str × Nat)).map (·.2), ∀ y, ρ[j]? = some y → y = SV.no := fun j hj y hy => by
  have e : j = i := by simpa using hj
  rw [e, h] at hy
  exact (Option.some.inj hy).symm
theorem own2 {ρ : List SV} {x z : Str} {i k : Nat} (h : ρ[i]? = some SV.no) (h2 : ρ[k]? = some SV.no) : ∀ j ∈ ([(x, i), (z, k)] : List (Str × Nat)).map (·.2), ∀ y, ρ[j]? = some y → y = SV.no := fun j hj y hy => by
  have e : j = i ∨ j = k := by simpa using hj
  rcases e with e | e
  · rw [e, h] at hy
    exact (Option.some.inj hy).symm
  · rw [e, h2] at hy
    exact (Option.some.inj hy).symm
section
variable {X : Cx} {g : Gx} {n : Nat} {ρ : List SV} {e : Expr} {pos : Pos} {Q : Nat → Option Int → Prop}
theorem ho_none (q : Q n none) : HO X g n ρ none Q := q
theorem ho_some (h : HE X g n ρ e fun n1 d => ∃ i, d = .int i ∧ Q n1 (some i)) : HO X g n ρ (some e) Q := h
theorem ho_int {i : Int} {j : Nat} (q : Q n (some i)) : HO X g n ρ (some (.Constant (.int i) j pos)) Q := ho_some (he_int ⟨i, rfl, q⟩)
end
/-! ### a test without effect -/
section
variable {X : Cx} {g : Gx} {n : Nat} {ρ : List SV} {c a b : Expr} {rest : List Expr} {pos : Pos} {body orelse : List Stmt} {nx : Nat → List SV → Prop} {rt : Nat → SV → Prop}
theorem hs_ifP (p : Bool) (h : HT X g n ρ c fun n' b => n' = n ∧ b = p) (h1 : p = true → HSs X g n ρ body nx rt) (h2 : p = false → HSs X g n ρ orelse nx rt) : HS X g n ρ (.If c body orelse pos) nx rt :=
  hs_if (HT.mono h fun n' b q => by
    obtain ⟨rfl, rfl⟩ := q
    exact ⟨h1, h2⟩)
theorem hw_orP {p q : Bool} (h1 : HT X g n ρ a fun n' b => n' = n ∧ b = p) (h2 : p = false → HW X g n ρ (.BoolOp .Or (b :: rest) pos) fun n' b => n' = n ∧ b = q) : HW X g n ρ (.BoolOp .Or (a :: b :: rest) pos) fun n' b => n' = n ∧ b = (p || q) :=
  hw_or (HT.mono h1 fun n' c z => by
    obtain ⟨rfl, rfl⟩ := z
    refine ⟨fun e => ⟨rfl, by rw [e]; rfl⟩, fun e => ?_⟩
    rw [e]
    exact h2 e)
theorem hw_andP {p q : Bool} (h1 : HT X g n ρ a fun n' b => n' = n ∧ b = p) (h2 : p = true → HW X g n ρ (.BoolOp .And (b :: rest) pos) fun n' b => n' = n ∧ b = q) : HW X g n ρ (.BoolOp .And (a :: b :: rest) pos) fun n' b => n' = n ∧ b = (p && q) :=
  hw_and (HT.mono h1 fun n' c z => by
    obtain ⟨rfl, rfl⟩ := z
    refine ⟨fun e => ?_, fun e => ⟨rfl, by rw [e]; rfl⟩⟩
    rw [e]
    exact h2 e)
theorem he_andP {p q : Bool} (h1 : HE X g n ρ a fun n' d => n' = n ∧ d = .bl p) (h2 : p = true → HE X g n ρ (.BoolOp .And (b :: rest) pos) fun n' d => n' = n ∧ d = .bl q) : HE X g n ρ (.BoolOp .And (a :: b :: rest) pos) fun n' d => n' = n ∧ d = .bl (p && q) :=
  he_and (HE.mono h1 fun n' c z => by
    obtain ⟨rfl, rfl⟩ := z
    refine ⟨p, rfl, fun e => ?_, fun e => ⟨rfl, by rw [e]; rfl⟩⟩
    rw [e]
    exact h2 e)
theorem he_orP {p q : Bool} (h1 : HE X g n ρ a fun n' d => n' = n ∧ d = .bl p) (h2 : p = false → HE X g n ρ (.BoolOp .Or (b :: rest) pos) fun n' d => n' = n ∧ d = .bl q) : HE X g n ρ (.BoolOp .Or (a :: b :: rest) pos) fun n' d => n' = n ∧ d = .bl (p || q) :=
  he_or (HE.mono h1 fun n' c z => by
    obtain ⟨rfl, rfl⟩ := z
    refine ⟨p, rfl, fun e => ⟨rfl, by rw [e]; rfl⟩, fun e => ?_⟩
    rw [e]
    exact h2 e)
theorem ht_notP {p : Bool} (h : HT X g n ρ a fun n' b => n' = n ∧ b = p) : HT X g n ρ (.UnaryOp .Not a pos) fun n' b => n' = n ∧ b = !p := ht_not (HT.mono h fun n' b q => ⟨q.1, by rw [q.2]⟩)
theorem he_notP {p : Bool} (h : HE X g n ρ a fun n' d => n' = n ∧ d = .bl p) : HE X g n ρ (.UnaryOp .Not a pos) fun n' d => n' = n ∧ d = .bl (!p) := he_not (HE.mono h fun n' b q => ⟨p, q.2, q.1, rfl⟩)
theorem ht_valP {p : Bool} (h : HE X g n ρ a fun n' d => n' = n ∧ d = .bl p) (he : ∀ whole, isTrue a X.env whole = (do let v ← whole; standAt a.pos; holding [v] (truthy v)) := by intro _; rfl) : HT X g n ρ a fun n' b => n' = n ∧ b = p := ht_val (HE.mono h fun n' d q => ⟨p, q.2, q.1, rfl⟩) he
end
/-! ### a one-place look at a datum -/
section
variable {P : Program} {w : World} {K : PySem.W.Frag} {mg : Str → Option Value} {base : Heap}
def MX : Nat := 2 ^ 20
abbrev On (P : Program) (w : World) (K : PySem.W.Frag) (mg : Str → Option Value) (base : Heap) (k : Nat) (x : Str) (d : D) (b : Bool) : Prop := Has P w K mg base k x ["thing"] fun _ n ds Q => ds = [d] ∧ Q n (.bl b)
theorem On.le {k k' : Nat} {x : Str} {d : D} {b : Bool} (h : On P w K mg base k x d b) (hk : k ≤ k') : On P w K mg base k' x d b := Has.imp h hk fun _ _ _ _ z => z
end
end Fk
set_option Elab.async false
set_option linter.all false
set_option maxRecDepth 100000
set_option maxHeartbeats 4000000
/-! K13: comprehensions of two clauses. -/
namespace Fk
open PySem PySem.Spec PyProof.Rows L2
def WI (X : Cx) (tg iter : Expr) : TI := fun σ H R => ∀ pins s, Inv X pins σ H s → wpAny (model X.prog X.w) X.A (eval iter X.env) (fun v s1 => wpAny (model X.prog X.w) X.A (pyIter v) (PIE X pins σ tg R) X.xe s1) X.xe s
theorem HI.w {X : Cx} {g : Gx} {n : Nat} {ρ : List SV} {tg iter : Expr} {Q : Nat → List D → Prop} (h : HI X g n ρ tg iter Q) {W : List Addr} {σ : L2.St} {H : Hp} (k : Ok X.K g W n ρ σ H) {R : It → Hp → Prop}
    (r : ∀ n' ds J τ H', Q n' ds → Ext g.G H H' → g.J n' H' → Feeds X.K J τ ds → (∀ p ∈ τ, DD X.K W H' p.1 p.2) → R J H') : WI X tg iter σ H R := fun pins s I => by
  obtain ⟨wi, pi, hi⟩ := h
  exact pi.run pins s σ H R I (hi W σ H k R r)
section
variable {X : Cx} {g : Gx} {n : Nat} {ρ : List SV} {elt tg iter tg1 iter1 : Expr} {scope : Scope} {own : List (Str × Nat)} {pos : Pos} {Q : Nat → List D → Prop} {vs0 vs1 : List Nat}
def Flat (X : Cx) (g : Gx) (ρ : List SV) (scope : Scope) (vs0 vs1 : List Nat) (tg tg1 iter1 elt : Expr) (n : Nat) (d : D) (es : List D) : Prop :=
  ∃ ρ1, (∀ s H C cl fp, HG (Cx.bk X scope s H C cl fp) g ρ vs0 tg d ρ1) ∧ (∀ i ∈ vs1, ∀ x, ρ1[i]? = some x → x = SV.no) ∧ (∀ s H C cl fp, HI (Cx.bk X scope s H C cl fp) g n ρ1 tg1 iter1 fun n2 fs => n2 = n ∧ fs = es) ∧
    ∀ e ∈ es, ∃ ρ2, (∀ s H C cl fp, HG (Cx.bk X scope s H C cl fp) g ρ1 vs1 tg1 e ρ2) ∧ ∀ s H C cl fp, HE (Cx.bk X scope s H C cl fp) g n ρ2 elt fun n3 y => n3 = n ∧ y = e
theorem hf_flat (F : D → List D) (hc : X.calm = true) (hN : X.N.Nodup) (ok : BlkOk X.N X.env.scope scope own) (hw : ∀ i ∈ own.map (·.2), ∀ x, ρ[i]? = some x → x = SV.no) (h0 : ∀ i ∈ vs0, i ∈ own.map (·.2)) (h1 : ∀ i ∈ vs1, i ∈ own.map (·.2))
    (h : HI X g n ρ tg iter fun n1 ds => (ds.flatMap F).length ≤ sizeLine ∧ (∀ d ∈ ds, Flat X g ρ scope vs0 vs1 tg tg1 iter1 elt n1 d (F d)) ∧ Q n1 (ds.flatMap F)) (hs : ∀ x, foldedSetIterable iter X.env x = pure x := by intro _; rfl) (hs1 : ∀ env x, foldedSetIterable iter1 env x = pure x := by intro _ _; rfl) :
    HF X g n ρ (.ListComp elt [⟨tg, iter, [], 0⟩, ⟨tg1, iter1, [], 0⟩] scope pos) Q := fun W σ H k R r => by
  obtain ⟨wi, pi, hi⟩ := h
  have p1 : ∀ (s : Shared) (H0 : Hp) (C : Addr) (cl : List (Str × Addr)) (fp : List Addr), PG (X.blk s H0 scope (compEnvC scope cl C X.env) fp) tg (fun v σ H Q => ∀ s H0 C cl fp, WG (Cx.bk X scope s H0 C cl fp) tg v σ H Q) := fun s H0 C cl fp => ⟨fun pins s1 _ _ _ u _ I r h => pgW.run pins s1 _ _ _ u _ I r (h s H0 C cl fp)⟩
  have p2 : ∀ (s : Shared) (H0 : Hp) (C : Addr) (cl : List (Str × Addr)) (fp : List Addr), PTs (X.blk s H0 scope (compEnvC scope cl C X.env) fp) [] (fun σ H Q => Q true H) := fun s H0 C cl fp => pts_nil
  have p3 : ∀ (s : Shared) (H0 : Hp) (C : Addr) (cl : List (Str × Addr)) (fp : List Addr), PI (X.blk s H0 scope (compEnvC scope cl C X.env) fp) tg1 iter1 (fun σ H Q => ∀ s H0 C cl fp, WI (Cx.bk X scope s H0 C cl fp) tg1 iter1 σ H Q) := fun s H0 C cl fp => ⟨fun pins s1 _ _ _ I h => h s H0 C cl fp pins s1 I⟩
  have p4 : ∀ (s : Shared) (H0 : Hp) (C : Addr) (cl : List (Str × Addr)) (fp : List Addr), PG (X.blk s H0 scope (compEnvC scope cl C X.env) fp) tg1 (fun v σ H Q => ∀ s H0 C cl fp, WG (Cx.bk X scope s H0 C cl fp) tg1 v σ H Q) := fun s H0 C cl fp => ⟨fun pins s1 _ _ _ u _ I r h => pgW.run pins s1 _ _ _ u _ I r (h s H0 C cl fp)⟩
  have p5 : ∀ (s : Shared) (H0 : Hp) (C : Addr) (cl : List (Str × Addr)) (fp : List Addr), PE (X.blk s H0 scope (compEnvC scope cl C X.env) fp) elt (fun σ H Q => ∀ s H0 C cl fp, WE (Cx.bk X scope s H0 C cl fp) elt σ H Q) := fun s H0 C cl fp => ⟨fun pins s1 _ _ _ I h => peW.run pins s1 _ _ _ I (h s H0 C cl fp)⟩
  refine (pe_lc2 hc hN pi ok h1 p1 p2 p3 p4 p2 p5 hs hs1).wpr ?_
  refine hi W σ H k _ fun n1 ds J τ H1 hq e1 j1 Fd hτ L0 hD => ?_
  obtain ⟨hz, turn, fin⟩ := hq
  have k1 := k.step e1 j1
  have nDF : L0 ∉ g.F := fun z => by
    obtain ⟨o, q⟩ := g.trk n1 H1 j1 L0 z
    rw [hD] at q
    cases q
  have nDG : L0 ∉ g.G := fun z => nDF (g.sub L0 z)
  have keepD : ∀ {Ha Hb : Hp} {xs : List V}, Ext g.G Ha Hb → Ha L0 = some (.lst xs) → Hb L0 = some (.lst xs) := fun e hq => e L0 _ nDG hq
  -- the state between the turns
  let St : List D → Hp → Prop := fun acc H' => ∃ xs, Ext g.G H1 H' ∧ g.J n1 H' ∧ H' L0 = some (.lst xs) ∧ DDs X.K (L0 :: W) H' xs acc
  have stOk : ∀ {acc : List D} {H' : Hp}, St acc H' → Ok X.K g (L0 :: W) n1 ρ σ H' ∧ Ext (L0 :: W) H1 H' := fun {acc H'} ⟨xs, e2, j2, hD2, dacc⟩ =>
    ⟨k1.grow hD e2 j2 ⟨_, hD2⟩, e2.mono fun a h => List.mem_cons_of_mem _ (k1.gw.G a h)⟩
  refine ⟨fun i m H' => i + m = ds.length ∧ St ((ds.take i).flatMap F) H', ⟨ds.length, by omega, [], Ext.upd hD, g.same j1 (Same.upd hD), upd_same, .nil⟩, fun i m H' hW => ?_⟩
  obtain ⟨hm, S⟩ := hW
  obtain ⟨kk, extD⟩ := stOk S
  have hτ2 : ∀ p ∈ τ, DD X.K (L0 :: W) H' p.1 p.2 := fun p hp => ((hτ p hp).fresh hD).ext extD
  cases q : ds[i]? with
  | none =>
    have hl : ds.length ≤ i := List.getElem?_eq_none_iff.mp q
    have ei : i = ds.length := by omega
    subst ei
    obtain ⟨xs, e2, j2, hD2, dacc⟩ := S
    refine .inl ⟨Fd.stop _ H' hτ2, ?_⟩
    rw [List.take_length] at dacc
    exact r n1 _ L0 xs H' fin (k.back e1 j1 hD) (e1.trans e2) j2 hD2 dacc
  | some d =>
    have hlt : i < ds.length := (List.getElem?_eq_some_iff.mp q).1
    have htk : (ds.take (i + 1)).flatMap F = (ds.take i).flatMap F ++ F d := by
      rw [List.take_add_one, q, List.flatMap_append]
      simp
    have hlen : ((ds.take (i + 1)).flatMap F).length ≤ (ds.flatMap F).length := by
      have e : ds.flatMap F = (ds.take (i + 1)).flatMap F ++ (ds.drop (i + 1)).flatMap F := by rw [← List.flatMap_append, List.take_append_drop]
      rw [e, List.length_append]
      omega
    rw [htk, List.length_append] at hlen
    refine .inr ⟨Fd.go _ H' hτ2 i d q, fun H'' => St ((ds.take (i + 1)).flatMap F) H'', fun H'' hn => ⟨m - 1, by omega, by omega, hn⟩, fun x H3 hy s0 H0 C cl fp => ?_⟩
    obtain ⟨s3, dx⟩ := Fd.yld _ H' hτ2 kk.trk i d q x H3 hy
    have k3 := kk.same s3
    obtain ⟨ρ1, hg, hno, hin, hel⟩ := turn d (List.mem_of_getElem? q)
    refine (hg s0 H0 C cl fp).run n1 (L0 :: W) (wipe σ (own.map (·.2))) H3 x (k3.wiped hw) dx _ fun σ4 H4 s4 k4 f4 l4 => ?_
    have own4 : ∀ (i' : Nat) (es : List D) (a : Addr), ρ1[i']? = some (.own es) → σ4[i']? = some (some (.ref a)) → a ≠ L0 := fun i' es a h1' h2' z => by
      have nv : i' ∉ vs0 := fun z => (hg s0 H0 C cl fp).ow i' z es h1'
      rw [(hg s0 H0 C cl fp).fr i' nv] at h1'
      have no : i' ∉ own.map (·.2) := fun z => by cases hw i' z _ h1'
      rw [f4 i' nv, wipe_out no] at h2'
      obtain ⟨b, zs, t1, _, _, t4, _⟩ := k1.owns i' es h1'
      rw [t1] at h2'
      cases h2'
      rw [z, hD] at t4
      cases t4
    refine ⟨wipe_eq l4 fun j hj => f4 j fun z => hj (h0 j z), ?_⟩
    show if true = true then _ else _
    rw [if_pos rfl]
    intro s5 H05 C5 cl5 fp5
    refine HI.w (hin s5 H05 C5 cl5 fp5) k4 fun n5 es J1 τ1 H5 hes e5 j5 F1 hτ1 => ?_
    obtain ⟨rfl, rfl⟩ := hes
    have S5 : St ((ds.take i).flatMap F) H5 := by
      obtain ⟨xs, e2, j2, hD2, dacc⟩ := S
      exact ⟨xs, ((e2.trans (.of_same s3)).trans (.of_same s4)).trans e5, j5, keepD e5 (s4 _ _ (s3 _ _ hD2)), ((dacc.same s3).same s4).ext (k4.extW e5)⟩
    have k5 := k4.step e5 j5
    refine ⟨fun j m H' => j + m = (F d).length ∧ (∃ xs, Ext g.G H1 H' ∧ g.J n5 H' ∧ H' L0 = some (.lst xs) ∧ DDs X.K (L0 :: W) H' xs ((ds.take i).flatMap F ++ (F d).take j)) ∧ Ok X.K g (L0 :: W) n5 ρ1 σ4 H' ∧ (∀ p ∈ τ1, DD X.K (L0 :: W) H' p.1 p.2), ⟨(F d).length, by omega, by rw [List.take_zero, List.append_nil]; exact S5, k5, hτ1⟩, fun j m H' hW => ?_⟩
    obtain ⟨hm1, S6, k6, hτ6⟩ := hW
    cases q1 : (F d)[j]? with
    | none =>
      have hl : (F d).length ≤ j := List.getElem?_eq_none_iff.mp q1
      have ej : j = (F d).length := by omega
      subst ej
      refine .inl ⟨F1.stop _ H' hτ6, ?_⟩
      show St ((ds.take (i + 1)).flatMap F) H'
      rw [htk]
      rw [List.take_length] at S6
      exact S6
    | some e =>
      have hlt1 : j < (F d).length := (List.getElem?_eq_some_iff.mp q1).1
      obtain ⟨ρ2, hg1, he1⟩ := hel e (List.mem_of_getElem? q1)
      refine .inr ⟨F1.go _ H' hτ6 j e q1, fun H'' => (∃ xs, Ext g.G H1 H'' ∧ g.J n5 H'' ∧ H'' L0 = some (.lst xs) ∧ DDs X.K (L0 :: W) H'' xs ((ds.take i).flatMap F ++ (F d).take (j + 1))) ∧ Ok X.K g (L0 :: W) n5 ρ1 σ4 H'' ∧ (∀ p ∈ τ1, DD X.K (L0 :: W) H'' p.1 p.2), fun H'' hn => ⟨m - 1, by omega, by omega, hn⟩, fun y H7 hy1 s7 H07 C7 cl7 fp7 => ?_⟩
      obtain ⟨s8, dy⟩ := F1.yld _ H' hτ6 k6.trk j e q1 y H7 hy1
      have k8 := k6.same s8
      refine (hg1 s7 H07 C7 cl7 fp7).run n5 (L0 :: W) (wipe σ4 vs1) H7 y (k8.wiped hno) dy _ fun σ9 H9 s9 k9 f9 l9 => ?_
      refine ⟨wipe_eq l9 f9, ?_⟩
      show if true = true then _ else _
      rw [if_pos rfl]
      intro s10 H010 C10 cl10 fp10
      refine he1 s10 H010 C10 cl10 fp10 (L0 :: W) σ9 H9 k9 _ fun n11 z v H11 q11 e11 j11 dz => ?_
      obtain ⟨rfl, rfl⟩ := q11
      obtain ⟨xs, e2, j2, hD2, dacc⟩ := S6
      have hD9 := s9 _ _ (s8 _ _ hD2)
      have hD11 := keepD e11 hD9
      have d11 := (((dacc.same s8).same s9).ext (k9.extW e11))
      have ext : Ext (L0 :: W) H11 (upd H11 L0 (.lst (xs ++ [v]))) := fun a o ha hq => by
        rw [upd_ne fun z => ha (by rw [z]; exact List.mem_cons_self)]
        exact hq
      have hJ : g.J n11 (upd H11 L0 (.lst (xs ++ [v]))) := g.stab n11 H11 _ j11 fun a ha => upd_ne fun z => nDF (z ▸ ha)
      have eall : Ext g.G H1 H11 := ((e2.trans (.of_same s8)).trans (.of_same s9)).trans e11
      refine ⟨xs, hD11, ?_, ⟨xs ++ [v], ?_, hJ, upd_same, ?_⟩, ?_, ?_⟩
      · rw [d11.length, List.length_append, List.length_take]
        omega
      · intro a o ha hq
        have na : a ≠ L0 := fun z => by
          rw [z, hD] at hq
          cases hq
        rw [upd_ne na]
        exact eall a o ha hq
      · rw [List.take_add_one, q1, ← List.append_assoc]
        exact (d11.ext ext).append (.cons (dz.ext ext) .nil)
      · have k11 := (k8.same s9).step e11 j11
        refine ⟨hJ, k11.gw, fun a ha => ?_, k11.len, fun i' d' hd' => ?_, fun i' ds' hd' => ?_⟩
        · by_cases hba : a = L0
          · rw [hba]
            exact ⟨_, upd_same⟩
          · rw [upd_ne hba]
            exact k11.trk a ha
        · obtain ⟨u, u1, u2⟩ := k11.dats i' d' hd'
          exact ⟨u, u1, u2.ext ext⟩
        · obtain ⟨a, ys, u1, u2, u3, u4, u5⟩ := k11.owns i' ds' hd'
          refine ⟨a, ys, u1, u2, u3, ?_, u5.ext ext⟩
          have na : a ≠ L0 := own4 i' ds' a hd' u1
          rw [upd_ne na]
          exact u4
      · intro p hp
        exact ((((hτ6 p hp).same s8).same s9).ext (k9.extW e11)).ext ext
end
end Fk
set_option Elab.async false
set_option linter.all false
set_option maxRecDepth 100000
set_option maxHeartbeats 4000000
/-! K14: a, b = x, y with plain names; = a comprehension on one line. -/
namespace Fk
open PySem PySem.Spec PyProof.Rows L2
section
variable {X : Cx} {g : Gx} {n : Nat} {ρ : List SV} {a b c : Expr} {pos px py pz pt : Pos} {kt k2 : Nat} {pt2 : Pos} {nx : Nat → List SV → Prop} {rt : Nat → SV → Prop} {x y z : Str} {i j l : Nat}
theorem hs_parOO (hN : X.N.Nodup) (hi : X.N[i]? = some x) (hj : X.N[j]? = some y) (hij : i ≠ j) (h : HF X g n ρ a fun n1 ds => HF X g n1 ρ b fun n2 es => nx n2 ((ρ.set i (.own ds)).set j (.own es))) (hc : X.calm = true := by rfl)
    (hx : X.env.scope.names.lookup x = some .local := by rfl) (hy : X.env.scope.names.lookup y = some .local := by rfl) (hw : swappedStores [.Tuple [.Name x px, .Name y py] kt pt] (.Tuple [a, b] k2 pt2) X.env = pure (some [x, y]) := by rfl)
    (hs : swapsWithSole [.Tuple [.Name x px, .Name y py] kt pt] (.Tuple [a, b] k2 pt2) pos.line X.env = pure false := by rfl) (h1 : starEach [a, b] X.env = (false, eval a X.env) :: starEach [b] X.env := by rfl) (h2 : starEach [b] X.env = (false, eval b X.env) :: starEach [] X.env := by rfl) :
    HS X g n ρ (.Assign [.Tuple [.Name x px, .Name y py] kt pt] (.Tuple [a, b] k2 pt2) pos) nx rt := fun H0 W0 τ σ H S Dd q1 q2 => by
  obtain ⟨W, w1, w2, k, w3⟩ := S.ex
  refine (ps_par hc hN hi hj hij hx hy (pa_cons peW (pa_cons peW pa_nil h2) h1) hw hs).wpr ?_
  show WE X a σ H _
  refine h W σ H k _ fun n1 ds a1 xs H1 hb na e1 j1 ha dd => ?_
  obtain ⟨S1, A1, A2, A3, A4⟩ := S.setO' (i := i) w1 w2 k w3 na e1 j1 ha dd
  show WE X b σ H1 _
  refine hb (a1 :: W) σ H1 (k.grow na e1 j1 ⟨_, ha⟩) _ fun n2 es a2 ys H2 hq na2 e2 j2 ha2 dd2 => ?_
  exact ⟨_, _, rfl, q1 n2 _ _ H2 hq (S1.setO A1 A2 A3 A4 na2 e2 j2 ha2 dd2)⟩
theorem hs_parDO (hN : X.N.Nodup) (hi : X.N[i]? = some x) (hj : X.N[j]? = some y) (hij : i ≠ j) (h : HE X g n ρ a fun n1 d => HF X g n1 ρ b fun n2 es => nx n2 ((ρ.set i (.dat d)).set j (.own es))) (hc : X.calm = true := by rfl)
    (hx : X.env.scope.names.lookup x = some .local := by rfl) (hy : X.env.scope.names.lookup y = some .local := by rfl) (hw : swappedStores [.Tuple [.Name x px, .Name y py] kt pt] (.Tuple [a, b] k2 pt2) X.env = pure (some [x, y]) := by rfl)
    (hs : swapsWithSole [.Tuple [.Name x px, .Name y py] kt pt] (.Tuple [a, b] k2 pt2) pos.line X.env = pure false := by rfl) (h1 : starEach [a, b] X.env = (false, eval a X.env) :: starEach [b] X.env := by rfl) (h2 : starEach [b] X.env = (false, eval b X.env) :: starEach [] X.env := by rfl) :
    HS X g n ρ (.Assign [.Tuple [.Name x px, .Name y py] kt pt] (.Tuple [a, b] k2 pt2) pos) nx rt := fun H0 W0 τ σ H S Dd q1 q2 => by
  obtain ⟨W, w1, w2, k, w3⟩ := S.ex
  refine (ps_par hc hN hi hj hij hx hy (pa_cons peW (pa_cons peW pa_nil h2) h1) hw hs).wpr ?_
  show WE X a σ H _
  refine h W σ H k _ fun n1 d v H1 hb e1 j1 dd => ?_
  have kk := k.step e1 j1
  have w3' : ∀ p ∈ τ, DD X.K W H1 p.1 p.2 := fun p hp => (w3 p hp).ext (k.extW e1)
  have S1 := (S.step k e1 j1).set (i := i) w1 w2 kk w3' dd
  show WE X b σ H1 _
  refine hb W σ H1 kk _ fun n2 es a2 ys H2 hq na2 e2 j2 ha2 dd2 => ?_
  exact ⟨_, _, rfl, q1 n2 _ _ H2 hq (S1.setO w1 w2 (kk.set dd) w3' na2 e2 j2 ha2 dd2)⟩
theorem hs_parDD (hN : X.N.Nodup) (hi : X.N[i]? = some x) (hj : X.N[j]? = some y) (hij : i ≠ j) (h : HE X g n ρ a fun n1 d => HE X g n1 ρ b fun n2 e => nx n2 ((ρ.set i (.dat d)).set j (.dat e))) (hc : X.calm = true := by rfl)
    (hx : X.env.scope.names.lookup x = some .local := by rfl) (hy : X.env.scope.names.lookup y = some .local := by rfl) (hw : swappedStores [.Tuple [.Name x px, .Name y py] kt pt] (.Tuple [a, b] k2 pt2) X.env = pure (some [x, y]) := by rfl)
    (hs : swapsWithSole [.Tuple [.Name x px, .Name y py] kt pt] (.Tuple [a, b] k2 pt2) pos.line X.env = pure false := by rfl) (h1 : starEach [a, b] X.env = (false, eval a X.env) :: starEach [b] X.env := by rfl) (h2 : starEach [b] X.env = (false, eval b X.env) :: starEach [] X.env := by rfl) :
    HS X g n ρ (.Assign [.Tuple [.Name x px, .Name y py] kt pt] (.Tuple [a, b] k2 pt2) pos) nx rt := fun H0 W0 τ σ H S Dd q1 q2 => by
  obtain ⟨W, w1, w2, k, w3⟩ := S.ex
  refine (ps_par hc hN hi hj hij hx hy (pa_cons peW (pa_cons peW pa_nil h2) h1) hw hs).wpr ?_
  show WE X a σ H _
  refine h W σ H k _ fun n1 d v H1 hb e1 j1 dd => ?_
  have kk := k.step e1 j1
  show WE X b σ H1 _
  refine hb W σ H1 kk _ fun n2 e u H2 hq e2 j2 dd2 => ?_
  have kk2 := kk.step e2 j2
  have dd' := dd.ext (kk.extW e2)
  have w3' : ∀ p ∈ τ, DD X.K W H2 p.1 p.2 := fun p hp => ((w3 p hp).ext (k.extW e1)).ext (kk.extW e2)
  have S1 := ((S.step k e1 j1).step kk e2 j2).set (i := i) w1 w2 kk2 w3' dd'
  exact ⟨_, _, rfl, q1 n2 _ _ H2 hq (S1.set w1 w2 (kk2.set dd') w3' dd2)⟩
theorem hs_par3 (hN : X.N.Nodup) (hi : X.N[i]? = some x) (hj : X.N[j]? = some y) (hl : X.N[l]? = some z) (hij : i ≠ j) (hil : i ≠ l) (hjl : j ≠ l) (h : HE X g n ρ a fun n1 d => HE X g n1 ρ b fun n2 e => HE X g n2 ρ c fun n3 f => nx n3 (((ρ.set i (.dat d)).set j (.dat e)).set l (.dat f))) (hc : X.calm = true := by rfl)
    (hx : X.env.scope.names.lookup x = some .local := by rfl) (hy : X.env.scope.names.lookup y = some .local := by rfl) (hz : X.env.scope.names.lookup z = some .local := by rfl) (hw : swappedStores [.Tuple [.Name x px, .Name y py, .Name z pz] kt pt] (.Tuple [a, b, c] k2 pt2) X.env = pure (some [x, y, z]) := by rfl)
    (hs : swapsWithSole [.Tuple [.Name x px, .Name y py, .Name z pz] kt pt] (.Tuple [a, b, c] k2 pt2) pos.line X.env = pure false := by rfl) (h1 : starEach [a, b, c] X.env = (false, eval a X.env) :: starEach [b, c] X.env := by rfl) (h2 : starEach [b, c] X.env = (false, eval b X.env) :: starEach [c] X.env := by rfl) (h3 : starEach [c] X.env = (false, eval c X.env) :: starEach [] X.env := by rfl) :
    HS X g n ρ (.Assign [.Tuple [.Name x px, .Name y py, .Name z pz] kt pt] (.Tuple [a, b, c] k2 pt2) pos) nx rt := fun H0 W0 τ σ H S Dd q1 q2 => by
  obtain ⟨W, w1, w2, k, w3⟩ := S.ex
  refine (ps_par3 hc hN hi hj hl hij hil hjl hx hy hz (pa_cons peW (pa_cons peW (pa_cons peW pa_nil h3) h2) h1) hw hs).wpr ?_
  show WE X a σ H _
  refine h W σ H k _ fun n1 d v H1 hb e1 j1 dd => ?_
  have kk := k.step e1 j1
  show WE X b σ H1 _
  refine hb W σ H1 kk _ fun n2 e u H2 hcc e2 j2 dd2 => ?_
  have kk2 := kk.step e2 j2
  show WE X c σ H2 _
  refine hcc W σ H2 kk2 _ fun n3 f t H3 hq e3 j3 dd3 => ?_
  have kk3 := kk2.step e3 j3
  have d1 := (dd.ext (kk.extW e2)).ext (kk2.extW e3)
  have d2 := dd2.ext (kk2.extW e3)
  have w3' : ∀ p ∈ τ, DD X.K W H3 p.1 p.2 := fun p hp => (((w3 p hp).ext (k.extW e1)).ext (kk.extW e2)).ext (kk2.extW e3)
  have S1 := (((S.step k e1 j1).step kk e2 j2).step kk2 e3 j3).set (i := i) w1 w2 kk3 w3' d1
  have S2 := S1.set (i := j) w1 w2 (kk3.set d1) w3' d2
  exact ⟨_, _, _, rfl, q1 n3 _ _ H3 hq (S2.set w1 w2 ((kk3.set d1).set d2) w3' dd3)⟩
end
end Fk
set_option Elab.async false
set_option linter.all false
set_option maxRecDepth 100000
set_option maxHeartbeats 4000000
/-! K15: name = a comprehension on one line. -/
namespace Fk
open PySem PySem.Spec PyProof.Rows L2
section
variable {X : Cx} {g : Gx} {n : Nat} {ρ : List SV} {elt tg iter c : Expr} {ifs : List Expr} {scope : Scope} {own : List (Str × Nat)} {pos spos py : Pos} {Q : Nat → List D → Prop} {nx : Nat → List SV → Prop} {rt : Nat → SV → Prop} {y : Str} {i : Nat}
/-- what is asked of a comprehension's turns -/
def LC (X : Cx) (g : Gx) (n : Nat) (ρ : List SV) (tg iter : Expr) (ifs : List Expr) (elt : Expr) (scope : Scope) (own : List (Str × Nat)) (Q : Nat → List D → Prop) : Prop :=
  HI X g n ρ tg iter fun n1 ds => ∃ I : Nat → Nat → List D → Prop, I 0 n1 [] ∧ (∀ i d m acc, ds[i]? = some d → I i m acc → acc.length < sizeLine ∧ Turns X g ρ scope (own.map (·.2)) tg ifs elt d m (fun m' y => I (i + 1) m' (acc ++ [y])) (fun m' => I (i + 1) m' acc)) ∧ ∀ m acc, I ds.length m acc → Q m acc
theorem lc_map (f : D → D) (h : HI X g n ρ tg iter fun n1 ds => ds.length ≤ sizeLine ∧ (∀ d ∈ ds, Maps X g ρ scope (own.map (·.2)) tg elt n1 d (f d)) ∧ Q n1 (ds.map f)) : LC X g n ρ tg iter [] elt scope own Q := by
  obtain ⟨wi, pi, hi⟩ := h
  refine ⟨wi, pi, fun W σ H k R r => hi W σ H k R fun n1 ds J τ H' q => r n1 ds J τ H' ?_⟩
  obtain ⟨hz, hm, hq⟩ := q
  refine ⟨fun i m acc => m = n1 ∧ acc = (ds.take i).map f, ⟨rfl, rfl⟩, fun i d m acc hd hi => ?_, fun m acc hi => ?_⟩
  · obtain ⟨rfl, rfl⟩ := hi
    have hlt : i < ds.length := (List.getElem?_eq_some_iff.mp hd).1
    refine ⟨by simp; omega, ?_⟩
    obtain ⟨ρ1, h1, h2⟩ := hm d (List.mem_of_getElem? hd)
    refine ⟨ρ1, h1, fun n' b => n' = m ∧ b = true, fun s H C cl fp => hts_nil ⟨rfl, rfl⟩, fun n' hn s H C cl fp => ?_, fun n' hn => absurd hn.2 (by decide)⟩
    obtain ⟨rfl, _⟩ := hn
    refine HE.mono (h2 s H C cl fp) fun n2 y hy => ?_
    obtain ⟨rfl, rfl⟩ := hy
    refine ⟨rfl, ?_⟩
    rw [List.take_add_one, hd]
    simp
  · obtain ⟨rfl, rfl⟩ := hi
    rw [List.take_length]
    exact hq
theorem lc_mapIf (f : D → Option D) (h : HI X g n ρ tg iter fun n1 ds => ds.length ≤ sizeLine ∧ (∀ d ∈ ds, MapsIf X g ρ scope (own.map (·.2)) tg c elt n1 d (f d)) ∧ Q n1 (ds.filterMap f)) : LC X g n ρ tg iter [c] elt scope own Q := by
  obtain ⟨wi, pi, hi⟩ := h
  refine ⟨wi, pi, fun W σ H k R r => hi W σ H k R fun n1 ds J τ H' q => r n1 ds J τ H' ?_⟩
  obtain ⟨hz, hm, hq⟩ := q
  refine ⟨fun i m acc => m = n1 ∧ acc = (ds.take i).filterMap f, ⟨rfl, rfl⟩, fun i d m acc hd hi => ?_, fun m acc hi => ?_⟩
  · obtain ⟨rfl, rfl⟩ := hi
    have hlt : i < ds.length := (List.getElem?_eq_some_iff.mp hd).1
    have hl : ((ds.take i).filterMap f).length ≤ (ds.take i).length := List.length_filterMap_le ..
    refine ⟨by rw [List.length_take] at hl; omega, ?_⟩
    obtain ⟨ρ1, h1, h2, h3⟩ := hm d (List.mem_of_getElem? hd)
    refine ⟨ρ1, h1, fun n' b => n' = m ∧ b = (f d).isSome, fun s H C cl fp => hts_one (h2 s H C cl fp), fun n' hn s H C cl fp => ?_, fun n' hn => ?_⟩
    · obtain ⟨rfl, hb⟩ := hn
      refine HE.mono (h3 s H C cl fp hb.symm) fun n2 y hy => ?_
      obtain ⟨rfl, hy⟩ := hy
      refine ⟨rfl, ?_⟩
      rw [List.take_add_one, hd, List.filterMap_append]
      simp [hy]
    · obtain ⟨rfl, hb⟩ := hn
      refine ⟨rfl, ?_⟩
      have e : f d = none := by
        cases z : f d with
        | none => rfl
        | some y => rw [z] at hb; cases hb
      rw [List.take_add_one, hd, List.filterMap_append]
      simp [e]
  · obtain ⟨rfl, rfl⟩ := hi
    rw [List.take_length]
    exact hq
theorem hf_LC (hc : X.calm = true) (hN : X.N.Nodup) (ok : BlkOk X.N X.env.scope scope own) (hw : ∀ i ∈ own.map (·.2), ∀ x, ρ[i]? = some x → x = SV.no) (h : LC X g n ρ tg iter ifs elt scope own Q) (hs : ∀ x, foldedSetIterable iter X.env x = pure x := by intro _; rfl) :
    HF X g n ρ (.ListComp elt [⟨tg, iter, ifs, 0⟩] scope pos) Q := hf_lc hc hN ok hw h hs
theorem hs_setLc (hN : X.N.Nodup) (hy : X.N[i]? = some y) (ok : BlkOk X.N X.env.scope scope own) (hw : ∀ i ∈ own.map (·.2), ∀ x, ρ[i]? = some x → x = SV.no) (h : LC X g n ρ tg iter ifs elt scope own fun n' ds => nx n' (ρ.set i (.own ds))) (hc : X.calm = true := by rfl) (hyl : X.env.scope.names.lookup y = some .local := by rfl)
    (hsw : swapsWith (.ListComp elt [⟨tg, iter, ifs, 0⟩] scope pos) (some (.Name y py)) spos.line X.env = pure true := by exact sw_true rfl rfl rfl rfl) (hs : ∀ x, foldedSetIterable iter X.env x = pure x := by intro _; rfl) : HS X g n ρ (.Assign [.Name y py] (.ListComp elt [⟨tg, iter, ifs, 0⟩] scope pos) spos) nx rt := fun H0 W0 τ σ H S Dd q1 q2 => by
  obtain ⟨W, w1, w2, k, w3⟩ := S.ex
  obtain ⟨wi, pi, hi⟩ := h
  have p1 : ∀ (s : Shared) (H0 : Hp) (C : Addr) (cl : List (Str × Addr)) (fp : List Addr), PG (X.blk s H0 scope (compEnvC scope cl C X.env) fp) tg (fun v σ H Q => ∀ s H0 C cl fp, WG (Cx.bk X scope s H0 C cl fp) tg v σ H Q) := fun s H0 C cl fp => ⟨fun pins s1 _ _ _ u _ I r h => pgW.run pins s1 _ _ _ u _ I r (h s H0 C cl fp)⟩
  have p2 : ∀ (s : Shared) (H0 : Hp) (C : Addr) (cl : List (Str × Addr)) (fp : List Addr), PTs (X.blk s H0 scope (compEnvC scope cl C X.env) fp) ifs (fun σ H Q => ∀ s H0 C cl fp, WTs (Cx.bk X scope s H0 C cl fp) ifs σ H Q) := fun s H0 C cl fp => ⟨fun pins s1 _ _ _ I h => ptsW.run pins s1 _ _ _ I (h s H0 C cl fp)⟩
  have p3 : ∀ (s : Shared) (H0 : Hp) (C : Addr) (cl : List (Str × Addr)) (fp : List Addr), PE (X.blk s H0 scope (compEnvC scope cl C X.env) fp) elt (fun σ H Q => ∀ s H0 C cl fp, WE (Cx.bk X scope s H0 C cl fp) elt σ H Q) := fun s H0 C cl fp => ⟨fun pins s1 _ _ _ I h => peW.run pins s1 _ _ _ I (h s H0 C cl fp)⟩
  refine (ps_setLc hc hN hy hyl hsw pi ok p1 p2 p3 hs).wpr ?_
  refine lc_reading (Q := fun n' ds => nx n' (ρ.set i (.own ds))) hc hw hi k fun n' ds a xs H' q na e j ha dd => ?_
  exact q1 n' _ _ H' q (S.setO w1 w2 k w3 na e j ha dd)
/-- the list is not to change: a datum -/
theorem hs_setLcD (hN : X.N.Nodup) (hy : X.N[i]? = some y) (ok : BlkOk X.N X.env.scope scope own) (hw : ∀ i ∈ own.map (·.2), ∀ x, ρ[i]? = some x → x = SV.no) (h : LC X g n ρ tg iter ifs elt scope own fun n' ds => nx n' (ρ.set i (.dat (.lst ds)))) (hc : X.calm = true := by rfl) (hyl : X.env.scope.names.lookup y = some .local := by rfl)
    (hsw : swapsWith (.ListComp elt [⟨tg, iter, ifs, 0⟩] scope pos) (some (.Name y py)) spos.line X.env = pure true := by exact sw_true rfl rfl rfl rfl) (hs : ∀ x, foldedSetIterable iter X.env x = pure x := by intro _; rfl) : HS X g n ρ (.Assign [.Name y py] (.ListComp elt [⟨tg, iter, ifs, 0⟩] scope pos) spos) nx rt := fun H0 W0 τ σ H S Dd q1 q2 => by
  obtain ⟨W, w1, w2, k, w3⟩ := S.ex
  obtain ⟨wi, pi, hi⟩ := h
  have p1 : ∀ (s : Shared) (H0 : Hp) (C : Addr) (cl : List (Str × Addr)) (fp : List Addr), PG (X.blk s H0 scope (compEnvC scope cl C X.env) fp) tg (fun v σ H Q => ∀ s H0 C cl fp, WG (Cx.bk X scope s H0 C cl fp) tg v σ H Q) := fun s H0 C cl fp => ⟨fun pins s1 _ _ _ u _ I r h => pgW.run pins s1 _ _ _ u _ I r (h s H0 C cl fp)⟩
  have p2 : ∀ (s : Shared) (H0 : Hp) (C : Addr) (cl : List (Str × Addr)) (fp : List Addr), PTs (X.blk s H0 scope (compEnvC scope cl C X.env) fp) ifs (fun σ H Q => ∀ s H0 C cl fp, WTs (Cx.bk X scope s H0 C cl fp) ifs σ H Q) := fun s H0 C cl fp => ⟨fun pins s1 _ _ _ I h => ptsW.run pins s1 _ _ _ I (h s H0 C cl fp)⟩
  have p3 : ∀ (s : Shared) (H0 : Hp) (C : Addr) (cl : List (Str × Addr)) (fp : List Addr), PE (X.blk s H0 scope (compEnvC scope cl C X.env) fp) elt (fun σ H Q => ∀ s H0 C cl fp, WE (Cx.bk X scope s H0 C cl fp) elt σ H Q) := fun s H0 C cl fp => ⟨fun pins s1 _ _ _ I h => peW.run pins s1 _ _ _ I (h s H0 C cl fp)⟩
  refine (ps_setLc hc hN hy hyl hsw pi ok p1 p2 p3 hs).wpr ?_
  refine lc_reading (Q := fun n' ds => nx n' (ρ.set i (.dat (.lst ds)))) hc hw hi k fun n' ds a xs H' q na e j ha dd => ?_
  exact q1 n' _ _ H' q ((S.step k e j).set w1 w2 (k.step e j) (fun p hp => (w3 p hp).ext (k.extW e)) (.lst (k.fresh (o := .lst xs) na) ha (dd.mono (fun _ z => List.mem_cons_of_mem _ z) fun _ _ _ z => z)))
/-- one's own list is not to change any more -/
theorem SI.freeze {K : PySem.W.Frag} {H0 H : Hp} {W0 : List Addr} {τ : List (V × D)} {σ : L2.St} {ds : List D} (S : SI K g H0 W0 n ρ τ σ H) (hr : ρ[i]? = some (.own ds)) : SI K g H0 W0 n (ρ.set i (.dat (.lst ds))) τ σ H := by
  obtain ⟨W, w1, w2, k, w3⟩ := S.ex
  obtain ⟨a, xs, e1, aW, aF, e4, e5⟩ := k.owns i ds hr
  have na0 := S.own0 i ds a hr e1
  have aW0 : a ∉ W0 := fun z => by
    obtain ⟨o, q⟩ := S.tr0 a z
    rw [na0] at q
    cases q
  have sub : ∀ b ∈ W.filter (fun b => decide (b ≠ a)), b ∈ W := fun b hb => (List.mem_filter.mp hb).1
  have mem : ∀ b ∈ W, b ≠ a → b ∈ W.filter (fun b => decide (b ≠ a)) := fun b hb hne => List.mem_filter.mpr ⟨hb, decide_eq_true hne⟩
  have aNot : a ∉ W.filter (fun b => decide (b ≠ a)) := fun z => by
    have := (List.mem_filter.mp z).2
    exact (of_decide_eq_true this) rfl
  have weak : ∀ {v : V} {d : D}, DD K W H v d → DD K (W.filter fun b => decide (b ≠ a)) H v d := fun dd => dd.mono sub fun _ _ _ z => z
  have key : ∀ {l : Nat} {es : List D}, (ρ.set i (.dat (.lst ds)))[l]? = some (.own es) → i ≠ l ∧ ρ[l]? = some (.own es) := fun {l es} h => by
    by_cases hl : i = l
    · subst hl
      rw [get_set, if_pos rfl] at h
      split at h <;> cases h
    · rw [List.getElem?_set_ne hl] at h
      exact ⟨hl, h⟩
  refine ⟨S.ext, S.old, S.tr0, ⟨W.filter fun b => decide (b ≠ a), fun b hb => mem b (w1 b hb) fun z => aW0 (z ▸ hb), fun b hb => w2 b (sub b hb), ⟨k.j, ⟨fun b hb => (k.gw.f b hb).imp_left fun q => mem b q fun z => aF (z ▸ hb), fun b hb q => k.gw.r b hb (sub b q)⟩, fun b hb => k.trk b (sub b hb), by simp [k.len], fun l d h => ?_, fun l es h => ?_⟩, fun p hp => weak (w3 p hp)⟩, fun l es b hl hb => ?_, fun l m es fs b hlm hl hm hb => ?_⟩
  · by_cases hl : i = l
    · subst hl
      rw [get_set, if_pos rfl] at h
      split at h
      · cases h
        exact ⟨_, e1, .lst aNot e4 (e5.mono sub fun _ _ _ z => z)⟩
      · cases h
    · rw [List.getElem?_set_ne hl] at h
      obtain ⟨v, q1, q2⟩ := k.dats l d h
      exact ⟨v, q1, weak q2⟩
  · obtain ⟨hl, h⟩ := key h
    obtain ⟨b, ys, q1, q2, q3, q4, q5⟩ := k.owns l es h
    have nb : b ≠ a := fun z => by
      subst z
      exact S.sep i l ds es b hl hr h e1 q1
    exact ⟨b, ys, q1, mem b q2 nb, q3, q4, q5.mono sub fun _ _ _ z => z⟩
  · exact S.own0 l es b (key hl).2 hb
  · exact S.sep l m es fs b hlm (key hl).2 (key hm).2 hb
theorem hss_freeze {ds : List D} {sts : List Stmt} (hr : ρ[i]? = some (.own ds)) (h : HSs X g n (ρ.set i (.dat (.lst ds))) sts nx rt) : HSs X g n ρ sts nx rt := fun H0 W0 τ σ H S Dd q1 q2 => h H0 W0 τ σ H (S.freeze hr) Dd q1 q2
end
end Fk
set_option Elab.async false
set_option linter.all false
set_option maxRecDepth 100000
set_option maxHeartbeats 4000000
/-! K16: defs that give a new list. -/
namespace Fk
open PySem PySem.Spec PyProof.Rows L2
abbrev AccF := Gx → Nat → List D → (Nat → List D → Prop) → Prop
def spF (K : PySem.W.Frag) (A : AccF) : Sp := fun vs H Q _ => ∃ (g : Gx) (W : List Addr) (n : Nat) (ds : List D) (Qd : Nat → List D → Prop), A g n ds Qd ∧ g.J n H ∧ GW g W ∧ (∀ a ∈ W, ∃ o, H a = some o) ∧ DDs K W H vs ds ∧
  ∀ n' es a xs H', Qd n' es → H a = none → Ext g.G H H' → g.J n' H' → H' a = some (.lst xs) → DDs K (a :: W) H' xs es → Q (.ref a) H'
structure HasF (P : Program) (w : World) (K : PySem.W.Frag) (mg : Str → Option Value) (base : Heap) (k : Nat) (x : Str) (ps : List Str) (A : AccF) : Prop where
  ok : ∃ fd, FnOk P w K mg base CX0 k (He.ga K x) fd ps (spF K A) ∧ Binds K fd ps []
  m : mg x = some (.ref (He.ga K x))
  kp : PySem.W.keepIn K (.ref (He.ga K x)) = true
section
variable {P : Program} {w : World} {K : PySem.W.Frag} {mg : Str → Option Value} {base : Heap}
theorem HasF.imp {k k' : Nat} {x : Str} {ps : List Str} {A : AccF} (T : HasF P w K mg base k x ps A) (hk : k ≤ k') : HasF P w K mg base k' x ps A := by
  obtain ⟨fd, F, B⟩ := T.ok
  exact ⟨⟨fd, F.mono hk, B⟩, T.m, T.kp⟩
theorem HasF.has {k : Nat} {x : Str} {ps : List Str} {A : AccF} {A' : Acc} (T : HasF P w K mg base k x ps A) (h : ∀ g n ds Q, A' g n ds Q → A g n ds fun n' es => Q n' (.lst es)) : Has P w K mg base k x ps A' := by
  obtain ⟨fd, F, B⟩ := T.ok
  refine ⟨⟨fd, F.imp fun vs H Q E q => ?_, B⟩, T.m, T.kp⟩
  obtain ⟨g, W, n, ds, Qd, q1, q2, q3, q4, q5, q6⟩ := q
  refine ⟨g, W, n, ds, _, h g n ds Qd q1, q2, q3, q4, q5, fun n' es a xs H' qd na e j ha dd => q6 n' (.lst es) _ H' qd e j (.lst (fun z => ?_) ha (dd.mono (fun _ z => List.mem_cons_of_mem _ z) fun _ _ _ z => z))⟩
  obtain ⟨o, q⟩ := q4 a z
  rw [na] at q
  cases q
theorem hf_call {X : Cx} {g : Gx} {n : Nat} {ρ : List SV} {e : Expr} {es : List Expr} {pos p : Pos} {Q : Nat → List D → Prop} {x : Str} {k : Nat} {ps : List Str} {A : AccF} (T : HasF X.prog X.w X.K X.mg X.base k x ps A) (hr : Room k X.A) (h : HA X g n ρ (e :: es) fun n' ds => A g n' ds Q) (hg : Gl X x := by rfl) (hdb : (x == ("__debug__" : Str)) = false := by decide)
    (he : starEach (e :: es) X.env = (false, eval e X.env) :: starEach es X.env := by rfl) (hpl : (backTo pos (starEach es X.env)).any (·.1) = false := by rfl) : HF X g n ρ (.Call (.Name x p) (e :: es) [] pos) Q := fun W σ H kk R r => by
  obtain ⟨fd, F, B⟩ := T.ok
  refine (pe_call F hr hg T.m T.kp B .nil pass0 paW hdb he hpl).wpr (h W σ H kk _ fun n1 ds vs H1 q e1 j1 dd => ?_)
  have k1 := kk.step e1 j1
  rw [List.append_nil]
  exact ⟨g, W, n1, ds, Q, q, j1, k1.gw, k1.trk, dd, fun n' es a xs H' qd na e2 j2 ha d2 => r n' es a xs H' qd (kk.back e1 j1 na) (e1.trans e2) j2 ha d2⟩
def rtF (Q : Nat → List D → Prop) : Nat → SV → Prop := fun n r => match r with
  | .own ds => Q n ds
  | _ => False
theorem has_ofF (T : Top K mg) {i : Nat} {d : He.DefD} {N ps : List Str} {k : Nat} {A : AccF} (hd : fn[i]? = some d) (S : FnScope N ps d.scope) (hx : glos.contains d.name = true) (hat : d.at_ = (d.name, none)) (hdf : d.dfl = []) (hkw : d.kwd = [])
    (hb : ∀ (kV doc pm : Value) (an : Option Addr) (cdv ct : Value) (us : List Value), us.length = ps.length → bindArgs (PySem.W.fnOf d.name d.qual d.params d.body d.scope .none kV doc pm an cdv ct) ⟨us, []⟩ = pure (ps.zip us))
    (hlen : ∀ g n ds Q, A g n ds Q → ds.length = ps.length)
    (hbody : ∀ (cd : Value) (Ar : Around) (outer : List Env) (s : Shared) (H : Hp) (E : XK), Room k (CxB P w K mg base N d.qual d.scope (He.ga K d.name) cd Ar outer s H E).A → ∀ g n ds Q, A g n ds Q →
      HSs (CxB P w K mg base N d.qual d.scope (He.ga K d.name) cd Ar outer s H E) g n (slots N ds) d.body (fun _ _ => False) (rtF Q)) : HasF P w K mg base (k + 1) d.name ps A := by
  obtain ⟨fd, F⟩ := T.df i d hd
  obtain ⟨m1, m2⟩ := T.gl d.name hx
  have e1 : d.dvs K = [] := by unfold He.DefD.dvs; rw [hdf]; rfl
  have e2 : d.kws K = [] := by unfold He.DefD.kws; rw [hkw]; rfl
  have e3 : He.fAd K d.at_ = He.ga K d.name := by rw [hat]; rfl
  rw [e1, e2, e3] at F
  refine ⟨⟨fd, F.ok S (fun vs H Q E h => ?_) (fun cdv Ar outer s H vs Q E hr h => ⟨_, PSs.nox pssW, ?_⟩), F.bindsN hb⟩, m1, m2⟩
  · obtain ⟨g, W, n, ds, Qd, h1, _, _, _, h5, _⟩ := h
    rw [h5.length]
    exact hlen g n ds Qd h1
  · obtain ⟨g, W, n, ds, Qd, h1, h2, h3, h4, h5, h6⟩ := h
    refine hbody cdv Ar outer s H E hr g n ds Qd h1 H W [] _ H (entry h2 h3 h4 h5) _ (fun n' ρ' σ' H' q S' => q.elim) fun n' r v H' q e j ro => ?_
    cases r with
    | own es =>
      obtain ⟨a, xs, rfl, na, ha, hx⟩ := ro
      exact h6 n' es a xs H' q na e j ha hx
    | _ => exact q.elim
end
end Fk
set_option Elab.async false
set_option linter.all false
set_option maxRecDepth 100000
set_option maxHeartbeats 4000000
/-! K17: {k: v for ..}. -/
namespace Fk
open PySem PySem.Spec PyProof.Rows L2
def dput (acc : List (Str × D)) (s : Str) (d : D) : List (Str × D) := if acc.any (fun p => decide (p.1 = s)) = true then acc.map (fun p => if p.1 = s then (p.1, d) else p) else acc ++ [(s, d)]
inductive PR (K : PySem.W.Frag) (W : List Addr) (H : Hp) : List (Key × V) → List (Str × D) → Prop
  | nil : PR K W H [] []
  | cons {s : Str} {v : V} {d : D} {kvs : List (Key × V)} {acc : List (Str × D)} : DD K W H v d → PR K W H kvs acc → PR K W H ((.inr s, v) :: kvs) ((s, d) :: acc)
section
variable {K : PySem.W.Frag} {W W' : List Addr} {H H' : Hp}
theorem PR.mono (s : ∀ a ∈ W', a ∈ W) (e : Ext W H H') : ∀ {kvs : List (Key × V)} {acc : List (Str × D)}, PR K W H kvs acc → PR K W' H' kvs acc
  | _, _, .nil => .nil
  | _, _, .cons h t => .cons (h.mono s e) (PR.mono s e t)
theorem PR.any (s : Str) : ∀ {kvs : List (Key × V)} {acc : List (Str × D)}, PR K W H kvs acc → (kvs.any fun kv => decide (kv.1 = Sum.inr s)) = acc.any fun p => decide (p.1 = s)
  | _, _, .nil => rfl
  | _, _, .cons (s := t) h q => by
    rw [List.any_cons, List.any_cons, PR.any s q]
    congr 1
    by_cases e : t = s
    · simp [e]
    · have e' : ¬ (Sum.inr t : Key) = Sum.inr s := fun z => e (Sum.inr.inj z)
      simp [e, e']
theorem PR.snoc {s : Str} {v : V} {d : D} (dd : DD K W H v d) : ∀ {kvs : List (Key × V)} {acc : List (Str × D)}, PR K W H kvs acc → PR K W H (kvs ++ [(.inr s, v)]) (acc ++ [(s, d)])
  | _, _, .nil => .cons dd .nil
  | _, _, .cons h t => .cons h (PR.snoc dd t)
theorem PR.over {s : Str} {v : V} {d : D} (dd : DD K W H v d) : ∀ {kvs : List (Key × V)} {acc : List (Str × D)}, PR K W H kvs acc → PR K W H (kvs.map fun kv => if kv.1 = .inr s then (kv.1, v) else kv) (acc.map fun p => if p.1 = s then (p.1, d) else p)
  | _, _, .nil => .nil
  | _, _, .cons (s := t) h q => by
    rw [List.map_cons, List.map_cons]
    by_cases e : t = s
    · subst e
      rw [if_pos rfl, if_pos rfl]
      exact .cons dd (PR.over dd q)
    · have e' : ¬ (Sum.inr t : Key) = Sum.inr s := fun z => e (Sum.inr.inj z)
      rw [if_neg e', if_neg e]
      exact .cons h (PR.over dd q)
theorem PR.put {s : Str} {v : V} {d : D} {kvs : List (Key × V)} {acc : List (Str × D)} (h : PR K W H kvs acc) (dd : DD K W H v d) : PR K W H (putK kvs (.inr s) v) (dput acc s d) := by
  unfold putK dput
  rw [h.any s]
  split
  · exact h.over dd
  · exact h.snoc dd
theorem PR.keys : ∀ {kvs : List (Key × V)} {acc : List (Str × D)}, PR K W H kvs acc → kvs.map (·.1) = (acc.map (·.1)).map Sum.inr
  | _, _, .nil => rfl
  | _, _, .cons h t => by rw [List.map_cons, List.map_cons, List.map_cons, PR.keys t]
theorem PR.vals : ∀ {kvs : List (Key × V)} {acc : List (Str × D)}, PR K W H kvs acc → DDs K W H (kvs.map (·.2)) (acc.map (·.2))
  | _, _, .nil => .nil
  | _, _, .cons h t => .cons h (PR.vals t)
theorem PR.len {kvs : List (Key × V)} {acc : List (Str × D)} (h : PR K W H kvs acc) : kvs.length = acc.length := by
  have := congrArg List.length h.keys
  simpa using this
end
theorem dput_len (acc : List (Str × D)) (s : Str) (d : D) : (dput acc s d).length ≤ acc.length + 1 := by
  unfold dput
  split <;> simp
/-- a walk's items, the heap keeping inv -/
structure FeedsJ (inv : Hp → Prop) (K : PySem.W.Frag) (J : It) (τ : List (V × D)) (ds : List D) : Prop where
  go : ∀ (W : List Addr) (H : Hp), inv H → (∀ p ∈ τ, DD K W H p.1 p.2) → ∀ (i : Nat) (d : D), ds[i]? = some d → J.go i H
  yld : ∀ (W : List Addr) (H : Hp), inv H → (∀ p ∈ τ, DD K W H p.1 p.2) → (∀ a ∈ W, ∃ o, H a = some o) → ∀ (i : Nat) (d : D), ds[i]? = some d → ∀ x H', J.yld i H x H' → Same H H' ∧ DD K W H' x d
  stop : ∀ (W : List Addr) (H : Hp), inv H → (∀ p ∈ τ, DD K W H p.1 p.2) → J.stop ds.length H
theorem Feeds.j {K : PySem.W.Frag} {J : It} {τ : List (V × D)} {ds : List D} (F : Feeds K J τ ds) {inv : Hp → Prop} : FeedsJ inv K J τ ds := ⟨fun W H _ => F.go W H, fun W H _ => F.yld W H, fun W H _ => F.stop W H⟩
def dputs (kf : D → Str) (vf : D → D) (ds : List D) : List (Str × D) := ds.foldl (fun acc d => dput acc (kf d) (vf d)) []
theorem dputs_len (kf : D → Str) (vf : D → D) : ∀ (ds : List D) (acc : List (Str × D)), (ds.foldl (fun acc d => dput acc (kf d) (vf d)) acc).length ≤ acc.length + ds.length
  | [], acc => by simp
  | d :: ds, acc => by
    have h1 := dputs_len kf vf ds (dput acc (kf d) (vf d))
    have h2 := dput_len acc (kf d) (vf d)
    simp only [List.foldl_cons, List.length_cons]
    omega
section
variable {X : Cx} {g : Gx} {n : Nat} {ρ : List SV} {kx vx tg iter : Expr} {scope : Scope} {own : List (Str × Nat)} {pos : Pos}
/-- a turn of {k: v ..} without effect -/
def MapsD (X : Cx) (g : Gx) (ρ : List SV) (scope : Scope) (vs : List Nat) (tg kx vx : Expr) (n : Nat) (d : D) (s : Str) (y : D) : Prop :=
  ∃ ρ1, (∀ s H C cl fp, HG (Cx.bk X scope s H C cl fp) g ρ vs tg d ρ1) ∧ (∀ s' H C cl fp, HE (Cx.bk X scope s' H C cl fp) g n ρ1 kx fun n2 z => n2 = n ∧ z = .str s) ∧ ∀ s H C cl fp, HE (Cx.bk X scope s H C cl fp) g n ρ1 vx fun n2 z => n2 = n ∧ z = y
theorem dc_reading {wi : TI} {inv : Hp → Prop} (kf : D → Str) (vf : D → D) (hc : X.calm = true) (hw : ∀ i ∈ own.map (·.2), ∀ x, ρ[i]? = some x → x = SV.no) {W : List Addr} {σ : L2.St} {H : Hp} (k : Ok X.K g W n ρ σ H) (hinv : ∀ n H, g.J n H → inv H) {Q : Nat → List (Str × D) → Prop}
    (h : ∀ R : It → Hp → Prop, (∀ n1 ds J τ H', (ds.length ≤ 1000 ∧ (∀ d ∈ ds, MapsD X g ρ scope (own.map (·.2)) tg kx vx n1 d (kf d) (vf d)) ∧ Q n1 (dputs kf vf ds)) → Ext g.G H H' → g.J n1 H' → FeedsJ inv X.K J τ ds → (∀ p ∈ τ, DD X.K W H' p.1 p.2) → R J H') → wi σ H R)
    {R : VK} (r : ∀ n' acc a kvs H', Q n' acc → H a = none → Ext g.G H H' → g.J n' H' → H' a = some (.dK kvs) → PR X.K (a :: W) H' kvs acc → R (.ref a) H') :
    tDc wi (fun v σ H Q => ∀ s H0 C cl fp, WG (Cx.bk X scope s H0 C cl fp) tg v σ H Q) (fun σ H Q => Q true H) (fun σ H Q => ∀ s H0 C cl fp, WE (Cx.bk X scope s H0 C cl fp) kx σ H Q) (fun σ H Q => ∀ s H0 C cl fp, WE (Cx.bk X scope s H0 C cl fp) vx σ H Q) (own.map (·.2)) σ H R := by
  refine h _ fun n1 ds J τ H1 hq e1 j1 F hτ L hL => ?_
  obtain ⟨hz, turn, fin⟩ := hq
  have k1 := k.step e1 j1
  have nLF : L ∉ g.F := fun z => by
    obtain ⟨o, q⟩ := g.trk n1 H1 j1 L z
    rw [hL] at q
    cases q
  have nLG : L ∉ g.G := fun z => nLF (g.sub L z)
  refine ⟨fun i m H' => i + m = ds.length ∧ ∃ kvs, Ext g.G H1 H' ∧ g.J n1 H' ∧ H' L = some (.dK kvs) ∧ PR X.K (L :: W) H' kvs (dputs kf vf (ds.take i)), ⟨ds.length, by omega, [], Ext.upd hL, g.same j1 (Same.upd hL), upd_same, .nil⟩, fun i m H' hW => ?_⟩
  obtain ⟨hm, kvs, e2, j2, hL2, pr⟩ := hW
  have kk := k1.grow hL e2 j2 ⟨_, hL2⟩
  have extL : Ext (L :: W) H1 H' := e2.mono fun a h => List.mem_cons_of_mem _ (k1.gw.G a h)
  have hτ2 : ∀ p ∈ τ, DD X.K (L :: W) H' p.1 p.2 := fun p hp => ((hτ p hp).fresh hL).ext extL
  cases q : ds[i]? with
  | none =>
    have hl : ds.length ≤ i := List.getElem?_eq_none_iff.mp q
    have ei : i = ds.length := by omega
    subst ei
    refine .inl ⟨F.stop _ H' (hinv _ _ j2) hτ2, ?_⟩
    rw [List.take_length] at pr
    exact r n1 _ L kvs H' fin (k.back e1 j1 hL) (e1.trans e2) j2 hL2 pr
  | some d =>
    have hlt : i < ds.length := (List.getElem?_eq_some_iff.mp q).1
    refine .inr ⟨F.go _ H' (hinv _ _ j2) hτ2 i d q, fun H'' => ∃ kvs, Ext g.G H1 H'' ∧ g.J n1 H'' ∧ H'' L = some (.dK kvs) ∧ PR X.K (L :: W) H'' kvs (dputs kf vf (ds.take (i + 1))), fun H'' hn => ⟨m - 1, by omega, by omega, hn⟩, fun x H3 hy s0 H0 C cl fp => ?_⟩
    obtain ⟨s3, dx⟩ := F.yld _ H' (hinv _ _ j2) hτ2 kk.trk i d q x H3 hy
    have k3 := kk.same s3
    obtain ⟨ρ1, hg, hk1, hv1⟩ := turn d (List.mem_of_getElem? q)
    refine (hg s0 H0 C cl fp).run n1 (L :: W) (wipe σ (own.map (·.2))) H3 x (k3.wiped hw) dx _ fun σ4 H4 s4 k4 f4 l4 => ?_
    refine ⟨wipe_eq l4 f4, ?_⟩
    show if true = true then _ else _
    rw [if_pos rfl]
    intro s5 H05 C5 cl5 fp5
    refine hk1 s5 H05 C5 cl5 fp5 (L :: W) σ4 H4 k4 _ fun n5 y v H5 q5 e5 j5 dy => ?_
    obtain ⟨rfl, rfl⟩ := q5
    have ev := dy.str_inv
    subst ev
    have k5 := k4.step e5 j5
    intro s6 H06 C6 cl6 fp6
    refine hv1 s6 H06 C6 cl6 fp6 (L :: W) σ4 H5 k5 _ fun n7 y7 v7 H7 q7 e7 j7 d7 => ?_
    obtain ⟨rfl, rfl⟩ := q7
    have eall : Ext g.G H' H7 := (((Ext.of_same s3).trans (.of_same s4)).trans e5).trans e7
    have hL7 : H7 L = some (.dK kvs) := eall L _ nLG hL2
    have pr7 : PR X.K (L :: W) H7 kvs (dputs kf vf (ds.take i)) := pr.mono (fun _ z => z) (eall.mono fun a h => List.mem_cons_of_mem _ (k1.gw.G a h))
    have ext : ∀ kvs', Ext (L :: W) H7 (upd H7 L (.dK kvs')) := fun kvs' a o ha hq => by
      rw [upd_ne fun z => ha (by rw [z]; exact List.mem_cons_self)]
      exact hq
    have hlen : kvs.length ≤ i := by
      rw [pr7.len]
      have := dputs_len kf vf (ds.take i) []
      rw [List.length_take, List.length_nil] at this
      unfold dputs
      omega
    refine ⟨kvs, .inr (kf d), rfl, hL7, by unfold sizeLine; omega, putK kvs (.inr (kf d)) v7, ?_, ?_, upd_same, ?_⟩
    · intro a o ha hq
      have na : a ≠ L := fun z => by
        rw [z, hL] at hq
        cases hq
      rw [upd_ne na]
      exact (e2.trans eall) a o ha hq
    · exact g.stab _ H7 _ j7 fun a ha => upd_ne fun z => nLF (z ▸ ha)
    · have e9 : dputs kf vf (ds.take (i + 1)) = dput (dputs kf vf (ds.take i)) (kf d) (vf d) := by
        unfold dputs
        rw [List.take_add_one, q, List.foldl_append]
        rfl
      rw [e9]
      exact (pr7.put d7).mono (fun _ z => z) (ext _)
theorem he_dc (kf : D → Str) (vf : D → D) (hc : X.calm = true) (hN : X.N.Nodup) (ok : BlkOk X.N X.env.scope scope own) (hw : ∀ i ∈ own.map (·.2), ∀ x, ρ[i]? = some x → x = SV.no) {Q : Nat → D → Prop}
    (h : HI X g n ρ tg iter fun n1 ds => ds.length ≤ 1000 ∧ (∀ d ∈ ds, MapsD X g ρ scope (own.map (·.2)) tg kx vx n1 d (kf d) (vf d)) ∧ Q n1 (.dic ((dputs kf vf ds).map (·.1)) ((dputs kf vf ds).map (·.2)))) (hs : ∀ x, foldedSetIterable iter X.env x = pure x := by intro _; rfl) :
    HE X g n ρ (.DictComp kx vx [⟨tg, iter, [], 0⟩] scope pos) Q := fun W σ H k R r => by
  obtain ⟨wi, pi, hi⟩ := h
  have p1 : ∀ (s : Shared) (H0 : Hp) (C : Addr) (cl : List (Str × Addr)) (fp : List Addr), PG (X.blk s H0 scope (compEnvC scope cl C X.env) fp) tg (fun v σ H Q => ∀ s H0 C cl fp, WG (Cx.bk X scope s H0 C cl fp) tg v σ H Q) := fun s H0 C cl fp => ⟨fun pins s1 _ _ _ u _ I r h => pgW.run pins s1 _ _ _ u _ I r (h s H0 C cl fp)⟩
  have p2 : ∀ (s : Shared) (H0 : Hp) (C : Addr) (cl : List (Str × Addr)) (fp : List Addr), PTs (X.blk s H0 scope (compEnvC scope cl C X.env) fp) [] (fun σ H Q => Q true H) := fun s H0 C cl fp => pts_nil
  have p3 : ∀ (s : Shared) (H0 : Hp) (C : Addr) (cl : List (Str × Addr)) (fp : List Addr), PE (X.blk s H0 scope (compEnvC scope cl C X.env) fp) kx (fun σ H Q => ∀ s H0 C cl fp, WE (Cx.bk X scope s H0 C cl fp) kx σ H Q) := fun s H0 C cl fp => ⟨fun pins s1 _ _ _ I h => peW.run pins s1 _ _ _ I (h s H0 C cl fp)⟩
  have p4 : ∀ (s : Shared) (H0 : Hp) (C : Addr) (cl : List (Str × Addr)) (fp : List Addr), PE (X.blk s H0 scope (compEnvC scope cl C X.env) fp) vx (fun σ H Q => ∀ s H0 C cl fp, WE (Cx.bk X scope s H0 C cl fp) vx σ H Q) := fun s H0 C cl fp => ⟨fun pins s1 _ _ _ I h => peW.run pins s1 _ _ _ I (h s H0 C cl fp)⟩
  refine (pe_dc hc hN pi ok p1 p2 p3 p4 hs).wpr ?_
  refine dc_reading (inv := fun _ => True) (Q := fun n1 acc => Q n1 (.dic (acc.map (·.1)) (acc.map (·.2)))) kf vf hc hw k (fun _ _ _ => trivial) (fun R hr => hi W σ H k R fun n1 ds J τ H' q e j F => hr n1 ds J τ H' q e j F.j) fun n' acc a kvs H' q na e j ha pr => ?_
  have pr' := pr.mono (W' := W) (fun _ z => List.mem_cons_of_mem _ z) (fun _ _ _ z => z)
  exact r n' _ _ H' q e j (.dic (k.fresh (o := .dK kvs) na) ha pr'.keys pr'.vals)
end
end Fk
set_option Elab.async false
set_option linter.all false
set_option maxRecDepth 100000
set_option maxHeartbeats 4000000
/-! K18: {.. for k, v in d.items()}. -/
namespace Fk
open PySem PySem.Spec PyProof.Rows L2
mutual
/-- no dict is in it: it bears its value when a dict is locked -/
theorem DD.nodic {K : PySem.W.Frag} {W : List Addr} {H : Hp} {a : Addr} {kvs : List (Key × V)} {o : L2.HO} (ha : H a = some (.dK kvs)) : ∀ {k : Nat} {d : D} {v : V}, d.fit k = true → DD K W H v d → DD K (a :: W) (upd H a o) v d
  | 0, _, _, h, _ => by rw [D.fit] at h; cases h
  | k + 1, .non, _, _, dd => by cases dd; exact .non
  | k + 1, .bl _, _, _, dd => by cases dd; exact .bl _
  | k + 1, .int _, _, _, dd => by cases dd; exact .int _
  | k + 1, .str _, _, _, dd => by cases dd; exact .str _
  | k + 1, .tup ds, _, h, dd => by
    cases dd with
    | @tup b xs _ nw hb hx =>
      rw [D.fit, Bool.and_eq_true] at h
      have nb : b ≠ a := fun z => by rw [z, ha] at hb; cases hb
      exact .tup (fun z => (List.mem_cons.mp z).elim nb nw) (by rw [upd_ne nb]; exact hb) (DDs.nodic ha h.2 hx)
  | k + 1, .lst ds, _, h, dd => by
    cases dd with
    | @lst b xs _ nw hb hx =>
      rw [D.fit, Bool.and_eq_true] at h
      have nb : b ≠ a := fun z => by rw [z, ha] at hb; cases hb
      exact .lst (fun z => (List.mem_cons.mp z).elim nb nw) (by rw [upd_ne nb]; exact hb) (DDs.nodic ha h.2 hx)
  | k + 1, .dic _ _, _, h, _ => by simp [D.fit] at h
  | k + 1, .fn _, _, h, _ => by simp [D.fit] at h
  | k + 1, .obj _, _, h, _ => by simp [D.fit] at h
theorem DDs.nodic {K : PySem.W.Frag} {W : List Addr} {H : Hp} {a : Addr} {kvs : List (Key × V)} {o : L2.HO} (ha : H a = some (.dK kvs)) : ∀ {k : Nat} {ds : List D} {vs : List V}, fits k ds = true → DDs K W H vs ds → DDs K (a :: W) (upd H a o) vs ds
  | _, [], _, _, dd => by cases dd; exact .nil
  | k, d :: ds, _, h, dd => by
    cases dd with
    | cons h1 h2 =>
      rw [fits, Bool.and_eq_true] at h
      exact .cons (DD.nodic ha h.1 h1) (DDs.nodic ha h.2 h2)
end
def itemsD : List Str → List D → List D
  | s :: ks, d :: vs => .tup [.str s, d] :: itemsD ks vs
  | _, _ => []
theorem items_at : ∀ {kvs : List (Key × V)} {ks : List Str} {vs : List D} {i : Nat} {d : D}, kvs.map (·.1) = ks.map Sum.inr → vs.length = kvs.length → (itemsD ks vs)[i]? = some d → ∃ s e v, d = .tup [.str s, e] ∧ kvs[i]? = some (.inr s, v) ∧ vs[i]? = some e
  | [], [], [], i, d, _, _, h => by simp [itemsD] at h
  | [], [], _ :: _, i, d, _, hl, h => by simp at hl
  | [], _ :: _, _, i, d, h1, _, h => by simp at h1
  | _ :: _, [], _, i, d, h1, _, h => by simp at h1
  | _ :: _, _ :: _, [], i, d, _, hl, h => by simp at hl
  | (k, v) :: kvs, s :: ks, e :: vs, 0, d, h1, _, h => by
    simp only [List.map_cons, List.cons.injEq] at h1
    simp only [itemsD, List.getElem?_cons_zero] at h
    cases h
    exact ⟨s, e, v, rfl, by simp [h1.1], rfl⟩
  | (k, v) :: kvs, s :: ks, e :: vs, i + 1, d, h1, hl, h => by
    simp only [List.map_cons, List.cons.injEq] at h1
    simp only [itemsD, List.getElem?_cons_succ] at h ⊢
    exact items_at h1.2 (by simpa using hl) h
theorem itemsD_len : ∀ {kvs : List (Key × V)} {ks : List Str} {vs : List D}, kvs.map (·.1) = ks.map Sum.inr → vs.length = kvs.length → (itemsD ks vs).length = kvs.length
  | [], [], [], _, _ => rfl
  | [], [], _ :: _, _, hl => by simp at hl
  | [], _ :: _, _, h1, _ => by simp at h1
  | _ :: _, [], _, h1, _ => by simp at h1
  | _ :: _, _ :: _, [], _, hl => by simp at hl
  | (k, v) :: kvs, s :: ks, e :: vs, h1, hl => by
    simp only [List.map_cons, List.cons.injEq] at h1
    simp [itemsD, itemsD_len h1.2 (by simpa using hl)]
/-- a dict is locked -/
def gLock (g : Gx) (a : Addr) (u : L2.HO) : Gx where
  G := g.G
  F := a :: g.F
  R := g.R
  J := fun n H => g.J n H ∧ H a = some u
  sub := fun b h => List.mem_cons_of_mem _ (g.sub b h)
  subR := fun b h => List.mem_cons_of_mem _ (g.subR b h)
  nR := g.nR
  lstR := fun n H ⟨j, _⟩ b hb => g.lstR n H j b hb
  trk := fun n H ⟨j, e⟩ b hb => (List.mem_cons.mp hb).elim (fun z => ⟨u, by rw [z]; exact e⟩) fun z => g.trk n H j b z
  stab := fun n H H' ⟨j, e⟩ h => ⟨g.stab n H H' j fun b hb => h b (List.mem_cons_of_mem _ hb), by rw [h a List.mem_cons_self]; exact e⟩
section
variable {X : Cx} {g : Gx} {n : Nat} {ρ ρ0 : List SV} {kx vx : Expr} {scope : Scope} {own : List (Str × Nat)} {pos apos cpos p tpos : Pos} {elts : List Expr} {kk r : Nat} {x : Str} {ks : List Str} {vs : List D}
theorem items_reading (kf : D → Str) (vf : D → D) (hc : X.calm = true) (hw : ∀ i ∈ own.map (·.2), ∀ x, ρ0[i]? = some x → x = SV.no) (hr : ρ[r]? = some (.dat (.dic ks vs))) {Q : Nat → D → Prop}
    (hl : ρ0.length = ρ.length) (hd : ∀ (i : Nat) (d : D), ρ0[i]? = some (.dat d) → ρ[i]? = some (.dat d) ∧ ∃ k, d.fit k = true) (ho : ∀ (i : Nat) (ds : List D), ρ0[i]? ≠ some (SV.own ds)) (hv : ∃ k, fits k vs = true) (h10 : ks.length ≤ 1000)
    (h : ∀ g', ∀ d ∈ itemsD ks vs, MapsD X g' ρ0 scope (own.map (·.2)) (.Tuple elts kk tpos) kx vx n d (kf d) (vf d)) (q : Q n (.dic ((dputs kf vf (itemsD ks vs)).map (·.1)) ((dputs kf vf (itemsD ks vs)).map (·.2))))
    {W : List Addr} {σ : L2.St} {H : Hp} (k : Ok X.K g W n ρ σ H) {R : VK} (rr : ∀ n' d v H', Q n' d → Ext g.G H H' → g.J n' H' → DD X.K W H' v d → R v H') :
    ∃ a kvs, H a = some (.dK kvs) ∧ ∀ od, tDc (iItems (tVar r)) (fun v σ H Q => ∀ s H0 C cl fp, WG (Cx.bk X scope s H0 C cl fp) (.Tuple elts kk tpos) v σ H Q) (fun σ H Q => Q true H) (fun σ H Q => ∀ s H0 C cl fp, WE (Cx.bk X scope s H0 C cl fp) kx σ H Q) (fun σ H Q => ∀ s H0 C cl fp, WE (Cx.bk X scope s H0 C cl fp) vx σ H Q) (own.map (·.2)) σ (upd H a (.frz od (.dK kvs))) (fun v H' => H' a = some (.frz od (.dK kvs)) ∧ R v (upd H' a (.dK kvs))) := by
  obtain ⟨v, e1, dd⟩ := k.dats r _ hr
  obtain ⟨a, kvs, rfl, nW, ha, hk, hvals⟩ := dd.dic_inv
  obtain ⟨kf0, hfit⟩ := hv
  have hlen : vs.length = kvs.length := by rw [← hvals.length, List.length_map]
  have hkl : kvs.length = ks.length := by simpa using congrArg List.length hk
  refine ⟨a, kvs, ha, fun od => ?_⟩
  have aR : a ∉ g.R := fun z => by
    obtain ⟨xs, e⟩ := g.lstR n H k.j a z
    rw [ha] at e
    cases e
  have aF : a ∉ g.F := fun z => (k.gw.f a z).elim nW aR
  have k1 : Ok X.K (gLock g a (.frz od (.dK kvs))) (a :: W) n ρ0 σ (upd H a (.frz od (.dK kvs))) := by
    refine ⟨⟨g.stab n H _ k.j fun b hb => upd_ne fun z => aF (z ▸ hb), upd_same⟩, ⟨fun b hb => ?_, fun b hb hm => ?_⟩, fun b hb => ?_, hl.trans k.len, fun i d h1 => ?_, fun i ds h1 => (ho i ds h1).elim⟩
    · rcases List.mem_cons.mp hb with rfl | hb
      · exact .inl List.mem_cons_self
      · exact (k.gw.f b hb).imp_left (List.mem_cons_of_mem _)
    · rcases List.mem_cons.mp hm with rfl | hm
      · exact aR hb
      · exact k.gw.r b hb hm
    · by_cases hba : b = a
      · rw [hba]
        exact ⟨_, upd_same⟩
      · rw [upd_ne hba]
        exact k.trk b ((List.mem_cons.mp hb).resolve_left hba)
    · obtain ⟨h2, k2, h3⟩ := hd i d h1
      obtain ⟨u, h4, h5⟩ := k.dats i d h2
      exact ⟨u, h4, h5.nodic ha h3⟩
  have hvals1 : DDs X.K (a :: W) (upd H a (.frz od (.dK kvs))) (kvs.map (·.2)) vs := hvals.nodic ha hfit
  refine dc_reading (inv := fun H' => H' a = some (.frz od (.dK kvs))) (Q := fun n1 acc => n1 = n ∧ acc = dputs kf vf (itemsD ks vs)) kf vf hc hw k1 (fun _ _ j => j.2) (fun R' hr' => ⟨.ref a, e1, a, od, kvs, rfl, upd_same, ?h1⟩) fun n' acc L kvs' H' q' na e j hL pr => ?h2
  case h1 =>
    refine hr' n (itemsD ks vs) (Iti a od kvs) ((kvs.map (·.2)).zip vs) _ ⟨by rw [itemsD_len hk hlen, hkl]; exact h10, fun d hd => h _ d hd, rfl, rfl⟩ .refl k1.j ⟨fun W' H' iv hτ i d e => ?_, fun W' H' iv hτ tr i d e y H'' hy => ?_, fun W' H' iv hτ => ?_⟩ fun pr hp => ?_
    · have := (List.getElem?_eq_some_iff.mp e).1
      rw [itemsD_len hk hlen] at this
      exact ⟨iv, this⟩
    · obtain ⟨s, e', v', rfl, h1, h2⟩ := items_at hk hlen e
      obtain ⟨T, k', v'', g1, rfl, hT, rfl⟩ := hy
      rw [h1] at g1
      cases g1
      have hm : (v', e') ∈ (kvs.map (·.2)).zip vs := by
        refine List.mem_of_getElem? (i := i) ?_
        rw [List.getElem?_zip_eq_some]
        exact ⟨by rw [List.getElem?_map, h1]; rfl, h2⟩
      exact new_pair tr hT (.str s) (hτ _ hm)
    · show H' a = _ ∧ kvs.length ≤ (itemsD ks vs).length
      rw [itemsD_len hk hlen]
      exact ⟨iv, Nat.le_refl _⟩
    · obtain ⟨i, hi, ep⟩ := List.mem_iff_getElem.mp hp
      have h9 : ((kvs.map (·.2)).zip vs)[i]? = some pr := by rw [List.getElem?_eq_getElem hi, ep]
      have h9' := List.getElem?_zip_eq_some.mp (show ((kvs.map (·.2)).zip vs)[i]? = some (pr.1, pr.2) from h9)
      obtain ⟨d', h7, h8⟩ := hvals1.getV h9'.1
      rw [h9'.2] at h7
      cases h7
      exact h8
  case h2 =>
    obtain ⟨rfl, rfl⟩ := q'
    have nLa : L ≠ a := fun z => by
      rw [z, upd_same] at na
      cases na
    rw [upd_ne nLa] at na
    have extA : Ext (L :: a :: W) H' (upd H' a (.dK kvs)) := fun b o hb hq => by
      rw [upd_ne fun z => hb (by rw [z]; exact List.mem_cons_of_mem _ List.mem_cons_self)]
      exact hq
    have pr' := pr.mono (W' := W) (fun b hb => List.mem_cons_of_mem _ (List.mem_cons_of_mem _ hb)) extA
    refine ⟨j.2, rr n' _ _ _ q (fun b o hb hq => ?_) (g.stab n' H' _ j.1 fun b hb => upd_ne fun z => aF (z ▸ hb)) (.dic (k.fresh (o := .dK kvs) na) (by rw [upd_ne nLa]; exact hL) pr'.keys pr'.vals)⟩
    by_cases hba : b = a
    · rw [hba, ha] at hq
      rw [hba, upd_same]
      exact hq
    · rw [upd_ne hba]
      exact e b o hb (by rw [upd_ne hba]; exact hq)
theorem he_dcItems (kf : D → Str) (vf : D → D) (hc : X.calm = true) (hN : X.N.Nodup) (ok : BlkOk X.N X.env.scope scope own) (hw : ∀ i ∈ own.map (·.2), ∀ x, ρ0[i]? = some x → x = SV.no) (hr : ρ[r]? = some (.dat (.dic ks vs))) (hx : X.N[r]? = some x) {Q : Nat → D → Prop}
    (hl : ρ0.length = ρ.length) (hd : ∀ (i : Nat) (d : D), ρ0[i]? = some (.dat d) → ρ[i]? = some (.dat d) ∧ ∃ k, d.fit k = true) (ho : ∀ (i : Nat) (ds : List D), ρ0[i]? ≠ some (SV.own ds)) (hv : ∃ k, fits k vs = true) (h10 : ks.length ≤ 1000)
    (h : ∀ g', ∀ d ∈ itemsD ks vs, MapsD X g' ρ0 scope (own.map (·.2)) (.Tuple elts kk tpos) kx vx n d (kf d) (vf d)) (q : Q n (.dic ((dputs kf vf (itemsD ks vs)).map (·.1)) ((dputs kf vf (itemsD ks vs)).map (·.2))))
    (hvs : Vis X.env.scope x := by first | exact Or.inl rfl | exact Or.inr (Or.inl rfl) | exact Or.inr (Or.inr rfl)) (hdb : (x == ("__debug__" : Str)) = false := by decide) (hcd : (x == ("__classdict__" : Str)) = false := by decide)
    (hbase : attributeBase (.Name x p) "items" X.env (eval (.Name x p) X.env) = eval (.Name x p) X.env := by rfl) (hline : (apos.endLine == cpos.line) = true := by rfl)
    (hs : ∀ y, foldedSetIterable (.Call (.Attribute (.Name x p) "items" apos) [] [] cpos) X.env y = pure y := by intro _; rfl) :
    HE X g n ρ (.DictComp kx vx [⟨.Tuple elts kk tpos, .Call (.Attribute (.Name x p) "items" apos) [] [] cpos, [], 0⟩] scope pos) Q := fun W σ H k R rr => by
  have p1 : ∀ (s : Shared) (H0 : Hp) (C : Addr) (cl : List (Str × Addr)) (fp : List Addr), PG (X.blk s H0 scope (compEnvC scope cl C X.env) fp) (.Tuple elts kk tpos) (fun v σ H Q => ∀ s H0 C cl fp, WG (Cx.bk X scope s H0 C cl fp) (.Tuple elts kk tpos) v σ H Q) := fun s H0 C cl fp => ⟨fun pins s1 _ _ _ u _ I r h => pgW.run pins s1 _ _ _ u _ I r (h s H0 C cl fp)⟩
  have p2 : ∀ (s : Shared) (H0 : Hp) (C : Addr) (cl : List (Str × Addr)) (fp : List Addr), PTs (X.blk s H0 scope (compEnvC scope cl C X.env) fp) [] (fun σ H Q => Q true H) := fun s H0 C cl fp => pts_nil
  have p3 : ∀ (s : Shared) (H0 : Hp) (C : Addr) (cl : List (Str × Addr)) (fp : List Addr), PE (X.blk s H0 scope (compEnvC scope cl C X.env) fp) kx (fun σ H Q => ∀ s H0 C cl fp, WE (Cx.bk X scope s H0 C cl fp) kx σ H Q) := fun s H0 C cl fp => ⟨fun pins s1 _ _ _ I h => peW.run pins s1 _ _ _ I (h s H0 C cl fp)⟩
  have p4 : ∀ (s : Shared) (H0 : Hp) (C : Addr) (cl : List (Str × Addr)) (fp : List Addr), PE (X.blk s H0 scope (compEnvC scope cl C X.env) fp) vx (fun σ H Q => ∀ s H0 C cl fp, WE (Cx.bk X scope s H0 C cl fp) vx σ H Q) := fun s H0 C cl fp => ⟨fun pins s1 _ _ _ I h => peW.run pins s1 _ _ _ I (h s H0 C cl fp)⟩
  obtain ⟨a, kvs, ha, rd⟩ := items_reading (kx := kx) (vx := vx) (scope := scope) (elts := elts) (kk := kk) (tpos := tpos) kf vf hc hw hr hl hd ho hv h10 h q k rr
  exact (pe_lock (pe_dc hc hN (pi_items (pe_var hx hvs hdb hcd) hbase hline) ok p1 p2 p3 p4 hs)).wpr ⟨a, .dK kvs, ha, trivial, rd⟩
/-- name = {k: v ..} on one line -/
theorem ps_setDc {i : Nat} {y : Str} {py : Pos} {tg iter : Expr} {ifs : List Expr} {spos : Pos} {wi : TI} {g : TG} {tt : TT} {tk tv : TE} (hc : X.calm = true) (hN : X.N.Nodup) (hy : X.N[i]? = some y) (hyl : X.env.scope.names.lookup y = some .local)
    (hsw : swapsWith (.DictComp kx vx [⟨tg, iter, ifs, 0⟩] scope pos) (some (.Name y py)) spos.line X.env = pure true) (hi : PI X tg iter wi) (ok : BlkOk X.N X.env.scope scope own)
    (hg : ∀ (s : Shared) (H : Hp) (C : Addr) (cl : List (Str × Addr)) (fp : List Addr), PG (X.blk s H scope (compEnvC scope cl C X.env) fp) tg g) (ht : ∀ (s : Shared) (H : Hp) (C : Addr) (cl : List (Str × Addr)) (fp : List Addr), PTs (X.blk s H scope (compEnvC scope cl C X.env) fp) ifs tt)
    (hk : ∀ (s : Shared) (H : Hp) (C : Addr) (cl : List (Str × Addr)) (fp : List Addr), PE (X.blk s H scope (compEnvC scope cl C X.env) fp) kx tk) (he : ∀ (s : Shared) (H : Hp) (C : Addr) (cl : List (Str × Addr)) (fp : List Addr), PE (X.blk s H scope (compEnvC scope cl C X.env) fp) vx tv) (hs : ∀ x, foldedSetIterable iter X.env x = pure x := by intro _; rfl) :
    PS X (.Assign [.Name y py] (.DictComp kx vx [⟨tg, iter, ifs, 0⟩] scope pos) spos) (tAsg (tDc wi g tt tk tv (own.map (·.2))) (gName i)) := by
  refine ⟨fun pins s σ H D I h => ?_⟩
  rw [exec_Assign_Name_used _ _ _ _ hsw]
  refine wpAny_bind (wpAny_standAt (wpAny_bind ?_))
  show wpAny _ X.A (do let _ ← comprehension (.DictComp kx vx [⟨tg, iter, ifs, 0⟩] scope pos) scope X.env (firstIterPos [⟨tg, iter, ifs, 0⟩] pos) newDict false (eval iter X.env) (some (assign (.Name y py) X.env))) _ _ s
  have h : tDc wi g tt tk tv (own.map (·.2)) σ H (fun x H1 => gName i x σ H1 D.nx) := h
  refine wpAny_bind (thn (dc_core (Qf := fun _ s' => SP X pins D .next s') hc hN I hi ok hg ht hk he hs h fun L C s' m H' I' q hn f => ?_) fun _ s' hq => wpAny_pure (wpAny_pure hq))
  show wpAny _ _ (assign (.Name y py) X.env (.ref L)) _ _ _
  refine wpAny_assign_Name (store_ok2 (v := V.ref L) I' hN hy (.inl hyl) rfl (fun s2 I2 ⟨a, sb, ha⟩ => ?_) (.inr hyl))
  obtain ⟨f0, f1, f2, f3, f4, f5⟩ := f
  have haC : C ≠ a := by
    rcases ha with z | z
    · rw [z]
      exact f1
    · exact fun e => f4 y a z e.symm
  refine ⟨m, hn.sameBut sb haC, fun h3 sb3 => ?_⟩
  exact ⟨_, H', I2.turned (t' := s2.toks) (fun b o hb e => (sb3.2 b hb).trans e) f0 f1 f3 f4 f5, q⟩
theorem hs_setDcItems {i : Nat} {y : Str} {py spos : Pos} {nx : Nat → List SV → Prop} {rt : Nat → SV → Prop} (kf : D → Str) (vf : D → D) (hc : X.calm = true) (hN : X.N.Nodup) (ok : BlkOk X.N X.env.scope scope own) (hw : ∀ i ∈ own.map (·.2), ∀ x, ρ0[i]? = some x → x = SV.no) (hr : ρ[r]? = some (.dat (.dic ks vs))) (hx : X.N[r]? = some x) (hy : X.N[i]? = some y)
    (hl : ρ0.length = ρ.length) (hd : ∀ (i : Nat) (d : D), ρ0[i]? = some (.dat d) → ρ[i]? = some (.dat d) ∧ ∃ k, d.fit k = true) (ho : ∀ (i : Nat) (ds : List D), ρ0[i]? ≠ some (SV.own ds)) (hv : ∃ k, fits k vs = true) (h10 : ks.length ≤ 1000)
    (h : ∀ g', ∀ d ∈ itemsD ks vs, MapsD X g' ρ0 scope (own.map (·.2)) (.Tuple elts kk tpos) kx vx n d (kf d) (vf d)) (q : nx n (ρ.set i (.dat (.dic ((dputs kf vf (itemsD ks vs)).map (·.1)) ((dputs kf vf (itemsD ks vs)).map (·.2))))))
    (hvs : Vis X.env.scope x := by first | exact Or.inl rfl | exact Or.inr (Or.inl rfl) | exact Or.inr (Or.inr rfl)) (hdb : (x == ("__debug__" : Str)) = false := by decide) (hcd : (x == ("__classdict__" : Str)) = false := by decide)
    (hbase : attributeBase (.Name x p) "items" X.env (eval (.Name x p) X.env) = eval (.Name x p) X.env := by rfl) (hline : (apos.endLine == cpos.line) = true := by rfl)
    (hs : ∀ y, foldedSetIterable (.Call (.Attribute (.Name x p) "items" apos) [] [] cpos) X.env y = pure y := by intro _; rfl)
    (hyl : X.env.scope.names.lookup y = some .local := by rfl) (hsw : swapsWith (.DictComp kx vx [⟨.Tuple elts kk tpos, .Call (.Attribute (.Name x p) "items" apos) [] [] cpos, [], 0⟩] scope pos) (some (.Name y py)) spos.line X.env = pure true := by rfl) :
    HS X g n ρ (.Assign [.Name y py] (.DictComp kx vx [⟨.Tuple elts kk tpos, .Call (.Attribute (.Name x p) "items" apos) [] [] cpos, [], 0⟩] scope pos) spos) nx rt := fun H0 W0 τ σ H S Dd q1 q2 => by
  obtain ⟨W, w1, w2, k, w3⟩ := S.ex
  have p1 : ∀ (s : Shared) (H0 : Hp) (C : Addr) (cl : List (Str × Addr)) (fp : List Addr), PG (X.blk s H0 scope (compEnvC scope cl C X.env) fp) (.Tuple elts kk tpos) (fun v σ H Q => ∀ s H0 C cl fp, WG (Cx.bk X scope s H0 C cl fp) (.Tuple elts kk tpos) v σ H Q) := fun s H0 C cl fp => ⟨fun pins s1 _ _ _ u _ I r h => pgW.run pins s1 _ _ _ u _ I r (h s H0 C cl fp)⟩
  have p2 : ∀ (s : Shared) (H0 : Hp) (C : Addr) (cl : List (Str × Addr)) (fp : List Addr), PTs (X.blk s H0 scope (compEnvC scope cl C X.env) fp) [] (fun σ H Q => Q true H) := fun s H0 C cl fp => pts_nil
  have p3 : ∀ (s : Shared) (H0 : Hp) (C : Addr) (cl : List (Str × Addr)) (fp : List Addr), PE (X.blk s H0 scope (compEnvC scope cl C X.env) fp) kx (fun σ H Q => ∀ s H0 C cl fp, WE (Cx.bk X scope s H0 C cl fp) kx σ H Q) := fun s H0 C cl fp => ⟨fun pins s1 _ _ _ I h => peW.run pins s1 _ _ _ I (h s H0 C cl fp)⟩
  have p4 : ∀ (s : Shared) (H0 : Hp) (C : Addr) (cl : List (Str × Addr)) (fp : List Addr), PE (X.blk s H0 scope (compEnvC scope cl C X.env) fp) vx (fun σ H Q => ∀ s H0 C cl fp, WE (Cx.bk X scope s H0 C cl fp) vx σ H Q) := fun s H0 C cl fp => ⟨fun pins s1 _ _ _ I h => peW.run pins s1 _ _ _ I (h s H0 C cl fp)⟩
  obtain ⟨a, kvs, ha, rd⟩ := items_reading (kx := kx) (vx := vx) (scope := scope) (elts := elts) (kk := kk) (tpos := tpos) (Q := fun n' d => nx n' (ρ.set i (.dat d))) (R := fun v H' => Dd.nx (σ.set i (some v)) H') kf vf hc hw hr hl hd ho hv h10 h q k fun n' d v H' q' e j dd => q1 n' _ _ H' q' ((S.step k e j).set w1 w2 (k.step e j) (fun p hp => (w3 p hp).ext (k.extW e)) dd)
  exact (ps_lock (ps_setDc hc hN hy hyl hsw (pi_items (pe_var hx hvs hdb hcd) hbase hline) ok p1 p2 p3 p4 hs)).wpr ⟨a, .dK kvs, ha, trivial, rd⟩
end
end Fk
set_option Elab.async false
set_option linter.all false
set_option maxRecDepth 100000
set_option maxHeartbeats 4000000
/-! K19: enumerate(a tuple). -/
namespace Fk
open PySem PySem.Spec PyProof.Rows L2
theorem meets_enum1 {v : Value} {o : Obj} {H : Heap → Prop} (B : Begins v o H) :
    Meets (Builtin.«enumerate.__new__» ⟨[.type "enumerate", v], []⟩) (fun _ R s => H s.heap ∧
      R (.ok (.ret (.ref (s.heap.push o).objs.size))) { s with heap := (s.heap.push o).push { cls := .type "enumerate", data := .fields #[.none, .bool false, .ref s.heap.objs.size, rawInt 0, .none, .none] } }) :=
  .of_wp fun prog w A R s h => by
    obtain ⟨hp, g, d, tk, os⟩ := s
    obtain ⟨h1, h⟩ := h
    have hsub := sub_enumerate
    have q1 : ∀ {A' : Around} {E : Value → Shared → Prop} {Q : Value → Shared → Prop}, Q (.ref hp.objs.size) ⟨hp.push o, g, d, tk, os⟩ → wpAny (model prog w) A' (pyIter v) Q E ⟨hp, g, d, tk, os⟩ :=
      fun q => B.iter prog w _ _ ⟨hp, g, d, tk, os⟩ _ h1 q
    wp_walk using q1
    refine wpAny_stack_any fun st => wpAny_pure ?_
    split
    · rename_i c _ _ _ _ _
      cases (c == Value.type "enumerate")
      · wp_walk using q1
        exact ⟨_, rfl, h⟩
      · wp_walk using q1
        exact ⟨_, rfl, h⟩
    · wp_walk using q1
      exact ⟨_, rfl, h⟩
theorem call_enumT {prog : Program} {w : World} {A : Around} {E : Value → Shared → Prop} {s : Shared} {l : Addr} {items : Array Value} {Q : Value → Shared → Prop} (hL : s.heap.IsTuple l items)
    (h : ∀ h', IsEnum h' (s.heap.objs.size + 1) s.heap.objs.size 0 .none → h'.IsTupleIter s.heap.objs.size l 0 → h'.objs.size = s.heap.objs.size + 2 → (∀ b o, s.heap.get? b = some o → h'.get? b = some o) → Q (.ref (s.heap.objs.size + 1)) { s with heap := h' }) :
    wpAny (model prog w) A (call (.type "enumerate") [.ref l]) Q E s := by
  refine callType_new F.called_enumerate (by decide) (F.typeCall_enumerate_1 _) (F.newCall_enumerate_1 _) (fun obj => F.args_object_init_2 obj _) F.entry_enumerate_new (meets_enum1 (begins_tuple l items)) ⟨hL, ?_⟩
  have hz : (s.heap.push { cls := .type "tuple_iterator", data := .fields #[.ref l, .int 0 0] }).objs.size = s.heap.objs.size + 1 := Heap.size_push ..
  show _ ∧ _
  rw [hz]
  have he : IsEnum ((s.heap.push { cls := .type "tuple_iterator", data := .fields #[.ref l, .int 0 0] }).push { cls := .type "enumerate", data := .fields #[.none, .bool false, .ref s.heap.objs.size, rawInt 0, .none, .none] }) (s.heap.objs.size + 1) s.heap.objs.size 0 .none := by
    have := Heap.get?_push_size (s.heap.push { cls := .type "tuple_iterator", data := .fields #[.ref l, .int 0 0] }) (o := { cls := .type "enumerate", data := .fields #[.none, .bool false, .ref s.heap.objs.size, rawInt 0, .none, .none] }) rfl
    rw [hz] at this
    exact this
  exact ⟨⟨_, he, rfl⟩, h _ he ⟨_, Heap.get?_push_of_some _ (Heap.get?_push_size _ rfl), rfl, rfl⟩ (by rw [Heap.size_push, hz]) fun b o y => Heap.get?_push_of_some _ (Heap.get?_push_of_some _ y)⟩
/-- the tuple at a, each item in a new pair -/
def ItET (K : PySem.W.Frag) (a : Addr) : It :=
  ⟨fun i H => ∃ (xs : List V) (x : V), SqT K H a xs ∧ xs[i]? = some x, fun i H v H' => ∃ T x, v = .ref T ∧ H T = none ∧ H' = upd H T (.tup [.int (i : Nat), x]) ∧ ∀ xs, SqT K H a xs → xs[i]? = some x, fun i H => ∃ xs : List V, SqT K H a xs ∧ xs.length = i⟩
theorem turn_enumT {P : Program} {w : World} {K : PySem.W.Frag} {elts : List Expr} {kk : Nat} {tpos : Pos} (a e it : Addr) (hai : a ≠ it) (hae : a ≠ e) (items : Array Value) :
    Turn P w K (.Tuple elts kk tpos) (ItET K a) [e, it] e (fun i h => (∃ old, IsEnum h e it ((i : Nat) : Int) old) ∧ h.IsTupleIter it a i ∧ e ≠ it) where
  mem := by simp
  obj := fun i h st b hb => by
    obtain ⟨⟨old, he⟩, ⟨o, ho, hc, hd⟩, _⟩ := st
    have e' : b = e ∨ b = it := by simpa using hb
    rcases e' with z | z
    · rw [z]
      exact ⟨_, he, fun v q => nomatch q⟩
    · rw [z]
      exact ⟨o, ho, fun v q => by rw [hd] at q; cases q⟩
  keep := fun i h h' st k => let ⟨⟨old, he⟩, hi, hne⟩ := st; ⟨⟨old, k e (by simp) _ he⟩, hi.at fun o q => k it (by simp) o q, hne⟩
  item := by
    intro X hP hw hK hc i pins s σ H E I hf st hg
    subst hP hw hK
    obtain ⟨⟨old, he⟩, hit, hne⟩ := st
    obtain ⟨xs, x, hq, hx⟩ := hg
    obtain ⟨its, rv, p, hz⟩ := I.tuple hq
    obtain ⟨u, hu, ru⟩ := rv.get hx
    have hel : e < s.heap.objs.size := Heap.lt_size he
    have hil : it < s.heap.objs.size := by obtain ⟨_, q, _⟩ := hit; exact Heap.lt_size q
    have hlt : i < its.toArray.size := by
      rw [List.size_toArray]
      exact (List.getElem?_eq_some_iff.mp hu).1
    have ht : s.heap.IsTuple a its.toArray := p
    refine wpAny_pyNext_enum_itemC (c := ((i : Nat) : Int)) (Draws.tuple (A := X.A.in1) (I.ok.hd hc) it a hai its.toArray) he ⟨hit, ht⟩ hlt hne (by simp; exact ⟨hne, Ne.symm hae⟩) fun x' h' tk hx' ho hst' hT hsz hk => ?_
    have ex : x' = u := by
      have h1 : its.toArray[i]? = some x' := hx'
      have h2 : its.toArray[i]? = some u := by simpa using hu
      exact Option.some.inj (h1.symm.trans h2)
    subst ex
    refine ⟨_, rfl, wpAny_letOwnedTupleGo_enum (s := { s with heap := h', toks := tk + 1 }) ho fun h'' he' sb => ?_⟩
    have hT2 : h''.get? s.heap.objs.size = some { cls := .type "tuple", data := .seq #[.int i tk, x'] } := (sb.2 _ (Nat.ne_of_gt hel)).trans hT
    have new : ObjOk X.prog X.w (upd H s.heap.objs.size (.tup [.int (i : Nat), x])) h'' s.heap.objs.size (.tup [.int (i : Nat), x]) :=
      ⟨by show 2 ≤ sizeLine; decide, [.int i tk, x'], .cons ⟨_, rfl⟩ (.cons ru .nil), ⟨_, hT2, rfl, _, rfl⟩⟩
    have I1 : Inv X pins σ (upd H s.heap.objs.size (.tup [.int (i : Nat), x])) { s with heap := h'', toks := tk + 1 } :=
      I.turnedNew (ch := [e, it]) (fun b ob hb q => (sb.2 b (fun z => hb (by simp [z]))).trans (hk b ob (fun z => hb (by simp [z])) (fun z => hb (by simp [z])) q)) hf (Nat.le_refl _) new
    refine ⟨.ref s.heap.objs.size, _, I1, rfl, ⟨_, x, rfl, I.hok.fresh (Nat.le_refl _), rfl, fun ys hy => by rw [I.tuple_inj hy hq]; exact hx⟩, ⟨⟨x', ?_⟩, hst'.1.at fun o q => (sb.2 it (Ne.symm hne)).trans q, hne⟩, fun b hb => ?_⟩
    · have e1 : ((i + 1 : Nat) : Int) = (i : Int) + 1 := by omega
      rw [e1]
      exact he'
    · have hb' : b < s.heap.objs.size := by
        have e' : b = e ∨ b = it := by simpa using hb
        rcases e' with z | z
        · rw [z]; exact hel
        · rw [z]; exact hil
      rw [upd_ne (Nat.ne_of_lt hb')]
      exact (hf b hb).1
  done := by
    intro X hP hw hK hc i pins s σ H E I hf st hg
    subst hP hw hK
    obtain ⟨⟨old, he⟩, hit, hne⟩ := st
    obtain ⟨xs, hq, hx⟩ := hg
    obtain ⟨its, rv, p, hz⟩ := I.tuple hq
    obtain ⟨f0, f1, f2, f3, f4, f5⟩ := hf it (by simp)
    have hl := rv.length
    have ht : s.heap.IsTuple a its.toArray := p
    have ei : i = its.toArray.size := by
      rw [List.size_toArray, ← hl]
      exact hx.symm
    have he' : IsEnum s.heap e it ((its.toArray.size : Nat) : Int) old := by rw [← ei]; exact he
    have hit' : s.heap.IsTupleIter it a its.toArray.size := by rw [← ei]; exact hit
    exact wpAny_pyNext_enum_endD (Draws.tuple (A := X.A.in1) (I.ok.hd hc) it a hai its.toArray) he' ⟨hit', ht⟩ fun h' eb => ⟨rfl, I.turned (t' := s.toks) (fun b o hb q => eb b o (fun z => hb (by simp [z])) q) (hf it (by simp)).1 f1 f3 f4 f5⟩
  self := fun A i s Q E st h => let ⟨⟨_, he⟩, _⟩ := st; wpAny_pyIter_enum he h
def iEnumT (K : PySem.W.Frag) (ta : TA) : TI := fun σ H R => ta σ H fun vs H1 => ∃ a xs, vs = [.ref a] ∧ SqT K H1 a xs ∧ R (ItET K a) H1
theorem pi_enumT {X : Cx} {e : Expr} {ta : TA} {p pos tpos : Pos} {elts : List Expr} {kk : Nat} (hg : Gl X "enumerate") (hm : X.mg "enumerate" = none) (ha : PA X [e] ta) (hs : starEach [e] X.env = [(false, eval e X.env)] := by rfl) :
    PI X (.Tuple elts kk tpos) (.Call (.Name "enumerate" p) [e] [] pos) (iEnumT X.K ta) := by
  refine ⟨fun pins s σ H R I h => ?_⟩
  refine Call_ (ld_blt I hg hm boot_enumerate (PyProof.Rows.callWith_type1 (thn (ha.run pos pins s σ H _ I h) fun us s1 ⟨vs, H1, I1, r1, q1⟩ => ?_) hs rfl))
  obtain ⟨a, xs, ex, hq, q⟩ := q1
  subst ex
  cases r1 with
  | cons r rr =>
    cases rr
    cases r
    obtain ⟨its, rv, p', hz⟩ := I1.tuple hq
    have ht : s1.heap.IsTuple a its.toArray := p'
    have hal : a < s1.heap.objs.size := by obtain ⟨_, e, _⟩ := ht; exact Heap.lt_size e
    refine call_enumT ht fun h' he hit hsz hk => wpAny_pyIter_enum he ?_
    have I2 : Inv X pins σ H1 { s1 with heap := h' } := I1.kept (t' := s1.toks) hk
    refine ⟨s1.heap.objs.size + 1, [s1.heap.objs.size + 1, s1.heap.objs.size], _, _, H1, rfl, I2, turn_enumT a (s1.heap.objs.size + 1) s1.heap.objs.size (Nat.ne_of_lt hal) (Nat.ne_of_lt (Nat.lt_succ_of_lt hal)) its.toArray, ⟨⟨.none, he⟩, hit, Nat.succ_ne_self _⟩, fun b hb => ?_, q⟩
    have e' : b = s1.heap.objs.size + 1 ∨ b = s1.heap.objs.size := by simpa using hb
    have hle : s1.heap.objs.size ≤ b := by
      rcases e' with z | z
      · rw [z]; exact Nat.le_add_right _ _
      · rw [z]; exact Nat.le_refl _
    exact I1.fpOk hle (I1.hok.fresh hle)
theorem Feeds.enumT {K : PySem.W.Frag} {a : Addr} {ds : List D} : Feeds K (ItET K a) [(.ref a, .tup ds)] (enumD 0 ds) := by
  have key : ∀ {W : List Addr} {H : Hp}, (∀ p ∈ [((.ref a : V), D.tup ds)], DD K W H p.1 p.2) → ∃ xs, SqT K H a xs ∧ DDs K W H xs ds := fun {W H} h => by
    obtain ⟨b, xs, e, _, hb, hx⟩ := (h _ List.mem_cons_self).tup_inv
    have e := V.ref.inj e
    subst e
    exact ⟨xs, .inl (.inl hb), hx⟩
  refine ⟨fun W H h i d e => ?_, fun W H h tr i d e x H' y => ?_, fun W H h => ?_⟩
  · obtain ⟨xs, h1, h2⟩ := key h
    obtain ⟨y, q1, rfl⟩ := enumD_get e
    obtain ⟨v, h3, _⟩ := h2.get q1
    exact ⟨xs, v, h1, h3⟩
  · obtain ⟨xs, h1, h2⟩ := key h
    obtain ⟨y', q1, rfl⟩ := enumD_get e
    obtain ⟨v, h3, h4⟩ := h2.get q1
    obtain ⟨T, z1, rfl, hT, rfl, y1⟩ := y
    have w1 := (y1 xs h1).symm.trans h3
    cases w1
    rw [Nat.zero_add]
    exact new_pair tr hT (.int _) h4
  · obtain ⟨xs, h1, h2⟩ := key h
    exact ⟨xs, h1, by rw [enumD_len, h2.length]⟩
section
variable {X : Cx} {g : Gx} {n : Nat} {ρ : List SV} {e : Expr} {elts : List Expr} {pos p tpos : Pos} {kk : Nat} {Q : Nat → List D → Prop}
theorem hi_enumT (hm : X.mg "enumerate" = none) (h : HE X g n ρ e fun n1 d => ∃ ds, d = .tup ds ∧ Q n1 (enumD 0 ds)) (hg : Gl X "enumerate" := by rfl) (hs : starEach [e] X.env = [(false, eval e X.env)] := by rfl)
    (hs2 : starEach [e] X.env = (false, eval e X.env) :: starEach [] X.env := by rfl) : HI X g n ρ (.Tuple elts kk tpos) (.Call (.Name "enumerate" p) [e] [] pos) Q := ⟨_, pi_enumT hg hm (pa_cons peW pa_nil hs2) hs, fun W σ H k R r => h W σ H k _ fun n1 d v H1 q e1 j1 dd => by
  obtain ⟨ds, rfl, q⟩ := q
  obtain ⟨c, xs, rfl, nc, hc, hx⟩ := dd.tup_inv
  exact ⟨c, xs, rfl, .inl (.inl hc), r n1 _ _ _ H1 q e1 j1 Feeds.enumT fun p hp => by
    have e : p = (.ref c, .tup ds) := by simpa using hp
    subst e
    exact dd⟩⟩
end
end Fk
set_option Elab.async false
set_option linter.all false
set_option maxRecDepth 100000
set_option maxHeartbeats 4000000
/-! W1: the walk of the small checkers. -/
namespace Fk
open PySem PySem.Spec PyProof.Rows L2
section
variable {P : Program} {w : World} {K : PySem.W.Frag} {mg : Str → Option Value} {base : Heap}
theorem on_is_number (T : Top K mg) {d : D} (hd : d.typed = true) : On P w K mg base 1 "is_number" d (isNum d) := by
  have hN : (["thing"] : List Str).Nodup := by decide +kernel
  refine has_of (N := ["thing"]) T (i := 9) (d := d_is_number) rfl ⟨rfl, rfl, rfl, hN, rfl, by decide +kernel, by decide +kernel⟩ (by decide +kernel) rfl rfl rfl (fun _ _ _ _ _ _ us hl => match us, hl with | [_], _ => rfl) (fun g n ds Q h => by obtain ⟨rfl, _⟩ := h; rfl) fun cd Ar outer s H E hr g n ds Q h => ?_
  obtain ⟨rfl, q⟩ := h
  have e : isNum d = (d.isInt && !d.isBl) := by cases d <;> rfl
  refine hss_cons (hs_ret (he_and (he_isi kit_int T.f_isinstance T.f_int boot_int (he_name (i := 0) rfl rfl ⟨hd, _, rfl, fun e1 => ?_, fun e1 => ?_⟩))))
  · refine he_one (he_not (he_isi kit_bl T.f_isinstance T.f_bool boot_bool (he_name (i := 0) rfl rfl ⟨hd, _, rfl, ?_⟩)))
    rw [e, e1] at q
    exact q
  · rw [e, e1] at q
    exact q
theorem sized_of {d : D} (h : d.isStr = true) (hz : d.sz ≤ MX) : d.sized = true ∧ ∃ s : Str, d = .str s := by
  cases d with
  | str s =>
    refine ⟨decide_eq_true ?_, s, rfl⟩
    rw [D.sz] at hz
    unfold MX at hz
    unfold sizeLine
    omega
  | _ => cases h
theorem isi_str (T : Top K mg) {X : Cx} {g : Gx} {n : Nat} {ρ : List SV} {e : Expr} {p pos p2 : Pos} {d : D} (hX : X.mg = mg) (hd : d.typed = true) (h : HE X g n ρ e fun n' z => n' = n ∧ z = d)
    (hg : Gl X "isinstance" := by rfl) (hgT : Gl X "str" := by rfl) (hs : starEach [e, .Name "str" p2] X.env = (false, eval e X.env) :: starEach [.Name "str" p2] X.env := by rfl) (hs2 : starEach [.Name "str" p2] X.env = (false, eval (.Name "str" p2) X.env) :: starEach [] X.env := by rfl)
    (hpl : (backTo pos (starEach [.Name "str" p2] X.env)).any (·.1) = false := by rfl) : HE X g n ρ (.Call (.Name "isinstance" p) [e, .Name "str" p2] [] pos) fun n' z => n' = n ∧ z = .bl d.isStr :=
  he_isi kit_str (by rw [hX]; exact T.f_isinstance) (by rw [hX]; exact T.f_str) boot_str (HE.mono h fun n' z q => ⟨by rw [q.2]; exact hd, q.1, by rw [q.2]⟩) hg hgT (by decide) (by decide) hs hs2 hpl
theorem on_is_word (T : Top K mg) {d : D} (hd : d.typed = true) (hz : d.sz ≤ MX) : On P w K mg base 1 "is_word" d (isWord d) := by
  have hN : (["thing", "sign"] : List Str).Nodup := by decide +kernel
  refine has_of (N := ["thing", "sign"]) T (i := 10) (d := d_is_word) rfl ⟨rfl, rfl, rfl, hN, rfl, by decide +kernel, by decide +kernel⟩ (by decide +kernel) rfl rfl rfl (fun _ _ _ _ _ _ us hl => match us, hl with | [_], _ => rfl) (fun g n ds Q h => by obtain ⟨rfl, _⟩ := h; rfl) fun cd Ar outer s H E hr g n ds Q h => ?_
  obtain ⟨rfl, q⟩ := h
  refine hss_cons (hs_ifP (!d.isStr || !(decide (1 ≤ (d.len : Int)) && decide ((d.len : Int) ≤ 8))) (ht_bool (hw_orP (ht_notP (ht_valP (he_isi kit_str T.f_isinstance T.f_str boot_str (he_name (i := 0) rfl rfl ⟨hd, rfl, rfl⟩)))) fun e => hw_or1 (ht_notP (ht_chain op_le op_le (he_int (he_len T.f_len (he_name (i := 0) rfl rfl ⟨(sized_of (by simpa using e) hz).1, rd_intB ⟨_, rfl, fun e1 => ?_, fun e1 => ?_⟩⟩))))))) (fun e => ?_) fun e => ?_)
  · exact he_gint T.long (rd_intB ⟨_, rfl, rfl, by rw [e1]; rfl⟩)
  · exact ⟨rfl, by rw [e1]; rfl⟩
  · refine hss_cons (hs_ret (he_bl ?_))
    have e2 : isWord d = false := by
      cases d with
      | str s =>
        unfold isWord
        simp only [D.isStr, D.len, Bool.not_true, Bool.false_or, Bool.not_eq_true'] at e
        have e3 : (decide (1 ≤ s.length) && decide (s.length ≤ 8)) = false := by
          rw [← e]
          congr 1 <;> exact decide_eq_decide.mpr (by omega)
        simp only [e3, Bool.false_and]
      | _ => rfl
    rw [e2] at q
    exact q
  · obtain ⟨s, rfl⟩ : ∃ s : Str, d = .str s := (sized_of (by cases d <;> first | rfl | (cases e)) hz).2
    have hl : decide (1 ≤ s.length) = true ∧ decide (s.length ≤ 8) = true := by
      have e1 : (!(decide (1 ≤ ((s.length : Nat) : Int)) && decide (((s.length : Nat) : Int) ≤ 8))) = false := e
      rw [Bool.not_eq_false', Bool.and_eq_true, decide_eq_true_eq, decide_eq_true_eq] at e1
      exact ⟨decide_eq_true (by omega), decide_eq_true (by omega)⟩
    refine hss_nil (hss_cons (hs_ret (he_allMap (fun d => decide ((text d).cps.toList.headD 0 ∈ LET.cps.toList)) (own := [("sign", 1)]) T.f_all rfl hN (show BlkOk (["thing", "sign"] : List Str) d_is_word.scope _ _ from ⟨rfl, by decide +kernel, by decide +kernel, by decide +kernel, by decide +kernel⟩) (own1 rfl) (hi_str (he_name (i := 0) rfl rfl ⟨s, rfl, ?_, fun d hd => ?_, ?_⟩)))))
    · unfold signsD
      have h8 := of_decide_eq_true hl.2
      have e9 : s.cps.toList.length = s.length := Array.length_toList
      rw [List.length_map, e9]
      unfold sizeLine
      omega
    · obtain ⟨c, hc, rfl⟩ := List.mem_map.mp hd
      exact ⟨_, fun s H C cl fp => hg_name hN rfl, fun s H C cl fp => he_cmp op_in_sign (he_name (i := 1) rfl rfl (he_gstr T.letters (rd_inS ⟨rfl, rfl⟩)))⟩
    · have e3 : ((signsD s).all fun d => decide ((text d).cps.toList.headD 0 ∈ LET.cps.toList)) = isWord (.str s) := by
        unfold isWord signsD
        simp only [hl.1, hl.2, Bool.true_and, List.all_map]
        rfl
      rw [← e3] at q
      exact q
theorem rd_notinStr {K : PySem.W.Frag} {Q : D → Prop} {i j : Str} (q : Q (.bl (!(!(Builtin.Str.occurrences j i 0 j.length 1).isEmpty)))) : RD K (fun x y H Q => ∃ i j, x = .str i ∧ y = .str j ∧ Q (.bl (!(!(Builtin.Str.occurrences j i 0 j.length 1).isEmpty))) H) (.str i) (.str j) Q := fun W H v u _ dx dy R r =>
  ⟨i, j, dx.str_inv, dy.str_inv, r _ _ H q (Same.refl H) (.bl _)⟩
theorem rd_inK {K : PySem.W.Frag} {Q : D → Prop} {s x : Str} {ss : List Str} (hs : ∀ H, SqT K H (He.ga K x) (ss.map V.str)) (q : Q (.bl (decide (s ∈ ss)))) : RD K (rIn K false) (.str s) (.fn x) Q := fun W H v u _ dx dy R r => by
  have e1 := dx.str_inv
  have e2 := dy.fn_inv
  subst e1
  subst e2
  refine ⟨_, _, rfl, .inr (hs H), rfl, flat_strs ss, ?_⟩
  show R (.bl (inV _ _)) H
  rw [inV_strs]
  exact r _ _ H q (Same.refl H) (.bl _)
theorem isStr_of {d : D} (h : d.isStr = true) : ∃ s, d = .str s := by cases d <;> first | exact ⟨_, rfl⟩ | cases h
theorem isTup_of {d : D} (h : d.isTup = true) : ∃ s, d = .tup s := by cases d <;> first | exact ⟨_, rfl⟩ | cases h
theorem on_is_row_text (T : Top K mg) {d : D} (hd : d.typed = true) : On P w K mg base 1 "is_row_text" d (isRow d) := by
  have hN : (["thing"] : List Str).Nodup := by decide +kernel
  refine has_of (N := ["thing"]) T (i := 11) (d := d_is_row_text) rfl ⟨rfl, rfl, rfl, hN, rfl, by decide +kernel, by decide +kernel⟩ (by decide +kernel) rfl rfl rfl (fun _ _ _ _ _ _ us hl => match us, hl with | [_], _ => rfl) (fun g n ds Q h => by obtain ⟨rfl, _⟩ := h; rfl) fun cd Ar outer s H E hr g n ds Q h => ?_
  obtain ⟨rfl, q⟩ := h
  refine hss_cons (hs_ret (he_and (he_isi kit_str T.f_isinstance T.f_str boot_str (he_name (i := 0) rfl rfl ⟨hd, _, rfl, fun e1 => ?_, fun e1 => ?_⟩))))
  · obtain ⟨s, rfl⟩ := isStr_of e1
    exact he_one (he_cmp op_notin_str (he_str (he_name (i := 0) rfl rfl (rd_notinStr q))))
  · have e : isRow d = false := by cases d <;> first | rfl | cases e1
    rw [e] at q
    exact q
theorem on_is_sign (T : Top K mg) {d : D} (hd : d.typed = true) : On P w K mg base 1 "is_sign" d (isSign d) := by
  have hN : (["thing"] : List Str).Nodup := by decide +kernel
  refine has_of (N := ["thing"]) T (i := 12) (d := d_is_sign) rfl ⟨rfl, rfl, rfl, hN, rfl, by decide +kernel, by decide +kernel⟩ (by decide +kernel) rfl rfl rfl (fun _ _ _ _ _ _ us hl => match us, hl with | [_], _ => rfl) (fun g n ds Q h => by obtain ⟨rfl, _⟩ := h; rfl) fun cd Ar outer s H E hr g n ds Q h => ?_
  obtain ⟨rfl, q⟩ := h
  refine hss_cons (hs_ret (he_and (he_isi kit_str T.f_isinstance T.f_str boot_str (he_name (i := 0) rfl rfl ⟨hd, _, rfl, fun e1 => ?_, fun e1 => ?_⟩))))
  · obtain ⟨s, rfl⟩ := isStr_of e1
    exact he_one (he_cmp op_in_seq (he_name (i := 0) rfl rfl (he_fn T.signs (rd_inK (ss := SGN) T.tup q))))
  · have e : isSign d = false := by cases d <;> first | rfl | cases e1
    rw [e] at q
    exact q
def aAll (P : Program) (w : World) (K : PySem.W.Frag) (mg : Str → Option Value) (base : Heap) (k : Nat) (x : Str) (p : D → Bool) : Acc := fun _ n ds Q => ∃ thing, ds = [thing, .fn x] ∧ thing.typed = true ∧ (∀ es, thing = .tup es → es.length ≤ sizeLine ∧ ∀ e ∈ es, On P w K mg base k x e (p e)) ∧ Q n (.bl (areAll p thing))
theorem has_are_all (T : Top K mg) (k : Nat) (x : Str) (p : D → Bool) : Has P w K mg base (k + 1) "are_all" ["thing", "is_one"] (aAll P w K mg base k x p) := by
  have hN : (["thing", "is_one", "one"] : List Str).Nodup := by decide +kernel
  refine has_of (N := ["thing", "is_one", "one"]) T (i := 13) (d := d_are_all) rfl ⟨rfl, rfl, rfl, hN, rfl, by decide +kernel, by decide +kernel⟩ (by decide +kernel) rfl rfl rfl (fun _ _ _ _ _ _ us hl => match us, hl with | [_, _], _ => rfl) (fun g n ds Q h => by obtain ⟨_, rfl, _⟩ := h; rfl) fun cd Ar outer s H E hr g n ds Q h => ?_
  obtain ⟨thing, rfl, hd, hall, q⟩ := h
  refine hss_cons (hs_ret (he_and (he_isi kit_tup T.f_isinstance T.f_tuple boot_tuple (he_name (i := 0) rfl rfl ⟨hd, _, rfl, fun e1 => ?_, fun e1 => ?_⟩))))
  · obtain ⟨es, rfl⟩ := isTup_of e1
    obtain ⟨hz, hon⟩ := hall es rfl
    refine he_one ?_
    refine he_allMap p (own := [("one", 2)]) T.f_all rfl hN ?_ (own1 rfl) (hi_tup (he_name (i := 0) rfl rfl ⟨es, rfl, hz, fun d hd => ?_, q⟩))
    · exact (show BlkOk (["thing", "is_one", "one"] : List Str) d_are_all.scope _ _ from ⟨rfl, by decide +kernel, by decide +kernel, by decide +kernel, by decide +kernel⟩)
    · exact ⟨_, fun s H C cl fp => hg_name hN rfl, fun s H C cl fp => he_callv (i := 1) rfl (hon d hd) hr rfl (ha_cons (he_name (i := 2) rfl rfl (ha_nil ⟨rfl, rfl, rfl⟩)))⟩
  · have e : areAll p thing = false := by cases thing <;> first | rfl | cases e1
    rw [e] at q
    exact q
end
end Fk
set_option Elab.async false
set_option linter.all false
set_option maxRecDepth 100000
set_option maxHeartbeats 4000000
/-! W2: is_formed, is_row_of; sums, tests. -/
namespace Fk
open PySem PySem.Spec PyProof.Rows L2
section
variable {P : Program} {w : World} {K : PySem.W.Frag} {mg : Str → Option Value} {base : Heap}
theorem atI_nat {α : Type} {xs : List α} {i : Nat} {d : α} (h : xs[i]? = some d) : atI xs (i : Int) = some d := by
  have hi : i < xs.length := (List.getElem?_eq_some_iff.mp h).1
  unfold atI ixN
  have e : xs[i] = d := Option.some.inj ((List.getElem?_eq_getElem hi).symm.trans h)
  simp [hi, e]
theorem atI_0 {α : Type} {x : α} {xs : List α} : atI (x :: xs) 0 = some x := atI_nat (i := 0) rfl
theorem cut_from (xs : List D) (i : Nat) (hi : i ≤ xs.length) : cutD xs (some (i : Int)) none = xs.drop i := by
  unfold cutD
  rw [HT.sIx_nat, HT.sIx_none, Nat.min_eq_left hi]
  exact List.take_of_length_le (by rw [List.length_drop]; exact Nat.le_refl _)
theorem cut_to (xs : List D) (i : Nat) (hi : i ≤ xs.length) : cutD xs none (some (i : Int)) = xs.take i := by
  unfold cutD
  rw [HT.sIx_nat, HT.sIx_none, Nat.min_eq_left hi]
  simp
theorem cut_1 (x : D) (xs : List D) : cutD (x :: xs) (some 1) none = xs := cut_from (x :: xs) 1 (by simp)
theorem Room.u1 {k : Nat} {A : Around} (r : Room k A) : A.units + 1 < cLine := by
  have := r.units
  omega
def D.hd : D → D
  | .tup (e :: _) => e
  | _ => .non
theorem zipAll_eq (L : Str → D → Bool) : ∀ ls as : List D, zipAll L ls as = (zipD ls as).all fun d => match d with
    | .tup [l, a] => looked L l a
    | _ => true
  | [], _ => by simp [zipAll, zipD]
  | _ :: _, [] => by simp [zipAll, zipD]
  | l :: ls, a :: as => by simp [zipAll, zipD, zipAll_eq L ls as]
theorem zipD_mem {ls as : List D} {d : D} (h : d ∈ zipD ls as) : ∃ l a, d = .tup [l, a] ∧ l ∈ ls ∧ a ∈ as := by
  obtain ⟨i, hi, e⟩ := List.mem_iff_getElem.mp h
  obtain ⟨x, y, h1, h2, h3⟩ := zipD_get (i := i) (d := d) (by rw [List.getElem?_eq_getElem hi, e])
  exact ⟨x, y, h3, List.mem_of_getElem? h1, List.mem_of_getElem? h2⟩
def aFormed (P : Program) (w : World) (K : PySem.W.Frag) (mg : Str → Option Value) (base : Heap) (k : Nat) (L : Str → D → Bool) : Acc := fun _ n ds Q => ∃ thing ks vs, ds = [thing, .dic ks vs] ∧ thing.typed = true ∧ thing.sz ≤ MX ∧ (∀ es, thing = .tup es → ∀ e ∈ es, e.typed = true) ∧
  (∀ h as d, thing = .tup (.str h :: as) → dlook ks vs h = some d → ∃ ls, d = .tup ls ∧ ls.length ≤ 100 ∧ ∀ l ∈ ls, l = .non ∨ ∃ x, l = .fn x ∧ ∀ a ∈ as, On P w K mg base k x a (L x a)) ∧ Q n (.bl (formed ks vs L thing))
theorem tupsz {es : List D} (h : (D.tup es).sz ≤ MX) : es.length ≤ 2 ^ 20 := by
  have h1 := szs_len es
  rw [D.sz] at h
  unfold MX at h
  omega
theorem has_is_formed (T : Top K mg) (k : Nat) (L : Str → D → Bool) : Has P w K mg base (k + 1) "is_formed" ["thing", "forms"] (aFormed P w K mg base k L) := by
  have hN : (["thing", "forms", "looks", "look", "one"] : List Str).Nodup := by decide +kernel
  refine has_of (N := ["thing", "forms", "looks", "look", "one"]) T (i := 14) (d := d_is_formed) rfl ⟨rfl, rfl, rfl, hN, rfl, by decide +kernel, by decide +kernel⟩ (by decide +kernel) rfl rfl rfl (fun _ _ _ _ _ _ us hl => match us, hl with | [_, _], _ => rfl) (fun g n ds Q h => by obtain ⟨_, _, _, rfl, _⟩ := h; rfl) fun cd Ar outer s H E hr g n ds Q h => ?_
  obtain ⟨thing, ks, vs, rfl, hd, hz, ht, hf, q⟩ := h
  refine hss_cons (hs_ifP (!thing.isTup || ((decide ((thing.len : Int) = 0)) || ((!thing.hd.isStr) || (!(dlook ks vs (text thing.hd)).isSome)))) (ht_bool (hw_orP (ht_notP (ht_valP (he_isi kit_tup T.f_isinstance T.f_tuple boot_tuple (he_name (i := 0) rfl rfl ⟨hd, rfl, rfl⟩)))) fun e1 => ?_)) (fun e => ?_) fun e => ?_)
  · obtain ⟨es, rfl⟩ := isTup_of (by simpa using e1)
    refine hw_orP (ht_cmp op_eq (he_len T.f_len (he_name (i := 0) rfl rfl ⟨rfl, he_int (rd_eqI ⟨_, rfl, rfl, rfl⟩)⟩))) fun e2 => ?_
    obtain ⟨x, xs, rfl⟩ : ∃ x xs, es = x :: xs := by
      cases es with
      | nil => simp [D.len] at e2
      | cons x xs => exact ⟨x, xs, rfl⟩
    have hx := ht _ rfl x List.mem_cons_self
    refine hw_orP (ht_notP (ht_valP (he_isi kit_str T.f_isinstance T.f_str boot_str (he_ixT (he_name (i := 0) rfl rfl (he_int ⟨_, _, x, rfl, rfl, atI_0, hx, rfl, rfl⟩)))))) fun e3 => ?_
    obtain ⟨s, rfl⟩ := isStr_of (by simpa [D.hd] using e3 : x.isStr = true)
    exact hw_or1 (ht_notInD (Room.u1 hr) (he_ixT (he_name (i := 0) rfl rfl (he_int ⟨_, _, .str s, rfl, rfl, atI_0, he_name (i := 1) rfl rfl ⟨ks, vs, s, rfl, rfl, rfl, rfl⟩⟩))))
  · refine hss_cons (hs_ret (he_bl ?_))
    have e2 : formed ks vs L thing = false := by
      cases thing with
      | tup es =>
        cases es with
        | nil => rfl
        | cons x xs =>
          cases x with
          | str s =>
            have e3 : ((!true) || (decide ((((D.str s :: xs).length : Nat) : Int) = 0) || ((!true) || !(dlook ks vs s).isSome))) = true := e
            have e4 : decide ((((D.str s :: xs).length : Nat) : Int) = 0) = false := decide_eq_false (by simp; omega)
            rw [e4] at e3
            have e5 : dlook ks vs s = none := by
              cases z : dlook ks vs s with
              | none => rfl
              | some d => rw [z] at e3; cases e3
            unfold formed
            simp only [e5]
          | _ => rfl
      | _ => rfl
    rw [e2] at q
    exact q
  · obtain ⟨es, rfl⟩ : ∃ es, thing = .tup es := isTup_of (by cases thing <;> first | rfl | cases e)
    obtain ⟨s, as, rfl⟩ : ∃ s as, es = D.str s :: as := by
      cases es with
      | nil => cases e
      | cons x xs =>
        cases x with
        | str s => exact ⟨s, xs, rfl⟩
        | _ => simp [D.hd, D.isTup, D.isStr] at e
    obtain ⟨d, e5⟩ : ∃ d, dlook ks vs s = some d := by
      cases z : dlook ks vs s with
      | some d => exact ⟨d, rfl⟩
      | none => simp [D.hd, D.isTup, D.isStr, text, z] at e
    obtain ⟨ls, rfl, hl, hlook⟩ := hf s as d rfl e5
    have hq : formed ks vs L (.tup (.str s :: as)) = (decide (as.length = ls.length) && zipAll L ls as) := by
      unfold formed
      simp only [e5]
    rw [hq] at q
    have hlen := tupsz hz
    refine hss_nil (hss_cons (hs_set (i := 2) hN rfl (he_dget (Room.u1 hr) (he_name (i := 1) rfl rfl (he_ixT (he_name (i := 0) rfl rfl (he_int ⟨_, _, .str s, rfl, rfl, atI_0, ks, vs, s, .tup ls, rfl, rfl, e5, ?_⟩)))))))
    refine hss_cons (hs_ret (HE.mono (he_andP (p := decide (as.length = ls.length)) (he_cmp op_eq (he_len T.f_len (he_name (i := 0) rfl rfl ⟨rfl, he_op op_add (he_len T.f_len (he_name (i := 2) rfl rfl ⟨rfl, he_int (rd_int (rd_eqI ⟨rfl, ?_⟩))⟩))⟩))) fun e6 => he_one ?_) fun n' d z => by rw [z.1, z.2]; exact q))
    · congr 1
      exact decide_eq_decide.mpr (by simp [D.len]; omega)
    · refine he_allMap (fun d => match d with
        | .tup [l, a] => looked L l a
        | _ => true) (own := [("look", 3), ("one", 4)]) T.f_all rfl hN ?_ (own2 rfl rfl) (hi_zip T.f_zip (he_name (i := 2) rfl rfl (he_slT (he_name (i := 0) rfl rfl (ho_int (ho_none ⟨_, rfl, ls, as, .inl ⟨rfl, ?_⟩, ?_, fun d hd => ?_, rfl, ?_⟩))))))
      · exact (show BlkOk (["thing", "forms", "looks", "look", "one"] : List Str) d_is_formed.scope _ _ from ⟨rfl, by decide +kernel, by decide +kernel, by decide +kernel, by decide +kernel⟩)
      · rw [cut_1]
      · rw [zipD_len]
        unfold sizeLine
        omega
      · obtain ⟨l, a, rfl, hl1, ha1⟩ := zipD_mem hd
        refine ⟨_, fun s H C cl fp => hg_two rfl hN rfl rfl (by decide), fun s H C cl fp => ?_⟩
        refine HE.mono (he_orP (p := l.isNon) (q := looked L l a) (he_cmp op_isN (he_name (i := 3) rfl rfl (he_non (rd_isN ⟨rfl, rfl⟩)))) fun e7 => he_one ?_) fun n' d z => ⟨z.1, z.2.trans ?_⟩
        · rcases hlook l hl1 with rfl | ⟨x, rfl, hon⟩
          · cases e7
          · exact he_callv (i := 3) rfl (hon a ha1) hr rfl (ha_cons (he_name (i := 4) rfl rfl (ha_nil ⟨rfl, rfl, rfl⟩)))
        · rcases hlook l hl1 with rfl | ⟨x, rfl, hon⟩ <;> rfl
      · rw [zipAll_eq]
end
end Fk
set_option Elab.async false
set_option linter.all false
set_option maxRecDepth 100000
set_option maxHeartbeats 4000000
/-! W3: sums, tests. -/
namespace Fk
open PySem PySem.Spec PyProof.Rows L2
section
variable {P : Program} {w : World} {K : PySem.W.Frag} {mg : Str → Option Value} {base : Heap}
theorem dlook_mem : ∀ {ks : List Str} {vs : List D} {s : Str} {d : D}, dlook ks vs s = some d → d ∈ vs
  | [], _, _, _, h => by simp [dlook] at h
  | _ :: _, [], _, _, h => by simp [dlook] at h
  | k :: ks, v :: vs, s, d, h => by
    unfold dlook at h
    split at h
    · cases h
      exact List.mem_cons_self
    · exact List.mem_cons_of_mem _ (dlook_mem h)
def okLook (names : List Str) : D → Bool
  | .non => true
  | .fn x => names.contains x
  | _ => false
def okForm (names : List Str) : D → Bool
  | .tup ls => decide (ls.length ≤ 100) && ls.all (okLook names)
  | _ => false
theorem formed_cond {names : List Str} {ks : List Str} {vs : List D} {k : Nat} {L : Str → D → Bool} {thing : D} (hv : vs.all (okForm names) = true) (hon : ∀ as h, thing = .tup (.str h :: as) → ∀ a ∈ as, ∀ x, names.contains x = true → On P w K mg base k x a (L x a)) :
    ∀ h as d, thing = .tup (.str h :: as) → dlook ks vs h = some d → ∃ ls, d = .tup ls ∧ ls.length ≤ 100 ∧ ∀ l ∈ ls, l = .non ∨ ∃ x, l = .fn x ∧ ∀ a ∈ as, On P w K mg base k x a (L x a) := by
  intro h as d ht hd
  have h1 := List.all_eq_true.mp hv d (dlook_mem hd)
  cases d with
  | tup ls =>
    obtain ⟨h2, h3⟩ := Bool.and_eq_true_iff.mp h1
    refine ⟨ls, rfl, of_decide_eq_true h2, fun l hl => ?_⟩
    have h4 := List.all_eq_true.mp h3 l hl
    cases l with
    | non => exact .inl rfl
    | fn x => exact .inr ⟨x, rfl, fun a ha => hon as h ht a ha x h4⟩
    | _ => cases h4
  | _ => cases h1
def nmS : List Str := ["is_number", "is_word", "is_row_text", "is_sign", "is_sum"]
def nmT : List Str := ["is_number", "is_word", "is_row_text", "is_sign", "is_sum", "is_test", "are_tests"]
theorem names_cases {x : Str} {names : List Str} (h : names.contains x = true) : x ∈ names := by simpa using h
theorem on_lookF (T : Top K mg) {k : Nat} {S T' : D → Bool} {a : D} (hk : 1 ≤ k) (ha : a.typed = true) (hz : a.sz ≤ MX) (hS : On P w K mg base k "is_sum" a (S a)) (hT : On P w K mg base k "is_test" a (T' a)) (hTs : On P w K mg base k "are_tests" a (areAll T' a)) :
    ∀ x, nmT.contains x = true → On P w K mg base k x a (lookF S T' x a) := by
  intro x hx
  have hx := names_cases hx
  simp only [nmS, nmT, List.mem_cons, List.not_mem_nil, or_false] at hx
  rcases hx with rfl | rfl | rfl | rfl | rfl | rfl | rfl
  · exact (on_is_number T ha).le hk
  · exact (on_is_word T ha hz).le hk
  · exact (on_is_row_text T ha).le hk
  · exact (on_is_sign T ha).le hk
  · exact hS
  · exact hT
  · exact hTs
theorem on_lookS (T : Top K mg) {k : Nat} {S T' : D → Bool} {a : D} (hk : 1 ≤ k) (ha : a.typed = true) (hz : a.sz ≤ MX) (hS : On P w K mg base k "is_sum" a (S a)) :
    ∀ x, nmS.contains x = true → On P w K mg base k x a (lookF S T' x a) := by
  intro x hx
  have hx := names_cases hx
  simp only [nmS, nmT, List.mem_cons, List.not_mem_nil, or_false] at hx
  rcases hx with rfl | rfl | rfl | rfl | rfl
  · exact (on_is_number T ha).le hk
  · exact (on_is_word T ha hz).le hk
  · exact (on_is_row_text T ha).le hk
  · exact (on_is_sign T ha).le hk
  · exact hS
theorem sub_ok {k : Nat} {as : List D} {h : Str} (hf : (D.tup (.str h :: as)).fit (k + 1) = true) (hz : (D.tup (.str h :: as)).sz ≤ MX) : ∀ a ∈ as, a.fit k = true ∧ a.sz ≤ MX := by
  intro a ha
  obtain ⟨j, e, hj⟩ := fit_tup hf
  have e' : k = j := by omega
  subst e'
  refine ⟨hj a (List.mem_cons_of_mem _ ha), ?_⟩
  rw [D.sz, szs] at hz
  have := szs_mem ha
  omega
theorem typed_in {k : Nat} {d : D} (hf : d.fit k = true) : ∀ es, d = .tup es → ∀ e ∈ es, e.typed = true := fun es h e he => by
  subst h
  obtain ⟨j, _, hj⟩ := fit_tup hf
  exact fit_typed (hj e he)
/-- a tuple of defs -/
theorem he_fns1 {X : Cx} {g : Gx} {n : Nat} {ρ : List SV} {x : Str} {p pos : Pos} {kk} {Q : Nat → D → Prop} (hm : X.mg x = some (.ref (He.ga X.K x))) (q : Q n (.tup [.fn x])) (hg : Gl X x := by rfl) (hd : (x == ("__debug__" : Str)) = false := by decide)
    (hs : starEach [.Name x p] X.env = (false, eval (.Name x p) X.env) :: starEach [] X.env := by rfl) : HE X g n ρ (.Tuple [.Name x p] kk pos) Q := he_tup (ha_cons (he_fn hm (ha_nil ⟨show (1 : Nat) ≤ sizeLine by decide, q⟩) hg hd) hs)
theorem he_fns2 {X : Cx} {g : Gx} {n : Nat} {ρ : List SV} {x y : Str} {p p' pos : Pos} {kk} {Q : Nat → D → Prop} (hm : X.mg x = some (.ref (He.ga X.K x))) (hm' : X.mg y = some (.ref (He.ga X.K y))) (q : Q n (.tup [.fn x, .fn y])) (hg : Gl X x := by rfl) (hg' : Gl X y := by rfl)
    (hd : (x == ("__debug__" : Str)) = false := by decide) (hd' : (y == ("__debug__" : Str)) = false := by decide)
    (hs : starEach [.Name x p, .Name y p'] X.env = (false, eval (.Name x p) X.env) :: starEach [.Name y p'] X.env := by rfl) (hs' : starEach [.Name y p'] X.env = (false, eval (.Name y p') X.env) :: starEach [] X.env := by rfl) : HE X g n ρ (.Tuple [.Name x p, .Name y p'] kk pos) Q :=
  he_tup (ha_cons (he_fn hm (ha_cons (he_fn hm' (ha_nil ⟨show (2 : Nat) ≤ sizeLine by decide, q⟩) hg' hd') hs') hg hd) hs)
theorem he_fns3 {X : Cx} {g : Gx} {n : Nat} {ρ : List SV} {x y z : Str} {p p' p2 pos : Pos} {kk} {Q : Nat → D → Prop} (hm : X.mg x = some (.ref (He.ga X.K x))) (hm' : X.mg y = some (.ref (He.ga X.K y))) (hm2 : X.mg z = some (.ref (He.ga X.K z))) (q : Q n (.tup [.fn x, .fn y, .fn z])) (hg : Gl X x := by rfl) (hg' : Gl X y := by rfl) (hg2 : Gl X z := by rfl)
    (hd : (x == ("__debug__" : Str)) = false := by decide) (hd' : (y == ("__debug__" : Str)) = false := by decide) (hd2 : (z == ("__debug__" : Str)) = false := by decide)
    (hs : starEach [.Name x p, .Name y p', .Name z p2] X.env = (false, eval (.Name x p) X.env) :: starEach [.Name y p', .Name z p2] X.env := by rfl) (hs' : starEach [.Name y p', .Name z p2] X.env = (false, eval (.Name y p') X.env) :: starEach [.Name z p2] X.env := by rfl) (hs2 : starEach [.Name z p2] X.env = (false, eval (.Name z p2) X.env) :: starEach [] X.env := by rfl) : HE X g n ρ (.Tuple [.Name x p, .Name y p', .Name z p2] kk pos) Q :=
  he_tup (ha_cons (he_fn hm (ha_cons (he_fn hm' (ha_cons (he_fn hm2 (ha_nil ⟨show (3 : Nat) ≤ sizeLine by decide, q⟩) hg2 hd2) hs2) hg' hd') hs') hg hd) hs)
theorem on_is_sum (T : Top K mg) : ∀ (k : Nat) {d : D}, d.fit k = true → d.sz ≤ MX → On P w K mg base (4 * k + 2) "is_sum" d (isSumF k d)
  | 0, d, hf, _ => by rw [D.fit] at hf; cases hf
  | k + 1, d, hf, hz => by
    refine On.le (k := 4 * k + 4) ?_ (by omega)
    have hN : (["thing", "both"] : List Str).Nodup := by decide +kernel
    refine has_of (N := ["thing", "both"]) T (i := 15) (d := d_is_sum) rfl ⟨rfl, rfl, rfl, hN, rfl, by decide +kernel, by decide +kernel⟩ (by decide +kernel) rfl rfl rfl (fun _ _ _ _ _ _ us hl => match us, hl with | [_], _ => rfl) (fun g n ds Q h => by obtain ⟨rfl, _⟩ := h; rfl) fun cd Ar outer s H E hr g n ds Q h => ?_
    obtain ⟨rfl, q⟩ := h
    have C : ∀ as h, d = .tup (.str h :: as) → ∀ a ∈ as, ∀ x, nmS.contains x = true → On P w K mg base (4 * k + 2) x a (lookF (isSumF k) (fun _ => false) x a) := fun as h e a ha => by
      subst e
      obtain ⟨h1, h2⟩ := sub_ok hf hz a ha
      exact on_lookS T (by omega) (fit_typed h1) h2 (on_is_sum T k h1 h2)
    refine hss_cons (hs_set (i := 1) hN rfl (he_fns2 T.g_is_sum T.g_is_sum ?_))
    refine hss_cons (hs_ret (he_call (has_is_formed T (4 * k + 2) (lookF (isSumF k) fun _ => false)) hr (ha_cons (he_name (i := 0) rfl rfl (ha_cons ?_)))))
    refine he_disp (hp_cons (he_fns1 T.g_is_number (hp_cons (he_fns1 T.g_is_word (hp_cons (he_fns1 T.g_is_word (hp_cons (he_name (i := 1) rfl rfl (hp_cons (he_name (i := 1) rfl rfl (hp_nil ⟨by decide +kernel, by decide, ha_nil ?_⟩))))))))))) 
    exact ⟨d, sumK, sumV, rfl, fit_typed hf, hz, typed_in hf, formed_cond (names := nmS) (by decide +kernel) C, q⟩
theorem sz_in {es : List D} (hz : (D.tup es).sz ≤ MX) : ∀ e ∈ es, e.sz ≤ MX := fun e he => by
  rw [D.sz] at hz
  have := szs_mem he
  omega
theorem len_in {es : List D} (hz : (D.tup es).sz ≤ MX) : es.length ≤ sizeLine := by
  have := tupsz hz
  unfold sizeLine
  omega
/-- a def that is all of a tuple by another def -/
theorem on_are_tests (T : Top K mg) {k : Nat} (I : ∀ {d : D}, d.fit k = true → d.sz ≤ MX → On P w K mg base (4 * k + 2) "is_test" d (isTestF k d)) {d : D} (hf : d.fit k = true) (hz : d.sz ≤ MX) : On P w K mg base (4 * k + 4) "are_tests" d (areAll (isTestF k) d) := by
  have hN : (["thing"] : List Str).Nodup := by decide +kernel
  refine has_of (N := ["thing"]) T (i := 16) (d := d_are_tests) rfl ⟨rfl, rfl, rfl, hN, rfl, by decide +kernel, by decide +kernel⟩ (by decide +kernel) rfl rfl rfl (fun _ _ _ _ _ _ us hl => match us, hl with | [_], _ => rfl) (fun g n ds Q h => by obtain ⟨rfl, _⟩ := h; rfl) fun cd Ar outer s H E hr g n ds Q h => ?_
  obtain ⟨rfl, q⟩ := h
  refine hss_cons (hs_ret (he_call (has_are_all T (4 * k + 2) "is_test" (isTestF k)) hr (ha_cons (he_name (i := 0) rfl rfl (ha_cons (he_fn T.g_is_test (ha_nil ⟨d, rfl, fit_typed hf, fun es e => ?_, q⟩)))))))
  subst e
  refine ⟨len_in hz, fun e he => I ?_ (sz_in hz e he)⟩
  obtain ⟨j, rfl, hj⟩ := fit_tup hf
  exact fit_mono (by omega) (hj e he)
theorem on_is_test (T : Top K mg) : ∀ (k : Nat) {d : D}, d.fit k = true → d.sz ≤ MX → On P w K mg base (4 * k + 2) "is_test" d (isTestF k d)
  | 0, d, hf, _ => by rw [D.fit] at hf; cases hf
  | k + 1, d, hf, hz => by
    have hN : (["thing", "forms"] : List Str).Nodup := by decide +kernel
    refine has_of (N := ["thing", "forms"]) T (i := 17) (d := d_is_test) rfl ⟨rfl, rfl, rfl, hN, rfl, by decide +kernel, by decide +kernel⟩ (by decide +kernel) rfl rfl rfl (fun _ _ _ _ _ _ us hl => match us, hl with | [_], _ => rfl) (fun g n ds Q h => by obtain ⟨rfl, _⟩ := h; rfl) fun cd Ar outer s H E hr g n ds Q h => ?_
    obtain ⟨rfl, q⟩ := h
    have C : ∀ as h, d = .tup (.str h :: as) → ∀ a ∈ as, ∀ x, nmT.contains x = true → On P w K mg base (4 * k + 4) x a (lookF (isSumF k) (isTestF k) x a) := fun as h e a ha => by
      subst e
      obtain ⟨h1, h2⟩ := sub_ok hf hz a ha
      exact on_lookF T (by omega) (fit_typed h1) h2 ((on_is_sum T k h1 h2).le (by omega)) ((on_is_test T k h1 h2).le (by omega)) (on_are_tests T (on_is_test T k) h1 h2)
    refine hss_cons (hs_set (i := 1) hN rfl (he_disp (hp_cons (he_fns3 T.g_is_sum T.g_is_sign T.g_is_sum (hp_cons (he_fns2 T.g_is_word T.g_is_word (hp_cons (he_fns2 T.g_is_word T.g_is_word (hp_nil ⟨by decide +kernel, by decide, ?_⟩)))))))))
    refine hss_cons (hs_ret (he_call (has_is_formed T (4 * k + 4) (lookF (isSumF k) (isTestF k))) hr (ha_cons (he_name (i := 0) rfl rfl (ha_cons ?_)))))
    refine he_orD (he_name (i := 1) rfl rfl (he_disp (hp_cons (he_fns1 T.g_is_test (hp_cons (he_fns1 T.g_are_tests (hp_cons (he_fns1 T.g_are_tests (hp_nil ⟨by decide +kernel, by decide, _, _, _, _, rfl, rfl, by decide +kernel, by decide, ha_nil ?_⟩))))))))) 
    exact ⟨d, testK, testV, rfl, fit_typed hf, hz, typed_in hf, formed_cond (names := nmT) (by decide +kernel) C, q⟩
end
end Fk
set_option Elab.async false
set_option linter.all false
set_option maxRecDepth 100000
set_option maxHeartbeats 4000000
/-! W4: pieces, deeds, what is next. -/
namespace Fk
open PySem PySem.Spec PyProof.Rows L2
section
variable {X : Cx} {g : Gx} {n : Nat} {ρ : List SV} {pos p p2 : Pos} {Q : Nat → D → Prop} {x : Str} {i : Nat} {ds : List D}
/-- len of a list of one's own -/
theorem he_lenO (hr : ρ[i]? = some (.own ds)) (hN : X.N[i]? = some x) (hm : X.mg "len" = none) (q : Q n (.int ds.length)) (hv : Vis X.env.scope x := by first | exact Or.inl rfl | exact Or.inr (Or.inl rfl) | exact Or.inr (Or.inr rfl)) (hd : (x == ("__debug__" : Str)) = false := by decide) (hcd : (x == ("__classdict__" : Str)) = false := by decide)
    (hg : Gl X "len" := by rfl) (hs : starEach [.Name x p2] X.env = (false, eval (.Name x p2) X.env) :: starEach [] X.env := by rfl) : HE X g n ρ (.Call (.Name "len" p) [.Name x p2] [] pos) Q := fun W σ H k R r => by
  obtain ⟨a, xs, e1, aW, aF, e4, e5⟩ := k.owns i ds hr
  refine (pe_callB call_len hg hm PySem.boot_len (pa_cons (pe_var hN hv hd hcd) pa_nil hs) (by decide) (by decide) hs rfl).wpr ?_
  exact ⟨.ref a, e1, .ref a, ds.length, rfl, .inl ⟨xs, .inl (.inl e4), e5.length.symm⟩, r n _ _ H q .refl k.j (.int _)⟩
end
section
variable {P : Program} {w : World} {K : PySem.W.Frag} {mg : Str → Option Value} {base : Heap}
theorem has_label_forms (T : Top K mg) : Has P w K mg base 1 "label_forms" [] fun _ n ds Q => ds = [] ∧ Q n (.dic labelK labelV) := by
  have hN : (["forms"] : List Str).Nodup := by decide +kernel
  refine has_of (N := ["forms"]) T (i := 18) (d := d_label_forms) rfl ⟨rfl, rfl, rfl, hN, rfl, by decide +kernel, by decide +kernel⟩ (by decide +kernel) rfl rfl rfl (fun _ _ _ _ _ _ us hl => match us, hl with | [], _ => rfl) (fun g n ds Q h => by obtain ⟨rfl, _⟩ := h; rfl) fun cd Ar outer s H E hr g n ds Q h => ?_
  obtain ⟨rfl, q⟩ := h
  refine hss_cons (hs_set (i := 0) hN rfl (he_disp (hp_cons (he_fns1 T.g_is_row_text (hp_cons (he_fns1 T.g_is_sum (hp_cons (he_fns1 T.g_is_word (hp_cons (he_tup (ha_nil ⟨by decide, hp_cons (he_tup (ha_nil ⟨by decide, hp_nil ⟨by decide +kernel, by decide, ?_⟩⟩))⟩)))))))))))
  refine hss_cons (hs_ret (he_orD (he_name (i := 0) rfl rfl (he_disp (hp_cons (he_tup (ha_cons (he_fn T.g_is_test (ha_cons (he_non (ha_cons (he_non (ha_nil ⟨by decide, hp_nil ⟨by decide +kernel, by decide, _, _, _, _, rfl, rfl, by decide +kernel, by decide, q⟩⟩)))))))))))))
/-- the parts that are pieces again -/
def partOf : D → Option D
  | .tup [l, a] => if l.isNon then some a else none
  | _ => none
def partsOf (ls as : List D) : List D := (zipD ls as).filterMap partOf
theorem okA_parts (ks : List Str) (vs : List D) : ∀ ls as : List D, okA ks vs ls as = (partsOf ls as).all (okPs ks vs)
  | [], as => by simp [okA, partsOf, zipD]
  | l :: ls, [] => by cases l <;> simp [okA, partsOf, zipD]
  | l :: ls, a :: as => by
    have ih := okA_parts ks vs ls as
    unfold partsOf at ih ⊢
    cases l <;> simp [okA, zipD, partOf, D.isNon, ih]
theorem parts_mem : ∀ {ls as : List D} {a : D}, a ∈ partsOf ls as → a ∈ as := fun {ls as a} h => by
  obtain ⟨d, h1, h2⟩ := List.mem_filterMap.mp h
  obtain ⟨l, b, rfl, _, hb⟩ := zipD_mem h1
  have h3 : (if l.isNon = true then some b else none) = some a := h2
  by_cases hl : l.isNon = true
  · rw [if_pos hl] at h3
    cases h3
    exact hb
  · rw [if_neg hl] at h3
    cases h3
theorem parts_sz : ∀ ls as : List D, szs (partsOf ls as) ≤ szs as
  | [], as => by simp [partsOf, zipD, szs]
  | l :: ls, [] => by simp [partsOf, zipD, szs]
  | l :: ls, a :: as => by
    have ih := parts_sz ls as
    unfold partsOf at ih ⊢
    have e : partOf (.tup [l, a]) = if l.isNon = true then some a else none := rfl
    have h9 : szs (a :: as) = a.sz + szs as := by rw [szs]
    rw [zipD, h9]
    by_cases hl : l.isNon = true
    · rw [List.filterMap_cons_some (e.trans (if_pos hl)), szs]
      omega
    · rw [List.filterMap_cons_none (e.trans (if_neg hl))]
      omega
theorem szs_append : ∀ xs ys : List D, szs (xs ++ ys) = szs xs + szs ys
  | [], ys => by simp [szs]
  | x :: xs, ys => by rw [List.cons_append, szs, szs, szs_append xs ys, Nat.add_assoc]
theorem formed_inv {ks : List Str} {vs : List D} {L : Str → D → Bool} {d : D} (h : formed ks vs L d = true) : ∃ s as ls, d = .tup (.str s :: as) ∧ dlook ks vs s = some (.tup ls) ∧ as.length = ls.length ∧ zipAll L ls as = true := by
  cases d with
  | tup es =>
    cases es with
    | nil => cases h
    | cons x as =>
      cases x with
      | str s =>
        unfold formed at h
        simp only at h
        split at h
        · rename_i ls e
          rw [Bool.and_eq_true] at h
          exact ⟨s, as, ls, rfl, e, of_decide_eq_true h.1, h.2⟩
        · cases h
      | _ => cases h
  | _ => cases h
theorem okP_of {ks : List Str} {vs : List D} {s : Str} {as ls : List D} (h1 : formed ks vs lookU (.tup (.str s :: as)) = true) (h2 : dlook ks vs s = some (.tup ls)) : okP ks vs (.tup (.str s :: as)) = (partsOf ls as).all (okPs ks vs) := by
  rw [okP, h1, Bool.true_and]
  simp only [h2]
  have e : okA ks vs (.fn "" :: ls) (.str s :: as) = okA ks vs ls as := by simp [okA]
  rw [e, okA_parts]
theorem okP_not {ks : List Str} {vs : List D} {d : D} (h1 : formed ks vs lookU d = false) : okP ks vs d = false := by
  cases d <;> simp [okP, h1]
def nmP : List Str := ["is_number", "is_word", "is_row_text", "is_sign", "is_sum", "is_test"]
def LV : Nat := 4 * FU + 2
theorem on_lookU (T : Top K mg) {a : D} (hf : a.fit FU = true) (hz : a.sz ≤ MX) : ∀ x, nmP.contains x = true → On P w K mg base LV x a (lookU x a) := by
  intro x hx
  have hx := names_cases hx
  have ha := fit_typed hf
  have h1 : 1 ≤ LV := by decide
  simp only [nmP, List.mem_cons, List.not_mem_nil, or_false] at hx
  rcases hx with rfl | rfl | rfl | rfl | rfl | rfl
  · exact (on_is_number T ha).le h1
  · exact (on_is_word T ha hz).le h1
  · exact (on_is_row_text T ha).le h1
  · exact (on_is_sign T ha).le h1
  · exact on_is_sum T FU hf hz
  · exact on_is_test T FU hf hz
def aPieces : Acc := fun _ n ds Q => ∃ thing ks vs, ds = [thing, .dic ks vs] ∧ vs.all (okForm nmP) = true ∧ thing.fit FU = true ∧ thing.sz ≤ MX ∧ Q n (.bl (okPs ks vs thing))
/-- what stays of the loop's names -/
def PI2 (thing : D) (ks : List Str) (vs : List D) (pl : List D) (ρ : List SV) : Prop := ∃ x3 x4 : SV, ρ = [.dat thing, .dat (.dic ks vs), .own pl, x3, x4, .no, .no]
theorem has_are_pieces_by (T : Top K mg) : Has P w K mg base (LV + 2) "are_pieces_by" ["thing", "forms"] aPieces := by
  have hN : (["thing", "forms", "pile", "pieces", "piece", "look", "part"] : List Str).Nodup := by decide +kernel
  refine has_of (N := ["thing", "forms", "pile", "pieces", "piece", "look", "part"]) T (i := 19) (d := d_are_pieces_by) rfl ⟨rfl, rfl, rfl, hN, rfl, by decide +kernel, by decide +kernel⟩ (by decide +kernel) rfl rfl rfl (fun _ _ _ _ _ _ us hl => match us, hl with | [_, _], _ => rfl) (fun g n ds Q h => by obtain ⟨_, _, _, rfl, _⟩ := h; rfl) fun cd Ar outer s H E hr g n ds Q h => ?_
  obtain ⟨thing, ks, vs, rfl, hv, hf, hz, q⟩ := h
  have one : ∀ {d : D}, d.fit FU = true → d.sz ≤ MX → ∀ (g : Gx) (n : Nat) (Q : Nat → D → Prop), Q n (.bl (formed ks vs lookU d)) → aFormed P w K mg base LV lookU g n [d, .dic ks vs] Q := fun {d} h1 h2 g n Q q => by
    refine ⟨d, ks, vs, rfl, fit_typed h1, h2, typed_in h1, formed_cond (names := nmP) hv fun as h e a ha => ?_, q⟩
    subst e
    obtain ⟨h3, h4⟩ := sub_ok (k := FU - 1) h1 h2 a ha
    exact on_lookU T (fit_mono (by decide) h3) h4
  refine hss_cons (hs_setF (i := 2) hN rfl (hf_lst (ha_cons (he_name (i := 0) rfl rfl (ha_nil ⟨show (1 : Nat) ≤ sizeLine by decide, ?_⟩)))))
  refine hss_cons (hs_while PassesOwn.never (fun m n' ρ' => n' = n ∧ ∃ pl, PI2 thing ks vs pl ρ' ∧ m = szs pl ∧ (∀ d ∈ pl, d.fit FU = true) ∧ szs pl ≤ MX ∧ pl.all (okPs ks vs) = okPs ks vs thing) (m0 := szs [thing]) ⟨rfl, [thing], ⟨.no, .no, rfl⟩, rfl, fun d hd => by rw [List.mem_singleton.mp hd]; exact hf, by rw [szs, szs]; omega, by simp⟩ ?_)
  intro m n' ρ' hI
  obtain ⟨rfl, pl, ⟨x3, x4, rfl⟩, rfl, hpf, hps, hpt⟩ := hI
  refine ht_cmp op_gt (he_lenO (i := 2) rfl rfl T.f_len (he_int (rd_intB ⟨_, rfl, fun e => ?_, fun e => ?_⟩)))
  · obtain ⟨ds, d, rfl⟩ : ∃ ds d, pl = ds ++ [d] := by
      rcases List.eq_nil_or_concat pl with rfl | ⟨ds, d, h⟩
      · cases e
      · exact ⟨ds, d, by rw [h, List.concat_eq_append]⟩
    refine hss_cons (hs_pop (i := 2) (l := 3) hN rfl rfl rfl (by decide) ?_)
    have hdf := hpf d (by simp)
    have hsz : szs (ds ++ [d]) = szs ds + d.sz := by rw [szs_append, szs, szs, Nat.add_zero]
    rw [hsz] at hps
    rw [List.all_append] at hpt
    refine hss_cons (hs_ifP (!d.isTup) (ht_notP (ht_valP (he_isi kit_tup T.f_isinstance T.f_tuple boot_tuple (he_name (i := 3) rfl rfl ⟨fit_typed hdf, rfl, rfl⟩)))) (fun e1 => hss_cons (hs_ret (he_bl ?_))) fun e1 => hss_nil ?_)
    · have e2 : okPs ks vs d = false := by cases d <;> first | (cases e1; done) | (simp [okPs])
      have e3 : okPs ks vs thing = false := by rw [← hpt]; simp [e2]
      rw [e3] at q
      exact q
    · obtain ⟨ps, rfl⟩ := isTup_of (d := d) (by simpa using e1)
      refine hss_cons (hs_for rfl PassesOwn.never (hi_tup (he_name (i := 3) rfl rfl ⟨ps, rfl, fun i m' ρ' => m' = n' ∧ ∃ parts, (∃ x4 : SV, ρ' = [.dat thing, .dat (.dic ks vs), .own (ds ++ parts), .dat (.tup ps), x4, .no, .no]) ∧ (∀ d ∈ parts, d.fit FU = true) ∧ szs parts ≤ szs (ps.take i) ∧ ((ds ++ parts).all (okPs ks vs) && okL ks vs (ps.drop i)) = okPs ks vs thing, ⟨rfl, [], ⟨x4, by simp⟩, by simp, by simp [szs], ?_⟩, ?_, ?_⟩)))
      · rw [List.append_nil, ← hpt]
        simp [okPs]
      · intro i p m' ρ' hp hI
        obtain ⟨rfl, parts, ⟨x4, rfl⟩, h1, h2, h3⟩ := hI
        have hi : i < ps.length := (List.getElem?_eq_some_iff.mp hp).1
        have hpm : p ∈ ps := List.mem_of_getElem? hp
        have hpf2 : p.fit FU = true := by
          obtain ⟨j, e, hj⟩ := fit_tup hdf
          exact fit_mono (by omega) (hj p hpm)
        have hpz : p.sz ≤ szs ps := szs_mem hpm
        have hdz : (D.tup ps).sz = szs ps + 1 := by rw [D.sz]
        rw [hdz] at hps
        have hpzM : p.sz ≤ MX := by omega
        have hdrop : ps.drop i = p :: ps.drop (i + 1) := by
          rw [List.drop_eq_getElem_cons hi]
          congr 1
          exact Option.some.inj ((List.getElem?_eq_getElem hi).symm.trans hp)
        have htake : szs (ps.take (i + 1)) = szs (ps.take i) + p.sz := by
          rw [List.take_add_one, hp, szs_append]
          show _ + szs [p] = _
          rw [szs, szs, Nat.add_zero]
        have htot : szs (ps.take (i + 1)) ≤ szs ps := by
          have := szs_append (ps.take (i + 1)) (ps.drop (i + 1))
          rw [List.take_append_drop] at this
          omega
        rw [hdrop, okL] at h3
        refine ⟨_, _, hg_name (i := 4) hN rfl, ?_⟩
        refine hss_cons (hs_ifP (!formed ks vs lookU p) (ht_notP (ht_valP (he_call (has_is_formed T LV lookU) hr (ha_cons (he_name (i := 4) rfl rfl (ha_cons (he_name (i := 1) rfl rfl (ha_nil (one hpf2 hpzM g m' _ ⟨rfl, rfl⟩))))))))) (fun e2 => hss_cons (hs_ret (he_bl ?_))) fun e2 => hss_nil ?_)
        · have e3 : okPs ks vs thing = false := by
            rw [← h3, okP_not (by simpa using e2)]
            simp
          rw [e3] at q
          exact q
        · obtain ⟨s, as, ls, rfl, e5, hl, _⟩ := formed_inv (by simpa using e2)
          have e6 : okP ks vs (.tup (.str s :: as)) = (partsOf ls as).all (okPs ks vs) := okP_of (by simpa using e2) e5
          have hasz : szs (partsOf ls as) ≤ szs as := parts_sz ls as
          have hsz2 : (D.tup (.str s :: as)).sz = szs as + (s.length + 1) + 1 := by
            rw [D.sz, szs, D.sz]
            omega
          have hl100 : (partsOf ls as).length ≤ szs as := Nat.le_trans (szs_len _) hasz
          have hlp : (ds ++ parts).length ≤ szs ds + szs parts := Nat.le_trans (szs_len _) (by rw [szs_append]; exact Nat.le_refl _)
          refine hss_cons (hs_extend (i := 2) rfl rfl (he_lst (hf_mapIf partOf (own := [("look", 5), ("part", 6)]) rfl hN ?_ (own2 rfl rfl) (hi_zip T.f_zip (he_dget (Room.u1 hr) (he_name (i := 1) rfl rfl (he_ixT (he_name (i := 4) rfl rfl (he_int ⟨_, _, .str s, rfl, rfl, atI_0, ks, vs, s, .tup ls, rfl, rfl, e5, he_slT (he_name (i := 4) rfl rfl (ho_int (ho_none ⟨_, rfl, ls, as, .inl ⟨rfl, ?_⟩, ?_, fun d hd => ?_, _, rfl, ?_, hss_nil ⟨rfl, parts ++ partsOf ls as, ⟨_, by rw [List.append_assoc]; rfl⟩, ?_, ?_, ?_⟩⟩)))⟩)))))))))
          · exact (show BlkOk (["thing", "forms", "pile", "pieces", "piece", "look", "part"] : List Str) d_are_pieces_by.scope _ _ from ⟨rfl, by decide +kernel, by decide +kernel, by decide +kernel, by decide +kernel⟩)
          · rw [cut_1]
          · rw [zipD_len]
            unfold sizeLine
            have := szs_len as
            unfold MX at hpzM
            omega
          · obtain ⟨l, a, rfl, hl1, ha1⟩ := zipD_mem hd
            refine ⟨_, fun s H C cl fp => hg_two rfl hN rfl rfl (by decide), fun s H C cl fp => ht_cmp op_isN (he_name (i := 5) rfl rfl (he_non (rd_isN ⟨_, rfl, rfl, ?_⟩))), fun s H C cl fp hy => he_name (i := 6) rfl rfl ⟨rfl, ?_⟩⟩
            · show l.isNon = (if l.isNon = true then some a else none).isSome
              cases l.isNon <;> rfl
            · have hy : (if l.isNon = true then some a else none).isSome = true := hy
              show (if l.isNon = true then some a else none) = some a
              cases e : l.isNon with
              | true => rfl
              | false => rw [e] at hy; cases hy
          · show (ds ++ parts).length + (partsOf ls as).length ≤ sizeLine
            unfold sizeLine
            unfold MX at hps
            omega
          · intro d hd
            rcases List.mem_append.mp hd with hd | hd
            · exact h1 d hd
            · obtain ⟨h5, _⟩ := sub_ok (k := FU - 1) hpf2 hpzM d (parts_mem hd)
              exact fit_mono (by decide) h5
          · rw [szs_append, htake]
            omega
          · rw [← h3, e6, ← List.append_assoc, List.all_append, Bool.and_assoc]
      · intro m' ρ' hI
        obtain ⟨rfl, parts, ⟨x4, rfl⟩, h1, h2, h3⟩ := hI
        rw [List.take_length] at h2
        have hdz : (D.tup ps).sz = szs ps + 1 := by rw [D.sz]
        refine hss_nil ⟨szs (ds ++ parts), ?_, rfl, ds ++ parts, ⟨_, _, rfl⟩, rfl, fun d hd => ?_, ?_, ?_⟩
        · rw [szs_append, hsz]
          omega
        · rcases List.mem_append.mp hd with hd | hd
          · exact hpf d (List.mem_append_left _ hd)
          · exact h1 d hd
        · rw [szs_append]
          omega
        · rw [← h3, List.drop_length]
          simp [okL]
  · have e2 : pl = [] := by
      cases pl with
      | nil => rfl
      | cons x xs => first | (simp at e; done) | (simp at e; omega)
    subst e2
    refine hss_cons (hs_ret (he_bl ?_))
    rw [← hpt] at q
    exact q
end
end Fk
set_option Elab.async false
set_option linter.all false
set_option maxRecDepth 100000
set_option maxHeartbeats 4000000
/-! W5: label pieces, pieces, deeds, what is next; rows. -/
namespace Fk
open PySem PySem.Spec PyProof.Rows L2
section
variable {P : Program} {w : World} {K : PySem.W.Frag} {mg : Str → Option Value} {base : Heap}
theorem on_are_label_pieces (T : Top K mg) {d : D} (hf : d.fit FU = true) (hz : d.sz ≤ MX) : On P w K mg base (LV + 3) "are_label_pieces" d (okPs labelK labelV d) := by
  have hN : (["thing"] : List Str).Nodup := by decide +kernel
  refine has_of (N := ["thing"]) T (i := 20) (d := d_are_label_pieces) rfl ⟨rfl, rfl, rfl, hN, rfl, by decide +kernel, by decide +kernel⟩ (by decide +kernel) rfl rfl rfl (fun _ _ _ _ _ _ us hl => match us, hl with | [_], _ => rfl) (fun g n ds Q h => by obtain ⟨rfl, _⟩ := h; rfl) fun cd Ar outer s H E hr g n ds Q h => ?_
  obtain ⟨rfl, q⟩ := h
  refine hss_cons (hs_ret (he_call (has_are_pieces_by T) hr (ha_cons (he_name (i := 0) rfl rfl (ha_cons (he_call0 (has_label_forms T) (hr.mono (by decide)) ⟨rfl, ha_nil ⟨d, labelK, labelV, rfl, by decide +kernel, hf, hz, q⟩⟩))))))
theorem on_are_pieces (T : Top K mg) {d : D} (hf : d.fit FU = true) (hz : d.sz ≤ MX) : On P w K mg base (LV + 3) "are_pieces" d (okPs pieceK pieceV d) := by
  have hN : (["thing"] : List Str).Nodup := by decide +kernel
  refine has_of (N := ["thing"]) T (i := 21) (d := d_are_pieces) rfl ⟨rfl, rfl, rfl, hN, rfl, by decide +kernel, by decide +kernel⟩ (by decide +kernel) rfl rfl rfl (fun _ _ _ _ _ _ us hl => match us, hl with | [_], _ => rfl) (fun g n ds Q h => by obtain ⟨rfl, _⟩ := h; rfl) fun cd Ar outer s H E hr g n ds Q h => ?_
  obtain ⟨rfl, q⟩ := h
  refine hss_cons (hs_ret (he_call (has_are_pieces_by T) hr (ha_cons (he_name (i := 0) rfl rfl (ha_cons (he_orD (he_call0 (has_label_forms T) (hr.mono (by decide)) ⟨rfl, he_disp (hp_cons (he_tup (ha_cons (he_fn T.g_is_word (ha_cons (he_non (ha_nil ⟨by decide, hp_nil ⟨by decide +kernel, by decide, labelK, labelV, ["only"], [.tup [.fn "is_word", .non]], rfl, rfl, by decide +kernel, by decide, ha_nil ⟨d, pieceK, pieceV, rfl, by decide +kernel, hf, hz, q⟩⟩⟩)))))))⟩)))))))
theorem formed_all (T : Top K mg) {d : D} (hf : d.fit FU = true) (hz : d.sz ≤ MX) {ks : List Str} {vs : List D} (hv : vs.all (okForm nmP) = true) {g : Gx} {n : Nat} {Q : Nat → D → Prop} (q : Q n (.bl (formed ks vs lookU d))) : aFormed P w K mg base LV lookU g n [d, .dic ks vs] Q := by
  refine ⟨d, ks, vs, rfl, fit_typed hf, hz, typed_in hf, formed_cond (names := nmP) hv fun as h e a ha => ?_, q⟩
  subst e
  obtain ⟨h3, h4⟩ := sub_ok (k := FU - 1) hf hz a ha
  exact on_lookU T (fit_mono (by decide) h3) h4
theorem on_is_deed (T : Top K mg) {d : D} (hf : d.fit FU = true) (hz : d.sz ≤ MX) : On P w K mg base (LV + 2) "is_deed" d (isDeed d) := by
  have hN : (["thing", "both", "forms"] : List Str).Nodup := by decide +kernel
  refine has_of (N := ["thing", "both", "forms"]) T (i := 22) (d := d_is_deed) rfl ⟨rfl, rfl, rfl, hN, rfl, by decide +kernel, by decide +kernel⟩ (by decide +kernel) rfl rfl rfl (fun _ _ _ _ _ _ us hl => match us, hl with | [_], _ => rfl) (fun g n ds Q h => by obtain ⟨rfl, _⟩ := h; rfl) fun cd Ar outer s H E hr g n ds Q h => ?_
  obtain ⟨rfl, q⟩ := h
  refine hss_cons (hs_set (i := 1) hN rfl (he_fns2 T.g_is_word T.g_is_word ?_))
  refine hss_cons (hs_set (i := 2) hN rfl (he_disp (hp_cons (he_fns2 T.g_is_word T.g_is_sum (hp_cons (he_fns1 T.g_is_word (hp_cons (he_name (i := 1) rfl rfl (hp_cons (he_name (i := 1) rfl rfl (hp_cons (he_name (i := 1) rfl rfl (hp_nil ⟨by decide +kernel, by decide, ?_⟩)))))))))))))
  refine hss_cons (hs_ret (he_call (has_is_formed T LV lookU) hr (ha_cons (he_name (i := 0) rfl rfl (ha_cons (he_orD (he_name (i := 2) rfl rfl (he_disp (hp_cons (he_fns1 T.g_is_word (hp_nil ⟨by decide +kernel, by decide, _, _, _, _, rfl, rfl, by decide +kernel, by decide, ha_nil (formed_all (ks := deedK) (vs := deedV) T hf hz (by decide +kernel) q)⟩)))))))))))
theorem on_is_next (T : Top K mg) {d : D} (hf : d.fit FU = true) (hz : d.sz ≤ MX) : On P w K mg base (LV + 2) "is_next" d (isNext d) := by
  have hN : (["thing"] : List Str).Nodup := by decide +kernel
  refine has_of (N := ["thing"]) T (i := 23) (d := d_is_next) rfl ⟨rfl, rfl, rfl, hN, rfl, by decide +kernel, by decide +kernel⟩ (by decide +kernel) rfl rfl rfl (fun _ _ _ _ _ _ us hl => match us, hl with | [_], _ => rfl) (fun g n ds Q h => by obtain ⟨rfl, _⟩ := h; rfl) fun cd Ar outer s H E hr g n ds Q h => ?_
  obtain ⟨rfl, q⟩ := h
  refine hss_cons (hs_ret (he_call (has_is_formed T LV lookU) hr (ha_cons (he_name (i := 0) rfl rfl (ha_cons (he_disp (hp_cons (he_fns1 T.g_is_word (hp_cons (he_fns2 T.g_is_word T.g_is_word (hp_cons (he_tup (ha_nil ⟨by decide, hp_nil ⟨by decide +kernel, by decide, ha_nil (formed_all (ks := nextK) (vs := nextV) T hf hz (by decide +kernel) q)⟩⟩)))))))))))))
theorem rd_neI {K : PySem.W.Frag} {Q : D → Prop} {s t : Int} (q : Q (.bl (!decide (s = t)))) : RD K rNe (.int s) (.int t) Q := fun W H v u _ dx dy R r => by
  cases dx
  cases dy
  refine ⟨rfl, ?_⟩
  have z : decide (V.int s = V.int t) = decide (s = t) := by simp
  rw [z]
  exact r _ _ H q (Same.refl H) (.bl _)
def zipLook (L : Str → D → Bool) (d : D) : Bool := match d with
  | .tup [l, a] => looked L l a
  | _ => true
/-! ### rows -/
def aRow (P : Program) (w : World) (K : PySem.W.Frag) (mg : Str → Option Value) (base : Heap) (k : Nat) (L : Str → D → Bool) : Acc := fun _ n ds Q => ∃ thing ls, ds = [thing, .tup (ls.map .fn)] ∧ thing.typed = true ∧ thing.sz ≤ MX ∧ ls.length ≤ 100 ∧ (∀ as, thing = .tup as → ∀ a ∈ as, ∀ x ∈ ls, On P w K mg base k x a (L x a)) ∧ Q n (.bl (rowOf L ls thing))
theorem has_is_row_of (T : Top K mg) (k : Nat) (L : Str → D → Bool) : Has P w K mg base (k + 1) "is_row_of" ["thing", "looks"] (aRow P w K mg base k L) := by
  have hN : (["thing", "looks", "look", "one"] : List Str).Nodup := by decide +kernel
  refine has_of (N := ["thing", "looks", "look", "one"]) T (i := 24) (d := d_is_row_of) rfl ⟨rfl, rfl, rfl, hN, rfl, by decide +kernel, by decide +kernel⟩ (by decide +kernel) rfl rfl rfl (fun _ _ _ _ _ _ us hl => match us, hl with | [_, _], _ => rfl) (fun g n ds Q h => by obtain ⟨_, _, rfl, _⟩ := h; rfl) fun cd Ar outer s H E hr g n ds Q h => ?_
  obtain ⟨thing, ls, rfl, hd, hz, hl, hon, q⟩ := h
  refine hss_cons (hs_ifP (!thing.isTup || !decide ((thing.len : Int) = (ls.length : Int))) (ht_bool (hw_orP (ht_notP (ht_valP (he_isi kit_tup T.f_isinstance T.f_tuple boot_tuple (he_name (i := 0) rfl rfl ⟨hd, rfl, rfl⟩)))) fun e1 => ?_)) (fun e => ?_) fun e => hss_nil ?_)
  · obtain ⟨es, rfl⟩ := isTup_of (d := thing) (by simpa using e1)
    exact hw_or1 (ht_cmp op_ne (he_len T.f_len (he_name (i := 0) rfl rfl ⟨rfl, he_len T.f_len (he_name (i := 1) rfl rfl ⟨rfl, rd_neI ⟨_, rfl, rfl, by rw [show (D.tup (ls.map D.fn)).len = ls.length from List.length_map ..]⟩⟩)⟩)))
  · refine hss_cons (hs_ret (he_bl ?_))
    have e2 : rowOf L ls thing = false := by
      cases thing with
      | tup as =>
        have e3 : (!true || !decide (((as.length : Nat) : Int) = (ls.length : Int))) = true := e
        have e4 : decide (as.length = ls.length) = false := by
          simp at e3
          exact decide_eq_false (by omega)
        simp [rowOf, e4]
      | _ => rfl
    rw [e2] at q
    exact q
  · obtain ⟨as, rfl⟩ : ∃ es, thing = .tup es := isTup_of (by cases thing <;> first | rfl | cases e)
    have e3 : (!true || !decide (((as.length : Nat) : Int) = (ls.length : Int))) = false := e
    have e4 : as.length = ls.length := by
      simp at e3
      omega
    refine hss_cons (hs_ret ?_)
    refine he_allMap (zipLook L) (own := [("look", 2), ("one", 3)]) T.f_all rfl hN ?_ (own2 rfl rfl) (hi_zip T.f_zip (he_name (i := 1) rfl rfl (he_name (i := 0) rfl rfl ⟨_, as, .inl ⟨rfl, rfl⟩, ?_, fun d hd => ?_, ?_⟩)))
    · exact (show BlkOk (["thing", "looks", "look", "one"] : List Str) d_is_row_of.scope _ _ from ⟨rfl, by decide +kernel, by decide +kernel, by decide +kernel, by decide +kernel⟩)
    · rw [zipD_len]
      have := len_in hz
      omega
    · obtain ⟨l, a, rfl, hl1, ha1⟩ := zipD_mem hd
      obtain ⟨x, hx, rfl⟩ := List.mem_map.mp hl1
      refine ⟨_, fun s H C cl fp => hg_two rfl hN rfl rfl (by decide), fun s H C cl fp => ?_⟩
      exact he_callv (i := 2) rfl (hon as rfl a ha1 x hx) hr rfl (ha_cons (he_name (i := 3) rfl rfl (ha_nil ⟨rfl, rfl, rfl⟩)))
    · have e6 : (zipD (ls.map D.fn) as).all (zipLook L) = zipAll L (ls.map D.fn) as := (zipAll_eq L _ _).symm
      rw [e6]
      have e5 : rowOf L ls (.tup as) = zipAll L (ls.map D.fn) as := by simp [rowOf, e4]
      rw [e5] at q
      exact q
end
end Fk
set_option Elab.async false
set_option linter.all false
set_option maxRecDepth 100000
set_option maxHeartbeats 4000000
/-! W6: choices, scenes. -/
namespace Fk
open PySem PySem.Spec PyProof.Rows L2
/-! ### data as the library's data; < of alike ones -/
def D.plain : D → Bool
  | .dic _ _ => false
  | .fn _ => false
  | .obj _ => false
  | _ => true
mutual
theorem DD.dp {K : PySem.W.Frag} {W : List Addr} {H : Hp} : ∀ {k : Nat} {d : D} {v : V}, d.fit k = true → DD K W H v d → Dp K H v d.py
  | 0, _, _, h, _ => by rw [D.fit] at h; cases h
  | k + 1, .non, _, _, dd => by cases dd; rw [D.py]; exact .non
  | k + 1, .bl _, _, _, dd => by cases dd; rw [D.py]; exact .bl _
  | k + 1, .int _, _, _, dd => by cases dd; rw [D.py]; exact .int _
  | k + 1, .str _, _, _, dd => by cases dd; rw [D.py]; exact .str _
  | k + 1, .tup ds, _, h, dd => by
    cases dd with
    | tup nw ha hx =>
      rw [D.py]
      rw [D.fit, Bool.and_eq_true] at h
      exact .tup (.inl (.inl ha)) (DDs.dp h.2 hx)
  | k + 1, .lst ds, _, h, dd => by
    cases dd with
    | lst nw ha hx =>
      rw [D.py]
      rw [D.fit, Bool.and_eq_true] at h
      exact .lst (.inl (.inl ha)) (DDs.dp h.2 hx)
  | k + 1, .dic _ _, _, h, _ => by simp [D.fit] at h
  | k + 1, .fn _, _, h, _ => by simp [D.fit] at h
  | k + 1, .obj _, _, h, _ => by simp [D.fit] at h
theorem DDs.dp {K : PySem.W.Frag} {W : List Addr} {H : Hp} : ∀ {k : Nat} {ds : List D} {vs : List V}, fits k ds = true → DDs K W H vs ds → DpAll K H vs (pys ds)
  | _, [], _, _, dd => by cases dd; rw [pys]; exact .nil
  | k, d :: ds, _, h, dd => by
    cases dd with
    | cons h1 h2 =>
      rw [fits, Bool.and_eq_true] at h
      rw [pys]
      exact .cons (DD.dp h.1 h1) (DDs.dp h.2 h2)
end
mutual
theorem py_depth : ∀ {k : Nat} {d : D}, d.fit k = true → d.py.depth ≤ k
  | 0, _, h => by rw [D.fit] at h; cases h
  | k + 1, .non, _ => by simp [D.py, PyData.depth]
  | k + 1, .bl _, _ => by simp [D.py, PyData.depth]
  | k + 1, .int _, _ => by simp [D.py, PyData.depth]
  | k + 1, .str _, _ => by simp [D.py, PyData.depth]
  | k + 1, .tup ds, h => by
    rw [D.fit, Bool.and_eq_true] at h
    have := pys_depth h.2
    rw [D.py, PyData.depth]
    omega
  | k + 1, .lst ds, h => by
    rw [D.fit, Bool.and_eq_true] at h
    have := pys_depth h.2
    rw [D.py, PyData.depth]
    omega
  | k + 1, .dic _ _, h => by simp [D.fit] at h
  | k + 1, .fn _, h => by simp [D.fit] at h
  | k + 1, .obj _, h => by simp [D.fit] at h
theorem pys_depth : ∀ {k : Nat} {ds : List D}, fits k ds = true → PyData.depthAll (pys ds) ≤ k
  | _, [], _ => by simp [pys, PyData.depthAll]
  | k, d :: ds, h => by
    rw [fits, Bool.and_eq_true] at h
    have h1 := py_depth h.1
    have h2 := pys_depth h.2
    rw [pys, PyData.depthAll]
    omega
end
def rLtD (K : PySem.W.Frag) : R2 := fun x y H Q => ∃ d e, Dp K H x d ∧ Dp K H y e ∧ PySem.W.alike d e = true ∧ d ≠ .none ∧ d.depth ≤ 60 ∧ Q (.bl (PySem.W.dataLt d e)) H
theorem op_ltD {X : Cx} (hu : X.A.units + 64 < cLine) : OpR X (compareOp .Lt) (rLtD X.K) := by
  intro pins s σ H x y v u Q I rx ry h
  obtain ⟨d, e, hd, he, ha, hn, h60, q⟩ := h
  obtain ⟨as, r1⟩ := Dp.reads I d x v hd rx
  obtain ⟨bs, r2⟩ := Dp.reads I e y u he ry
  exact PySem.W.rcLt_alike d e X.A s v u as bs r1 r2 ha hn (by omega) X.prog X.w X.xe _ ⟨.bl _, H, I, rfl, q⟩
theorem rd_ltD {K : PySem.W.Frag} {Q : D → Prop} {a b : D} {k : Nat} (ha : a.fit k = true) (hb : b.fit k = true) (hk : k ≤ 60) (hl : PySem.W.alike a.py b.py = true) (hn : a.py ≠ .none) (q : Q (.bl (ltD a b))) : RD K (rLtD K) a b Q := fun W H v u _ dx dy R r =>
  ⟨a.py, b.py, dx.dp ha, dy.dp hb, hl, hn, Nat.le_trans (py_depth ha) hk, r _ _ H q (Same.refl H) (.bl _)⟩
section
variable {P : Program} {w : World} {K : PySem.W.Frag} {mg : Str → Option Value} {base : Heap}
theorem on_is_truth (T : Top K mg) {d : D} (hd : d.typed = true) : On P w K mg base 1 "is_truth" d (isBool d) := by
  have hN : (["thing"] : List Str).Nodup := by decide +kernel
  refine has_of (N := ["thing"]) T (i := 26) (d := d_is_truth) rfl ⟨rfl, rfl, rfl, hN, rfl, by decide +kernel, by decide +kernel⟩ (by decide +kernel) rfl rfl rfl (fun _ _ _ _ _ _ us hl => match us, hl with | [_], _ => rfl) (fun g n ds Q h => by obtain ⟨rfl, _⟩ := h; rfl) fun cd Ar outer s H E hr g n ds Q h => ?_
  obtain ⟨rfl, q⟩ := h
  have e : isBool d = d.isBl := by cases d <;> rfl
  rw [e] at q
  exact hss_cons (hs_ret (he_isi kit_bl T.f_isinstance T.f_bool boot_bool (he_name (i := 0) rfl rfl ⟨hd, q⟩)))
theorem has_are_unlike (T : Top K mg) : Has P w K mg base 1 "are_unlike" ["words"] fun _ n ds Q => ∃ (dw : D) (ss : List Str), ds = [dw] ∧ (dw = .lst (ss.map .str) ∨ dw = .tup (ss.map .str)) ∧ ss.length ≤ 1000 ∧ Q n (.bl (unlike ss)) := by
  have hN : (["words"] : List Str).Nodup := by decide +kernel
  refine has_of (N := ["words"]) T (i := 25) (d := d_are_unlike) rfl ⟨rfl, rfl, rfl, hN, rfl, by decide +kernel, by decide +kernel⟩ (by decide +kernel) rfl rfl rfl (fun _ _ _ _ _ _ us hl => match us, hl with | [_], _ => rfl) (fun g n ds Q h => by obtain ⟨_, _, rfl, _⟩ := h; rfl) fun cd Ar outer s H E hr g n ds Q h => ?_
  obtain ⟨dw, ss, rfl, hd, hz, q⟩ := h
  refine hss_cons (hs_ret (he_cmp op_eq (he_lenSet rfl T.f_len T.f_set (he_name (i := 0) rfl rfl ⟨ss, hd, by unfold scanBound; omega, he_len T.f_len (he_name (i := 0) rfl rfl ⟨?_, rd_eqI ?_⟩)⟩))))
  · rcases hd with rfl | rfl <;> rfl
  · have e1 : dw.len = ss.length := by rcases hd with rfl | rfl <;> simp [D.len]
    have e2 : decide (((met ss).length : Int) = (dw.len : Int)) = unlike ss := by
      rw [e1]
      exact decide_eq_decide.mpr (by omega)
    rw [e2]
    exact q
/-- all of a tuple by a def -/
theorem all_by (T : Top K mg) {k : Nat} {x : Str} {p : D → Bool} {d : D} (hf : d.fit FU = true) (hz : d.sz ≤ MX) (hon : ∀ {e : D}, e.fit FU = true → e.sz ≤ MX → On P w K mg base k x e (p e)) {g : Gx} {n : Nat} {Q : Nat → D → Prop} (q : Q n (.bl (areAll p d))) : aAll P w K mg base k x p g n [d, .fn x] Q := by
  refine ⟨d, rfl, fit_typed hf, fun es e => ?_, q⟩
  subst e
  refine ⟨len_in hz, fun e he => hon ?_ (sz_in hz e he)⟩
  obtain ⟨j, e, hj⟩ := fit_tup hf
  exact fit_mono (by omega) (hj _ he)
theorem fit_el {es : List D} (hf : (D.tup es).fit FU = true) : ∀ e ∈ es, e.fit FU = true := fun e he => by
  obtain ⟨j, e', hj⟩ := fit_tup hf
  exact fit_mono (by omega) (hj _ he)
theorem on_are_deeds (T : Top K mg) {d : D} (hf : d.fit FU = true) (hz : d.sz ≤ MX) : On P w K mg base (LV + 4) "are_deeds" d (areAll isDeed d) := by
  have hN : (["thing"] : List Str).Nodup := by decide +kernel
  refine has_of (N := ["thing"]) T (i := 27) (d := d_are_deeds) rfl ⟨rfl, rfl, rfl, hN, rfl, by decide +kernel, by decide +kernel⟩ (by decide +kernel) rfl rfl rfl (fun _ _ _ _ _ _ us hl => match us, hl with | [_], _ => rfl) (fun g n ds Q h => by obtain ⟨rfl, _⟩ := h; rfl) fun cd Ar outer s H E hr g n ds Q h => ?_
  obtain ⟨rfl, q⟩ := h
  exact hss_cons (hs_ret (he_call (has_are_all T (LV + 2) "is_deed" isDeed) hr (ha_cons (he_name (i := 0) rfl rfl (ha_cons (he_fn T.g_is_deed (ha_nil (all_by T hf hz (on_is_deed T) q))))))))
theorem on_choiceL (T : Top K mg) {a : D} (hf : a.fit FU = true) (hz : a.sz ≤ MX) : ∀ x ∈ (["is_word", "are_label_pieces", "is_test", "is_truth", "are_deeds", "is_next"] : List Str), On P w K mg base (LV + 4) x a (choiceL x a) := by
  intro x hx
  have ha := fit_typed hf
  simp only [List.mem_cons, List.not_mem_nil, or_false] at hx
  rcases hx with rfl | rfl | rfl | rfl | rfl | rfl
  · exact (on_is_word T ha hz).le (by decide)
  · exact (on_are_label_pieces T hf hz).le (by decide)
  · exact (on_is_test T FU hf hz).le (by decide)
  · exact (on_is_truth T ha).le (by decide)
  · exact on_are_deeds T hf hz
  · exact (on_is_next T hf hz).le (by decide)
theorem on_is_choice (T : Top K mg) {d : D} (hf : d.fit FU = true) (hz : d.sz ≤ MX) : On P w K mg base (LV + 6) "is_choice" d (isChoice d) := by
  have hN : (["thing"] : List Str).Nodup := by decide +kernel
  refine has_of (N := ["thing"]) T (i := 28) (d := d_is_choice) rfl ⟨rfl, rfl, rfl, hN, rfl, by decide +kernel, by decide +kernel⟩ (by decide +kernel) rfl rfl rfl (fun _ _ _ _ _ _ us hl => match us, hl with | [_], _ => rfl) (fun g n ds Q h => by obtain ⟨rfl, _⟩ := h; rfl) fun cd Ar outer s H E hr g n ds Q h => ?_
  obtain ⟨rfl, q⟩ := h
  refine hss_cons (hs_ret (he_call (has_is_row_of T (LV + 4) choiceL) hr (ha_cons (he_name (i := 0) rfl rfl (ha_cons (he_tup (ha_cons (he_fn T.g_is_word (ha_cons (he_fn T.g_are_label_pieces (ha_cons (he_fn T.g_is_test (ha_cons (he_fn T.g_is_truth (ha_cons (he_fn T.g_are_deeds (ha_cons (he_fn T.g_is_next (ha_nil ⟨by decide, ha_nil ⟨d, ["is_word", "are_label_pieces", "is_test", "is_truth", "are_deeds", "is_next"], rfl, fit_typed hf, hz, by decide, fun as e a ha x hx => ?_, q⟩⟩)))))))))))))))))))
  subst e
  exact on_choiceL T (fit_el hf a ha) (sz_in hz a ha) x hx
theorem rowOf_first {L : Str → D → Bool} {x : Str} {ls : List Str} {d : D} (h : rowOf L (x :: ls) d = true) : ∃ a as, d = .tup (a :: as) ∧ L x a = true ∧ as.length = ls.length ∧ zipAll L (ls.map .fn) as = true := by
  cases d with
  | tup es =>
    cases es with
    | nil => simp [rowOf] at h
    | cons a as =>
      simp only [rowOf, List.map_cons, zipAll, looked, Bool.and_eq_true, decide_eq_true_eq, List.length_cons] at h
      exact ⟨a, as, rfl, h.2.1, by omega, h.2.2⟩
  | _ => cases h
theorem isWord_str {d : D} (h : isWord d = true) : ∃ s, d = .str s := by cases d <;> first | exact ⟨_, rfl⟩ | cases h
theorem choice_key {d : D} (h : isChoice d = true) : ∃ s as, d = .tup (.str s :: as) := by
  obtain ⟨a, as, rfl, h1, _⟩ := rowOf_first h
  obtain ⟨s, rfl⟩ := isWord_str h1
  exact ⟨s, as, rfl⟩
theorem on_are_choices (T : Top K mg) {d : D} (hf : d.fit FU = true) (hz : d.sz ≤ MX) : On P w K mg base (LV + 8) "are_choices" d (areChoices d) := by
  have hN : (["thing", "one"] : List Str).Nodup := by decide +kernel
  refine has_of (N := ["thing", "one"]) T (i := 29) (d := d_are_choices) rfl ⟨rfl, rfl, rfl, hN, rfl, by decide +kernel, by decide +kernel⟩ (by decide +kernel) rfl rfl rfl (fun _ _ _ _ _ _ us hl => match us, hl with | [_], _ => rfl) (fun g n ds Q h => by obtain ⟨rfl, _⟩ := h; rfl) fun cd Ar outer s H E hr g n ds Q h => ?_
  obtain ⟨rfl, q⟩ := h
  refine hss_cons (hs_ret (HE.mono (he_andP (p := areAll isChoice d) (q := areChoices d) (he_call (has_are_all T (LV + 6) "is_choice" isChoice) hr (ha_cons (he_name (i := 0) rfl rfl (ha_cons (he_fn T.g_is_choice (ha_nil (all_by T hf hz (on_is_choice T) ⟨rfl, rfl⟩))))))) fun e => he_one ?_) fun n' z hq => by
    rw [hq.1, hq.2]
    have e2 : (areAll isChoice d && areChoices d) = areChoices d := by cases d <;> simp [areAll, areChoices]
    rw [e2]
    exact q))
  obtain ⟨es, rfl⟩ : ∃ es, d = .tup es := by cases d <;> first | exact ⟨_, rfl⟩ | cases e
  have e' : es.all isChoice = true := e
  have hl := fit_len hf
  refine he_call (has_are_unlike T) (hr.mono (by decide)) (ha_cons (he_lst (hf_map (fun d => .str (key0 d)) (own := [("one", 1)]) rfl hN ?_ (own1 rfl) (hi_tup (he_name (i := 0) rfl rfl ⟨es, rfl, len_in hz, fun c hc => ?_, ha_nil ⟨_, es.map key0, rfl, .inl (by rw [List.map_map]; rfl), by rw [List.length_map]; exact hl, rfl, ?_⟩⟩)))))
  · exact (show BlkOk (["thing", "one"] : List Str) d_are_choices.scope _ _ from ⟨rfl, by decide +kernel, by decide +kernel, by decide +kernel, by decide +kernel⟩)
  · obtain ⟨s, as, rfl⟩ := choice_key (List.all_eq_true.mp e' c hc)
    exact ⟨_, fun s H C cl fp => hg_name hN rfl, fun s' H C cl fp => he_ixT (he_name (i := 1) rfl rfl (he_int ⟨_, _, .str s, rfl, rfl, atI_0, rfl, rfl⟩))⟩
  · show D.bl (unlike (es.map key0)) = D.bl (es.all isChoice && unlike (es.map key0))
    rw [e', Bool.true_and]
theorem on_are_unlike_words (T : Top K mg) {d : D} (hf : d.fit FU = true) (hz : d.sz ≤ MX) : On P w K mg base 3 "are_unlike_words" d (unlikeWords d) := by
  have hN : (["thing"] : List Str).Nodup := by decide +kernel
  refine has_of (N := ["thing"]) T (i := 30) (d := d_are_unlike_words) rfl ⟨rfl, rfl, rfl, hN, rfl, by decide +kernel, by decide +kernel⟩ (by decide +kernel) rfl rfl rfl (fun _ _ _ _ _ _ us hl => match us, hl with | [_], _ => rfl) (fun g n ds Q h => by obtain ⟨rfl, _⟩ := h; rfl) fun cd Ar outer s H E hr g n ds Q h => ?_
  obtain ⟨rfl, q⟩ := h
  refine hss_cons (hs_ret (HE.mono (he_andP (p := areAll isWord d) (q := unlikeWords d) (he_call (has_are_all T 1 "is_word" isWord) hr (ha_cons (he_name (i := 0) rfl rfl (ha_cons (he_fn T.g_is_word (ha_nil (all_by T hf hz (fun h1 h2 => on_is_word T (fit_typed h1) h2) ⟨rfl, rfl⟩))))))) fun e => he_one ?_) fun n' z hq => by
    rw [hq.1, hq.2]
    have e2 : (areAll isWord d && unlikeWords d) = unlikeWords d := by cases d <;> simp [areAll, unlikeWords]
    rw [e2]
    exact q))
  obtain ⟨es, rfl⟩ : ∃ es, d = .tup es := by cases d <;> first | exact ⟨_, rfl⟩ | cases e
  have e' : es.all isWord = true := e
  have hl := fit_len hf
  have e3 : es = (es.map text).map D.str := by
    rw [List.map_map]
    conv => lhs; rw [← List.map_id es]
    refine List.map_congr_left fun c hc => ?_
    obtain ⟨s, rfl⟩ := isWord_str (List.all_eq_true.mp e' c hc)
    rfl
  refine he_call (has_are_unlike T) (hr.mono (by decide)) (ha_cons (he_name (i := 0) rfl rfl (ha_nil ⟨.tup es, es.map text, rfl, .inr (by rw [← e3]), by rw [List.length_map]; exact hl, rfl, ?_⟩)))
  show D.bl (unlike (es.map text)) = D.bl (es.all isWord && unlike (es.map text))
  rw [e', Bool.true_and]
theorem on_is_ending (T : Top K mg) {d : D} (hf : d.fit FU = true) (hz : d.sz ≤ MX) : On P w K mg base 2 "is_ending" d (isEnding d) := by
  have hN : (["thing"] : List Str).Nodup := by decide +kernel
  refine has_of (N := ["thing"]) T (i := 31) (d := d_is_ending) rfl ⟨rfl, rfl, rfl, hN, rfl, by decide +kernel, by decide +kernel⟩ (by decide +kernel) rfl rfl rfl (fun _ _ _ _ _ _ us hl => match us, hl with | [_], _ => rfl) (fun g n ds Q h => by obtain ⟨rfl, _⟩ := h; rfl) fun cd Ar outer s H E hr g n ds Q h => ?_
  obtain ⟨rfl, q⟩ := h
  exact hss_cons (hs_ret (HE.mono (he_orP (p := d.isNon) (q := isWord d) (he_cmp op_isN (he_name (i := 0) rfl rfl (he_non (rd_isN ⟨rfl, rfl⟩)))) fun e => he_one (he_call (on_is_word T (fit_typed hf) hz) hr (ha_cons (he_name (i := 0) rfl rfl (ha_nil ⟨rfl, rfl, rfl⟩))))) fun n' z hq => by rw [hq.1, hq.2]; exact q))
theorem on_sceneL (T : Top K mg) {a : D} (hf : a.fit FU = true) (hz : a.sz ≤ MX) : ∀ x ∈ (["is_word", "are_pieces", "are_choices", "are_unlike_words", "is_ending"] : List Str), On P w K mg base (LV + 8) x a (sceneL x a) := by
  intro x hx
  have ha := fit_typed hf
  simp only [List.mem_cons, List.not_mem_nil, or_false] at hx
  rcases hx with rfl | rfl | rfl | rfl | rfl
  · exact (on_is_word T ha hz).le (by decide)
  · exact (on_are_pieces T hf hz).le (by decide)
  · exact on_are_choices T hf hz
  · exact (on_are_unlike_words T hf hz).le (by decide)
  · exact (on_is_ending T hf hz).le (by decide)
theorem on_is_scene (T : Top K mg) {d : D} (hf : d.fit FU = true) (hz : d.sz ≤ MX) : On P w K mg base (LV + 10) "is_scene" d (isScene d) := by
  have hN : (["thing"] : List Str).Nodup := by decide +kernel
  refine has_of (N := ["thing"]) T (i := 32) (d := d_is_scene) rfl ⟨rfl, rfl, rfl, hN, rfl, by decide +kernel, by decide +kernel⟩ (by decide +kernel) rfl rfl rfl (fun _ _ _ _ _ _ us hl => match us, hl with | [_], _ => rfl) (fun g n ds Q h => by obtain ⟨rfl, _⟩ := h; rfl) fun cd Ar outer s H E hr g n ds Q h => ?_
  obtain ⟨rfl, q⟩ := h
  refine hss_cons (hs_ret (he_call (has_is_row_of T (LV + 8) sceneL) hr (ha_cons (he_name (i := 0) rfl rfl (ha_cons (he_tup (ha_cons (he_fn T.g_is_word (ha_cons (he_fn T.g_are_pieces (ha_cons (he_fn T.g_are_choices (ha_cons (he_fn T.g_are_unlike_words (ha_cons (he_fn T.g_is_ending (ha_nil ⟨by decide, ha_nil ⟨d, ["is_word", "are_pieces", "are_choices", "are_unlike_words", "is_ending"], rfl, fit_typed hf, hz, by decide, fun as e a ha x hx => ?_, q⟩⟩)))))))))))))))))
  subst e
  exact on_sceneL T (fit_el hf a ha) (sz_in hz a ha) x hx
end
end Fk
set_option Elab.async false
set_option linter.all false
set_option maxRecDepth 100000
set_option maxHeartbeats 4000000
/-! W7: is_story. -/
namespace Fk
open PySem PySem.Spec PyProof.Rows L2
def zipLt (d : D) : Bool := match d with
  | .tup [a, b] => ltD a b
  | _ => true
theorem rise_zip : ∀ es : List D, rise es = (zipD es (es.drop 1)).all zipLt
  | [] => rfl
  | [a] => rfl
  | a :: b :: r => by
    have ih := rise_zip (b :: r)
    rw [rise, ih]
    rfl
section
variable {P : Program} {w : World} {K : PySem.W.Frag} {mg : Str → Option Value} {base : Heap}
/-- alike ones -/
def Likes (es : List D) : Prop := ∀ a ∈ es, ∀ b ∈ es, PySem.W.alike a.py b.py = true ∧ a.py ≠ .none ∧ a.fit FU = true ∧ b.fit FU = true
theorem cut1 (es : List D) : cutD es (some 1) none = es.drop 1 := by
  cases es with
  | nil => rfl
  | cons x xs => exact cut_1 x xs
theorem has_do_rise (T : Top K mg) : Has P w K mg base 1 "do_rise" ["names"] fun _ n ds Q => ∃ (nm : D) (es : List D), ds = [nm] ∧ (nm = .lst es ∨ nm = .tup es) ∧ es.length ≤ 1000 ∧ Likes es ∧ Q n (.bl (rise es)) := by
  have hN : (["names", "one", "other"] : List Str).Nodup := by decide +kernel
  refine has_of (N := ["names", "one", "other"]) T (i := 33) (d := d_do_rise) rfl ⟨rfl, rfl, rfl, hN, rfl, by decide +kernel, by decide +kernel⟩ (by decide +kernel) rfl rfl rfl (fun _ _ _ _ _ _ us hl => match us, hl with | [_], _ => rfl) (fun g n ds Q h => by obtain ⟨_, _, rfl, _⟩ := h; rfl) fun cd Ar outer s H E hr g n ds Q h => ?_
  obtain ⟨nm, es, rfl, hd, hz, hl, q⟩ := h
  have h1 : (zipD es (es.drop 1)).length ≤ sizeLine := by
    rw [zipD_len]
    unfold sizeLine
    omega
  rw [rise_zip] at q
  rcases hd with rfl | rfl
  · refine hss_cons (hs_ret ?_)
    refine he_allMap zipLt (own := [("one", 1), ("other", 2)]) T.f_all rfl hN ?_ (own2 rfl rfl) (hi_zip T.f_zip (he_name (i := 0) rfl rfl (he_lst (hf_slL (he_name (i := 0) rfl rfl (ho_int (ho_none ⟨es, rfl, es, es.drop 1, .inr ⟨rfl, by rw [cut1]⟩, h1, fun d hd => ?_, q⟩)))))))
    · exact (show BlkOk (["names", "one", "other"] : List Str) d_do_rise.scope _ _ from ⟨rfl, by decide +kernel, by decide +kernel, by decide +kernel, by decide +kernel⟩)
    · obtain ⟨a, b, rfl, ha, hb⟩ := zipD_mem hd
      obtain ⟨l1, l2, l3, l4⟩ := hl a ha b (List.mem_of_mem_drop hb)
      exact ⟨_, fun s H C cl fp => hg_two rfl hN rfl rfl (by decide), fun s H C cl fp => he_cmp (op_ltD (Room.units hr)) (he_name (i := 1) rfl rfl (he_name (i := 2) rfl rfl (rd_ltD l3 l4 (by decide) l1 l2 ⟨rfl, rfl⟩)))⟩
  · refine hss_cons (hs_ret ?_)
    refine he_allMap zipLt (own := [("one", 1), ("other", 2)]) T.f_all rfl hN ?_ (own2 rfl rfl) (hi_zip T.f_zip (he_name (i := 0) rfl rfl (he_slT (he_name (i := 0) rfl rfl (ho_int (ho_none ⟨es, rfl, es, es.drop 1, .inl ⟨rfl, by rw [cut1]⟩, h1, fun d hd => ?_, q⟩))))))
    · exact (show BlkOk (["names", "one", "other"] : List Str) d_do_rise.scope _ _ from ⟨rfl, by decide +kernel, by decide +kernel, by decide +kernel, by decide +kernel⟩)
    · obtain ⟨a, b, rfl, ha, hb⟩ := zipD_mem hd
      obtain ⟨l1, l2, l3, l4⟩ := hl a ha b (List.mem_of_mem_drop hb)
      exact ⟨_, fun s H C cl fp => hg_two rfl hN rfl rfl (by decide), fun s H C cl fp => he_cmp (op_ltD (Room.units hr)) (he_name (i := 1) rfl rfl (he_name (i := 2) rfl rfl (rd_ltD l3 l4 (by decide) l1 l2 ⟨rfl, rfl⟩)))⟩
def boundL (x : Str) (a : D) : Bool := if x = "is_word" then isWord a else if x = "is_number" then isNum a else false
theorem on_boundL (T : Top K mg) {a : D} (ha : a.typed = true) (hz : a.sz ≤ MX) : ∀ x ∈ (["is_word", "is_number", "is_number", "is_number"] : List Str), On P w K mg base 1 x a (boundL x a) := by
  intro x hx
  simp only [List.mem_cons, List.not_mem_nil, or_false] at hx
  rcases hx with rfl | rfl | rfl | rfl
  · exact on_is_word T ha hz
  · exact on_is_number T ha
  · exact on_is_number T ha
  · exact on_is_number T ha
theorem isNum_int {d : D} (h : isNum d = true) : ∃ i, d = .int i := by cases d <;> first | exact ⟨_, rfl⟩ | cases h
theorem row4 {d : D} (h : rowOf boundL ["is_word", "is_number", "is_number", "is_number"] d = true) : ∃ s i j k, d = .tup [.str s, .int i, .int j, .int k] ∧ isWord (.str s) = true := by
  obtain ⟨a, as, rfl, h1, h2, h3⟩ := rowOf_first h
  obtain ⟨s, rfl⟩ := isWord_str h1
  match as, h2, h3 with
  | [x, y, z], _, h3 =>
    simp only [List.map_cons, List.map_nil, zipAll, looked, Bool.and_eq_true, Bool.and_true] at h3
    obtain ⟨i, rfl⟩ := isNum_int (show isNum x = true from h3.1)
    obtain ⟨j, rfl⟩ := isNum_int (show isNum y = true from h3.2.1)
    obtain ⟨k, rfl⟩ := isNum_int (show isNum z = true from h3.2.2)
    exact ⟨s, i, j, k, rfl, h1⟩
theorem bounded_row {d : D} (h : isBounded d = true) : ∃ s i j k, d = .tup [.str s, .int i, .int j, .int k] ∧ isWord (.str s) = true := by
  unfold isBounded at h
  split at h
  · rename_i nm lo hi f
    rw [Bool.and_eq_true] at h
    obtain ⟨s, rfl⟩ := isWord_str h.1
    exact ⟨s, lo, hi, f, rfl, h.1⟩
  · cases h
theorem on_is_bounded (T : Top K mg) {d : D} (hf : d.fit FU = true) (hz : d.sz ≤ MX) : On P w K mg base 3 "is_bounded" d (isBounded d) := by
  have hN : (["thing", "name", "low", "high", "first"] : List Str).Nodup := by decide +kernel
  refine has_of (N := ["thing", "name", "low", "high", "first"]) T (i := 34) (d := d_is_bounded) rfl ⟨rfl, rfl, rfl, hN, rfl, by decide +kernel, by decide +kernel⟩ (by decide +kernel) rfl rfl rfl (fun _ _ _ _ _ _ us hl => match us, hl with | [_], _ => rfl) (fun g n ds Q h => by obtain ⟨rfl, _⟩ := h; rfl) fun cd Ar outer s H E hr g n ds Q h => ?_
  obtain ⟨rfl, q⟩ := h
  refine hss_cons (hs_ifP (!rowOf boundL ["is_word", "is_number", "is_number", "is_number"] d) (ht_notP (ht_valP (he_call (has_is_row_of T 1 boundL) hr (ha_cons (he_name (i := 0) rfl rfl (ha_cons (he_tup (ha_cons (he_fn T.g_is_word (ha_cons (he_fn T.g_is_number (ha_cons (he_fn T.g_is_number (ha_cons (he_fn T.g_is_number (ha_nil ⟨by decide, ha_nil ⟨d, ["is_word", "is_number", "is_number", "is_number"], rfl, fit_typed hf, hz, by decide, fun as e a ha x hx => ?_, rfl, rfl⟩⟩)))))))))))))))) (fun e => ?_) fun e => hss_nil ?_)
  · subst e
    exact on_boundL T (fit_typed (fit_el hf a ha)) (sz_in hz a ha) x hx
  · refine hss_cons (hs_ret (he_bl ?_))
    have e2 : isBounded d = false := by
      cases z : isBounded d with
      | false => rfl
      | true =>
        obtain ⟨s, i, j, k, rfl, hw⟩ := bounded_row z
        have : rowOf boundL ["is_word", "is_number", "is_number", "is_number"] (.tup [.str s, .int i, .int j, .int k]) = true := by
          simp only [rowOf, List.map_cons, List.map_nil, zipAll, looked]
          rw [show boundL "is_word" (.str s) = isWord (.str s) from rfl, hw]
          rfl
        rw [this] at e
        cases e
    rw [e2] at q
    exact q
  · obtain ⟨s, i, j, k, rfl, hw⟩ := row4 (d := d) (by simpa using e)
    refine hss_cons (hs_asg (he_name (i := 0) rfl rfl ⟨_, _, hg_tup rfl (hgs_cons (hg_name (i := 1) hN rfl) (hgs_cons (hg_name (i := 2) hN rfl) (hgs_cons (hg_name (i := 3) hN rfl) (hgs_cons (hg_name (i := 4) hN rfl) hgs_nil)))) rfl, ?_⟩))
    refine hss_cons (hs_ret (he_chain op_le op_le (he_name (i := 2) rfl rfl (he_name (i := 4) rfl rfl (rd_intB ⟨_, rfl, fun e1 => ?_, fun e1 => ?_⟩)))))
    · refine he_name (i := 3) rfl rfl (rd_intB ?_)
      have e3 : isBounded (.tup [.str s, .int i, .int j, .int k]) = decide (k ≤ j) := by
        show (isWord (.str s) && (decide (i ≤ k) && decide (k ≤ j))) = _
        rw [hw, e1]
        rfl
      rw [e3] at q
      exact q
    · have e3 : isBounded (.tup [.str s, .int i, .int j, .int k]) = false := by
        show (isWord (.str s) && (decide (i ≤ k) && decide (k ≤ j))) = _
        rw [hw, e1]
        rfl
      rw [e3] at q
      exact q
theorem like_strs {es : List D} (h : ∀ e ∈ es, ∃ s, e = .str s ∧ e.fit FU = true) : Likes es := by
  intro a ha b hb
  obtain ⟨s, rfl, h1⟩ := h a ha
  obtain ⟨t, rfl, h2⟩ := h b hb
  refine ⟨?_, ?_, h1, h2⟩
  · simp [D.py, PySem.W.alike]
  · simp [D.py]
theorem fit_str (s : Str) : (D.str s).fit FU = true := by
  show (D.str s).fit (29 + 1) = true
  simp [D.fit]
theorem named_eq (p : D → Bool) (d : D) : (areAll p d && named p d) = named p d := by cases d <;> simp [areAll, named]
def aNamed (P : Program) (w : World) (K : PySem.W.Frag) (mg : Str → Option Value) (base : Heap) (k : Nat) (x : Str) (p : D → Bool) : Acc := fun _ n ds Q => ∃ thing, ds = [thing, .fn x] ∧ thing.fit FU = true ∧ thing.sz ≤ MX ∧ (∀ {e : D}, e.fit FU = true → e.sz ≤ MX → On P w K mg base k x e (p e)) ∧ (∀ e, p e = true → ∃ s as, e = .tup (.str s :: as)) ∧ Q n (.bl (named p thing))
theorem has_are_named (T : Top K mg) (k : Nat) (x : Str) (p : D → Bool) : Has P w K mg base (k + 2) "are_named" ["thing", "is_one"] (aNamed P w K mg base k x p) := by
  have hN : (["thing", "is_one", "one"] : List Str).Nodup := by decide +kernel
  refine has_of (N := ["thing", "is_one", "one"]) T (i := 35) (d := d_are_named) rfl ⟨rfl, rfl, rfl, hN, rfl, by decide +kernel, by decide +kernel⟩ (by decide +kernel) rfl rfl rfl (fun _ _ _ _ _ _ us hl => match us, hl with | [_, _], _ => rfl) (fun g n ds Q h => by obtain ⟨_, rfl, _⟩ := h; rfl) fun cd Ar outer s H E hr g n ds Q h => ?_
  obtain ⟨d, rfl, hf, hz, hon, hkey, q⟩ := h
  refine hss_cons (hs_ret (HE.mono (he_andP (p := areAll p d) (q := named p d) (he_call (has_are_all T k x p) hr (ha_cons (he_name (i := 0) rfl rfl (ha_cons (he_name (i := 1) rfl rfl (ha_nil (all_by T hf hz hon ⟨rfl, rfl⟩))))))) fun e => he_one ?_) fun n' z hq => by
    rw [hq.1, hq.2, named_eq]
    exact q))
  obtain ⟨es, rfl⟩ : ∃ es, d = .tup es := by cases d <;> first | exact ⟨_, rfl⟩ | cases e
  have e' : es.all p = true := e
  refine he_call (has_do_rise T) (hr.mono (by omega)) (ha_cons (he_lst (hf_map (fun d => .str (key0 d)) (own := [("one", 2)]) rfl hN ?_ (own1 rfl) (hi_tup (he_name (i := 0) rfl rfl ⟨es, rfl, len_in hz, fun c hc => ?_, ha_nil ⟨_, es.map fun d => .str (key0 d), rfl, .inl rfl, by rw [List.length_map]; exact fit_len hf, like_strs fun e he => ?_, rfl, ?_⟩⟩)))))
  · exact (show BlkOk (["thing", "is_one", "one"] : List Str) d_are_named.scope _ _ from ⟨rfl, by decide +kernel, by decide +kernel, by decide +kernel, by decide +kernel⟩)
  · obtain ⟨s, as, rfl⟩ := hkey c (List.all_eq_true.mp e' c hc)
    exact ⟨_, fun s H C cl fp => hg_name hN rfl, fun s' H C cl fp => he_ixT (he_name (i := 2) rfl rfl (he_int ⟨_, _, .str s, rfl, rfl, atI_0, rfl, rfl⟩))⟩
  · obtain ⟨c, _, rfl⟩ := List.mem_map.mp he
    exact ⟨_, rfl, fit_str _⟩
  · show D.bl (rise _) = D.bl (es.all p && rise _)
    rw [e', Bool.true_and]
theorem on_pairL (T : Top K mg) {a : D} (ha : a.typed = true) (hz : a.sz ≤ MX) : ∀ x ∈ (["is_word", "is_word"] : List Str), On P w K mg base 1 x a (lookU x a) := by
  intro x hx
  simp only [List.mem_cons, List.not_mem_nil, or_false] at hx
  rcases hx with rfl | rfl <;> exact on_is_word T ha hz
theorem on_is_word_pair (T : Top K mg) {d : D} (hf : d.fit FU = true) (hz : d.sz ≤ MX) : On P w K mg base 3 "is_word_pair" d (isPair d) := by
  have hN : (["thing"] : List Str).Nodup := by decide +kernel
  refine has_of (N := ["thing"]) T (i := 36) (d := d_is_word_pair) rfl ⟨rfl, rfl, rfl, hN, rfl, by decide +kernel, by decide +kernel⟩ (by decide +kernel) rfl rfl rfl (fun _ _ _ _ _ _ us hl => match us, hl with | [_], _ => rfl) (fun g n ds Q h => by obtain ⟨rfl, _⟩ := h; rfl) fun cd Ar outer s H E hr g n ds Q h => ?_
  obtain ⟨rfl, q⟩ := h
  refine hss_cons (hs_ret (he_call (has_is_row_of T 1 lookU) hr (ha_cons (he_name (i := 0) rfl rfl (ha_cons (he_fns2 T.g_is_word T.g_is_word (ha_nil ⟨d, ["is_word", "is_word"], rfl, fit_typed hf, hz, by decide, fun as e a ha x hx => ?_, q⟩)))))))
  subst e
  exact on_pairL T (fit_typed (fit_el hf a ha)) (sz_in hz a ha) x hx
theorem pair_row {d : D} (h : isPair d = true) : ∃ s t, d = .tup [.str s, .str t] ∧ isWord (.str s) = true ∧ isWord (.str t) = true := by
  obtain ⟨a, as, rfl, h1, h2, h3⟩ := rowOf_first h
  obtain ⟨s, rfl⟩ := isWord_str (d := a) h1
  match as, h2, h3 with
  | [x], _, h3 =>
    simp only [List.map_cons, List.map_nil, zipAll, looked, Bool.and_eq_true, Bool.and_true] at h3
    obtain ⟨t, rfl⟩ := isWord_str (show isWord x = true from h3)
    exact ⟨s, t, rfl, h1, h3⟩
theorem pair_of {s t : Str} (h1 : isWord (.str s) = true) (h2 : isWord (.str t) = true) : isPair (.tup [.str s, .str t]) = true := by
  show (decide (2 = 2) && (looked lookU (.fn "is_word") (.str s) && (looked lookU (.fn "is_word") (.str t) && true))) = true
  rw [show looked lookU (.fn "is_word") (.str s) = isWord (.str s) from rfl, show looked lookU (.fn "is_word") (.str t) = isWord (.str t) from rfl, h1, h2]
  rfl
theorem on_is_door (T : Top K mg) {d : D} (hf : d.fit FU = true) (hz : d.sz ≤ MX) : On P w K mg base 4 "is_door" d (isDoor d) := by
  have hN : (["thing"] : List Str).Nodup := by decide +kernel
  refine has_of (N := ["thing"]) T (i := 37) (d := d_is_door) rfl ⟨rfl, rfl, rfl, hN, rfl, by decide +kernel, by decide +kernel⟩ (by decide +kernel) rfl rfl rfl (fun _ _ _ _ _ _ us hl => match us, hl with | [_], _ => rfl) (fun g n ds Q h => by obtain ⟨rfl, _⟩ := h; rfl) fun cd Ar outer s H E hr g n ds Q h => ?_
  obtain ⟨rfl, q⟩ := h
  refine hss_cons (hs_ret (HE.mono (he_andP (p := isPair d) (q := isDoor d) (he_call (on_is_word_pair T hf hz) hr (ha_cons (he_name (i := 0) rfl rfl (ha_nil ⟨rfl, rfl, rfl⟩)))) fun e => he_one ?_) fun n' z hq => by
    rw [hq.1, hq.2]
    have e2 : (isPair d && isDoor d) = isDoor d := by
      cases z : isDoor d with
      | false => simp
      | true =>
        unfold isDoor at z
        split at z
        · rename_i s t
          rw [Bool.and_eq_true, Bool.and_eq_true] at z
          rw [pair_of z.1.1 z.1.2]
          rfl
        · cases z
    rw [e2]
    exact q))
  obtain ⟨s, t, rfl, h1, h2⟩ := pair_row e
  refine he_cmp (op_ltD (Room.units hr)) (he_ixT (he_name (i := 0) rfl rfl (he_int ⟨_, _, .str s, rfl, rfl, atI_0, he_ixT (he_name (i := 0) rfl rfl (he_int ⟨_, _, .str t, rfl, rfl, atI_nat (i := 1) rfl, rd_ltD (fit_str s) (fit_str t) (by decide) (by simp [D.py, PySem.W.alike]) (by simp [D.py]) ⟨rfl, ?_⟩⟩))⟩)))
  show D.bl _ = D.bl ((isWord (.str s) && isWord (.str t)) && _)
  rw [h1, h2]
  rfl
theorem on_is_digit (T : Top K mg) {d : D} (hf : d.fit FU = true) : On P w K mg base 2 "is_digit" d (isDigit d) := by
  have hN : (["thing"] : List Str).Nodup := by decide +kernel
  refine has_of (N := ["thing"]) T (i := 38) (d := d_is_digit) rfl ⟨rfl, rfl, rfl, hN, rfl, by decide +kernel, by decide +kernel⟩ (by decide +kernel) rfl rfl rfl (fun _ _ _ _ _ _ us hl => match us, hl with | [_], _ => rfl) (fun g n ds Q h => by obtain ⟨rfl, _⟩ := h; rfl) fun cd Ar outer s H E hr g n ds Q h => ?_
  obtain ⟨rfl, q⟩ := h
  refine hss_cons (hs_ret (HE.mono (he_andP (p := isNum d) (q := isDigit d) (he_call (on_is_number T (fit_typed hf)) hr (ha_cons (he_name (i := 0) rfl rfl (ha_nil ⟨rfl, rfl, rfl⟩)))) fun e => he_one ?_) fun n' z hq => by
    rw [hq.1, hq.2]
    have e2 : (isNum d && isDigit d) = isDigit d := by cases d <;> simp [isNum, isDigit]
    rw [e2]
    exact q))
  obtain ⟨i, rfl⟩ := isNum_int e
  refine he_chain op_le op_le (he_int (he_name (i := 0) rfl rfl (rd_intB ⟨_, rfl, fun e1 => ?_, fun e1 => ?_⟩)))
  · refine he_int (rd_intB ⟨rfl, ?_⟩)
    show _ = D.bl (decide (0 ≤ i) && decide (i ≤ 9))
    rw [e1]
    rfl
  · refine ⟨rfl, ?_⟩
    show _ = D.bl (decide (0 ≤ i) && decide (i ≤ 9))
    rw [e1]
    rfl
end
end Fk
set_option Elab.async false
set_option linter.all false
set_option maxRecDepth 100000
set_option maxHeartbeats 4000000
/-! W8: is_story. -/
namespace Fk
open PySem PySem.Spec PyProof.Rows L2
section
variable {P : Program} {w : World} {K : PySem.W.Frag} {mg : Str → Option Value} {base : Heap}
theorem scene_key {d : D} (h : isScene d = true) : ∃ s as, d = .tup (.str s :: as) := by
  obtain ⟨a, as, rfl, h1, _⟩ := rowOf_first h
  obtain ⟨s, rfl⟩ := isWord_str (d := a) h1
  exact ⟨s, as, rfl⟩
theorem door_pair {d : D} (h : isDoor d = true) : ∃ s t, d = .tup [.str s, .str t] := by
  unfold isDoor at h
  split at h
  · exact ⟨_, _, rfl⟩
  · cases h
theorem like_pairs {es : List D} (h : ∀ e ∈ es, ∃ s t, e = .tup [.str s, .str t]) : Likes es := by
  have hf : ∀ s t : Str, (D.tup [.str s, .str t]).fit FU = true := fun s t => by
    show (D.tup [.str s, .str t]).fit (28 + 1 + 1) = true
    simp [D.fit, fits]
  intro a ha b hb
  obtain ⟨s, t, rfl⟩ := h a ha
  obtain ⟨s', t', rfl⟩ := h b hb
  refine ⟨?_, ?_, hf s t, hf s' t'⟩
  · simp [D.py, pys, PySem.W.alike, PySem.W.alikeAll]
  · simp [D.py]
theorem tup7 {es : List D} (h : es.length = 7) : ∃ a b c d e f g, es = [a, b, c, d, e, f, g] := by
  match es, h with
  | [a, b, c, d, e, f, g], _ => exact ⟨a, b, c, d, e, f, g, rfl⟩
theorem on_is_story (T : Top K mg) {d : D} (hf : d.fit FU = true) (hz : d.sz ≤ MX) : On P w K mg base (LV + 13) "is_story" d (isStory d) := by
  have hN : (["thing", "numbers", "places", "doors", "figures", "digits", "scenes", "begin"] : List Str).Nodup := by decide +kernel
  refine has_of (N := ["thing", "numbers", "places", "doors", "figures", "digits", "scenes", "begin"]) T (i := 39) (d := d_is_story) rfl ⟨rfl, rfl, rfl, hN, rfl, by decide +kernel, by decide +kernel⟩ (by decide +kernel) rfl rfl rfl (fun _ _ _ _ _ _ us hl => match us, hl with | [_], _ => rfl) (fun g n ds Q h => by obtain ⟨rfl, _⟩ := h; rfl) fun cd Ar outer s H E hr g n ds Q h => ?_
  obtain ⟨rfl, q⟩ := h
  refine hss_cons (hs_ifP (!d.isTup || !decide ((d.len : Int) = 7)) (ht_bool (hw_orP (ht_notP (ht_valP (he_isi kit_tup T.f_isinstance T.f_tuple boot_tuple (he_name (i := 0) rfl rfl ⟨fit_typed hf, rfl, rfl⟩)))) fun e1 => ?_)) (fun e => ?_) fun e => hss_nil ?_)
  · obtain ⟨es, rfl⟩ := isTup_of (d := d) (by simpa using e1)
    exact hw_or1 (ht_cmp op_ne (he_len T.f_len (he_name (i := 0) rfl rfl ⟨rfl, he_int (rd_neI ⟨_, rfl, rfl, rfl⟩)⟩)))
  · refine hss_cons (hs_ret (he_bl ?_))
    have e2 : isStory d = false := by
      cases z : isStory d with
      | false => rfl
      | true =>
        unfold isStory at z
        split at z
        · cases e
        · cases z
    rw [e2] at q
    exact q
  · obtain ⟨es, rfl⟩ : ∃ es, d = .tup es := isTup_of (by cases d <;> first | rfl | cases e)
    have e3 : (!true || !decide (((es.length : Nat) : Int) = 7)) = false := e
    obtain ⟨nu, pl, dr, fi, dg, sc, bg, rfl⟩ := tup7 (es := es) (by simp at e3; omega)
    have hin : ∀ x ∈ [nu, pl, dr, fi, dg, sc, bg], x.fit FU = true ∧ x.sz ≤ MX := fun x hx => ⟨fit_el hf x hx, sz_in hz x hx⟩
    obtain ⟨f1, z1⟩ := hin nu (by simp)
    obtain ⟨f2, z2⟩ := hin pl (by simp)
    obtain ⟨f3, z3⟩ := hin dr (by simp)
    obtain ⟨f4, z4⟩ := hin fi (by simp)
    obtain ⟨f5, z5⟩ := hin dg (by simp)
    obtain ⟨f6, z6⟩ := hin sc (by simp)
    obtain ⟨f7, z7⟩ := hin bg (by simp)
    have hst : isStory (.tup [nu, pl, dr, fi, dg, sc, bg]) = (((named isBounded nu && areAll isWord pl) && riseT pl) && (((areAll isDoor dr && riseT dr) && named isPair fi) && ((areAll isDigit dg && named isScene sc) && isWord bg))) := rfl
    refine hss_cons (hs_asg (he_name (i := 0) rfl rfl ⟨_, _, hg_tup rfl (hgs_cons (hg_name (i := 1) hN rfl) (hgs_cons (hg_name (i := 2) hN rfl) (hgs_cons (hg_name (i := 3) hN rfl) (hgs_cons (hg_name (i := 4) hN rfl) (hgs_cons (hg_name (i := 5) hN rfl) (hgs_cons (hg_name (i := 6) hN rfl) (hgs_cons (hg_name (i := 7) hN rfl) hgs_nil))))))) rfl, ?_⟩))
    refine hss_cons (hs_ifP (!(named isBounded nu) || (!(areAll isWord pl) || !(riseT pl))) (ht_bool (hw_orP (ht_notP (ht_valP (he_call (has_are_named T 3 "is_bounded" isBounded) (hr.mono (by decide)) (ha_cons (he_name (i := 1) rfl rfl (ha_cons (he_fn T.g_is_bounded (ha_nil ⟨nu, rfl, f1, z1, fun h1 h2 => on_is_bounded T h1 h2, fun e he => ?_, rfl, rfl⟩)))))))) fun _ => hw_orP (ht_notP (ht_valP (he_call (has_are_all T 1 "is_word" isWord) (hr.mono (by decide)) (ha_cons (he_name (i := 2) rfl rfl (ha_cons (he_fn T.g_is_word (ha_nil (all_by T f2 z2 (fun h1 h2 => on_is_word T (fit_typed h1) h2) ⟨rfl, rfl⟩))))))))) fun e4 => hw_or1 (ht_notP (ht_valP ?_)))) (fun e => ?_) fun e => hss_nil ?_)
    · obtain ⟨s, i, j, k, rfl, _⟩ := bounded_row he
      exact ⟨s, _, rfl⟩
    · obtain ⟨ps, rfl⟩ : ∃ es, pl = .tup es := by cases pl <;> first | exact ⟨_, rfl⟩ | cases e4
      have e5 : (!(ps.all isWord)) = false := e4
      refine he_call (has_do_rise T) (hr.mono (by decide)) (ha_cons (he_name (i := 2) rfl rfl (ha_nil ⟨.tup ps, ps, rfl, .inr rfl, fit_len f2, like_strs fun e he => ?_, rfl, rfl⟩)))
      obtain ⟨s, rfl⟩ := isWord_str (List.all_eq_true.mp (by simpa using e5) e he)
      exact ⟨s, rfl, fit_str s⟩
    · refine hss_cons (hs_ret (he_bl ?_))
      have : isStory (.tup [nu, pl, dr, fi, dg, sc, bg]) = false := by
        rw [hst]
        revert e
        cases named isBounded nu <;> cases areAll isWord pl <;> cases riseT pl <;> simp
      rw [this] at q
      exact q
    · have e6 : named isBounded nu = true ∧ areAll isWord pl = true ∧ riseT pl = true := by
        revert e
        cases named isBounded nu <;> cases areAll isWord pl <;> cases riseT pl <;> simp
      obtain ⟨a1, a2, a3⟩ := e6
      refine hss_cons (hs_ifP (!(areAll isDoor dr) || (!(riseT dr) || !(named isPair fi))) (ht_bool (hw_orP (ht_notP (ht_valP (he_call (has_are_all T 4 "is_door" isDoor) (hr.mono (by decide)) (ha_cons (he_name (i := 3) rfl rfl (ha_cons (he_fn T.g_is_door (ha_nil (all_by T f3 z3 (fun h1 h2 => on_is_door T h1 h2) ⟨rfl, rfl⟩))))))))) fun e4 => hw_orP (ht_notP (ht_valP ?_)) fun _ => hw_or1 (ht_notP (ht_valP (he_call (has_are_named T 3 "is_word_pair" isPair) (hr.mono (by decide)) (ha_cons (he_name (i := 4) rfl rfl (ha_cons (he_fn T.g_is_word_pair (ha_nil ⟨fi, rfl, f4, z4, fun h1 h2 => on_is_word_pair T h1 h2, fun e he => ?_, rfl, rfl⟩)))))))))) (fun e => ?_) fun e => hss_nil ?_)
      · obtain ⟨ps, rfl⟩ : ∃ es, dr = .tup es := by cases dr <;> first | exact ⟨_, rfl⟩ | cases e4
        have e5 : (!(ps.all isDoor)) = false := e4
        exact he_call (has_do_rise T) (hr.mono (by decide)) (ha_cons (he_name (i := 3) rfl rfl (ha_nil ⟨.tup ps, ps, rfl, .inr rfl, fit_len f3, like_pairs fun e he => door_pair (List.all_eq_true.mp (by simpa using e5) e he), rfl, rfl⟩)))
      · obtain ⟨s, t, rfl, _⟩ := pair_row he
        exact ⟨s, _, rfl⟩
      · refine hss_cons (hs_ret (he_bl ?_))
        have : isStory (.tup [nu, pl, dr, fi, dg, sc, bg]) = false := by
          rw [hst]
          revert e
          cases areAll isDoor dr <;> cases riseT dr <;> cases named isPair fi <;> simp
        rw [this] at q
        exact q
      · have e7 : isStory (.tup [nu, pl, dr, fi, dg, sc, bg]) = (areAll isDigit dg && (named isScene sc && isWord bg)) := by
          rw [hst, a1, a2, a3]
          revert e
          cases areAll isDoor dr <;> cases riseT dr <;> cases named isPair fi <;> simp [Bool.and_assoc]
        rw [e7] at q
        refine hss_cons (hs_ret (HE.mono (he_andP (he_call (has_are_all T 2 "is_digit" isDigit) (hr.mono (by decide)) (ha_cons (he_name (i := 5) rfl rfl (ha_cons (he_fn T.g_is_digit (ha_nil (all_by T f5 z5 (fun h1 h2 => on_is_digit T h1) ⟨rfl, rfl⟩))))))) fun _ => he_andP (he_call (has_are_named T (LV + 10) "is_scene" isScene) hr (ha_cons (he_name (i := 6) rfl rfl (ha_cons (he_fn T.g_is_scene (ha_nil ⟨sc, rfl, f6, z6, fun h1 h2 => on_is_scene T h1 h2, fun e he => scene_key he, rfl, rfl⟩)))))) fun _ => he_one (he_call (on_is_word T (fit_typed f7) z7) (hr.mono (by decide)) (ha_cons (he_name (i := 7) rfl rfl (ha_nil ⟨rfl, rfl, rfl⟩))))) fun n' z hq => by rw [hq.1, hq.2]; exact q))
end
end Fk
set_option Elab.async false
set_option linter.all false
set_option maxRecDepth 100000
set_option maxHeartbeats 4000000
/-! M2: what names a scene's parts name, on data. -/
namespace Fk
open PySem PySem.Spec PyProof.Rows L2
def nmg (w : Str) (a : D) : D := .tup [.str w, a]
def items : D → List D
  | .tup es => es
  | _ => []
def sumN : D → List D
  | .tup [.str w, a] => if w = "num" then [] else [nmg (if w = "of" then "number" else w) a]
  | .tup [.str _, a, b] => sumN a ++ sumN b
  | _ => []
mutual
def testN : D → List D
  | .tup [.str w, a] => if w = "not" then testN a else (match a with
    | .tup ts => testNs ts
    | _ => [])
  | .tup [.str w, a, b] => [nmg "figure" a, nmg (if w = "at" then "place" else "figure") b]
  | .tup [.str _, a, _, b] => sumN a ++ sumN b
  | _ => []
def testNs : List D → List D
  | [] => []
  | d :: ds => testN d ++ testNs ds
end
def ownN : D → List D
  | .tup (.str w :: a :: _) => if w = "worth" then sumN a else if w = "place" then [nmg "figure" a] else if w = "if" then testN a else []
  | _ => []
def within : D → List D
  | .tup [.str w, _, b, c] => if w = "if" then items b ++ items c else []
  | .tup [.str w, _, b] => if w = "only" then items b else []
  | _ => []
def pieceN : Nat → D → List D
  | 0, _ => []
  | k + 1, p => ownN p ++ (within p).flatMap (pieceN k)
def piecesN (d : D) : List D := (items d).flatMap (pieceN FU)
def deedN : D → List D
  | .tup (.str w :: a :: rest) => if w = "set" then nmg "number" a :: rest.flatMap sumN else if w = "draw" then [nmg "number" a] else nmg "figure" a :: rest.map (nmg (if w = "join" then "figure" else "place"))
  | _ => []
def choiceN : D → List D
  | .tup [_, label, test, _, deeds, later] => (piecesN label ++ testN test) ++ (items deeds).flatMap deedN ++ ((items later).drop 1).map (nmg "scene")
  | _ => []
def sceneN : D → List D
  | .tup [_, ps, cs, wv, _] => piecesN ps ++ (items cs).flatMap choiceN ++ (items wv).map (nmg "scene")
  | _ => []
def fixN : D → D
  | .tup [.str s, a] => nmg (if s = "seen" then "scene" else s) a
  | d => d
def namesOf (d : D) : D := .tup ((sceneN d).map fixN)
/-! ### shapes of what is well formed -/
theorem sum_inv {k : Nat} {d : D} (h : isSumF (k + 1) d = true) : (∃ a, d = .tup [.str "num", a]) ∨ (∃ w a, d = .tup [.str w, a] ∧ (w = "of" ∨ w = "seen") ∧ isWord a = true) ∨ ∃ w a b, d = .tup [.str w, a, b] ∧ (w = "plus" ∨ w = "minus") ∧ isSumF k a = true ∧ isSumF k b = true := by
  rw [isSumF] at h
  obtain ⟨s, as, ls, rfl, h1, h2, h3⟩ := formed_inv h
  simp only [sumK, sumV, dlook] at h1
  split at h1
  · rename_i e
    subst e
    cases h1
    match as, h2 with
    | [a], _ => exact .inl ⟨a, rfl⟩
  split at h1
  · rename_i e
    subst e
    cases h1
    match as, h2, h3 with
    | [a], _, h3 => exact .inr (.inl ⟨_, a, rfl, .inl rfl, by simp only [zipAll, looked, Bool.and_true] at h3; exact h3⟩)
  split at h1
  · rename_i e
    subst e
    cases h1
    match as, h2, h3 with
    | [a], _, h3 => exact .inr (.inl ⟨_, a, rfl, .inr rfl, by simp only [zipAll, looked, Bool.and_true] at h3; exact h3⟩)
  split at h1
  · rename_i e
    subst e
    cases h1
    match as, h2, h3 with
    | [a, b], _, h3 =>
      simp only [zipAll, looked, Bool.and_true, Bool.and_eq_true] at h3
      exact .inr (.inr ⟨_, a, b, rfl, .inl rfl, h3.1, h3.2⟩)
  split at h1
  · rename_i e
    subst e
    cases h1
    match as, h2, h3 with
    | [a, b], _, h3 =>
      simp only [zipAll, looked, Bool.and_true, Bool.and_eq_true] at h3
      exact .inr (.inr ⟨_, a, b, rfl, .inr rfl, h3.1, h3.2⟩)
  · cases h1
theorem test_inv {k : Nat} {d : D} (h : isTestF (k + 1) d = true) : (∃ a s b, d = .tup [.str "is", a, s, b] ∧ isSumF k a = true ∧ isSumF k b = true) ∨ (∃ w a b, d = .tup [.str w, a, b] ∧ (w = "at" ∨ w = "with") ∧ isWord a = true ∧ isWord b = true) ∨ (∃ a, d = .tup [.str "not", a] ∧ isTestF k a = true) ∨
    ∃ w ts, d = .tup [.str w, .tup ts] ∧ (w = "all" ∨ w = "any") ∧ ∀ t ∈ ts, isTestF k t = true := by
  have hall : ∀ a : D, areAll (isTestF k) a = true → ∃ ts, a = .tup ts ∧ ∀ t ∈ ts, isTestF k t = true := fun a ha => by
    cases a <;> first | (cases ha; done) | exact ⟨_, rfl, List.all_eq_true.mp ha⟩
  rw [isTestF] at h
  obtain ⟨s, as, ls, rfl, h1, h2, h3⟩ := formed_inv h
  simp only [testK, testV, dlook] at h1
  split at h1
  · rename_i e
    subst e
    cases h1
    match as, h2, h3 with
    | [a, s, b], _, h3 =>
      simp only [zipAll, looked, Bool.and_true, Bool.and_eq_true] at h3
      exact .inl ⟨a, s, b, rfl, h3.1, h3.2.2⟩
  split at h1
  · rename_i e
    subst e
    cases h1
    match as, h2, h3 with
    | [a, b], _, h3 =>
      simp only [zipAll, looked, Bool.and_true, Bool.and_eq_true] at h3
      exact .inr (.inl ⟨_, a, b, rfl, .inl rfl, h3.1, h3.2⟩)
  split at h1
  · rename_i e
    subst e
    cases h1
    match as, h2, h3 with
    | [a, b], _, h3 =>
      simp only [zipAll, looked, Bool.and_true, Bool.and_eq_true] at h3
      exact .inr (.inl ⟨_, a, b, rfl, .inr rfl, h3.1, h3.2⟩)
  split at h1
  · rename_i e
    subst e
    cases h1
    match as, h2, h3 with
    | [a], _, h3 =>
      simp only [zipAll, looked, Bool.and_true, Bool.and_eq_true] at h3
      exact .inr (.inr (.inl ⟨a, rfl, h3⟩))
  split at h1
  · rename_i e
    subst e
    cases h1
    match as, h2, h3 with
    | [a], _, h3 =>
      simp only [zipAll, looked, Bool.and_true, Bool.and_eq_true] at h3
      obtain ⟨ts, rfl, ht⟩ := hall a h3
      exact .inr (.inr (.inr ⟨_, ts, rfl, .inl rfl, ht⟩))
  split at h1
  · rename_i e
    subst e
    cases h1
    match as, h2, h3 with
    | [a], _, h3 =>
      simp only [zipAll, looked, Bool.and_true, Bool.and_eq_true] at h3
      obtain ⟨ts, rfl, ht⟩ := hall a h3
      exact .inr (.inr (.inr ⟨_, ts, rfl, .inr rfl, ht⟩))
  · cases h1
/-- either table of pieces -/
def PTab (ks : List Str) (vs : List D) : Prop := (ks = labelK ∧ vs = labelV) ∨ (ks = pieceK ∧ vs = pieceV)
theorem okL_mem {ks : List Str} {vs : List D} : ∀ {ps : List D}, okL ks vs ps = true → ∀ p ∈ ps, okP ks vs p = true
  | [], _, p, hp => by cases hp
  | q :: ps, h, p, hp => by
    rw [okL, Bool.and_eq_true] at h
    rcases List.mem_cons.mp hp with rfl | hp
    · exact h.1
    · exact okL_mem h.2 p hp
theorem okPs_inv {ks : List Str} {vs : List D} {d : D} (h : okPs ks vs d = true) : ∃ ps, d = .tup ps ∧ ∀ p ∈ ps, okP ks vs p = true := by
  cases d with
  | tup ps =>
    rw [okPs] at h
    exact ⟨ps, rfl, okL_mem h⟩
  | _ => simp [okPs] at h
/-- a piece's shape -/
def PShape (ks : List Str) (vs : List D) (d : D) : Prop := (∃ w as, d = .tup (.str w :: as) ∧ w ≠ "worth" ∧ w ≠ "place" ∧ w ≠ "if" ∧ w ≠ "only") ∨ (∃ a, d = .tup [.str "worth", a] ∧ isSumF FU a = true) ∨ (∃ a, d = .tup [.str "place", a] ∧ isWord a = true) ∨
  (∃ t b c, d = .tup [.str "if", t, .tup b, .tup c] ∧ isTestF FU t = true ∧ (∀ p ∈ b, okP ks vs p = true) ∧ ∀ p ∈ c, okP ks vs p = true) ∨ ∃ a b, d = .tup [.str "only", a, .tup b] ∧ ∀ p ∈ b, okP ks vs p = true
theorem okP_shape {ks : List Str} {vs : List D} (T : PTab ks vs) {d : D} (h : okP ks vs d = true) : PShape ks vs d := by
  have hf : formed ks vs lookU d = true := by
    cases z : formed ks vs lookU d with
    | true => rfl
    | false => rw [okP_not z] at h; cases h
  obtain ⟨s, as, ls, rfl, h1, h2, h3⟩ := formed_inv hf
  rw [okP_of hf h1] at h
  have key : ∀ {as : List D}, (decide (s = "text") || (decide (s = "end") || decide (s = "glue"))) = true → PShape ks vs (.tup (.str s :: as)) := fun {as} hs => by
    refine .inl ⟨s, as, rfl, ?_⟩
    simp only [Bool.or_eq_true, decide_eq_true_eq] at hs
    rcases hs with rfl | rfl | rfl <;> exact ⟨by decide, by decide, by decide, by decide⟩
  have h1' : dlook pieceK pieceV s = some (.tup ls) := by
    rcases T with ⟨rfl, rfl⟩ | ⟨rfl, rfl⟩
    · simp only [labelK, labelV, dlook] at h1
      simp only [pieceK, pieceV, labelK, labelV, dlook, List.cons_append, List.nil_append]
      repeat (first | (split at h1; · simp_all) | (simp_all; done))
    · exact h1
  simp only [pieceK, pieceV, labelK, labelV, dlook, List.cons_append, List.nil_append] at h1'
  split at h1'
  · rename_i e
    exact key (by simp [e])
  split at h1'
  · rename_i e
    subst e
    cases h1'
    match as, h2, h3 with
    | [a], _, h3 => exact .inr (.inl ⟨a, rfl, by simp only [zipAll, looked, Bool.and_true] at h3; exact h3⟩)
  split at h1'
  · rename_i e
    subst e
    cases h1'
    match as, h2, h3 with
    | [a], _, h3 => exact .inr (.inr (.inl ⟨a, rfl, by simp only [zipAll, looked, Bool.and_true] at h3; exact h3⟩))
  split at h1'
  · rename_i e
    exact key (by simp [e])
  split at h1'
  · rename_i e
    exact key (by simp [e])
  split at h1'
  · rename_i e
    subst e
    cases h1'
    match as, h2, h3, h with
    | [t, b, c], _, h3, h =>
      have ht : isTestF FU t = true := by
        simp only [zipAll, looked, Bool.and_true] at h3
        exact h3
      have hp : okPs ks vs b = true ∧ okPs ks vs c = true := by simpa [partsOf, zipD, partOf, D.isNon] using h
      obtain ⟨b', rfl, hb⟩ := okPs_inv hp.1
      obtain ⟨c', rfl, hc⟩ := okPs_inv hp.2
      exact .inr (.inr (.inr (.inl ⟨t, b', c', rfl, ht, hb, hc⟩)))
  split at h1'
  · rename_i e
    subst e
    cases h1'
    match as, h2, h3, h with
    | [a, b], _, h3, h =>
      have hp : okPs ks vs b = true := by simpa [partsOf, zipD, partOf, D.isNon] using h
      obtain ⟨b', rfl, hb⟩ := okPs_inv hp
      exact .inr (.inr (.inr (.inr ⟨a, b', rfl, hb⟩)))
  · cases h1'
/-! ### how many -/
theorem sumN_len : ∀ d : D, (sumN d).length ≤ d.sz
  | .tup [.str w, a] => by
    rw [sumN]
    split
    · simp
    · have := sz_pos (.tup [.str w, a])
      simpa using this
  | .tup [.str w, a, b] => by
    have h1 := sumN_len a
    have h2 := sumN_len b
    rw [sumN, List.length_append]
    simp only [D.sz, szs]
    omega
  | .tup [] => by simp [sumN]
  | .tup [.non] => by simp [sumN]
  | .tup (.non :: _ :: _) => by simp [sumN]
  | .tup (.bl _ :: _) => by simp [sumN]
  | .tup (.int _ :: _) => by simp [sumN]
  | .tup (.tup _ :: _) => by simp [sumN]
  | .tup (.lst _ :: _) => by simp [sumN]
  | .tup (.dic _ _ :: _) => by simp [sumN]
  | .tup (.fn _ :: _) => by simp [sumN]
  | .tup (.obj _ :: _) => by simp [sumN]
  | .tup [.str _] => by simp [sumN]
  | .tup (.str _ :: _ :: _ :: _ :: _) => by simp [sumN]
  | .non => by simp [sumN]
  | .bl _ => by simp [sumN]
  | .int _ => by simp [sumN]
  | .str _ => by simp [sumN]
  | .lst _ => by simp [sumN]
  | .dic _ _ => by simp [sumN]
  | .fn _ => by simp [sumN]
  | .obj _ => by simp [sumN]
end Fk
set_option Elab.async false
set_option linter.all false
set_option maxRecDepth 100000
set_option maxHeartbeats 4000000
/-! N1: the namings walked: sums, tests. -/
namespace Fk
open PySem PySem.Spec PyProof.Rows L2
section
variable {X : Cx} {g : Gx} {ρ : List SV} {pos : Pos} {x y z : Str} {p q r qq : Pos} {kk i j k : Nat} {d e : D} {ds : List D}
/-- x, *y = a tuple -/
theorem hg_star2 (hc : X.calm = true) (hN : X.N.Nodup) (hi : X.N[i]? = some x) (hj : X.N[j]? = some y) (hz : ds.length < 16384)
    (hx : Loc X.env.scope x := by first | exact Or.inl rfl | exact Or.inr rfl) (hfx : X.fn x = true ∨ X.env.scope.names.lookup x = some .local := by first | exact .inl rfl | exact .inr rfl)
    (hy : Loc X.env.scope y := by first | exact Or.inl rfl | exact Or.inr rfl) (hfy : X.fn y = true ∨ X.env.scope.names.lookup y = some .local := by first | exact .inl rfl | exact .inr rfl) :
    HG X g ρ [i, j] (.Tuple [.Name x p, .Starred (.Name y q) qq] kk pos) (.tup (d :: ds)) ((ρ.set i (.dat d)).set j (.dat (.lst ds))) :=
  hg_star (vs := [i] ++ ([j] ++ [])) (es' := [.Name x p, .Name y q]) (i := 1) (ds := d :: ds) hc (hgs_cons (hg_name hN hi hx hfx) (hgs_cons (hg_name hN hj hy hfy) hgs_nil rfl) rfl) (Nat.succ_le_succ (Nat.zero_le _)) (Nat.succ_le_of_lt hz) rfl rfl rfl
/-- x, y, *z = a tuple -/
theorem hg_star3 (hc : X.calm = true) (hN : X.N.Nodup) (hi : X.N[i]? = some x) (hj : X.N[j]? = some y) (hk : X.N[k]? = some z) (hz : ds.length + 1 < 16384)
    (hx : Loc X.env.scope x := by first | exact Or.inl rfl | exact Or.inr rfl) (hfx : X.fn x = true ∨ X.env.scope.names.lookup x = some .local := by first | exact .inl rfl | exact .inr rfl)
    (hy : Loc X.env.scope y := by first | exact Or.inl rfl | exact Or.inr rfl) (hfy : X.fn y = true ∨ X.env.scope.names.lookup y = some .local := by first | exact .inl rfl | exact .inr rfl)
    (hzz : Loc X.env.scope z := by first | exact Or.inl rfl | exact Or.inr rfl) (hfz : X.fn z = true ∨ X.env.scope.names.lookup z = some .local := by first | exact .inl rfl | exact .inr rfl) :
    HG X g ρ [i, j, k] (.Tuple [.Name x p, .Name y r, .Starred (.Name z q) qq] kk pos) (.tup (d :: e :: ds)) (((ρ.set i (.dat d)).set j (.dat e)).set k (.dat (.lst ds))) :=
  hg_star (vs := [i] ++ ([j] ++ ([k] ++ []))) (es' := [.Name x p, .Name y r, .Name z q]) (i := 2) (ds := d :: e :: ds) hc (hgs_cons (hg_name hN hi hx hfx) (hgs_cons (hg_name hN hj hy hfy) (hgs_cons (hg_name hN hk hzz hfz) hgs_nil rfl) rfl) rfl) (Nat.succ_le_succ (Nat.succ_le_succ (Nat.zero_le _))) (Nat.succ_le_of_lt hz) rfl rfl rfl
end
theorem le1 : 1 ≤ sizeLine := by decide
theorem le2 : 2 ≤ sizeLine := by decide
theorem le3 : 3 ≤ sizeLine := by decide
section
variable {P : Program} {w : World} {K : PySem.W.Frag} {mg : Str → Option Value} {base : Heap}
def aSumN (k : Nat) : Acc := fun _ n ds Q => ∃ d, ds = [d] ∧ isSumF k d = true ∧ d.sz ≤ MX ∧ Q n (.lst (sumN d))
theorem has_sumN (T : Top K mg) : ∀ k : Nat, Has P w K mg base (k + 1) "sum_namings" ["amount"] (aSumN k)
  | 0 => by
    have hN : (["amount", "word", "first", "rest"] : List Str).Nodup := by decide +kernel
    refine has_of (N := ["amount", "word", "first", "rest"]) T (i := 0) (d := d_sum_namings) rfl ⟨rfl, rfl, rfl, hN, rfl, by decide +kernel, by decide +kernel⟩ (by decide +kernel) rfl rfl rfl (fun _ _ _ _ _ _ us hl => match us, hl with | [_], _ => rfl) (fun g n ds Q h => by obtain ⟨_, rfl, _⟩ := h; rfl) fun cd Ar outer s H E hr g n ds Q h => ?_
    obtain ⟨d, rfl, hs, _⟩ := h
    cases hs
  | k + 1 => by
    have ih := has_sumN T k
    have hN : (["amount", "word", "first", "rest"] : List Str).Nodup := by decide +kernel
    refine has_of (N := ["amount", "word", "first", "rest"]) T (i := 0) (d := d_sum_namings) rfl ⟨rfl, rfl, rfl, hN, rfl, by decide +kernel, by decide +kernel⟩ (by decide +kernel) rfl rfl rfl (fun _ _ _ _ _ _ us hl => match us, hl with | [_], _ => rfl) (fun g n ds Q h => by obtain ⟨_, rfl, _⟩ := h; rfl) fun cd Ar outer s H E hr g n ds Q h => ?_
    obtain ⟨d, rfl, hs, hz, q⟩ := h
    obtain ⟨v, a, rest, rfl⟩ : ∃ v a rest, d = .tup (.str v :: a :: rest) := by
      rcases sum_inv hs with ⟨a, rfl⟩ | ⟨w, a, rfl, _⟩ | ⟨w, a, b, rfl, _⟩ <;> exact ⟨_, _, _, rfl⟩
    have hl : rest.length ≤ 1 := by
      rcases sum_inv hs with ⟨a, e⟩ | ⟨w, a, e, _⟩ | ⟨w, a, b, e, _⟩ <;> (injection e with e; injection e with _ e; injection e with _ e; rw [e]; simp)
    refine hss_cons (hs_asg (he_name (i := 0) rfl rfl ⟨_, _, hg_star3 (i := 1) (j := 2) (k := 3) rfl hN rfl rfl rfl (by omega), ?_⟩))
    refine hss_cons (hs_ifP (decide (v = "num")) (ht_cmp op_eq (he_name (i := 1) rfl rfl (he_str (rd_eqS ⟨_, rfl, rfl, rfl⟩)))) (fun e => hss_cons (hs_ret (he_lst (hf_lst (ha_nil ⟨by decide, ?_⟩))))) fun e => hss_nil ?_)
    · have e := of_decide_eq_true e
      subst e
      rcases sum_inv hs with ⟨a', e⟩ | ⟨w, a', e, hw, _⟩ | ⟨w, a', b, e, hw, _⟩
      · cases e
        show Q n _
        simpa [sumN] using q
      · cases e
        rcases hw with hw | hw <;> exact absurd hw (by decide)
      · cases e
        rcases hw with hw | hw <;> exact absurd hw (by decide)
    · have e0 := of_decide_eq_false e
      refine hss_cons (hs_ifP (decide (v ∈ (["of", "seen"] : List Str))) (ht_cmp op_in_seq (he_name (i := 1) rfl rfl (he_tup (ha_cons (he_str (ha_cons (he_str (ha_nil ⟨by decide, rd_inT (ss := ["of", "seen"]) ⟨_, rfl, rfl, rfl⟩⟩))))))) rfl) (fun e => ?_) fun e => hss_nil ?_)
      · have e := of_decide_eq_true e
        rcases sum_inv hs with ⟨a', e1⟩ | ⟨w, a', e1, hw, _⟩ | ⟨w, a', b, e1, hw, _⟩
        · cases e1
          exact absurd rfl e0
        · cases e1
          refine hss_cons (hs_ret (he_lst (hf_lst (ha_cons (he_tup (ha_cons (he_if (ht_cmp op_eq (he_name (i := 1) rfl rfl (he_str (rd_eqS ⟨_, rfl, fun e2 => ?_, fun e2 => ?_⟩)))))))))))
          · refine he_str (ha_cons (he_name (i := 2) rfl rfl (ha_nil ⟨le2, ha_nil ⟨le1, ?_⟩⟩)))
            have e2 := of_decide_eq_true e2
            subst e2
            have e9 : sumN (.tup [.str "of", a]) = [nmg "number" a] := rfl
            rw [e9] at q
            exact q
          · refine he_name (i := 1) rfl rfl (ha_cons (he_name (i := 2) rfl rfl (ha_nil ⟨le2, ha_nil ⟨le1, ?_⟩⟩)))
            have e2 := of_decide_eq_false e2
            show Q n _
            simpa [sumN, nmg, e0, e2] using q
        · cases e1
          rcases hw with rfl | rfl <;> exact absurd e (by decide)
      · have e := of_decide_eq_false e
        rcases sum_inv hs with ⟨a', e1⟩ | ⟨w, a', e1, hw, _⟩ | ⟨w, a', b, e1, hw, h1, h2⟩
        · cases e1
          exact absurd rfl e0
        · cases e1
          rcases hw with rfl | rfl <;> exact absurd (by simp) e
        · cases e1
          have z1 := sz_in hz a (by simp)
          have z2 := sz_in hz b (by simp)
          have l1 := sumN_len a
          have l2 := sumN_len b
          refine hss_cons (hs_ret (he_lst (hf_add (he_call ih hr (ha_cons (he_name (i := 2) rfl rfl (ha_nil ⟨a, rfl, h1, z1, he_call ih hr (ha_cons (he_ixL (he_name (i := 3) rfl rfl (he_int ⟨_, _, b, rfl, rfl, atI_0, ha_nil ⟨b, rfl, h2, z2, _, _, rfl, rfl, ?_, ?_⟩⟩))))⟩)))))))
          · unfold MX at z1 z2
            unfold sizeLine
            omega
          · show Q n _
            simpa [sumN] using q
def aTestN (k : Nat) : Acc := fun _ n ds Q => ∃ d, ds = [d] ∧ isTestF k d = true ∧ d.sz ≤ MX ∧ Q n (.lst (testN d))
theorem testNs_flat : ∀ ts : List D, testNs ts = ts.flatMap testN
  | [] => by simp [testNs]
  | t :: ts => by simp [testNs, testNs_flat ts]
theorem testN_not (a : D) : testN (.tup [.str "not", a]) = testN a := by cases a <;> simp [testN]
theorem testN_len : ∀ (k : Nat) (d : D), isTestF k d = true → (testN d).length ≤ d.sz
  | 0, d, h => by cases h
  | k + 1, d, h => by
    rcases test_inv h with ⟨a, s, b, rfl, _⟩ | ⟨w, a, b, rfl, _⟩ | ⟨a, rfl, ha⟩ | ⟨w, ts, rfl, hw, ht⟩
    · have h1 := sumN_len a
      have h2 := sumN_len b
      rw [testN, List.length_append]
      simp only [D.sz, szs]
      omega
    · rw [testN]
      have h1 := sz_pos a
      have h2 := sz_pos b
      simp only [D.sz, szs, List.length_cons, List.length_nil]
      omega
    · have h1 := testN_len k a ha
      have e := testN_not a
      rw [e]
      simp only [D.sz, szs]
      omega
    · have e : testN (.tup [.str w, .tup ts]) = testNs ts := by
        rw [testN]
        rcases hw with rfl | rfl <;> rfl
      rw [e]
      have key : ∀ us : List D, (∀ t ∈ us, isTestF k t = true) → (testNs us).length ≤ szs us := by
        intro us
        induction us with
        | nil => intro _; simp [testNs, szs]
        | cons t us ih =>
          intro hu
          have h1 := testN_len k t (hu t List.mem_cons_self)
          have h2 := ih fun t ht => hu t (List.mem_cons_of_mem _ ht)
          rw [testNs, List.length_append, szs]
          omega
      have := key ts ht
      simp only [D.sz, szs]
      omega
theorem flat_len {F : D → List D} : ∀ {us : List D}, (∀ t ∈ us, (F t).length ≤ t.sz) → (us.flatMap F).length ≤ szs us
  | [], _ => by simp [szs]
  | t :: us, h => by
    have h1 := h t List.mem_cons_self
    have h2 := flat_len (F := F) (us := us) fun t ht => h t (List.mem_cons_of_mem _ ht)
    rw [List.flatMap_cons, List.length_append, szs]
    omega
theorem has_testN (T : Top K mg) : ∀ k : Nat, Has P w K mg base (k + 2) "test_namings" ["test"] (aTestN k)
  | 0 => by
    have hN : (["test", "word", "first", "rest", "one", "naming"] : List Str).Nodup := by decide +kernel
    refine has_of (N := ["test", "word", "first", "rest", "one", "naming"]) T (i := 1) (d := d_test_namings) rfl ⟨rfl, rfl, rfl, hN, rfl, by decide +kernel, by decide +kernel⟩ (by decide +kernel) rfl rfl rfl (fun _ _ _ _ _ _ us hl => match us, hl with | [_], _ => rfl) (fun g n ds Q h => by obtain ⟨_, rfl, _⟩ := h; rfl) fun cd Ar outer s H E hr g n ds Q h => ?_
    obtain ⟨d, rfl, hs, _⟩ := h
    cases hs
  | k + 1 => by
    have ih := has_testN T k
    have hN : (["test", "word", "first", "rest", "one", "naming"] : List Str).Nodup := by decide +kernel
    refine has_of (N := ["test", "word", "first", "rest", "one", "naming"]) T (i := 1) (d := d_test_namings) rfl ⟨rfl, rfl, rfl, hN, rfl, by decide +kernel, by decide +kernel⟩ (by decide +kernel) rfl rfl rfl (fun _ _ _ _ _ _ us hl => match us, hl with | [_], _ => rfl) (fun g n ds Q h => by obtain ⟨_, rfl, _⟩ := h; rfl) fun cd Ar outer s H E hr g n ds Q h => ?_
    obtain ⟨d, rfl, hs, hz, q⟩ := h
    have hS := has_sumN (P := P) (w := w) (base := base) T k
    rcases test_inv hs with ⟨a, s, b, rfl, h1, h2⟩ | ⟨v, a, b, rfl, hv, _⟩ | ⟨a, rfl, ha⟩ | ⟨v, ts, rfl, hv, ht⟩
    · have z1 := sz_in hz a (by simp)
      have z2 := sz_in hz b (by simp)
      have l1 := sumN_len a
      have l2 := sumN_len b
      refine hss_cons (hs_asg (he_name (i := 0) rfl rfl ⟨_, _, hg_star3 (i := 1) (j := 2) (k := 3) rfl hN rfl rfl rfl (by simp), ?_⟩))
      refine hss_cons (hs_ifP true (ht_cmp op_eq (he_name (i := 1) rfl rfl (he_str (rd_eqS ⟨_, rfl, rfl, rfl⟩)))) (fun _ => ?_) fun e => by cases e)
      refine hss_cons (hs_ret (he_lst (hf_add (he_call hS (hr.mono (by omega)) (ha_cons (he_name (i := 2) rfl rfl (ha_nil ⟨a, rfl, h1, z1, he_call hS (hr.mono (by omega)) (ha_cons (he_ixL (he_name (i := 3) rfl rfl (he_int ⟨_, _, b, rfl, rfl, atI_nat (i := 1) rfl, ha_nil ⟨b, rfl, h2, z2, _, _, rfl, rfl, ?_, ?_⟩⟩))))⟩)))))))
      · unfold MX at z1 z2
        unfold sizeLine
        omega
      · have e9 : testN (.tup [.str "is", a, s, b]) = sumN a ++ sumN b := by rw [testN]
        rw [e9] at q
        exact q
    · refine hss_cons (hs_asg (he_name (i := 0) rfl rfl ⟨_, _, hg_star3 (i := 1) (j := 2) (k := 3) rfl hN rfl rfl rfl (by simp), ?_⟩))
      have n1 : decide (v = "is") = false := by rcases hv with rfl | rfl <;> decide
      have n2 : decide (v = "not") = false := by rcases hv with rfl | rfl <;> decide
      have n3 : decide (v ∈ (["all", "any"] : List Str)) = false := by rcases hv with rfl | rfl <;> decide
      refine hss_cons (hs_ifP false (ht_cmp op_eq (he_name (i := 1) rfl rfl (he_str (rd_eqS ⟨_, rfl, rfl, n1⟩)))) (fun e => by cases e) fun _ => hss_nil ?_)
      refine hss_cons (hs_ifP false (ht_cmp op_eq (he_name (i := 1) rfl rfl (he_str (rd_eqS ⟨_, rfl, rfl, n2⟩)))) (fun e => by cases e) fun _ => hss_nil ?_)
      refine hss_cons (hs_ifP false (ht_cmp op_in_seq (he_name (i := 1) rfl rfl (he_tup (ha_cons (he_str (ha_cons (he_str (ha_nil ⟨le2, rd_inT (ss := ["all", "any"]) ⟨_, rfl, rfl, n3⟩⟩))))))) rfl) (fun e => by cases e) fun _ => hss_nil ?_)
      have e9 : testN (.tup [.str v, a, b]) = [nmg "figure" a, nmg (if v = "at" then "place" else "figure") b] := by rw [testN]
      rw [e9] at q
      refine hss_cons (hs_ret (he_lst (hf_lst (ha_cons (he_tup (ha_cons (he_str (ha_cons (he_name (i := 2) rfl rfl (ha_nil ⟨le2, ha_cons (he_tup (ha_cons (he_if (ht_cmp op_eq (he_name (i := 1) rfl rfl (he_str (rd_eqS ⟨_, rfl, fun e2 => ?_, fun e2 => ?_⟩)))))))⟩))))))))))
      · rw [if_pos (of_decide_eq_true e2)] at q
        exact he_str (ha_cons (he_ixL (he_name (i := 3) rfl rfl (he_int ⟨_, _, b, rfl, rfl, atI_0, ha_nil ⟨le2, ha_nil ⟨le2, q⟩⟩⟩))))
      · rw [if_neg (of_decide_eq_false e2)] at q
        exact he_str (ha_cons (he_ixL (he_name (i := 3) rfl rfl (he_int ⟨_, _, b, rfl, rfl, atI_0, ha_nil ⟨le2, ha_nil ⟨le2, q⟩⟩⟩))))
    · have z1 := sz_in hz a (by simp)
      refine hss_cons (hs_asg (he_name (i := 0) rfl rfl ⟨_, _, hg_star3 (i := 1) (j := 2) (k := 3) rfl hN rfl rfl rfl (by simp), ?_⟩))
      refine hss_cons (hs_ifP false (ht_cmp op_eq (he_name (i := 1) rfl rfl (he_str (rd_eqS ⟨_, rfl, rfl, by decide⟩)))) (fun e => by cases e) fun _ => hss_nil ?_)
      refine hss_cons (hs_ifP true (ht_cmp op_eq (he_name (i := 1) rfl rfl (he_str (rd_eqS ⟨_, rfl, rfl, by decide⟩)))) (fun _ => ?_) fun e => by cases e)
      have e9 := testN_not a
      rw [e9] at q
      exact hss_cons (hs_ret (he_call ih hr (ha_cons (he_name (i := 2) rfl rfl (ha_nil ⟨a, rfl, ha, z1, q⟩)))))
    · have z1 := sz_in hz (.tup ts) (by simp)
      have n1 : decide (v = "is") = false := by rcases hv with rfl | rfl <;> decide
      have n2 : decide (v = "not") = false := by rcases hv with rfl | rfl <;> decide
      have n3 : decide (v ∈ (["all", "any"] : List Str)) = true := by rcases hv with rfl | rfl <;> decide
      refine hss_cons (hs_asg (he_name (i := 0) rfl rfl ⟨_, _, hg_star3 (i := 1) (j := 2) (k := 3) rfl hN rfl rfl rfl (by simp), ?_⟩))
      refine hss_cons (hs_ifP false (ht_cmp op_eq (he_name (i := 1) rfl rfl (he_str (rd_eqS ⟨_, rfl, rfl, n1⟩)))) (fun e => by cases e) fun _ => hss_nil ?_)
      refine hss_cons (hs_ifP false (ht_cmp op_eq (he_name (i := 1) rfl rfl (he_str (rd_eqS ⟨_, rfl, rfl, n2⟩)))) (fun e => by cases e) fun _ => hss_nil ?_)
      refine hss_cons (hs_ifP true (ht_cmp op_in_seq (he_name (i := 1) rfl rfl (he_tup (ha_cons (he_str (ha_cons (he_str (ha_nil ⟨le2, rd_inT (ss := ["all", "any"]) ⟨_, rfl, rfl, n3⟩⟩))))))) rfl) (fun _ => ?_) fun e => by cases e)
      have e9 : testN (.tup [.str v, .tup ts]) = ts.flatMap testN := by
        rw [testN, if_neg (of_decide_eq_false n2), ← testNs_flat]
      rw [e9] at q
      have hl := flat_len (F := testN) (us := ts) fun t h => testN_len k t (ht t h)
      refine hss_cons (hs_ret (he_lst (hf_flat testN (own := [("one", 4), ("naming", 5)]) (vs0 := [4]) (vs1 := [5]) rfl hN ?_ (own2 rfl rfl) (by simp) (by simp) (hi_tup (he_name (i := 2) rfl rfl ⟨ts, rfl, ?_, fun d hd => ?_, q⟩)))))
      · exact (show BlkOk (["test", "word", "first", "rest", "one", "naming"] : List Str) d_test_namings.scope _ _ from ⟨rfl, by decide +kernel, by decide +kernel, by decide +kernel, by decide +kernel⟩)
      · rw [D.sz] at z1
        unfold MX at z1
        unfold sizeLine
        omega
      · refine ⟨_, fun s H C cl fp => hg_name hN rfl, fun i hi x hx => ?_, fun s H C cl fp => hi_list (he_call ih hr (ha_cons (he_name (i := 4) rfl rfl (ha_nil ⟨d, rfl, ht d hd, sz_in z1 d hd, _, rfl, rfl, rfl⟩)))), fun e he => ⟨_, fun s H C cl fp => hg_name hN rfl, fun s H C cl fp => he_name (i := 5) rfl rfl ⟨rfl, rfl⟩⟩⟩
        rw [List.mem_singleton.mp hi] at hx
        cases hx
        rfl
end
end Fk
set_option Elab.async false
set_option linter.all false
set_option maxRecDepth 100000
set_option maxHeartbeats 4000000
/-! N2: the namings walked: pieces. -/
namespace Fk
open PySem PySem.Spec PyProof.Rows L2
theorem szs_reverse : ∀ xs : List D, szs xs.reverse = szs xs
  | [] => rfl
  | x :: xs => by
    rw [List.reverse_cons, szs_append, szs_reverse xs, szs, szs, szs]
    omega
theorem within_fit {k : Nat} {p q : D} (hf : p.fit (k + 1) = true) (hq : q ∈ within p) : q.fit k = true := by
  have hit : ∀ {b : D}, b.fit k = true → q ∈ items b → q.fit k = true := fun {b} hb h => by
    cases b with
    | tup es =>
      obtain ⟨j, e, hj⟩ := fit_tup hb
      exact fit_mono (by omega) (hj q h)
    | _ => cases h
  unfold within at hq
  split at hq
  · rename_i w t b c
    obtain ⟨j, e, hj⟩ := fit_tup hf
    have e' : k = j := by omega
    subst e'
    split at hq
    · rcases List.mem_append.mp hq with h | h
      · exact hit (hj b (by simp)) h
      · exact hit (hj c (by simp)) h
    · cases hq
  · rename_i w t b
    obtain ⟨j, e, hj⟩ := fit_tup hf
    have e' : k = j := by omega
    subst e'
    split at hq
    · exact hit (hj b (by simp)) hq
    · cases hq
  · cases hq
theorem flatMap_congr' {F G : D → List D} : ∀ {l : List D}, (∀ q ∈ l, F q = G q) → l.flatMap F = l.flatMap G
  | [], _ => rfl
  | x :: xs, h => by rw [List.flatMap_cons, List.flatMap_cons, h x List.mem_cons_self, flatMap_congr' fun q hq => h q (List.mem_cons_of_mem _ hq)]
theorem pieceN_fix : ∀ {k j : Nat} {p : D}, k ≤ j → p.fit k = true → pieceN j p = pieceN k p
  | 0, _, p, _, h => by rw [D.fit] at h; cases h
  | k + 1, j, p, hj, h => by
    obtain ⟨j, rfl⟩ : ∃ i, j = i + 1 := ⟨j - 1, by omega⟩
    rw [pieceN, pieceN]
    congr 1
    refine flatMap_congr' fun q hq => ?_
    exact pieceN_fix (by omega) (within_fit h hq)
theorem pieceN_go {p : D} (hf : p.fit FU = true) : pieceN FU p = ownN p ++ (within p).flatMap (pieceN FU) := by
  have e : pieceN (29 + 1) p = ownN p ++ (within p).flatMap (pieceN 29) := by rw [pieceN]
  have e2 : (within p).flatMap (pieceN 29) = (within p).flatMap (pieceN FU) := flatMap_congr' fun q hq => (pieceN_fix (j := FU) (by decide) (within_fit (k := 29) hf hq)).symm
  rw [← e2]
  exact e
theorem piece_sz {ks : List Str} {vs : List D} {p : D} (h : PShape ks vs p) : (ownN p).length + szs (within p) < p.sz := by
  rcases h with ⟨w, as, rfl, h1, h2, h3, h4⟩ | ⟨a, rfl, _⟩ | ⟨a, rfl, _⟩ | ⟨t, b, c, rfl, ht, _⟩ | ⟨a, b, rfl, _⟩
  · have e1 : ownN (.tup (.str w :: as)) = [] := by
      cases as with
      | nil => rfl
      | cons a as => rw [ownN, if_neg h1, if_neg h2, if_neg h3]
    have e2 : within (.tup (.str w :: as)) = [] := by
      unfold within
      split
      · rename_i e
        injection e with e
        injection e with e _
        injection e with e
        subst e
        rw [if_neg h3]
      · rename_i e
        injection e with e
        injection e with e _
        injection e with e
        subst e
        rw [if_neg h4]
      · rfl
    rw [e1, e2]
    simp [szs, D.sz]
  · have e1 : ownN (.tup [.str "worth", a]) = sumN a := rfl
    have e2 : within (.tup [.str "worth", a]) = [] := rfl
    have := sumN_len a
    rw [e1, e2]
    simp only [D.sz, szs]
    omega
  · have e1 : ownN (.tup [.str "place", a]) = [nmg "figure" a] := rfl
    have e2 : within (.tup [.str "place", a]) = [] := rfl
    rw [e1, e2]
    simp only [D.sz, szs, List.length_singleton]
    omega
  · have e1 : ownN (.tup [.str "if", t, .tup b, .tup c]) = testN t := rfl
    have e2 : within (.tup [.str "if", t, .tup b, .tup c]) = b ++ c := rfl
    have := testN_len FU t ht
    rw [e1, e2, szs_append]
    simp only [D.sz, szs]
    omega
  · have e1 : ownN (.tup [.str "only", a, .tup b]) = [] := rfl
    have e2 : within (.tup [.str "only", a, .tup b]) = b := rfl
    rw [e1, e2]
    simp only [D.sz, szs, List.length_nil]
    omega
theorem within_ok {ks : List Str} {vs : List D} {p : D} (h : PShape ks vs p) : ∀ q ∈ within p, okP ks vs q = true := by
  intro q hq
  rcases h with ⟨w, as, rfl, h1, h2, h3, h4⟩ | ⟨a, rfl, _⟩ | ⟨a, rfl, _⟩ | ⟨t, b, c, rfl, ht, hb, hc⟩ | ⟨a, b, rfl, hb⟩
  · exfalso
    have e2 : within (.tup (.str w :: as)) = [] := by
      unfold within
      split
      · rename_i e
        injection e with e
        injection e with e _
        injection e with e
        subst e
        rw [if_neg h3]
      · rename_i e
        injection e with e
        injection e with e _
        injection e with e
        subst e
        rw [if_neg h4]
      · rfl
    rw [e2] at hq
    cases hq
  · cases hq
  · cases hq
  · have e2 : within (.tup [.str "if", t, .tup b, .tup c]) = b ++ c := rfl
    rw [e2] at hq
    rcases List.mem_append.mp hq with h | h
    · exact hb q h
    · exact hc q h
  · exact hb q hq
section
variable {P : Program} {w : World} {K : PySem.W.Frag} {mg : Str → Option Value} {base : Heap}
def aOwnN : Acc := fun _ n ds Q => ∃ d ks vs, ds = [d] ∧ PShape ks vs d ∧ d.fit FU = true ∧ d.sz ≤ MX ∧ Q n (.lst (ownN d))
def LN : Nat := FU + 2
theorem has_ownN (T : Top K mg) : Has P w K mg base (LN + 1) "own_namings" ["piece"] aOwnN := by
  have hS : Has P w K mg base LN "sum_namings" ["amount"] (aSumN FU) := (has_sumN T FU).imp (by decide) fun _ _ _ _ z => z
  have hT : Has P w K mg base LN "test_namings" ["test"] (aTestN FU) := has_testN T FU
  have hN : (["piece", "word", "rest"] : List Str).Nodup := by decide +kernel
  refine has_of (N := ["piece", "word", "rest"]) T (i := 2) (d := d_own_namings) rfl ⟨rfl, rfl, rfl, hN, rfl, by decide +kernel, by decide +kernel⟩ (by decide +kernel) rfl rfl rfl (fun _ _ _ _ _ _ us hl => match us, hl with | [_], _ => rfl) (fun g n ds Q h => by obtain ⟨_, _, _, rfl, _⟩ := h; rfl) fun cd Ar outer s H E hr g n ds Q h => ?_
  obtain ⟨d, ks, vs, rfl, sh, hf, hz, q⟩ := h
  have hlen : ∀ {es : List D}, d = .tup es → es.length ≤ 1000 := fun {es} e => by subst e; exact fit_len hf
  rcases sh with ⟨v, as, rfl, h1, h2, h3, h4⟩ | ⟨a, rfl, ha⟩ | ⟨a, rfl, ha⟩ | ⟨t, b, c, rfl, ht, _⟩ | ⟨a, b, rfl, _⟩
  · have hl := hlen rfl
    rw [List.length_cons] at hl
    refine hss_cons (hs_asg (he_name (i := 0) rfl rfl ⟨_, _, hg_star2 (i := 1) (j := 2) rfl hN rfl rfl (by omega), ?_⟩))
    refine hss_cons (hs_ifP false (ht_cmp op_eq (he_name (i := 1) rfl rfl (he_str (rd_eqS ⟨_, rfl, rfl, decide_eq_false h1⟩)))) (fun e => by cases e) fun _ => hss_nil ?_)
    refine hss_cons (hs_ifP false (ht_cmp op_eq (he_name (i := 1) rfl rfl (he_str (rd_eqS ⟨_, rfl, rfl, decide_eq_false h2⟩)))) (fun e => by cases e) fun _ => hss_nil ?_)
    refine hss_cons (hs_ret (he_if (ht_cmp op_eq (he_name (i := 1) rfl rfl (he_str (rd_eqS ⟨_, rfl, fun e => absurd (of_decide_eq_true e) h3, fun _ => he_lst (hf_lst (ha_nil ⟨by decide, ?_⟩))⟩))))))
    have e1 : ownN (.tup (.str v :: as)) = [] := by
      cases as with
      | nil => rfl
      | cons a as => rw [ownN, if_neg h1, if_neg h2, if_neg h3]
    rw [e1] at q
    exact q
  · have z1 := sz_in hz a (by simp)
    refine hss_cons (hs_asg (he_name (i := 0) rfl rfl ⟨_, _, hg_star2 (i := 1) (j := 2) rfl hN rfl rfl (by simp), ?_⟩))
    refine hss_cons (hs_ifP true (ht_cmp op_eq (he_name (i := 1) rfl rfl (he_str (rd_eqS ⟨_, rfl, rfl, by decide⟩)))) (fun _ => ?_) fun e => by cases e)
    exact hss_cons (hs_ret (he_call hS hr (ha_cons (he_ixL (he_name (i := 2) rfl rfl (he_int ⟨_, _, a, rfl, rfl, atI_0, ha_nil ⟨a, rfl, ha, z1, q⟩⟩))))))
  · refine hss_cons (hs_asg (he_name (i := 0) rfl rfl ⟨_, _, hg_star2 (i := 1) (j := 2) rfl hN rfl rfl (by simp), ?_⟩))
    refine hss_cons (hs_ifP false (ht_cmp op_eq (he_name (i := 1) rfl rfl (he_str (rd_eqS ⟨_, rfl, rfl, by decide⟩)))) (fun e => by cases e) fun _ => hss_nil ?_)
    refine hss_cons (hs_ifP true (ht_cmp op_eq (he_name (i := 1) rfl rfl (he_str (rd_eqS ⟨_, rfl, rfl, by decide⟩)))) (fun _ => ?_) fun e => by cases e)
    exact hss_cons (hs_ret (he_lst (hf_lst (ha_cons (he_tup (ha_cons (he_str (ha_cons (he_ixL (he_name (i := 2) rfl rfl (he_int ⟨_, _, a, rfl, rfl, atI_0, ha_nil ⟨le2, ha_nil ⟨le1, q⟩⟩⟩)))))))))))
  · have z1 := sz_in hz t (by simp)
    refine hss_cons (hs_asg (he_name (i := 0) rfl rfl ⟨_, _, hg_star2 (i := 1) (j := 2) rfl hN rfl rfl (by simp), ?_⟩))
    refine hss_cons (hs_ifP false (ht_cmp op_eq (he_name (i := 1) rfl rfl (he_str (rd_eqS ⟨_, rfl, rfl, by decide⟩)))) (fun e => by cases e) fun _ => hss_nil ?_)
    refine hss_cons (hs_ifP false (ht_cmp op_eq (he_name (i := 1) rfl rfl (he_str (rd_eqS ⟨_, rfl, rfl, by decide⟩)))) (fun e => by cases e) fun _ => hss_nil ?_)
    exact hss_cons (hs_ret (he_if (ht_cmp op_eq (he_name (i := 1) rfl rfl (he_str (rd_eqS ⟨_, rfl, fun _ => he_call hT hr (ha_cons (he_ixL (he_name (i := 2) rfl rfl (he_int ⟨_, _, t, rfl, rfl, atI_0, ha_nil ⟨t, rfl, ht, z1, q⟩⟩)))), fun e => by cases e⟩))))))
  · refine hss_cons (hs_asg (he_name (i := 0) rfl rfl ⟨_, _, hg_star2 (i := 1) (j := 2) rfl hN rfl rfl (by simp), ?_⟩))
    refine hss_cons (hs_ifP false (ht_cmp op_eq (he_name (i := 1) rfl rfl (he_str (rd_eqS ⟨_, rfl, rfl, by decide⟩)))) (fun e => by cases e) fun _ => hss_nil ?_)
    refine hss_cons (hs_ifP false (ht_cmp op_eq (he_name (i := 1) rfl rfl (he_str (rd_eqS ⟨_, rfl, rfl, by decide⟩)))) (fun e => by cases e) fun _ => hss_nil ?_)
    refine hss_cons (hs_ret (he_if (ht_cmp op_eq (he_name (i := 1) rfl rfl (he_str (rd_eqS ⟨_, rfl, fun e => (by cases e), fun _ => he_lst (hf_lst (ha_nil ⟨by decide, q⟩))⟩))))))
def aWithin : Acc := fun _ n ds Q => ∃ d ks vs, ds = [d] ∧ PShape ks vs d ∧ d.fit FU = true ∧ d.sz ≤ MX ∧ Q n (.lst (within d))
theorem has_within (T : Top K mg) : Has P w K mg base 1 "pieces_within" ["piece"] aWithin := by
  have hN : (["piece", "word", "rest"] : List Str).Nodup := by decide +kernel
  refine has_of (N := ["piece", "word", "rest"]) T (i := 3) (d := d_pieces_within) rfl ⟨rfl, rfl, rfl, hN, rfl, by decide +kernel, by decide +kernel⟩ (by decide +kernel) rfl rfl rfl (fun _ _ _ _ _ _ us hl => match us, hl with | [_], _ => rfl) (fun g n ds Q h => by obtain ⟨_, _, _, rfl, _⟩ := h; rfl) fun cd Ar outer s H E hr g n ds Q h => ?_
  obtain ⟨d, ks, vs, rfl, sh, hf, hz, q⟩ := h
  have hlen : ∀ {es : List D}, d = .tup es → es.length ≤ 1000 := fun {es} e => by subst e; exact fit_len hf
  have none_ : ∀ {v : Str} {as : List D}, d = .tup (.str v :: as) → v ≠ "if" → v ≠ "only" → within d = [] := fun {v as} e h1 h2 => by
    subst e
    unfold within
    split
    · rename_i e
      injection e with e
      injection e with e _
      injection e with e
      subst e
      rw [if_neg h1]
    · rename_i e
      injection e with e
      injection e with e _
      injection e with e
      subst e
      rw [if_neg h2]
    · rfl
  have three : (∃ v as, d = .tup (.str v :: as) ∧ v ≠ "if" ∧ v ≠ "only") ∨ (∃ t b c, d = .tup [.str "if", t, .tup b, .tup c]) ∨ ∃ a b, d = .tup [.str "only", a, .tup b] := by
    rcases sh with ⟨v, as, e, h1, h2, h3, h4⟩ | ⟨a, e, ha⟩ | ⟨a, e, ha⟩ | ⟨t, b, c, e, ht, _⟩ | ⟨a, b, e, _⟩
    · exact .inl ⟨v, as, e, h3, h4⟩
    · exact .inl ⟨_, _, e, by decide, by decide⟩
    · exact .inl ⟨_, _, e, by decide, by decide⟩
    · exact .inr (.inl ⟨t, b, c, e⟩)
    · exact .inr (.inr ⟨a, b, e⟩)
  rcases three with ⟨v, as, rfl, h1, h2⟩ | ⟨t, b, c, rfl⟩ | ⟨a, b, rfl⟩
  · rw [none_ rfl h1 h2] at q
    have hl := hlen rfl
    rw [List.length_cons] at hl
    refine hss_cons (hs_asg (he_name (i := 0) rfl rfl ⟨_, _, hg_star2 (i := 1) (j := 2) rfl hN rfl rfl (by omega), ?_⟩))
    refine hss_cons (hs_ifP false (ht_cmp op_eq (he_name (i := 1) rfl rfl (he_str (rd_eqS ⟨_, rfl, rfl, decide_eq_false h1⟩)))) (fun e => by cases e) fun _ => hss_nil ?_)
    exact hss_cons (hs_ret (he_if (ht_cmp op_eq (he_name (i := 1) rfl rfl (he_str (rd_eqS ⟨_, rfl, fun e => absurd (of_decide_eq_true e) h2, fun _ => he_lst (hf_lst (ha_nil ⟨by decide, q⟩))⟩))))))
  · have z1 := tupsz (sz_in hz (.tup b) (by simp))
    have z2 := tupsz (sz_in hz (.tup c) (by simp))
    refine hss_cons (hs_asg (he_name (i := 0) rfl rfl ⟨_, _, hg_star2 (i := 1) (j := 2) rfl hN rfl rfl (by simp), ?_⟩))
    refine hss_cons (hs_ifP true (ht_cmp op_eq (he_name (i := 1) rfl rfl (he_str (rd_eqS ⟨_, rfl, rfl, by decide⟩)))) (fun _ => ?_) fun e => by cases e)
    refine hss_cons (hs_ret (he_lst (hf_add (he_lst (hf_list T.f_list (he_ixL (he_name (i := 2) rfl rfl (he_int ⟨_, _, .tup b, rfl, rfl, atI_nat (i := 1) rfl, b, .inr rfl, he_lst (hf_list T.f_list (he_ixL (he_name (i := 2) rfl rfl (he_int ⟨_, _, .tup c, rfl, rfl, atI_nat (i := 2) rfl, c, .inr rfl, _, _, rfl, rfl, ?_, q⟩))))⟩))))))))
    unfold sizeLine
    omega
  · refine hss_cons (hs_asg (he_name (i := 0) rfl rfl ⟨_, _, hg_star2 (i := 1) (j := 2) rfl hN rfl rfl (by simp), ?_⟩))
    refine hss_cons (hs_ifP false (ht_cmp op_eq (he_name (i := 1) rfl rfl (he_str (rd_eqS ⟨_, rfl, rfl, by decide⟩)))) (fun e => by cases e) fun _ => hss_nil ?_)
    exact hss_cons (hs_ret (he_if (ht_cmp op_eq (he_name (i := 1) rfl rfl (he_str (rd_eqS ⟨_, rfl, fun _ => he_lst (hf_list T.f_list (he_ixL (he_name (i := 2) rfl rfl (he_int ⟨_, _, .tup b, rfl, rfl, atI_nat (i := 1) rfl, b, .inr rfl, q⟩)))), fun e => by cases e⟩))))))
end
end Fk
set_option Elab.async false
set_option linter.all false
set_option maxRecDepth 100000
set_option maxHeartbeats 4000000
/-! N3: the namings walked: lists of pieces, deeds, choices, scenes. -/
namespace Fk
open PySem PySem.Spec PyProof.Rows L2
theorem deed_inv {d : D} (h : isDeed d = true) : (∃ a s, d = .tup [.str "set", a, s] ∧ isSumF FU s = true ∧ isWord a = true) ∨ (∃ a, d = .tup [.str "draw", a] ∧ isWord a = true) ∨ (∃ w a b, d = .tup [.str w, a, b] ∧ (w = "go" ∨ w = "put" ∨ w = "join") ∧ isWord a = true ∧ isWord b = true) ∨ ∃ a, d = .tup [.str "leave", a] ∧ isWord a = true := by
  obtain ⟨s, as, ls, rfl, h1, h2, h3⟩ := formed_inv h
  simp only [deedK, deedV, dlook] at h1
  split at h1
  · rename_i e
    subst e
    cases h1
    match as, h2, h3 with
    | [a, s], _, h3 =>
      simp only [zipAll, looked, Bool.and_true, Bool.and_eq_true] at h3
      exact .inl ⟨a, s, rfl, h3.2, h3.1⟩
  split at h1
  · rename_i e
    subst e
    cases h1
    match as, h2, h3 with
    | [a], _, h3 =>
      simp only [zipAll, looked, Bool.and_true] at h3
      exact .inr (.inl ⟨a, rfl, h3⟩)
  split at h1
  · rename_i e
    subst e
    cases h1
    match as, h2, h3 with
    | [a, b], _, h3 =>
      simp only [zipAll, looked, Bool.and_true, Bool.and_eq_true] at h3
      exact .inr (.inr (.inl ⟨_, a, b, rfl, .inl rfl, h3.1, h3.2⟩))
  split at h1
  · rename_i e
    subst e
    cases h1
    match as, h2, h3 with
    | [a, b], _, h3 =>
      simp only [zipAll, looked, Bool.and_true, Bool.and_eq_true] at h3
      exact .inr (.inr (.inl ⟨_, a, b, rfl, .inr (.inl rfl), h3.1, h3.2⟩))
  split at h1
  · rename_i e
    subst e
    cases h1
    match as, h2, h3 with
    | [a, b], _, h3 =>
      simp only [zipAll, looked, Bool.and_true, Bool.and_eq_true] at h3
      exact .inr (.inr (.inl ⟨_, a, b, rfl, .inr (.inr rfl), h3.1, h3.2⟩))
  split at h1
  · rename_i e
    subst e
    cases h1
    match as, h2, h3 with
    | [a], _, h3 =>
      simp only [zipAll, looked, Bool.and_true] at h3
      exact .inr (.inr (.inr ⟨a, rfl, h3⟩))
  · cases h1
theorem next_tup {d : D} (h : isNext d = true) : ∃ x xs, d = .tup (x :: xs) ∧ ∀ e ∈ xs, isWord e = true := by
  obtain ⟨s, as, ls, rfl, h1, h2, h3⟩ := formed_inv h
  refine ⟨_, _, rfl, ?_⟩
  simp only [nextK, nextV, dlook] at h1
  split at h1
  · cases h1
    match as, h2, h3 with
    | [a], _, h3 =>
      simp only [zipAll, looked, Bool.and_true] at h3
      intro e he
      rw [List.mem_singleton.mp he]
      exact h3
  split at h1
  · cases h1
    match as, h2, h3 with
    | [a, b], _, h3 =>
      simp only [zipAll, looked, Bool.and_true, Bool.and_eq_true] at h3
      intro e he
      rcases List.mem_cons.mp he with rfl | he
      · exact h3.1
      · rw [List.mem_singleton.mp he]
        exact h3.2
  split at h1
  · cases h1
    match as, h2 with
    | [], _ => intro e he; cases he
  · cases h1
theorem choice_inv {d : D} (h : isChoice d = true) : ∃ nm lab tst once deeds later, d = .tup [nm, lab, tst, once, .tup deeds, later] ∧ isWord nm = true ∧ okPs labelK labelV lab = true ∧ isTestF FU tst = true ∧ (∀ e ∈ deeds, isDeed e = true) ∧ isNext later = true := by
  obtain ⟨a, as, rfl, h1, h2, h3⟩ := rowOf_first h
  match as, h2, h3 with
  | [b, c, d, e, f], _, h3 =>
    simp only [List.map_cons, List.map_nil, zipAll, looked, Bool.and_true, Bool.and_eq_true] at h3
    obtain ⟨g1, g2, g3, g4, g5⟩ := h3
    have g4' : areAll isDeed e = true := g4
    obtain ⟨ds, rfl⟩ : ∃ ds, e = .tup ds := by cases e <;> first | exact ⟨_, rfl⟩ | cases g4'
    exact ⟨a, b, c, d, ds, f, rfl, h1, g1, g2, List.all_eq_true.mp g4', g5⟩
theorem scene_inv {d : D} (h : isScene d = true) : ∃ nm ps cs wv en, d = .tup [nm, ps, .tup cs, .tup wv, en] ∧ isWord nm = true ∧ okPs pieceK pieceV ps = true ∧ (∀ c ∈ cs, isChoice c = true) ∧ (∀ x ∈ wv, isWord x = true) := by
  obtain ⟨a, as, rfl, h1, h2, h3⟩ := rowOf_first h
  match as, h2, h3 with
  | [b, c, d, e], _, h3 =>
    simp only [List.map_cons, List.map_nil, zipAll, looked, Bool.and_true, Bool.and_eq_true] at h3
    obtain ⟨g1, g2, g3, g4⟩ := h3
    have g2' : areChoices c = true := g2
    have g3' : unlikeWords d = true := g3
    obtain ⟨cs, rfl⟩ : ∃ ds, c = .tup ds := by cases c <;> first | exact ⟨_, rfl⟩ | cases g2'
    obtain ⟨wv, rfl⟩ : ∃ ds, d = .tup ds := by cases d <;> first | exact ⟨_, rfl⟩ | cases g3'
    have k1 : (cs.all isChoice && unlike (cs.map key0)) = true := g2'
    have k2 : (wv.all isWord && unlike (wv.map text)) = true := g3'
    rw [Bool.and_eq_true] at k1 k2
    exact ⟨a, b, cs, wv, e, rfl, h1, g1, List.all_eq_true.mp k1.1, List.all_eq_true.mp k2.1⟩
theorem piece_len {ks : List Str} {vs : List D} (T : PTab ks vs) : ∀ {k : Nat} {p : D}, p.fit k = true → okP ks vs p = true → (pieceN k p).length < p.sz
  | 0, p, h, _ => by rw [D.fit] at h; cases h
  | k + 1, p, h, ho => by
    have sh := okP_shape T ho
    have h1 := piece_sz sh
    have h2 : ((within p).flatMap (pieceN k)).length ≤ szs (within p) := flat_len fun q hq => Nat.le_of_lt (piece_len T (within_fit h hq) (within_ok sh q hq))
    rw [pieceN, List.length_append]
    omega
theorem pieces_len {ks : List Str} {vs : List D} (T : PTab ks vs) {d : D} (hf : d.fit FU = true) (h : okPs ks vs d = true) : (piecesN d).length < d.sz := by
  obtain ⟨ps, rfl, hp⟩ := okPs_inv h
  have h1 : (ps.flatMap (pieceN FU)).length ≤ szs ps := flat_len fun q hq => Nat.le_of_lt (piece_len T (fit_el hf q hq) (hp q hq))
  show (ps.flatMap (pieceN FU)).length < _
  rw [D.sz]
  omega
theorem deed_len {d : D} (h : isDeed d = true) : (deedN d).length ≤ d.sz := by
  rcases deed_inv h with ⟨a, s, rfl, hs, _⟩ | ⟨a, rfl, _⟩ | ⟨w, a, b, rfl, hw, _⟩ | ⟨a, rfl, _⟩
  · have e : deedN (.tup [.str "set", a, s]) = nmg "number" a :: sumN s := by
      show nmg "number" a :: [s].flatMap sumN = _
      simp
    have := sumN_len s
    rw [e]
    simp only [D.sz, szs, List.length_cons]
    omega
  · have e : deedN (.tup [.str "draw", a]) = [nmg "number" a] := rfl
    rw [e]
    have := sz_pos a
    simp only [D.sz, szs, List.length_singleton]
    omega
  · have e : deedN (.tup [.str w, a, b]) = [nmg "figure" a, nmg (if w = "join" then "figure" else "place") b] := by
      rcases hw with rfl | rfl | rfl <;> rfl
    rw [e]
    have h1 := sz_pos a
    have h2 := sz_pos b
    simp only [D.sz, szs, List.length_cons, List.length_nil]
    omega
  · have e : deedN (.tup [.str "leave", a]) = [nmg "figure" a] := rfl
    rw [e]
    have := sz_pos a
    simp only [D.sz, szs, List.length_singleton]
    omega
theorem choice_len {d : D} (hf : d.fit FU = true) (h : isChoice d = true) : (choiceN d).length ≤ d.sz := by
  obtain ⟨nm, lab, tst, once, deeds, later, rfl, h1, h2, h3, h4, h5⟩ := choice_inv h
  obtain ⟨x, xs, rfl, _⟩ := next_tup h5
  have l1 := pieces_len (.inl ⟨rfl, rfl⟩) (fit_el hf lab (by simp)) h2
  have l2 := testN_len FU tst h3
  have l3 : (deeds.flatMap deedN).length ≤ szs deeds := flat_len fun e he => deed_len (h4 e he)
  have l4 := szs_len xs
  have e : choiceN (.tup [nm, lab, tst, once, .tup deeds, .tup (x :: xs)]) = (piecesN lab ++ testN tst) ++ deeds.flatMap deedN ++ xs.map (nmg "scene") := rfl
  rw [e]
  simp only [List.length_append, List.length_map, D.sz, szs]
  omega
theorem scene_len {d : D} (hf : d.fit FU = true) (h : isScene d = true) : (sceneN d).length ≤ d.sz := by
  obtain ⟨nm, ps, cs, wv, en, rfl, h1, h2, h3, h4⟩ := scene_inv h
  have l1 := pieces_len (.inr ⟨rfl, rfl⟩) (fit_el hf ps (by simp)) h2
  have l3 : (cs.flatMap choiceN).length ≤ szs cs := flat_len fun e he => choice_len (fit_el (fit_el hf (.tup cs) (by simp)) e he) (h3 e he)
  have l4 := szs_len wv
  have e : sceneN (.tup [nm, ps, .tup cs, .tup wv, en]) = piecesN ps ++ cs.flatMap choiceN ++ wv.map (nmg "scene") := rfl
  rw [e]
  simp only [List.length_append, List.length_map, D.sz, szs]
  omega
section
variable {P : Program} {w : World} {K : PySem.W.Frag} {mg : Str → Option Value} {base : Heap}
def aPiecesF : AccF := fun _ n ds Q => ∃ d ks vs, ds = [d] ∧ PTab ks vs ∧ okPs ks vs d = true ∧ d.fit FU = true ∧ d.sz ≤ MX ∧ Q n (piecesN d)
theorem has_piecesF (T : Top K mg) : HasF P w K mg base (LN + 2) "pieces_namings" ["pieces"] aPiecesF := by
  have hN : (["pieces", "found", "pile", "piece"] : List Str).Nodup := by decide +kernel
  refine has_ofF (N := ["pieces", "found", "pile", "piece"]) T (i := 4) (d := d_pieces_namings) rfl ⟨rfl, rfl, rfl, hN, rfl, by decide +kernel, by decide +kernel⟩ (by decide +kernel) rfl rfl rfl (fun _ _ _ _ _ _ us hl => match us, hl with | [_], _ => rfl) (fun g n ds Q h => by obtain ⟨_, _, _, rfl, _⟩ := h; rfl) fun cd Ar outer s H E hr g n ds Q h => ?_
  obtain ⟨d, ks, vs, rfl, tab, hok, hf, hz, q⟩ := h
  obtain ⟨ps, rfl, hps⟩ := okPs_inv hok
  refine hss_cons (hs_parOO (i := 1) (j := 2) hN rfl rfl (by decide) (hf_lst (ha_nil ⟨by decide, hf_rev (he_lst (hf_list T.f_list (he_name (i := 0) rfl rfl ⟨ps, .inr rfl, ps, rfl, ?_⟩)))⟩)))
  have hsz : (D.tup ps).sz = szs ps + 1 := by rw [D.sz]
  rw [hsz] at hz
  refine hss_cons (hs_while PassesOwn.never (fun m n' ρ' => n' = n ∧ ∃ fo pl, (∃ x3 : SV, ρ' = [.dat (.tup ps), .own fo, .own pl, x3]) ∧ m = szs pl ∧ (∀ p ∈ pl, p.fit FU = true ∧ okP ks vs p = true) ∧ fo.length + szs pl ≤ szs ps ∧ fo ++ pl.reverse.flatMap (pieceN FU) = ps.flatMap (pieceN FU)) (m0 := szs ps.reverse) ⟨rfl, [], ps.reverse, ⟨.no, rfl⟩, rfl, fun p hp => ?_, ?_, ?_⟩ ?_)
  · have hp := List.mem_reverse.mp hp
    exact ⟨fit_el hf p hp, hps p hp⟩
  · rw [szs_reverse]
    simp
  · rw [List.reverse_reverse]
    rfl
  intro m n' ρ' hI
  obtain ⟨rfl, fo, pl, ⟨x3, rfl⟩, rfl, hpl, hb, heq⟩ := hI
  refine ht_cmp op_gt (he_lenO (i := 2) rfl rfl T.f_len (he_int (rd_intB ⟨_, rfl, fun e => ?_, fun e => ?_⟩)))
  · obtain ⟨rs, p, rfl⟩ : ∃ rs p, pl = rs ++ [p] := by
      rcases List.eq_nil_or_concat pl with rfl | ⟨rs, p, h⟩
      · cases e
      · exact ⟨rs, p, by rw [h, List.concat_eq_append]⟩
    obtain ⟨hpf, hpo⟩ := hpl p (by simp)
    have sh := okP_shape tab hpo
    have h1 := piece_sz sh
    have hs2 : szs (rs ++ [p]) = szs rs + p.sz := by rw [szs_append, szs, szs, Nat.add_zero]
    rw [hs2] at hb
    have hpz : p.sz ≤ MX := by omega
    have hl1 := szs_len rs
    have hl2 := szs_len (within p)
    refine hss_cons (hs_pop (i := 2) (l := 3) hN rfl rfl rfl (by decide) ?_)
    refine hss_cons (hs_extend (i := 1) rfl rfl (he_call (has_ownN T) hr (ha_cons (he_name (i := 3) rfl rfl (ha_nil ⟨p, ks, vs, rfl, sh, hpf, hpz, ownN p, rfl, ?_, ?_⟩)))))
    · unfold MX at hz
      unfold sizeLine
      omega
    refine hss_cons (hs_extend (i := 2) rfl rfl (he_lst (hf_rev (he_call (has_within T) (hr.mono (by decide)) (ha_cons (he_name (i := 3) rfl rfl (ha_nil ⟨p, ks, vs, rfl, sh, hpf, hpz, within p, rfl, (within p).reverse, rfl, ?_, hss_nil ⟨szs (rs ++ (within p).reverse), ?_, rfl, fo ++ ownN p, rs ++ (within p).reverse, ⟨_, rfl⟩, rfl, fun x hx => ?_, ?_, ?_⟩⟩)))))))
    · rw [List.length_reverse]
      unfold MX at hz
      unfold sizeLine
      omega
    · rw [szs_append, szs_reverse, hs2]
      omega
    · rcases List.mem_append.mp hx with hx | hx
      · exact hpl x (List.mem_append_left _ hx)
      · have hx := List.mem_reverse.mp hx
        exact ⟨fit_mono (by decide) (within_fit (k := 29) hpf hx), within_ok sh x hx⟩
    · rw [List.length_append, szs_append, szs_reverse]
      omega
    · rw [List.reverse_append, List.flatMap_append, List.reverse_singleton] at heq
      rw [List.reverse_append, List.reverse_reverse, List.flatMap_append, ← heq]
      show _ = fo ++ ([p].flatMap (pieceN FU) ++ _)
      rw [List.flatMap_cons, List.flatMap_nil, List.append_nil, pieceN_go hpf]
      simp only [List.append_assoc]
  · have e2 : pl = [] := by
      cases pl with
      | nil => rfl
      | cons x xs => first | (simp at e; done) | (simp at e; omega)
    subst e2
    rw [List.reverse_nil, List.flatMap_nil, List.append_nil] at heq
    refine hss_cons (hs_retO (i := 1) rfl rfl ?_)
    show Q n' fo
    rw [heq]
    exact q
def aPiecesN : Acc := fun _ n ds Q => ∃ d ks vs, ds = [d] ∧ PTab ks vs ∧ okPs ks vs d = true ∧ d.fit FU = true ∧ d.sz ≤ MX ∧ Q n (.lst (piecesN d))
theorem has_piecesN (T : Top K mg) : Has P w K mg base (LN + 2) "pieces_namings" ["pieces"] aPiecesN := (has_piecesF T).has fun _ _ _ _ h => h
end
end Fk
set_option Elab.async false
set_option linter.all false
set_option maxRecDepth 100000
set_option maxHeartbeats 4000000
/-! N4: the namings walked: deeds, choices, scenes. -/
namespace Fk
open PySem PySem.Spec PyProof.Rows L2
/-- a naming -/
def SRT : List Str := ["number", "seen", "figure", "place", "scene"]
def isNm (e : D) : Prop := ∃ s t, e = nmg s (.str t) ∧ s ∈ SRT
theorem isNm_of {s : Str} {a : D} (h : isWord a = true) (hs : s ∈ SRT) : isNm (nmg s a) := by
  obtain ⟨t, rfl⟩ := isWord_str h
  exact ⟨s, t, rfl, hs⟩
theorem sumN_nm : ∀ (k : Nat) (d : D), isSumF k d = true → ∀ e ∈ sumN d, isNm e
  | 0, _, h, _, _ => by cases h
  | k + 1, d, h, e, he => by
    rcases sum_inv h with ⟨a, rfl⟩ | ⟨w, a, rfl, hw, ha⟩ | ⟨w, a, b, rfl, _, h1, h2⟩
    · cases he
    · rcases hw with rfl | rfl
      · rw [List.mem_singleton.mp (show e ∈ [nmg "number" a] from he)]
        exact isNm_of ha (by decide)
      · rw [List.mem_singleton.mp (show e ∈ [nmg "seen" a] from he)]
        exact isNm_of ha (by decide)
    · rw [sumN] at he
      rcases List.mem_append.mp he with he | he
      · exact sumN_nm k a h1 e he
      · exact sumN_nm k b h2 e he
theorem testN_nm : ∀ (k : Nat) (d : D), isTestF k d = true → ∀ e ∈ testN d, isNm e
  | 0, _, h, _, _ => by cases h
  | k + 1, d, h, e, he => by
    rcases test_inv h with ⟨a, s, b, rfl, h1, h2⟩ | ⟨v, a, b, rfl, hv, ha, hb⟩ | ⟨a, rfl, ha⟩ | ⟨v, ts, rfl, hv, ht⟩
    · rw [testN] at he
      rcases List.mem_append.mp he with he | he
      · exact sumN_nm k a h1 e he
      · exact sumN_nm k b h2 e he
    · rw [testN] at he
      rcases List.mem_cons.mp he with rfl | he
      · exact isNm_of ha (by decide)
      · rw [List.mem_singleton.mp he]
        refine isNm_of hb ?_
        split <;> decide
    · rw [testN_not] at he
      exact testN_nm k a ha e he
    · have e9 : testN (.tup [.str v, .tup ts]) = ts.flatMap testN := by
        rw [testN, ← testNs_flat]
        rcases hv with rfl | rfl <;> rfl
      rw [e9] at he
      obtain ⟨t, h1, h2⟩ := List.mem_flatMap.mp he
      exact testN_nm k t (ht t h1) e h2
theorem ownN_nm {ks : List Str} {vs : List D} {p : D} (h : PShape ks vs p) : ∀ e ∈ ownN p, isNm e := by
  intro e he
  rcases h with ⟨w, as, rfl, h1, h2, h3, h4⟩ | ⟨a, rfl, ha⟩ | ⟨a, rfl, ha⟩ | ⟨t, b, c, rfl, ht, _⟩ | ⟨a, b, rfl, _⟩
  · have e1 : ownN (.tup (.str w :: as)) = [] := by
      cases as with
      | nil => rfl
      | cons a as => rw [ownN, if_neg h1, if_neg h2, if_neg h3]
    rw [e1] at he
    cases he
  · exact sumN_nm FU a ha e he
  · rw [List.mem_singleton.mp (show e ∈ [nmg "figure" a] from he)]
    exact isNm_of ha (by decide)
  · exact testN_nm FU t ht e he
  · cases he
theorem pieceN_nm {ks : List Str} {vs : List D} (T : PTab ks vs) : ∀ {k : Nat} {p : D}, okP ks vs p = true → ∀ e ∈ pieceN k p, isNm e
  | 0, p, _, e, he => by cases he
  | k + 1, p, h, e, he => by
    have sh := okP_shape T h
    rw [pieceN] at he
    rcases List.mem_append.mp he with he | he
    · exact ownN_nm sh e he
    · obtain ⟨q, h1, h2⟩ := List.mem_flatMap.mp he
      exact pieceN_nm T (within_ok sh q h1) e h2
theorem piecesN_nm {ks : List Str} {vs : List D} (T : PTab ks vs) {d : D} (h : okPs ks vs d = true) : ∀ e ∈ piecesN d, isNm e := by
  intro e he
  obtain ⟨ps, rfl, hp⟩ := okPs_inv h
  obtain ⟨q, h1, h2⟩ := List.mem_flatMap.mp (show e ∈ ps.flatMap (pieceN FU) from he)
  exact pieceN_nm T (hp q h1) e h2
theorem deedN_eq {d : D} (h : isDeed d = true) : (∃ a s, d = .tup [.str "set", a, s] ∧ isSumF FU s = true ∧ isWord a = true ∧ deedN d = nmg "number" a :: sumN s) ∨ (∃ a, d = .tup [.str "draw", a] ∧ isWord a = true ∧ deedN d = [nmg "number" a]) ∨ ∃ w a rest, d = .tup (.str w :: a :: rest) ∧ w ≠ "set" ∧ w ≠ "draw" ∧ rest.length ≤ 1 ∧ (isWord a = true ∧ ∀ b ∈ rest, isWord b = true) ∧ deedN d = nmg "figure" a :: rest.map (nmg (if w = "join" then "figure" else "place")) := by
  rcases deed_inv h with ⟨a, s, rfl, hs, ha⟩ | ⟨a, rfl, ha⟩ | ⟨w, a, b, rfl, hw, ha, hb⟩ | ⟨a, rfl, ha⟩
  · refine .inl ⟨a, s, rfl, hs, ha, ?_⟩
    show nmg "number" a :: [s].flatMap sumN = _
    simp
  · exact .inr (.inl ⟨a, rfl, ha, rfl⟩)
  · refine .inr (.inr ⟨w, a, [b], rfl, ?_, ?_, by simp, ⟨ha, fun x hx => by rw [List.mem_singleton.mp hx]; exact hb⟩, ?_⟩) <;> rcases hw with rfl | rfl | rfl <;> first | decide | rfl
  · exact .inr (.inr ⟨_, a, [], rfl, by decide, by decide, by simp, ⟨ha, fun x hx => by cases hx⟩, rfl⟩)
theorem deedN_nm {d : D} (h : isDeed d = true) : ∀ e ∈ deedN d, isNm e := by
  intro e he
  rcases deedN_eq h with ⟨a, s, rfl, hs, ha, e1⟩ | ⟨a, rfl, ha, e1⟩ | ⟨w, a, rest, rfl, _, _, _, ⟨ha, hb⟩, e1⟩
  · rw [e1] at he
    rcases List.mem_cons.mp he with rfl | he
    · exact isNm_of ha (by decide)
    · exact sumN_nm FU s hs e he
  · rw [e1] at he
    rw [List.mem_singleton.mp he]
    exact isNm_of ha (by decide)
  · rw [e1] at he
    rcases List.mem_cons.mp he with rfl | he
    · exact isNm_of ha (by decide)
    · obtain ⟨b, hm, rfl⟩ := List.mem_map.mp he
      refine isNm_of (hb b hm) ?_
      split <;> decide
theorem choiceN_nm {d : D} (h : isChoice d = true) : ∀ e ∈ choiceN d, isNm e := by
  intro e he
  obtain ⟨nm, lab, tst, once, deeds, later, rfl, h1, h2, h3, h4, h5⟩ := choice_inv h
  have e9 : choiceN (.tup [nm, lab, tst, once, .tup deeds, later]) = (piecesN lab ++ testN tst) ++ deeds.flatMap deedN ++ ((items later).drop 1).map (nmg "scene") := rfl
  rw [e9] at he
  rcases List.mem_append.mp he with he | he
  · rcases List.mem_append.mp he with he | he
    · rcases List.mem_append.mp he with he | he
      · exact piecesN_nm (.inl ⟨rfl, rfl⟩) h2 e he
      · exact testN_nm FU tst h3 e he
    · obtain ⟨x, q1, q2⟩ := List.mem_flatMap.mp he
      exact deedN_nm (h4 x q1) e q2
  · obtain ⟨x, xs, rfl, hw⟩ := next_tup h5
    obtain ⟨b, hb, rfl⟩ := List.mem_map.mp he
    exact isNm_of (hw b hb) (by decide)
theorem sceneN_nm {d : D} (h : isScene d = true) : ∀ e ∈ sceneN d, isNm e := by
  intro e he
  obtain ⟨nm, ps, cs, wv, en, rfl, h1, h2, h3, h4⟩ := scene_inv h
  have e9 : sceneN (.tup [nm, ps, .tup cs, .tup wv, en]) = piecesN ps ++ cs.flatMap choiceN ++ wv.map (nmg "scene") := rfl
  rw [e9] at he
  rcases List.mem_append.mp he with he | he
  · rcases List.mem_append.mp he with he | he
    · exact piecesN_nm (.inr ⟨rfl, rfl⟩) h2 e he
    · obtain ⟨x, q1, q2⟩ := List.mem_flatMap.mp he
      exact choiceN_nm (h3 x q1) e q2
  · obtain ⟨b, hb, rfl⟩ := List.mem_map.mp he
    exact isNm_of (h4 b hb) (by decide)
section
variable {P : Program} {w : World} {K : PySem.W.Frag} {mg : Str → Option Value} {base : Heap}
def aDeedN : Acc := fun _ n ds Q => ∃ d, ds = [d] ∧ isDeed d = true ∧ d.fit FU = true ∧ d.sz ≤ MX ∧ Q n (.lst (deedN d))
theorem has_deedN (T : Top K mg) : Has P w K mg base (LN + 1) "deed_namings" ["deed"] aDeedN := by
  have hS : Has P w K mg base LN "sum_namings" ["amount"] (aSumN FU) := (has_sumN T FU).imp (by decide) fun _ _ _ _ z => z
  have hN : (["deed", "word", "first", "rest", "more", "one"] : List Str).Nodup := by decide +kernel
  refine has_of (N := ["deed", "word", "first", "rest", "more", "one"]) T (i := 5) (d := d_deed_namings) rfl ⟨rfl, rfl, rfl, hN, rfl, by decide +kernel, by decide +kernel⟩ (by decide +kernel) rfl rfl rfl (fun _ _ _ _ _ _ us hl => match us, hl with | [_], _ => rfl) (fun g n ds Q h => by obtain ⟨_, rfl, _⟩ := h; rfl) fun cd Ar outer s H E hr g n ds Q h => ?_
  obtain ⟨d, rfl, hd, hf, hz, q⟩ := h
  rcases deedN_eq hd with ⟨a, s, rfl, hs, _, e1⟩ | ⟨a, rfl, _, e1⟩ | ⟨v, a, rest, rfl, h1, h2, hl, _, e1⟩
  · rw [e1] at q
    have z1 := sz_in hz s (by simp)
    have l1 := sumN_len s
    refine hss_cons (hs_asg (he_name (i := 0) rfl rfl ⟨_, _, hg_star3 (i := 1) (j := 2) (k := 3) rfl hN rfl rfl rfl (by simp), ?_⟩))
    refine hss_cons (hs_ifP true (ht_cmp op_eq (he_name (i := 1) rfl rfl (he_str (rd_eqS ⟨_, rfl, rfl, by decide⟩)))) (fun _ => ?_) fun e => by cases e)
    refine hss_cons (hs_ret (he_lst (hf_add (he_lst (hf_lst (ha_cons (he_tup (ha_cons (he_str (ha_cons (he_name (i := 2) rfl rfl (ha_nil ⟨le2, ha_nil ⟨le1, he_call hS hr (ha_cons (he_ixL (he_name (i := 3) rfl rfl (he_int ⟨_, _, s, rfl, rfl, atI_0, ha_nil ⟨s, rfl, hs, z1, _, _, rfl, rfl, ?_, q⟩⟩))))⟩⟩))))))))))))
    rw [List.length_singleton]
    unfold MX at z1
    unfold sizeLine
    omega
  · rw [e1] at q
    refine hss_cons (hs_asg (he_name (i := 0) rfl rfl ⟨_, _, hg_star3 (i := 1) (j := 2) (k := 3) rfl hN rfl rfl rfl (by simp), ?_⟩))
    refine hss_cons (hs_ifP false (ht_cmp op_eq (he_name (i := 1) rfl rfl (he_str (rd_eqS ⟨_, rfl, rfl, by decide⟩)))) (fun e => by cases e) fun _ => hss_nil ?_)
    refine hss_cons (hs_ifP true (ht_cmp op_eq (he_name (i := 1) rfl rfl (he_str (rd_eqS ⟨_, rfl, rfl, by decide⟩)))) (fun _ => ?_) fun e => by cases e)
    exact hss_cons (hs_ret (he_lst (hf_lst (ha_cons (he_tup (ha_cons (he_str (ha_cons (he_name (i := 2) rfl rfl (ha_nil ⟨le2, ha_nil ⟨le1, q⟩⟩))))))))))
  · rw [e1] at q
    refine hss_cons (hs_asg (he_name (i := 0) rfl rfl ⟨_, _, hg_star3 (i := 1) (j := 2) (k := 3) rfl hN rfl rfl rfl (by omega), ?_⟩))
    refine hss_cons (hs_ifP false (ht_cmp op_eq (he_name (i := 1) rfl rfl (he_str (rd_eqS ⟨_, rfl, rfl, decide_eq_false h1⟩)))) (fun e => by cases e) fun _ => hss_nil ?_)
    refine hss_cons (hs_ifP false (ht_cmp op_eq (he_name (i := 1) rfl rfl (he_str (rd_eqS ⟨_, rfl, rfl, decide_eq_false h2⟩)))) (fun e => by cases e) fun _ => hss_nil ?_)
    refine hss_cons (hs_setLcD (i := 4) (own := [("one", 5)]) hN rfl ?_ (own1 rfl) (lc_map (nmg (if v = "join" then "figure" else "place")) (hi_list (he_name (i := 3) rfl rfl ⟨rest, rfl, ?_, fun x hx => ?_, ?_⟩))))
    · exact (show BlkOk (["deed", "word", "first", "rest", "more", "one"] : List Str) d_deed_namings.scope _ _ from ⟨rfl, by decide +kernel, by decide +kernel, by decide +kernel, by decide +kernel⟩)
    · unfold sizeLine
      omega
    · refine ⟨_, fun s H C cl fp => hg_name hN rfl, fun s' H C cl fp => he_tup (ha_cons (he_if (ht_cmp op_eq (he_name (i := 1) rfl rfl (he_str (rd_eqS ⟨_, rfl, fun e2 => ?_, fun e2 => ?_⟩))))))⟩
      · rw [if_pos (of_decide_eq_true e2)]
        exact he_str (ha_cons (he_name (i := 5) rfl rfl (ha_nil ⟨le2, rfl, rfl⟩)))
      · rw [if_neg (of_decide_eq_false e2)]
        exact he_str (ha_cons (he_name (i := 5) rfl rfl (ha_nil ⟨le2, rfl, rfl⟩)))
    · refine hss_cons (hs_ret (he_lst (hf_add (he_lst (hf_lst (ha_cons (he_tup (ha_cons (he_str (ha_cons (he_name (i := 2) rfl rfl (ha_nil ⟨le2, ha_nil ⟨le1, he_name (i := 4) rfl rfl ⟨_, _, rfl, rfl, ?_, q⟩⟩⟩))))))))))))
      rw [List.length_singleton, List.length_map]
      unfold sizeLine
      omega
def aChoiceN : Acc := fun _ n ds Q => ∃ d, ds = [d] ∧ isChoice d = true ∧ d.fit FU = true ∧ d.sz ≤ MX ∧ Q n (.lst (choiceN d))
theorem has_choiceN (T : Top K mg) : Has P w K mg base (LN + 3) "choice_namings" ["choice"] aChoiceN := by
  have hP : Has P w K mg base (LN + 2) "pieces_namings" ["pieces"] aPiecesN := has_piecesN T
  have hT : Has P w K mg base (LN + 2) "test_namings" ["test"] (aTestN FU) := (has_testN T FU).imp (by decide) fun _ _ _ _ z => z
  have hD : Has P w K mg base (LN + 2) "deed_namings" ["deed"] aDeedN := (has_deedN T).imp (by decide) fun _ _ _ _ z => z
  have hN : (["choice", "name", "label", "test", "once", "deeds", "later", "found", "deed", "naming", "one"] : List Str).Nodup := by decide +kernel
  refine has_of (N := ["choice", "name", "label", "test", "once", "deeds", "later", "found", "deed", "naming", "one"]) T (i := 6) (d := d_choice_namings) rfl ⟨rfl, rfl, rfl, hN, rfl, by decide +kernel, by decide +kernel⟩ (by decide +kernel) rfl rfl rfl (fun _ _ _ _ _ _ us hl => match us, hl with | [_], _ => rfl) (fun g n ds Q h => by obtain ⟨_, rfl, _⟩ := h; rfl) fun cd Ar outer s H E hr g n ds Q h => ?_
  obtain ⟨d, rfl, hd, hf, hz, q⟩ := h
  have hl := choice_len hf hd
  obtain ⟨nm, lab, tst, once, deeds, later, rfl, h1, h2, h3, h4, h5⟩ := choice_inv hd
  obtain ⟨x, xs, rfl, _⟩ := next_tup h5
  have e9 : choiceN (.tup [nm, lab, tst, once, .tup deeds, .tup (x :: xs)]) = (piecesN lab ++ testN tst) ++ deeds.flatMap deedN ++ xs.map (nmg "scene") := rfl
  rw [e9] at q hl
  simp only [List.length_append, List.length_map] at hl
  have hz' := hz
  unfold MX at hz'
  have hzl : (D.tup [nm, lab, tst, once, .tup deeds, .tup (x :: xs)]).sz ≤ sizeLine := by
    unfold sizeLine
    omega
  refine hss_cons (hs_asg (he_name (i := 0) rfl rfl ⟨_, _, hg_tup rfl (hgs_cons (hg_name (i := 1) hN rfl) (hgs_cons (hg_name (i := 2) hN rfl) (hgs_cons (hg_name (i := 3) hN rfl) (hgs_cons (hg_name (i := 4) hN rfl) (hgs_cons (hg_name (i := 5) hN rfl) (hgs_cons (hg_name (i := 6) hN rfl) hgs_nil)))))) rfl, ?_⟩))
  refine hss_cons (hs_setF (i := 7) hN rfl (hf_add (he_call hP hr (ha_cons (he_name (i := 2) rfl rfl (ha_nil ⟨lab, labelK, labelV, rfl, .inl ⟨rfl, rfl⟩, h2, fit_el hf lab (by simp), sz_in hz lab (by simp), he_call hT hr (ha_cons (he_name (i := 3) rfl rfl (ha_nil ⟨tst, rfl, h3, sz_in hz tst (by simp), _, _, rfl, rfl, by omega, ?_⟩)))⟩))))))
  refine hss_cons (hs_extend (i := 7) rfl rfl (he_lst (hf_flat deedN (own := [("deed", 8), ("naming", 9)]) (vs0 := [8]) (vs1 := [9]) rfl hN ?_ (own2 rfl rfl) (by simp) (by simp) (hi_tup (he_name (i := 5) rfl rfl ⟨deeds, rfl, by omega, fun d hd => ?_, _, rfl, ?_, ?_⟩)))))
  · exact (show BlkOk (["choice", "name", "label", "test", "once", "deeds", "later", "found", "deed", "naming", "one"] : List Str) d_choice_namings.scope _ _ from ⟨rfl, by decide +kernel, by decide +kernel, by decide +kernel, by decide +kernel⟩)
  · refine ⟨_, fun s H C cl fp => hg_name hN rfl, fun i hi x hx => ?_, fun s H C cl fp => hi_list (he_call hD hr (ha_cons (he_name (i := 8) rfl rfl (ha_nil ⟨d, rfl, h4 d hd, fit_el (fit_el hf (.tup deeds) (by simp)) d hd, sz_in (sz_in hz (.tup deeds) (by simp)) d hd, _, rfl, rfl, rfl⟩)))), fun e he => ⟨_, fun s H C cl fp => hg_name hN rfl, fun s H C cl fp => he_name (i := 9) rfl rfl ⟨rfl, rfl⟩⟩⟩
    rw [List.mem_singleton.mp hi] at hx
    cases hx
    rfl
  · rw [List.length_append]
    omega
  · refine hss_freeze (i := 7) rfl ?_
    refine hss_cons (hs_ret (he_lst (hf_add (he_name (i := 7) rfl rfl (he_lst (hf_map (nmg "scene") (own := [("one", 10)]) rfl hN ?_ (own1 rfl) (hi_tup (he_slT (he_name (i := 6) rfl rfl (ho_int (ho_none ⟨_, rfl, xs, by rw [cut_1], ?_, fun d hd => ?_, _, _, rfl, rfl, ?_, q⟩)))))))))))
    · exact (show BlkOk (["choice", "name", "label", "test", "once", "deeds", "later", "found", "deed", "naming", "one"] : List Str) d_choice_namings.scope _ _ from ⟨rfl, by decide +kernel, by decide +kernel, by decide +kernel, by decide +kernel⟩)
    · omega
    · exact ⟨_, fun s H C cl fp => hg_name hN rfl, fun s H C cl fp => he_tup (ha_cons (he_str (ha_cons (he_name (i := 10) rfl rfl (ha_nil ⟨le2, rfl, rfl⟩)))))⟩
    · simp only [List.length_append, List.length_map]
      omega
def aSceneN : Acc := fun _ n ds Q => ∃ d, ds = [d] ∧ isScene d = true ∧ d.fit FU = true ∧ d.sz ≤ MX ∧ Q n (.lst (sceneN d))
theorem has_sceneN (T : Top K mg) : Has P w K mg base (LN + 4) "all_namings" ["scene"] aSceneN := by
  have hP : HasF P w K mg base (LN + 3) "pieces_namings" ["pieces"] aPiecesF := (has_piecesF T).imp (by decide)
  have hD : Has P w K mg base (LN + 3) "choice_namings" ["choice"] aChoiceN := has_choiceN T
  have hN : (["scene", "name", "pieces", "choices", "woven", "ending", "found", "choice", "naming", "one"] : List Str).Nodup := by decide +kernel
  refine has_of (N := ["scene", "name", "pieces", "choices", "woven", "ending", "found", "choice", "naming", "one"]) T (i := 7) (d := d_all_namings) rfl ⟨rfl, rfl, rfl, hN, rfl, by decide +kernel, by decide +kernel⟩ (by decide +kernel) rfl rfl rfl (fun _ _ _ _ _ _ us hl => match us, hl with | [_], _ => rfl) (fun g n ds Q h => by obtain ⟨_, rfl, _⟩ := h; rfl) fun cd Ar outer s H E hr g n ds Q h => ?_
  obtain ⟨d, rfl, hd, hf, hz, q⟩ := h
  have hl := scene_len hf hd
  obtain ⟨nm, ps, cs, wv, en, rfl, h1, h2, h3, h4⟩ := scene_inv hd
  have e9 : sceneN (.tup [nm, ps, .tup cs, .tup wv, en]) = piecesN ps ++ cs.flatMap choiceN ++ wv.map (nmg "scene") := rfl
  rw [e9] at q hl
  simp only [List.length_append, List.length_map] at hl
  have hz' := hz
  unfold MX at hz'
  have hzl : (D.tup [nm, ps, .tup cs, .tup wv, en]).sz ≤ sizeLine := by
    unfold sizeLine
    omega
  refine hss_cons (hs_asg (he_name (i := 0) rfl rfl ⟨_, _, hg_tup rfl (hgs_cons (hg_name (i := 1) hN rfl) (hgs_cons (hg_name (i := 2) hN rfl) (hgs_cons (hg_name (i := 3) hN rfl) (hgs_cons (hg_name (i := 4) hN rfl) (hgs_cons (hg_name (i := 5) hN rfl) hgs_nil))))) rfl, ?_⟩))
  refine hss_cons (hs_setF (i := 6) hN rfl (hf_call hP hr (ha_cons (he_name (i := 2) rfl rfl (ha_nil ⟨ps, pieceK, pieceV, rfl, .inr ⟨rfl, rfl⟩, h2, fit_el hf ps (by simp), sz_in hz ps (by simp), ?_⟩)))))
  refine hss_cons (hs_extend (i := 6) rfl rfl (he_lst (hf_flat choiceN (own := [("choice", 7), ("naming", 8)]) (vs0 := [7]) (vs1 := [8]) rfl hN ?_ (own2 rfl rfl) (by simp) (by simp) (hi_tup (he_name (i := 3) rfl rfl ⟨cs, rfl, by omega, fun d hd => ?_, _, rfl, ?_, ?_⟩)))))
  · exact (show BlkOk (["scene", "name", "pieces", "choices", "woven", "ending", "found", "choice", "naming", "one"] : List Str) d_all_namings.scope _ _ from ⟨rfl, by decide +kernel, by decide +kernel, by decide +kernel, by decide +kernel⟩)
  · refine ⟨_, fun s H C cl fp => hg_name hN rfl, fun i hi x hx => ?_, fun s H C cl fp => hi_list (he_call hD hr (ha_cons (he_name (i := 7) rfl rfl (ha_nil ⟨d, rfl, h3 d hd, fit_el (fit_el hf (.tup cs) (by simp)) d hd, sz_in (sz_in hz (.tup cs) (by simp)) d hd, _, rfl, rfl, rfl⟩)))), fun e he => ⟨_, fun s H C cl fp => hg_name hN rfl, fun s H C cl fp => he_name (i := 8) rfl rfl ⟨rfl, rfl⟩⟩⟩
    rw [List.mem_singleton.mp hi] at hx
    cases hx
    rfl
  · omega
  · refine hss_freeze (i := 6) rfl ?_
    refine hss_cons (hs_ret (he_lst (hf_add (he_name (i := 6) rfl rfl (he_lst (hf_map (nmg "scene") (own := [("one", 9)]) rfl hN ?_ (own1 rfl) (hi_tup (he_name (i := 4) rfl rfl ⟨wv, rfl, ?_, fun d hd => ?_, _, _, rfl, rfl, ?_, q⟩))))))))
    · exact (show BlkOk (["scene", "name", "pieces", "choices", "woven", "ending", "found", "choice", "naming", "one"] : List Str) d_all_namings.scope _ _ from ⟨rfl, by decide +kernel, by decide +kernel, by decide +kernel, by decide +kernel⟩)
    · omega
    · exact ⟨_, fun s H C cl fp => hg_name hN rfl, fun s H C cl fp => he_tup (ha_cons (he_str (ha_cons (he_name (i := 9) rfl rfl (ha_nil ⟨le2, rfl, rfl⟩)))))⟩
    · simp only [List.length_append, List.length_map]
      omega
def aNamesOf : Acc := fun _ n ds Q => ∃ d, ds = [d] ∧ isScene d = true ∧ d.fit FU = true ∧ d.sz ≤ MX ∧ Q n (namesOf d)
theorem has_namesOf (T : Top K mg) : Has P w K mg base (LN + 5) "namings_of" ["scene"] aNamesOf := by
  have hN : (["scene", "sort", "name"] : List Str).Nodup := by decide +kernel
  refine has_of (N := ["scene", "sort", "name"]) T (i := 8) (d := d_namings_of) rfl ⟨rfl, rfl, rfl, hN, rfl, by decide +kernel, by decide +kernel⟩ (by decide +kernel) rfl rfl rfl (fun _ _ _ _ _ _ us hl => match us, hl with | [_], _ => rfl) (fun g n ds Q h => by obtain ⟨_, rfl, _⟩ := h; rfl) fun cd Ar outer s H E hr g n ds Q h => ?_
  obtain ⟨d, rfl, hd, hf, hz, q⟩ := h
  have hl := scene_len hf hd
  have hz' := hz
  unfold MX at hz'
  refine hss_cons (hs_ret (he_tuple T.f_tuple (he_lst (hf_map fixN (own := [("sort", 1), ("name", 2)]) rfl hN ?_ (own2 rfl rfl) (hi_list (he_call (has_sceneN T) hr (ha_cons (he_name (i := 0) rfl rfl (ha_nil ⟨d, rfl, hd, hf, hz, _, rfl, ?_, fun e he => ?_, _, rfl, q⟩)))))))))
  · exact (show BlkOk (["scene", "sort", "name"] : List Str) d_namings_of.scope _ _ from ⟨rfl, by decide +kernel, by decide +kernel, by decide +kernel, by decide +kernel⟩)
  · unfold sizeLine
    omega
  · obtain ⟨s, t, rfl, _⟩ := sceneN_nm hd e he
    refine ⟨_, fun s H C cl fp => hg_two rfl hN rfl rfl (by decide), fun s' H C cl fp => he_tup (ha_cons (he_if (ht_cmp op_eq (he_name (i := 1) rfl rfl (he_str (rd_eqS ⟨_, rfl, fun e2 => ?_, fun e2 => ?_⟩))))))⟩
    · refine he_str (ha_cons (he_name (i := 2) rfl rfl (ha_nil ⟨le2, rfl, ?_⟩)))
      show _ = nmg (if s = "seen" then "scene" else s) (.str t)
      rw [if_pos (of_decide_eq_true e2)]
      rfl
    · refine he_name (i := 1) rfl rfl (ha_cons (he_name (i := 2) rfl rfl (ha_nil ⟨le2, rfl, ?_⟩)))
      show _ = nmg (if s = "seen" then "scene" else s) (.str t)
      rw [if_neg (of_decide_eq_false e2)]
      rfl
end
end Fk
set_option Elab.async false
set_option linter.all false
set_option maxRecDepth 100000
set_option maxHeartbeats 4000000
/-! X1: NoStory made and raised; defs that may raise it. -/
namespace Fk
open PySem PySem.Spec PyProof.Rows L2
abbrev CNo (K : PySem.W.Frag) : Addr := He.ga K "NoStory"
abbrev CTa (K : PySem.W.Frag) : Addr := He.ga K "TaleError"
abbrev FIn (K : PySem.W.Frag) : Addr := He.ma K (CNo K) "__init__"
/-- what the written part says of the error classes -/
structure Exs (K : PySem.W.Frag) : Prop where
  ox : OexC K (CNo K)
  iC : PySem.W.findIn K (.ref (CNo K)) "__init__" = some (some (.ref (FIn K)))
  tI : PySem.W.typeIn K (.ref (FIn K)) = some (.type "function")
  nw : PySem.W.findIn K (.ref (CNo K)) "word" = some none
  na : PySem.W.findIn K (.ref (CNo K)) "at" = some none
  sT : PySem.W.specialIn K (.ref (CTa K)) "__getattribute__" = some (some (.builtin "type.__getattribute__"))
  rT : PySem.W.readsIn K (CTa K) (.type "type") = true
  vT : PySem.W.findCls K (.ref (CTa K)) (.type "type") "__init__" = some (.val (.builtin "ValueError.__init__"))
section
variable {X : Cx} {o e : Expr} {es : List Expr} {to te : TE} {ta : TA} {f : Str} {p p' p1 p2 pos : Pos}
theorem pe_tinit {pl : Sem Bool} (E : Exs X.K) (hm : X.mg "TaleError" = some (.ref (CTa X.K))) (ha : PA X (e :: es) ta) (hg : Gl X "TaleError" := by rfl)
    (hc : eval (.Call (.Attribute (.Name "TaleError" p1) "__init__" p2) (e :: es) [] pos) X.env = (do
      let ov ← eval (.Name "TaleError" p1) X.env
      standAt p2.atName
      let (f, first) ← holding [ov] (getMethod ov "__init__" pl)
      callWith pos f first (backTo pos (starEach (e :: es) X.env)) (backToKw pos (keywordEach [] X.env))) := by rfl)
    (he : starEach (e :: es) X.env = (false, eval e X.env) :: starEach es X.env := by rfl) (hpl : (backTo pos (starEach es X.env)).any (·.1) = false := by rfl) :
    PE X (.Call (.Attribute (.Name "TaleError" p1) "__init__" p2) (e :: es) [] pos) (tVeI X.K ta) := by
  refine ⟨fun pins s σ H Q I h => ?_⟩
  refine PySem.W.methodCall_KW (ld_glob I hg hm ?_ (by decide)) hc
  refine PySem.W.method_cls I.kIn E.sT (PySem.W.cls_value I.kIn E.rT E.vT (by decide +kernel) ?_)
  show wpAny _ _ (callWith pos (Value.builtin "ValueError.__init__") [] (backTo pos (starEach (e :: es) X.env)) []) _ _ _
  refine PyProof.Rows.callWith_method1 (thn (ha.run pos pins _ σ H _ (I.tok _) h) fun us s1 ⟨vs, H1, I1, r1, a, C, ws, ev, hl, T, ea, q⟩ => ?_) he hpl
  subst ev
  cases r1 with
  | @cons _ u0 _ ur ra rw' =>
    obtain rfl : u0 = Value.ref a := ra
    have hlen : ur.length ≤ sizeLine := by
      rw [← Paired.length rw', sizeLine_eq]
      omega
    exact oinit_ok T I1 ea hlen fun s' J => ⟨.non, H1, J, rfl, q⟩
end
section
variable {P : Program} {w : World} {K : PySem.W.Frag} {mg : Str → Option Value} {base : Heap}
/-- NoStory.__init__(self, word, at) -/
def spInit (K : PySem.W.Frag) : Sp := fun vs H Q _ => ∃ (a : Addr) (v1 v2 : V), vs = [.ref a, v1, v2] ∧ H a = some (exo a (CNo K) none) ∧
  ∀ dx, H dx = none → dx ≠ a → Q .non (upd (upd (upd H dx (exd dx [("word", v1)])) a (exo a (CNo K) (some dx))) dx (exd dx [("at", v2), ("word", v1)]))
theorem has_init (T : Top K mg) (E : Exs K) : ∃ fd, FnOk P w K mg base CX0 1 (FIn K) fd ["self", "word", "at"] (spInit K) ∧ Binds K fd ["self", "word", "at"] [] := by
  obtain ⟨fd, F⟩ := T.df 64 d_init rfl
  have e1 : d_init.dvs K = [] := rfl
  have e2 : d_init.kws K = [] := rfl
  have e3 : He.fAd K d_init.at_ = FIn K := rfl
  rw [e1, e2, e3] at F
  have hN : (["self", "word", "at"] : List Str).Nodup := by decide +kernel
  refine ⟨fd, F.ok (N := ["self", "word", "at"]) ⟨rfl, rfl, rfl, hN, rfl, by decide +kernel, by decide +kernel⟩ (fun vs H Q E h => ?_) (fun cdv Ar outer s H vs Q Ex hr h => ⟨tSeq (tDrop (tVeI K (tCons (tVar 0) (tCons (tC (.str "a story that is not whole")) tNil)))) (tSeq (tOst K "word" (tVar 0) (tVar 1)) (tOst K "at" (tVar 0) (tVar 2))), PSs.nox ?_, ?_⟩), F.bindsN fun _ _ _ _ _ _ us hl => match us, hl with | [_, _, _], _ => rfl⟩
  · obtain ⟨a, v1, v2, rfl, _⟩ := h
    rfl
  · exact pss_cons (ps_expr (pe_tinit E T.g_TaleError (pa_cons (pe_var (i := 0) rfl (Or.inl rfl)) (pa_cons pe_str pa_nil)))) (pss_cons (ps_ost (pe_var (i := 0) rfl (Or.inl rfl)) (pe_var (i := 1) rfl (Or.inl rfl))) (pss_one (ps_ost (pe_var (i := 0) rfl (Or.inl rfl)) (pe_var (i := 2) rfl (Or.inl rfl)))))
  · obtain ⟨a, v1, v2, rfl, ha, q⟩ := h
    refine ⟨.ref a, rfl, a, CNo K, [.str "a story that is not whole"], rfl, by decide, E.ox, ha, ?_⟩
    refine ⟨v1, rfl, .ref a, rfl, a, CNo K, rfl, E.ox, E.nw, .inl ⟨ha, fun dx hd hne => ?_⟩⟩
    refine ⟨v2, rfl, .ref a, rfl, a, CNo K, rfl, E.ox, E.na, .inr ⟨dx, [("word", v1)], upd_same, ?_, by simp, ?_⟩⟩
    · rw [upd_ne hne]
      exact upd_same
    · exact q dx hd hne
end
/-! ### defs that may raise NoStory -/
abbrev AccX := Gx → Nat → List D → (Nat → D → Prop) → (Nat → D → D → Prop) → Prop
/-- NoStory(word, at) flies: its fields at dx -/
def spX (K : PySem.W.Frag) (A : AccX) : Sp := fun vs H Q E => ∃ (g : Gx) (W : List Addr) (n : Nat) (ds : List D) (Qd : Nat → D → Prop) (Qe : Nat → D → D → Prop), A g n ds Qd Qe ∧ g.J n H ∧ GW g W ∧ (∀ a ∈ W, ∃ o, H a = some o) ∧ DDs K W H vs ds ∧
  (∀ n' d v H', Qd n' d → Ext g.G H H' → g.J n' H' → DD K W H' v d → Q v H') ∧
  ∀ n' d1 d2 v1 v2 dx H', Qe n' d1 d2 → Ext g.G H H' → g.J n' H' → H' dx = some (.xd [("at", v2), ("word", v1)]) → DD K W H' v1 d1 → DD K W H' v2 d2 → E (.ref (CNo K)) (some dx) H'
structure HasX (P : Program) (w : World) (K : PySem.W.Frag) (mg : Str → Option Value) (base : Heap) (k : Nat) (x : Str) (ps : List Str) (A : AccX) : Prop where
  ok : ∃ fd, FnOk P w K mg base (L2.CX P w) k (He.ga K x) fd ps (spX K A) ∧ Binds K fd ps []
  m : mg x = some (.ref (He.ga K x))
  kp : PySem.W.keepIn K (.ref (He.ga K x)) = true
theorem HasX.imp {P : Program} {w : World} {K : PySem.W.Frag} {mg : Str → Option Value} {base : Heap} {k k' : Nat} {x : Str} {ps : List Str} {A : AccX} (T : HasX P w K mg base k x ps A) (hk : k ≤ k') : HasX P w K mg base k' x ps A := by
  obtain ⟨fd, F, B⟩ := T.ok
  exact ⟨⟨fd, F.mono hk, B⟩, T.m, T.kp⟩
/-- what is wished of what flies -/
def XC (X : Cx) (Wx : WX) (g : Gx) (H0 : Hp) (W0 : List Addr) (rx : Nat → D → D → Prop) : Prop := Takes X Wx ∧ ∀ n' d1 d2 v1 v2 dx σ' H', rx n' d1 d2 → Ext g.G H0 H' → g.J n' H' → H' dx = some (.xd [("at", v2), ("word", v1)]) → DD X.K W0 H' v1 d1 → DD X.K W0 H' v2 d2 → Wx (.ref (CNo X.K)) (some dx) σ' H'
section
variable (X : Cx) (g : Gx) (n : Nat) (ρ : List SV)
def HSX (st : Stmt) (nx : Nat → List SV → Prop) (rt : Nat → SV → Prop) (rx : Nat → D → D → Prop) : Prop := ∀ (Wx : WX) (H0 : Hp) (W0 : List Addr) (τ : List (V × D)) (σ : L2.St) (H : Hp), XC X Wx g H0 W0 rx → SI X.K g H0 W0 n ρ τ σ H → ∀ Dd : Ends,
  (∀ n' ρ' σ' H', nx n' ρ' → SI X.K g H0 W0 n' ρ' τ σ' H' → Dd.nx σ' H') → (∀ n' r v H', rt n' r → Ext g.G H0 H' → g.J n' H' → RO X.K W0 H0 H' v r → Dd.rt v H') → WS X st Dd σ H
def HSsX (st : List Stmt) (nx : Nat → List SV → Prop) (rt : Nat → SV → Prop) (rx : Nat → D → D → Prop) : Prop := ∀ (Wx : WX) (H0 : Hp) (W0 : List Addr) (τ : List (V × D)) (σ : L2.St) (H : Hp), XC X Wx g H0 W0 rx → SI X.K g H0 W0 n ρ τ σ H → ∀ Dd : Ends,
  (∀ n' ρ' σ' H', nx n' ρ' → SI X.K g H0 W0 n' ρ' τ σ' H' → Dd.nx σ' H') → (∀ n' r v H', rt n' r → Ext g.G H0 H' → g.J n' H' → RO X.K W0 H0 H' v r → Dd.rt v H') → WSs X st Dd σ H
end
section
variable {X : Cx} {g : Gx} {n : Nat} {ρ : List SV} {st : Stmt} {sts body orelse : List Stmt} {e c tg iter : Expr} {es : List Expr} {pos pos' p : Pos} {nx : Nat → List SV → Prop} {rt : Nat → SV → Prop} {rx : Nat → D → D → Prop} {x : Str} {i k : Nat} {ps : List Str} {A : AccX}
theorem hsx_of (h : HS X g n ρ st nx rt) : HSX X g n ρ st nx rt rx := fun Wx H0 W0 τ σ H _ S Dd q1 q2 => h H0 W0 τ σ H S Dd q1 q2
theorem hssx_nil (h : nx n ρ) : HSsX X g n ρ [] nx rt rx := fun Wx H0 W0 τ σ H _ S Dd q1 q2 => pss_nil.wpr (q1 n ρ σ H h S)
theorem hssx_cons (h : HSX X g n ρ st (fun n' ρ' => HSsX X g n' ρ' sts nx rt rx) rt rx) : HSsX X g n ρ (st :: sts) nx rt rx := fun Wx H0 W0 τ σ H xc S Dd q1 q2 => by
  refine (pss_cons psW pssW).wpr ?_
  exact h Wx H0 W0 τ σ H xc S { Dd with nx := WSs X sts Dd } (fun n' ρ' σ' H' hn S' => hn Wx H0 W0 τ σ' H' xc S' Dd q1 q2) q2
theorem hsx_ifP (pp : Bool) (h : HT X g n ρ c fun n' b => n' = n ∧ b = pp) (h1 : pp = true → HSsX X g n ρ body nx rt rx) (h2 : pp = false → HSsX X g n ρ orelse nx rt rx) : HSX X g n ρ (.If c body orelse pos) nx rt rx := fun Wx H0 W0 τ σ H xc S Dd q1 q2 => by
  obtain ⟨W, w1, w2, k, w3⟩ := S.ex
  refine (ps_if ptW pssW pssW).wpr (h W σ H k _ fun n' b H' q e j => ?_)
  obtain ⟨rfl, rfl⟩ := q
  have S' := S.step k e j
  cases b with
  | true => exact h1 rfl Wx H0 W0 τ σ H' xc S' Dd q1 q2
  | false => exact h2 rfl Wx H0 W0 τ σ H' xc S' Dd q1 q2
theorem hsx_for (hc : X.calm = true) (hp : PassesOwn (model X.prog X.w) X.A X.env X.xe)
    (h : HI X g n ρ tg iter fun n1 ds => ∃ I : Nat → Nat → List SV → Prop, I 0 n1 ρ ∧ (∀ i d m ρ1, ds[i]? = some d → I i m ρ1 → ∃ vs ρ2, HG X g ρ1 vs tg d ρ2 ∧ HSsX X g m ρ2 body (fun m' ρ' => I (i + 1) m' ρ') rt rx) ∧ ∀ m ρ1, I ds.length m ρ1 → nx m ρ1)
    (hs : ∀ x, foldedSetIterable iter X.env x = pure x := by intro _; rfl) : HSX X g n ρ (.For tg iter body [] pos) nx rt rx := fun Wx H0 W0 τ σ H xc S Dd q1 q2 => by
  obtain ⟨wi, pi, hi⟩ := h
  obtain ⟨W, h1, h2, k, h3⟩ := S.ex
  refine (ps_for hp hc pi pgW pssW hs).wpr (hi W σ H k _ fun n1 ds J τf H1 hI e1 j1 F hτ => ?_)
  obtain ⟨I, I0, turn, fin⟩ := hI
  have S1 := (S.step k e1 j1).push h1 h2 (k.step e1 j1) (fun p hp => (h3 p hp).ext (k.extW e1)) hτ
  refine ⟨fun i m σ' H' => i + m = ds.length ∧ ∃ n' ρ', I i n' ρ' ∧ SI X.K g H0 W0 n' ρ' (τf ++ τ) σ' H', ⟨ds.length, by omega, n1, ρ, I0, S1⟩, fun i m σ' H' hW => ?_⟩
  obtain ⟨hm, n', ρ', hi', S'⟩ := hW
  obtain ⟨W', h1', h2', k', h3'⟩ := S'.ex
  have hτ' : ∀ p ∈ τf, DD X.K W' H' p.1 p.2 := fun p hp => h3' p (List.mem_append_left _ hp)
  cases q : ds[i]? with
  | none =>
    have hl : ds.length ≤ i := List.getElem?_eq_none_iff.mp q
    have ei : i = ds.length := by omega
    subst ei
    exact .inl ⟨F.stop _ H' hτ', q1 n' ρ' σ' H' (fin n' ρ' hi') S'.popT⟩
  | some d =>
    have hlt : i < ds.length := (List.getElem?_eq_some_iff.mp q).1
    refine .inr ⟨F.go _ H' hτ' i d q, fun σ'' H'' => ∃ n' ρ', I (i + 1) n' ρ' ∧ SI X.K g H0 W0 n' ρ' (τf ++ τ) σ'' H'', fun σ'' H'' hn => ⟨m - 1, by omega, by omega, hn⟩, fun x H3 hy => ?_⟩
    obtain ⟨s3, dx⟩ := F.yld _ H' hτ' k'.trk i d q x H3 hy
    obtain ⟨vs, ρ2, hg, hb⟩ := turn i d n' ρ' q hi'
    refine (S'.step k' (.of_same s3) (g.same k'.j s3)).hg hg h1' h2' (k'.same s3) (fun p hp => (h3' p hp).same s3) dx fun σ2 H2 S2 => ?_
    exact hb Wx H0 W0 (τf ++ τ) σ2 H2 xc S2 _ (fun n3 ρ3 σ3 H3 i3 S3 => ⟨n3, ρ3, i3, S3⟩) q2
/-- a call that may raise, its value dropped -/
theorem hsx_call (T : HasX X.prog X.w X.K X.mg X.base k x ps A) (hr : Room k X.A) (h : HA X g n ρ (e :: es) fun n' ds => A g n' ds (fun n2 _ => nx n2 ρ) rx) (hg : Gl X x := by rfl) (hdb : (x == ("__debug__" : Str)) = false := by decide)
    (he : starEach (e :: es) X.env = (false, eval e X.env) :: starEach es X.env := by rfl) (hpl : (backTo p (starEach es X.env)).any (·.1) = false := by rfl) {p2 : Pos} (hsw : swapsWith (.Call (.Name x p2) (e :: es) [] p) none pos.line X.env = pure false := by rfl) : HSX X g n ρ (.Expr (.Call (.Name x p2) (e :: es) [] p) pos) nx rt rx := fun Wx H0 W0 τ σ H xc S Dd q1 q2 => by
  obtain ⟨W, w1, w2, kk, w3⟩ := S.ex
  obtain ⟨fd, F, B⟩ := T.ok
  refine (ps_expr (pe_call (E := fun cls d H' => ∀ σ', Wx cls d σ' H') F hr hg T.m T.kp B .nil (L2.passes_call xc.1 fun cls d σ' H' z => z σ') paW hdb he hpl) hsw).wpr ?_
  refine h W σ H kk _ fun n1 ds vs H1 q e1 j1 dd => ?_
  have k1 := kk.step e1 j1
  have S1 := S.step kk e1 j1
  rw [List.append_nil]
  refine ⟨g, W, n1, ds, _, _, q, j1, k1.gw, k1.trk, dd, fun n' d v H' qd e2 j2 d2 => q1 n' ρ σ H' qd (S1.step k1 e2 j2), fun n' d1 d2 v1 v2 dx H' qe e2 j2 hx b1 b2 σ' => ?_⟩
  exact xc.2 n' d1 d2 v1 v2 dx σ' H' qe ((S.ext.trans e1).trans e2) j2 hx (DD.toW0 w1 b1) (DD.toW0 w1 b2)
end
section
variable {P : Program} {w : World} {K : PySem.W.Frag} {mg : Str → Option Value} {base : Heap}
abbrev CxX (P : Program) (w : World) (K : PySem.W.Frag) (mg : Str → Option Value) (base : Heap) (N : List Str) (qual : Str) (scope : Scope) (f : Addr) (cd : Value) (A : Around) (outer : List Env) (s : Shared) (H : Hp) (E : XK) : Cx := cxOf (L2.CX P w) P w K mg base N qual scope f cd A outer s H E
theorem has_ofX (T : Top K mg) {i : Nat} {d : He.DefD} {N ps : List Str} {k : Nat} {A : AccX} (hd : fn[i]? = some d) (S : FnScope N ps d.scope) (hx : glos.contains d.name = true) (hat : d.at_ = (d.name, none)) (hdf : d.dfl = []) (hkw : d.kwd = [])
    (hb : ∀ (kV doc pm : Value) (an : Option Addr) (cdv ct : Value) (us : List Value), us.length = ps.length → bindArgs (PySem.W.fnOf d.name d.qual d.params d.body d.scope .none kV doc pm an cdv ct) ⟨us, []⟩ = pure (ps.zip us))
    (hlen : ∀ g n ds Q Qe, A g n ds Q Qe → ds.length = ps.length)
    (hbody : ∀ (cd : Value) (Ar : Around) (outer : List Env) (s : Shared) (H : Hp) (E : XK), Room k (CxX P w K mg base N d.qual d.scope (He.ga K d.name) cd Ar outer s H E).A → PassesOwn (model P w) (CxX P w K mg base N d.qual d.scope (He.ga K d.name) cd Ar outer s H E).A (CxX P w K mg base N d.qual d.scope (He.ga K d.name) cd Ar outer s H E).env (CxX P w K mg base N d.qual d.scope (He.ga K d.name) cd Ar outer s H E).xe →
      ∀ g n ds Q Qe, A g n ds Q Qe → HSsX (CxX P w K mg base N d.qual d.scope (He.ga K d.name) cd Ar outer s H E) g n (slots N ds) d.body (fun n' _ => Q n' .non) (rtQ Q) Qe) : HasX P w K mg base (k + 1) d.name ps A := by
  obtain ⟨fd, F⟩ := T.df i d hd
  obtain ⟨m1, m2⟩ := T.gl d.name hx
  have e1 : d.dvs K = [] := by unfold He.DefD.dvs; rw [hdf]; rfl
  have e2 : d.kws K = [] := by unfold He.DefD.kws; rw [hkw]; rfl
  have e3 : He.fAd K d.at_ = He.ga K d.name := by rw [hat]; rfl
  rw [e1, e2, e3] at F
  refine ⟨⟨fd, F.ok S (fun vs H Q E h => ?_) (fun cdv Ar outer s H vs Q E hr h => ⟨_, pssW, ?_⟩), F.bindsN hb⟩, m1, m2⟩
  · obtain ⟨g, W, n, ds, Qd, Qe, h1, _, _, _, h5, _⟩ := h
    rw [h5.length]
    exact hlen g n ds Qd Qe h1
  · obtain ⟨g, W, n, ds, Qd, Qe, h1, h2, h3, h4, h5, h6, h7⟩ := h
    have tk : Takes (CxX P w K mg base N d.qual d.scope (He.ga K d.name) cdv Ar outer s H E) (fun cls d _ H => E cls d H) := L2.takes_of rfl rfl rfl rfl
    have po : PassesOwn (model P w) (CxX P w K mg base N d.qual d.scope (He.ga K d.name) cdv Ar outer s H E).A (CxX P w K mg base N d.qual d.scope (He.ga K d.name) cdv Ar outer s H E).env (CxX P w K mg base N d.qual d.scope (He.ga K d.name) cdv Ar outer s H E).xe := L2.passes_of rfl
    refine hbody cdv Ar outer s H E hr po g n ds Qd Qe h1 _ H W [] _ H ⟨tk, fun n' d1 d2 v1 v2 dx σ' H' qe e j hx b1 b2 => h7 n' d1 d2 v1 v2 dx H' qe e j hx b1 b2⟩ (entry h2 h3 h4 h5) _ (fun n' ρ' σ' H' q S' => ?_) fun n' r v H' q e j ro => ?_
    · obtain ⟨W', _, _, k', _⟩ := S'.ex
      exact h6 n' .non .non H' q S'.ext k'.j .non
    · cases r with
      | dat d => exact h6 n' d v H' q e j ro
      | own es =>
        obtain ⟨a, xs, rfl, na, ha, hx⟩ := ro
        refine h6 n' (.lst es) _ H' q e j (.lst (fun z => ?_) ha (hx.mono (fun _ z => List.mem_cons_of_mem _ z) (fun _ _ _ z => z)))
        obtain ⟨o, q⟩ := h4 a z
        rw [na] at q
        cases q
      | no => exact q.elim
end
end Fk
set_option Elab.async false
set_option linter.all false
set_option maxRecDepth 100000
set_option maxHeartbeats 4000000
/-! X2: need; what names are there. -/
namespace Fk
open PySem PySem.Spec PyProof.Rows L2
section
variable {X : Cx} {g : Gx} {n : Nat} {ρ : List SV} {e1 e2 : Expr} {p pos pos' : Pos} {nx : Nat → List SV → Prop} {rt : Nat → SV → Prop} {rx : Nat → D → D → Prop} {k : Nat}
theorem hsx_raise (T : Top X.K X.mg) (E : Exs X.K) (hr : Room 2 X.A) (h : HA X g n ρ [e1, e2] fun n' ds => ∃ d1 d2, ds = [d1, d2] ∧ rx n' d1 d2) (hc : X.calm = true := by rfl) (hg : Gl X "NoStory" := by rfl)
    (he : starEach [e1, e2] X.env = (false, eval e1 X.env) :: starEach [e2] X.env := by rfl) (hpl : (backTo pos (starEach [e2] X.env)).any (·.1) = false := by rfl) : HSX X g n ρ (.Raise (some (.Call (.Name "NoStory" p) [e1, e2] [] pos)) none pos') nx rt rx := fun Wx H0 W0 τ σ H xc S Dd q1 q2 => by
  obtain ⟨W, w1, w2, kk, w3⟩ := S.ex
  obtain ⟨fd, F, B⟩ := has_init (P := X.prog) (w := X.w) (base := X.base) T E
  refine (L2.ps_raise hc xc.1 (pmk_oex E.ox E.iC E.tI F hr B .nil pass0 hg T.g_NoStory paW (by decide) he hpl)).wpr ?_
  refine h W σ H kk _ fun n1 ds vs H1 q e j dd => ?_
  obtain ⟨d1, d2, rfl, q⟩ := q
  cases dd with
  | @cons v1 _ _ _ b1 t =>
    cases t with
    | @cons v2 _ _ _ b2 t =>
      cases t
      refine ⟨by simp, fun a ha => ⟨a, v1, v2, rfl, upd_same, fun dx hd hne => ?_⟩⟩
      rw [upd_ne hne] at hd
      refine ⟨rfl, dx, [("at", v2), ("word", v1)], ?_, upd_same, hd, ?_⟩
      · rw [upd_ne (Ne.symm hne)]
        exact upd_same
      · have hfin : ∀ b, b ≠ dx → (upd (L2.del (upd (upd (upd (upd H1 a (exo a (CNo X.K) none)) dx (exd dx [("word", v1)])) a (exo a (CNo X.K) (some dx))) dx (exd dx [("at", v2), ("word", v1)])) a) dx (.xd [("at", v2), ("word", v1)])) b = H1 b := fun b hb => by
          rw [upd_ne hb]
          by_cases hba : b = a
          · rw [hba, L2.del_same, ha]
          · rw [L2.del_ne hba, upd_ne hb, upd_ne hba, upd_ne hb, upd_ne hba]
        have sm : Same H1 (upd (L2.del (upd (upd (upd (upd H1 a (exo a (CNo X.K) none)) dx (exd dx [("word", v1)])) a (exo a (CNo X.K) (some dx))) dx (exd dx [("at", v2), ("word", v1)])) a) dx (.xd [("at", v2), ("word", v1)])) := fun b o hb => by
          rw [hfin b fun z => by rw [z, hd] at hb; cases hb]
          exact hb
        exact xc.2 n1 d1 d2 v1 v2 dx σ _ q ((S.ext.trans e).trans (.of_same sm)) (g.same j sm) upd_same (DD.toW0 w1 (b1.same sm)) (DD.toW0 w1 (b2.same sm))
end
section
variable {P : Program} {w : World} {K : PySem.W.Frag} {mg : Str → Option Value} {base : Heap}
def aNeed : AccX := fun _ n ds Q Qe => ∃ b d1 d2, ds = [.bl b, d1, d2] ∧ (b = true → Q n .non) ∧ (b = false → Qe n d1 d2)
theorem has_need (T : Top K mg) (Ex : Exs K) : HasX P w K mg base 3 "need" ["truth", "word", "at"] aNeed := by
  have hN : (["truth", "word", "at"] : List Str).Nodup := by decide +kernel
  refine has_ofX (N := ["truth", "word", "at"]) T (i := 41) (d := d_need) rfl ⟨rfl, rfl, rfl, hN, rfl, by decide +kernel, by decide +kernel⟩ (by decide +kernel) rfl rfl rfl (fun _ _ _ _ _ _ us hl => match us, hl with | [_, _, _], _ => rfl) (fun g n ds Q Qe h => by obtain ⟨_, _, _, rfl, _⟩ := h; rfl) fun cd Ar outer s H E hr po g n ds Q Qe h => ?_
  obtain ⟨b, d1, d2, rfl, q1, q2⟩ := h
  refine hssx_cons (hsx_ifP (!b) (ht_notP (ht_valP (he_name (i := 0) rfl rfl ⟨rfl, rfl⟩))) (fun e => ?_) fun e => hssx_nil (hssx_nil (q1 (by simpa using e))))
  exact hssx_cons (hsx_raise T Ex hr (ha_cons (he_name (i := 1) rfl rfl (ha_cons (he_name (i := 2) rfl rfl (ha_nil ⟨d1, d2, rfl, q2 (by simpa using e)⟩))))))
/-! ### what names are there -/
def kfI : D → Str
  | .tup [.str s, _] => s
  | _ => Str.empty
def rowD (kf : D → Str) (ds : List D) : D := .dic ((dputs kf (fun _ => .bl true) ds).map (·.1)) ((dputs kf (fun _ => .bl true) ds).map (·.2))
def vfI : D → D
  | .tup [_, own] => rowD key0 (items own)
  | _ => .non
def thereD (nu pl fi sc : D) : D := .dic ["number", "figure", "scene", "place"] [rowD key0 (items nu), rowD key0 (items fi), rowD key0 (items sc), rowD text (items pl)]
end
end Fk
set_option Elab.async false
set_option linter.all false
set_option maxRecDepth 100000
set_option maxHeartbeats 4000000
/-! X3: names_there. -/
namespace Fk
open PySem PySem.Spec PyProof.Rows L2
/-- a story's parts -/
structure StoryOk (nu pl dr fi dg sc : List D) (bg : Str) : Prop where
  nu : ∀ e ∈ nu, isBounded e = true
  pl : ∀ e ∈ pl, isWord e = true
  dr : ∀ e ∈ dr, isDoor e = true
  fi : ∀ e ∈ fi, isPair e = true
  sc : ∀ e ∈ sc, isScene e = true
theorem story_inv {d : D} (h : isStory d = true) : ∃ nu pl dr fi dg sc bg, d = .tup [.tup nu, .tup pl, .tup dr, .tup fi, .tup dg, .tup sc, .str bg] ∧ StoryOk nu pl dr fi dg sc bg := by
  unfold isStory at h
  split at h
  · rename_i nu pl dr fi dg sc bg
    simp only [Bool.and_eq_true] at h
    obtain ⟨⟨⟨h1, h2⟩, h3⟩, ⟨⟨h4, h5⟩, h6⟩, ⟨h7, h8⟩, h9⟩ := h
    have tup : ∀ {p : D → Bool} {d : D}, areAll p d = true → ∃ es, d = .tup es ∧ ∀ e ∈ es, p e = true := fun {p d} h => by
      cases d <;> first | exact ⟨_, rfl, List.all_eq_true.mp h⟩ | cases h
    have ntup : ∀ {p : D → Bool} {d : D}, named p d = true → ∃ es, d = .tup es ∧ ∀ e ∈ es, p e = true := fun {p d} h => tup (by
      rw [← named_eq, Bool.and_eq_true] at h
      exact h.1)
    obtain ⟨nu, rfl, g1⟩ := ntup h1
    obtain ⟨pl, rfl, g2⟩ := tup h2
    obtain ⟨dr, rfl, g4⟩ := tup h4
    obtain ⟨fi, rfl, g6⟩ := ntup h6
    obtain ⟨dg, rfl, g7⟩ := tup h7
    obtain ⟨sc, rfl, g8⟩ := ntup h8
    obtain ⟨bg, rfl⟩ := isWord_str h9
    exact ⟨nu, pl, dr, fi, dg, sc, bg, rfl, ⟨g1, g2, g4, g6, g8⟩⟩
  · cases h
section
variable {P : Program} {w : World} {K : PySem.W.Frag} {mg : Str → Option Value} {base : Heap}
def aThere : Acc := fun _ n ds Q => ∃ nu pl dr fi dg sc bg, ds = [.tup [.tup nu, .tup pl, .tup dr, .tup fi, .tup dg, .tup sc, .str bg]] ∧ StoryOk nu pl dr fi dg sc bg ∧ (D.tup [.tup nu, .tup pl, .tup dr, .tup fi, .tup dg, .tup sc, .str bg]).fit FU = true ∧ Q n (thereD (.tup nu) (.tup pl) (.tup fi) (.tup sc))
theorem rows_dput (a b c : D) : dputs kfI vfI (itemsD ["number", "figure", "scene"] [a, b, c]) = ([("number", rowD key0 (items a)), ("figure", rowD key0 (items b)), ("scene", rowD key0 (items c))] : List (Str × D)) := rfl
theorem key_row {e : D} (h : isBounded e = true ∨ isPair e = true ∨ isScene e = true) : ∃ s as, e = .tup (.str s :: as) := by
  rcases h with h | h | h
  · obtain ⟨s, i, j, k, rfl, _⟩ := bounded_row h
    exact ⟨s, _, rfl⟩
  · obtain ⟨s, t, rfl, _⟩ := pair_row h
    exact ⟨s, _, rfl⟩
  · exact scene_key h
theorem has_there (T : Top K mg) : Has P w K mg base 1 "names_there" ["story"] aThere := by
  have hN : (["story", "numbers", "places", "doors", "figures", "digits", "scenes", "begin", "rows", "found", "row", "sort", "own", "place"] : List Str).Nodup := by decide +kernel
  refine has_of (N := ["story", "numbers", "places", "doors", "figures", "digits", "scenes", "begin", "rows", "found", "row", "sort", "own", "place"]) T (i := 40) (d := d_names_there) rfl ⟨rfl, rfl, rfl, hN, rfl, by decide +kernel, by decide +kernel⟩ (by decide +kernel) rfl rfl rfl (fun _ _ _ _ _ _ us hl => match us, hl with | [_], _ => rfl) (fun g n ds Q h => by obtain ⟨_, _, _, _, _, _, _, rfl, _⟩ := h; rfl) fun cd Ar outer s H E hr g n ds Q h => ?_
  obtain ⟨nu, pl, dr, fi, dg, sc, bg, rfl, S, hf, q⟩ := h
  have hk : ∀ x ∈ [D.tup nu, .tup pl, .tup dr, .tup fi, .tup dg, .tup sc, .str bg], x.fit FU = true := fit_el hf
  have l1 := fit_len (hk (.tup nu) (by simp))
  have l2 := fit_len (hk (.tup pl) (by simp))
  have l3 := fit_len (hk (.tup fi) (by simp))
  have l4 := fit_len (hk (.tup sc) (by simp))
  refine hss_cons (hs_asg (he_name (i := 0) rfl rfl ⟨_, _, hg_tup rfl (hgs_cons (hg_name (i := 1) hN rfl) (hgs_cons (hg_name (i := 2) hN rfl) (hgs_cons (hg_name (i := 3) hN rfl) (hgs_cons (hg_name (i := 4) hN rfl) (hgs_cons (hg_name (i := 5) hN rfl) (hgs_cons (hg_name (i := 6) hN rfl) (hgs_cons (hg_name (i := 7) hN rfl) hgs_nil))))))) rfl, ?_⟩))
  refine hss_cons (hs_set (i := 8) hN rfl (he_disp (hp_cons (he_name (i := 1) rfl rfl (hp_cons (he_name (i := 4) rfl rfl (hp_cons (he_name (i := 6) rfl rfl (hp_nil ⟨by decide +kernel, by decide, ?_⟩)))))))))
  refine hss_cons (hs_setDcItems (i := 9) (r := 8) (ρ0 := [.no, .no, .no, .no, .no, .no, .no, .no, .no, .no, .no, .no, .no, .no]) kfI vfI (own := [("sort", 11), ("own", 12)]) rfl hN ?_ (own2 rfl rfl) rfl rfl rfl rfl ?_ ?_ ⟨FU, ?_⟩ (by decide) (fun g' d hd => ?_) ?_)
  · exact (show BlkOk (["story", "numbers", "places", "doors", "figures", "digits", "scenes", "begin", "rows", "found", "row", "sort", "own", "place"] : List Str) d_names_there.scope _ _ from ⟨rfl, by decide +kernel, by decide +kernel, by decide +kernel, by decide +kernel⟩)
  · intro i d h
    match i, h with
    | 0, h | 1, h | 2, h | 3, h | 4, h | 5, h | 6, h | 7, h | 8, h | 9, h | 10, h | 11, h | 12, h | 13, h => cases h
    | i + 14, h => simp at h
  · intro i ds h
    match i, h with
    | 0, h | 1, h | 2, h | 3, h | 4, h | 5, h | 6, h | 7, h | 8, h | 9, h | 10, h | 11, h | 12, h | 13, h => cases h
    | i + 14, h => simp at h
  · exact fits_of fun d hd => by
      simp only [List.mem_cons, List.not_mem_nil, or_false] at hd
      rcases hd with rfl | rfl | rfl
      · exact hk _ (by simp)
      · exact hk _ (by simp)
      · exact hk _ (by simp)
  · have rows : ∃ s es, d = .tup [.str s, .tup es] ∧ es.length ≤ 1000 ∧ ∀ e ∈ es, ∃ t as, e = .tup (.str t :: as) := by
      simp only [itemsD, List.mem_cons, List.not_mem_nil, or_false] at hd
      rcases hd with rfl | rfl | rfl
      · exact ⟨_, nu, rfl, l1, fun e he => key_row (.inl (S.nu e he))⟩
      · exact ⟨_, fi, rfl, l3, fun e he => key_row (.inr (.inl (S.fi e he)))⟩
      · exact ⟨_, sc, rfl, l4, fun e he => key_row (.inr (.inr (S.sc e he)))⟩
    obtain ⟨s0, es, rfl, hl, hrow⟩ := rows
    refine ⟨_, fun s H C cl fp => hg_two rfl hN rfl rfl (by decide), fun s H C cl fp => he_name (i := 11) rfl rfl ⟨rfl, rfl⟩, fun s H C cl fp => ?_⟩
    refine he_dc key0 (fun _ => .bl true) (own := [("row", 10)]) rfl hN ?_ (own1 rfl) (hi_tup (he_name (i := 12) rfl rfl ⟨es, rfl, hl, fun e he => ?_, rfl, rfl⟩))
    · exact ⟨rfl, by decide +kernel, (show ∀ p ∈ _, (["story", "numbers", "places", "doors", "figures", "digits", "scenes", "begin", "rows", "found", "row", "sort", "own", "place"] : List Str)[(p : Str × Nat).2]? = some p.1 from by decide +kernel), fun y hy e => absurd e ((show ∀ y ∈ Scope.names _, (y : Str × NameKind).2 ≠ .free from by decide +kernel) y hy), (show ∀ y ∈ Scope.names _, (y : Str × NameKind).2 = .local ∨ y.2 = .cell → y.1 ∈ _ ∨ y.1 ∉ (["story", "numbers", "places", "doors", "figures", "digits", "scenes", "begin", "rows", "found", "row", "sort", "own", "place"] : List Str) from by decide +kernel)⟩
    · obtain ⟨t, as, rfl⟩ := hrow e he
      exact ⟨_, fun s H C cl fp => hg_name hN rfl, fun s H C cl fp => he_ixT (he_name (i := 10) rfl rfl (he_int ⟨_, _, .str t, rfl, rfl, atI_0, rfl, rfl⟩)), fun s H C cl fp => he_bl ⟨rfl, rfl⟩⟩
  · rw [rows_dput]
    refine hss_cons (hs_ret (he_orD (he_name (i := 9) rfl rfl (he_disp (hp_cons ?_)))))
    refine he_dc text (fun _ => .bl true) (own := [("place", 13)]) rfl hN ?_ (own1 rfl) (hi_tup (he_name (i := 2) rfl rfl ⟨pl, rfl, l2, fun e he => ?_, hp_nil ⟨by decide +kernel, by decide, _, _, _, _, rfl, rfl, (show (["number", "figure", "scene", "place"] : List Str).Nodup by decide +kernel), (show (4 : Nat) ≤ sizeLine by decide), q⟩⟩))
    · exact (show BlkOk (["story", "numbers", "places", "doors", "figures", "digits", "scenes", "begin", "rows", "found", "row", "sort", "own", "place"] : List Str) d_names_there.scope _ _ from ⟨rfl, by decide +kernel, by decide +kernel, by decide +kernel, by decide +kernel⟩)
    · obtain ⟨t, rfl⟩ := isWord_str (S.pl e he)
      exact ⟨_, fun s H C cl fp => hg_name hN rfl, fun s H C cl fp => he_name (i := 13) rfl rfl ⟨rfl, rfl⟩, fun s H C cl fp => he_bl ⟨rfl, rfl⟩⟩
end
end Fk
set_option Elab.async false
set_option linter.all false
set_option maxRecDepth 100000
set_option maxHeartbeats 4000000
/-! X4: lets_ground. -/
namespace Fk
open PySem PySem.Spec PyProof.Rows L2
def hasKey (kf : D → Str) (ds : List D) (s : Str) : Bool := ds.any fun d => decide (kf d = s)
theorem look_any (s : Str) : ∀ acc : List (Str × D), (dlook (acc.map (·.1)) (acc.map (·.2)) s).isSome = acc.any fun p => decide (p.1 = s)
  | [] => rfl
  | (t, d) :: acc => by
    rw [List.map_cons, List.map_cons, dlook, List.any_cons, ← look_any s acc]
    by_cases h : t = s
    · simp [h]
    · simp [h]
theorem dput_any (acc : List (Str × D)) (t s : Str) (d : D) : (dput acc t d).any (fun p => decide (p.1 = s)) = (acc.any (fun p => decide (p.1 = s)) || decide (t = s)) := by
  unfold dput
  split
  · rename_i h
    rw [List.any_map]
    have e : ((fun p : Str × D => decide (p.1 = s)) ∘ fun p : Str × D => if p.1 = t then (p.1, d) else p) = fun p => decide (p.1 = s) := by
      funext p
      show decide ((if p.1 = t then (p.1, d) else p).1 = s) = _
      split <;> rfl
    rw [e]
    by_cases hs : t = s
    · subst hs
      simp only [decide_true, Bool.or_true]
      exact h
    · simp [hs]
  · simp [List.any_append]
theorem dputs_any (kf : D → Str) (vf : D → D) (s : Str) : ∀ (ds : List D) (acc : List (Str × D)), (ds.foldl (fun acc d => dput acc (kf d) (vf d)) acc).any (fun p => decide (p.1 = s)) = (acc.any (fun p => decide (p.1 = s)) || hasKey kf ds s)
  | [], acc => by simp [hasKey]
  | d :: ds, acc => by
    rw [List.foldl_cons, dputs_any kf vf s ds, dput_any]
    simp [hasKey, Bool.or_assoc]
theorem look_row (kf : D → Str) (ds : List D) (s : Str) : (dlook ((dputs kf (fun _ => .bl true) ds).map (·.1)) ((dputs kf (fun _ => .bl true) ds).map (·.2)) s).isSome = hasKey kf ds s := by
  rw [look_any]
  unfold dputs
  rw [dputs_any]
  simp
def firstNot (p : D → Bool) : Nat → List D → Option Nat
  | _, [] => none
  | i, d :: ds => if p d = true then firstNot p (i + 1) ds else some i
def sec : D → D
  | .tup [_, b] => b
  | _ => .non
def doorOk (pl : List D) (d : D) : Bool := (items d).all fun p => hasKey text pl (text p)
def figOk (pl : List D) (d : D) : Bool := hasKey text pl (text (sec d))
def groundV (pl dr fi sc : List D) (bg : Str) : Option (Str × D) := match firstNot (doorOk pl) 0 dr with
  | some k => some ("door", .int (k : Nat))
  | none => match firstNot (figOk pl) 0 fi with
    | some k => some ("figure", .int (k : Nat))
    | none => if hasKey key0 sc bg = true then none else some ("begin", .int (-1))
section
variable {P : Program} {w : World} {K : PySem.W.Frag} {mg : Str → Option Value} {base : Heap}
def aGround : AccX := fun _ n ds Q Qe => ∃ nu pl dr fi dg sc bg, ds = [.tup [.tup nu, .tup pl, .tup dr, .tup fi, .tup dg, .tup sc, .str bg], thereD (.tup nu) (.tup pl) (.tup fi) (.tup sc)] ∧ StoryOk nu pl dr fi dg sc bg ∧ (groundV pl dr fi sc bg = none → Q n .non) ∧ ∀ v a, groundV pl dr fi sc bg = some (v, a) → Qe n (.str v) a
theorem drop_at {ds : List D} {i : Nat} {d : D} (h : ds[i]? = some d) : ds.drop i = d :: ds.drop (i + 1) := by
  have hi : i < ds.length := (List.getElem?_eq_some_iff.mp h).1
  rw [List.drop_eq_getElem_cons hi]
  congr 1
  exact Option.some.inj ((List.getElem?_eq_getElem hi).symm.trans h)
theorem has_ground (T : Top K mg) (Ex : Exs K) : HasX P w K mg base 4 "lets_ground" ["story", "there"] aGround := by
  have hN : (["story", "there", "k", "door", "place", "name"] : List Str).Nodup := by decide +kernel
  refine has_ofX (N := ["story", "there", "k", "door", "place", "name"]) T (i := 42) (d := d_lets_ground) rfl ⟨rfl, rfl, rfl, hN, rfl, by decide +kernel, by decide +kernel⟩ (by decide +kernel) rfl rfl rfl (fun _ _ _ _ _ _ us hl => match us, hl with | [_, _], _ => rfl) (fun g n ds Q Qe h => by obtain ⟨_, _, _, _, _, _, _, rfl, _⟩ := h; rfl) fun cd Ar outer s H E hr po g n ds Q Qe h => ?_
  obtain ⟨nu, pl, dr, fi, dg, sc, bg, rfl, S, q1, q2⟩ := h
  refine hssx_cons (hsx_for rfl po (hi_enumT T.f_enumerate (he_ixT (he_name (i := 0) rfl rfl (he_int ⟨_, _, .tup dr, rfl, rfl, atI_nat (i := 2) rfl, dr, rfl, fun i m ρ' => m = n ∧ (∃ x2 x3 : SV, ρ' = [.dat (.tup [.tup nu, .tup pl, .tup dr, .tup fi, .tup dg, .tup sc, .str bg]), .dat (thereD (.tup nu) (.tup pl) (.tup fi) (.tup sc)), x2, x3, .no, .no]) ∧ firstNot (doorOk pl) i (dr.drop i) = firstNot (doorOk pl) 0 dr, ⟨rfl, ⟨.no, .no, rfl⟩, rfl⟩, fun i d m ρ' hd hI => ?_, fun m ρ' hI => ?_⟩)))))
  · obtain ⟨rfl, ⟨x2, x3, rfl⟩, hv⟩ := hI
    obtain ⟨door, hdr, rfl⟩ := enumD_get hd
    obtain ⟨s, t, rfl⟩ := door_pair (S.dr door (List.mem_of_getElem? hdr))
    rw [Nat.zero_add]
    rw [drop_at hdr, firstNot] at hv
    refine ⟨_, _, hg_two (i := 2) (j := 3) rfl hN rfl rfl (by decide), ?_⟩
    refine hssx_cons (hsx_call ((has_need T Ex)) hr (ha_cons (he_allMap (fun p => hasKey text pl (text p)) (own := [("place", 4)]) T.f_all rfl hN ?_ (own1 rfl) (hi_tup (he_name (i := 3) rfl rfl ⟨[.str s, .str t], rfl, le2, fun p hp => ?_, ha_cons (he_str (ha_cons (he_name (i := 2) rfl rfl (ha_nil ⟨_, _, _, rfl, fun hb => hssx_nil ⟨rfl, ⟨_, _, rfl⟩, ?_⟩, fun hb => ?_⟩))))⟩)))))
    · exact (show BlkOk (["story", "there", "k", "door", "place", "name"] : List Str) d_lets_ground.scope _ _ from ⟨rfl, by decide +kernel, by decide +kernel, by decide +kernel, by decide +kernel⟩)
    · have hp' : ∃ u, p = .str u := by
        simp only [List.mem_cons, List.not_mem_nil, or_false] at hp
        rcases hp with rfl | rfl <;> exact ⟨_, rfl⟩
      obtain ⟨u, rfl⟩ := hp'
      refine ⟨_, fun s H C cl fp => hg_name hN rfl, fun s' H C cl fp => he_inD (Room.u1 hr) (he_name (i := 4) rfl rfl (he_dget (Room.u1 hr) (he_name (i := 1) rfl rfl (he_str ⟨_, _, "place", rowD text pl, rfl, rfl, rfl, _, _, u, rfl, rfl, rfl, ?_⟩))))⟩
      rw [look_row]
      rfl
    · rw [if_pos (show doorOk pl (.tup [.str s, .str t]) = true from hb)] at hv
      exact hv
    · rw [if_neg (by rw [show doorOk pl (.tup [.str s, .str t]) = false from hb]; decide)] at hv
      refine q2 "door" _ ?_
      unfold groundV
      rw [← hv]
  · obtain ⟨rfl, ⟨x2, x3, rfl⟩, hv⟩ := hI
    rw [enumD_len, List.drop_length, firstNot] at hv
    refine hssx_cons (hsx_for rfl po (hi_enumT T.f_enumerate (he_ixT (he_name (i := 0) rfl rfl (he_int ⟨_, _, .tup fi, rfl, rfl, atI_nat (i := 3) rfl, fi, rfl, fun i m' ρ' => m' = m ∧ (∃ x2 x3 x4 x5 : SV, ρ' = [.dat (.tup [.tup nu, .tup pl, .tup dr, .tup fi, .tup dg, .tup sc, .str bg]), .dat (thereD (.tup nu) (.tup pl) (.tup fi) (.tup sc)), x2, x3, x4, x5]) ∧ firstNot (figOk pl) i (fi.drop i) = firstNot (figOk pl) 0 fi, ⟨rfl, ⟨_, _, _, _, rfl⟩, rfl⟩, fun i d m' ρ' hd hI => ?_, fun m' ρ' hI => ?_⟩)))))
    · obtain ⟨rfl, ⟨y2, y3, y4, y5, rfl⟩, hv2⟩ := hI
      obtain ⟨fig, hfi, rfl⟩ := enumD_get hd
      obtain ⟨s, t, rfl, _⟩ := pair_row (S.fi fig (List.mem_of_getElem? hfi))
      rw [Nat.zero_add]
      rw [drop_at hfi, firstNot] at hv2
      refine ⟨_, _, hg_tup rfl (hgs_cons (hg_name (i := 2) hN rfl) (hgs_cons (hg_tup rfl (hgs_cons (hg_name (i := 5) hN rfl) (hgs_cons (hg_name (i := 4) hN rfl) hgs_nil)) rfl) hgs_nil)) rfl, ?_⟩
      refine hssx_cons (hsx_call ((has_need T Ex)) hr (ha_cons (he_inD (Room.u1 hr) (he_name (i := 4) rfl rfl (he_dget (Room.u1 hr) (he_name (i := 1) rfl rfl (he_str ⟨_, _, "place", rowD text pl, rfl, rfl, rfl, _, _, t, rfl, rfl, ha_cons (he_str (ha_cons (he_name (i := 2) rfl rfl (ha_nil ⟨_, _, _, rfl, fun hb => hssx_nil ⟨rfl, ⟨_, _, _, _, rfl⟩, ?yes⟩, fun hb => ?no⟩))))⟩)))))))
      case yes =>
        rw [look_row] at hb
        rw [if_pos (show figOk pl (.tup [.str s, .str t]) = true from hb)] at hv2
        exact hv2
      case no =>
        rw [look_row] at hb
        rw [if_neg (by rw [show figOk pl (.tup [.str s, .str t]) = false from hb]; decide)] at hv2
        refine q2 "figure" _ ?_
        unfold groundV
        rw [← hv, ← hv2]
    · obtain ⟨rfl, ⟨y2, y3, y4, y5, rfl⟩, hv2⟩ := hI
      rw [enumD_len, List.drop_length, firstNot] at hv2
      refine hssx_cons (hsx_call ((has_need T Ex)) hr (ha_cons (he_inD (Room.u1 hr) (he_ixT (he_name (i := 0) rfl rfl (he_int ⟨_, _, .str bg, rfl, rfl, atI_nat (i := 6) rfl, he_dget (Room.u1 hr) (he_name (i := 1) rfl rfl (he_str ⟨_, _, "scene", rowD key0 sc, rfl, rfl, rfl, _, _, bg, rfl, rfl, ha_cons (he_str (ha_cons (he_neg (ha_nil ⟨_, _, _, rfl, fun hb => hssx_nil (q1 ?yes), fun hb => q2 "begin" _ ?no⟩))))⟩))⟩))))))
      case yes =>
        rw [look_row] at hb
        unfold groundV
        rw [← hv, ← hv2]
        simp only
        rw [if_pos hb]
      case no =>
        rw [look_row] at hb
        unfold groundV
        rw [← hv, ← hv2]
        simp only
        rw [if_neg (by rw [hb]; decide)]
end
end Fk
set_option Elab.async false
set_option linter.all false
set_option maxRecDepth 100000
set_option maxHeartbeats 4000000
/-! X5: lets_whole. -/
namespace Fk
open PySem PySem.Spec PyProof.Rows L2
/-- what a naming's sort looks through -/
def nmOk (nu pl fi sc : List D) (e : D) : Bool := match e with
  | .tup [.str s, .str t] => if s = "number" then hasKey key0 nu t else if s = "figure" then hasKey key0 fi t else if s = "scene" then hasKey key0 sc t else hasKey text pl t
  | _ => true
def namesL (d : D) : List D := (sceneN d).map fixN
def sceneV (ok : D → Bool) : Nat → List D → Option (D × D)
  | _, [] => none
  | k, s :: ss => match firstNot ok 0 (namesL s) with
    | some j => some (((namesL s).getD j .non).hd, .tup [.int (k : Nat), .int (j : Nat)])
    | none => sceneV ok (k + 1) ss
def wholeV (d : D) : Option (D × D) := if isStory d = true then (match d with
    | .tup [.tup nu, .tup pl, .tup dr, .tup fi, .tup dg, .tup sc, .str bg] => match groundV pl dr fi sc bg with
      | some (v, a) => some (.str v, a)
      | none => sceneV (nmOk nu pl fi sc) 0 sc
    | _ => none) else some (.str "shape", .int (-1))
theorem names_nm {d : D} (h : isScene d = true) : ∀ e ∈ namesL d, ∃ s t, e = nmg s (.str t) ∧ s ∈ (["number", "figure", "scene", "place"] : List Str) := by
  intro e he
  obtain ⟨e0, h0, rfl⟩ := List.mem_map.mp he
  obtain ⟨s, t, rfl, hs⟩ := sceneN_nm h e0 h0
  refine ⟨if s = "seen" then "scene" else s, t, rfl, ?_⟩
  simp only [SRT, List.mem_cons, List.not_mem_nil, or_false] at hs
  rcases hs with rfl | rfl | rfl | rfl | rfl <;> decide
section
variable {P : Program} {w : World} {K : PySem.W.Frag} {mg : Str → Option Value} {base : Heap}
def aWhole : AccX := fun _ n ds Q Qe => ∃ d, ds = [d] ∧ d.fit FU = true ∧ d.sz ≤ MX ∧ (wholeV d = none → Q n (.bl true)) ∧ ∀ v a, wholeV d = some (v, a) → Qe n v a
theorem has_whole (T : Top K mg) (Ex : Exs K) : HasX P w K mg base (LV + 14) "lets_whole" ["thing"] aWhole := by
  have hN : (["thing", "there", "k", "scene", "j", "sort", "name"] : List Str).Nodup := by decide +kernel
  refine has_ofX (N := ["thing", "there", "k", "scene", "j", "sort", "name"]) T (i := 43) (d := d_lets_whole) rfl ⟨rfl, rfl, rfl, hN, rfl, by decide +kernel, by decide +kernel⟩ (by decide +kernel) rfl rfl rfl (fun _ _ _ _ _ _ us hl => match us, hl with | [_], _ => rfl) (fun g n ds Q Qe h => by obtain ⟨_, rfl, _⟩ := h; rfl) fun cd Ar outer s H E hr po g n ds Q Qe h => ?_
  obtain ⟨d, rfl, hf, hz, q1, q2⟩ := h
  refine hssx_cons (hsx_call ((has_need T Ex).imp (show 3 ≤ LV + 13 by decide)) hr (ha_cons (he_call (on_is_story T hf hz) hr (ha_cons (he_name (i := 0) rfl rfl (ha_nil ⟨rfl, ha_cons (he_str (ha_cons (he_neg (ha_nil ⟨_, _, _, rfl, fun hb => ?yes, fun hb => q2 _ _ ?no⟩))))⟩))))))
  case no =>
    unfold wholeV
    rw [if_neg (by rw [hb]; decide)]
  obtain ⟨nu, pl, dr, fi, dg, sc, bg, rfl, S⟩ := story_inv hb
  have hwv : wholeV (.tup [.tup nu, .tup pl, .tup dr, .tup fi, .tup dg, .tup sc, .str bg]) = match groundV pl dr fi sc bg with
      | some (v, a) => some (.str v, a)
      | none => sceneV (nmOk nu pl fi sc) 0 sc := by
    unfold wholeV
    rw [if_pos hb]
  refine hssx_cons (hsx_of (hs_set (i := 1) hN rfl (he_call (has_there T) (hr.mono (by decide)) (ha_cons (he_name (i := 0) rfl rfl (ha_nil ⟨nu, pl, dr, fi, dg, sc, bg, rfl, S, hf, ?_⟩))))))
  refine hssx_cons (hsx_call ((has_ground T Ex).imp (show 4 ≤ LV + 13 by decide)) hr (ha_cons (he_name (i := 0) rfl rfl (ha_cons (he_name (i := 1) rfl rfl (ha_nil ⟨nu, pl, dr, fi, dg, sc, bg, rfl, S, fun hg0 => ?ok, fun v a hg0 => q2 _ _ ?bad⟩))))))
  case bad => rw [hwv, hg0]
  rw [hg0] at hwv
  simp only at hwv
  have hsf : (D.tup sc).fit FU = true := fit_el hf (.tup sc) (by simp)
  have hsz : (D.tup sc).sz ≤ MX := sz_in hz (.tup sc) (by simp)
  refine hssx_cons (hsx_for rfl po (hi_enumT T.f_enumerate (he_ixT (he_name (i := 0) rfl rfl (he_int ⟨_, _, .tup sc, rfl, rfl, atI_nat (i := 5) rfl, sc, rfl, fun i m ρ' => m = n ∧ (∃ x2 x3 x4 x5 x6 : SV, ρ' = [.dat (.tup [.tup nu, .tup pl, .tup dr, .tup fi, .tup dg, .tup sc, .str bg]), .dat (thereD (.tup nu) (.tup pl) (.tup fi) (.tup sc)), x2, x3, x4, x5, x6]) ∧ sceneV (nmOk nu pl fi sc) i (sc.drop i) = sceneV (nmOk nu pl fi sc) 0 sc, ⟨rfl, ⟨_, _, _, _, _, rfl⟩, rfl⟩, fun i d m ρ' hd hI => ?_, fun m ρ' hI => ?_⟩)))))
  · obtain ⟨rfl, ⟨x2, x3, x4, x5, x6, rfl⟩, hv⟩ := hI
    obtain ⟨scn, hsc, rfl⟩ := enumD_get hd
    have hmem := List.mem_of_getElem? hsc
    have hscn := S.sc scn hmem
    rw [Nat.zero_add]
    rw [drop_at hsc, sceneV] at hv
    refine ⟨_, _, hg_two (i := 2) (j := 3) rfl hN rfl rfl (by decide), ?_⟩
    refine hssx_cons (hsx_for rfl po (hi_enumT T.f_enumerate (he_call (has_namesOf T) (hr.mono (by decide)) (ha_cons (he_name (i := 3) rfl rfl (ha_nil ⟨scn, rfl, hscn, fit_el hsf scn hmem, sz_in hsz scn hmem, namesL scn, rfl, fun j m' ρ' => m' = m ∧ (∃ x4 x5 x6 : SV, ρ' = [.dat (.tup [.tup nu, .tup pl, .tup dr, .tup fi, .tup dg, .tup sc, .str bg]), .dat (thereD (.tup nu) (.tup pl) (.tup fi) (.tup sc)), .dat (.int (i : Nat)), .dat scn, x4, x5, x6]) ∧ firstNot (nmOk nu pl fi sc) j ((namesL scn).drop j) = firstNot (nmOk nu pl fi sc) 0 (namesL scn), ⟨rfl, ⟨_, _, _, rfl⟩, rfl⟩, fun j e m' ρ' he hI => ?_, fun m' ρ' hI => ?_⟩))))))
    · obtain ⟨rfl, ⟨y4, y5, y6, rfl⟩, hv2⟩ := hI
      obtain ⟨nm, hnm, rfl⟩ := enumD_get he
      obtain ⟨s, t, rfl, hs⟩ := names_nm hscn nm (List.mem_of_getElem? hnm)
      rw [Nat.zero_add]
      rw [drop_at hnm, firstNot] at hv2
      have hlook : ∃ kf ds, dlook ["number", "figure", "scene", "place"] [rowD key0 nu, rowD key0 fi, rowD key0 sc, rowD text pl] s = some (rowD kf ds) ∧ hasKey kf ds t = nmOk nu pl fi sc (nmg s (.str t)) := by
        simp only [List.mem_cons, List.not_mem_nil, or_false] at hs
        rcases hs with rfl | rfl | rfl | rfl
        · exact ⟨key0, nu, rfl, rfl⟩
        · exact ⟨key0, fi, rfl, rfl⟩
        · exact ⟨key0, sc, rfl, rfl⟩
        · exact ⟨text, pl, rfl, rfl⟩
      obtain ⟨kf, rs, hl1, hl2⟩ := hlook
      refine ⟨_, _, hg_tup rfl (hgs_cons (hg_name (i := 4) hN rfl) (hgs_cons (hg_tup rfl (hgs_cons (hg_name (i := 5) hN rfl) (hgs_cons (hg_name (i := 6) hN rfl) hgs_nil)) rfl) hgs_nil)) rfl, ?_⟩
      refine hssx_cons (hsx_call ((has_need T Ex).imp (show 3 ≤ LV + 13 by decide)) hr (ha_cons (he_inD (Room.u1 hr) (he_name (i := 6) rfl rfl (he_dget (Room.u1 hr) (he_name (i := 1) rfl rfl (he_name (i := 5) rfl rfl ⟨_, _, s, rowD kf rs, rfl, rfl, hl1, _, _, t, rfl, rfl, ha_cons (he_name (i := 5) rfl rfl (ha_cons (he_tup (ha_cons (he_name (i := 2) rfl rfl (ha_cons (he_name (i := 4) rfl rfl (ha_nil ⟨le2, ha_nil ⟨_, _, _, rfl, fun hb2 => hssx_nil ⟨rfl, ⟨_, _, _, rfl⟩, ?yes2⟩, fun hb2 => q2 _ _ ?no2⟩⟩))))))))⟩)))))))
      case yes2 =>
        rw [look_row, hl2] at hb2
        rw [if_pos hb2] at hv2
        exact hv2
      case no2 =>
        rw [look_row, hl2] at hb2
        rw [if_neg (by rw [hb2]; decide)] at hv2
        rw [hwv, ← hv, ← hv2]
        simp only
        have e7 : (namesL scn).getD j .non = nmg s (.str t) := by
          rw [List.getD_eq_getElem?_getD, hnm]
          rfl
        rw [e7]
        rfl
    · obtain ⟨rfl, ⟨y4, y5, y6, rfl⟩, hv2⟩ := hI
      rw [enumD_len, List.drop_length, firstNot] at hv2
      rw [← hv2] at hv
      exact hssx_nil ⟨rfl, ⟨_, _, _, _, _, rfl⟩, hv⟩
  · obtain ⟨rfl, ⟨x2, x3, x4, x5, x6, rfl⟩, hv⟩ := hI
    rw [enumD_len, List.drop_length, sceneV] at hv
    exact hssx_cons (hsx_of (hs_ret (he_bl (q1 (by rw [hwv, ← hv])))))
end
end Fk
set_option Elab.async false
set_option linter.all false
set_option maxRecDepth 100000
set_option maxHeartbeats 4000000
/-! X6: is_whole. -/
namespace Fk
open PySem PySem.Spec PyProof.Rows L2
/-- what the handlers ask of the error classes -/
structure Exh (K : PySem.W.Frag) : Prop where
  te : PySem.W.exmOne K (.ref (CNo K)) (.ref (CNo K)) = some true
  tT : PySem.W.exmOne K (.ref (CNo K)) (.ref (CTa K)) = some true
  tL : PySem.W.exmOne K (.ref (CNo K)) (.ref (He.ga K "LackError")) = some false
  ko : ∀ x ∈ (["LackError", "NoChoice", "NoEnding", "NoMore", "NoPaper", "NoReader", "NoRow", "NoScene", "NoStep", "NoText"] : List Str), PySem.W.kitOne K (.ref (CNo K)) (.ref (He.ga K x)) = some false
  kv : PySem.W.kitOne K (.ref (CNo K)) (.type "ValueError") = some true
  kc : PySem.W.kitOne K (.ref (CNo K)) (.ref (CNo K)) = some true
  ec : ExcC K (CNo K)
section
variable {P : Program} {w : World} {K : PySem.W.Frag} {mg : Str → Option Value} {base : Heap}
def aIsWhole : Acc := fun _ n ds Q => ∃ d, ds = [d] ∧ d.fit FU = true ∧ d.sz ≤ MX ∧ Q n (.bl (wholeV d).isNone)
theorem has_isWhole (T : Top K mg) (Ex : Exs K) (Eh : Exh K) : Has P w K mg base (LV + 15) "is_whole" ["thing"] aIsWhole := by
  have hN : (["thing"] : List Str).Nodup := by decide +kernel
  refine has_of (N := ["thing"]) T (i := 44) (d := d_is_whole) rfl ⟨rfl, rfl, rfl, hN, rfl, by decide +kernel, by decide +kernel⟩ (by decide +kernel) rfl rfl rfl (fun _ _ _ _ _ _ us hl => match us, hl with | [_], _ => rfl) (fun g n ds Q h => by obtain ⟨_, rfl, _⟩ := h; rfl) fun cd Ar outer s H E hr g n ds Q h => ?_
  obtain ⟨d, rfl, hf, hz, q⟩ := h
  intro H0 W0 τ σ H1 S Dd q1 q2
  obtain ⟨W, w1, w2, kk, w3⟩ := S.ex
  have HW := has_whole (P := P) (w := w) (base := base) T Ex
  obtain ⟨fd, F, B⟩ := HW.ok
  refine (pss_one (ps_try_only (X := CxB P w K mg base ["thing"] d_is_whole.qual d_is_whole.scope (He.ga K d_is_whole.name) cd Ar outer s H E) (c := .ref (CNo K)) (ts := fun _ _ _ => tRet (tC (.bl false))) (Wout := fun _ _ _ _ => False) (tb := fun Wx => tRet (tCall (spX K aWhole) [] (fun cls d H' => ∀ σ', Wx cls d σ' H') (tCons (tVar 0) tNil))) rfl rfl ⟨by rfl, by decide, .inl T.g_NoStory⟩ takes_none5 (fun Wx pn xe tk po => pss_one (ps_ret (pe_call F hr (by rfl) HW.m HW.kp B .nil (L2.passes_call tk fun cls d σ' H' z => z σ') (pa_cons (pe_var (i := 0) rfl (Or.inl rfl)) pa_nil)))) fun a oe cls d pn _ _ => pss_one (ps_ret pe_bl))).wpr ?_
  obtain ⟨v, hv, dv⟩ := kk.dats 0 d rfl
  refine ⟨v, hv, ?_⟩
  refine ⟨g, W, n, [d], fun n' r => n' = n ∧ r = .bl true ∧ wholeV d = none, fun n' a b => n' = n ∧ wholeV d = some (a, b), ⟨d, rfl, hf, hz, fun h => ⟨rfl, rfl, h⟩, fun a b h => ⟨rfl, h⟩⟩, kk.j, kk.gw, kk.trk, .cons dv .nil, fun n' r x H' hq e j dd => ?_, fun n' d1 d2 v1 v2 dx H' hq e j hx b1 b2 σ' => ?_⟩
  · obtain ⟨rfl, rfl, hn⟩ := hq
    refine q2 n' (.dat (.bl true)) x H' ?_ (S.ext.trans e) j (DD.toW0 w1 dd)
    rw [hn] at q
    exact q
  · obtain ⟨rfl, hn⟩ := hq
    refine ⟨true, Eh.te, fun _ a na => ?_, fun z => by cases z⟩
    refine q2 n' (.dat (.bl false)) (.bl false) H' ?_ (S.ext.trans e) j (.bl false)
    rw [hn] at q
    exact q
end
end Fk
set_option Elab.async false
set_option linter.all false
set_option maxRecDepth 100000
set_option maxHeartbeats 4000000
/-! X7: except (A, B) as e; isinstance of what was caught. -/
namespace Fk
open PySem PySem.Spec PyProof.Rows L2
theorem flz_keeps {B : Heap} {l : List Env} {e : Addr} {Z : Obj → Prop} {h h' : Heap} (R : HandSPX.FlyingZ B l e Z h) (k : ∀ b o, h.get? b = some o → h'.get? b = some o) : HandSPX.FlyingZ B l e Z h' := by
  obtain ⟨f1, f2, f3, oe, vs, T, oT, ts, he, hz, hd, h1, hn, hne, hT, hdT, h3⟩ := R
  exact ⟨fun b o q => k b o (f1 b o q), f2, f3.of_keeps fun b o q _ => ⟨o, k b o q, rfl⟩, oe, vs, T, oT, ts, k _ _ he, hz, hd, h1, hn, hne, k _ _ hT, hdT, h3⟩
/-- what the clause 'except (x1, x2) as n' wishes of an exception of the body: slot i is n's -/
def wAs2 (K : PySem.W.Frag) (c1 c2 : Value) (i : Nat) (ts : Addr → Value → Option Addr → TS) (Wout : WX) (D : Ends) : WX := fun cls d σ H =>
  ∃ b, PySem.W.exmAny K cls [c1, c2] = some b ∧ (b = true → ∀ a, H a = none → ts a cls d { nx := fun σ' H' => D.nx (σ'.set i none) H', rt := D.rt, bk := fun σ' H' => D.bk (σ'.set i none) H', ct := fun σ' H' => D.ct (σ'.set i none) H' } (σ.set i (some (.ref a))) H) ∧
    (b = false → Wout cls d σ H)
section
variable {X : Cx} {x1 x2 n : Str} {c1 c2 : Value} {i : Nat} {body suite : List Stmt} {b₀ : Stmt} {p1 p2 tp pos pos' : Pos} {kk : Nat} {tb : WX → TS} {ts : Addr → Value → Option Addr → TS} {Wout : WX}
theorem ps_try_as2 (hs : X.stack = X.env :: X.outer) (hf : X.env.frame = some X.env.locals) (hN : X.N.Nodup) (hi : X.N[i]? = some n) (hln : X.env.kindOf n = some .local) (hc1 : Names X x1 c1) (hc2 : Names X x2 c2) (tk : Takes X Wout)
    (hb : ∀ (W : WX) (pn : List (Addr × Obj)) (xe : Value → Shared → Prop), Takes (X.tr pn xe) W → PassesOwn (model X.prog X.w) X.A X.env xe → PSs (X.tr pn xe) body (tb W))
    (hsu : ∀ (a : Addr) (oe : Obj) (cls : Value) (d : Option Addr) (pn : List (Addr × Obj)), Zc cls d oe → (∃ vs, oe.data = .fields vs) → PSs (X.suite a ((a, oe) :: pn)) (b₀ :: suite) (ts a cls d)) :
    PS X (.Try body [.ExceptHandler (some (.Tuple [.Name x1 p1, .Name x2 p2] kk tp)) (some n) (b₀ :: suite) pos'] [] [] pos) (fun D σ H => tb (wAs2 X.K c1 c2 i ts Wout D) D σ H) := by
  refine ⟨fun pins s σ H D I h => ?_⟩
  have ok := I.ok
  have hloc : Loc X.env.scope n := .inl hln
  refine wpAny_Try_except ?_
  refine wpAny_mono ((hb (wAs2 X.K c1 c2 i ts Wout D) (X.pn ++ pins) (fun e s₁ => wpAny (model X.prog X.w) X.A (noteFrame e X.env) (fun _ s₂ => wpAny (model X.prog X.w) X.A (setFlight e none) (fun _ s₃ =>
    wpAny (model X.prog X.w) X.A (handleBy e X.env [.ExceptHandler (some (.Tuple [.Name x1 p1, .Name x2 p2] kk tp)) (some n) (b₀ :: suite) pos']) (SP X pins D) X.xe s₃) X.xe s₂) X.xe s₁) (fun u s' xx => ?_) PassesOwn.looking).run [] s σ H D (I.toTry _) h) (fun f s1 hsp => ?_) (fun e s1 he => he)
  · -- the catch
    obtain ⟨a, B, sI, pins', σ', H', cls, d, rfl, J', nb, up, sky, na, os, ag, b, hb1, hyes, hno⟩ := xx
    have J : Inv X pins σ' H' sI := J'.ofTry ok
    have sky' : Sky B (X.env :: X.outer) a (Zc cls d) X.env.locals s'.heap := by rw [← hs]; exact sky
    show wpAny (model X.prog X.w) X.A (noteFrame (.ref a) X.env) _ _ _
    refine Sky.land Zc.steady (ok.frames.trans (by rw [hs])) hf sky' fun h3 fl3 up3 => ?_
    have nofr : ∀ {h : Heap} {o : Obj} {vs : Array Value}, h.FunFrames B (X.env :: X.outer) → h.get? a = some o → o.data = .fields vs → a ≠ X.env.locals ∧ a ∉ X.fs := fun {h o vs} ff e dd => by
      have z : a ∉ frs (X.env :: X.outer) := fun hm => by
        obtain ⟨_, o', e', hnf⟩ := ff.mem hm
        rw [e] at e'; cases e'
        exact hnf _ dd
      refine ⟨fun q => z (List.mem_filterMap.mpr ⟨X.env, List.mem_cons_self, by rw [hf, q]⟩), fun hm => ?_⟩
      obtain ⟨e', he', q⟩ := List.mem_filterMap.mp hm
      exact z (List.mem_filterMap.mpr ⟨e', List.mem_cons_of_mem _ he', q⟩)
    have J3 : Inv X pins σ' H' { s' with heap := h3 } := J.landed nb fl3.1 (up.trans up3) os ag
    obtain ⟨oe3, vs3, he3, hz3, hd3⟩ := fl3.there
    obtain ⟨nL, nF⟩ := nofr fl3.2.2.1 he3 hd3
    have S3 := J3.suite he3 hd3 na nL nF
    refine wpAny_handleBy_cons (codeAny_handlers_test ?_) (by intro q; cases q)
    have test : ∀ {y : Str} {c : Value} {py : Pos} {Q : Value → Shared → Prop} {E : Value → Shared → Prop}, Names X y c → Q c { s' with heap := h3 } → wpAny (model X.prog X.w) (X.A.mark (some (.ref a))) (eval (.Name y py) X.env) Q E { s' with heap := h3 } := fun {y c py Q E} hc q => by
      obtain ⟨hg, hdbg, hm | ⟨hm, hv, hnn⟩⟩ := hc
      · exact ld_glob (X := X.suite a ((a, oe3) :: (X.pn ++ pins))) S3 hg hm q hdbg
      · exact ld_blt (X := X.suite a ((a, oe3) :: (X.pn ++ pins))) S3 hg hm hv q hnn hdbg
    refine wpAny_Tuple (wpAny_items_cons (test hc1 (wpAny_items_cons (test hc2 (wpAny_items_nil ⟨by size_fits, ?_⟩)))))
    have kp : ∀ q o, h3.get? q = some o → (h3.push { cls := .type "tuple", data := .seq [c1, c2].toArray }).get? q = some o := fun _ _ z => Heap.get?_push_of_some _ z
    have LT : PySem.W.Looks (model X.prog X.w) h3 (typeOf (.ref a)) cls := fun A Q E s k q => wpAny_typeOf_ref (k _ _ he3) (by rw [hz3.1]; exact q)
    refine (PySem.W.exm_tup2 (M := model X.prog X.w) (J3.kIn.keeps kp) (LT.keeps kp) (Heap.get?_push_size h3 rfl) hb1).here ?_
    have fl3 := flz_keeps fl3 kp
    have up3 := up3.trans (Heap.UpToSlots.of_keeps kp)
    cases b with
    | true =>
      refine codeAny_handlers_suite_as ?_
      refine HandSPX.lands_againZ fl3 fun h4 fl4 up4 => ?_
      have J4 : Inv X pins σ' H' { s' with heap := h4 } := J.landed nb fl4.1 ((up.trans up3).trans up4) os ag
      obtain ⟨oe4, vs4, he4, hz4, hd4⟩ := fl4.there
      have S4 := J4.suite he4 hd4 na nL nF
      refine store_ok (X := X.suite a ((a, oe4) :: (X.pn ++ pins))) (v := .ref a) S4 hN hi hloc rfl (fun s5 S5 => ?_) (.inr hln)
      refine wpAny_mono ((hsu a oe4 cls d (X.pn ++ pins) hz4 ⟨_, hd4⟩).run [] s5 _ H' _ S5 (hyes rfl a na)) (fun f s6 hsp => ?_) (fun _ _ z => False.elim z)
      have fin : ∀ {σ6 : L2.St} {H6 : Hp} {Q : Shared → Prop}, Inv (X.suite a ((a, oe4) :: (X.pn ++ pins))) [] σ6 H6 s6 → (∀ s7, Inv X pins (σ6.set i none) H6 s7 → Q s7) →
          wpAny (model X.prog X.w) X.A (do bindName X.env n .none; unbindBehindTheSuite X.env n pos') (fun _ s7 => Q s7) X.xe s6 := fun {σ6 H6 Q} S6 hq => gone_ok (S6.unsuite ok) hN hi hln hq
      cases f with
      | next =>
        obtain ⟨σ6, H6, S6, q6⟩ := hsp
        exact fin S6 fun s7 J7 => ⟨_, _, J7, q6⟩
      | brk =>
        obtain ⟨σ6, H6, S6, q6⟩ := hsp
        exact fin S6 fun s7 J7 => ⟨_, _, J7, q6⟩
      | cont =>
        obtain ⟨σ6, H6, S6, q6⟩ := hsp
        exact fin S6 fun s7 J7 => ⟨_, _, J7, q6⟩
      | ret u =>
        obtain ⟨v6, σ6, H6, S6, r6, q6⟩ := hsp
        exact fin S6 fun s7 J7 => ⟨_, _, _, J7, r6, q6⟩
    | false =>
      show wpAny _ X.A (handleBy (.ref a) X.env []) _ _ _
      refine wpAny_handleBy_nil ?_
      obtain ⟨k1, k2, k3, oe, vs, T, oT, ts', he, hz, hd, h1, hr⟩ := id fl3
      unfold PySem.passOn
      refine wpAny_bind (wpAny_field he hd h1 ?_)
      rw [if_neg (show ¬ ((Value.ref T == Value.none) = true) from by simp)]
      have fin : wpAny (model X.prog X.w) X.A (setFlight (.ref a) X.env.frame) (fun _ s4 => wpAny (model X.prog X.w) X.A (throw (.ref a) : Sem Flow) (SP X pins D) X.xe s4) X.xe { s' with heap := h3.push { cls := .type "tuple", data := .seq [c1, c2].toArray } } := by
        rw [hf]
        refine HandSPX.setFlight_upZ fl3 fun h4 hh4 up4 => wpAny_throw (tk _ _ ?_)
        exact ⟨a, B, sI, pins, σ', H', cls, d, rfl, J, nb, (up.trans up3).trans up4, .inr (.inr (by rw [hs]; exact hh4)), na, os, ag, hno rfl⟩
      first
        | exact wpAny_bind (wpAny_pure (wpAny_bind fin))
        | exact wpAny_bind fin
  · cases f with
    | next =>
      obtain ⟨σ', H', J', q⟩ := hsp
      exact wpAny_execs_nil ⟨σ', H', J'.ofTry ok, q⟩
    | brk =>
      obtain ⟨σ', H', J', q⟩ := hsp
      exact ⟨σ', H', J'.ofTry ok, q⟩
    | cont =>
      obtain ⟨σ', H', J', q⟩ := hsp
      exact ⟨σ', H', J'.ofTry ok, q⟩
    | ret u =>
      obtain ⟨v, σ', H', J', r, q⟩ := hsp
      exact ⟨v, σ', H', J'.ofTry ok, r, q⟩
end
/-- isinstance(e, c), e the caught exception of the class D: c one class, or a tuple of classes -/
def rIsX (K : PySem.W.Frag) (D a : Addr) (d : Option Addr) : List V → Hp → VK → Prop := fun xs H Q => (∀ dd, d = some dd → ∃ fs, H dd = some (.xd fs)) ∧ ((∃ (c : V) (cv : Value) (b : Bool), xs = [.ref a, c] ∧ ClsV c cv ∧ PySem.W.kitOne K (.ref D) cv = some b ∧ Q (.bl b) H) ∨
  ∃ (tp : Addr) (cs : List V) (us : List Value) (b : Bool), xs = [.ref a, .ref tp] ∧ H tp = some (.tup cs) ∧ Paired ClsV cs us ∧ PySem.W.kitAny K (.ref D) us = some b ∧ Q (.bl b) H)
theorem call_isX {X : Cx} {a D : Addr} {oe : Obj} {d : Option Addr} {pn : List (Addr × Obj)} (C : ExcC X.K D) (hz : Zc (.ref D) d oe) (hf : ∃ vs, oe.data = .fields vs) : CallR (X.suite a ((a, oe) :: pn)) (.builtin "isinstance") (rIsX X.K D a d) := by
  intro pins s σ H xs us Q I r h
  obtain ⟨hd, h⟩ := h
  obtain ⟨hget, _⟩ := I.pin (a, oe) (List.mem_append.mpr (.inl List.mem_cons_self))
  obtain ⟨vs, hv⟩ := hf
  have J : ∃ od, PySem.W.InstAt s.heap a oe D od := by
    cases d with
    | none => exact ⟨none, hget, hz.1, by unfold PySem.W.notCls; rw [hv] <;> rfl, by rw [hz.2]; trivial⟩
    | some dd =>
      obtain ⟨fs, e⟩ := hd dd rfl
      obtain ⟨mA, hns, hr⟩ : ObjOk X.prog X.w H s.heap dd (.xd fs) := I.hok dd _ e
      obtain ⟨od, ho, hl⟩ := lookIn_ns hns
      exact ⟨some od, hget, hz.1, by unfold PySem.W.notCls; rw [hv] <;> rfl, by rw [hz.2]; exact ho⟩
  obtain ⟨od, J⟩ := J
  have Z : PySem.W.KitX X.K (.ref a) (.ref D) (fun h => PySem.W.InstAt h a oe D od) := PySem.W.kitx_exc (by obtain ⟨cd, hc, _⟩ := PySem.W.any_some C.hd; rw [hc]; rfl) C.hg C.hk C.hs C.ha C.hn C.ht C.hm
  rcases h with ⟨c, cv, b, rfl, hcv, e, q⟩ | ⟨tp, cs, ws, b, rfl, hT, k, e, q⟩
  · obtain ⟨u1, u2, rfl, r1, r2⟩ := vals2 r
    obtain rfl : u1 = Value.ref a := r1
    have e2 := hcv.eq r2
    subst e2
    exact PySem.W.kia_one Z I.kIn J e (fun z => nomatch z) fun tk => ⟨.bl b, H, I.tok tk, rfl, q⟩
  · obtain ⟨u1, u2, rfl, r1, r2⟩ := vals2 r
    obtain rfl : u1 = Value.ref a := r1
    cases (show u2 = Value.ref tp from r2)
    obtain ⟨_, its, rv, o, h1, h2, n, h3⟩ := (show ObjOk X.prog X.w H s.heap tp (.tup cs) from I.hok tp _ hT)
    have e3 := ClsV.all k rv
    subst e3
    obtain ⟨oc, od', dt, sl⟩ := o
    simp only at h2 h3
    subst h2 h3
    exact PySem.W.kia_tup Z I.kIn J h1 e (fun z => nomatch z) fun tk => ⟨.bl b, H, I.tok tk, rfl, q⟩
end Fk
set_option Elab.async false
set_option linter.all false
set_option maxRecDepth 100000
set_option maxHeartbeats 4000000
/-! X8: _law_heard. -/
namespace Fk
open PySem PySem.Spec PyProof.Rows L2
theorem SI.wipe {K : PySem.W.Frag} {g : Gx} {H0 H : Hp} {W0 : List Addr} {n : Nat} {ρ : List SV} {τ : List (V × D)} {σ σ2 : L2.St} (S : SI K g H0 W0 n ρ τ σ H) : SI K g H0 W0 n (List.replicate σ2.length .no) τ σ2 H := by
  obtain ⟨W, w1, w2, k, w3⟩ := S.ex
  have key : ∀ (i : Nat) (x : SV), (List.replicate σ2.length SV.no)[i]? = some x → x = .no := fun i x h => by
    rw [List.getElem?_replicate] at h
    split at h
    · cases h; rfl
    · cases h
  exact ⟨S.ext, S.old, S.tr0, ⟨W, w1, w2, ⟨k.j, k.gw, k.trk, List.length_replicate, fun i d h => (by cases key _ _ h), fun i ds h => (by cases key _ _ h)⟩, w3⟩, fun i ds a h => (by cases key _ _ h), fun i j ds es a _ h => (by cases key _ _ h)⟩
theorem Ok.wipe {K : PySem.W.Frag} {g : Gx} {H : Hp} {W : List Addr} {n : Nat} {ρ : List SV} {σ σ2 : L2.St} (k : Ok K g W n ρ σ H) : Ok K g W n (List.replicate σ2.length .no) σ2 H := by
  have key : ∀ (i : Nat) (x : SV), (List.replicate σ2.length SV.no)[i]? = some x → x = .no := fun i x h => by
    rw [List.getElem?_replicate] at h
    split at h
    · cases h; rfl
    · cases h
  exact ⟨k.j, k.gw, k.trk, List.length_replicate, fun i d h => (by cases key _ _ h), fun i ds h => (by cases key _ _ h)⟩
def heardD (d : D) : D := match wholeV d with
  | none => .tup [.str "told", .bl true]
  | some (v, a) => .tup [.str "no", v, a]
section
variable {P : Program} {w : World} {K : PySem.W.Frag} {mg : Str → Option Value} {base : Heap}
def aHeard : Acc := fun _ n ds Q => ∃ d, ds = [d] ∧ d.fit FU = true ∧ d.sz ≤ MX ∧ Q n (heardD d)
theorem any_two {K : PySem.W.Frag} (Eh : Exh K) : PySem.W.exmAny K (.ref (CNo K)) [.ref (CTa K), .ref (He.ga K "LackError")] = some true := by
  simp only [PySem.W.exmAny, Eh.tT, Eh.tL]
  rfl
abbrev CxH (P : Program) (w : World) (K : PySem.W.Frag) (mg : Str → Option Value) (base : Heap) (cd : Value) (Ar : Around) (outer : List Env) (s : Shared) (H : Hp) (E : XK) : Cx := CxB P w K mg base ["_law_thing", "_law_found", "e", "_law_others"] d_law_heard.qual d_law_heard.scope (He.ga K d_law_heard.name) cd Ar outer s H E
theorem xf_no {K : PySem.W.Frag} (Eh : Exh K) : XfC K (CNo K) := ⟨Eh.ec.hg, Eh.ec.hk, Eh.ec.hs, Eh.ec.hd⟩
theorem any_others {K : PySem.W.Frag} (Eh : Exh K) : PySem.W.kitAny K (.ref (CNo K)) ((["LackError", "NoChoice", "NoEnding", "NoMore", "NoPaper", "NoReader", "NoRow", "NoScene", "NoStep"] : List Str).map fun x => Value.ref (He.ga K x)) = some false := by
  simp only [List.map_cons, List.map_nil, PySem.W.kitAny, Eh.ko "LackError" (by simp), Eh.ko "NoChoice" (by simp), Eh.ko "NoEnding" (by simp), Eh.ko "NoMore" (by simp), Eh.ko "NoPaper" (by simp), Eh.ko "NoReader" (by simp), Eh.ko "NoRow" (by simp), Eh.ko "NoScene" (by simp), Eh.ko "NoStep" (by simp)]
theorem has_heard (T : Top K mg) (Ex : Exs K) (Eh : Exh K) : Has P w K mg base (LV + 15) "_law_heard" ["_law_thing"] aHeard := by
  have hN : (["_law_thing", "_law_found", "e", "_law_others"] : List Str).Nodup := by decide +kernel
  refine has_of (N := ["_law_thing", "_law_found", "e", "_law_others"]) T (i := 61) (d := d_law_heard) rfl ⟨rfl, rfl, rfl, hN, rfl, by decide +kernel, by decide +kernel⟩ (by decide +kernel) rfl rfl rfl (fun _ _ _ _ _ _ us hl => match us, hl with | [_], _ => rfl) (fun g n ds Q h => by obtain ⟨_, rfl, _⟩ := h; rfl) fun cd Ar outer s H E hr g n ds Q h => ?_
  obtain ⟨d, rfl, hf, hz, q⟩ := h
  refine hss_cons (hs_set (i := 1) hN rfl (he_tup (ha_cons (he_str (ha_nil ⟨le1, ?_⟩)))))
  have HW := has_whole (P := P) (w := w) (base := base) T Ex
  obtain ⟨fd, F, B⟩ := HW.ok
  refine hss_cons fun H0 W0 τ σ H1 S Dd q1 q2 => ?_
  have hret : ∀ (σ' : L2.St) (H' : Hp) (ρ' : List SV), ρ'[1]? = some (.dat (heardD d)) → SI K g H0 W0 n ρ' τ σ' H' → Dd.nx σ' H' := fun σ' H' ρ' h S' => q1 n ρ' σ' H' (hss_cons (hs_ret (he_name (i := 1) h rfl q))) S'
  obtain ⟨W, w1, w2, kk, w3⟩ := S.ex
  refine (ps_try_as2 (X := CxH P w K mg base cd Ar outer s H E) (i := 2) (c1 := .ref (CTa K)) (c2 := .ref (He.ga K "LackError")) (ts := fun a cls d D σ H' => ∀ oe pn, Zc cls d oe → (∃ vs, oe.data = .fields vs) → σ.length = 4 → WSs ((CxH P w K mg base cd Ar outer s H E).suite a ((a, oe) :: pn)) _ D σ H') (Wout := fun _ _ _ _ => False) (tb := fun Wx => tAsg (tTup (tCons (tC (.str "told")) (tCons (tCall (spX K aWhole) [] (fun cls d H' => ∀ σ', Wx cls d σ' H') (tCons (tVar 0) tNil)) tNil))) (gName 1))
    rfl rfl hN rfl rfl ⟨by rfl, by decide, .inl T.g_TaleError⟩ ⟨by rfl, by decide, .inl T.g_LackError⟩ takes_none5 (fun Wx pn xe tk po => pss_one (ps_set hN rfl (Or.inl rfl) (pe_tup (pa_cons pe_str (pa_cons (pe_call F hr (by rfl) HW.m HW.kp B .nil (L2.passes_call tk fun cls d σ' H' z => z σ') (pa_cons (pe_var (i := 0) rfl (Or.inl rfl)) pa_nil)) pa_nil)))))
    fun a oe cls d pn hz hf => ⟨fun pins s σ H D I h => pssW.run pins s σ H D I (h oe pn hz hf I.len)⟩).wpr ?_
  obtain ⟨v, hv, dv⟩ := kk.dats 0 d rfl
  refine ⟨v, hv, ?_⟩
  refine ⟨g, W, n, [d], fun n' r => n' = n ∧ r = .bl true ∧ wholeV d = none, fun n' a b => n' = n ∧ wholeV d = some (a, b), ⟨d, rfl, hf, hz, fun h => ⟨rfl, rfl, h⟩, fun a b h => ⟨rfl, h⟩⟩, kk.j, kk.gw, kk.trk, .cons dv .nil, fun n' r x H' hq e j dd => ?_, fun n' d1 d2 v1 v2 dx H' hq e j hx b1 b2 σ' => ?_⟩
  · obtain ⟨rfl, rfl, hn⟩ := hq
    refine ⟨le2, fun p hp => ?_⟩
    have k1 := kk.step e j
    have hd : heardD d = .tup [.str "told", .bl true] := by
      unfold heardD
      rw [hn]
    have dt : DD K W (upd H' p (.tup [.str "told", x])) (.ref p) (heardD d) := by
      rw [hd]
      exact .tup (k1.fresh (o := .tup [.str "told", x]) hp) upd_same (DDs.same (.cons (.str _) (.cons dd .nil)) (Same.upd hp))
    have e2 := e.trans (Ext.upd (G := g.G) (o := .tup [.str "told", x]) hp)
    have j2 := g.same j (Same.upd (o := .tup [.str "told", x]) hp)
    exact hret _ _ _ rfl ((S.step kk e2 j2).set w1 w2 (kk.step e2 j2) (fun p hp => (w3 p hp).ext (kk.extW e2)) dt (i := 1))
  · obtain ⟨rfl, hn⟩ := hq
    refine ⟨true, any_two Eh, fun _ a na => ?_, fun z => by cases z⟩
    intro oe pn hzc hfs hlen
    have hl4 : ∃ s0 s1 s2 s3, σ' = [s0, s1, s2, s3] := by
      have hl : σ'.length = 4 := by rw [← hlen, List.length_set]
      match σ', hl with
      | [s0, s1, s2, s3], _ => exact ⟨s0, s1, s2, s3, rfl⟩
    obtain ⟨s0, s1, s2, s3, rfl⟩ := hl4
    refine (pss_cons (ps_set (X := (CxH P w K mg base cd Ar outer s H E).suite a ((a, oe) :: pn)) (i := 3) hN rfl (Or.inl rfl) (pe_callB (call_isX Eh.ec hzc hfs) (by rfl) T.f_isinstance PyProof.Rows.boot_isinstance (pa_cons (pe_var (i := 2) rfl (Or.inl rfl)) (pa_cons (pe_tup (pa_cons (pe_glob (v := .ref (He.ga K "LackError")) (by rfl) T.g_LackError rfl) (pa_cons (pe_glob (v := .ref (He.ga K "NoChoice")) (by rfl) T.g_NoChoice rfl) (pa_cons (pe_glob (v := .ref (He.ga K "NoEnding")) (by rfl) T.g_NoEnding rfl) (pa_cons (pe_glob (v := .ref (He.ga K "NoMore")) (by rfl) T.g_NoMore rfl) (pa_cons (pe_glob (v := .ref (He.ga K "NoPaper")) (by rfl) T.g_NoPaper rfl) (pa_cons (pe_glob (v := .ref (He.ga K "NoReader")) (by rfl) T.g_NoReader rfl) (pa_cons (pe_glob (v := .ref (He.ga K "NoRow")) (by rfl) T.g_NoRow rfl) (pa_cons (pe_glob (v := .ref (He.ga K "NoScene")) (by rfl) T.g_NoScene rfl) (pa_cons (pe_glob (v := .ref (He.ga K "NoStep")) (by rfl) T.g_NoStep rfl) pa_nil)))))))))) pa_nil))))
      (pss_one (ps_if (PW.pt (pw_and (pt_val (pe_callB (call_isX Eh.ec hzc hfs) (by rfl) T.f_isinstance PyProof.Rows.boot_isinstance (pa_cons (pe_var (i := 2) rfl (Or.inl rfl)) (pa_cons (pe_glob (v := .ref (He.ga K "NoStory")) (by rfl) T.g_NoStory rfl) pa_nil)))) (pw_and (pt_val (pe_callB (call_isX Eh.ec hzc hfs) (by rfl) T.f_isinstance PyProof.Rows.boot_isinstance (pa_cons (pe_var (i := 2) rfl (Or.inl rfl)) (pa_cons (pe_bltn (v := .ty "ValueError") (by rfl) T.f_ValueError (by rfl) rfl) pa_nil)))) (pw_and (pt_not (pt_val (pe_var (i := 3) rfl (Or.inl rfl)))) (pw_and1 (pt_not (pt_val (pe_callB (call_isX Eh.ec hzc hfs) (by rfl) T.f_isinstance PyProof.Rows.boot_isinstance (pa_cons (pe_var (i := 2) rfl (Or.inl rfl)) (pa_cons (pe_glob (v := .ref (He.ga K "NoText")) (by rfl) T.g_NoText rfl) pa_nil))))))))))
        (pss_one (ps_set (i := 1) hN rfl (Or.inl rfl) (pe_tup (pa_cons pe_str (pa_cons (pe_xf (xf_no Eh) Ex.nw hzc hfs (pe_var (i := 2) rfl (Or.inl rfl))) (pa_cons (pe_xf (xf_no Eh) Ex.na hzc hfs (pe_var (i := 2) rfl (Or.inl rfl))) pa_nil)))))) pss_nil))).wpr ?_
    refine ⟨.ref a, rfl, show 9 ≤ sizeLine by rw [sizeLine_eq]; decide, fun p hp => ?_⟩
    have hx2 : (upd H' p (.tup ((["LackError", "NoChoice", "NoEnding", "NoMore", "NoPaper", "NoReader", "NoRow", "NoScene", "NoStep"] : List Str).map fun x => V.ref (He.ga K x)))) dx = some (.xd [("at", v2), ("word", v1)]) := Same.upd hp dx _ hx
    have hxd : ∀ dd, some dx = some dd → ∃ fs, (upd H' p (.tup ((["LackError", "NoChoice", "NoEnding", "NoMore", "NoPaper", "NoReader", "NoRow", "NoScene", "NoStep"] : List Str).map fun x => V.ref (He.ga K x)))) dd = some (.xd fs) := fun dd hdd => by
      cases hdd
      exact ⟨_, hx2⟩
    refine ⟨hxd, .inr ⟨p, _, _, false, rfl, upd_same, ?_, any_others Eh, ?_⟩⟩
    · exact .cons (.own _) (.cons (.own _) (.cons (.own _) (.cons (.own _) (.cons (.own _) (.cons (.own _) (.cons (.own _) (.cons (.own _) (.cons (.own _) .nil))))))))
    refine ⟨.ref a, rfl, hxd, .inl ⟨_, _, true, rfl, .own _, Eh.kc, true, rfl, ?_⟩⟩
    refine ⟨.ref a, rfl, hxd, .inl ⟨_, _, true, rfl, .ty _, Eh.kv, true, rfl, ?_⟩⟩
    refine ⟨.bl false, rfl, false, rfl, ?_⟩
    refine ⟨.ref a, rfl, hxd, .inl ⟨_, _, false, rfl, .own _, Eh.ko "NoText" (by simp), false, rfl, ?_⟩⟩
    refine ⟨.ref a, rfl, rfl, rfl, dx, _, v1, rfl, hx2, rfl, ?_⟩
    refine ⟨.ref a, rfl, rfl, rfl, dx, _, v2, rfl, hx2, rfl, ?_⟩
    refine ⟨le3, fun p2 hp2 => ?_⟩
    have e2 := (e.trans (Ext.upd (G := g.G) (o := .tup ((["LackError", "NoChoice", "NoEnding", "NoMore", "NoPaper", "NoReader", "NoRow", "NoScene", "NoStep"] : List Str).map fun x => V.ref (He.ga K x))) hp))
    have j2 := g.same j (Same.upd (o := .tup ((["LackError", "NoChoice", "NoEnding", "NoMore", "NoPaper", "NoReader", "NoRow", "NoScene", "NoStep"] : List Str).map fun x => V.ref (He.ga K x))) hp)
    have k2 := kk.step e2 j2
    have hd : heardD d = .tup [.str "no", d1, d2] := by
      unfold heardD
      rw [hn]
    have hh : ∀ {H3 : Hp}, H3 p2 = none → Ok K g W n' (slots ["_law_thing", "_law_found", "e", "_law_others"] [d] |>.set 1 (.dat (.tup [.str "odd"]))) σ H3 → DD K W H3 v1 d1 → DD K W H3 v2 d2 → DD K W (upd H3 p2 (.tup [.str "no", v1, v2])) (.ref p2) (heardD d) := fun {H3} hp3 k3 c1 c2 => by
      rw [hd]
      exact .tup (k3.fresh (o := .tup [.str "no", v1, v2]) hp3) upd_same (DDs.same (.cons (.str _) (.cons c1 (.cons c2 .nil))) (Same.upd hp3))
    have dt := hh hp2 k2 (b1.same (Same.upd hp)) (b2.same (Same.upd hp))
    have e3 := e2.trans (Ext.upd (G := g.G) (o := .tup [.str "no", v1, v2]) hp2)
    have j3 := g.same j2 (Same.upd (o := .tup [.str "no", v1, v2]) hp2)
    have S1 := (S.step kk e3 j3).wipe (σ2 := [s0, s1, none, some (.bl false)])
    exact hret _ _ _ rfl (S1.set w1 w2 ((kk.step e3 j3).wipe (σ2 := [s0, s1, none, some (.bl false)])) (fun p hp => (w3 p hp).ext (kk.extW e3)) (v := .ref p2) (d := heardD d) dt (i := 1))
end
end Fk
set_option Elab.async false
set_option linter.all false
set_option maxRecDepth 100000
set_option maxHeartbeats 4000000
/-! Y1: _law_lost. -/
namespace Fk
open PySem PySem.Spec PyProof.Rows L2
section
variable {X : Cx} {g : Gx} {n : Nat} {ρ : List SV} {a b f : Expr} {pos apos : Pos} {Q : Nat → D → Prop}
/-- a.get(b, f), a a dict with text keys -/
theorem he_dget2 (hu : X.A.units + 1 < cLine) (h : HE X g n ρ a fun n1 x => ∃ ks ds, x = .dic ks ds ∧ HE X g n1 ρ b fun n2 y => ∃ s, y = .str s ∧ HE X g n2 ρ f fun n3 z => Q n3 ((dlook ks ds s).getD z)) (m : M2 X a "get" apos b f pos := by exact ⟨rfl, rfl, rfl, rfl⟩) : HE X g n ρ (.Call (.Attribute a "get" apos) [b, f] [] pos) Q := fun W σ H k R r => by
  refine (pe_dget2 hu peW peW peW m).wpr (h W σ H k _ fun n1 x v H1 q1 e1 j1 d1 => ?_)
  obtain ⟨ks, ds, rfl, q1⟩ := q1
  obtain ⟨c, kvs, rfl, nc, hc, hk, hx⟩ := d1.dic_inv
  refine ⟨c, rfl, .inl ⟨_, .inl hc⟩, ?_⟩
  have k1 := k.step e1 j1
  refine q1 W σ H1 k1 _ fun n2 y u H2 q2 e2 j2 d2 => ?_
  obtain ⟨s, rfl, q2⟩ := q2
  have k2 := k1.step e2 j2
  refine q2 W σ H2 k2 _ fun n3 z w H3 q3 e3 j3 d3 => ?_
  obtain ⟨c', kvs', z', nc', hc', hk', hx'⟩ := ((d1.ext (k1.extW e2)).ext (k2.extW e3)).dic_inv
  cases z'
  have key := dic_val s hk' hx'
  rw [d2.str_inv]
  cases hl : dlook ks ds s with
  | some d =>
    rw [hl] at q3
    obtain ⟨w', h1, h2⟩ := key.1 d hl
    exact ⟨some w', by rw [← h1]; exact DGet.k (k := Sum.inr s) hc', r n3 _ _ H3 q3 ((e1.trans e2).trans e3) j3 h2⟩
  | none =>
    rw [hl] at q3
    exact ⟨none, by rw [← key.2 hl]; exact DGet.k (k := Sum.inr s) hc', r n3 _ _ H3 q3 ((e1.trans e2).trans e3) j3 d3⟩
end
end Fk
set_option Elab.async false
set_option linter.all false
set_option maxRecDepth 100000
set_option maxHeartbeats 4000000
/-! Y2: _law_lost. -/
namespace Fk
open PySem PySem.Spec PyProof.Rows L2
def firstD (d : D) : D := .str (key0 d)
theorem firsts (ds : List D) : ds.map firstD = (ds.map key0).map D.str := by
  rw [List.map_map]
  rfl
theorem hasKey_mem (kf : D → Str) (ds : List D) (s : Str) : hasKey kf ds s = decide (s ∈ ds.map kf) := by
  induction ds with
  | nil => rfl
  | cons d ds ih =>
    rw [hasKey, List.any_cons]
    have ih' : (ds.any fun d => decide (kf d = s)) = decide (s ∈ ds.map kf) := ih
    rw [ih', List.map_cons]
    by_cases h : kf d = s
    · simp [h]
    · have h' : ¬ s = kf d := fun z => h z.symm
      simp [h, h']
theorem texts {pl : List D} (h : ∀ e ∈ pl, isWord e = true) : pl = (pl.map text).map D.str := by
  rw [List.map_map]
  conv => lhs; rw [← List.map_id pl]
  refine List.map_congr_left fun e he => ?_
  obtain ⟨t, rfl⟩ := isWord_str (h e he)
  rfl
section
variable {P : Program} {w : World} {K : PySem.W.Frag} {mg : Str → Option Value} {base : Heap}
def aLost : Acc := fun _ n ds Q => ∃ nu pl dr fi dg sc bg s t, ds = [.tup [.tup nu, .tup pl, .tup dr, .tup fi, .tup dg, .tup sc, .str bg], nmg s (.str t)] ∧ StoryOk nu pl dr fi dg sc bg ∧ (D.tup [.tup nu, .tup pl, .tup dr, .tup fi, .tup dg, .tup sc, .str bg]).fit FU = true ∧ s ∈ (["number", "figure", "scene", "place"] : List Str) ∧
  Q n (.bl (!nmOk nu pl fi sc (nmg s (.str t))))
theorem has_lost (T : Top K mg) : Has P w K mg base 1 "_law_lost" ["_law_story", "_law_naming"] aLost := by
  have hN : (["_law_story", "_law_naming", "_law_rows", "_law_places", "_law_doors", "_law_folk", "_law_digits", "_law_scenes", "_law_begin", "_law_there", "_law_row", "_law_one", "_law_scene_here"] : List Str).Nodup := by decide +kernel
  refine has_of (N := ["_law_story", "_law_naming", "_law_rows", "_law_places", "_law_doors", "_law_folk", "_law_digits", "_law_scenes", "_law_begin", "_law_there", "_law_row", "_law_one", "_law_scene_here"]) T (i := 59) (d := d_law_lost) rfl ⟨rfl, rfl, rfl, hN, rfl, by decide +kernel, by decide +kernel⟩ (by decide +kernel) rfl rfl rfl (fun _ _ _ _ _ _ us hl => match us, hl with | [_, _], _ => rfl) (fun g n ds Q h => by obtain ⟨_, _, _, _, _, _, _, _, _, rfl, _⟩ := h; rfl) fun cd Ar outer s H E hr g n ds Q h => ?_
  obtain ⟨nu, pl, dr, fi, dg, sc, bg, s0, t, rfl, S, hf, hs0, q⟩ := h
  have hk : ∀ x ∈ [D.tup nu, .tup pl, .tup dr, .tup fi, .tup dg, .tup sc, .str bg], x.fit FU = true := fit_el hf
  have l1 := fit_len (hk (.tup nu) (by simp))
  have l2 := fit_len (hk (.tup pl) (by simp))
  have l3 := fit_len (hk (.tup fi) (by simp))
  have l4 := fit_len (hk (.tup sc) (by simp))
  have big : ∀ {k : Nat}, k ≤ 1000 → k ≤ sizeLine := fun {k} h => Nat.le_trans h (show 1000 ≤ sizeLine by decide)
  refine hss_cons (hs_asg (he_name (i := 0) rfl rfl ⟨_, _, hg_tup rfl (hgs_cons (hg_name (i := 2) hN rfl) (hgs_cons (hg_name (i := 3) hN rfl) (hgs_cons (hg_name (i := 4) hN rfl) (hgs_cons (hg_name (i := 5) hN rfl) (hgs_cons (hg_name (i := 6) hN rfl) (hgs_cons (hg_name (i := 7) hN rfl) (hgs_cons (hg_name (i := 8) hN rfl) hgs_nil))))))) rfl, ?_⟩))
  refine hss_cons (hs_set (i := 9) hN rfl (he_disp (hp_cons (he_lst (hf_map firstD (own := [("_law_row", 10)]) rfl hN ?brows (own1 rfl) (hi_tup (he_name (i := 2) rfl rfl ⟨nu, rfl, big l1, ?mrows, hp_cons (he_lst (hf_list T.f_list (he_name (i := 3) rfl rfl ⟨pl, .inr rfl, hp_cons (he_lst (hf_map firstD (own := [("_law_one", 11)]) rfl hN ?bfolk (own1 rfl) (hi_tup (he_name (i := 5) rfl rfl ⟨fi, rfl, big l3, ?mfolk, hp_nil ⟨by decide +kernel, by decide, ?_⟩⟩))))⟩)))⟩)))))))
  case mrows =>
    intro e he
    obtain ⟨s, as, rfl⟩ := key_row (.inl (S.nu e he))
    exact ⟨_, fun s H C cl fp => hg_name hN rfl, fun s H C cl fp => he_ixT (he_name (i := 10) rfl rfl (he_int ⟨_, _, .str _, rfl, rfl, atI_0, rfl, rfl⟩))⟩
  case brows => exact (show BlkOk (["_law_story", "_law_naming", "_law_rows", "_law_places", "_law_doors", "_law_folk", "_law_digits", "_law_scenes", "_law_begin", "_law_there", "_law_row", "_law_one", "_law_scene_here"] : List Str) d_law_lost.scope _ _ from ⟨rfl, by decide +kernel, by decide +kernel, by decide +kernel, by decide +kernel⟩)
  case mfolk =>
    intro e he
    obtain ⟨s, as, rfl⟩ := key_row (.inr (.inl (S.fi e he)))
    exact ⟨_, fun s H C cl fp => hg_name hN rfl, fun s H C cl fp => he_ixT (he_name (i := 11) rfl rfl (he_int ⟨_, _, .str _, rfl, rfl, atI_0, rfl, rfl⟩))⟩
  case bfolk => exact (show BlkOk (["_law_story", "_law_naming", "_law_rows", "_law_places", "_law_doors", "_law_folk", "_law_digits", "_law_scenes", "_law_begin", "_law_there", "_law_row", "_law_one", "_law_scene_here"] : List Str) d_law_lost.scope _ _ from ⟨rfl, by decide +kernel, by decide +kernel, by decide +kernel, by decide +kernel⟩)
  have hc : key0 = key0 := rfl
  have hs1 : nmg s0 (.str t) = .tup [.str s0, .str t] := rfl
  rw [hs1] at q ⊢
  refine hss_cons (hs_ret (he_cmp op_notIn_seq (he_ixT (he_name (i := 1) rfl rfl (he_int ⟨_, _, .str t, rfl, rfl, atI_nat (i := 1) rfl, he_dget2 (Room.u1 hr) (he_name (i := 9) rfl rfl ⟨_, _, rfl, he_ixT (he_name (i := 1) rfl rfl (he_int ⟨_, _, .str s0, rfl, rfl, atI_0, s0, rfl, he_lst (hf_map firstD (own := [("_law_scene_here", 12)]) rfl hN ?bsc (own1 rfl) (hi_tup (he_name (i := 7) rfl rfl ⟨sc, rfl, big l4, ?msc, ?res⟩)))⟩))⟩)⟩)))))
  case msc =>
    intro e he
    obtain ⟨s, as, rfl⟩ := key_row (.inr (.inr (S.sc e he)))
    exact ⟨_, fun s H C cl fp => hg_name hN rfl, fun s H C cl fp => he_ixT (he_name (i := 12) rfl rfl (he_int ⟨_, _, .str _, rfl, rfl, atI_0, rfl, rfl⟩))⟩
  case bsc => exact (show BlkOk (["_law_story", "_law_naming", "_law_rows", "_law_places", "_law_doors", "_law_folk", "_law_digits", "_law_scenes", "_law_begin", "_law_there", "_law_row", "_law_one", "_law_scene_here"] : List Str) d_law_lost.scope _ _ from ⟨rfl, by decide +kernel, by decide +kernel, by decide +kernel, by decide +kernel⟩)
  have e1 : nmOk nu pl fi sc (.tup [.str s0, .str t]) = if s0 = "number" then hasKey key0 nu t else if s0 = "figure" then hasKey key0 fi t else if s0 = "scene" then hasKey key0 sc t else hasKey text pl t := rfl
  rw [e1] at q
  simp only [List.mem_cons, List.not_mem_nil, or_false] at hs0
  have hpl := texts S.pl
  rcases hs0 with rfl | rfl | rfl | rfl
  · rw [if_pos rfl, hasKey_mem] at q
    show RD K _ (.str t) (.lst (nu.map firstD)) _
    rw [firsts]
    exact rd_notInL q
  · rw [if_neg (by decide), if_pos rfl, hasKey_mem] at q
    show RD K _ (.str t) (.lst (fi.map firstD)) _
    rw [firsts]
    exact rd_notInL q
  · rw [if_neg (by decide), if_neg (by decide), if_pos rfl, hasKey_mem] at q
    show RD K _ (.str t) (.lst (sc.map firstD)) _
    rw [firsts]
    exact rd_notInL q
  · rw [if_neg (by decide), if_neg (by decide), if_neg (by decide), hasKey_mem] at q
    show RD K _ (.str t) (.lst pl) _
    rw [hpl]
    exact rd_notInL q
end
end Fk
set_option Elab.async false
set_option linter.all false
set_option maxRecDepth 100000
set_option maxHeartbeats 4000000
/-! Y3: a list is not empty; the first that is not so. -/
namespace Fk
open PySem PySem.Spec PyProof.Rows L2
theorem rd_neNil {K : PySem.W.Frag} {Q : D → Prop} {ds : List D} {k : Nat} (hf : (D.lst ds).fit k = true) (hs : SeqAt.shaped (D.lst ds).py = true) (q : Q (.bl (!ds.isEmpty))) : RD K (rNeD K) (.lst ds) (.lst []) Q := fun W H v u _ dx dy R r => by
  refine ⟨_, _, DD.dp hf dx, DD.dp (k := 1) rfl dy, hs, rfl, ?_⟩
  have e : (!PyData.eqv (D.lst ds).py (D.lst []).py) = !ds.isEmpty := by
    rw [D.py, D.py, pys, PyData.eqv]
    cases ds with
    | nil => rfl
    | cons d ds => rfl
  rw [e]
  exact r _ _ H q (Same.refl H) (.bl _)
theorem pys_map {α : Type} (f : α → D) : ∀ l : List α, pys (l.map f) = l.map fun a => (f a).py
  | [] => rfl
  | a :: l => by rw [List.map_cons, pys, pys_map f l, List.map_cons]
theorem shaped_ints (ks : List Nat) : SeqAt.shaped (D.lst (ks.map fun k : Nat => .int (k : Int))).py = true := by
  rw [D.py, pys_map]
  have h1 : PyData.canLayAll0 (ks.map fun k : Nat => (D.int (k : Int)).py) = true := by
    induction ks with
    | nil => rfl
    | cons k ks ih =>
      rw [List.map_cons, PyData.canLayAll0, ih]
      rfl
  have h2 : PyData.depthAll (ks.map fun k : Nat => (D.int (k : Int)).py) ≤ 1 := by
    clear h1
    induction ks with
    | nil => exact Nat.zero_le _
    | cons k ks ih =>
      rw [List.map_cons, PyData.depthAll, D.py, PyData.depth]
      omega
  unfold SeqAt.shaped
  rw [PyData.canLay0, h1, PyData.depth]
  simp only [Bool.true_and, decide_eq_true_eq]
  omega
/-- the places where p does not hold -/
def badL (p : D → Bool) (ds : List D) : List Nat := (List.range ds.length).filter fun k => !p (ds.getD k .non)
theorem firstNot_ge (p : D → Bool) : ∀ (ds : List D) (i j : Nat), firstNot p i ds = some j → i ≤ j
  | [], _, _, h => by cases h
  | d :: ds, i, j, h => by
    rw [firstNot] at h
    split at h
    · exact Nat.le_of_succ_le (firstNot_ge p ds (i + 1) j h)
    · cases h
      exact Nat.le_refl _
theorem badL_range (p : D → Bool) : ∀ (ds : List D) (i : Nat), ((List.range' i ds.length).filter fun k => !p (ds.getD (k - i) .non)).head? = firstNot p i ds
  | [], i => rfl
  | d :: ds, i => by
    rw [List.length_cons, List.range'_succ, List.filter_cons, firstNot]
    have e0 : (d :: ds).getD (i - i) .non = d := by rw [Nat.sub_self]; rfl
    rw [e0]
    cases hp : p d with
    | false => rfl
    | true =>
      rw [if_neg (by simp), if_pos rfl, ← badL_range p ds (i + 1)]
      congr 1
      refine List.filter_congr fun k hk => ?_
      have hk1 : i + 1 ≤ k := (List.mem_range'_1.mp hk).1
      have e1 : k - i = (k - (i + 1)) + 1 := by omega
      rw [e1]
      rfl
theorem badL_head (p : D → Bool) (ds : List D) : (badL p ds).head? = firstNot p 0 ds := by
  rw [← badL_range p ds 0]
  unfold badL
  rw [List.range_eq_range']
  rfl
/-- as the comprehension builds it -/
def badF (p : D → Bool) (ds : List D) (d : D) : Option D := match d with
  | .int k => if p (ds.getD k.toNat .non) = true then none else some d
  | _ => none
theorem badF_list (p : D → Bool) (ds : List D) (n : Nat) (h : n = ds.length) : (rangeD n).filterMap (badF p ds) = (badL p ds).map fun k : Nat => .int (k : Int) := by
  subst h
  unfold rangeD badL
  rw [List.filterMap_map]
  have e : ∀ l : List Nat, l.filterMap (badF p ds ∘ fun i : Nat => D.int (i : Int)) = (l.filter fun k => !p (ds.getD k .non)).map fun k : Nat => .int (k : Int) := by
    intro l
    induction l with
    | nil => rfl
    | cons k l ih =>
      rw [List.filterMap_cons, List.filter_cons]
      have e2 : (badF p ds ∘ fun i : Nat => D.int (i : Int)) k = if p (ds.getD k .non) = true then none else some (D.int (k : Int)) := rfl
      rw [e2]
      cases hp : p (ds.getD k .non) with
      | true => simpa using ih
      | false => simp [ih]
  exact e _
end Fk
set_option Elab.async false
set_option linter.all false
set_option maxRecDepth 100000
set_option maxHeartbeats 4000000
/-! Y4: _law_due. -/
namespace Fk
open PySem PySem.Spec PyProof.Rows L2
theorem rd_notInTe {K : PySem.W.Frag} {Q : D → Prop} {s : Str} {ss : List Str} {ds : List D} (e : ds = ss.map .str) (q : Q (.bl (!decide (s ∈ ss)))) : RD K (rIn K true) (.str s) (.tup ds) Q := by
  subst e
  exact rd_notInT q
theorem range_get {n : Nat} {d : D} (h : d ∈ rangeD n) : ∃ k : Nat, k < n ∧ d = .int (k : Int) := by
  obtain ⟨k, hk, rfl⟩ := List.mem_map.mp h
  exact ⟨k, List.mem_range.mp hk, rfl⟩
theorem range_at {n i : Nat} {d : D} (h : (rangeD n)[i]? = some d) : i < n ∧ d = .int (i : Int) := by
  unfold rangeD at h
  rw [List.getElem?_map] at h
  cases e : (List.range n)[i]? with
  | none => rw [e] at h; cases h
  | some k =>
    rw [e] at h
    cases h
    have hi := (List.getElem?_eq_some_iff.mp e).1
    rw [List.length_range] at hi
    rw [List.getElem?_eq_getElem (by rwa [List.length_range]), List.getElem_range] at e
    cases e
    exact ⟨hi, rfl⟩
theorem badL_get {p : D → Bool} {ds : List D} {j : Nat} (h : firstNot p 0 ds = some j) : ∃ ks, badL p ds = j :: ks := by
  rw [← badL_head] at h
  cases e : badL p ds with
  | nil => rw [e] at h; cases h
  | cons k ks =>
    rw [e] at h
    cases h
    exact ⟨ks, rfl⟩
theorem badL_nil {p : D → Bool} {ds : List D} (h : firstNot p 0 ds = none) : badL p ds = [] := by
  rw [← badL_head] at h
  cases e : badL p ds with
  | nil => rfl
  | cons k ks => rw [e] at h; cases h
theorem fit_ints (l : List Nat) (h : l.length ≤ 1000) : (D.lst (l.map fun k : Nat => .int (k : Int))).fit 2 = true := by
  rw [D.fit, List.length_map, decide_eq_true h, fits_of fun d hd => ?_]
  · rfl
  · obtain ⟨k, _, rfl⟩ := List.mem_map.mp hd
    rfl
theorem dps_ints {K : PySem.W.Frag} {W : List Addr} {H : Hp} : ∀ {l : List Nat} {vs : List V}, DDs K W H vs (l.map fun k : Nat => .int (k : Int)) → DpAll K H vs (pys (l.map fun k : Nat => .int (k : Int)))
  | [], _, h => by
    cases h
    exact .nil
  | k :: l, _, h => by
    cases h with
    | cons h1 h2 =>
      cases h1
      rw [List.map_cons, pys, D.py]
      exact .cons (.int _) (dps_ints h2)
theorem rd_neInts {K : PySem.W.Frag} {Q : D → Prop} {l : List Nat} (q : Q (.bl (!(l.map fun k : Nat => D.int (k : Int)).isEmpty))) : RD K (rNeD K) (.lst (l.map fun k : Nat => .int (k : Int))) (.lst []) Q := fun W H v u _ dx dy R r => by
  obtain ⟨a, xs, rfl, _, ha, hx⟩ := dx.lst_inv
  have dp : Dp K H (.ref a) (D.lst (l.map fun k : Nat => .int (k : Int))).py := by
    rw [D.py]
    exact .lst (.inl (.inl ha)) (dps_ints hx)
  refine ⟨_, _, dp, DD.dp (k := 1) rfl dy, shaped_ints l, rfl, ?_⟩
  have e : (!PyData.eqv (D.lst (l.map fun k : Nat => .int (k : Int))).py (D.lst []).py) = !(l.map fun k : Nat => D.int (k : Int)).isEmpty := by
    rw [D.py, D.py, pys, PyData.eqv]
    cases l with
    | nil => rfl
    | cons d ds => rfl
  rw [e]
  exact r _ _ H q (Same.refl H) (.bl _)
theorem badL_len (p : D → Bool) (ds : List D) : (badL p ds).length ≤ ds.length := by
  unfold badL
  exact Nat.le_trans (List.length_filter_le _ _) (by rw [List.length_range]; exact Nat.le_refl _)
section
variable {P : Program} {w : World} {K : PySem.W.Frag} {mg : Str → Option Value} {base : Heap}
theorem has_due (T : Top K mg) : Has P w K mg base (LV + 14) "_law_due" ["_law_thing"] aHeard := by
  have hN : (["_law_thing", "_law_rows", "_law_places", "_law_doors", "_law_folk", "_law_digits", "_law_scenes", "_law_begin", "_law_bad", "_law_k", "_law_scene_here", "_law_some", "_law_j"] : List Str).Nodup := by decide +kernel
  refine has_of (N := ["_law_thing", "_law_rows", "_law_places", "_law_doors", "_law_folk", "_law_digits", "_law_scenes", "_law_begin", "_law_bad", "_law_k", "_law_scene_here", "_law_some", "_law_j"]) T (i := 60) (d := d_law_due) rfl ⟨rfl, rfl, rfl, hN, rfl, by decide +kernel, by decide +kernel⟩ (by decide +kernel) rfl rfl rfl (fun _ _ _ _ _ _ us hl => match us, hl with | [_], _ => rfl) (fun g n ds Q h => by obtain ⟨_, rfl, _⟩ := h; rfl) fun cd Ar outer s H E hr g n ds Q h => ?_
  obtain ⟨d, rfl, hf, hz, q⟩ := h
  refine hss_cons (hs_ifP (!decide (isStory d = true)) (ht_cmp op_notBl (he_call (on_is_story T hf hz) hr (ha_cons (he_name (i := 0) rfl rfl (ha_nil ⟨rfl, he_bl (rd_notB ⟨_, rfl, rfl, rfl⟩)⟩))))) (fun hb => ?no) fun hb => ?yes)
  case no =>
    have hn : ¬ isStory d = true := by simpa using hb
    have e : heardD d = .tup [.str "no", .str "shape", .int (-1)] := by
      unfold heardD wholeV
      rw [if_neg hn]
    rw [e] at q
    exact hss_cons (hs_ret (he_tup (ha_cons (he_str (ha_cons (he_str (ha_cons (he_neg (ha_nil ⟨le3, q⟩)))))))))
  have hst : isStory d = true := by simpa using hb
  refine hss_nil ?_
  obtain ⟨nu, pl, dr, fi, dg, sc, bg, rfl, S⟩ := story_inv hst
  have hwv : wholeV (.tup [.tup nu, .tup pl, .tup dr, .tup fi, .tup dg, .tup sc, .str bg]) = match groundV pl dr fi sc bg with
      | some (v, a) => some (.str v, a)
      | none => sceneV (nmOk nu pl fi sc) 0 sc := by
    unfold wholeV
    rw [if_pos hst] <;> rfl
  have hk : ∀ x ∈ [D.tup nu, .tup pl, .tup dr, .tup fi, .tup dg, .tup sc, .str bg], x.fit FU = true := fit_el hf
  have l3 := fit_len (hk (.tup fi) (by simp))
  have l4 := fit_len (hk (.tup sc) (by simp))
  have l5 := fit_len (hk (.tup dr) (by simp))
  have hsf : (D.tup sc).fit FU = true := hk (.tup sc) (by simp)
  have hsz : (D.tup sc).sz ≤ MX := sz_in hz (.tup sc) (by simp)
  have big : ∀ {k : Nat}, k ≤ 1000 → k ≤ sizeLine := fun {k} h => Nat.le_trans h (show 1000 ≤ sizeLine by decide)
  have hpl := texts S.pl
  refine hss_cons (hs_asg (he_name (i := 0) rfl rfl ⟨_, _, hg_tup rfl (hgs_cons (hg_name (i := 1) hN rfl) (hgs_cons (hg_name (i := 2) hN rfl) (hgs_cons (hg_name (i := 3) hN rfl) (hgs_cons (hg_name (i := 4) hN rfl) (hgs_cons (hg_name (i := 5) hN rfl) (hgs_cons (hg_name (i := 6) hN rfl) (hgs_cons (hg_name (i := 7) hN rfl) hgs_nil))))))) rfl, ?_⟩))
  refine hss_cons (hs_setLcD (i := 8) (own := [("_law_k", 9)]) hN rfl ?b1 (own1 rfl) (lc_mapIf (badF (doorOk pl) dr) (hi_range T.f_range (he_len T.f_len (he_name (i := 3) rfl rfl ⟨rfl, (dr.length : Int), rfl, by omega, by omega, ?l1, fun d hd => ?m1, ?r1⟩)))))
  case b1 => exact (show BlkOk (["_law_thing", "_law_rows", "_law_places", "_law_doors", "_law_folk", "_law_digits", "_law_scenes", "_law_begin", "_law_bad", "_law_k", "_law_scene_here", "_law_some", "_law_j"] : List Str) d_law_due.scope _ _ from ⟨rfl, by decide +kernel, by decide +kernel, by decide +kernel, by decide +kernel⟩)
  case l1 =>
    unfold rangeD
    rw [List.length_map, List.length_range]
    exact big (by omega)
  case m1 =>
    obtain ⟨k, hk2, rfl⟩ := range_get hd
    have hk3 : k < dr.length := by omega
    obtain ⟨s, t, hdoor⟩ := door_pair (S.dr _ (List.getElem_mem hk3))
    have hget : dr[k]? = some (.tup [.str s, .str t]) := by rw [List.getElem?_eq_getElem hk3, hdoor]
    have hgd : dr.getD k .non = .tup [.str s, .str t] := by rw [List.getD_eq_getElem?_getD, hget]; rfl
    have hb1 : badF (doorOk pl) dr (.int (k : Int)) = if doorOk pl (.tup [.str s, .str t]) = true then none else some (.int (k : Int)) := by
      show (if doorOk pl (dr.getD (k : Int).toNat .non) = true then none else some (D.int (k : Int))) = _
      rw [Int.toNat_natCast, hgd]
    have hb2 : (badF (doorOk pl) dr (.int (k : Int))).isSome = ((!decide (s ∈ pl.map text)) || (!decide (t ∈ pl.map text))) := by
      have e1 : doorOk pl (.tup [.str s, .str t]) = (decide (s ∈ pl.map text) && decide (t ∈ pl.map text)) := by
        rw [← hasKey_mem, ← hasKey_mem]
        show ([D.str s, .str t].all fun p => hasKey text pl (text p)) = _
        simp [text]
      rw [hb1, e1]
      by_cases h1 : s ∈ pl.map text <;> by_cases h2 : t ∈ pl.map text <;> simp [h1, h2]
    refine ⟨_, fun s' H C cl fp => hg_name hN rfl, fun s' H C cl fp => ?_, fun s' H C cl fp hy => he_name (i := 9) rfl rfl ⟨rfl, ?_⟩⟩
    · rw [hb2]
      refine ht_bool (hw_orP (ht_cmp op_notIn_seq (he_ixT (he_ixT (he_name (i := 3) rfl rfl (he_name (i := 9) rfl rfl ⟨dr, _, _, rfl, rfl, atI_nat hget, he_int ⟨_, _, .str s, rfl, rfl, atI_0, he_name (i := 2) rfl rfl (rd_notInTe hpl ⟨_, rfl, rfl, rfl⟩)⟩⟩))))) fun _ => hw_or1 (ht_cmp op_notIn_seq (he_ixT (he_ixT (he_name (i := 3) rfl rfl (he_name (i := 9) rfl rfl ⟨dr, _, _, rfl, rfl, atI_nat hget, he_int ⟨_, _, .str t, rfl, rfl, atI_nat (i := 1) rfl, he_name (i := 2) rfl rfl (rd_notInTe hpl ⟨_, rfl, rfl, rfl⟩)⟩⟩)))))) 
    · rw [hb1] at hy ⊢
      split at hy
      · cases hy
      · rename_i hx
        rw [if_neg hx]
  case r1 =>
  rw [badF_list (doorOk pl) dr _ (by simp)]
  have hz1 := badL_len (doorOk pl) dr
  refine hss_cons (hs_ifP (!((badL (doorOk pl) dr).map fun k : Nat => D.int (k : Int)).isEmpty) (ht_cmp (op_neD (Room.units hr)) (he_name (i := 8) rfl rfl (he_lst (hf_lst (ha_nil ⟨Nat.zero_le _, rd_neNil (fit_ints _ (by omega)) (shaped_ints _) ⟨_, rfl, rfl, rfl⟩⟩))))) (fun hb => ?n2) fun hb => hss_nil ?y2)
  case n2 =>
    cases hg : firstNot (doorOk pl) 0 dr with
    | none => rw [badL_nil hg] at hb; cases hb
    | some j =>
      obtain ⟨ks, e⟩ := badL_get hg
      rw [e]
      refine hss_cons (hs_ret (he_tup (ha_cons (he_str (ha_cons (he_str (ha_cons (he_ixL (he_name (i := 8) rfl rfl (he_int ⟨_, _, .int (j : Int), rfl, rfl, atI_0, ha_nil ⟨le3, ?_⟩⟩))))))))))
      have e2 : heardD (.tup [.tup nu, .tup pl, .tup dr, .tup fi, .tup dg, .tup sc, .str bg]) = .tup [.str "no", .str "door", .int (j : Int)] := by
        unfold heardD
        rw [hwv]
        unfold groundV
        rw [hg]
      rw [e2] at q
      exact q
  have g1 : firstNot (doorOk pl) 0 dr = none := by
    cases hg : firstNot (doorOk pl) 0 dr with
    | none => rfl
    | some j =>
      obtain ⟨ks, e⟩ := badL_get hg
      rw [e] at hb
      cases hb
  rw [badL_nil g1]
  refine hss_cons (hs_setLcD (i := 8) (own := [("_law_k", 9)]) hN rfl ?b3 (own1 rfl) (lc_mapIf (badF (figOk pl) fi) (hi_range T.f_range (he_len T.f_len (he_name (i := 4) rfl rfl ⟨rfl, (fi.length : Int), rfl, by omega, by omega, ?l3, fun d hd => ?m3, ?r3⟩)))))
  case b3 => exact (show BlkOk (["_law_thing", "_law_rows", "_law_places", "_law_doors", "_law_folk", "_law_digits", "_law_scenes", "_law_begin", "_law_bad", "_law_k", "_law_scene_here", "_law_some", "_law_j"] : List Str) d_law_due.scope _ _ from ⟨rfl, by decide +kernel, by decide +kernel, by decide +kernel, by decide +kernel⟩)
  case l3 =>
    unfold rangeD
    rw [List.length_map, List.length_range]
    exact big (by omega)
  case m3 =>
    obtain ⟨k, hk2, rfl⟩ := range_get hd
    have hk3 : k < fi.length := by omega
    obtain ⟨s, t, hpair, _⟩ := pair_row (S.fi _ (List.getElem_mem hk3))
    have hget : fi[k]? = some (.tup [.str s, .str t]) := by rw [List.getElem?_eq_getElem hk3, hpair]
    have hgd : fi.getD k .non = .tup [.str s, .str t] := by rw [List.getD_eq_getElem?_getD, hget]; rfl
    have hb1 : badF (figOk pl) fi (.int (k : Int)) = if figOk pl (.tup [.str s, .str t]) = true then none else some (.int (k : Int)) := by
      show (if figOk pl (fi.getD (k : Int).toNat .non) = true then none else some (D.int (k : Int))) = _
      rw [Int.toNat_natCast, hgd]
    have hb2 : (badF (figOk pl) fi (.int (k : Int))).isSome = (!decide (t ∈ pl.map text)) := by
      have e1 : figOk pl (.tup [.str s, .str t]) = decide (t ∈ pl.map text) := by
        rw [← hasKey_mem]
        rfl
      rw [hb1, e1]
      by_cases h2 : t ∈ pl.map text <;> simp [h2]
    refine ⟨_, fun s' H C cl fp => hg_name hN rfl, fun s' H C cl fp => ?_, fun s' H C cl fp hy => he_name (i := 9) rfl rfl ⟨rfl, ?_⟩⟩
    · rw [hb2]
      exact ht_cmp op_notIn_seq (he_ixT (he_ixT (he_name (i := 4) rfl rfl (he_name (i := 9) rfl rfl ⟨fi, _, _, rfl, rfl, atI_nat hget, he_int ⟨_, _, .str t, rfl, rfl, atI_nat (i := 1) rfl, he_name (i := 2) rfl rfl (rd_notInTe hpl ⟨_, rfl, rfl, rfl⟩)⟩⟩))))
    · rw [hb1] at hy ⊢
      split at hy
      · cases hy
      · rename_i hx
        rw [if_neg hx]
  rw [badF_list (figOk pl) fi _ (by simp)]
  have hz2 := badL_len (figOk pl) fi
  refine hss_cons (hs_ifP (!((badL (figOk pl) fi).map fun k : Nat => D.int (k : Int)).isEmpty) (ht_cmp (op_neD (Room.units hr)) (he_name (i := 8) rfl rfl (he_lst (hf_lst (ha_nil ⟨Nat.zero_le _, rd_neNil (fit_ints _ (by omega)) (shaped_ints _) ⟨_, rfl, rfl, rfl⟩⟩))))) (fun hb => ?n4) fun hb => hss_nil ?y4)
  case n4 =>
    cases hg : firstNot (figOk pl) 0 fi with
    | none => rw [badL_nil hg] at hb; cases hb
    | some j =>
      obtain ⟨ks, e⟩ := badL_get hg
      rw [e]
      refine hss_cons (hs_ret (he_tup (ha_cons (he_str (ha_cons (he_str (ha_cons (he_ixL (he_name (i := 8) rfl rfl (he_int ⟨_, _, .int (j : Int), rfl, rfl, atI_0, ha_nil ⟨le3, ?_⟩⟩))))))))))
      have e2 : heardD (.tup [.tup nu, .tup pl, .tup dr, .tup fi, .tup dg, .tup sc, .str bg]) = .tup [.str "no", .str "figure", .int (j : Int)] := by
        unfold heardD
        rw [hwv]
        unfold groundV
        rw [g1, hg]
      rw [e2] at q
      exact q
  have g2 : firstNot (figOk pl) 0 fi = none := by
    cases hg : firstNot (figOk pl) 0 fi with
    | none => rfl
    | some j =>
      obtain ⟨ks, e⟩ := badL_get hg
      rw [e] at hb
      cases hb
  rw [badL_nil g2]
  refine hss_cons (hs_ifP (!hasKey key0 sc bg) (ht_cmp op_notIn_seq (he_name (i := 7) rfl rfl (he_lst (hf_map firstD (own := [("_law_scene_here", 10)]) rfl hN ?b5 (own1 rfl) (hi_tup (he_name (i := 6) rfl rfl ⟨sc, rfl, big l4, ?m5, ?r5⟩)))))) (fun hb => ?n6) fun hb => hss_nil ?y6)
  case b5 => exact (show BlkOk (["_law_thing", "_law_rows", "_law_places", "_law_doors", "_law_folk", "_law_digits", "_law_scenes", "_law_begin", "_law_bad", "_law_k", "_law_scene_here", "_law_some", "_law_j"] : List Str) d_law_due.scope _ _ from ⟨rfl, by decide +kernel, by decide +kernel, by decide +kernel, by decide +kernel⟩)
  case m5 =>
    intro e he
    obtain ⟨s, as, rfl⟩ := key_row (.inr (.inr (S.sc e he)))
    exact ⟨_, fun s H C cl fp => hg_name hN rfl, fun s H C cl fp => he_ixT (he_name (i := 10) rfl rfl (he_int ⟨_, _, .str _, rfl, rfl, atI_0, rfl, rfl⟩))⟩
  case r5 =>
    rw [firsts, hasKey_mem]
    exact rd_notInL ⟨_, rfl, rfl, rfl⟩
  case n6 =>
    have e2 : heardD (.tup [.tup nu, .tup pl, .tup dr, .tup fi, .tup dg, .tup sc, .str bg]) = .tup [.str "no", .str "begin", .int (-1)] := by
      unfold heardD
      rw [hwv]
      unfold groundV
      rw [g1, g2, if_neg (by simpa using hb)]
    rw [e2] at q
    exact hss_cons (hs_ret (he_tup (ha_cons (he_str (ha_cons (he_str (ha_cons (he_neg (ha_nil ⟨le3, q⟩)))))))))
  have g3 : groundV pl dr fi sc bg = none := by
    unfold groundV
    rw [g1, g2, if_pos (by simpa using hb)]
  rw [g3] at hwv
  simp only at hwv
  refine hss_cons (hs_for rfl PassesOwn.never (hi_range T.f_range (he_len T.f_len (he_name (i := 6) rfl rfl ⟨rfl, (sc.length : Int), rfl, by omega, by omega, fun i m ρ' => m = n ∧ (∃ x8 x9 x11 : SV, ρ' = [.dat (.tup [.tup nu, .tup pl, .tup dr, .tup fi, .tup dg, .tup sc, .str bg]), .dat (.tup nu), .dat (.tup pl), .dat (.tup dr), .dat (.tup fi), .dat (.tup dg), .dat (.tup sc), .dat (.str bg), x8, x9, .no, x11, .no]) ∧ sceneV (nmOk nu pl fi sc) i (sc.drop i) = sceneV (nmOk nu pl fi sc) 0 sc, ⟨rfl, ⟨_, _, _, rfl⟩, rfl⟩, fun i d m ρ' hd hI => ?_, fun m ρ' hI => ?_⟩))))
  · obtain ⟨rfl, ⟨x8, x9, x11, rfl⟩, hv⟩ := hI
    obtain ⟨hi, rfl⟩ := range_at hd
    rw [Int.toNat_natCast] at hi
    have hsc : sc[i]? = some sc[i] := List.getElem?_eq_getElem hi
    have hmem : sc[i] ∈ sc := List.getElem_mem hi
    generalize sc[i] = scn at hsc hmem
    have hscn := S.sc scn hmem
    have hfs := fit_el hsf scn hmem
    have hzs := sz_in hsz scn hmem
    rw [drop_at hsc, sceneV] at hv
    have hnl : (namesL scn).length ≤ MX := by
      unfold namesL
      rw [List.length_map]
      exact Nat.le_trans (scene_len hfs hscn) hzs
    refine ⟨_, _, hg_name (i := 9) hN rfl, ?_⟩
    refine hss_cons (hs_set (i := 11) hN rfl (he_call (has_namesOf T) (hr.mono (by decide)) (ha_cons (he_ixT (he_name (i := 6) rfl rfl (he_name (i := 9) rfl rfl ⟨sc, _, scn, rfl, rfl, atI_nat hsc, ha_nil ⟨scn, rfl, hscn, hfs, hzs, ?_⟩⟩))))))
    have hMX : MX = 1048576 := rfl
    refine hss_cons (hs_setLcD (i := 8) (own := [("_law_j", 12)]) hN rfl ?b7 (own1 rfl) (lc_mapIf (badF (nmOk nu pl fi sc) (namesL scn)) (hi_range T.f_range (he_len T.f_len (he_name (i := 11) rfl rfl ⟨rfl, ((namesL scn).length : Int), rfl, by omega, by omega, ?l7, fun d hd => ?m7, ?r7⟩)))))
    case b7 => exact (show BlkOk (["_law_thing", "_law_rows", "_law_places", "_law_doors", "_law_folk", "_law_digits", "_law_scenes", "_law_begin", "_law_bad", "_law_k", "_law_scene_here", "_law_some", "_law_j"] : List Str) d_law_due.scope _ _ from ⟨rfl, by decide +kernel, by decide +kernel, by decide +kernel, by decide +kernel⟩)
    case l7 =>
      unfold rangeD
      rw [List.length_map, List.length_range]
      exact Nat.le_trans (by omega) (show MX ≤ sizeLine by decide)
    case m7 =>
      obtain ⟨k, hk2, rfl⟩ := range_get hd
      have hk3 : k < (namesL scn).length := by omega
      have hget : (namesL scn)[k]? = some (namesL scn)[k] := List.getElem?_eq_getElem hk3
      obtain ⟨s, t, hnm, hs⟩ := names_nm hscn _ (List.getElem_mem hk3)
      rw [hnm] at hget
      have hgd : (namesL scn).getD k .non = nmg s (.str t) := by rw [List.getD_eq_getElem?_getD, hget]; rfl
      have hb1 : badF (nmOk nu pl fi sc) (namesL scn) (.int (k : Int)) = if nmOk nu pl fi sc (nmg s (.str t)) = true then none else some (.int (k : Int)) := by
        show (if nmOk nu pl fi sc ((namesL scn).getD (k : Int).toNat .non) = true then none else some (D.int (k : Int))) = _
        rw [Int.toNat_natCast, hgd]
      refine ⟨_, fun s' H C cl fp => hg_name hN rfl, fun s' H C cl fp => ?_, fun s' H C cl fp hy => he_name (i := 12) rfl rfl ⟨rfl, ?_⟩⟩
      · refine HT.mono (ht_valP (p := !nmOk nu pl fi sc (nmg s (.str t))) (he_call (has_lost T) (hr.mono (by decide)) (ha_cons (he_name (i := 0) rfl rfl (ha_cons (he_ixT (he_name (i := 11) rfl rfl (he_name (i := 12) rfl rfl ⟨namesL scn, _, _, rfl, rfl, atI_nat hget, ha_nil ⟨nu, pl, dr, fi, dg, sc, bg, s, t, rfl, S, hf, hs, rfl, rfl⟩⟩)))))))) fun n' b hq => ⟨hq.1, ?_⟩
        rw [hq.2, hb1]
        cases nmOk nu pl fi sc (nmg s (.str t)) <;> rfl
      · rw [hb1] at hy ⊢
        split at hy
        · cases hy
        · rename_i hx
          rw [if_neg hx]
    rw [badF_list (nmOk nu pl fi sc) (namesL scn) _ (by simp)]
    refine hss_cons (hs_ifP (!((badL (nmOk nu pl fi sc) (namesL scn)).map fun k : Nat => D.int (k : Int)).isEmpty) (ht_cmp (op_neD (Room.units hr)) (he_name (i := 8) rfl rfl (he_lst (hf_lst (ha_nil ⟨Nat.zero_le _, rd_neInts ⟨_, rfl, rfl, rfl⟩⟩))))) (fun hb => ?n8) fun hb => hss_nil ?y8)
    case n8 =>
      cases hg : firstNot (nmOk nu pl fi sc) 0 (namesL scn) with
      | none => rw [badL_nil hg] at hb; cases hb
      | some j =>
        obtain ⟨ks, e⟩ := badL_get hg
        have hj : j < (namesL scn).length := by
          have hj0 : j ∈ badL (nmOk nu pl fi sc) (namesL scn) := by rw [e]; exact List.mem_cons_self
          unfold badL at hj0
          exact List.mem_range.mp (List.mem_filter.mp hj0).1
        have hget : (namesL scn)[j]? = some (namesL scn)[j] := List.getElem?_eq_getElem hj
        obtain ⟨s, t, hnm, hs⟩ := names_nm hscn _ (List.getElem_mem hj)
        rw [hnm] at hget
        have hgd : (namesL scn).getD j .non = nmg s (.str t) := by rw [List.getD_eq_getElem?_getD, hget]; rfl
        rw [hg] at hv
        simp only at hv
        rw [hgd] at hv
        have e2 : heardD (.tup [.tup nu, .tup pl, .tup dr, .tup fi, .tup dg, .tup sc, .str bg]) = .tup [.str "no", .str s, .tup [.int (i : Nat), .int (j : Nat)]] := by
          unfold heardD
          rw [hwv, ← hv]
          rfl
        rw [e2] at q
        rw [e]
        refine hss_cons (hs_ret (he_tup (ha_cons (he_str (ha_cons (he_ixT (he_ixT (he_name (i := 11) rfl rfl (he_ixL (he_name (i := 8) rfl rfl (he_int ⟨_, _, .int (j : Int), rfl, rfl, atI_0, namesL scn, _, _, rfl, rfl, atI_nat hget, he_int ⟨_, _, .str s, rfl, rfl, atI_0, ha_cons (he_tup (ha_cons (he_name (i := 9) rfl rfl (ha_cons (he_ixL (he_name (i := 8) rfl rfl (he_int ⟨_, _, .int (j : Int), rfl, rfl, atI_0, ha_nil ⟨le2, ha_nil ⟨le3, q⟩⟩⟩)))))))⟩⟩)))))))))))
    case y8 =>
      have hg : firstNot (nmOk nu pl fi sc) 0 (namesL scn) = none := by
        cases hg : firstNot (nmOk nu pl fi sc) 0 (namesL scn) with
        | none => rfl
        | some j =>
          obtain ⟨ks, e⟩ := badL_get hg
          rw [e] at hb
          cases hb
      rw [hg] at hv
      exact hss_nil ⟨rfl, ⟨_, _, _, rfl⟩, hv⟩
  · obtain ⟨rfl, ⟨x8, x9, x11, rfl⟩, hv⟩ := hI
    have e2 : heardD (.tup [.tup nu, .tup pl, .tup dr, .tup fi, .tup dg, .tup sc, .str bg]) = .tup [.str "told", .bl true] := by
      have hl : (rangeD (sc.length : Int).toNat).length = sc.length := by
        unfold rangeD
        rw [List.length_map, List.length_range, Int.toNat_natCast]
      rw [hl, List.drop_length, sceneV] at hv
      unfold heardD
      rw [hwv, ← hv]
    rw [e2] at q
    exact hss_cons (hs_ret (he_tup (ha_cons (he_str (ha_cons (he_bl (ha_nil ⟨le2, q⟩)))))))
end
end Fk
set_option Elab.async false
set_option linter.all false
set_option maxRecDepth 100000
set_option maxHeartbeats 4000000
/-! Z1: the feed. -/
namespace Fk
open PySem PySem.Spec PyProof.Rows L2
/-- the feed stands at fa, its cells at ca; so many draws were made -/
structure Feed (g : Gx) (fa ca : Addr) (cs : List Int) : Prop where
  ga : fa ∈ g.G
  cr : ca ∈ g.R
  get : ∀ n H, g.J n H → ∃ i gr : Int, H fa = some (.lst [.ref ca, .int i, .int gr, .int (n : Nat)]) ∧ H ca = some (.lst (cs.map V.int))
  put : ∀ n H, g.J n H → ∀ (n' : Nat) (i gr : Int), g.J n' (upd H fa (.lst [.ref ca, .int i, .int gr, .int (n' : Nat)]))
def feedD (cs : List Int) (i gr : Int) (n : Nat) : List D := [.lst (cs.map .int), .int i, .int gr, .int (n : Int)]
theorem dds_ints {K : PySem.W.Frag} {W : List Addr} {H : Hp} : ∀ cs : List Int, DDs K W H (cs.map V.int) (cs.map D.int)
  | [] => .nil
  | c :: cs => .cons (.int c) (dds_ints cs)
section
variable {X : Cx} {g : Gx} {n : Nat} {ρ : List SV} {e : Expr} {pos p p1 p2 p3 : Pos} {Q : Nat → D → Prop} {nx : Nat → List SV → Prop} {rt : Nat → SV → Prop} {fa ca : Addr} {cs : List Int} {r j : Nat} {x : Str} {k : Int}
theorem he_fd (F : Feed g fa ca cs) (hr : ρ[r]? = some (.dat (.obj fa))) (hN : X.N[r]? = some x) (q : ∀ i gr, ∃ d, atI (feedD cs i gr n) k = some d ∧ Q n d)
    (hv : Vis X.env.scope x := by first | exact Or.inl rfl | exact Or.inr (Or.inl rfl) | exact Or.inr (Or.inr rfl)) (hd : (x == ("__debug__" : Str)) = false := by decide) (hcd : (x == ("__classdict__" : Str)) = false := by decide) (hs : PlainIx (.Constant (.int k) j p2) := by exact fun _ _ => rfl) : HE X g n ρ (.Subscript (.Name x p1) (.Constant (.int k) j p2) pos) Q := fun W σ H kk R rr => by
  obtain ⟨v, h1, h2⟩ := kk.dats r _ hr
  obtain ⟨i, gr, h3, h4⟩ := F.get n H kk.j
  obtain ⟨d, h5, h6⟩ := q i gr
  cases h2
  have dds : DDs X.K W H [.ref ca, .int i, .int gr, .int (n : Nat)] (feedD cs i gr n) := .cons (.lst (kk.gw.r ca F.cr) h4 (dds_ints cs)) (.cons (.int _) (.cons (.int _) (.cons (.int _) .nil)))
  obtain ⟨w, h7, h8⟩ := dds.atI h5
  exact (pe_ix ix_list (pe_var hN hv hd hcd) pe_int hs).wpr ⟨_, h1, fa, _, k, w, rfl, rfl, .inl (.inl h3), h7, rr n d w H h6 .refl kk.j h8⟩
/-- feed[k] = e, k = 1, 2, 3 -/
theorem hs_fd (F : Feed g fa ca cs) (hr : ρ[r]? = some (.dat (.obj fa))) (hN : X.N[r]? = some x) (h : HE X g n ρ e fun n1 d => ∃ c : Int, d = .int c ∧ ((k = 1 ∧ nx n1 ρ) ∨ (k = 2 ∧ nx n1 ρ) ∨ (k = 3 ∧ ∃ n2 : Nat, c = (n2 : Int) ∧ nx n2 ρ)))
    (hv : Vis X.env.scope x := by first | exact Or.inl rfl | exact Or.inr (Or.inl rfl) | exact Or.inr (Or.inr rfl)) (hd : (x == ("__debug__" : Str)) = false := by decide) (hcd : (x == ("__classdict__" : Str)) = false := by decide)
    (ha : ∀ v, assign (.Subscript (.Name x p1) (.Constant (.int k) j p2) p3) X.env v = (do
      let ov ← holding [v] (eval (.Name x p1) X.env)
      let iv ← holding [v, ov] (eval (.Constant (.int k) j p2) X.env)
      standAt p3
      holding [v, ov, iv] (setItem ov iv v)
      release [v, ov, iv] []) := by intro _; rfl)
    (hs : swapsWithSole [.Subscript (.Name x p1) (.Constant (.int k) j p2) p3] e pos.line X.env = pure false := by rfl) (hw : swappedStores [.Subscript (.Name x p1) (.Constant (.int k) j p2) p3] e X.env = pure none := by rfl)
    (ha2 : (assignEach [.Subscript (.Name x p1) (.Constant (.int k) j p2) p3] X.env).map (·.2) = [assign (.Subscript (.Name x p1) (.Constant (.int k) j p2) p3) X.env] := by rfl) : HS X g n ρ (.Assign [.Subscript (.Name x p1) (.Constant (.int k) j p2) p3] e pos) nx rt := fun H0 W0 τ σ H S Dd q1 q2 => by
  obtain ⟨W, w1, w2, kk, w3⟩ := S.ex
  refine (ps_asg peW (pg_sub (pe_var hN hv hd hcd) pe_int set_list ha) hs hw ha2).wpr (h W σ H kk _ fun n1 d v H1 q e1 j1 dd => ?_)
  obtain ⟨c, rfl, q⟩ := q
  cases dd
  have k1 := kk.step e1 j1
  obtain ⟨v, h1, h2⟩ := k1.dats r _ hr
  cases h2
  obtain ⟨i, gr, h3, h4⟩ := F.get n1 H1 k1.j
  have go : ∀ (n2 : Nat) (i' gr' : Int), nx n2 ρ → Dd.nx σ (upd H1 fa (.lst [.ref ca, .int i', .int gr', .int (n2 : Nat)])) := fun n2 i' gr' hn => by
    have e2 : Ext g.G H1 (upd H1 fa (.lst [.ref ca, .int i', .int gr', .int (n2 : Nat)])) := fun a o ha hq => by
      rw [upd_ne fun z => ha (by rw [z]; exact F.ga)]
      exact hq
    have j2 := F.put n1 H1 k1.j n2 i' gr'
    exact q1 n2 ρ σ _ hn ((S.step kk e1 j1).step k1 e2 j2)
  rcases q with ⟨rfl, q⟩ | ⟨rfl, q⟩ | ⟨rfl, n2, rfl, q⟩
  · exact ⟨.ref fa, h1, fa, _, 1, 1, rfl, rfl, h3, rfl, go n1 c gr q⟩
  · exact ⟨.ref fa, h1, fa, _, 2, 2, rfl, rfl, h3, rfl, go n1 i c q⟩
  · exact ⟨.ref fa, h1, fa, _, 3, 3, rfl, rfl, h3, rfl, go n2 i gr q⟩
end
end Fk
set_option Elab.async false
set_option linter.all false
set_option maxRecDepth 100000
set_option maxHeartbeats 4000000
/-! Z2: _law_draw. -/
namespace Fk
open PySem PySem.Spec PyProof.Rows L2
theorem fmod_bnd {a m : Int} (h : 0 < m) : 0 ≤ a.fmod m ∧ a.fmod m < m := ⟨Int.fmod_nonneg_of_pos a h, Int.fmod_lt_of_pos a h⟩
theorem shaped_cells (cs : List Int) : SeqAt.shaped (D.lst (cs.map D.int)).py = true := by
  rw [D.py, pys_map]
  have h1 : PyData.canLayAll0 (cs.map fun k : Int => (D.int k).py) = true := by
    induction cs with
    | nil => rfl
    | cons k ks ih =>
      rw [List.map_cons, PyData.canLayAll0, ih]
      rfl
  have h2 : PyData.depthAll (cs.map fun k : Int => (D.int k).py) ≤ 1 := by
    clear h1
    induction cs with
    | nil => exact Nat.zero_le _
    | cons k ks ih =>
      rw [List.map_cons, PyData.depthAll, D.py, PyData.depth]
      omega
  unfold SeqAt.shaped
  rw [PyData.canLay0, h1, PyData.depth]
  simp only [Bool.true_and, decide_eq_true_eq]
  omega
theorem fit_cells (cs : List Int) (h : cs.length ≤ 1000) : (D.lst (cs.map D.int)).fit 2 = true := by
  rw [D.fit, List.length_map, decide_eq_true h, fits_of fun d hd => ?_]
  · rfl
  · obtain ⟨k, _, rfl⟩ := List.mem_map.mp hd
    rfl
theorem HS.imp {X : Cx} {g : Gx} {n : Nat} {ρ : List SV} {st : Stmt} {nx nx' : Nat → List SV → Prop} {rt : Nat → SV → Prop} (i : ∀ n' ρ', nx' n' ρ' → nx n' ρ') (h : HS X g n ρ st nx' rt) : HS X g n ρ st nx rt := fun H0 W0 τ σ H S Dd q1 q2 => h H0 W0 τ σ H S Dd (fun n' ρ' σ' H' hn => q1 n' ρ' σ' H' (i n' ρ' hn)) q2
section
variable {P : Program} {w : World} {K : PySem.W.Frag} {mg : Str → Option Value} {base : Heap}
/-- the most draws -/
def CT : Nat := 2 ^ 40
def aDraw : Acc := fun g n ds Q => ∃ fa ca cs, Feed g fa ca cs ∧ cs.length ≤ 1000 ∧ n < CT ∧ ∃ m : Int, 0 < m ∧ m < 1073741824 ∧ ds = [.obj fa, .int m] ∧ ∀ r : Int, 0 ≤ r → r < m → Q (n + 1) (.int r)
theorem has_draw (T : Top K mg) : Has P w K mg base 1 "_law_draw" ["_law_feed_here", "_law_many"] aDraw := by
  have hN : (["_law_feed_here", "_law_many", "_law_found", "_law_cell", "_law_mixed"] : List Str).Nodup := by decide +kernel
  refine has_of (N := ["_law_feed_here", "_law_many", "_law_found", "_law_cell", "_law_mixed"]) T (i := 46) (d := d_law_draw) rfl ⟨rfl, rfl, rfl, hN, rfl, by decide +kernel, by decide +kernel⟩ (by decide +kernel) rfl rfl rfl (fun _ _ _ _ _ _ us hl => match us, hl with | [_, _], _ => rfl) (fun g n ds Q h => by obtain ⟨_, _, _, _, _, _, _, _, _, rfl, _⟩ := h; rfl) fun cd Ar outer s H E hr g n ds Q h => ?_
  obtain ⟨fa, ca, cs, F, hl, hn, m, h0, hm, rfl, q⟩ := h
  have hCT : CT = 1099511627776 := rfl
  have md : ∀ a : Int, Q (n + 1) (.int (a.fmod m)) := fun a => q _ (fmod_bnd h0).1 (fmod_bnd h0).2
  have dv : CDivN (0 : Int) m := ⟨by omega, by omega⟩
  refine hss_cons (hs_fd F (r := 0) rfl rfl (he_op op_add (he_fd F (r := 0) rfl rfl fun i gr => ⟨.int (n : Nat), rfl, he_int (rd_int ⟨_, rfl, .inr (.inr ⟨rfl, n + 1, by omega, ?_⟩)⟩)⟩)))
  refine hss_cons (hs_if (ht_cmp op_gt (he_fd F (r := 0) rfl rfl fun i gr => ⟨.int gr, rfl, he_int (rd_intB ⟨_, rfl, fun _ => ?big, fun _ => hss_nil ?rest⟩)⟩)))
  case big =>
    refine hss_cons (hs_set (i := 2) hN rfl (he_op op_modN (he_fd F (r := 0) rfl rfl fun i gr => ⟨.int gr, rfl, he_name (i := 1) rfl rfl (rd_intC (by omega) ?_)⟩)))
    refine hss_cons (hs_fd F (r := 0) rfl rfl (he_op op_fdivN (he_fd F (r := 0) rfl rfl fun i gr2 => ⟨.int gr2, rfl, he_name (i := 1) rfl rfl (rd_intC ⟨by omega, by omega⟩ ⟨_, rfl, .inr (.inl ⟨rfl, ?_⟩)⟩)⟩)))
    exact hss_cons (hs_ret (he_name (i := 2) rfl rfl (md _)))
  refine hss_cons (hs_set (i := 3) hN rfl (he_int ?_))
  have hcr : cs.length ≤ 1000 := hl
  refine hss_cons (HS.imp (nx' := fun n' ρ' => n' = n + 1 ∧ ∃ c : Int, ρ' = [.dat (.obj fa), .dat (.int m), .no, .dat (.int c), .no]) (fun n' ρ' hI => ?tl) (hs_if (ht_cmp (op_neD (Room.units hr)) (he_fd F (r := 0) rfl rfl fun i gr => ⟨_, rfl, he_lst (hf_lst (ha_nil ⟨Nat.zero_le _, rd_neNil (fit_cells _ hl) (shaped_cells _) ⟨_, rfl, fun hb => ?in1, fun _ => hss_nil ⟨rfl, _, rfl⟩⟩⟩))⟩))))
  case in1 =>
    have hne : 0 < cs.length := by
      cases cs with
      | nil => cases hb
      | cons c cs => exact Nat.succ_pos _
    refine hss_cons (hs_set (i := 3) hN rfl (he_ixL (he_fd F (r := 0) rfl rfl fun i gr => ⟨_, rfl, he_op op_modN (he_fd F (r := 0) rfl rfl fun i gr => ⟨.int i, rfl, he_len T.f_len (he_fd F (r := 0) rfl rfl fun i' gr' => ⟨_, rfl, rfl, rd_intC ?_ ?_⟩)⟩)⟩)))
    · show ((cs.map D.int).length : Int) ≠ 0
      rw [List.length_map]
      omega
    · have hb2 := fmod_bnd (a := i) (m := ((cs.map D.int).length : Int)) (by rw [List.length_map]; omega)
      obtain ⟨k, hk⟩ := Int.eq_ofNat_of_zero_le hb2.1
      have hk2 : k < cs.length := by
        have h3 := hb2.2
        rw [hk, List.length_map] at h3
        omega
      refine ⟨_, _, .int cs[k], rfl, rfl, ?_, hss_nil ⟨rfl, _, rfl⟩⟩
      show atI (cs.map D.int) (i.fmod ((cs.map D.int).length : Int)) = _
      rw [hk]
      refine atI_nat ?_
      rw [List.getElem?_map, List.getElem?_eq_getElem hk2]
      rfl
  obtain ⟨rfl, c, rfl⟩ := hI
  refine hss_cons (hs_fd F (r := 0) rfl rfl (he_op op_add (he_fd F (r := 0) rfl rfl fun i gr => ⟨.int i, rfl, he_int (rd_int ⟨_, rfl, .inl ⟨rfl, ?_⟩⟩)⟩)))
  refine hss_cons (hs_if (HT.mono (Q := fun n' _ => n' = n + 1) ?cnd fun n' b h => ⟨fun _ => ?big2, fun _ => hss_nil ?sm⟩))
  case cnd =>
    refine ht_bool (hw_and (ht_cmp op_ge (he_name (i := 3) rfl rfl (he_op op_pow (he_int (he_int (rd_intC ?_ (rd_intB ⟨_, rfl, fun _ => ?_, fun _ => rfl⟩))))))))
    · exact ⟨by decide, by decide, by decide⟩
    · exact hw_and1 (ht_cmp op_le (he_fd F (r := 0) rfl rfl fun i gr => ⟨.int i, rfl, he_len T.f_len (he_fd F (r := 0) rfl rfl fun i' gr' => ⟨_, rfl, rfl, rd_intB ⟨_, rfl, rfl⟩⟩)⟩))
  case big2 =>
    subst h
    refine hss_cons (hs_fd F (r := 0) rfl rfl (he_op op_fdivN (he_name (i := 3) rfl rfl (he_name (i := 1) rfl rfl (rd_intC ⟨by omega, by omega⟩ ⟨_, rfl, .inr (.inl ⟨rfl, ?_⟩)⟩)))))
    exact hss_cons (hs_ret (he_op op_modN (he_name (i := 3) rfl rfl (he_name (i := 1) rfl rfl (rd_intC (by omega) (md _))))))
  subst h
  have b1 := fmod_bnd (a := c) (m := 2147483629) (by decide)
  refine hss_cons (hs_set (i := 4) hN rfl (he_op op_modN (he_op op_pow (he_op op_add (he_op op_add (he_op op_modN (he_name (i := 3) rfl rfl (he_int (rd_intC (by decide) (he_op op_mul (he_int (he_fd F (r := 0) rfl rfl fun i gr => ⟨.int ((n + 1 : Nat) : Int), rfl, rd_intC (.inl ⟨by decide, by decide⟩) (rd_int (he_int (rd_int (he_int (rd_intC ?_ (he_int (rd_intC (by decide) ?_)))))))⟩))))))))))))
  · exact ⟨by decide, by decide, by omega⟩
  have b2 : ∀ z : Int, 0 ≤ z.fmod 2147483647 ∧ z.fmod 2147483647 < 2147483647 := fun z => fmod_bnd (by decide)
  generalize hz : (((c.fmod 2147483629 + 7919 * ((n + 1 : Nat) : Int) + 1) ^ (5 : Int).toNat).fmod 2147483647) = z
  have b3 := b2 ((c.fmod 2147483629 + 7919 * ((n + 1 : Nat) : Int) + 1) ^ (5 : Int).toNat)
  rw [hz] at b3
  refine hss_cons (hs_ret (he_op op_modN (he_op op_fdivN (he_op op_modN (he_op op_pow (he_op op_add (he_name (i := 4) rfl rfl (he_op op_mul (he_int (he_fd F (r := 0) rfl rfl fun i gr => ⟨.int ((n + 1 : Nat) : Int), rfl, rd_intC (.inl ⟨by decide, by decide⟩) (rd_int (he_int (rd_intC ?_ (he_int (rd_intC (by decide) (he_int (rd_intC ⟨by decide, by decide⟩ (he_name (i := 1) rfl rfl (rd_intC (by omega) (md _))))))))))⟩))))))))))
  exact ⟨by decide, by decide, by omega⟩
end
end Fk
set_option Elab.async false
set_option linter.all false
set_option maxRecDepth 100000
set_option maxHeartbeats 4000000
/-! Z3: _law_pick. -/
namespace Fk
open PySem PySem.Spec PyProof.Rows L2
section
variable {P : Program} {w : World} {K : PySem.W.Frag} {mg : Str → Option Value} {base : Heap}
def aPick : Acc := fun g n ds Q => ∃ fa ca cs, Feed g fa ca cs ∧ cs.length ≤ 1000 ∧ n < CT ∧ ∃ es : List D, es ≠ [] ∧ es.length ≤ 1000 ∧ ds = [.obj fa, .lst es] ∧ ∀ e ∈ es, Q (n + 1) e
theorem has_pick (T : Top K mg) : Has P w K mg base 2 "_law_pick" ["_law_feed_here", "_law_some"] aPick := by
  have hN : (["_law_feed_here", "_law_some"] : List Str).Nodup := by decide +kernel
  refine has_of (N := ["_law_feed_here", "_law_some"]) T (i := 48) (d := d_law_pick) rfl ⟨rfl, rfl, rfl, hN, rfl, by decide +kernel, by decide +kernel⟩ (by decide +kernel) rfl rfl rfl (fun _ _ _ _ _ _ us hl => match us, hl with | [_, _], _ => rfl) (fun g n ds Q h => by obtain ⟨_, _, _, _, _, _, _, _, _, rfl, _⟩ := h; rfl) fun cd Ar outer s H E hr g n ds Q h => ?_
  obtain ⟨fa, ca, cs, F, hl, hn, es, hne, hz, rfl, q⟩ := h
  have h0 : 0 < es.length := List.length_pos_iff.mpr hne
  refine hss_cons (hs_ret (he_ixL (he_name (i := 1) rfl rfl (he_call (has_draw T) hr (ha_cons (he_name (i := 0) rfl rfl (ha_cons (he_len T.f_len (he_name (i := 1) rfl rfl ⟨rfl, ha_nil ⟨fa, ca, cs, F, hl, hn, (es.length : Int), by omega, by omega, rfl, fun r h1 h2 => ?_⟩⟩)))))))))
  obtain ⟨k, rfl⟩ := Int.eq_ofNat_of_zero_le h1
  have hk : k < es.length := by omega
  exact ⟨es, _, es[k], rfl, rfl, atI_nat (List.getElem?_eq_getElem hk), q _ (List.getElem_mem hk)⟩
end
end Fk
set_option Elab.async false
set_option linter.all false
set_option maxRecDepth 100000
set_option maxHeartbeats 4000000
/-! Z4: the pool. -/
namespace Fk
open PySem PySem.Spec PyProof.Rows L2
def SRTS : List Str := ["scene", "number", "place", "figure"]
/-- the pool stands at pa, what is left at la; N: the names of each sort -/
structure Pool (g : Gx) (pa la : Addr) (N : Str → List Str) : Prop where
  gl : la ∈ g.G
  get : ∀ n H, g.J n H → ∃ kvs, H pa = some (.dK kvs) ∧ valV kvs (Sum.inr "left") = some (.ref la) ∧ (∃ l : Int, H la = some (.lst [.int l])) ∧ ∀ s ∈ SRTS, ∃ a, valV kvs (Sum.inr s) = some (.ref a) ∧ a ∈ g.R ∧ H a = some (.lst ((N s).map V.str))
  put : ∀ n H, g.J n H → ∀ l : Int, g.J n (upd H la (.lst [.int l]))
theorem dds_strs {K : PySem.W.Frag} {W : List Addr} {H : Hp} : ∀ cs : List Str, DDs K W H (cs.map V.str) (cs.map D.str)
  | [] => .nil
  | c :: cs => .cons (.str c) (dds_strs cs)
section
variable {X : Cx} {g : Gx} {n : Nat} {ρ : List SV} {e : Expr} {pos p p1 p2 p3 p4 p5 : Pos} {Q : Nat → D → Prop} {nx : Nat → List SV → Prop} {rt : Nat → SV → Prop} {pa la : Addr} {N : Str → List Str} {r j j2 : Nat} {x s : Str}
theorem he_pool (F : Pool g pa la N) (hu : X.A.units + 1 < cLine) (hr : ρ[r]? = some (.dat (.obj pa))) (hN : X.N[r]? = some x) (hs : s ∈ SRTS) (q : Q n (.lst ((N s).map D.str)))
    (hv : Vis X.env.scope x := by first | exact Or.inl rfl | exact Or.inr (Or.inl rfl) | exact Or.inr (Or.inr rfl)) (hd : (x == ("__debug__" : Str)) = false := by decide) (hcd : (x == ("__classdict__" : Str)) = false := by decide) (hns : NoSl (.Constant (.str s) j p2) := by exact fun _ _ => rfl) : HE X g n ρ (.Subscript (.Name x p1) (.Constant (.str s) j p2) pos) Q := fun W σ H kk R rr => by
  obtain ⟨v, h1, h2⟩ := kk.dats r _ hr
  obtain ⟨kvs, h3, _, _, h4⟩ := F.get n H kk.j
  obtain ⟨a, h5, h6, h7⟩ := h4 s hs
  cases h2
  exact (pe_dget hu (pe_var hN hv hd hcd) pe_str hns).wpr ⟨_, h1, pa, .ref a, rfl, by rw [← h5]; exact DGet.k (k := Sum.inr s) h3, rr n _ _ H q .refl kk.j (.lst (kk.gw.r a h6) h7 (dds_strs (N s)))⟩
/-- pool['left'][0] -/
theorem he_left (F : Pool g pa la N) (hu : X.A.units + 1 < cLine) (hr : ρ[r]? = some (.dat (.obj pa))) (hN : X.N[r]? = some x) (q : ∀ l : Int, Q n (.int l))
    (hv : Vis X.env.scope x := by first | exact Or.inl rfl | exact Or.inr (Or.inl rfl) | exact Or.inr (Or.inr rfl)) (hd : (x == ("__debug__" : Str)) = false := by decide) (hcd : (x == ("__classdict__" : Str)) = false := by decide) (hns : NoSl (.Constant (.str "left") j p2) := by exact fun _ _ => rfl) (hs : PlainIx (.Constant (.int 0) j2 p4) := by exact fun _ _ => rfl) :
    HE X g n ρ (.Subscript (.Subscript (.Name x p1) (.Constant (.str "left") j p2) p3) (.Constant (.int 0) j2 p4) pos) Q := fun W σ H kk R rr => by
  obtain ⟨v, h1, h2⟩ := kk.dats r _ hr
  obtain ⟨kvs, h3, h5, ⟨l, h6⟩, _⟩ := F.get n H kk.j
  cases h2
  exact (pe_ix ix_list (pe_dget hu (pe_var hN hv hd hcd) pe_str hns) pe_int hs).wpr ⟨_, h1, pa, .ref la, rfl, by rw [← h5]; exact DGet.k (k := Sum.inr "left") h3, la, _, 0, .int l, rfl, rfl, .inl (.inl h6), rfl, rr n _ _ H (q l) .refl kk.j (.int l)⟩
/-- pool['left'][0] = e -/
theorem hs_left (F : Pool g pa la N) (hu : X.A.units + 1 < cLine) (hr : ρ[r]? = some (.dat (.obj pa))) (hN : X.N[r]? = some x) (h : HE X g n ρ e fun n1 d => (∃ c : Int, d = .int c) ∧ nx n1 ρ)
    (hv : Vis X.env.scope x := by first | exact Or.inl rfl | exact Or.inr (Or.inl rfl) | exact Or.inr (Or.inr rfl)) (hd : (x == ("__debug__" : Str)) = false := by decide) (hcd : (x == ("__classdict__" : Str)) = false := by decide) (hns : NoSl (.Constant (.str "left") j p2) := by exact fun _ _ => rfl)
    (ha : ∀ v, assign (.Subscript (.Subscript (.Name x p1) (.Constant (.str "left") j p2) p5) (.Constant (.int 0) j2 p4) p3) X.env v = (do
      let ov ← holding [v] (eval (.Subscript (.Name x p1) (.Constant (.str "left") j p2) p5) X.env)
      let iv ← holding [v, ov] (eval (.Constant (.int 0) j2 p4) X.env)
      standAt p3
      holding [v, ov, iv] (setItem ov iv v)
      release [v, ov, iv] []) := by intro _; rfl)
    (hs : swapsWithSole [.Subscript (.Subscript (.Name x p1) (.Constant (.str "left") j p2) p5) (.Constant (.int 0) j2 p4) p3] e pos.line X.env = pure false := by rfl) (hw : swappedStores [.Subscript (.Subscript (.Name x p1) (.Constant (.str "left") j p2) p5) (.Constant (.int 0) j2 p4) p3] e X.env = pure none := by rfl)
    (ha2 : (assignEach [.Subscript (.Subscript (.Name x p1) (.Constant (.str "left") j p2) p5) (.Constant (.int 0) j2 p4) p3] X.env).map (·.2) = [assign (.Subscript (.Subscript (.Name x p1) (.Constant (.str "left") j p2) p5) (.Constant (.int 0) j2 p4) p3) X.env] := by rfl) : HS X g n ρ (.Assign [.Subscript (.Subscript (.Name x p1) (.Constant (.str "left") j p2) p5) (.Constant (.int 0) j2 p4) p3] e pos) nx rt := fun H0 W0 τ σ H S Dd q1 q2 => by
  obtain ⟨W, w1, w2, kk, w3⟩ := S.ex
  refine (ps_asg peW (pg_sub (pe_dget hu (pe_var hN hv hd hcd) pe_str hns) pe_int set_list ha) hs hw ha2).wpr (h W σ H kk _ fun n1 d v H1 q e1 j1 dd => ?_)
  obtain ⟨⟨c, rfl⟩, q⟩ := q
  cases dd
  have k1 := kk.step e1 j1
  obtain ⟨v, h1, h2⟩ := k1.dats r _ hr
  obtain ⟨kvs, h3, h5, ⟨l, h6⟩, _⟩ := F.get n1 H1 k1.j
  cases h2
  refine ⟨_, h1, pa, .ref la, rfl, by rw [← h5]; exact DGet.k (k := Sum.inr "left") h3, la, _, 0, 0, rfl, rfl, h6, rfl, ?_⟩
  have e2 : Ext g.G H1 (upd H1 la (.lst [.int c])) := fun a o ha hq => by
    rw [upd_ne fun z => ha (by rw [z]; exact F.gl)]
    exact hq
  exact q1 n1 ρ σ _ q ((S.step kk e1 j1).step k1 e2 (F.put n1 H1 k1.j c))
end
end Fk
set_option Elab.async false
set_option linter.all false
set_option maxRecDepth 100000
set_option maxHeartbeats 4000000
/-! Z5: _law_spent; what a generator is given. -/
namespace Fk
open PySem PySem.Spec PyProof.Rows L2
section
variable {P : Program} {w : World} {K : PySem.W.Frag} {mg : Str → Option Value} {base : Heap}
def aSpent : Acc := fun g n ds Q => ∃ pa la N, Pool g pa la N ∧ ds = [.obj pa] ∧ ∀ b, Q n (.bl b)
theorem has_spent (T : Top K mg) : Has P w K mg base 1 "_law_spent" ["_law_pool"] aSpent := by
  have hN : (["_law_pool"] : List Str).Nodup := by decide +kernel
  refine has_of (N := ["_law_pool"]) T (i := 49) (d := d_law_spent) rfl ⟨rfl, rfl, rfl, hN, rfl, by decide +kernel, by decide +kernel⟩ (by decide +kernel) rfl rfl rfl (fun _ _ _ _ _ _ us hl => match us, hl with | [_], _ => rfl) (fun g n ds Q h => by obtain ⟨_, _, _, _, rfl, _⟩ := h; rfl) fun cd Ar outer s H E hr g n ds Q h => ?_
  obtain ⟨pa, la, N, F, rfl, q⟩ := h
  refine hss_cons (hs_left F (Room.u1 hr) (r := 0) rfl rfl (he_op op_sub (he_left F (Room.u1 hr) (r := 0) rfl rfl fun l => he_int (rd_int ⟨⟨_, rfl⟩, ?_⟩))))
  exact hss_cons (hs_ret (he_cmp op_lt (he_left F (Room.u1 hr) (r := 0) rfl rfl fun l => he_int (rd_intB (q _)))))
/-- feed and pool -/
structure Gen (g : Gx) (fa pa : Addr) (N : Str → List Str) : Prop where
  feed : ∃ ca cs, Feed g fa ca cs ∧ cs.length ≤ 1000
  pool : ∃ la, Pool g pa la N
  len : ∀ s ∈ SRTS, (N s).length ≤ 1000
  ok : ∀ s ∈ SRTS, (N s).all PyData.strOk = true
theorem aDraw_of {g : Gx} {fa pa : Addr} {N : Str → List Str} {n : Nat} {Q : Nat → D → Prop} {m : Int} (G : Gen g fa pa N) (hn : n < CT) (h0 : 0 < m) (hm : m < 1073741824) (q : ∀ r : Int, 0 ≤ r → r < m → Q (n + 1) (.int r)) : aDraw g n [.obj fa, .int m] Q := by
  obtain ⟨ca, cs, F, hl⟩ := G.feed
  exact ⟨fa, ca, cs, F, hl, hn, m, h0, hm, rfl, q⟩
theorem aSpent_of {g : Gx} {fa pa : Addr} {N : Str → List Str} {n : Nat} {Q : Nat → D → Prop} (G : Gen g fa pa N) (q : ∀ b, Q n (.bl b)) : aSpent g n [.obj pa] Q := by
  obtain ⟨la, F⟩ := G.pool
  exact ⟨pa, la, N, F, rfl, q⟩
theorem aPick_of {g : Gx} {fa pa : Addr} {N : Str → List Str} {n : Nat} {Q : Nat → D → Prop} {ss : List Str} (G : Gen g fa pa N) (hn : n < CT) (h0 : ss ≠ []) (hl : ss.length ≤ 1000) (q : ∀ s ∈ ss, Q (n + 1) (.str s)) : aPick g n [.obj fa, .lst (ss.map .str)] Q := by
  obtain ⟨ca, cs, F, h⟩ := G.feed
  refine ⟨fa, ca, cs, F, h, hn, ss.map .str, fun z => h0 (List.map_eq_nil_iff.mp z), by rwa [List.length_map], rfl, fun e he => ?_⟩
  obtain ⟨s, hs, rfl⟩ := List.mem_map.mp he
  exact q s hs
end
end Fk
set_option Elab.async false
set_option linter.all false
set_option maxRecDepth 100000
set_option maxHeartbeats 4000000
/-! Z6: _law_sum. -/
namespace Fk
open PySem PySem.Spec PyProof.Rows L2
inductive GSum (N : Str → List Str) : Nat → D → Prop
  | num {k : Nat} {i : Int} : -10 ≤ i → i ≤ 10 → GSum N k (.tup [.str "num", .int i])
  | of {k : Nat} {s : Str} : s ∈ N "number" → GSum N k (.tup [.str "of", .str s])
  | seen {k : Nat} {s : Str} : s ∈ N "scene" → GSum N k (.tup [.str "seen", .str s])
  | two {k : Nat} {w : Str} {a b : D} : w ∈ (["plus", "minus"] : List Str) → GSum N k a → GSum N k b → GSum N (k + 1) (.tup [.str w, a, b])
def cS : Nat → Nat
  | 0 => 2
  | k + 1 => 2 * cS k + 2
theorem shaped_strs (cs : List Str) (h : cs.all PyData.strOk = true) : SeqAt.shaped (D.lst (cs.map D.str)).py = true := by
  rw [D.py, pys_map]
  have h1 : PyData.canLayAll0 (cs.map fun k : Str => (D.str k).py) = true := by
    induction cs with
    | nil => rfl
    | cons k ks ih =>
      rw [List.all_cons, Bool.and_eq_true] at h
      rw [List.map_cons, PyData.canLayAll0, ih h.2, D.py, PyData.canLay0, h.1]
      rfl
  have h2 : PyData.depthAll (cs.map fun k : Str => (D.str k).py) ≤ 1 := by
    clear h1 h
    induction cs with
    | nil => exact Nat.zero_le _
    | cons k ks ih =>
      rw [List.map_cons, PyData.depthAll, D.py, PyData.depth]
      omega
  unfold SeqAt.shaped
  rw [PyData.canLay0, h1, PyData.depth]
  simp only [Bool.true_and, decide_eq_true_eq]
  omega
theorem fit_strs (cs : List Str) (h : cs.length ≤ 1000) : (D.lst (cs.map D.str)).fit 2 = true := by
  rw [D.fit, List.length_map, decide_eq_true h, fits_of fun d hd => ?_]
  · rfl
  · obtain ⟨k, _, rfl⟩ := List.mem_map.mp hd
    rfl
theorem le6 : 6 ≤ sizeLine := by decide
/-- a menu's item -/
theorem menu_at {ds : List D} {r m : Int} (hm : (ds.length : Int) = m) (h0 : 0 ≤ r) (h1 : r < m) : ∃ d, d ∈ ds ∧ atI ds r = some d := by
  obtain ⟨k, rfl⟩ := Int.eq_ofNat_of_zero_le h0
  have hk : k < ds.length := by omega
  exact ⟨ds[k], List.getElem_mem hk, atI_nat (List.getElem?_eq_getElem hk)⟩
section
variable {P : Program} {w : World} {K : PySem.W.Frag} {mg : Str → Option Value} {base : Heap}
/-- pool[s] != [] -/
theorem rd_poolNe {K : PySem.W.Frag} {g : Gx} {fa pa : Addr} {N : Str → List Str} {Q : D → Prop} {s : Str} (G : Gen g fa pa N) (hs : s ∈ SRTS) (q : Q (.bl (!(N s).isEmpty))) : RD K (rNeD K) (.lst ((N s).map D.str)) (.lst []) Q :=
  rd_neNil (fit_strs _ (G.len s hs)) (shaped_strs _ (G.ok s hs)) (by rw [List.isEmpty_map]; exact q)
def aSum (k : Nat) : Acc := fun g n ds Q => ∃ fa pa N, Gen g fa pa N ∧ n + cS k ≤ CT ∧ ds = [.obj fa, .int (k : Int), .obj pa] ∧ ∀ n' d, n' ≤ n + cS k → GSum N k d → Q n' d
theorem cS_two : ∀ k, 2 ≤ cS k
  | 0 => Nat.le_refl _
  | k + 1 => by rw [cS]; omega
theorem sum_step (T : Top K mg) (k : Nat) (ih : ∀ j, k = j + 1 → Has P w K mg base (j + 3) "_law_sum" ["_law_feed_here", "_law_deep", "_law_pool"] (aSum j)) : Has P w K mg base (k + 3) "_law_sum" ["_law_feed_here", "_law_deep", "_law_pool"] (aSum k) := by
  have hN : (["_law_feed_here", "_law_deep", "_law_pool", "_law_way"] : List Str).Nodup := by decide +kernel
  refine has_of (N := ["_law_feed_here", "_law_deep", "_law_pool", "_law_way"]) T (i := 50) (d := d_law_sum) rfl ⟨rfl, rfl, rfl, hN, rfl, by decide +kernel, by decide +kernel⟩ (by decide +kernel) rfl rfl rfl (fun _ _ _ _ _ _ us hl => match us, hl with | [_, _, _], _ => rfl) (fun g n ds Q h => by obtain ⟨_, _, _, _, _, rfl, _⟩ := h; rfl) fun cd Ar outer s H E hr g n ds Q h => ?_
  obtain ⟨fa, pa, N, G, hn, rfl, q⟩ := h
  obtain ⟨la, F⟩ := G.pool
  have h2 := cS_two k
  refine hss_cons (hs_set (i := 3) hN rfl (he_call (has_draw T) (hr.mono (by omega)) (ha_cons (he_name (i := 0) rfl rfl (ha_cons (he_int (ha_nil (aDraw_of G (by omega) (by decide) (by decide) fun way w1 w2 => ?_))))))))
  refine hss_cons (hs_if (HT.mono (Q := fun n' _ => n' = n + 1) (ht_val (he_call (has_spent T) (hr.mono (by omega)) (ha_cons (he_name (i := 2) rfl rfl (ha_nil (aSpent_of G fun b => ⟨b, rfl, rfl⟩)))))) fun n' b hb => ⟨fun _ => ?sp, fun _ => hss_nil ?go⟩))
  case sp =>
    subst hb
    exact hss_cons (hs_ret (he_tup (ha_cons (he_str (ha_cons (he_name (i := 3) rfl rfl (ha_nil ⟨le2, q _ _ (by omega) (.num (by omega) (by omega))⟩)))))))
  subst hb
  refine hss_cons (hs_ifP (decide (way < 2) && decide (0 < (k : Int))) (ht_bool (hw_andP (ht_cmp op_lt (he_name (i := 3) rfl rfl (he_int (rd_intB ⟨_, rfl, rfl, rfl⟩)))) fun _ => hw_and1 (ht_cmp op_gt (he_name (i := 1) rfl rfl (he_int (rd_intB ⟨_, rfl, rfl, rfl⟩)))))) (fun e => ?two) fun _ => hss_nil ?g2)
  case two =>
    simp only [Bool.and_eq_true, decide_eq_true_eq] at e
    obtain ⟨j, rfl⟩ : ∃ j, k = j + 1 := ⟨k - 1, by omega⟩
    have hj := ih j rfl
    have hcs : cS (j + 1) = 2 * cS j + 2 := rfl
    have ej : ((j + 1 : Nat) : Int) - 1 = (j : Int) := by omega
    obtain ⟨wn, rfl⟩ := Int.eq_ofNat_of_zero_le w1
    have hw : (["plus", "minus"] : List Str)[wn]? = some ((["plus", "minus"] : List Str).getD wn "plus") := by
      have : wn = 0 ∨ wn = 1 := by omega
      rcases this with rfl | rfl <;> rfl
    have hm : (["plus", "minus"] : List Str).getD wn "plus" ∈ (["plus", "minus"] : List Str) := List.mem_of_getElem? hw
    generalize (["plus", "minus"] : List Str).getD wn "plus" = wd at hw hm
    refine hss_cons (hs_ret (he_tup (ha_cons (he_ixL (he_lst (hf_lst (ha_cons (he_str (ha_cons (he_str (ha_nil ⟨le2, he_name (i := 3) rfl rfl ⟨_, _, .str wd, rfl, rfl, atI_nat ?ix, ?rest⟩⟩)))))))))))
    case ix =>
      show [D.str "plus", .str "minus"][wn]? = some (.str wd)
      have h3 : ([D.str "plus", .str "minus"] : List D)[wn]? = ((["plus", "minus"] : List Str)[wn]?).map D.str := by rw [← List.getElem?_map]; rfl
      rw [h3, hw]
      rfl
    refine ha_cons (he_call hj (hr.mono (by omega)) (ha_cons (he_name (i := 0) rfl rfl (ha_cons (he_op op_sub (he_name (i := 1) rfl rfl (he_int (rd_int ?_))))))))
    rw [ej]
    refine ha_cons (he_name (i := 2) rfl rfl (ha_nil ⟨fa, pa, N, G, by omega, rfl, fun n1 d1 b1 g1 => ?_⟩))
    refine ha_cons (he_call hj (hr.mono (by omega)) (ha_cons (he_name (i := 0) rfl rfl (ha_cons (he_op op_sub (he_name (i := 1) rfl rfl (he_int (rd_int ?_))))))))
    rw [ej]
    refine ha_cons (he_name (i := 2) rfl rfl (ha_nil ⟨fa, pa, N, G, by omega, rfl, fun n2 d2 b2 g2 => ?_⟩))
    exact ha_nil ⟨le3, q _ _ (by omega) (.two hm g1 g2)⟩
  have hnum : ("number" : Str) ∈ SRTS := by decide
  have hsc : ("scene" : Str) ∈ SRTS := by decide
  have ne : ∀ {s : Str}, (!(N s).isEmpty) = true → N s ≠ [] := fun {s} h z => by rw [z] at h; cases h
  refine hss_cons (hs_ifP (decide (way < 4) && !(N "number").isEmpty) (ht_bool (hw_andP (ht_cmp op_lt (he_name (i := 3) rfl rfl (he_int (rd_intB ⟨_, rfl, rfl, rfl⟩)))) fun _ => hw_and1 (ht_cmp (op_neD (Room.units hr)) (he_pool F (Room.u1 hr) (r := 2) rfl rfl hnum (he_lst (hf_lst (ha_nil ⟨Nat.zero_le _, rd_poolNe G hnum ⟨_, rfl, rfl, rfl⟩⟩))))))) (fun e => ?of) fun _ => hss_nil ?g3)
  case of =>
    rw [Bool.and_eq_true] at e
    exact hss_cons (hs_ret (he_tup (ha_cons (he_str (ha_cons (he_call (has_pick T) (hr.mono (by omega)) (ha_cons (he_name (i := 0) rfl rfl (ha_cons (he_pool F (Room.u1 hr) (r := 2) rfl rfl hnum (ha_nil (aPick_of G (by omega) (ne e.2) (G.len _ hnum) fun s hs => ha_nil ⟨le2, q _ _ (by omega) (.of hs)⟩))))))))))))
  refine hss_cons (hs_ifP (decide (way = 4) && !(N "scene").isEmpty) (ht_bool (hw_andP (ht_cmp op_eq (he_name (i := 3) rfl rfl (he_int (rd_eqI ⟨_, rfl, rfl, rfl⟩)))) fun _ => hw_and1 (ht_cmp (op_neD (Room.units hr)) (he_pool F (Room.u1 hr) (r := 2) rfl rfl hsc (he_lst (hf_lst (ha_nil ⟨Nat.zero_le _, rd_poolNe G hsc ⟨_, rfl, rfl, rfl⟩⟩))))))) (fun e => ?sn) fun _ => hss_nil ?g4)
  case sn =>
    rw [Bool.and_eq_true] at e
    exact hss_cons (hs_ret (he_tup (ha_cons (he_str (ha_cons (he_call (has_pick T) (hr.mono (by omega)) (ha_cons (he_name (i := 0) rfl rfl (ha_cons (he_pool F (Room.u1 hr) (r := 2) rfl rfl hsc (ha_nil (aPick_of G (by omega) (ne e.2) (G.len _ hsc) fun s hs => ha_nil ⟨le2, q _ _ (by omega) (.seen hs)⟩))))))))))))
  refine hss_cons (hs_ret (he_tup (ha_cons (he_str (ha_cons (he_ixL (he_lst (hf_lst ?_))))))))
  refine ha_cons (he_int (ha_cons (he_int (ha_cons (he_int (ha_cons (he_int (ha_cons (he_neg ?_)))))))))
  refine ha_cons (he_int (ha_nil ⟨le6, he_call (has_draw T) (hr.mono (by omega)) (ha_cons (he_name (i := 0) rfl rfl (ha_cons (he_int (ha_nil (aDraw_of G (by omega) (by decide) (by decide) fun r r1 r2 => ?_))))))⟩))
  obtain ⟨d, hd, e⟩ := menu_at (ds := [D.int 0, .int 1, .int 2, .int 9, .int (-3), .int 10]) (m := 6) rfl r1 r2
  obtain ⟨i, rfl, i1, i2⟩ : ∃ i, d = .int i ∧ -10 ≤ i ∧ i ≤ 10 := by
    simp only [List.mem_cons, List.not_mem_nil, or_false] at hd
    rcases hd with rfl | rfl | rfl | rfl | rfl | rfl <;> exact ⟨_, rfl, by decide, by decide⟩
  exact ⟨_, _, _, rfl, rfl, e, ha_nil ⟨le2, q _ _ (by omega) (.num i1 i2)⟩⟩
end
end Fk
set_option Elab.async false
set_option linter.all false
set_option maxRecDepth 100000
set_option maxHeartbeats 4000000
/-! G1: comprehensions that draw. -/
namespace Fk
open PySem PySem.Spec PyProof.Rows L2
theorem le4 : 4 ≤ sizeLine := by decide
theorem le5 : 5 ≤ sizeLine := by decide
theorem le7 : 7 ≤ sizeLine := by decide
inductive All2 (P : D → D → Prop) : List D → List D → Prop
  | nil : All2 P [] []
  | cons {d e : D} {ds es : List D} : P d e → All2 P ds es → All2 P (d :: ds) (e :: es)
theorem All2.snoc {P : D → D → Prop} {d e : D} (h : P d e) : ∀ {ds es : List D}, All2 P ds es → All2 P (ds ++ [d]) (es ++ [e])
  | _, _, .nil => .cons h .nil
  | _, _, .cons a b => .cons a (All2.snoc h b)
theorem All2.len {P : D → D → Prop} : ∀ {ds es : List D}, All2 P ds es → es.length = ds.length
  | _, _, .nil => rfl
  | _, _, .cons _ b => by simp [All2.len b]
theorem All2.mem {P : D → D → Prop} : ∀ {ds es : List D}, All2 P ds es → ∀ e ∈ es, ∃ d ∈ ds, P d e
  | _, _, .nil, e, h => by cases h
  | _, _, .cons a b, e, h => by
    rcases List.mem_cons.mp h with rfl | h
    · exact ⟨_, List.mem_cons_self, a⟩
    · obtain ⟨d, h1, h2⟩ := All2.mem b e h
      exact ⟨d, List.mem_cons_of_mem _ h1, h2⟩
theorem All2.imp {P Q : D → D → Prop} (i : ∀ d e, P d e → Q d e) : ∀ {ds es : List D}, All2 P ds es → All2 Q ds es
  | _, _, .nil => .nil
  | _, _, .cons a b => .cons (i _ _ a) (All2.imp i b)
section
variable {X : Cx} {g : Gx} {n : Nat} {ρ : List SV} {elt tg iter c : Expr} {ifs : List Expr} {scope : Scope} {own : List (Str × Nat)} {pos : Pos} {Q : Nat → List D → Prop}
/-- a turn that draws -/
def Gens (X : Cx) (g : Gx) (ρ : List SV) (scope : Scope) (vs : List Nat) (tg elt : Expr) (n : Nat) (d : D) (Qy : Nat → D → Prop) : Prop :=
  ∃ ρ1, (∀ s H C cl fp, HG (Cx.bk X scope s H C cl fp) g ρ vs tg d ρ1) ∧ ∀ s H C cl fp, HE (Cx.bk X scope s H C cl fp) g n ρ1 elt Qy
theorem lc_gen (c : Nat) (P : D → D → Prop) (h : HI X g n ρ tg iter fun n1 ds => ds.length ≤ sizeLine ∧ (∀ d ∈ ds, ∀ m, m + c ≤ n1 + ds.length * c → Gens X g ρ scope (own.map (·.2)) tg elt m d fun m' y => m' ≤ m + c ∧ P d y) ∧ ∀ n2 ys, n2 ≤ n1 + ds.length * c → All2 P ds ys → Q n2 ys) : LC X g n ρ tg iter [] elt scope own Q := by
  obtain ⟨wi, pi, hi⟩ := h
  refine ⟨wi, pi, fun W σ H k R r => hi W σ H k R fun n1 ds J τ H' q => r n1 ds J τ H' ?_⟩
  obtain ⟨hz, hm, hq⟩ := q
  refine ⟨fun i m acc => m ≤ n1 + i * c ∧ All2 P (ds.take i) acc, ⟨by omega, .nil⟩, fun i d m acc hd hi => ?_, fun m acc hi => ?_⟩
  · obtain ⟨h1, h2⟩ := hi
    have hlt : i < ds.length := (List.getElem?_eq_some_iff.mp hd).1
    have hl := h2.len
    rw [List.length_take] at hl
    have hmul : (i + 1) * c ≤ ds.length * c := Nat.mul_le_mul_right c hlt
    rw [Nat.add_mul, Nat.one_mul] at hmul
    refine ⟨by omega, ?_⟩
    obtain ⟨ρ1, t1, t2⟩ := hm d (List.mem_of_getElem? hd) m (by omega)
    refine ⟨ρ1, t1, fun n' b => n' = m ∧ b = true, fun s H C cl fp => hts_nil ⟨rfl, rfl⟩, fun n' hn s H C cl fp => ?_, fun n' hn => absurd hn.2 (by decide)⟩
    obtain ⟨rfl, _⟩ := hn
    refine HE.mono (t2 s H C cl fp) fun n2 y hy => ?_
    refine ⟨by rw [Nat.add_mul, Nat.one_mul]; omega, ?_⟩
    rw [List.take_add_one, hd]
    exact h2.snoc hy.2
  · obtain ⟨h1, h2⟩ := hi
    rw [List.take_length] at h2
    exact hq m acc h1 h2
end
end Fk
set_option Elab.async false
set_option linter.all false
set_option maxRecDepth 100000
set_option maxHeartbeats 4000000
/-! G2: _law_test. -/
namespace Fk
open PySem PySem.Spec PyProof.Rows L2
inductive GTest (N : Str → List Str) : Nat → D → Prop
  | yes {k : Nat} : GTest N k (.tup [.str "all", .tup []])
  | not {k : Nat} {a : D} : GTest N k a → GTest N (k + 1) (.tup [.str "not", a])
  | many {k : Nat} {w : Str} {ts : List D} : (w = "all" ∨ w = "any") → ts.length ≤ 2 → (∀ t ∈ ts, GTest N k t) → GTest N (k + 1) (.tup [.str w, .tup ts])
  | att {k : Nat} {s t : Str} : s ∈ N "figure" → t ∈ N "place" → GTest N k (.tup [.str "at", .str s, .str t])
  | wth {k : Nat} {s t : Str} : s ∈ N "figure" → t ∈ N "figure" → GTest N k (.tup [.str "with", .str s, .str t])
  | is {k : Nat} {a b : D} {s : Str} : GSum N 1 a → GSum N 1 b → s ∈ SGN → GTest N k (.tup [.str "is", a, .str s, b])
def cT : Nat → Nat
  | 0 => 14
  | k + 1 => 3 * cT k + 16
theorem cT_ge : ∀ k, 14 ≤ cT k
  | 0 => Nat.le_refl _
  | k + 1 => by rw [cT]; omega
theorem rangeD_len (n : Nat) : (rangeD n).length = n := by
  unfold rangeD
  rw [List.length_map, List.length_range]
section
variable {P : Program} {w : World} {K : PySem.W.Frag} {mg : Str → Option Value} {base : Heap}
theorem has_sum (T : Top K mg) : ∀ k, Has P w K mg base (k + 3) "_law_sum" ["_law_feed_here", "_law_deep", "_law_pool"] (aSum k)
  | 0 => sum_step T 0 fun j e => by cases e
  | k + 1 => sum_step T (k + 1) fun j e => by
    obtain rfl : k = j := by omega
    exact has_sum T k
def aTest (k : Nat) : Acc := fun g n ds Q => ∃ fa pa N, Gen g fa pa N ∧ n + cT k ≤ CT ∧ ds = [.obj fa, .int (k : Int), .obj pa] ∧ ∀ n' d, n' ≤ n + cT k → GTest N k d → Q n' d
theorem test_step (T : Top K mg) (k : Nat) (ih : ∀ j, k = j + 1 → Has P w K mg base (j + 5) "_law_test" ["_law_feed_here", "_law_deep", "_law_pool"] (aTest j)) : Has P w K mg base (k + 5) "_law_test" ["_law_feed_here", "_law_deep", "_law_pool"] (aTest k) := by
  have hN : (["_law_feed_here", "_law_deep", "_law_pool", "_law_way", "_law_some", "_law_k"] : List Str).Nodup := by decide +kernel
  refine has_of (N := ["_law_feed_here", "_law_deep", "_law_pool", "_law_way", "_law_some", "_law_k"]) T (i := 51) (d := d_law_test) rfl ⟨rfl, rfl, rfl, hN, rfl, by decide +kernel, by decide +kernel⟩ (by decide +kernel) rfl rfl rfl (fun _ _ _ _ _ _ us hl => match us, hl with | [_, _, _], _ => rfl) (fun g n ds Q h => by obtain ⟨_, _, _, _, _, rfl, _⟩ := h; rfl) fun cd Ar outer s H E hr g n ds Q h => ?_
  obtain ⟨fa, pa, N, G, hn, rfl, q⟩ := h
  obtain ⟨la, F⟩ := G.pool
  have h14 := cT_ge k
  have c1 : cS 1 = 6 := rfl
  have hpl : ("place" : Str) ∈ SRTS := by decide
  have hfi : ("figure" : Str) ∈ SRTS := by decide
  have ne : ∀ {s : Str}, (!(N s).isEmpty) = true → N s ≠ [] := fun {s} h z => by rw [z] at h; cases h
  refine hss_cons (hs_set (i := 3) hN rfl (he_call (has_draw T) (hr.mono (by omega)) (ha_cons (he_name (i := 0) rfl rfl (ha_cons (he_int (ha_nil (aDraw_of G (by omega) (by decide) (by decide) fun way w1 w2 => ?_))))))))
  refine hss_cons (hs_if (HT.mono (Q := fun n' _ => n' = n + 1) (ht_val (he_call (has_spent T) (hr.mono (by omega)) (ha_cons (he_name (i := 2) rfl rfl (ha_nil (aSpent_of G fun b => ⟨b, rfl, rfl⟩)))))) fun n' b hb => ⟨fun _ => ?sp, fun _ => hss_nil ?go⟩))
  case sp =>
    subst hb
    exact hss_cons (hs_ret (he_tup (ha_cons (he_str (ha_cons (he_tup (ha_nil ⟨Nat.zero_le _, ha_nil ⟨le2, q _ _ (by omega) .yes⟩⟩)))))))
  subst hb
  refine hss_cons (hs_ifP (decide (way < 3) && decide (0 < (k : Int))) (ht_bool (hw_andP (ht_cmp op_lt (he_name (i := 3) rfl rfl (he_int (rd_intB ⟨_, rfl, rfl, rfl⟩)))) fun _ => hw_and1 (ht_cmp op_gt (he_name (i := 1) rfl rfl (he_int (rd_intB ⟨_, rfl, rfl, rfl⟩)))))) (fun e => ?rec) fun _ => hss_nil ?g2)
  case rec =>
    simp only [Bool.and_eq_true, decide_eq_true_eq] at e
    obtain ⟨j, rfl⟩ : ∃ j, k = j + 1 := ⟨k - 1, by omega⟩
    have hj := ih j rfl
    have hcs : cT (j + 1) = 3 * cT j + 16 := rfl
    have ej : ((j + 1 : Nat) : Int) - 1 = (j : Int) := by omega
    refine hss_cons (hs_set (i := 4) hN rfl (he_tuple T.f_tuple (he_lst (hf_LC (own := [("_law_k", 5)]) rfl hN ?blk (own1 rfl) (lc_gen (cT j) (fun _ y => GTest N j y) (hi_range T.f_range (he_call (has_draw T) (hr.mono (by omega)) (ha_cons (he_name (i := 0) rfl rfl (ha_cons (he_int (ha_nil (aDraw_of G (by omega) (by decide) (by decide) fun r r1 r2 => ⟨r, rfl, by omega, by omega, ?len, fun d hd m hm => ?elt, fun n2 ys y1 y2 => ⟨ys, rfl, ?rest⟩⟩)))))))))))))
    case blk => exact (show BlkOk (["_law_feed_here", "_law_deep", "_law_pool", "_law_way", "_law_some", "_law_k"] : List Str) d_law_test.scope _ _ from ⟨rfl, by decide +kernel, by decide +kernel, by decide +kernel, by decide +kernel⟩)
    case len =>
      rw [rangeD_len]
      exact Nat.le_trans (by omega) (show 3 ≤ sizeLine by decide)
    case elt =>
      rw [rangeD_len] at hm
      have hm2 : m + cT j ≤ n + 2 + 2 * cT j := Nat.le_trans hm (Nat.add_le_add_left (Nat.mul_le_mul_right _ (by omega)) _)
      refine ⟨_, fun s H C cl fp => hg_name hN rfl, fun s H C cl fp => he_call hj (hr.mono (by omega)) (ha_cons (he_name (i := 0) rfl rfl (ha_cons (he_op op_sub (he_name (i := 1) rfl rfl (he_int (rd_int ?_)))))))⟩
      rw [ej]
      exact ha_cons (he_name (i := 2) rfl rfl (ha_nil ⟨fa, pa, N, G, by omega, rfl, fun n1 d1 b1 g1 => ⟨b1, g1⟩⟩))
    rw [rangeD_len] at y1
    have y3 := y2.len
    rw [rangeD_len] at y3
    have y4 : n2 ≤ n + 2 + 2 * cT j := Nat.le_trans y1 (Nat.add_le_add_left (Nat.mul_le_mul_right _ (by omega)) _)
    have y5 : ∀ y ∈ ys, GTest N j y := fun y hy => (y2.mem y hy).elim fun _ h => h.2
    have y6 : ys.length ≤ 2 := by omega
    refine hss_cons (hs_ret (he_ixL (he_lst (hf_lst (ha_cons (he_tup (ha_cons (he_str (ha_cons (he_call hj (hr.mono (by omega)) (ha_cons (he_name (i := 0) rfl rfl (ha_cons (he_op op_sub (he_name (i := 1) rfl rfl (he_int (rd_int ?_)))))))))))))))))
    rw [ej]
    refine ha_cons (he_name (i := 2) rfl rfl (ha_nil ⟨fa, pa, N, G, by omega, rfl, fun n3 d3 b3 g3 => ha_nil ⟨le2, ?_⟩⟩))
    refine ha_cons (he_tup (ha_cons (he_str (ha_cons (he_name (i := 4) rfl rfl (ha_nil ⟨le2, ha_cons (he_tup (ha_cons (he_str (ha_cons (he_name (i := 4) rfl rfl (ha_nil ⟨le2, ha_nil ⟨le3, he_name (i := 3) rfl rfl ?_⟩⟩))))))⟩))))))
    obtain ⟨d, hd, e2⟩ := menu_at (ds := [D.tup [.str "not", d3], .tup [.str "all", .tup ys], .tup [.str "any", .tup ys]]) (m := 3) rfl w1 e.1
    refine ⟨_, _, d, rfl, rfl, e2, q _ _ (by omega) ?_⟩
    simp only [List.mem_cons, List.not_mem_nil, or_false] at hd
    rcases hd with rfl | rfl | rfl
    · exact .not g3
    · exact .many (.inl rfl) y6 y5
    · exact .many (.inr rfl) y6 y5
  refine hss_cons (hs_ifP (decide (way = 3) && (!(N "figure").isEmpty && !(N "place").isEmpty)) (ht_bool (hw_andP (ht_cmp op_eq (he_name (i := 3) rfl rfl (he_int (rd_eqI ⟨_, rfl, rfl, rfl⟩)))) fun _ => hw_andP (ht_cmp (op_neD (Room.units hr)) (he_pool F (Room.u1 hr) (r := 2) rfl rfl hfi (he_lst (hf_lst (ha_nil ⟨Nat.zero_le _, rd_poolNe G hfi ⟨_, rfl, rfl, rfl⟩⟩))))) fun _ => hw_and1 (ht_cmp (op_neD (Room.units hr)) (he_pool F (Room.u1 hr) (r := 2) rfl rfl hpl (he_lst (hf_lst (ha_nil ⟨Nat.zero_le _, rd_poolNe G hpl ⟨_, rfl, rfl, rfl⟩⟩))))))) (fun e => ?att) fun _ => hss_nil ?g3)
  case att =>
    simp only [Bool.and_eq_true] at e
    exact hss_cons (hs_ret (he_tup (ha_cons (he_str (ha_cons (he_call (has_pick T) (hr.mono (by omega)) (ha_cons (he_name (i := 0) rfl rfl (ha_cons (he_pool F (Room.u1 hr) (r := 2) rfl rfl hfi (ha_nil (aPick_of G (by omega) (ne e.2.1) (G.len _ hfi) fun s hs => ha_cons (he_call (has_pick T) (hr.mono (by omega)) (ha_cons (he_name (i := 0) rfl rfl (ha_cons (he_pool F (Room.u1 hr) (r := 2) rfl rfl hpl (ha_nil (aPick_of G (by omega) (ne e.2.2) (G.len _ hpl) fun t ht => ha_nil ⟨le3, q _ _ (by omega) (.att hs ht)⟩)))))))))))))))))))
  refine hss_cons (hs_ifP (decide (way = 4) && !(N "figure").isEmpty) (ht_bool (hw_andP (ht_cmp op_eq (he_name (i := 3) rfl rfl (he_int (rd_eqI ⟨_, rfl, rfl, rfl⟩)))) fun _ => hw_and1 (ht_cmp (op_neD (Room.units hr)) (he_pool F (Room.u1 hr) (r := 2) rfl rfl hfi (he_lst (hf_lst (ha_nil ⟨Nat.zero_le _, rd_poolNe G hfi ⟨_, rfl, rfl, rfl⟩⟩))))))) (fun e => ?wi) fun _ => hss_nil ?g4)
  case wi =>
    simp only [Bool.and_eq_true] at e
    exact hss_cons (hs_ret (he_tup (ha_cons (he_str (ha_cons (he_call (has_pick T) (hr.mono (by omega)) (ha_cons (he_name (i := 0) rfl rfl (ha_cons (he_pool F (Room.u1 hr) (r := 2) rfl rfl hfi (ha_nil (aPick_of G (by omega) (ne e.2) (G.len _ hfi) fun s hs => ha_cons (he_call (has_pick T) (hr.mono (by omega)) (ha_cons (he_name (i := 0) rfl rfl (ha_cons (he_pool F (Room.u1 hr) (r := 2) rfl rfl hfi (ha_nil (aPick_of G (by omega) (ne e.2) (G.len _ hfi) fun t ht => ha_nil ⟨le3, q _ _ (by omega) (.wth hs ht)⟩)))))))))))))))))))
  refine hss_cons (hs_if (ht_cmp op_lt (he_name (i := 3) rfl rfl (he_int (rd_intB ⟨_, rfl, fun e => ?is, fun _ => hss_nil ?g5⟩)))))
  case is =>
    refine hss_cons (hs_ret (he_tup (ha_cons (he_str (ha_cons (he_call (has_sum T 1) (hr.mono (by omega)) (ha_cons (he_name (i := 0) rfl rfl (ha_cons (he_int (ha_cons (he_name (i := 2) rfl rfl (ha_nil ⟨fa, pa, N, G, by omega, rfl, fun n1 d1 b1 g1 => ?_⟩)))))))))))))
    refine ha_cons (he_ixL (he_lst (hf_lst (ha_cons (he_str (ha_cons (he_str (ha_cons (he_str (ha_nil ⟨le3, he_call (has_draw T) (hr.mono (by omega)) (ha_cons (he_name (i := 0) rfl rfl (ha_cons (he_int (ha_nil (aDraw_of G (by omega) (by decide) (by decide) fun r r1 r2 => ?_))))))⟩))))))))))
    obtain ⟨d, hd, e2⟩ := menu_at (ds := SGN.map D.str) (m := 3) rfl r1 r2
    obtain ⟨s, hs, rfl⟩ := List.mem_map.mp hd
    refine ⟨_, _, _, rfl, rfl, e2, ?_⟩
    exact ha_cons (he_call (has_sum T 1) (hr.mono (by omega)) (ha_cons (he_name (i := 0) rfl rfl (ha_cons (he_int (ha_cons (he_name (i := 2) rfl rfl (ha_nil ⟨fa, pa, N, G, by omega, rfl, fun n2 d2 b2 g2 => ha_nil ⟨le4, q _ _ (by omega) (.is g1 g2 hs)⟩⟩))))))))
  exact hss_cons (hs_ret (he_tup (ha_cons (he_str (ha_cons (he_tup (ha_nil ⟨Nat.zero_le _, ha_nil ⟨le2, q _ _ (by omega) .yes⟩⟩)))))))
theorem has_test (T : Top K mg) : ∀ k, Has P w K mg base (k + 5) "_law_test" ["_law_feed_here", "_law_deep", "_law_pool"] (aTest k)
  | 0 => test_step T 0 fun j e => by cases e
  | k + 1 => test_step T (k + 1) fun j e => by
    obtain rfl : k = j := by omega
    exact has_test T k
end
end Fk
set_option Elab.async false
set_option linter.all false
set_option maxRecDepth 100000
set_option maxHeartbeats 4000000
/-! G3: _law_pieces, _law_piece. -/
namespace Fk
open PySem PySem.Spec PyProof.Rows L2
def TXT : List Str := ["", " ", "You go.", "a  b ", "done", "else", "text x", "if all 0"]
inductive GPiece (N : Str → List Str) (o : Bool) : Nat → D → Prop
  | fin {k : Nat} : GPiece N o k (.tup [.str "end"])
  | glue {k : Nat} : GPiece N o k (.tup [.str "glue"])
  | text {k : Nat} {s : Str} : s ∈ TXT → GPiece N o k (.tup [.str "text", .str s])
  | worth {k : Nat} {a : D} : GSum N 2 a → GPiece N o k (.tup [.str "worth", a])
  | place {k : Nat} {s : Str} : s ∈ N "figure" → GPiece N o k (.tup [.str "place", .str s])
  | only {k : Nat} {s : Str} {ps : List D} : o = true → s ∈ (["ann", "zoe"] : List Str) → ps.length ≤ 2 → (∀ p ∈ ps, GPiece N o k p) → GPiece N o (k + 1) (.tup [.str "only", .str s, .tup ps])
  | ifs {k : Nat} {t : D} {ps qs : List D} : GTest N 1 t → ps.length ≤ 2 → qs.length ≤ 2 → (∀ p ∈ ps, GPiece N o k p) → (∀ p ∈ qs, GPiece N o k p) → GPiece N o (k + 1) (.tup [.str "if", t, .tup ps, .tup qs])
def GPieces (N : Str → List Str) (o : Bool) (k : Nat) (d : D) : Prop := ∃ ps, d = .tup ps ∧ ps.length ≤ 2 ∧ ∀ p ∈ ps, GPiece N o k p
/-- the draws of a piece; of pieces one more than of two -/
def cP : Nat → Nat
  | 0 => 16
  | k + 1 => 2 * (2 * cP k + 1) + 76
theorem cP_ge : ∀ k, 16 ≤ cP k
  | 0 => Nat.le_refl _
  | k + 1 => by rw [cP]; omega
section
variable {P : Program} {w : World} {K : PySem.W.Frag} {mg : Str → Option Value} {base : Heap}
def aGPiece (k : Nat) : Acc := fun g n ds Q => ∃ fa pa N o, Gen g fa pa N ∧ n + cP k ≤ CT ∧ ds = [.obj fa, .int (k : Int), .obj pa, .bl o] ∧ ∀ n' d, n' ≤ n + cP k → GPiece N o k d → Q n' d
def aGPieces (k : Nat) : Acc := fun g n ds Q => ∃ fa pa N o, Gen g fa pa N ∧ n + (2 * cP k + 1) ≤ CT ∧ ds = [.obj fa, .int (k : Int), .obj pa, .bl o] ∧ ∀ n' d, n' ≤ n + (2 * cP k + 1) → GPieces N o k d → Q n' d
theorem pieces_step (T : Top K mg) (k : Nat) (ih : Has P w K mg base (2 * k + 8) "_law_piece" ["_law_feed_here", "_law_deep", "_law_pool", "_law_only"] (aGPiece k)) : Has P w K mg base (2 * k + 9) "_law_pieces" ["_law_feed_here", "_law_deep", "_law_pool", "_law_only"] (aGPieces k) := by
  have hN : (["_law_feed_here", "_law_deep", "_law_pool", "_law_only", "_law_many", "_law_k"] : List Str).Nodup := by decide +kernel
  refine has_of (N := ["_law_feed_here", "_law_deep", "_law_pool", "_law_only", "_law_many", "_law_k"]) T (i := 52) (d := d_law_pieces) rfl ⟨rfl, rfl, rfl, hN, rfl, by decide +kernel, by decide +kernel⟩ (by decide +kernel) rfl rfl rfl (fun _ _ _ _ _ _ us hl => match us, hl with | [_, _, _, _], _ => rfl) (fun g n ds Q h => by obtain ⟨_, _, _, _, _, _, rfl, _⟩ := h; rfl) fun cd Ar outer s H E hr g n ds Q h => ?_
  obtain ⟨fa, pa, N, o, G, hn, rfl, q⟩ := h
  obtain ⟨la, F⟩ := G.pool
  have h16 := cP_ge k
  refine hss_cons (HS.imp (nx' := fun n' ρ' => n' ≤ n + 1 ∧ ∃ r : Int, 0 ≤ r ∧ r < 3 ∧ ρ' = [.dat (.obj fa), .dat (.int (k : Int)), .dat (.obj pa), .dat (.bl o), .dat (.int r), .no]) (fun n' ρ' hI => ?tl) (hs_set (i := 4) hN rfl (he_if (ht_cmp op_gt (he_left F (Room.u1 hr) (r := 2) rfl rfl fun l => he_int (rd_intB ⟨_, rfl, fun _ => he_call (has_draw T) (hr.mono (by omega)) (ha_cons (he_name (i := 0) rfl rfl (ha_cons (he_int (ha_nil (aDraw_of G (by omega) (by decide) (by decide) fun r r1 r2 => ⟨Nat.le_refl _, r, r1, r2, rfl⟩)))))), fun _ => he_int ⟨by omega, 0, by decide, by decide, rfl⟩⟩))))))
  obtain ⟨h1, r, r1, r2, rfl⟩ := hI
  refine hss_cons (hs_ret (he_tuple T.f_tuple (he_lst (hf_LC (own := [("_law_k", 5)]) rfl hN ?blk (own1 rfl) (lc_gen (cP k) (fun _ y => GPiece N o k y) (hi_range T.f_range (he_name (i := 4) rfl rfl ⟨r, rfl, by omega, by omega, ?len, fun d hd m hm => ?elt, fun n2 ys y1 y2 => ⟨ys, rfl, ?rest⟩⟩)))))))
  case blk => exact (show BlkOk (["_law_feed_here", "_law_deep", "_law_pool", "_law_only", "_law_many", "_law_k"] : List Str) d_law_pieces.scope _ _ from ⟨rfl, by decide +kernel, by decide +kernel, by decide +kernel, by decide +kernel⟩)
  case len =>
    rw [rangeD_len]
    exact Nat.le_trans (by omega) (show 3 ≤ sizeLine by decide)
  case elt =>
    rw [rangeD_len] at hm
    have hm2 : m + cP k ≤ n' + 2 * cP k := Nat.le_trans hm (Nat.add_le_add_left (Nat.mul_le_mul_right _ (by omega)) _)
    exact ⟨_, fun s H C cl fp => hg_name hN rfl, fun s H C cl fp => he_call ih hr (ha_cons (he_name (i := 0) rfl rfl (ha_cons (he_name (i := 1) rfl rfl (ha_cons (he_name (i := 2) rfl rfl (ha_cons (he_name (i := 3) rfl rfl (ha_nil ⟨fa, pa, N, o, G, by omega, rfl, fun n1 d1 b1 g1 => ⟨b1, g1⟩⟩)))))))))⟩
  rw [rangeD_len] at y1
  have y3 := y2.len
  rw [rangeD_len] at y3
  have y4 : n2 ≤ n' + 2 * cP k := Nat.le_trans y1 (Nat.add_le_add_left (Nat.mul_le_mul_right _ (by omega)) _)
  exact q _ _ (by omega) ⟨ys, rfl, by omega, fun y hy => (y2.mem y hy).elim fun _ h => h.2⟩
theorem piece_step (T : Top K mg) (k : Nat) (ih : ∀ j, k = j + 1 → Has P w K mg base (2 * j + 9) "_law_pieces" ["_law_feed_here", "_law_deep", "_law_pool", "_law_only"] (aGPieces j)) : Has P w K mg base (2 * k + 8) "_law_piece" ["_law_feed_here", "_law_deep", "_law_pool", "_law_only"] (aGPiece k) := by
  have hN : (["_law_feed_here", "_law_deep", "_law_pool", "_law_only", "_law_way", "_law_first"] : List Str).Nodup := by decide +kernel
  refine has_of (N := ["_law_feed_here", "_law_deep", "_law_pool", "_law_only", "_law_way", "_law_first"]) T (i := 53) (d := d_law_piece) rfl ⟨rfl, rfl, rfl, hN, rfl, by decide +kernel, by decide +kernel⟩ (by decide +kernel) rfl rfl rfl (fun _ _ _ _ _ _ us hl => match us, hl with | [_, _, _, _], _ => rfl) (fun g n ds Q h => by obtain ⟨_, _, _, _, _, _, rfl, _⟩ := h; rfl) fun cd Ar outer s H E hr g n ds Q h => ?_
  obtain ⟨fa, pa, N, o, G, hn, rfl, q⟩ := h
  obtain ⟨la, F⟩ := G.pool
  have h16 := cP_ge k
  have c2 : cS 2 = 14 := rfl
  have t1 : cT 1 = 58 := rfl
  have hfi : ("figure" : Str) ∈ SRTS := by decide
  have ne : ∀ {s : Str}, (!(N s).isEmpty) = true → N s ≠ [] := fun {s} h z => by rw [z] at h; cases h
  refine hss_cons (hs_set (i := 4) hN rfl (he_call (has_draw T) (hr.mono (by omega)) (ha_cons (he_name (i := 0) rfl rfl (ha_cons (he_int (ha_nil (aDraw_of G (by omega) (by decide) (by decide) fun way w1 w2 => ?_))))))))
  refine hss_cons (hs_if (HT.mono (Q := fun n' _ => n' = n + 1) (ht_val (he_call (has_spent T) (hr.mono (by omega)) (ha_cons (he_name (i := 2) rfl rfl (ha_nil (aSpent_of G fun b => ⟨b, rfl, rfl⟩)))))) fun n' b hb => ⟨fun _ => ?sp, fun _ => hss_nil ?go⟩))
  case sp =>
    subst hb
    exact hss_cons (hs_ret (he_tup (ha_cons (he_str (ha_nil ⟨by decide, q _ _ (by omega) .fin⟩)))))
  subst hb
  refine hss_cons (hs_ifP (decide (way < 2) && decide (0 < (k : Int))) (ht_bool (hw_andP (ht_cmp op_lt (he_name (i := 4) rfl rfl (he_int (rd_intB ⟨_, rfl, rfl, rfl⟩)))) fun _ => hw_and1 (ht_cmp op_gt (he_name (i := 1) rfl rfl (he_int (rd_intB ⟨_, rfl, rfl, rfl⟩)))))) (fun e => ?rec) fun _ => hss_nil ?g2)
  case rec =>
    simp only [Bool.and_eq_true, decide_eq_true_eq] at e
    obtain ⟨j, rfl⟩ : ∃ j, k = j + 1 := ⟨k - 1, by omega⟩
    have hj := ih j rfl
    have hcs : cP (j + 1) = 2 * (2 * cP j + 1) + 76 := rfl
    have ej : ((j + 1 : Nat) : Int) - 1 = (j : Int) := by omega
    refine hss_cons (hs_set (i := 5) hN rfl (he_call hj (hr.mono (by omega)) (ha_cons (he_name (i := 0) rfl rfl (ha_cons (he_op op_sub (he_name (i := 1) rfl rfl (he_int (rd_int ?_)))))))))
    rw [ej]
    refine ha_cons (he_name (i := 2) rfl rfl (ha_cons (he_name (i := 3) rfl rfl (ha_nil ⟨fa, pa, N, o, G, by omega, rfl, fun n1 d1 b1 g1 => ?_⟩))))
    obtain ⟨ps, rfl, p1, p2⟩ := g1
    refine hss_cons (hs_ifP (decide (way = 1) && o) (ht_bool (hw_andP (ht_cmp op_eq (he_name (i := 4) rfl rfl (he_int (rd_eqI ⟨_, rfl, rfl, rfl⟩)))) fun _ => hw_and1 (ht_val (he_name (i := 3) rfl rfl ⟨_, rfl, rfl, rfl⟩)))) (fun e2 => ?on) fun _ => hss_nil ?g3)
    case on =>
      simp only [Bool.and_eq_true] at e2
      refine hss_cons (hs_ret (he_tup (ha_cons (he_str (ha_cons (he_ixL (he_lst (hf_lst (ha_cons (he_str (ha_cons (he_str (ha_nil ⟨le2, he_call (has_draw T) (hr.mono (by omega)) (ha_cons (he_name (i := 0) rfl rfl (ha_cons (he_int (ha_nil (aDraw_of G (by omega) (by decide) (by decide) fun r r1 r2 => ?_))))))⟩)))))))))))))
      obtain ⟨d, hd, e3⟩ := menu_at (ds := (["ann", "zoe"] : List Str).map D.str) (m := 2) rfl r1 r2
      obtain ⟨s, hs, rfl⟩ := List.mem_map.mp hd
      exact ⟨_, _, _, rfl, rfl, e3, ha_cons (he_name (i := 5) rfl rfl (ha_nil ⟨le3, q _ _ (by omega) (.only e2.2 hs p1 p2)⟩))⟩
    refine hss_cons (hs_ret (he_tup (ha_cons (he_str (ha_cons (he_call (has_test T 1) (hr.mono (by omega)) (ha_cons (he_name (i := 0) rfl rfl (ha_cons (he_int (ha_cons (he_name (i := 2) rfl rfl (ha_nil ⟨fa, pa, N, G, by omega, rfl, fun n2 d2 b2 g2 => ha_cons (he_name (i := 5) rfl rfl (ha_cons (he_call hj (hr.mono (by omega)) (ha_cons (he_name (i := 0) rfl rfl (ha_cons (he_op op_sub (he_name (i := 1) rfl rfl (he_int (rd_int ?_))))))))))⟩)))))))))))))
    rw [ej]
    refine ha_cons (he_name (i := 2) rfl rfl (ha_cons (he_name (i := 3) rfl rfl (ha_nil ⟨fa, pa, N, o, G, by omega, rfl, fun n3 d3 b3 g3 => ha_nil ⟨le4, ?_⟩⟩))))
    obtain ⟨qs, rfl, q1, q2⟩ := g3
    exact q _ _ (by omega) (.ifs g2 p1 q1 p2 q2)
  refine hss_cons (hs_if (ht_cmp op_eq (he_name (i := 4) rfl rfl (he_int (rd_eqI ⟨_, rfl, fun _ => ?wo, fun _ => hss_nil ?g4⟩)))))
  case wo =>
    exact hss_cons (hs_ret (he_tup (ha_cons (he_str (ha_cons (he_call (has_sum T 2) (hr.mono (by omega)) (ha_cons (he_name (i := 0) rfl rfl (ha_cons (he_int (ha_cons (he_name (i := 2) rfl rfl (ha_nil ⟨fa, pa, N, G, by omega, rfl, fun n1 d1 b1 g1 => ha_nil ⟨le2, q _ _ (by omega) (.worth g1)⟩⟩)))))))))))))
  refine hss_cons (hs_ifP (decide (way = 3) && !(N "figure").isEmpty) (ht_bool (hw_andP (ht_cmp op_eq (he_name (i := 4) rfl rfl (he_int (rd_eqI ⟨_, rfl, rfl, rfl⟩)))) fun _ => hw_and1 (ht_cmp (op_neD (Room.units hr)) (he_pool F (Room.u1 hr) (r := 2) rfl rfl hfi (he_lst (hf_lst (ha_nil ⟨Nat.zero_le _, rd_poolNe G hfi ⟨_, rfl, rfl, rfl⟩⟩))))))) (fun e => ?pl) fun _ => hss_nil ?g5)
  case pl =>
    simp only [Bool.and_eq_true] at e
    exact hss_cons (hs_ret (he_tup (ha_cons (he_str (ha_cons (he_call (has_pick T) (hr.mono (by omega)) (ha_cons (he_name (i := 0) rfl rfl (ha_cons (he_pool F (Room.u1 hr) (r := 2) rfl rfl hfi (ha_nil (aPick_of G (by omega) (ne e.2) (G.len _ hfi) fun s hs => ha_nil ⟨le2, q _ _ (by omega) (.place hs)⟩))))))))))))
  refine hss_cons (hs_if (ht_cmp op_lt (he_name (i := 4) rfl rfl (he_int (rd_intB ⟨_, rfl, fun _ => ?en, fun _ => hss_nil ?g6⟩)))))
  case en =>
    refine hss_cons (hs_ret (he_ixL (he_lst (hf_lst (ha_cons (he_tup (ha_cons (he_str (ha_nil ⟨by decide, ha_cons (he_tup (ha_cons (he_str (ha_nil ⟨by decide, ha_nil ⟨le2, he_op op_modN (he_name (i := 4) rfl rfl (he_int (rd_intC (by decide) ?_)))⟩⟩))))⟩)))))))))
    have hb := fmod_bnd (a := way) (m := 2) (by decide)
    obtain ⟨d, hd, e3⟩ := menu_at (ds := [D.tup [.str "end"], .tup [.str "glue"]]) (m := 2) rfl hb.1 hb.2
    refine ⟨_, _, d, rfl, rfl, e3, q _ _ (by omega) ?_⟩
    simp only [List.mem_cons, List.not_mem_nil, or_false] at hd
    rcases hd with rfl | rfl
    · exact .fin
    · exact .glue
  refine hss_cons (hs_ret (he_tup (ha_cons (he_str (ha_cons (he_ixL (he_lst (hf_lst (ha_cons (he_str (ha_cons (he_str (ha_cons (he_str (ha_cons (he_str (ha_cons (he_str (ha_cons (he_str (ha_cons (he_str (ha_cons (he_str (ha_nil ⟨by decide, he_call (has_draw T) (hr.mono (by omega)) (ha_cons (he_name (i := 0) rfl rfl (ha_cons (he_int (ha_nil (aDraw_of G (by omega) (by decide) (by decide) fun r r1 r2 => ?_))))))⟩)))))))))))))))))))))))))
  obtain ⟨d, hd, e3⟩ := menu_at (ds := TXT.map D.str) (m := 8) rfl r1 r2
  obtain ⟨s, hs, rfl⟩ := List.mem_map.mp hd
  exact ⟨_, _, _, rfl, rfl, e3, ha_nil ⟨le2, q _ _ (by omega) (.text hs)⟩⟩
theorem has_piece (T : Top K mg) : ∀ k, Has P w K mg base (2 * k + 8) "_law_piece" ["_law_feed_here", "_law_deep", "_law_pool", "_law_only"] (aGPiece k)
  | 0 => piece_step T 0 fun j e => by cases e
  | k + 1 => piece_step T (k + 1) fun j e => by
    obtain rfl : k = j := by omega
    exact pieces_step T k (has_piece T k)
theorem has_pieces (T : Top K mg) (k : Nat) : Has P w K mg base (2 * k + 9) "_law_pieces" ["_law_feed_here", "_law_deep", "_law_pool", "_law_only"] (aGPieces k) := pieces_step T k (has_piece T k)
end
end Fk
set_option Elab.async false
set_option linter.all false
set_option maxRecDepth 100000
set_option maxHeartbeats 4000000
/-! G4: _law_act, _law_next, _law_choice. -/
namespace Fk
open PySem PySem.Spec PyProof.Rows L2
inductive GDeed (N : Str → List Str) : D → Prop
  | set {s : Str} {a : D} : s ∈ N "number" → GSum N 2 a → GDeed N (.tup [.str "set", .str s, a])
  | draw {s : Str} : s ∈ N "number" → GDeed N (.tup [.str "draw", .str s])
  | move {w s t : Str} : (w = "go" ∨ w = "put") → s ∈ N "figure" → t ∈ N "place" → GDeed N (.tup [.str w, .str s, .str t])
  | join {s t : Str} : s ∈ N "figure" → t ∈ N "figure" → GDeed N (.tup [.str "join", .str s, .str t])
  | leave {s : Str} : s ∈ N "figure" → GDeed N (.tup [.str "leave", .str s])
inductive GNext (N : Str → List Str) : D → Prop
  | back : GNext N (.tup [.str "back"])
  | to {s : Str} : s ∈ N "scene" → GNext N (.tup [.str "to", .str s])
  | into {s t : Str} : s ∈ N "scene" → t ∈ N "scene" → GNext N (.tup [.str "into", .str s, .str t])
def GChoice (N : Str → List Str) (nm : Str) (d : D) : Prop := ∃ ps t b ds nx, d = .tup [.str nm, ps, t, .bl b, .tup ds, nx] ∧ GPieces N false 1 ps ∧ GTest N 2 t ∧ ds.length ≤ 2 ∧ (∀ e ∈ ds, GDeed N e) ∧ GNext N nx
section
variable {P : Program} {w : World} {K : PySem.W.Frag} {mg : Str → Option Value} {base : Heap}
def aAct : Acc := fun g n ds Q => ∃ fa pa N, Gen g fa pa N ∧ n + 16 ≤ CT ∧ ds = [.obj fa, .obj pa] ∧ ∀ n' d, n' ≤ n + 16 → (d = .non ∨ GDeed N d) → Q n' d
theorem has_act (T : Top K mg) : Has P w K mg base 6 "_law_act" ["_law_feed_here", "_law_pool"] aAct := by
  have hN : (["_law_feed_here", "_law_pool", "_law_way", "_law_folk", "_law_spots", "_law_name"] : List Str).Nodup := by decide +kernel
  refine has_of (N := ["_law_feed_here", "_law_pool", "_law_way", "_law_folk", "_law_spots", "_law_name"]) T (i := 54) (d := d_law_act) rfl ⟨rfl, rfl, rfl, hN, rfl, by decide +kernel, by decide +kernel⟩ (by decide +kernel) rfl rfl rfl (fun _ _ _ _ _ _ us hl => match us, hl with | [_, _], _ => rfl) (fun g n ds Q h => by obtain ⟨_, _, _, _, _, rfl, _⟩ := h; rfl) fun cd Ar outer s H E hr g n ds Q h => ?_
  obtain ⟨fa, pa, N, G, hn, rfl, q⟩ := h
  obtain ⟨la, F⟩ := G.pool
  have c2 : cS 2 = 14 := rfl
  have hnum : ("number" : Str) ∈ SRTS := by decide
  have hpl : ("place" : Str) ∈ SRTS := by decide
  have hfi : ("figure" : Str) ∈ SRTS := by decide
  have ne : ∀ {s : Str}, (!(N s).isEmpty) = true → N s ≠ [] := fun {s} h z => by rw [z] at h; cases h
  refine hss_cons (hs_par3 (i := 2) (j := 3) (l := 4) hN rfl rfl rfl (by decide) (by decide) (by decide) (he_call (has_draw T) (hr.mono (by omega)) (ha_cons (he_name (i := 0) rfl rfl (ha_cons (he_int (ha_nil (aDraw_of G (by omega) (by decide) (by decide) fun way w1 w2 => he_pool F (Room.u1 hr) (r := 1) rfl rfl hfi (he_pool F (Room.u1 hr) (r := 1) rfl rfl hpl ?_)))))))))
  refine hss_cons (hs_ifP (decide (way < 2) && !(N "number").isEmpty) (ht_bool (hw_andP (ht_cmp op_lt (he_name (i := 2) rfl rfl (he_int (rd_intB ⟨_, rfl, rfl, rfl⟩)))) fun _ => hw_and1 (ht_cmp (op_neD (Room.units hr)) (he_pool F (Room.u1 hr) (r := 1) rfl rfl hnum (he_lst (hf_lst (ha_nil ⟨Nat.zero_le _, rd_poolNe G hnum ⟨_, rfl, rfl, rfl⟩⟩))))))) (fun e => ?st) fun _ => hss_nil ?g2)
  case st =>
    simp only [Bool.and_eq_true, decide_eq_true_eq] at e
    refine hss_cons (hs_set (i := 5) hN rfl (he_call (has_pick T) (hr.mono (by omega)) (ha_cons (he_name (i := 0) rfl rfl (ha_cons (he_pool F (Room.u1 hr) (r := 1) rfl rfl hnum (ha_nil (aPick_of G (by omega) (ne e.2) (G.len _ hnum) fun s hs => ?_))))))))
    refine hss_cons (hs_ret (he_ixL (he_lst (hf_lst (ha_cons (he_tup (ha_cons (he_str (ha_cons (he_name (i := 5) rfl rfl (ha_cons (he_call (has_sum T 2) (hr.mono (by omega)) (ha_cons (he_name (i := 0) rfl rfl (ha_cons (he_int (ha_cons (he_name (i := 1) rfl rfl (ha_nil ⟨fa, pa, N, G, by omega, rfl, fun n1 d1 b1 g1 => ha_nil ⟨le3, ha_cons (he_tup (ha_cons (he_str (ha_cons (he_name (i := 5) rfl rfl (ha_nil ⟨le2, ha_nil ⟨le2, he_name (i := 2) rfl rfl ?_⟩⟩))))))⟩⟩)))))))))))))))))))
    obtain ⟨d, hd, e3⟩ := menu_at (ds := [D.tup [.str "set", .str s, d1], .tup [.str "draw", .str s]]) (m := 2) rfl w1 e.1
    refine ⟨_, _, d, rfl, rfl, e3, q _ _ (by omega) (.inr ?_)⟩
    simp only [List.mem_cons, List.not_mem_nil, or_false] at hd
    rcases hd with rfl | rfl
    · exact .set hs g1
    · exact .draw hs
  refine hss_cons (hs_ifP (decide (way < 4) && (!(N "figure").isEmpty && !(N "place").isEmpty)) (ht_bool (hw_andP (ht_cmp op_lt (he_name (i := 2) rfl rfl (he_int (rd_intB ⟨_, rfl, rfl, rfl⟩)))) fun _ => hw_andP (ht_cmp (op_neD (Room.units hr)) (he_name (i := 3) rfl rfl (he_lst (hf_lst (ha_nil ⟨Nat.zero_le _, rd_poolNe G hfi ⟨_, rfl, rfl, rfl⟩⟩))))) fun _ => hw_and1 (ht_cmp (op_neD (Room.units hr)) (he_name (i := 4) rfl rfl (he_lst (hf_lst (ha_nil ⟨Nat.zero_le _, rd_poolNe G hpl ⟨_, rfl, rfl, rfl⟩⟩))))))) (fun e => ?mv) fun _ => hss_nil ?g3)
  case mv =>
    simp only [Bool.and_eq_true] at e
    have hb := fmod_bnd (a := way) (m := 2) (by decide)
    refine hss_cons (hs_ret (he_tup (ha_cons (he_ixL (he_lst (hf_lst (ha_cons (he_str (ha_cons (he_str (ha_nil ⟨le2, he_op op_modN (he_name (i := 2) rfl rfl (he_int (rd_intC (by decide) ?_)))⟩)))))))))))
    obtain ⟨d, hd, e3⟩ := menu_at (ds := (["go", "put"] : List Str).map D.str) (m := 2) rfl hb.1 hb.2
    obtain ⟨v, hv, rfl⟩ := List.mem_map.mp hd
    have hv2 : v = "go" ∨ v = "put" := by simpa using hv
    refine ⟨_, _, _, rfl, rfl, e3, ?_⟩
    exact ha_cons (he_call (has_pick T) (hr.mono (by omega)) (ha_cons (he_name (i := 0) rfl rfl (ha_cons (he_name (i := 3) rfl rfl (ha_nil (aPick_of G (by omega) (ne e.2.1) (G.len _ hfi) fun s hs => ha_cons (he_call (has_pick T) (hr.mono (by omega)) (ha_cons (he_name (i := 0) rfl rfl (ha_cons (he_name (i := 4) rfl rfl (ha_nil (aPick_of G (by omega) (ne e.2.2) (G.len _ hpl) fun t ht => ha_nil ⟨le3, q _ _ (by omega) (.inr (.move hv2 hs ht))⟩))))))))))))))
  refine hss_cons (hs_ifP (decide (way = 4) && !(N "figure").isEmpty) (ht_bool (hw_andP (ht_cmp op_eq (he_name (i := 2) rfl rfl (he_int (rd_eqI ⟨_, rfl, rfl, rfl⟩)))) fun _ => hw_and1 (ht_cmp (op_neD (Room.units hr)) (he_name (i := 3) rfl rfl (he_lst (hf_lst (ha_nil ⟨Nat.zero_le _, rd_poolNe G hfi ⟨_, rfl, rfl, rfl⟩⟩))))))) (fun e => ?jn) fun _ => hss_nil ?g4)
  case jn =>
    simp only [Bool.and_eq_true] at e
    exact hss_cons (hs_ret (he_tup (ha_cons (he_str (ha_cons (he_call (has_pick T) (hr.mono (by omega)) (ha_cons (he_name (i := 0) rfl rfl (ha_cons (he_name (i := 3) rfl rfl (ha_nil (aPick_of G (by omega) (ne e.2) (G.len _ hfi) fun s hs => ha_cons (he_call (has_pick T) (hr.mono (by omega)) (ha_cons (he_name (i := 0) rfl rfl (ha_cons (he_name (i := 3) rfl rfl (ha_nil (aPick_of G (by omega) (ne e.2) (G.len _ hfi) fun t ht => ha_nil ⟨le3, q _ _ (by omega) (.inr (.join hs ht))⟩)))))))))))))))))))
  refine hss_cons (hs_ret (he_if (ht_cmp (op_neD (Room.units hr)) (he_name (i := 3) rfl rfl (he_lst (hf_lst (ha_nil ⟨Nat.zero_le _, rd_poolNe G hfi ⟨_, rfl, fun e => ?lv, fun _ => he_non (q _ _ (by omega) (.inl rfl))⟩⟩)))))))
  exact he_tup (ha_cons (he_str (ha_cons (he_call (has_pick T) (hr.mono (by omega)) (ha_cons (he_name (i := 0) rfl rfl (ha_cons (he_name (i := 3) rfl rfl (ha_nil (aPick_of G (by omega) (ne e) (G.len _ hfi) fun s hs => ha_nil ⟨le2, q _ _ (by omega) (.inr (.leave hs))⟩))))))))))
def aNext : Acc := fun g n ds Q => ∃ fa pa N, Gen g fa pa N ∧ N "scene" ≠ [] ∧ n + 3 ≤ CT ∧ ds = [.obj fa, .obj pa] ∧ ∀ n' d, n' ≤ n + 3 → GNext N d → Q n' d
theorem has_next (T : Top K mg) : Has P w K mg base 3 "_law_next" ["_law_feed_here", "_law_pool"] aNext := by
  have hN : (["_law_feed_here", "_law_pool", "_law_way", "_law_scene_here"] : List Str).Nodup := by decide +kernel
  refine has_of (N := ["_law_feed_here", "_law_pool", "_law_way", "_law_scene_here"]) T (i := 55) (d := d_law_next) rfl ⟨rfl, rfl, rfl, hN, rfl, by decide +kernel, by decide +kernel⟩ (by decide +kernel) rfl rfl rfl (fun _ _ _ _ _ _ us hl => match us, hl with | [_, _], _ => rfl) (fun g n ds Q h => by obtain ⟨_, _, _, _, _, _, rfl, _⟩ := h; rfl) fun cd Ar outer s H E hr g n ds Q h => ?_
  obtain ⟨fa, pa, N, G, ns, hn, rfl, q⟩ := h
  obtain ⟨la, F⟩ := G.pool
  have hsc : ("scene" : Str) ∈ SRTS := by decide
  refine hss_cons (hs_set (i := 2) hN rfl (he_call (has_draw T) (hr.mono (by omega)) (ha_cons (he_name (i := 0) rfl rfl (ha_cons (he_int (ha_nil (aDraw_of G (by omega) (by decide) (by decide) fun way w1 w2 => ?_))))))))
  refine hss_cons (hs_if (ht_cmp op_eq (he_name (i := 2) rfl rfl (he_int (rd_eqI ⟨_, rfl, fun _ => ?bk, fun _ => hss_nil ?g2⟩)))))
  case bk => exact hss_cons (hs_ret (he_tup (ha_cons (he_str (ha_nil ⟨by decide, q _ _ (by omega) .back⟩)))))
  refine hss_cons (hs_set (i := 3) hN rfl (he_call (has_pick T) (hr.mono (by omega)) (ha_cons (he_name (i := 0) rfl rfl (ha_cons (he_pool F (Room.u1 hr) (r := 1) rfl rfl hsc (ha_nil (aPick_of G (by omega) ns (G.len _ hsc) fun s hs => ?_))))))))
  refine hss_cons (hs_ret (he_if (ht_cmp op_eq (he_name (i := 2) rfl rfl (he_int (rd_eqI ⟨_, rfl, fun _ => ?in2, fun _ => ?to⟩))))))
  · exact he_tup (ha_cons (he_str (ha_cons (he_name (i := 3) rfl rfl (ha_cons (he_call (has_pick T) (hr.mono (by omega)) (ha_cons (he_name (i := 0) rfl rfl (ha_cons (he_pool F (Room.u1 hr) (r := 1) rfl rfl hsc (ha_nil (aPick_of G (by omega) ns (G.len _ hsc) fun t ht => ha_nil ⟨le3, q _ _ (by omega) (.into hs ht)⟩))))))))))))
  · exact he_tup (ha_cons (he_str (ha_cons (he_name (i := 3) rfl rfl (ha_nil ⟨le2, q _ _ (by omega) (.to hs)⟩)))))
def aChoice : Acc := fun g n ds Q => ∃ fa pa N nm, Gen g fa pa N ∧ N "scene" ≠ [] ∧ n + 512 ≤ CT ∧ ds = [.obj fa, .str nm, .obj pa] ∧ ∀ n' d, n' ≤ n + 512 → GChoice N nm d → Q n' d
theorem has_choice (T : Top K mg) : Has P w K mg base 12 "_law_choice" ["_law_feed_here", "_law_name", "_law_pool"] aChoice := by
  have hN : (["_law_feed_here", "_law_name", "_law_pool", "_law_tries", "_law_k", "_law_acts", "_law_one", "_law_label", "_law_test_here"] : List Str).Nodup := by decide +kernel
  refine has_of (N := ["_law_feed_here", "_law_name", "_law_pool", "_law_tries", "_law_k", "_law_acts", "_law_one", "_law_label", "_law_test_here"]) T (i := 56) (d := d_law_choice) rfl ⟨rfl, rfl, rfl, hN, rfl, by decide +kernel, by decide +kernel⟩ (by decide +kernel) rfl rfl rfl (fun _ _ _ _ _ _ us hl => match us, hl with | [_, _, _], _ => rfl) (fun g n ds Q h => by obtain ⟨_, _, _, _, _, _, _, rfl, _⟩ := h; rfl) fun cd Ar outer s H E hr g n ds Q h => ?_
  obtain ⟨fa, pa, N, nm, G, ns, hn, rfl, q⟩ := h
  have p1 : cP 1 = 142 := rfl
  have t2 : cT 2 = 190 := rfl
  refine hss_cons (hs_setLcD (i := 3) (own := [("_law_k", 4)]) hN rfl ?blk (own1 rfl) (lc_gen 16 (fun _ y => y = .non ∨ GDeed N y) (hi_range T.f_range (he_call (has_draw T) (hr.mono (by omega)) (ha_cons (he_name (i := 0) rfl rfl (ha_cons (he_int (ha_nil (aDraw_of G (by omega) (by decide) (by decide) fun r r1 r2 => ⟨r, rfl, by omega, by omega, ?len, fun d hd m hm => ?elt, fun n2 ys y1 y2 => ?rest⟩))))))))))
  case blk => exact (show BlkOk (["_law_feed_here", "_law_name", "_law_pool", "_law_tries", "_law_k", "_law_acts", "_law_one", "_law_label", "_law_test_here"] : List Str) d_law_choice.scope _ _ from ⟨rfl, by decide +kernel, by decide +kernel, by decide +kernel, by decide +kernel⟩)
  case len =>
    rw [rangeD_len]
    exact Nat.le_trans (by omega) (show 3 ≤ sizeLine by decide)
  case elt =>
    rw [rangeD_len] at hm
    exact ⟨_, fun s H C cl fp => hg_name hN rfl, fun s H C cl fp => he_call (has_act T) (hr.mono (by omega)) (ha_cons (he_name (i := 0) rfl rfl (ha_cons (he_name (i := 2) rfl rfl (ha_nil ⟨fa, pa, N, G, by omega, rfl, fun n1 d1 b1 g1 => ⟨b1, g1⟩⟩)))))⟩
  rw [rangeD_len] at y1
  have y3 := y2.len
  rw [rangeD_len] at y3
  have y5 : ∀ y ∈ ys, y = .non ∨ GDeed N y := fun y hy => (y2.mem y hy).elim fun _ h => h.2
  refine hss_cons (hs_set (i := 5) hN rfl (he_tuple T.f_tuple (he_lst (hf_LC (own := [("_law_one", 6)]) rfl hN ?blk2 (own1 rfl) (lc_mapIf (fun d => if d.isNon = true then none else some d) (hi_list (he_name (i := 3) rfl rfl ⟨ys, rfl, Nat.le_trans (show ys.length ≤ 2 by omega) le2, fun d hd => ?elt2, ⟨_, rfl, ?rest2⟩⟩)))))))
  case blk2 => exact (show BlkOk (["_law_feed_here", "_law_name", "_law_pool", "_law_tries", "_law_k", "_law_acts", "_law_one", "_law_label", "_law_test_here"] : List Str) d_law_choice.scope _ _ from ⟨rfl, by decide +kernel, by decide +kernel, by decide +kernel, by decide +kernel⟩)
  case elt2 =>
    refine ⟨_, fun s H C cl fp => hg_name hN rfl, fun s H C cl fp => ht_cmp op_notN (he_name (i := 6) rfl rfl (he_non (rd_notN ⟨_, rfl, rfl, ?_⟩))), fun s H C cl fp hy => he_name (i := 6) rfl rfl ⟨rfl, ?_⟩⟩
    · cases d.isNon <;> rfl
    · split at hy
      · cases hy
      · rename_i hx
        rw [if_neg hx]
  have z1 : (ys.filterMap fun d => if d.isNon = true then none else some d).length ≤ 2 := Nat.le_trans (List.length_filterMap_le _ _) (by omega)
  have z2 : ∀ e ∈ ys.filterMap (fun d => if d.isNon = true then none else some d), GDeed N e := fun e he => by
    obtain ⟨d, hd, h3⟩ := List.mem_filterMap.mp he
    split at h3
    · cases h3
    · rename_i hx
      cases h3
      rcases y5 _ hd with rfl | h4
      · exact absurd rfl hx
      · exact h4
  generalize (ys.filterMap fun d => if d.isNon = true then none else some d) = zs at z1 z2
  refine hss_cons (hs_parDD (i := 7) (j := 8) hN rfl rfl (by decide) (he_call (has_pieces T 1) (hr.mono (by omega)) (ha_cons (he_name (i := 0) rfl rfl (ha_cons (he_int (ha_cons (he_name (i := 2) rfl rfl (ha_cons (he_bl (ha_nil ⟨fa, pa, N, false, G, by omega, rfl, fun n3 d3 b3 g3 => he_call (has_test T 2) (hr.mono (by omega)) (ha_cons (he_name (i := 0) rfl rfl (ha_cons (he_int (ha_cons (he_name (i := 2) rfl rfl (ha_nil ⟨fa, pa, N, G, by omega, rfl, fun n4 d4 b4 g4 => ?_⟩)))))))⟩)))))))))))
  refine hss_cons (hs_ret (he_tup (ha_cons (he_name (i := 1) rfl rfl (ha_cons (he_name (i := 7) rfl rfl (ha_cons (he_name (i := 8) rfl rfl (ha_cons (he_cmp op_eq (he_call (has_draw T) (hr.mono (by omega)) (ha_cons (he_name (i := 0) rfl rfl (ha_cons (he_int (ha_nil (aDraw_of G (by omega) (by decide) (by decide) fun r5 _ _ => he_int (rd_eqI (ha_cons (he_name (i := 5) rfl rfl (ha_cons (he_call (has_next T) (hr.mono (by omega)) (ha_cons (he_name (i := 0) rfl rfl (ha_cons (he_name (i := 2) rfl rfl (ha_nil ⟨fa, pa, N, G, ns, by omega, rfl, fun n6 d6 b6 g6 => ha_nil ⟨le6, q _ _ (by omega) ⟨_, _, _, _, _, rfl, g3, g4, z1, z2, g6⟩⟩⟩)))))))))))))))))))))))))))
end
end Fk
set_option Elab.async false
set_option linter.all false
set_option maxRecDepth 100000
set_option maxHeartbeats 4000000
/-! G5: comprehensions with a test that draws; _law_scene. -/
namespace Fk
open PySem PySem.Spec PyProof.Rows L2
section
variable {X : Cx} {g : Gx} {n : Nat} {ρ : List SV} {elt tg iter cnd : Expr} {scope : Scope} {own : List (Str × Nat)} {pos : Pos} {Q : Nat → List D → Prop}
/-- a turn with a test that draws -/
def Fils (X : Cx) (g : Gx) (ρ : List SV) (scope : Scope) (vs : List Nat) (tg cnd elt : Expr) (n c : Nat) (d : D) (p : Bool) (y : D) : Prop :=
  ∃ ρ1, (∀ s H C cl fp, HG (Cx.bk X scope s H C cl fp) g ρ vs tg d ρ1) ∧ (∀ s H C cl fp, HT (Cx.bk X scope s H C cl fp) g n ρ1 cnd fun m b => m ≤ n + c ∧ (b = true → p = true)) ∧ ∀ m s H C cl fp, m ≤ n + c → p = true → HE (Cx.bk X scope s H C cl fp) g m ρ1 elt fun m' z => m' = m ∧ z = y
theorem lc_fil (c : Nat) (p : D → Bool) (f : D → D) (h : HI X g n ρ tg iter fun n1 ds => ds.length ≤ sizeLine ∧ (∀ d ∈ ds, ∀ m, m + c ≤ n1 + ds.length * c → Fils X g ρ scope (own.map (·.2)) tg cnd elt m c d (p d) (f d)) ∧ ∀ n2 ys, n2 ≤ n1 + ds.length * c → ys.Sublist ((ds.filter p).map f) → Q n2 ys) : LC X g n ρ tg iter [cnd] elt scope own Q := by
  obtain ⟨wi, pi, hi⟩ := h
  refine ⟨wi, pi, fun W σ H k R r => hi W σ H k R fun n1 ds J τ H' q => r n1 ds J τ H' ?_⟩
  obtain ⟨hz, hm, hq⟩ := q
  refine ⟨fun i m acc => m ≤ n1 + i * c ∧ acc.Sublist (((ds.take i).filter p).map f), ⟨by omega, List.nil_sublist _⟩, fun i d m acc hd hi => ?_, fun m acc hi => ?_⟩
  · obtain ⟨h1, h2⟩ := hi
    have hlt : i < ds.length := (List.getElem?_eq_some_iff.mp hd).1
    have hl : acc.length ≤ i := by
      refine Nat.le_trans h2.length_le ?_
      rw [List.length_map]
      refine Nat.le_trans (List.length_filter_le _ _) ?_
      rw [List.length_take]
      omega
    have hmul : (i + 1) * c ≤ ds.length * c := Nat.mul_le_mul_right c hlt
    rw [Nat.add_mul, Nat.one_mul] at hmul
    refine ⟨by omega, ?_⟩
    have et : ds.take (i + 1) = ds.take i ++ [d] := by rw [List.take_add_one, hd] <;> rfl
    obtain ⟨ρ1, t1, t2, t3⟩ := hm d (List.mem_of_getElem? hd) m (by omega)
    refine ⟨ρ1, t1, fun m' b => m' ≤ m + c ∧ (b = true → p d = true), fun s H C cl fp => hts_one (t2 s H C cl fp), fun m' hn s H C cl fp => ?_, fun m' hn => ⟨by rw [Nat.add_mul, Nat.one_mul]; omega, ?_⟩⟩
    · refine HE.mono (t3 m' s H C cl fp hn.1 (hn.2 rfl)) fun n2 y hy => ?_
      obtain ⟨rfl, rfl⟩ := hy
      have h3 := hn.1
      refine ⟨by rw [Nat.add_mul, Nat.one_mul]; omega, ?_⟩
      rw [et, List.filter_append, List.map_append]
      refine List.Sublist.append h2 ?_
      rw [List.filter_cons, if_pos (hn.2 rfl)]
      exact List.Sublist.refl _
    · rw [et, List.filter_append, List.map_append]
      exact List.Sublist.trans h2 (List.sublist_append_left _ _)
  · obtain ⟨h1, h2⟩ := hi
    rw [List.take_length] at h2
    exact hq m acc h1 h2
end
theorem cut_sub (ss : List Str) (lo hi : Option Int) : ∃ ts : List Str, ts.Sublist ss ∧ cutD (ss.map D.str) lo hi = ts.map D.str :=
  ⟨(ss.drop (HT.sIx ss.length 0 lo)).take (HT.sIx ss.length ss.length hi - HT.sIx ss.length 0 lo), (List.take_sublist _ _).trans (List.drop_sublist _ _), by
    unfold cutD
    rw [List.length_map, ← List.map_drop, ← List.map_take]⟩
theorem sub_strs {ys : List D} {ss : List Str} (h : ys.Sublist (ss.map D.str)) : ∃ ts : List Str, ts.Sublist ss ∧ ys = ts.map D.str := by
  obtain ⟨ts, h1, h2⟩ := List.sublist_map_iff.mp h
  exact ⟨ts, h1, h2⟩
def CHN : List Str := ["go", "ask", "once"]
def GScene (N : Str → List Str) (nm : Str) (d : D) : Prop := ∃ ps ts cs wv en, d = .tup [.str nm, ps, .tup cs, .tup (wv.map .str), en] ∧ GPieces N true 2 ps ∧ List.Sublist ts CHN ∧ All2 (fun e c => ∃ s, e = .str s ∧ GChoice N s c) (ts.map .str) cs ∧ List.Sublist (List.reverse wv) (N "scene") ∧ (en = .non ∨ en = .str "won" ∨ en = .str "lost")
section
variable {P : Program} {w : World} {K : PySem.W.Frag} {mg : Str → Option Value} {base : Heap}
def aScene : Acc := fun g n ds Q => ∃ fa pa N nm, Gen g fa pa N ∧ N "scene" ≠ [] ∧ n + 4000 ≤ CT ∧ ds = [.obj fa, .str nm, .obj pa] ∧ ∀ n' d, n' ≤ n + 4000 → GScene N nm d → Q n' d
theorem has_scene (T : Top K mg) : Has P w K mg base 14 "_law_scene" ["_law_feed_here", "_law_name", "_law_pool"] aScene := by
  have hN : (["_law_feed_here", "_law_name", "_law_pool", "_law_names", "_law_choices", "_law_one", "_law_woven", "_law_ending"] : List Str).Nodup := by decide +kernel
  refine has_of (N := ["_law_feed_here", "_law_name", "_law_pool", "_law_names", "_law_choices", "_law_one", "_law_woven", "_law_ending"]) T (i := 57) (d := d_law_scene) rfl ⟨rfl, rfl, rfl, hN, rfl, by decide +kernel, by decide +kernel⟩ (by decide +kernel) rfl rfl rfl (fun _ _ _ _ _ _ us hl => match us, hl with | [_, _, _], _ => rfl) (fun g n ds Q h => by obtain ⟨_, _, _, _, _, _, _, rfl, _⟩ := h; rfl) fun cd Ar outer s H E hr g n ds Q h => ?_
  obtain ⟨fa, pa, N, nm, G, ns, hn, rfl, q⟩ := h
  obtain ⟨la, F⟩ := G.pool
  have hsc : ("scene" : Str) ∈ SRTS := by decide
  have hl := G.len _ hsc
  have p2 : cP 2 = 646 := rfl
  have big : ∀ {k : Nat}, k ≤ 1000 → k ≤ sizeLine := fun {k} h => Nat.le_trans h (show 1000 ≤ sizeLine by decide)
  refine hss_cons (hs_set (i := 3) hN rfl (he_lst (hf_slL (he_lst (hf_lst (ha_cons (he_str (ha_cons (he_str (ha_cons (he_str (ha_nil ⟨le3, ho_some (he_call (has_draw T) (hr.mono (by omega)) (ha_cons (he_name (i := 0) rfl rfl (ha_cons (he_int (ha_nil (aDraw_of G (by omega) (by decide) (by decide) fun r r1 r2 => ⟨r, rfl, ho_none ⟨_, rfl, ?_⟩⟩)))))))⟩))))))))))))
  obtain ⟨ss, s1, s2⟩ := cut_sub CHN (some r) none
  rw [show cutD [D.str "go", .str "ask", .str "once"] (some r) none = ss.map D.str from s2]
  refine hss_cons (hs_set (i := 4) hN rfl (he_tuple T.f_tuple (he_lst (hf_LC (own := [("_law_one", 5)]) rfl hN ?blk (own1 rfl) (lc_gen 512 (fun e c => ∃ s, e = .str s ∧ GChoice N s c) (hi_list (he_lst (hf_slL (he_name (i := 3) rfl rfl (ho_none (ho_some (he_call (has_draw T) (hr.mono (by omega)) (ha_cons (he_name (i := 0) rfl rfl (ha_cons (he_int (ha_nil (aDraw_of G (by omega) (by decide) (by decide) fun r' r1' r2' => ⟨r', rfl, ss.map D.str, rfl, cutD (ss.map D.str) none (some r'), rfl, ?len, fun d hd m hm => ?elt, fun n2 ys y1 y2 => ⟨ys, rfl, ?rest⟩⟩))))))))))))))))))
  case blk => exact (show BlkOk (["_law_feed_here", "_law_name", "_law_pool", "_law_names", "_law_choices", "_law_one", "_law_woven", "_law_ending"] : List Str) d_law_scene.scope _ _ from ⟨rfl, by decide +kernel, by decide +kernel, by decide +kernel, by decide +kernel⟩)
  case len =>
    obtain ⟨ts, t1, t2⟩ := cut_sub ss none (some r')
    rw [t2, List.length_map]
    exact big (Nat.le_trans (t1.trans s1).length_le (by decide))
  case elt =>
    obtain ⟨ts, t1, t2⟩ := cut_sub ss none (some r')
    rw [t2] at hd hm
    rw [List.length_map] at hm
    obtain ⟨s, hs, rfl⟩ := List.mem_map.mp hd
    have h3 : ts.length ≤ 3 := (t1.trans s1).length_le
    have hm2 : m + 512 ≤ n + 2 + 3 * 512 := Nat.le_trans hm (Nat.add_le_add_left (Nat.mul_le_mul_right _ h3) _)
    exact ⟨_, fun s H C cl fp => hg_name hN rfl, fun s H C cl fp => he_call (has_choice T) (hr.mono (by omega)) (ha_cons (he_name (i := 0) rfl rfl (ha_cons (he_name (i := 5) rfl rfl (ha_cons (he_name (i := 2) rfl rfl (ha_nil ⟨fa, pa, N, _, G, ns, by omega, rfl, fun n1 d1 b1 g1 => ⟨b1, _, rfl, g1⟩⟩)))))))⟩
  obtain ⟨ts, t1, t2⟩ := cut_sub ss none (some r')
  rw [t2] at y1 y2
  rw [List.length_map] at y1
  have h3 : ts.length ≤ 3 := (t1.trans s1).length_le
  have y4 : n2 ≤ n + 2 + 3 * 512 := Nat.le_trans y1 (Nat.add_le_add_left (Nat.mul_le_mul_right _ h3) _)
  refine hss_cons (hs_setLcD (i := 6) (own := [("_law_one", 5)]) hN rfl ?blk2 (own1 rfl) (lc_fil 1 (fun _ => true) id (hi_list (he_pool F (Room.u1 hr) (r := 2) rfl rfl hsc ⟨_, rfl, ?len2, fun d hd m hm => ?elt2, fun n3 zs z1 z2 => ?rest2⟩))))
  case blk2 => exact (show BlkOk (["_law_feed_here", "_law_name", "_law_pool", "_law_names", "_law_choices", "_law_one", "_law_woven", "_law_ending"] : List Str) d_law_scene.scope _ _ from ⟨rfl, by decide +kernel, by decide +kernel, by decide +kernel, by decide +kernel⟩)
  case len2 =>
    rw [List.length_map]
    exact big hl
  case elt2 =>
    rw [List.length_map] at hm
    exact ⟨_, fun s H C cl fp => hg_name hN rfl, fun s H C cl fp => ht_cmp op_eq (he_call (has_draw T) (hr.mono (by omega)) (ha_cons (he_name (i := 0) rfl rfl (ha_cons (he_int (ha_nil (aDraw_of G (by omega) (by decide) (by decide) fun r5 _ _ => he_int (rd_eqI ⟨_, rfl, Nat.le_refl _, fun _ => rfl⟩)))))))), fun m' s H C cl fp _ _ => he_name (i := 5) rfl rfl ⟨rfl, rfl⟩⟩
  rw [List.length_map] at z1
  rw [List.filter_eq_self.mpr (fun _ _ => rfl), List.map_id] at z2
  obtain ⟨wv, w1, rfl⟩ := sub_strs z2
  have hwl : wv.length ≤ 1000 := Nat.le_trans w1.length_le hl
  refine hss_cons (HS.imp (nx' := fun n' ρ' => n' ≤ n3 + 2 ∧ ∃ en : D, (en = .non ∨ en = .str "won" ∨ en = .str "lost") ∧ ρ' = [.dat (.obj fa), .dat (.str nm), .dat (.obj pa), .dat (.lst (ss.map D.str)), .dat (.tup ys), .no, .dat (.lst (wv.map D.str)), .dat en]) (fun n' ρ' hI => ?tl) (hs_set (i := 7) hN rfl (he_if (ht_cmp op_eq (he_call (has_draw T) (hr.mono (by omega)) (ha_cons (he_name (i := 0) rfl rfl (ha_cons (he_int (ha_nil (aDraw_of G (by omega) (by decide) (by decide) fun r6 _ _ => he_int (rd_eqI ⟨_, rfl, fun _ => ?e1, fun _ => he_non ⟨by omega, _, .inl rfl, rfl⟩⟩))))))))))))
  case e1 =>
    refine he_ixL (he_lst (hf_lst (ha_cons (he_str (ha_cons (he_str (ha_nil ⟨le2, he_call (has_draw T) (hr.mono (by omega)) (ha_cons (he_name (i := 0) rfl rfl (ha_cons (he_int (ha_nil (aDraw_of G (by omega) (by decide) (by decide) fun r7 u1 u2 => ?_))))))⟩)))))))
    obtain ⟨d, hd, e3⟩ := menu_at (ds := [D.str "won", .str "lost"]) (m := 2) rfl u1 u2
    refine ⟨_, _, d, rfl, rfl, e3, by omega, d, .inr ?_, rfl⟩
    simpa using hd
  obtain ⟨h4, en, h5, rfl⟩ := hI
  refine hss_cons (hs_ret (he_tup (ha_cons (he_name (i := 1) rfl rfl (ha_cons (he_call (has_pieces T 2) (hr.mono (by omega)) (ha_cons (he_name (i := 0) rfl rfl (ha_cons (he_int (ha_cons (he_name (i := 2) rfl rfl (ha_cons (he_bl (ha_nil ⟨fa, pa, N, true, G, by omega, rfl, fun n5 d5 b5 g5 => ha_cons (he_name (i := 4) rfl rfl (ha_cons (he_tuple T.f_tuple (he_lst (hf_rev (he_name (i := 6) rfl rfl ⟨_, rfl, _, rfl, ha_cons (he_name (i := 7) rfl rfl (ha_nil ⟨le5, q _ _ (by omega) ⟨_, ts, ys, wv.reverse, en, by rw [List.map_reverse], g5, t1.trans s1, y2, by rw [List.reverse_reverse]; exact w1, h5⟩⟩))⟩))))))⟩)))))))))))))))
end
end Fk
set_option Elab.async false
set_option linter.all false
set_option maxRecDepth 100000
set_option maxHeartbeats 4000000
/-! G6: a pool is made: what is carried grows. -/
namespace Fk
open PySem PySem.Spec PyProof.Rows L2
/-- the pool at pa besides -/
def gPool (g : Gx) (pa la : Addr) (as : List Addr) (kvs : List (Key × V)) (N : Str → List Str) (hR : ∀ a ∈ la :: g.G, a ∉ as ++ g.R) : Gx where
  G := la :: g.G
  F := pa :: la :: (as ++ g.F)
  R := as ++ g.R
  J n H := g.J n H ∧ H pa = some (.dK kvs) ∧ (∃ l : Int, H la = some (.lst [.int l])) ∧ (∀ s ∈ SRTS, ∃ a, valV kvs (Sum.inr s) = some (.ref a) ∧ a ∈ as ∧ H a = some (.lst ((N s).map V.str))) ∧ ∀ a ∈ as, ∃ xs, H a = some (.lst xs)
  sub a h := by
    rcases List.mem_cons.mp h with rfl | h
    · exact List.mem_cons_of_mem _ List.mem_cons_self
    · exact List.mem_cons_of_mem _ (List.mem_cons_of_mem _ (List.mem_append_right _ (g.sub a h)))
  subR a h := by
    refine List.mem_cons_of_mem _ (List.mem_cons_of_mem _ ?_)
    rcases List.mem_append.mp h with h | h
    · exact List.mem_append_left _ h
    · exact List.mem_append_right _ (g.subR a h)
  nR := hR
  trk n H j a h := by
    obtain ⟨j1, j2, ⟨l, j3⟩, j4, j5⟩ := j
    rcases List.mem_cons.mp h with rfl | h
    · exact ⟨_, j2⟩
    · rcases List.mem_cons.mp h with rfl | h
      · exact ⟨_, j3⟩
      · rcases List.mem_append.mp h with h | h
        · obtain ⟨xs, e⟩ := j5 a h
          exact ⟨_, e⟩
        · exact g.trk n H j1 a h
  lstR n H j a h := by
    rcases List.mem_append.mp h with h | h
    · exact j.2.2.2.2 a h
    · exact g.lstR n H j.1 a h
  stab n H H' j h := by
    have m1 : ∀ {a}, a ∈ as → a ∈ pa :: la :: (as ++ g.F) := fun z => List.mem_cons_of_mem _ (List.mem_cons_of_mem _ (List.mem_append_left _ z))
    refine ⟨g.stab n H H' j.1 fun a ha => h a (List.mem_cons_of_mem _ (List.mem_cons_of_mem _ (List.mem_append_right _ ha))), ?_, ?_, fun s hs => ?_, fun a ha => ?_⟩
    · rw [h pa List.mem_cons_self]
      exact j.2.1
    · rw [h la (List.mem_cons_of_mem _ List.mem_cons_self)]
      exact j.2.2.1
    · obtain ⟨a, h1, h2, h3⟩ := j.2.2.2.1 s hs
      exact ⟨a, h1, h2, by rw [h a (m1 h2)]; exact h3⟩
    · rw [h a (m1 ha)]
      exact j.2.2.2.2 a ha
/-- g' carries more than g, made since H0 -/
structure Grown (K : PySem.W.Frag) (g g' : Gx) (H0 : Hp) (W0 : List Addr) : Prop where
  si : ∀ (n : Nat) (ρ : List SV) (τ : List (V × D)) (σ : L2.St) (H : Hp), SI K g' H0 W0 n ρ τ σ H → SI K g H0 W0 n ρ τ σ H
  ext : ∀ H', Ext g'.G H0 H' → Ext g.G H0 H'
  j : ∀ n H, g'.J n H → g.J n H
theorem SI.pool {K : PySem.W.Frag} {g : Gx} {H0 Hb H : Hp} {W0 W : List Addr} {n i : Nat} {ρ : List SV} {τ : List (V × D)} {σ : L2.St} {pa la fa ca : Addr} {as : List Addr} {kvs : List (Key × V)} {N : Str → List Str} {cs : List Int}
    (S : SI K g H0 W0 n ρ τ σ Hb) (h1 : ∀ a ∈ W0, a ∈ W) (h2 : ∀ a ∈ W, a ∈ W0 ∨ H0 a = none) (k : Ok K g W n ρ σ Hb) (h3 : ∀ p ∈ τ, DD K W Hb p.1 p.2) (e : Same Hb H) (np : Hb pa = none) (nl : Hb la = none) (hpl : pa ≠ la)
    (hp : H pa = some (.dK kvs)) (hl : ∃ l : Int, H la = some (.lst [.int l])) (hv : valV kvs (Sum.inr "left") = some (.ref la)) (hn : ∀ s ∈ SRTS, ∃ a, valV kvs (Sum.inr s) = some (.ref a) ∧ a ∈ as ∧ H a = some (.lst ((N s).map V.str)))
    (ha : ∀ a ∈ as, (∃ xs, H a = some (.lst xs)) ∧ a ∉ W ∧ a ≠ pa ∧ a ≠ la) (F : Feed g fa ca cs) (hc : cs.length ≤ 1000) (len : ∀ s ∈ SRTS, (N s).length ≤ 1000) (ok : ∀ s ∈ SRTS, (N s).all PyData.strOk = true) :
    ∃ g', Gen g' fa pa N ∧ Grown K g g' H0 W0 ∧ SI K g' H0 W0 n (ρ.set i (.dat (.obj pa))) τ (σ.set i (some (.ref pa))) H := by
  have nF : ∀ {a}, Hb a = none → a ∉ g.F := fun {a} z hf => by
    obtain ⟨o, q⟩ := g.trk n Hb k.j a hf
    rw [z] at q
    cases q
  have nW : ∀ {a}, Hb a = none → a ∉ W := fun {a} z hf => by
    obtain ⟨o, q⟩ := k.trk a hf
    rw [z] at q
    cases q
  have asF : ∀ a ∈ as, a ∈ g.F → a ∈ g.R := fun a h hf => (k.gw.f a hf).resolve_left (ha a h).2.1
  have asG : ∀ a ∈ g.G, a ∉ as := fun a h z => (ha a z).2.1 (k.gw.G a h)
  have hR : ∀ a ∈ la :: g.G, a ∉ as ++ g.R := fun a h z => by
    rcases List.mem_cons.mp h with rfl | h
    · rcases List.mem_append.mp z with z | z
      · exact (ha _ z).2.2.2 rfl
      · exact nF nl (g.subR _ z)
    · rcases List.mem_append.mp z with z | z
      · exact asG a h z
      · exact g.nR a h z
  have j' : (gPool g pa la as kvs N hR).J n H := ⟨g.same k.j e, hp, hl, hn, fun a h => (ha a h).1⟩
  have gw' : GW (gPool g pa la as kvs N hR) (pa :: la :: W) := ⟨fun a h => by
    rcases List.mem_cons.mp h with rfl | h
    · exact .inl List.mem_cons_self
    · rcases List.mem_cons.mp h with rfl | h
      · exact .inl (List.mem_cons_of_mem _ List.mem_cons_self)
      · rcases List.mem_append.mp h with h | h
        · exact .inr (List.mem_append_left _ h)
        · rcases k.gw.f a h with h | h
          · exact .inl (List.mem_cons_of_mem _ (List.mem_cons_of_mem _ h))
          · exact .inr (List.mem_append_right _ h), fun a h z => by
    rcases List.mem_append.mp (show a ∈ as ++ g.R from h) with hh | hh
    · obtain ⟨_, q1, q2, q3⟩ := ha a hh
      rcases List.mem_cons.mp z with z | z
      · exact q2 z
      · rcases List.mem_cons.mp z with z | z
        · exact q3 z
        · exact q1 z
    · rcases List.mem_cons.mp z with rfl | z
      · exact nF np (g.subR _ hh)
      · rcases List.mem_cons.mp z with rfl | z
        · exact nF nl (g.subR _ hh)
        · exact k.gw.r a hh z⟩
  have up : ∀ {v : V} {d : D}, DD K W Hb v d → DD K (pa :: la :: W) H v d := fun dd => ((dd.fresh nl).fresh np).same e
  have ups : ∀ {v : List V} {d : List D}, DDs K W Hb v d → DDs K (pa :: la :: W) H v d := fun dd => ((dd.fresh nl).fresh np).same e
  have k' : Ok K (gPool g pa la as kvs N hR) (pa :: la :: W) n ρ σ H := ⟨j', gw', fun a h => by
    rcases List.mem_cons.mp h with rfl | h
    · exact ⟨_, hp⟩
    · rcases List.mem_cons.mp h with rfl | h
      · obtain ⟨l, q⟩ := hl
        exact ⟨_, q⟩
      · obtain ⟨o, q⟩ := k.trk a h
        exact ⟨o, e a o q⟩, k.len, fun l d h => by
    obtain ⟨v, q1, q2⟩ := k.dats l d h
    exact ⟨v, q1, up q2⟩, fun l ds h => by
    obtain ⟨a, xs, q1, q2, q3, q4, q5⟩ := k.owns l ds h
    refine ⟨a, xs, q1, List.mem_cons_of_mem _ (List.mem_cons_of_mem _ q2), fun z => ?_, e a _ q4, ups q5⟩
    rcases List.mem_cons.mp z with rfl | z
    · rw [np] at q4
      cases q4
    · rcases List.mem_cons.mp z with rfl | z
      · rw [nl] at q4
        cases q4
      · rcases List.mem_append.mp z with z | z
        · exact (ha a z).2.1 q2
        · exact q3 z⟩
  have w1 : ∀ a ∈ W0, a ∈ pa :: la :: W := fun a h => List.mem_cons_of_mem _ (List.mem_cons_of_mem _ (h1 a h))
  have w2 : ∀ a ∈ pa :: la :: W, a ∈ W0 ∨ H0 a = none := fun a h => by
    rcases List.mem_cons.mp h with rfl | h
    · exact .inr (S.old _ np)
    · rcases List.mem_cons.mp h with rfl | h
      · exact .inr (S.old _ nl)
      · exact h2 a h
  have S' : SI K (gPool g pa la as kvs N hR) H0 W0 n ρ τ σ H := ⟨(S.ext.mono fun a h => List.mem_cons_of_mem _ h).trans (.of_same e), fun a h => S.old a (by
    cases z : Hb a with
    | none => rfl
    | some o =>
      rw [e a o z] at h
      cases h), S.tr0, ⟨_, w1, w2, k', fun p hp => up (h3 p hp)⟩, S.own0, S.sep⟩
  refine ⟨gPool g pa la as kvs N hR, ⟨⟨ca, cs, ⟨List.mem_cons_of_mem _ F.ga, List.mem_append_right _ F.cr, fun n H j => F.get n H j.1, fun n H j n' i gr => ?_⟩, hc⟩, ⟨la, List.mem_cons_self, fun n H j => ⟨kvs, j.2.1, hv, j.2.2.1, fun s hs => ?_⟩, fun n H j l => ?_⟩, len, ok⟩, ⟨fun n ρ τ σ H S2 => ?_, fun H' q a o na ho => ?_, fun n H q => q.1⟩, S'.set w1 w2 k' (fun p hp => up (h3 p hp)) (.obj pa)⟩
  · have f1 : fa ≠ pa := fun z => nF np (z ▸ g.sub fa F.ga)
    have f2 : fa ≠ la := fun z => nF nl (z ▸ g.sub fa F.ga)
    have f3 : ∀ a ∈ as, fa ≠ a := fun a h z => asG fa F.ga (z ▸ h)
    refine ⟨F.put n H j.1 n' i gr, ?_, ?_, fun s hs => ?_, fun a h => ?_⟩
    · rw [upd_ne f1.symm]
      exact j.2.1
    · rw [upd_ne f2.symm]
      exact j.2.2.1
    · obtain ⟨a, q1, q2, q3⟩ := j.2.2.2.1 s hs
      exact ⟨a, q1, q2, by rw [upd_ne (f3 a q2).symm]; exact q3⟩
    · rw [upd_ne (f3 a h).symm]
      exact j.2.2.2.2 a h
  · obtain ⟨a, q1, q2, q3⟩ := j.2.2.2.1 s hs
    exact ⟨a, q1, List.mem_append_left _ q2, q3⟩
  · refine ⟨g.stab n H _ j.1 fun a h => upd_ne fun z => nF nl (z ▸ h), ?_, ⟨l, upd_same⟩, fun s hs => ?_, fun a h => ?_⟩
    · rw [upd_ne hpl]
      exact j.2.1
    · obtain ⟨a, q1, q2, q3⟩ := j.2.2.2.1 s hs
      exact ⟨a, q1, q2, by rw [upd_ne (ha a q2).2.2.2]; exact q3⟩
    · rw [upd_ne (ha a h).2.2.2]
      exact j.2.2.2.2 a h
  · have eb : Ext g.G H0 H := fun a o na ho => S2.ext a o (fun z => by
      rcases List.mem_cons.mp z with rfl | z
      · rw [S.old _ nl] at ho
        cases ho
      · exact na z) ho
    obtain ⟨V, v1, v2, kk, v3⟩ := S2.ex
    refine ⟨eb, S2.old, S2.tr0, ⟨V, v1, v2, ⟨kk.j.1, ⟨fun a h => ?_, fun a h => kk.gw.r a (List.mem_append_right _ h)⟩, kk.trk, kk.len, kk.dats, fun l ds q => ?_⟩, v3⟩, S2.own0, S2.sep⟩
    · rcases kk.gw.f a (List.mem_cons_of_mem _ (List.mem_cons_of_mem _ (List.mem_append_right _ h))) with z | z
      · exact .inl z
      · rcases List.mem_append.mp z with z | z
        · exact .inr (asF a z h)
        · exact .inr z
    · obtain ⟨a, xs, q1, q2, q3, q4, q5⟩ := kk.owns l ds q
      exact ⟨a, xs, q1, q2, fun z => q3 (List.mem_cons_of_mem _ (List.mem_cons_of_mem _ (List.mem_append_right _ z))), q4, q5⟩
  · refine q a o (fun z => ?_) ho
    rcases List.mem_cons.mp z with rfl | z
    · rw [S.old _ nl] at ho
      cases ho
    · exact na z
/-- the names of a pool -/
def nmF (sc nu pl fi : List Str) (s : Str) : List Str := if s = "scene" then sc else if s = "number" then nu else if s = "place" then pl else if s = "figure" then fi else []
/-- pool = {'scene': .., 'number': .., 'place': .., 'figure': .., 'left': [c]} -/
theorem hss_pool {X : Cx} {g : Gx} {n : Nat} {ρ : List SV} {nx : Nat → List SV → Prop} {rt : Nat → SV → Prop} {sts : List Stmt} {i i1 i2 i3 i4 : Nat} {y x1 x2 x3 x4 : Str} {py pos spos p1 p2 p3 p4 p5 p6 q1 q2 q3 q4 q5 : Pos} {j1 j2 j3 j4 j5 j6 : Nat} {c : Int} {sc nu pl fi : List Str} {fa ca : Addr} {cs : List Int}
    (hN : X.N.Nodup) (hy : X.N[i]? = some y) (F : Feed g fa ca cs) (hc : cs.length ≤ 1000) (r1 : ρ[i1]? = some (.dat (.lst (sc.map .str)))) (r2 : ρ[i2]? = some (.dat (.lst (nu.map .str)))) (r3 : ρ[i3]? = some (.dat (.lst (pl.map .str)))) (r4 : ρ[i4]? = some (.dat (.lst (fi.map .str))))
    (n1 : X.N[i1]? = some x1) (n2 : X.N[i2]? = some x2) (n3 : X.N[i3]? = some x3) (n4 : X.N[i4]? = some x4) (len : ∀ s ∈ SRTS, (nmF sc nu pl fi s).length ≤ 1000) (ok : ∀ s ∈ SRTS, (nmF sc nu pl fi s).all PyData.strOk = true)
    (h : ∀ g' pa, Gen g' fa pa (nmF sc nu pl fi) → HSs X g' n (ρ.set i (.dat (.obj pa))) sts nx rt)
    (v1 : Vis X.env.scope x1 := by first | exact Or.inl rfl | exact Or.inr (Or.inl rfl) | exact Or.inr (Or.inr rfl)) (v2 : Vis X.env.scope x2 := by first | exact Or.inl rfl | exact Or.inr (Or.inl rfl) | exact Or.inr (Or.inr rfl)) (v3 : Vis X.env.scope x3 := by first | exact Or.inl rfl | exact Or.inr (Or.inl rfl) | exact Or.inr (Or.inr rfl)) (v4 : Vis X.env.scope x4 := by first | exact Or.inl rfl | exact Or.inr (Or.inl rfl) | exact Or.inr (Or.inr rfl))
    (b1 : (x1 == ("__debug__" : Str)) = false := by decide) (b2 : (x2 == ("__debug__" : Str)) = false := by decide) (b3 : (x3 == ("__debug__" : Str)) = false := by decide) (b4 : (x4 == ("__debug__" : Str)) = false := by decide)
    (c1 : (x1 == ("__classdict__" : Str)) = false := by decide) (c2 : (x2 == ("__classdict__" : Str)) = false := by decide) (c3 : (x3 == ("__classdict__" : Str)) = false := by decide) (c4 : (x4 == ("__classdict__" : Str)) = false := by decide)
    (hx : Loc X.env.scope y := by first | exact Or.inl rfl | exact Or.inr rfl) (hf : X.fn y = true ∨ X.env.scope.names.lookup y = some .local := by first | exact .inl rfl | exact .inr rfl)
    (hs : swapsWith (.Dict [some (.Constant (.str "scene") j1 p1), some (.Constant (.str "number") j2 p2), some (.Constant (.str "place") j3 p3), some (.Constant (.str "figure") j4 p4), some (.Constant (.str "left") j5 p5)] [.Name x1 q1, .Name x2 q2, .Name x3 q3, .Name x4 q4, .List [.Constant (.int c) j6 p6] q5] pos) (some (.Name y py)) spos.line X.env = pure false := by rfl) :
    HSs X g n ρ (.Assign [.Name y py] (.Dict [some (.Constant (.str "scene") j1 p1), some (.Constant (.str "number") j2 p2), some (.Constant (.str "place") j3 p3), some (.Constant (.str "figure") j4 p4), some (.Constant (.str "left") j5 p5)] [.Name x1 q1, .Name x2 q2, .Name x3 q3, .Name x4 q4, .List [.Constant (.int c) j6 p6] q5] pos) spos :: sts) nx rt := fun H0 W0 τ σ H S Dd d1 d2 => by
  obtain ⟨W, w1, w2, k, w3⟩ := S.ex
  obtain ⟨u1, s1, t1⟩ := k.dats i1 _ r1
  obtain ⟨u2, s2, t2⟩ := k.dats i2 _ r2
  obtain ⟨u3, s3, t3⟩ := k.dats i3 _ r3
  obtain ⟨u4, s4, t4⟩ := k.dats i4 _ r4
  obtain ⟨a1, xs1, rfl, m1, o1, z1⟩ := t1.lst_inv
  obtain ⟨a2, xs2, rfl, m2, o2, z2⟩ := t2.lst_inv
  obtain ⟨a3, xs3, rfl, m3, o3, z3⟩ := t3.lst_inv
  obtain ⟨a4, xs4, rfl, m4, o4, z4⟩ := t4.lst_inv
  have e1 := z1.strs
  have e2 := z2.strs
  have e3 := z3.strs
  have e4 := z4.strs
  subst e1 e2 e3 e4
  refine (pss_cons psW pssW).wpr ((ps_set hN hy hx peW hs hf).wpr ((pe_disp (ppsW rfl rfl) rfl rfl (fun z => by cases z) (by exact Nat.le_of_ble_eq_true rfl)).wpr fun pa hpa => ?_))
  show WE X _ σ _ _
  refine pe_str.wpr ?_
  show WE X _ σ _ _
  refine (pe_var n1 v1 b1 c1).wpr ⟨_, s1, ?_⟩
  show WE X _ σ _ _
  refine pe_str.wpr ?_
  show WE X _ σ _ _
  refine (pe_var n2 v2 b2 c2).wpr ⟨_, s2, ?_⟩
  show WE X _ σ _ _
  refine pe_str.wpr ?_
  show WE X _ σ _ _
  refine (pe_var n3 v3 b3 c3).wpr ⟨_, s3, ?_⟩
  show WE X _ σ _ _
  refine pe_str.wpr ?_
  show WE X _ σ _ _
  refine (pe_var n4 v4 b4 c4).wpr ⟨_, s4, ?_⟩
  show WE X _ σ _ _
  refine pe_str.wpr ?_
  show WE X _ σ _ _
  refine (pe_lst (pa_cons pe_int pa_nil)).wpr ⟨show 1 ≤ sizeLine by decide, fun la hla => ?_⟩
  have hpl : pa ≠ la := fun z => by
    subst z
    rw [upd_same] at hla
    cases hla
  have hla0 : H la = none := by rwa [upd_ne hpl.symm] at hla
  refine ⟨?_, [(.inr "scene", .ref a1), (.inr "number", .ref a2), (.inr "place", .ref a3), (.inr "figure", .ref a4), (.inr "left", .ref la)], rfl, show 5 ≤ 15 by decide, ?_⟩
  · rw [upd_ne hpl, upd_same]
  have em : mergeK [] ([(Sum.inr "scene", V.ref a1), (.inr "number", .ref a2), (.inr "place", .ref a3), (.inr "figure", .ref a4), (.inr "left", .ref la)] : List (Key × V)) = ([(Sum.inr "scene", V.ref a1), (.inr "number", .ref a2), (.inr "place", .ref a3), (.inr "figure", .ref a4), (.inr "left", .ref la)] : List (Key × V)) := by
    have z := mergeK_new (kvs := []) (more := ([(Sum.inr "scene", V.ref a1), (.inr "number", .ref a2), (.inr "place", .ref a3), (.inr "figure", .ref a4), (.inr "left", .ref la)] : List (Key × V))) (show (([] : List Key) ++ (["scene", "number", "place", "figure", "left"] : List Str).map Sum.inr).Nodup from nodup_inr (by decide))
    simpa using z
  rw [em]
  have ne : ∀ {a : Addr} {o}, H a = some o → a ≠ pa ∧ a ≠ la := fun {a o} q => ⟨fun z => (by rw [z, hpa] at q; cases q), fun z => (by rw [z, hla0] at q; cases q)⟩
  have keep : ∀ {a : Addr} {o}, H a = some o → (upd (upd (upd H pa (.dK [])) la (.lst [.int c])) pa (.dK [(.inr "scene", .ref a1), (.inr "number", .ref a2), (.inr "place", .ref a3), (.inr "figure", .ref a4), (.inr "left", .ref la)])) a = some o := fun {a o} q => by
    rw [upd_ne (ne q).1, upd_ne (ne q).2, upd_ne (ne q).1]
    exact q
  have vs : ∀ (s : Str) (ks : List (Str × Addr)), valV (ks.map fun p => ((Sum.inr p.1 : Key), V.ref p.2)) (Sum.inr s) = (ks.find? fun p => decide (p.1 = s)).map fun p => V.ref p.2 := fun s ks => by
    induction ks with
    | nil => rfl
    | cons p ks ih =>
      rw [List.map_cons, List.find?_cons]
      by_cases hk : p.1 = s
      · rw [valV_pos (p := ((Sum.inr p.1 : Key), V.ref p.2)) (by rw [hk])]
        simp [hk]
      · rw [valV_neg (p := ((Sum.inr p.1 : Key), V.ref p.2)) (fun z => hk (Sum.inr.inj z)), ih]
        simp [hk]
  have vk : ∀ s : Str, valV ([(Sum.inr "scene", V.ref a1), (.inr "number", .ref a2), (.inr "place", .ref a3), (.inr "figure", .ref a4), (.inr "left", .ref la)] : List (Key × V)) (Sum.inr s) = (([("scene", a1), ("number", a2), ("place", a3), ("figure", a4), ("left", la)] : List (Str × Addr)).find? fun p => decide (p.1 = s)).map fun p => V.ref p.2 := fun s => vs s [("scene", a1), ("number", a2), ("place", a3), ("figure", a4), ("left", la)]
  have hn : ∀ s ∈ SRTS, ∃ a, valV ([(Sum.inr "scene", V.ref a1), (.inr "number", .ref a2), (.inr "place", .ref a3), (.inr "figure", .ref a4), (.inr "left", .ref la)] : List (Key × V)) (Sum.inr s) = some (.ref a) ∧ a ∈ [a1, a2, a3, a4] ∧ (upd (upd (upd H pa (.dK [])) la (.lst [.int c])) pa (.dK [(.inr "scene", .ref a1), (.inr "number", .ref a2), (.inr "place", .ref a3), (.inr "figure", .ref a4), (.inr "left", .ref la)])) a = some (.lst ((nmF sc nu pl fi s).map V.str)) := fun s hs => by
    simp only [SRTS, List.mem_cons, List.not_mem_nil, or_false] at hs
    rcases hs with rfl | rfl | rfl | rfl
    · exact ⟨a1, by rw [vk]; rfl, by simp, keep o1⟩
    · exact ⟨a2, by rw [vk]; rfl, by simp, keep o2⟩
    · exact ⟨a3, by rw [vk]; rfl, by simp, keep o3⟩
    · exact ⟨a4, by rw [vk]; rfl, by simp, keep o4⟩
  have ha : ∀ a ∈ [a1, a2, a3, a4], (∃ xs, (upd (upd (upd H pa (.dK [])) la (.lst [.int c])) pa (.dK [(.inr "scene", .ref a1), (.inr "number", .ref a2), (.inr "place", .ref a3), (.inr "figure", .ref a4), (.inr "left", .ref la)])) a = some (.lst xs)) ∧ a ∉ W ∧ a ≠ pa ∧ a ≠ la := fun a ha => by
    simp only [List.mem_cons, List.not_mem_nil, or_false] at ha
    rcases ha with rfl | rfl | rfl | rfl
    · exact ⟨⟨_, keep o1⟩, m1, ne o1⟩
    · exact ⟨⟨_, keep o2⟩, m2, ne o2⟩
    · exact ⟨⟨_, keep o3⟩, m3, ne o3⟩
    · exact ⟨⟨_, keep o4⟩, m4, ne o4⟩
  obtain ⟨g', G, gr, S'⟩ := S.pool (i := i) w1 w2 k w3 (fun a o q => keep q) hpa hla0 hpl upd_same ⟨c, by rw [upd_ne hpl.symm, upd_same]⟩ (by rw [vk]; rfl) hn ha F hc len ok
  exact h g' pa G H0 W0 τ _ _ S' Dd (fun n' ρ' σ' H' hn S2 => d1 n' ρ' σ' H' hn (gr.si _ _ _ _ _ S2)) fun n' r v H' hr e j ro => d2 n' r v H' hr (gr.ext _ e) (gr.j _ _ j) ro
end Fk
set_option Elab.async false
set_option linter.all false
set_option maxRecDepth 100000
set_option maxHeartbeats 4000000
/-! G7: _law_tale. -/
namespace Fk
open PySem PySem.Spec PyProof.Rows L2
def SCN : List Str := ["barn", "cave", "dusk", "end", "hall", "zzzzzzzz"]
def NUN : List Str := ["gold", "hp", "k"]
def PLN : List Str := ["cave", "inn", "yard"]
def FIN : List Str := ["ann", "bob", "cat"]
/-- the pairs that begin with a -/
def prs (pl : List Str) (a : Str) : List D := ((pl.map D.str).filter fun d => ltD (.str a) d).map fun d => .tup [.str a, d]
def GTale (d : D) : Prop := ∃ (sc nu pl fi : List Str) (rows doors folk digits scenes : List D) (b : Str), d = .tup [.tup rows, .tup (pl.map .str), .tup doors, .tup folk, .tup digits, .tup scenes, .str b] ∧
  List.Sublist sc SCN ∧ List.Sublist nu NUN ∧ List.Sublist pl PLN ∧ List.Sublist fi FIN ∧ sc.length ≤ 4 ∧ b ∈ sc ∧
  All2 (fun d y => ∃ (k : Nat) (s : Str) (v : Int), d = .tup [.int k, .str s] ∧ k ≤ 2 ∧ y = .tup [.str s, .int 0, .int (9 - (k : Int)), .int v] ∧ 0 ≤ v ∧ v < 5) (enumD 0 (nu.map .str)) rows ∧
  doors.Sublist (pl.flatMap (prs pl)) ∧ All2 (fun d y => ∃ s p, d = .str s ∧ y = .tup [.str s, .str p] ∧ p ∈ pl) (fi.map .str) folk ∧
  (digits.length ≤ 3 ∧ ∀ y ∈ digits, ∃ v : Int, y = .int v ∧ 0 ≤ v ∧ v < 10) ∧ All2 (fun d y => ∃ s, d = .str s ∧ GScene (nmF sc nu pl fi) s y) (sc.map .str) scenes
theorem sub_len {ss ts : List Str} {k : Nat} (h : List.Sublist ss ts) (hk : ts.length ≤ k) : ss.length ≤ k := Nat.le_trans h.length_le hk
theorem sub_all {p : Str → Bool} {ss ts : List Str} (h : List.Sublist ss ts) (hp : ts.all p = true) : ss.all p = true := List.all_eq_true.mpr fun s hs => List.all_eq_true.mp hp s (h.mem hs)
theorem nmF_le {sc nu pl fi : List Str} {k : Nat} (h1 : sc.length ≤ k) (h2 : nu.length ≤ k) (h3 : pl.length ≤ k) (h4 : fi.length ≤ k) (s : Str) : (nmF sc nu pl fi s).length ≤ k := by
  unfold nmF
  split
  · exact h1
  · split
    · exact h2
    · split
      · exact h3
      · split
        · exact h4
        · exact Nat.zero_le _
theorem nmF_all {sc nu pl fi : List Str} {p : Str → Bool} (h1 : sc.all p = true) (h2 : nu.all p = true) (h3 : pl.all p = true) (h4 : fi.all p = true) (s : Str) : (nmF sc nu pl fi s).all p = true := by
  unfold nmF
  split
  · exact h1
  · split
    · exact h2
    · split
      · exact h3
      · split
        · exact h4
        · rfl
theorem cut_names {r : Int} (h0 : 0 ≤ r) (h4 : r < 4) : ∃ ts : List Str, List.Sublist ts SCN ∧ ts ≠ [] ∧ ts.length ≤ 4 ∧ cutD (SCN.map D.str) none (some (1 + r)) = ts.map D.str := by
  obtain ⟨k, rfl⟩ := Int.eq_ofNat_of_zero_le h0
  have hk : k = 0 ∨ k = 1 ∨ k = 2 ∨ k = 3 := by omega
  rcases hk with rfl | rfl | rfl | rfl
  · exact ⟨SCN.take 1, List.take_sublist _ _, by decide, by decide, rfl⟩
  · exact ⟨SCN.take 2, List.take_sublist _ _, by decide, by decide, rfl⟩
  · exact ⟨SCN.take 3, List.take_sublist _ _, by decide, by decide, rfl⟩
  · exact ⟨SCN.take 4, List.take_sublist _ _, by decide, by decide, rfl⟩
section
variable {P : Program} {w : World} {K : PySem.W.Frag} {mg : Str → Option Value} {base : Heap}
def aTale : Acc := fun g n ds Q => ∃ fa ca cs, Feed g fa ca cs ∧ cs.length ≤ 1000 ∧ n + 20000 ≤ CT ∧ ds = [.obj fa, .int 4] ∧ ∀ n' d, n' ≤ n + 20000 → GTale d → Q n' d
theorem draw_of {g : Gx} {fa ca : Addr} {cs : List Int} {n : Nat} {Q : Nat → D → Prop} {m : Int} (F : Feed g fa ca cs) (hl : cs.length ≤ 1000) (hn : n < CT) (h0 : 0 < m) (hm : m < 1073741824) (q : ∀ r : Int, 0 ≤ r → r < m → Q (n + 1) (.int r)) : aDraw g n [.obj fa, .int m] Q := ⟨fa, ca, cs, F, hl, hn, m, h0, hm, rfl, q⟩
theorem has_tale (T : Top K mg) : Has P w K mg base 15 "_law_tale" ["_law_feed_here", "_law_many"] aTale := by
  have hN : (["_law_feed_here", "_law_many", "_law_names", "_law_numbers", "_law_places", "_law_figures", "_law_pool", "_law_rows", "_law_k", "_law_name", "_law_doors", "_law_one", "_law_other", "_law_digits", "_law_folk", "_law_scenes"] : List Str).Nodup := by decide +kernel
  refine has_of (N := ["_law_feed_here", "_law_many", "_law_names", "_law_numbers", "_law_places", "_law_figures", "_law_pool", "_law_rows", "_law_k", "_law_name", "_law_doors", "_law_one", "_law_other", "_law_digits", "_law_folk", "_law_scenes"]) T (i := 58) (d := d_law_tale) rfl ⟨rfl, rfl, rfl, hN, rfl, by decide +kernel, by decide +kernel⟩ (by decide +kernel) rfl rfl rfl (fun _ _ _ _ _ _ us hl => match us, hl with | [_, _], _ => rfl) (fun g n ds Q h => by obtain ⟨_, _, _, _, _, _, rfl, _⟩ := h; rfl) fun cd Ar outer s H E hr g n ds Q h => ?_
  obtain ⟨fa, ca, cs, F, hc, hn, rfl, q⟩ := h
  have big : ∀ {k : Nat}, k ≤ 1000 → k ≤ sizeLine := fun {k} h => Nat.le_trans h (show 1000 ≤ sizeLine by decide)
  refine hss_cons (hs_set (i := 2) hN rfl (he_lst (hf_slL (he_lst (hf_lst (ha_cons (he_str (ha_cons (he_str (ha_cons (he_str (ha_cons (he_str (ha_cons (he_str (ha_cons (he_str (ha_nil ⟨le6, ho_none (ho_some (he_op op_add (he_int (he_call (has_draw T) (hr.mono (by omega)) (ha_cons (he_name (i := 0) rfl rfl (ha_cons (he_name (i := 1) rfl rfl (ha_nil (draw_of F hc (by omega) (by decide) (by decide) fun r r1 r2 => rd_int ⟨_, rfl, _, rfl, ?_⟩))))))))))⟩))))))))))))))))))
  obtain ⟨sc, sc1, sc2, sc3, sc4⟩ := cut_names r1 r2
  rw [show cutD [D.str "barn", .str "cave", .str "dusk", .str "end", .str "hall", .str "zzzzzzzz"] none (some (1 + r)) = sc.map D.str from sc4]
  refine hss_cons (hs_set (i := 3) hN rfl (he_lst (hf_slL (he_lst (hf_lst (ha_cons (he_str (ha_cons (he_str (ha_cons (he_str (ha_nil ⟨le3, ho_some (he_call (has_draw T) (hr.mono (by omega)) (ha_cons (he_name (i := 0) rfl rfl (ha_cons (he_int (ha_nil (draw_of F hc (by omega) (by decide) (by decide) fun a1 _ _ => ⟨a1, rfl, ho_some (he_op op_add (he_int (he_call (has_draw T) (hr.mono (by omega)) (ha_cons (he_name (i := 0) rfl rfl (ha_cons (he_int (ha_nil (draw_of F hc (by omega) (by decide) (by decide) fun a2 _ _ => rd_int ⟨_, rfl, _, rfl, ?_⟩)))))))))⟩)))))))⟩))))))))))))
  obtain ⟨nu, nu1, nu2⟩ := cut_sub NUN (some a1) (some (1 + a2))
  rw [show cutD [D.str "gold", .str "hp", .str "k"] (some a1) (some (1 + a2)) = nu.map D.str from nu2]
  refine hss_cons (hs_set (i := 4) hN rfl (he_lst (hf_slL (he_lst (hf_lst (ha_cons (he_str (ha_cons (he_str (ha_cons (he_str (ha_nil ⟨le3, ho_some (he_call (has_draw T) (hr.mono (by omega)) (ha_cons (he_name (i := 0) rfl rfl (ha_cons (he_int (ha_nil (draw_of F hc (by omega) (by decide) (by decide) fun b1 _ _ => ⟨b1, rfl, ho_some (he_op op_add (he_int (he_call (has_draw T) (hr.mono (by omega)) (ha_cons (he_name (i := 0) rfl rfl (ha_cons (he_int (ha_nil (draw_of F hc (by omega) (by decide) (by decide) fun b2 _ _ => rd_int ⟨_, rfl, _, rfl, ?_⟩)))))))))⟩)))))))⟩))))))))))))
  obtain ⟨pl, pl1, pl2⟩ := cut_sub PLN (some b1) (some (1 + b2))
  rw [show cutD [D.str "cave", .str "inn", .str "yard"] (some b1) (some (1 + b2)) = pl.map D.str from pl2]
  have l2 : nu.length ≤ 3 := sub_len nu1 (by decide)
  have l3 : pl.length ≤ 3 := sub_len pl1 (by decide)
  have okS : sc.all PyData.strOk = true := sub_all sc1 (by decide +kernel)
  have okN : nu.all PyData.strOk = true := sub_all nu1 (by decide +kernel)
  have okP : pl.all PyData.strOk = true := sub_all pl1 (by decide +kernel)
  refine hss_cons (HS.imp (nx' := fun n' ρ' => n' ≤ n + 6 ∧ ∃ fi : List Str, List.Sublist fi FIN ∧ (fi ≠ [] → pl ≠ []) ∧ ρ' = [.dat (.obj fa), .dat (.int 4), .dat (.lst (sc.map .str)), .dat (.lst (nu.map .str)), .dat (.lst (pl.map .str)), .dat (.lst (fi.map .str)), .no, .no, .no, .no, .no, .no, .no, .no, .no, .no]) (fun n' ρ' hI => ?tl) (hs_set (i := 5) hN rfl (he_if (ht_cmp (op_neD (Room.units hr)) (he_name (i := 4) rfl rfl (he_lst (hf_lst (ha_nil ⟨Nat.zero_le _, rd_neNil (fit_strs _ (Nat.le_trans l3 (by decide))) (shaped_strs _ okP) ⟨_, rfl, fun hb => ?f1, fun _ => ?f2⟩⟩))))))))
  case f1 =>
    refine he_lst (hf_slL (he_lst (hf_lst (ha_cons (he_str (ha_cons (he_str (ha_cons (he_str (ha_nil ⟨le3, ho_none (ho_some (he_call (has_draw T) (hr.mono (by omega)) (ha_cons (he_name (i := 0) rfl rfl (ha_cons (he_int (ha_nil (draw_of F hc (by omega) (by decide) (by decide) fun c1 _ _ => ⟨c1, rfl, _, rfl, ?_⟩))))))))⟩))))))))))
    obtain ⟨fi, fi1, fi2⟩ := cut_sub FIN none (some c1)
    refine ⟨by omega, fi, fi1, fun _ z => ?_, ?_⟩
    · rw [z] at hb
      cases hb
    · rw [show cutD [D.str "ann", .str "bob", .str "cat"] none (some c1) = fi.map D.str from fi2]
      rfl
  case f2 => exact he_lst (hf_lst (ha_nil ⟨Nat.zero_le _, by omega, [], List.nil_sublist _, fun z => absurd rfl z, rfl⟩))
  obtain ⟨hn1, fi, fi1, fi2, rfl⟩ := hI
  have l4 : fi.length ≤ 3 := sub_len fi1 (by decide)
  have okF : fi.all PyData.strOk = true := sub_all fi1 (by decide +kernel)
  refine hss_pool (i := 6) (i1 := 2) (i2 := 3) (i3 := 4) (i4 := 5) hN rfl F hc rfl rfl rfl rfl rfl rfl rfl rfl (fun s _ => nmF_le (by omega) (by omega) (by omega) (by omega) s) (fun s _ => nmF_all okS okN okP okF s) fun g' pa G => ?_
  clear F
  obtain ⟨ca', cs', F, hc'⟩ := G.feed
  refine hss_cons (hs_setLcD (i := 7) (own := [("_law_k", 8), ("_law_name", 9)]) hN rfl ?blk (own2 rfl rfl) (lc_gen 1 (fun d y => ∃ (k : Nat) (s : Str) (v : Int), d = .tup [.int k, .str s] ∧ k ≤ 2 ∧ y = .tup [.str s, .int 0, .int (9 - (k : Int)), .int v] ∧ 0 ≤ v ∧ v < 5) (hi_enum T.f_enumerate (he_name (i := 3) rfl rfl ⟨_, rfl, ?len, fun d hd m hm => ?elt, fun n2 rows y1 rows1 => ?rest⟩))))
  case blk => exact (show BlkOk (["_law_feed_here", "_law_many", "_law_names", "_law_numbers", "_law_places", "_law_figures", "_law_pool", "_law_rows", "_law_k", "_law_name", "_law_doors", "_law_one", "_law_other", "_law_digits", "_law_folk", "_law_scenes"] : List Str) d_law_tale.scope _ _ from ⟨rfl, by decide +kernel, by decide +kernel, by decide +kernel, by decide +kernel⟩)
  case len =>
    rw [enumD_len, List.length_map]
    exact big (by omega)
  case elt =>
    rw [enumD_len, List.length_map] at hm
    obtain ⟨i, hi, e⟩ := List.getElem_of_mem hd
    have hi2 : i < nu.length := by rwa [enumD_len, List.length_map] at hi
    have hg : (enumD 0 (nu.map D.str))[i]? = some d := by rw [List.getElem?_eq_getElem hi, e]
    obtain ⟨x, hx, rfl⟩ := enumD_get hg
    rw [List.getElem?_map] at hx
    obtain ⟨s, _, rfl⟩ := Option.map_eq_some_iff.mp hx
    refine ⟨_, fun s' H C cl fp => hg_two rfl hN rfl rfl (by decide), fun s' H C cl fp => he_tup (ha_cons (he_name (i := 9) rfl rfl (ha_cons (he_int (ha_cons (he_op op_sub (he_int (he_name (i := 8) rfl rfl (rd_int (ha_cons (he_call (has_draw T) (hr.mono (by omega)) (ha_cons (he_name (i := 0) rfl rfl (ha_cons (he_int (ha_nil (draw_of F hc' (by omega) (by decide) (by decide) fun v v1 v2 => ha_nil ⟨le4, Nat.le_refl _, 0 + i, s, v, rfl, by omega, rfl, v1, v2⟩)))))))))))))))))⟩
  rw [enumD_len, List.length_map] at y1
  refine hss_cons (hs_set (i := 10) hN rfl (he_lst (hf_lst (ha_nil ⟨Nat.zero_le _, ?_⟩))))
  refine hss_cons (hs_for rfl PassesOwn.never (hi_list (he_name (i := 4) rfl rfl ⟨_, rfl, fun i m ρ' => m ≤ n2 + i * 3 ∧ ∃ (x11 : SV) (dr : List D), ρ' = [.dat (.obj fa), .dat (.int 4), .dat (.lst (sc.map .str)), .dat (.lst (nu.map .str)), .dat (.lst (pl.map .str)), .dat (.lst (fi.map .str)), .dat (.obj pa), .dat (.lst rows), .no, .no, .dat (.lst dr), x11, .no, .no, .no, .no] ∧ dr.Sublist ((pl.take i).flatMap (prs pl)), ⟨by omega, .no, [], rfl, List.nil_sublist _⟩, fun i d m ρ' hd hI => ?step, fun m ρ' hI => ?fin0⟩)))
  case step =>
    obtain ⟨m1, x11, dr, rfl, dr1⟩ := hI
    rw [List.getElem?_map] at hd
    obtain ⟨a, ha, rfl⟩ := Option.map_eq_some_iff.mp hd
    have hi : i < pl.length := (List.getElem?_eq_some_iff.mp ha).1
    refine ⟨_, _, hg_name (i := 11) hN rfl, ?_⟩
    have dl : ∀ {ys : List D}, ys.Sublist (prs pl a) → ys.length ≤ 3 := fun {ys} h => by
      refine Nat.le_trans h.length_le ?_
      unfold prs
      rw [List.length_map]
      refine Nat.le_trans (List.length_filter_le _ _) ?_
      rwa [List.length_map]
    have dl2 : ∀ (ss : List Str), (ss.flatMap (prs pl)).length ≤ ss.length * 3 := fun ss => by
      induction ss with
      | nil => exact Nat.le_refl _
      | cons s ss ih =>
        have h1 : (prs pl s).length ≤ 3 := by
          unfold prs
          rw [List.length_map]
          refine Nat.le_trans (List.length_filter_le _ _) ?_
          rwa [List.length_map]
        rw [List.flatMap_cons, List.length_append, List.length_cons]
        omega
    have drl : dr.length ≤ 9 := by
      refine Nat.le_trans dr1.length_le (Nat.le_trans (dl2 _) ?_)
      rw [List.length_take]
      omega
    refine hss_cons (hs_set (i := 10) hN rfl (he_lst (hf_add (he_name (i := 10) rfl rfl (he_lst (hf_LC (own := [("_law_other", 12)]) rfl hN ?blk3 (own1 rfl) (lc_fil 1 (fun d => ltD (.str a) d) (fun d => .tup [.str a, d]) (hi_list (he_name (i := 4) rfl rfl ⟨_, rfl, ?len3, fun d hd m2 hm2 => ?elt3, fun n3 ys z1 z2 => ⟨_, _, rfl, rfl, ?len4, hss_nil ?nx⟩⟩)))))))))
    case blk3 => exact (show BlkOk (["_law_feed_here", "_law_many", "_law_names", "_law_numbers", "_law_places", "_law_figures", "_law_pool", "_law_rows", "_law_k", "_law_name", "_law_doors", "_law_one", "_law_other", "_law_digits", "_law_folk", "_law_scenes"] : List Str) d_law_tale.scope _ _ from ⟨rfl, by decide +kernel, by decide +kernel, by decide +kernel, by decide +kernel⟩)
    case len3 =>
      rw [List.length_map]
      exact big (by omega)
    case elt3 =>
      rw [List.length_map] at hm2
      obtain ⟨s, hs, rfl⟩ := List.mem_map.mp hd
      refine ⟨_, fun s' H C cl fp => hg_name hN rfl, fun s' H C cl fp => ?_, fun m' s' H C cl fp _ _ => he_tup (ha_cons (he_name (i := 11) rfl rfl (ha_cons (he_name (i := 12) rfl rfl (ha_nil ⟨le2, rfl, rfl⟩)))))⟩
      refine ht_bool (hw_and (ht_cmp (op_ltD (Room.units hr)) (he_name (i := 11) rfl rfl (he_name (i := 12) rfl rfl (rd_ltD (fit_str a) (fit_str s) (by decide) (by simp [D.py, PySem.W.alike]) (by simp [D.py]) ⟨_, rfl, fun hb => ?_, fun _ => ⟨Nat.le_add_right _ _, fun z => by cases z⟩⟩)))))
      exact hw_and1 (ht_cmp op_eq (he_call (has_draw T) (hr.mono (by omega)) (ha_cons (he_name (i := 0) rfl rfl (ha_cons (he_int (ha_nil (draw_of F hc' (by omega) (by decide) (by decide) fun r5 _ _ => he_int (rd_eqI ⟨_, rfl, Nat.le_refl _, fun _ => hb⟩)))))))))
    case len4 =>
      have := dl z2
      exact big (by omega)
    case nx =>
      rw [List.length_map] at z1
      refine ⟨by omega, _, _, rfl, ?_⟩
      rw [List.take_add_one, ha, List.flatMap_append]
      refine List.Sublist.append dr1 ?_
      rw [show (some a).toList.flatMap (prs pl) = prs pl a from List.append_nil _]
      exact z2
  obtain ⟨m1, x11, dr, rfl, dr1⟩ := hI
  rw [List.length_map] at m1 dr1
  rw [List.take_length] at dr1
  refine hss_cons (hs_set (i := 13) hN rfl (he_tuple T.f_tuple (he_lst (hf_LC (own := [("_law_k", 8)]) rfl hN ?blk4 (own1 rfl) (lc_gen 1 (fun _ y => ∃ v : Int, y = .int v ∧ 0 ≤ v ∧ v < 10) (hi_range T.f_range (he_call (has_draw T) (hr.mono (by omega)) (ha_cons (he_name (i := 0) rfl rfl (ha_cons (he_int (ha_nil (draw_of F hc' (by omega) (by decide) (by decide) fun r r1 r2 => ⟨r, rfl, by omega, by omega, ?len5, fun d hd m2 hm2 => ?elt5, fun n4 dg y2 dg1 => ⟨dg, rfl, ?rest5⟩⟩)))))))))))))
  case blk4 => exact (show BlkOk (["_law_feed_here", "_law_many", "_law_names", "_law_numbers", "_law_places", "_law_figures", "_law_pool", "_law_rows", "_law_k", "_law_name", "_law_doors", "_law_one", "_law_other", "_law_digits", "_law_folk", "_law_scenes"] : List Str) d_law_tale.scope _ _ from ⟨rfl, by decide +kernel, by decide +kernel, by decide +kernel, by decide +kernel⟩)
  case len5 =>
    rw [rangeD_len]
    exact big (by omega)
  case elt5 =>
    rw [rangeD_len] at hm2
    exact ⟨_, fun s H C cl fp => hg_name hN rfl, fun s H C cl fp => he_call (has_draw T) (hr.mono (by omega)) (ha_cons (he_name (i := 0) rfl rfl (ha_cons (he_int (ha_nil (draw_of F hc' (by omega) (by decide) (by decide) fun v v1 v2 => ⟨Nat.le_refl _, v, rfl, v1, v2⟩))))))⟩
  rw [rangeD_len] at y2
  have dl := dg1.len
  rw [rangeD_len] at dl
  refine hss_cons (hs_setLcD (i := 14) (own := [("_law_name", 9)]) hN rfl ?blk5 (own1 rfl) (lc_gen 1 (fun d y => ∃ s p, d = .str s ∧ y = .tup [.str s, .str p] ∧ p ∈ pl) (hi_list (he_name (i := 5) rfl rfl ⟨_, rfl, ?len6, fun d hd m2 hm2 => ?elt6, fun n5 folk y3 folk1 => ?rest6⟩))))
  case blk5 => exact (show BlkOk (["_law_feed_here", "_law_many", "_law_names", "_law_numbers", "_law_places", "_law_figures", "_law_pool", "_law_rows", "_law_k", "_law_name", "_law_doors", "_law_one", "_law_other", "_law_digits", "_law_folk", "_law_scenes"] : List Str) d_law_tale.scope _ _ from ⟨rfl, by decide +kernel, by decide +kernel, by decide +kernel, by decide +kernel⟩)
  case len6 =>
    rw [List.length_map]
    exact big (by omega)
  case elt6 =>
    rw [List.length_map] at hm2
    obtain ⟨s, hs, rfl⟩ := List.mem_map.mp hd
    have hne : pl ≠ [] := fi2 fun z => by rw [z] at hs; cases hs
    exact ⟨_, fun s H C cl fp => hg_name hN rfl, fun s H C cl fp => he_tup (ha_cons (he_name (i := 9) rfl rfl (ha_cons (he_call (has_pick T) (hr.mono (by omega)) (ha_cons (he_name (i := 0) rfl rfl (ha_cons (he_name (i := 4) rfl rfl (ha_nil (aPick_of G (by omega) hne (by omega) fun p hp => ha_nil ⟨le2, Nat.le_refl _, _, p, rfl, rfl, hp⟩))))))))))⟩
  rw [List.length_map] at y3
  refine hss_cons (hs_set (i := 15) hN rfl (he_tuple T.f_tuple (he_lst (hf_LC (own := [("_law_name", 9)]) rfl hN ?blk6 (own1 rfl) (lc_gen 4000 (fun d y => ∃ s, d = .str s ∧ GScene (nmF sc nu pl fi) s y) (hi_list (he_name (i := 2) rfl rfl ⟨_, rfl, ?len7, fun d hd m2 hm2 => ?elt7, fun n6 scenes y4 scenes1 => ⟨scenes, rfl, ?rest7⟩⟩)))))))
  case blk6 => exact (show BlkOk (["_law_feed_here", "_law_many", "_law_names", "_law_numbers", "_law_places", "_law_figures", "_law_pool", "_law_rows", "_law_k", "_law_name", "_law_doors", "_law_one", "_law_other", "_law_digits", "_law_folk", "_law_scenes"] : List Str) d_law_tale.scope _ _ from ⟨rfl, by decide +kernel, by decide +kernel, by decide +kernel, by decide +kernel⟩)
  case len7 =>
    rw [List.length_map]
    exact big (by omega)
  case elt7 =>
    rw [List.length_map] at hm2
    obtain ⟨s, hs, rfl⟩ := List.mem_map.mp hd
    have hm3 : m2 + 4000 ≤ n5 + 4 * 4000 := Nat.le_trans hm2 (Nat.add_le_add_left (Nat.mul_le_mul_right _ sc3) _)
    exact ⟨_, fun s H C cl fp => hg_name hN rfl, fun s H C cl fp => he_call (has_scene T) (hr.mono (by omega)) (ha_cons (he_name (i := 0) rfl rfl (ha_cons (he_name (i := 9) rfl rfl (ha_cons (he_name (i := 6) rfl rfl (ha_nil ⟨fa, pa, _, _, G, sc2, by omega, rfl, fun n1 d1 b1 g1 => ⟨b1, _, rfl, g1⟩⟩)))))))⟩
  rw [List.length_map] at y4
  have y5 : n6 ≤ n5 + 4 * 4000 := Nat.le_trans y4 (Nat.add_le_add_left (Nat.mul_le_mul_right _ sc3) _)
  refine hss_cons (hs_ret (he_tup (ha_cons (he_tuple T.f_tuple (he_name (i := 7) rfl rfl ⟨_, rfl, ha_cons (he_tuple T.f_tuple (he_name (i := 4) rfl rfl ⟨_, rfl, ha_cons (he_tuple T.f_tuple (he_name (i := 10) rfl rfl ⟨_, rfl, ha_cons (he_tuple T.f_tuple (he_name (i := 14) rfl rfl ⟨_, rfl, ha_cons (he_name (i := 13) rfl rfl (ha_cons (he_name (i := 15) rfl rfl (ha_cons (he_call (has_pick T) (hr.mono (by omega)) (ha_cons (he_name (i := 0) rfl rfl (ha_cons (he_name (i := 2) rfl rfl (ha_nil (aPick_of G (by omega) sc2 (by omega) fun b hb => ha_nil ⟨le7, q _ _ (by omega) ?_⟩)))))))))))⟩))⟩))⟩))⟩)))))
  exact ⟨sc, nu, pl, fi, rows, dr, folk, dg, scenes, b, rfl, sc1, nu1, pl1, fi1, sc3, hb, rows1, dr1, folk1, ⟨by omega, fun y hy => (dg1.mem y hy).elim fun _ h => h.2⟩, scenes1⟩
end
end Fk
set_option Elab.async false
set_option linter.all false
set_option maxRecDepth 100000
set_option maxHeartbeats 4000000
/-! G8: _law_feed: the feed is made. -/
namespace Fk
open PySem PySem.Spec PyProof.Rows L2
def gFeed (fa ca : Addr) (cs : List Int) (hne : fa ≠ ca) : Gx where
  G := [fa]
  F := [fa, ca]
  R := [ca]
  J n H := ∃ i gr : Int, H fa = some (.lst [.ref ca, .int i, .int gr, .int (n : Nat)]) ∧ H ca = some (.lst (cs.map V.int))
  sub a h := by
    rw [List.mem_singleton.mp h]
    exact List.mem_cons_self
  subR a h := by
    rw [List.mem_singleton.mp h]
    simp
  nR a h z := hne ((List.mem_singleton.mp h).symm.trans (List.mem_singleton.mp z))
  trk n H j a h := by
    obtain ⟨i, gr, j1, j2⟩ := j
    rcases List.mem_cons.mp h with rfl | h
    · exact ⟨_, j1⟩
    · rw [List.mem_singleton.mp h]
      exact ⟨_, j2⟩
  lstR n H j a h := by
    obtain ⟨i, gr, j1, j2⟩ := j
    rw [List.mem_singleton.mp h]
    exact ⟨_, j2⟩
  stab n H H' j h := by
    obtain ⟨i, gr, j1, j2⟩ := j
    exact ⟨i, gr, by rw [h fa List.mem_cons_self]; exact j1, by rw [h ca (by simp)]; exact j2⟩
theorem SI.feed {K : PySem.W.Frag} {H0 Hb H : Hp} {W0 W : List Addr} {n i : Nat} {ρ : List SV} {τ : List (V × D)} {σ : L2.St} {fa ca : Addr} {cs : List Int}
    (S : SI K gx0 H0 W0 n ρ τ σ Hb) (h1 : ∀ a ∈ W0, a ∈ W) (h2 : ∀ a ∈ W, a ∈ W0 ∨ H0 a = none) (k : Ok K gx0 W n ρ σ Hb) (h3 : ∀ p ∈ τ, DD K W Hb p.1 p.2) (e : Same Hb H) (nf : Hb fa = none) (nc : Hb ca = none) (hne : fa ≠ ca)
    (hf : H fa = some (.lst [.ref ca, .int 0, .int 0, .int 0])) (hc : H ca = some (.lst (cs.map V.int))) :
    ∃ g', Feed g' fa ca cs ∧ Grown K gx0 g' H0 W0 ∧ SI K g' H0 W0 0 (ρ.set i (.dat (.obj fa))) τ (σ.set i (some (.ref fa))) H := by
  have nW : ∀ {a}, Hb a = none → a ∉ W := fun {a} z hf => by
    obtain ⟨o, q⟩ := k.trk a hf
    rw [z] at q
    cases q
  have j' : (gFeed fa ca cs hne).J 0 H := ⟨0, 0, hf, hc⟩
  have gw' : GW (gFeed fa ca cs hne) (fa :: W) := ⟨fun a h => by
    rcases List.mem_cons.mp h with rfl | h
    · exact .inl List.mem_cons_self
    · exact .inr h, fun a h z => by
    obtain rfl := List.mem_singleton.mp (show a ∈ [ca] from h)
    rcases List.mem_cons.mp z with z | z
    · exact hne z.symm
    · exact nW nc z⟩
  have up : ∀ {v : V} {d : D}, DD K W Hb v d → DD K (fa :: W) H v d := fun dd => (dd.fresh nf).same e
  have ups : ∀ {v : List V} {d : List D}, DDs K W Hb v d → DDs K (fa :: W) H v d := fun dd => (dd.fresh nf).same e
  have k' : Ok K (gFeed fa ca cs hne) (fa :: W) 0 ρ σ H := ⟨j', gw', fun a h => by
    rcases List.mem_cons.mp h with rfl | h
    · exact ⟨_, hf⟩
    · obtain ⟨o, q⟩ := k.trk a h
      exact ⟨o, e a o q⟩, k.len, fun l d h => by
    obtain ⟨v, q1, q2⟩ := k.dats l d h
    exact ⟨v, q1, up q2⟩, fun l ds h => by
    obtain ⟨a, xs, q1, q2, q3, q4, q5⟩ := k.owns l ds h
    refine ⟨a, xs, q1, List.mem_cons_of_mem _ q2, fun z => ?_, e a _ q4, ups q5⟩
    rcases List.mem_cons.mp z with rfl | z
    · rw [nf] at q4
      cases q4
    · obtain rfl := List.mem_singleton.mp z
      rw [nc] at q4
      cases q4⟩
  have w1 : ∀ a ∈ W0, a ∈ fa :: W := fun a h => List.mem_cons_of_mem _ (h1 a h)
  have w2 : ∀ a ∈ fa :: W, a ∈ W0 ∨ H0 a = none := fun a h => by
    rcases List.mem_cons.mp h with rfl | h
    · exact .inr (S.old _ nf)
    · exact h2 a h
  have S' : SI K (gFeed fa ca cs hne) H0 W0 0 ρ τ σ H := ⟨(S.ext.mono fun a h => nomatch h).trans (.of_same e), fun a h => S.old a (by
    cases z : Hb a with
    | none => rfl
    | some o =>
      rw [e a o z] at h
      cases h), S.tr0, ⟨_, w1, w2, k', fun p hp => up (h3 p hp)⟩, S.own0, S.sep⟩
  have xb : ∀ H', Ext (gFeed fa ca cs hne).G H0 H' → Ext gx0.G H0 H' := fun H' q a o na ho => by
    refine q a o (fun z => ?_) ho
    obtain rfl := List.mem_singleton.mp z
    rw [S.old _ nf] at ho
    cases ho
  refine ⟨gFeed fa ca cs hne, ⟨List.mem_singleton_self _, List.mem_singleton_self _, fun n H j => j, fun n H j n' i gr => ⟨i, gr, upd_same, ?_⟩⟩, ⟨fun n ρ τ σ H S2 => ?_, xb, fun n H q => trivial⟩, S'.set w1 w2 k' (fun p hp => up (h3 p hp)) (.obj fa)⟩
  · obtain ⟨_, _, _, j2⟩ := j
    rw [upd_ne hne.symm]
    exact j2
  · obtain ⟨V, v1, v2, kk, v3⟩ := S2.ex
    exact ⟨xb _ S2.ext, S2.old, S2.tr0, ⟨V, v1, v2, ⟨trivial, ⟨fun a h => absurd h List.not_mem_nil, fun a h => absurd h List.not_mem_nil⟩, kk.trk, kk.len, kk.dats, fun l ds q => by
      obtain ⟨a, xs, q1, q2, q3, q4, q5⟩ := kk.owns l ds q
      exact ⟨a, xs, q1, q2, fun z => absurd z List.not_mem_nil, q4, q5⟩⟩, v3⟩, S2.own0, S2.sep⟩
theorem cut_ints (ns : List Int) (lo hi : Option Int) : ∃ cs : List Int, cs.length ≤ ns.length ∧ cutV (ns.map V.int) lo hi = cs.map V.int :=
  ⟨(ns.drop (HT.sIx ns.length 0 lo)).take (HT.sIx ns.length ns.length hi - HT.sIx ns.length 0 lo), by
    rw [List.length_take, List.length_drop]
    omega, by
    unfold cutV
    rw [List.length_map, ← List.map_drop, ← List.map_take]⟩
section
variable {P : Program} {w : World} {K : PySem.W.Frag} {mg : Str → Option Value} {base : Heap}
def spFeed (K : PySem.W.Frag) : Sp := fun vs H Q _ => ∃ (a : Addr) (ns : List Int), vs = [.ref a] ∧ SqL K H a (ns.map V.int) ∧
  ∀ (cs : List Int) (ca fa : Addr), cs.length ≤ ns.length → H ca = none → H fa = none → fa ≠ ca → Q (.ref fa) (upd (upd H ca (.lst (cs.map V.int))) fa (.lst [.ref ca, .int 0, .int 0, .int 0]))
theorem has_feed (T : Top K mg) : ∃ fd, FnOk P w K mg base CX0 1 (He.ga K "_law_feed") fd ["_law_script"] (spFeed K) ∧ Binds K fd ["_law_script"] [] := by
  obtain ⟨fd, F⟩ := T.df 45 d_law_feed rfl
  have e1 : d_law_feed.dvs K = [] := rfl
  have e2 : d_law_feed.kws K = [] := rfl
  have e3 : He.fAd K d_law_feed.at_ = He.ga K "_law_feed" := rfl
  rw [e1, e2, e3] at F
  have hN : (["_law_script"] : List Str).Nodup := by decide +kernel
  refine ⟨fd, F.ok (N := ["_law_script"]) ⟨rfl, rfl, rfl, hN, rfl, by decide +kernel, by decide +kernel⟩ (fun vs H Q E h => ?_) (fun cdv Ar outer s H vs Q Ex hr h => ⟨_, PSs.nox pssW, ?_⟩), F.bindsN fun _ _ _ _ _ _ us hl => match us, hl with | [_], _ => rfl⟩
  · obtain ⟨a, ns, rfl, _⟩ := h
    rfl
  · obtain ⟨a, ns, rfl, hs, q⟩ := h
    refine (pss_one (ps_ret (pe_lst (pa_cons (pe_slice sl_list (pe_var (i := 0) rfl (Or.inl rfl)) po_none (po_some pe_int)) (pa_cons pe_int (pa_cons pe_int (pa_cons pe_int pa_nil))))))).wpr ?_
    refine ⟨_, rfl, ?_⟩
    obtain ⟨cs, c1, c2⟩ := cut_ints ns none (some 63)
    refine ⟨63, rfl, a, _, rfl, hs, fun ca hca => ?_⟩
    refine ⟨le4, fun fa hfa => ?_⟩
    have hne : fa ≠ ca := fun z => by
      subst z
      rw [upd_same] at hfa
      cases hfa
    rw [upd_ne hne] at hfa
    rw [c2]
    exact q cs ca fa c1 hca hfa hne
end
end Fk
set_option Elab.async false
set_option linter.all false
set_option maxRecDepth 100000
set_option maxHeartbeats 4000000
/-! G9: repr of data. -/
namespace Fk
open PySem PySem.Spec PyProof.Rows L2
mutual
/-- at most b in each, k within one another, small leaves -/
def D.nice (b : Nat) : Nat → D → Bool
  | 0, _ => false
  | k + 1, d => match d with
    | .tup ds => decide (ds.length ≤ b) && nices b k ds
    | .lst ds => decide (ds.length ≤ b) && nices b k ds
    | .non => true
    | .bl _ => true
    | .int i => decide (i.natAbs < 10 ^ 12)
    | .str s => PyData.strOk s
    | .dic _ _ => false
    | .fn _ => false
    | .obj _ => false
def nices (b : Nat) : Nat → List D → Bool
  | _, [] => true
  | k, d :: ds => D.nice b k d && nices b k ds
end
section
variable {b : Nat}
theorem nices_mem : ∀ {k : Nat} {ds : List D}, nices b k ds = true → ∀ d ∈ ds, d.nice b k = true
  | _, [], _, d, h => by cases h
  | k, e :: ds, h, d, hd => by
    rw [nices, Bool.and_eq_true] at h
    rcases List.mem_cons.mp hd with rfl | hd
    · exact h.1
    · exact nices_mem h.2 d hd
theorem nices_of : ∀ {k : Nat} {ds : List D}, (∀ d ∈ ds, d.nice b k = true) → nices b k ds = true
  | _, [], _ => by rw [nices]
  | k, e :: ds, h => by
    rw [nices, h e List.mem_cons_self, nices_of fun d hd => h d (List.mem_cons_of_mem _ hd)]
    rfl
theorem nice_tup {k : Nat} {ds : List D} (h1 : ds.length ≤ b) (h2 : ∀ d ∈ ds, d.nice b k = true) : (D.tup ds).nice b (k + 1) = true := by
  rw [D.nice, decide_eq_true h1, nices_of h2]
  rfl
theorem nice_lst {k : Nat} {ds : List D} (h1 : ds.length ≤ b) (h2 : ∀ d ∈ ds, d.nice b k = true) : (D.lst ds).nice b (k + 1) = true := by
  rw [D.nice, decide_eq_true h1, nices_of h2]
  rfl
theorem nice_tup_inv {k : Nat} {ds : List D} (h : (D.tup ds).nice b k = true) : ∃ j, k = j + 1 ∧ ds.length ≤ b ∧ ∀ d ∈ ds, d.nice b j = true := by
  cases k with
  | zero => rw [D.nice] at h; cases h
  | succ j =>
    rw [D.nice, Bool.and_eq_true] at h
    exact ⟨j, rfl, of_decide_eq_true h.1, nices_mem h.2⟩
theorem nice_lst_inv {k : Nat} {ds : List D} (h : (D.lst ds).nice b k = true) : ∃ j, k = j + 1 ∧ ds.length ≤ b ∧ ∀ d ∈ ds, d.nice b j = true := by
  cases k with
  | zero => rw [D.nice] at h; cases h
  | succ j =>
    rw [D.nice, Bool.and_eq_true] at h
    exact ⟨j, rfl, of_decide_eq_true h.1, nices_mem h.2⟩
theorem nice_mono : ∀ {k j : Nat} {b c : Nat} {d : D}, k ≤ j → b ≤ c → d.nice b k = true → d.nice c j = true := by
  intro k
  induction k with
  | zero => intro j b c d _ _ h; rw [D.nice] at h; cases h
  | succ k ih =>
    intro j b c d hj hb h
    obtain ⟨j, rfl⟩ : ∃ i, j = i + 1 := ⟨j - 1, by omega⟩
    cases d with
    | tup ds =>
      obtain ⟨i, e, h1, h2⟩ := nice_tup_inv h
      obtain rfl : k = i := by omega
      exact nice_tup (by omega) fun d hd => ih (by omega) hb (h2 d hd)
    | lst ds =>
      obtain ⟨i, e, h1, h2⟩ := nice_lst_inv h
      obtain rfl : k = i := by omega
      exact nice_lst (by omega) fun d hd => ih (by omega) hb (h2 d hd)
    | non => rw [D.nice]
    | bl _ => rw [D.nice]
    | int _ => rw [D.nice] at h ⊢; exact h
    | str _ => rw [D.nice] at h ⊢; exact h
    | dic _ _ => rw [D.nice] at h; cases h
    | fn _ => rw [D.nice] at h; cases h
    | obj _ => rw [D.nice] at h; cases h
theorem nice_fit : ∀ {k : Nat} {d : D}, b ≤ 1000 → d.nice b k = true → d.fit k = true := by
  intro k
  induction k with
  | zero => intro d _ h; rw [D.nice] at h; cases h
  | succ k ih =>
    intro d hb h
    cases d with
    | tup ds =>
      obtain ⟨i, e, h1, h2⟩ := nice_tup_inv h
      obtain rfl : k = i := by omega
      rw [D.fit, decide_eq_true (by omega), fits_of fun d hd => ih hb (h2 d hd)]
      rfl
    | lst ds =>
      obtain ⟨i, e, h1, h2⟩ := nice_lst_inv h
      obtain rfl : k = i := by omega
      rw [D.fit, decide_eq_true (by omega), fits_of fun d hd => ih hb (h2 d hd)]
      rfl
    | non => rw [D.fit]
    | bl _ => rw [D.fit]
    | int _ => rw [D.fit]
    | str _ => rw [D.fit]
    | dic _ _ => rw [D.nice] at h; cases h
    | fn _ => rw [D.nice] at h; cases h
    | obj _ => rw [D.nice] at h; cases h
end
/-- all that repr asks -/
structure Shows (d : PyData) : Prop where
  sh : d.showable = true
  nd : d.hasDict = false
  ls : d.leavesShort 13 = true
  cl : d.canLay0 = true
structure ShowsAll (ds : List PyData) : Prop where
  sh : PyData.showableAll ds = true
  nd : PyData.hasDictAll ds = false
  ls : PyData.leavesShortAll 13 ds = true
  cl : PyData.canLayAll0 ds = true
theorem shows_all : ∀ {ds : List D}, (∀ d ∈ ds, Shows d.py) → ShowsAll (pys ds)
  | [], _ => ⟨by rw [pys, PyData.showableAll], by rw [pys, PyData.hasDictAll], by rw [pys, PyData.leavesShortAll], by rw [pys, PyData.canLayAll0]⟩
  | d :: ds, h => by
    have h1 := h d List.mem_cons_self
    have h2 := shows_all fun d hd => h d (List.mem_cons_of_mem _ hd)
    refine ⟨?_, ?_, ?_, ?_⟩
    · rw [pys, PyData.showableAll, h1.sh, h2.sh]
      rfl
    · rw [pys, PyData.hasDictAll, h1.nd, h2.nd]
      rfl
    · rw [pys, PyData.leavesShortAll, h1.ls, h2.ls]
      rfl
    · rw [pys, PyData.canLayAll0, h1.cl, h2.cl]
      rfl
theorem shows_nice {b : Nat} : ∀ {k : Nat} {d : D}, d.nice b k = true → Shows d.py := by
  intro k
  induction k with
  | zero => intro d h; rw [D.nice] at h; cases h
  | succ k ih =>
    intro d h
    cases d with
    | tup ds =>
      obtain ⟨i, e, h1, h2⟩ := nice_tup_inv h
      obtain rfl : k = i := by omega
      have h3 := shows_all fun d hd => ih (h2 d hd)
      exact ⟨by rw [D.py, PyData.showable]; exact h3.sh, by rw [D.py, PyData.hasDict]; exact h3.nd, by rw [D.py, PyData.leavesShort]; exact h3.ls, by rw [D.py, PyData.canLay0]; exact h3.cl⟩
    | lst ds =>
      obtain ⟨i, e, h1, h2⟩ := nice_lst_inv h
      obtain rfl : k = i := by omega
      have h3 := shows_all fun d hd => ih (h2 d hd)
      exact ⟨by rw [D.py, PyData.showable]; exact h3.sh, by rw [D.py, PyData.hasDict]; exact h3.nd, by rw [D.py, PyData.leavesShort]; exact h3.ls, by rw [D.py, PyData.canLay0]; exact h3.cl⟩
    | non => exact ⟨rfl, rfl, rfl, rfl⟩
    | bl _ => exact ⟨rfl, rfl, rfl, rfl⟩
    | int i =>
      rw [D.nice] at h
      have hi := of_decide_eq_true h
      refine ⟨?_, rfl, ?_, rfl⟩
      · rw [D.py, PyData.showable]
        refine decide_eq_true ?_
        by_cases h0 : i.natAbs = 0
        · rw [h0]
          decide
        · refine (Nat.log2_lt h0).mpr (Nat.lt_trans hi ?_)
          exact Nat.lt_of_lt_of_le (show 10 ^ 12 < 2 ^ 40 by decide) (Nat.pow_le_pow_right (show 0 < 2 by decide) (show 40 ≤ 1920 by decide))
      · rw [D.py, PyData.leavesShort]
        exact decide_eq_true (PyData.shown_int_le hi)
    | str s =>
      rw [D.nice] at h
      refine ⟨rfl, rfl, ?_, by rw [D.py, PyData.canLay0]; exact h⟩
      rw [D.py, PyData.leavesShort]
      unfold PyData.strOk at h
      refine List.all_eq_true.mpr fun c hc => decide_eq_true ?_
      rw [← Array.all_toList] at h
      have h1 := of_decide_eq_true (List.all_eq_true.mp h c hc)
      omega
    | dic _ _ => rw [D.nice] at h; cases h
    | fn _ => rw [D.nice] at h; cases h
    | obj _ => rw [D.nice] at h; cases h
mutual
theorem bulk_sz : ∀ d : D, d.py.bulk + 1 ≤ d.sz
  | .tup ds => by
    have := bulks_szs ds
    rw [D.py, PyData.bulk, D.sz]
    omega
  | .lst ds => by
    have := bulks_szs ds
    rw [D.py, PyData.bulk, D.sz]
    omega
  | .str s => by
    rw [D.py, PyData.bulk, D.sz]
    exact Nat.le_refl _
  | .non => by simp [D.py, PyData.bulk, D.sz]
  | .bl _ => by simp [D.py, PyData.bulk, D.sz]
  | .int _ => by simp [D.py, PyData.bulk, D.sz]
  | .dic _ _ => by simp [D.py, PyData.bulk, D.sz]
  | .fn _ => by simp [D.py, PyData.bulk, D.sz]
  | .obj _ => by simp [D.py, PyData.bulk, D.sz]
theorem bulks_szs : ∀ ds : List D, PyData.bulkAll (pys ds) ≤ szs ds
  | [] => by rw [pys, PyData.bulkAll]; exact Nat.zero_le _
  | d :: ds => by
    have h1 := bulk_sz d
    have h2 := bulks_szs ds
    rw [pys, PyData.bulkAll, szs]
    omega
end
def rRepr (K : PySem.W.Frag) : List V → Hp → VK → Prop := fun xs H Q => ∃ v d, xs = [v] ∧ Dp K H v d ∧ d.showable = true ∧ d.hasDict = false ∧ d.depth ≤ 60 ∧ d.shown.length ≤ sizeLine ∧ Q (.str d.shown) H
theorem call_reprD {X : Cx} (hg : X.A.guards = some []) (hu : X.A.units + 64 < cLine) : CallR X (.builtin "repr") (rRepr X.K) := by
  intro pins s σ H vs us Q I r h
  obtain ⟨v, d, rfl, hd, hs, hn, h60, hz, q⟩ := h
  obtain ⟨u, rfl, ru⟩ := vals1 r
  obtain ⟨as, rd⟩ := Dp.reads I d v u hd ru
  have isref : ∀ a, u = .ref a → wpAny (model X.prog X.w) X.A (call (.builtin "repr") [u]) (EP X pins σ Q) X.xe s := fun a e => by
    subst e
    exact repr_of_reads' rd hs (fun z => by rw [hn] at z; cases z) hg (by omega) (fun _ _ e => e) (fun h' u tk hk => ⟨.str d.shown, H, I.kept (t' := tk) hk, ⟨u, rfl⟩, q⟩) hz
  cases rd with
  | none => exact PySem.P.repr_of_none ⟨.str _, H, I.tok _, ⟨_, rfl⟩, q⟩
  | bool b => exact PySem.P.repr_of_bool ⟨.str _, H, I.tok _, ⟨_, rfl⟩, q⟩
  | int i t => exact PySem.P.repr_of_int (by simpa [PyData.showable] using hs) ⟨.str _, H, I.tok _, ⟨_, rfl⟩, q⟩
  | str x t => exact PySem.P.repr_of_str ⟨.str _, H, I.tok _, ⟨_, rfl⟩, q⟩ hz
  | list => exact isref _ rfl
  | tuple => exact isref _ rfl
  | dict => exact isref _ rfl
/-- what repr says of a datum -/
def D.rep (d : D) : Str := d.py.shown
theorem he_repr {X : Cx} {g : Gx} {n : Nat} {ρ : List SV} {e : Expr} {p pos : Pos} {Q : Nat → D → Prop} (gd : X.A.guards = some []) (hu : X.A.units + 64 < cLine) (hm : X.mg "repr" = none) (h : HE X g n ρ e fun n1 d => (∃ k, k ≤ 60 ∧ d.nice 1000 k = true) ∧ d.sz ≤ MX ∧ Q n1 (.str d.rep)) (hg : Gl X "repr" := by rfl) (hs : starEach [e] X.env = (false, eval e X.env) :: starEach [] X.env := by rfl) : HE X g n ρ (.Call (.Name "repr" p) [e] [] pos) Q :=
  he_callB (call_reprD gd hu) hm (by rfl) (ha_cons (HE.mono h fun _ d q => ha_nil fun W H vs _ dd R r => by
    obtain ⟨⟨k, hk, hn⟩, hz, hq⟩ := q
    cases dd with
    | cons h1 h2 =>
      cases h2
      have sw := shows_nice hn
      have fk := nice_fit (Nat.le_refl _) hn
      have bz := bulk_sz d
      have hMX : MX = 2 ^ 20 := rfl
      refine ⟨_, d.py, rfl, h1.dp fk, sw.sh, sw.nd, Nat.le_trans (py_depth fk) hk, PyData.shown_fits_bulk (by decide) (by decide) sw.ls (by omega), r _ _ H hq (Same.refl H) (.str _)⟩) hs) hg (by decide) (by decide) hs rfl
end Fk
set_option Elab.async false
set_option linter.all false
set_option maxRecDepth 100000
set_option maxHeartbeats 4000000
/-! P1: the plain law of the generators: small. -/
namespace Fk
open PySem PySem.Spec PyProof.Rows L2
/-- names that are small -/
def NN (N : Str → List Str) : Prop := ∀ s ∈ SRTS, ∀ t ∈ N s, (D.str t).nice 10 1 = true ∧ t.length ≤ 8
def smallS (ss : List Str) : Bool := ss.all fun t => (D.str t).nice 10 1 && decide (t.length ≤ 8)
theorem smallS_mem {ss : List Str} (h : smallS ss = true) {t : Str} (ht : t ∈ ss) : (D.str t).nice 10 1 = true ∧ t.length ≤ 8 := by
  have h1 := List.all_eq_true.mp h t ht
  rw [Bool.and_eq_true] at h1
  exact ⟨h1.1, of_decide_eq_true h1.2⟩
theorem NN.num {N : Str → List Str} (h : NN N) {t : Str} (ht : t ∈ N "number") : (D.str t).nice 10 1 = true ∧ t.length ≤ 8 := h _ (by decide) t ht
theorem NN.sce {N : Str → List Str} (h : NN N) {t : Str} (ht : t ∈ N "scene") : (D.str t).nice 10 1 = true ∧ t.length ≤ 8 := h _ (by decide) t ht
theorem NN.fig {N : Str → List Str} (h : NN N) {t : Str} (ht : t ∈ N "figure") : (D.str t).nice 10 1 = true ∧ t.length ≤ 8 := h _ (by decide) t ht
theorem NN.pla {N : Str → List Str} (h : NN N) {t : Str} (ht : t ∈ N "place") : (D.str t).nice 10 1 = true ∧ t.length ≤ 8 := h _ (by decide) t ht
/-- small: so deep, so big -/
structure Sm (k z : Nat) (d : D) : Prop where
  n : d.nice 10 k = true
  z : d.sz ≤ z
theorem Sm.mono {k j z y : Nat} {d : D} (h : Sm k z d) (hk : k ≤ j) (hz : z ≤ y) : Sm j y d := ⟨nice_mono hk (Nat.le_refl _) h.n, Nat.le_trans h.z hz⟩
theorem Sm.str {k : Nat} {t : Str} (h : (D.str t).nice 10 1 = true ∧ t.length ≤ 8) : Sm (k + 1) 9 (.str t) := ⟨nice_mono (by omega) (Nat.le_refl _) h.1, by rw [D.sz]; omega⟩
theorem Sm.int {k : Nat} {i : Int} (h : i.natAbs < 10 ^ 12) : Sm (k + 1) 1 (.int i) := ⟨by rw [D.nice]; exact decide_eq_true h, by simp [D.sz]⟩
theorem Sm.bl {k : Nat} {b : Bool} : Sm (k + 1) 1 (.bl b) := ⟨by rw [D.nice], by simp [D.sz]⟩
theorem Sm.non {k : Nat} : Sm (k + 1) 1 .non := ⟨by rw [D.nice], by simp [D.sz]⟩
/-- a list of small ones -/
inductive Sms (k : Nat) : Nat → Nat → List D → Prop
  | nil : Sms k 0 0 []
  | cons {z y l : Nat} {d : D} {ds : List D} : Sm k z d → Sms k y l ds → Sms k (z + y) (l + 1) (d :: ds)
theorem Sms.ok {k : Nat} : ∀ {z l : Nat} {ds : List D}, Sms k z l ds → (∀ d ∈ ds, d.nice 10 k = true) ∧ szs ds ≤ z ∧ ds.length = l
  | _, _, _, .nil => ⟨fun d h => (by cases h), by rw [szs]; exact Nat.le_refl _, rfl⟩
  | _, _, _, .cons h t => by
    obtain ⟨h1, h2, h3⟩ := Sms.ok t
    refine ⟨fun e he => ?_, ?_, ?_⟩
    · rcases List.mem_cons.mp he with rfl | he
      · exact h.n
      · exact h1 e he
    · have := h.z
      rw [szs]
      omega
    · rw [List.length_cons, h3]
theorem Sms.tup {k z l : Nat} {ds : List D} (h : Sms k z l ds) (hl : l ≤ 10) {y : Nat} (hy : z + 1 ≤ y) : Sm (k + 1) y (.tup ds) := by
  obtain ⟨h1, h2, h3⟩ := h.ok
  exact ⟨nice_tup (by omega) h1, by rw [D.sz]; omega⟩
theorem szs_le {B : Nat} : ∀ {ds : List D}, (∀ d ∈ ds, d.sz ≤ B) → szs ds ≤ ds.length * B
  | [], _ => by rw [szs]; omega
  | d :: ds, h => by
    have h1 := h d List.mem_cons_self
    have h2 := szs_le fun d hd => h d (List.mem_cons_of_mem _ hd)
    rw [szs, List.length_cons, Nat.add_mul]
    omega
theorem Sm.list {k z m : Nat} {ds : List D} (h : ∀ d ∈ ds, Sm k z d) (hm : ds.length ≤ m) (h10 : m ≤ 10) {y : Nat} (hy : m * z + 1 ≤ y) : Sm (k + 1) y (.tup ds) := by
  refine ⟨nice_tup (by omega) fun d hd => (h d hd).n, ?_⟩
  have h1 := szs_le fun d hd => (h d hd).z
  have h2 : ds.length * z ≤ m * z := Nat.mul_le_mul_right _ hm
  rw [D.sz]
  omega
def sS : Nat → Nat
  | 0 => 20
  | k + 1 => 2 * sS k + 11
def sT : Nat → Nat
  | 0 => 134
  | k + 1 => 2 * sT k + 11
def sP : Nat → Nat
  | 0 => 145
  | k + 1 => 4 * sP k + 300
theorem sS_ge : ∀ k, 20 ≤ sS k
  | 0 => Nat.le_refl _
  | k + 1 => by have := sS_ge k; rw [sS]; omega
theorem sT_ge : ∀ k, 134 ≤ sT k
  | 0 => Nat.le_refl _
  | k + 1 => by have := sT_ge k; rw [sT]; omega
theorem sP_ge : ∀ k, 145 ≤ sP k
  | 0 => Nat.le_refl _
  | k + 1 => by have := sP_ge k; rw [sP]; omega
theorem natAbs10 {i : Int} (h1 : -10 ≤ i) (h2 : i ≤ 10) : i.natAbs < 10 ^ 12 := by omega
/-- a written text -/
theorem lit {k : Nat} {s : Str} (h : smallS [s] = true := by decide +kernel) : Sm (k + 1) 9 (.str s) := Sm.str (smallS_mem h List.mem_cons_self)
theorem lits {k : Nat} {s : Str} {ss : List Str} (hs : s ∈ ss) (h : smallS ss = true := by decide +kernel) : Sm (k + 1) 9 (.str s) := Sm.str (smallS_mem h hs)
section
variable {N : Str → List Str}
theorem sum_sm (W : NN N) {k : Nat} {d : D} (h : GSum N k d) : Sm (k + 2) (sS k) d := by
  induction h with
  | num h1 h2 =>
    have := sS_ge ‹_›
    exact (Sms.cons lit (.cons (Sm.int (natAbs10 h1 h2)) .nil)).tup (by decide) (by omega)
  | of h =>
    have := sS_ge ‹_›
    exact (Sms.cons lit (.cons (Sm.str (W.num h)) .nil)).tup (by decide) (by omega)
  | seen h =>
    have := sS_ge ‹_›
    exact (Sms.cons lit (.cons (Sm.str (W.sce h)) .nil)).tup (by decide) (by omega)
  | two hw _ _ ha hb => exact (Sms.cons (lits hw) (.cons ha (.cons hb .nil))).tup (by decide) (by rw [sS]; omega)
theorem test_sm (W : NN N) {k : Nat} {d : D} (h : GTest N k d) : Sm (2 * k + 4) (sT k) d := by
  have s1 : sS 1 = 51 := rfl
  induction h with
  | yes =>
    have := sT_ge ‹_›
    exact (Sms.cons lit (.cons ((Sms.nil (k := 1)).tup (by decide) (Nat.le_refl _) |>.mono (by omega) (Nat.le_refl _)) .nil)).tup (by decide) (by omega)
  | not _ ha => exact ((Sms.cons lit (.cons ha .nil)).tup (by decide) (by rw [sT]; omega)).mono (by omega) (Nat.le_refl _)
  | many hw hl _ ha =>
    refine (Sms.cons (z := 9) ?_ (.cons (Sm.list ha hl (by decide) (Nat.le_refl _)) .nil)).tup (by decide) (by rw [sT]; omega)
    rcases hw with rfl | rfl
    · exact lit
    · exact lit
  | att h1 h2 =>
    have := sT_ge ‹_›
    exact ((Sms.cons (k := 1) lit (.cons (Sm.str (W.fig h1)) (.cons (Sm.str (W.pla h2)) .nil))).tup (by decide) (by omega)).mono (by omega) (Nat.le_refl _)
  | wth h1 h2 =>
    have := sT_ge ‹_›
    exact ((Sms.cons (k := 1) lit (.cons (Sm.str (W.fig h1)) (.cons (Sm.str (W.fig h2)) .nil))).tup (by decide) (by omega)).mono (by omega) (Nat.le_refl _)
  | is h1 h2 h3 =>
    have := sT_ge ‹_›
    exact ((Sms.cons lit (.cons (sum_sm W h1) (.cons (lits h3) (.cons (sum_sm W h2) .nil)))).tup (by decide) (by omega)).mono (by omega) (Nat.le_refl _)
theorem piece_sm (W : NN N) {o : Bool} {k : Nat} {d : D} (h : GPiece N o k d) : Sm (2 * k + 7) (sP k) d := by
  have s2 : sS 2 = 113 := rfl
  have t1 : sT 1 = 279 := rfl
  induction h with
  | fin =>
    have := sP_ge ‹_›
    exact ((Sms.cons (k := 1) lit .nil).tup (by decide) (by omega)).mono (by omega) (Nat.le_refl _)
  | glue =>
    have := sP_ge ‹_›
    exact ((Sms.cons (k := 1) lit .nil).tup (by decide) (by omega)).mono (by omega) (Nat.le_refl _)
  | text hs =>
    have := sP_ge ‹_›
    exact ((Sms.cons (k := 1) lit (.cons (lits hs) .nil)).tup (by decide) (by omega)).mono (by omega) (Nat.le_refl _)
  | worth ha =>
    have := sP_ge ‹_›
    exact ((Sms.cons lit (.cons (sum_sm W ha) .nil)).tup (by decide) (by omega)).mono (by omega) (Nat.le_refl _)
  | place hs =>
    have := sP_ge ‹_›
    exact ((Sms.cons (k := 1) lit (.cons (Sm.str (W.fig hs)) .nil)).tup (by decide) (by omega)).mono (by omega) (Nat.le_refl _)
  | @only k _ _ _ hs hl _ ha => exact (Sms.cons lit (.cons (lits hs) (.cons (Sm.list ha hl (by decide) (Nat.le_refl _)) .nil))).tup (by decide) (by rw [sP]; omega)
  | @ifs k _ _ _ ht hl1 hl2 _ _ ha hb => exact (Sms.cons lit (.cons ((test_sm W ht).mono (show 6 ≤ 2 * k + 8 by omega) (Nat.le_refl _)) (.cons (Sm.list ha hl1 (by decide) (Nat.le_refl _)) (.cons (Sm.list hb hl2 (by decide) (Nat.le_refl _)) .nil)))).tup (by decide) (by rw [sP]; omega)
theorem pieces_sm (W : NN N) {o : Bool} {k : Nat} {d : D} (h : GPieces N o k d) : Sm (2 * k + 8) (2 * sP k + 1) d := by
  obtain ⟨ps, rfl, h1, h2⟩ := h
  exact Sm.list (fun p hp => piece_sm W (h2 p hp)) h1 (by decide) (Nat.le_refl _)
theorem deed_sm (W : NN N) {d : D} (h : GDeed N d) : Sm 5 145 d := by
  have s2 : sS 2 = 113 := rfl
  cases h with
  | set h1 h2 => exact (Sms.cons lit (.cons (Sm.str (W.num h1)) (.cons (sum_sm W h2) .nil))).tup (by decide) (by omega)
  | draw h1 => exact (Sms.cons lit (.cons (Sm.str (W.num h1)) .nil)).tup (by decide) (by omega)
  | move hw h1 h2 =>
    refine (Sms.cons (z := 9) ?_ (.cons (Sm.str (W.fig h1)) (.cons (Sm.str (W.pla h2)) .nil))).tup (by decide) (by omega)
    rcases hw with rfl | rfl
    · exact lit
    · exact lit
  | join h1 h2 => exact (Sms.cons lit (.cons (Sm.str (W.fig h1)) (.cons (Sm.str (W.fig h2)) .nil))).tup (by decide) (by omega)
  | leave h1 => exact (Sms.cons lit (.cons (Sm.str (W.fig h1)) .nil)).tup (by decide) (by omega)
theorem next_sm (W : NN N) {d : D} (h : GNext N d) : Sm 5 30 d := by
  cases h with
  | back => exact (Sms.cons lit .nil).tup (by decide) (by omega)
  | to h1 => exact (Sms.cons lit (.cons (Sm.str (W.sce h1)) .nil)).tup (by decide) (by omega)
  | into h1 h2 => exact (Sms.cons lit (.cons (Sm.str (W.sce h1)) (.cons (Sm.str (W.sce h2)) .nil))).tup (by decide) (by omega)
theorem choice_sm (W : NN N) {nm : Str} (hn : nm ∈ CHN) {d : D} (h : GChoice N nm d) : Sm 11 3000 d := by
  obtain ⟨ps, t, b, ds, nx, rfl, h1, h2, h3, h4, h5⟩ := h
  have p1 : sP 1 = 880 := rfl
  have t2 : sT 2 = 569 := rfl
  have q := pieces_sm W h1
  have dd : Sm 6 291 (.tup ds) := Sm.list (fun e he => deed_sm W (h4 e he)) h3 (by decide) (by omega)
  exact (Sms.cons (lits hn) (.cons q (.cons ((test_sm W h2).mono (by omega) (Nat.le_refl _)) (.cons Sm.bl (.cons (dd.mono (by omega) (Nat.le_refl _)) (.cons ((next_sm W h5).mono (by omega) (Nat.le_refl _)) .nil)))))).tup (by decide) (by omega)
theorem scene_sm (W : NN N) (hl : (N "scene").length ≤ 10) {nm : Str} (hn : (D.str nm).nice 10 1 = true ∧ nm.length ≤ 8) {d : D} (h : GScene N nm d) : Sm 13 18000 d := by
  obtain ⟨ps, ts, cs, wv, en, rfl, h1, h2, h3, h4, h5⟩ := h
  have p2 : sP 2 = 3820 := rfl
  have c1 : cs.length ≤ 3 := by
    rw [h3.len, List.length_map]
    exact h2.length_le
  have cc : Sm 12 9001 (.tup cs) := Sm.list (fun c hc => by
    obtain ⟨e, he, s, rfl, hg⟩ := h3.mem c hc
    obtain ⟨t, ht, e2⟩ := List.mem_map.mp he
    cases e2
    exact choice_sm W (h2.mem ht) hg) c1 (by decide) (Nat.le_refl _)
  have w1 : wv.length ≤ 10 := by
    have := h4.length_le
    rw [List.length_reverse] at this
    omega
  have ww : Sm 2 91 (.tup (wv.map .str)) := Sm.list (z := 9) (m := 10) (fun c hc => by
    obtain ⟨s, hs, rfl⟩ := List.mem_map.mp hc
    exact Sm.str (W.sce (h4.mem (List.mem_reverse.mpr hs)))) (by rwa [List.length_map]) (by decide) (by omega)
  have ee : Sm 1 9 en := by
    rcases h5 with rfl | rfl | rfl
    · exact Sm.non.mono (Nat.le_refl _) (by decide)
    · exact lit
    · exact lit
  exact (Sms.cons (Sm.str hn) (.cons (pieces_sm W h1) (.cons cc (.cons (ww.mono (by omega) (Nat.le_refl _)) (.cons (ee.mono (by omega) (Nat.le_refl _)) .nil))))).tup (by decide) (by omega)
end
end Fk
set_option Elab.async false
set_option linter.all false
set_option maxRecDepth 100000
set_option maxHeartbeats 4000000
/-! P2: the plain law of the generators: well formed, and what is named is there. -/
namespace Fk
open PySem PySem.Spec PyProof.Rows L2
def WN (N : Str → List Str) : Prop := ∀ s ∈ SRTS, ∀ t ∈ N s, isWord (.str t) = true
section
variable {N : Str → List Str}
theorem WN.num (h : WN N) {t : Str} (ht : t ∈ N "number") : isWord (.str t) = true := h _ (by decide) t ht
theorem WN.sce (h : WN N) {t : Str} (ht : t ∈ N "scene") : isWord (.str t) = true := h _ (by decide) t ht
theorem WN.fig (h : WN N) {t : Str} (ht : t ∈ N "figure") : isWord (.str t) = true := h _ (by decide) t ht
theorem WN.pla (h : WN N) {t : Str} (ht : t ∈ N "place") : isWord (.str t) = true := h _ (by decide) t ht
/-- a naming that is there -/
inductive NmIn (N : Str → List Str) : D → Prop
  | num {t : Str} : t ∈ N "number" → NmIn N (nmg "number" (.str t))
  | seen {t : Str} : t ∈ N "scene" → NmIn N (nmg "seen" (.str t))
  | sce {t : Str} : t ∈ N "scene" → NmIn N (nmg "scene" (.str t))
  | fig {t : Str} : t ∈ N "figure" → NmIn N (nmg "figure" (.str t))
  | pla {t : Str} : t ∈ N "place" → NmIn N (nmg "place" (.str t))
theorem sum_ok (W : WN N) {k : Nat} {d : D} (h : GSum N k d) : (∀ f, k + 1 ≤ f → isSumF f d = true) ∧ ∀ e ∈ sumN d, NmIn N e := by
  induction h with
  | num h1 h2 =>
    refine ⟨fun f hf => ?_, fun e he => by cases he⟩
    obtain ⟨j, rfl⟩ : ∃ j, f = j + 1 := ⟨f - 1, by omega⟩
    rfl
  | @of k s h =>
    refine ⟨fun f hf => ?_, fun e he => ?_⟩
    · obtain ⟨j, rfl⟩ : ∃ j, f = j + 1 := ⟨f - 1, by omega⟩
      have e : isSumF (j + 1) (.tup [.str "of", .str s]) = (isWord (.str s) && true) := rfl
      rw [e, W.num h]
      rfl
    · rw [List.mem_singleton.mp (show e ∈ [nmg "number" (.str s)] from he)]
      exact .num h
  | @seen k s h =>
    refine ⟨fun f hf => ?_, fun e he => ?_⟩
    · obtain ⟨j, rfl⟩ : ∃ j, f = j + 1 := ⟨f - 1, by omega⟩
      have e : isSumF (j + 1) (.tup [.str "seen", .str s]) = (isWord (.str s) && true) := rfl
      rw [e, W.sce h]
      rfl
    · rw [List.mem_singleton.mp (show e ∈ [nmg "seen" (.str s)] from he)]
      exact .seen h
  | @two k w a b hw _ _ ha hb =>
    refine ⟨fun f hf => ?_, fun e he => ?_⟩
    · obtain ⟨j, rfl⟩ : ∃ j, f = j + 1 := ⟨f - 1, by omega⟩
      have hw2 : w = "plus" ∨ w = "minus" := by simpa using hw
      have e : isSumF (j + 1) (.tup [.str w, a, b]) = (isSumF j a && (isSumF j b && true)) := by rcases hw2 with rfl | rfl <;> rfl
      rw [e, ha.1 j (by omega), hb.1 j (by omega)]
      rfl
    · rw [sumN] at he
      rcases List.mem_append.mp he with he | he
      · exact ha.2 e he
      · exact hb.2 e he
theorem test_ok (W : WN N) {k : Nat} {d : D} (h : GTest N k d) : (∀ f, k + 3 ≤ f → isTestF f d = true) ∧ ∀ e ∈ testN d, NmIn N e := by
  induction h with
  | @yes k =>
    refine ⟨fun f hf => ?_, fun e he => by cases he⟩
    obtain ⟨j, rfl⟩ : ∃ j, f = j + 1 := ⟨f - 1, by omega⟩
    rfl
  | @not k a _ ih =>
    refine ⟨fun f hf => ?_, fun e he => ?_⟩
    · obtain ⟨j, rfl⟩ : ∃ j, f = j + 1 := ⟨f - 1, by omega⟩
      have e : isTestF (j + 1) (.tup [.str "not", a]) = (isTestF j a && true) := rfl
      rw [e, ih.1 j (by omega)]
      rfl
    · rw [testN_not] at he
      exact ih.2 e he
  | @many k w ts hw hl _ ih =>
    refine ⟨fun f hf => ?_, fun e he => ?_⟩
    · obtain ⟨j, rfl⟩ : ∃ j, f = j + 1 := ⟨f - 1, by omega⟩
      have e : isTestF (j + 1) (.tup [.str w, .tup ts]) = (ts.all (isTestF j) && true) := by rcases hw with rfl | rfl <;> rfl
      rw [e, List.all_eq_true.mpr fun t ht => (ih t ht).1 j (by omega)]
      rfl
    · have e9 : testN (.tup [.str w, .tup ts]) = ts.flatMap testN := by
        rw [testN, ← testNs_flat]
        rcases hw with rfl | rfl <;> rfl
      rw [e9] at he
      obtain ⟨t, h1, h2⟩ := List.mem_flatMap.mp he
      exact (ih t h1).2 e h2
  | @att k s t h1 h2 =>
    refine ⟨fun f hf => ?_, fun e he => ?_⟩
    · obtain ⟨j, rfl⟩ : ∃ j, f = j + 1 := ⟨f - 1, by omega⟩
      have e : isTestF (j + 1) (.tup [.str "at", .str s, .str t]) = (isWord (.str s) && (isWord (.str t) && true)) := rfl
      rw [e, W.fig h1, W.pla h2]
      rfl
    · rw [testN] at he
      rcases List.mem_cons.mp he with rfl | he
      · exact .fig h1
      · rw [List.mem_singleton.mp he, if_pos rfl]
        exact .pla h2
  | @wth k s t h1 h2 =>
    refine ⟨fun f hf => ?_, fun e he => ?_⟩
    · obtain ⟨j, rfl⟩ : ∃ j, f = j + 1 := ⟨f - 1, by omega⟩
      have e : isTestF (j + 1) (.tup [.str "with", .str s, .str t]) = (isWord (.str s) && (isWord (.str t) && true)) := rfl
      rw [e, W.fig h1, W.fig h2]
      rfl
    · rw [testN] at he
      rcases List.mem_cons.mp he with rfl | he
      · exact .fig h1
      · rw [List.mem_singleton.mp he, if_neg (by decide)]
        exact .fig h2
  | @is k a b s h1 h2 h3 =>
    refine ⟨fun f hf => ?_, fun e he => ?_⟩
    · obtain ⟨j, rfl⟩ : ∃ j, f = j + 1 := ⟨f - 1, by omega⟩
      have e : isTestF (j + 1) (.tup [.str "is", a, .str s, b]) = (isSumF j a && (decide (s ∈ SGN) && (isSumF j b && true))) := rfl
      rw [e, (sum_ok W h1).1 j (by omega), (sum_ok W h2).1 j (by omega), decide_eq_true h3]
      rfl
    · rw [testN] at he
      rcases List.mem_append.mp he with he | he
      · exact (sum_ok W h1).2 e he
      · exact (sum_ok W h2).2 e he
def tabK (o : Bool) : List Str := if o = true then pieceK else labelK
def tabV (o : Bool) : List D := if o = true then pieceV else labelV
theorem okL_of {ks : List Str} {vs : List D} : ∀ {ps : List D}, (∀ p ∈ ps, okP ks vs p = true) → okL ks vs ps = true
  | [], _ => by rw [okL]
  | p :: ps, h => by
    rw [okL, h p List.mem_cons_self, okL_of fun q hq => h q (List.mem_cons_of_mem _ hq)]
    rfl
theorem okPs_of {ks : List Str} {vs : List D} {ps : List D} (h : ∀ p ∈ ps, okP ks vs p = true) : okPs ks vs (.tup ps) = true := by
  rw [okPs]
  exact okL_of h
theorem flat_ok {P : D → Prop} {f : D → List D} {ps : List D} (h : ∀ p ∈ ps, ∀ e ∈ f p, P e) : ∀ e ∈ ps.flatMap f, P e := fun e he => by
  obtain ⟨q, h1, h2⟩ := List.mem_flatMap.mp he
  exact h q h1 e h2
theorem piece_ok (W : WN N) {o : Bool} {k : Nat} {d : D} (h : GPiece N o k d) : okP (tabK o) (tabV o) d = true ∧ ∀ f, ∀ e ∈ pieceN f d, NmIn N e := by
  have two : ∀ {d : D}, (∀ e ∈ ownN d, NmIn N e) → (∀ p ∈ within d, ∀ f, ∀ e ∈ pieceN f p, NmIn N e) → ∀ f, ∀ e ∈ pieceN f d, NmIn N e := fun {d} h1 h2 f e he => by
    cases f with
    | zero => rw [pieceN] at he; cases he
    | succ f =>
      rw [pieceN] at he
      rcases List.mem_append.mp he with he | he
      · exact h1 e he
      · exact flat_ok (fun p hp e he => h2 p hp f e he) e he
  have none1 : ∀ {w : Str}, (∀ e ∈ ownN (.tup [.str w]), NmIn N e) ∧ ∀ p ∈ within (.tup [.str w]), ∀ f, ∀ e ∈ pieceN f p, NmIn N e := fun {w} => ⟨fun e he => (by cases he), fun p hp => (by cases hp)⟩
  induction h with
  | fin => exact ⟨by cases o <;> rfl, two none1.1 none1.2⟩
  | glue => exact ⟨by cases o <;> rfl, two none1.1 none1.2⟩
  | @text k s hs => exact ⟨by
      have a : TXT.all (fun s => okP labelK labelV (.tup [.str "text", .str s]) && okP pieceK pieceV (.tup [.str "text", .str s])) = true := by decide +kernel
      have b := List.all_eq_true.mp a s hs
      rw [Bool.and_eq_true] at b
      cases o
      · exact b.1
      · exact b.2, two (fun e he => by cases he) fun p hp => by cases hp⟩
  | @worth k a ha =>
    refine ⟨?_, two (fun e he => (sum_ok W ha).2 e he) fun p hp => by cases hp⟩
    have e : okP (tabK o) (tabV o) (.tup [.str "worth", a]) = ((isSumF FU a && true) && true) := by cases o <;> rfl
    rw [e, (sum_ok W ha).1 FU (by decide)]
    rfl
  | @place k s hs =>
    refine ⟨?_, two (fun e he => ?_) fun p hp => by cases hp⟩
    · have e : okP (tabK o) (tabV o) (.tup [.str "place", .str s]) = ((isWord (.str s) && true) && true) := by cases o <;> rfl
      rw [e, W.fig hs]
      rfl
    · rw [List.mem_singleton.mp (show e ∈ [nmg "figure" (.str s)] from he)]
      exact .fig hs
  | @only k s ps ho hs hl _ ih =>
    subst ho
    refine ⟨?_, two (fun e he => by cases he) fun p hp => (ih p hp).2⟩
    have e : okP (tabK true) (tabV true) (.tup [.str "only", .str s, .tup ps]) = ((isWord (.str s) && true) && (okPs pieceK pieceV (.tup ps) && true)) := rfl
    have ws : isWord (.str s) = true := by
      have a : (["ann", "zoe"] : List Str).all (fun s => isWord (.str s)) = true := by decide +kernel
      exact List.all_eq_true.mp a s hs
    have hps : okPs pieceK pieceV (.tup ps) = true := okPs_of (ks := tabK true) (vs := tabV true) fun p hp => (ih p hp).1
    rw [e, ws, hps]
    rfl
  | @ifs k t ps qs ht h1 h2 _ _ ih1 ih2 =>
    refine ⟨?_, two (fun e he => (test_ok W ht).2 e he) fun p hp => ?_⟩
    · have e : okP (tabK o) (tabV o) (.tup [.str "if", t, .tup ps, .tup qs]) = ((isTestF FU t && true) && (okPs (tabK o) (tabV o) (.tup ps) && (okPs (tabK o) (tabV o) (.tup qs) && true))) := by cases o <;> rfl
      rw [e, (test_ok W ht).1 FU (by decide), okPs_of fun p hp => (ih1 p hp).1, okPs_of fun p hp => (ih2 p hp).1]
      rfl
    · rcases List.mem_append.mp (show p ∈ ps ++ qs from hp) with hp | hp
      · exact (ih1 p hp).2
      · exact (ih2 p hp).2
theorem pieces_ok (W : WN N) {o : Bool} {k : Nat} {d : D} (h : GPieces N o k d) : okPs (tabK o) (tabV o) d = true ∧ ∀ e ∈ piecesN d, NmIn N e := by
  obtain ⟨ps, rfl, _, h2⟩ := h
  exact ⟨okPs_of fun p hp => (piece_ok W (h2 p hp)).1, flat_ok fun p hp => (piece_ok W (h2 p hp)).2 FU⟩
theorem deed_ok (W : WN N) {d : D} (h : GDeed N d) : isDeed d = true ∧ ∀ e ∈ deedN d, NmIn N e := by
  cases h with
  | @set s a h1 h2 =>
    refine ⟨?_, fun e he => ?_⟩
    · have e : isDeed (.tup [.str "set", .str s, a]) = (isWord (.str s) && (isSumF FU a && true)) := rfl
      rw [e, W.num h1, (sum_ok W h2).1 FU (by decide)]
      rfl
    · rcases List.mem_cons.mp (show e ∈ nmg "number" (.str s) :: (sumN a ++ []) from he) with rfl | he
      · exact .num h1
      · rw [List.append_nil] at he
        exact (sum_ok W h2).2 e he
  | @draw s h1 =>
    refine ⟨?_, fun e he => ?_⟩
    · have e : isDeed (.tup [.str "draw", .str s]) = (isWord (.str s) && true) := rfl
      rw [e, W.num h1]
      rfl
    · rw [List.mem_singleton.mp (show e ∈ [nmg "number" (.str s)] from he)]
      exact .num h1
  | @move w s t hw h1 h2 =>
    refine ⟨?_, fun e he => ?_⟩
    · have e : isDeed (.tup [.str w, .str s, .str t]) = (isWord (.str s) && (isWord (.str t) && true)) := by rcases hw with rfl | rfl <;> rfl
      rw [e, W.fig h1, W.pla h2]
      rfl
    · have e9 : deedN (.tup [.str w, .str s, .str t]) = [nmg "figure" (.str s), nmg "place" (.str t)] := by rcases hw with rfl | rfl <;> rfl
      rw [e9] at he
      rcases List.mem_cons.mp he with rfl | he
      · exact .fig h1
      · rw [List.mem_singleton.mp he]
        exact .pla h2
  | @join s t h1 h2 =>
    refine ⟨?_, fun e he => ?_⟩
    · have e : isDeed (.tup [.str "join", .str s, .str t]) = (isWord (.str s) && (isWord (.str t) && true)) := rfl
      rw [e, W.fig h1, W.fig h2]
      rfl
    · rcases List.mem_cons.mp (show e ∈ [nmg "figure" (.str s), nmg "figure" (.str t)] from he) with rfl | he
      · exact .fig h1
      · rw [List.mem_singleton.mp he]
        exact .fig h2
  | @leave s h1 =>
    refine ⟨?_, fun e he => ?_⟩
    · have e : isDeed (.tup [.str "leave", .str s]) = (isWord (.str s) && true) := rfl
      rw [e, W.fig h1]
      rfl
    · rw [List.mem_singleton.mp (show e ∈ [nmg "figure" (.str s)] from he)]
      exact .fig h1
theorem next_ok (W : WN N) {d : D} (h : GNext N d) : isNext d = true ∧ ∀ e ∈ ((items d).drop 1).map (nmg "scene"), NmIn N e := by
  cases h with
  | back => exact ⟨rfl, fun e he => by cases he⟩
  | @to s h1 =>
    refine ⟨?_, fun e he => ?_⟩
    · have e : isNext (.tup [.str "to", .str s]) = (isWord (.str s) && true) := rfl
      rw [e, W.sce h1]
      rfl
    · rw [List.mem_singleton.mp (show e ∈ [nmg "scene" (.str s)] from he)]
      exact .sce h1
  | @into s t h1 h2 =>
    refine ⟨?_, fun e he => ?_⟩
    · have e : isNext (.tup [.str "into", .str s, .str t]) = (isWord (.str s) && (isWord (.str t) && true)) := rfl
      rw [e, W.sce h1, W.sce h2]
      rfl
    · rcases List.mem_cons.mp (show e ∈ [nmg "scene" (.str s), nmg "scene" (.str t)] from he) with rfl | he
      · exact .sce h1
      · rw [List.mem_singleton.mp he]
        exact .sce h2
theorem choice_ok (W : WN N) {nm : Str} (hn : nm ∈ CHN) {d : D} (h : GChoice N nm d) : isChoice d = true ∧ key0 d = nm ∧ ∀ e ∈ choiceN d, NmIn N e := by
  obtain ⟨ps, t, b, ds, nx, rfl, h1, h2, h3, h4, h5⟩ := h
  refine ⟨?_, rfl, fun e he => ?_⟩
  · have e : isChoice (.tup [.str nm, ps, t, .bl b, .tup ds, nx]) = (true && (isWord (.str nm) && (okPs labelK labelV ps && (isTestF FU t && (true && (ds.all isDeed && (isNext nx && true))))))) := rfl
    have wn : isWord (.str nm) = true := by
      have a : CHN.all (fun s => isWord (.str s)) = true := by decide +kernel
      exact List.all_eq_true.mp a nm hn
    have hps : okPs labelK labelV ps = true := (pieces_ok W h1).1
    rw [e, wn, hps, (test_ok W h2).1 FU (by decide), List.all_eq_true.mpr fun d hd => (deed_ok W (h4 d hd)).1, (next_ok W h5).1]
    rfl
  · have e9 : choiceN (.tup [.str nm, ps, t, .bl b, .tup ds, nx]) = (piecesN ps ++ testN t) ++ ds.flatMap deedN ++ ((items nx).drop 1).map (nmg "scene") := rfl
    rw [e9] at he
    rcases List.mem_append.mp he with he | he
    · rcases List.mem_append.mp he with he | he
      · rcases List.mem_append.mp he with he | he
        · exact (pieces_ok W h1).2 e he
        · exact (test_ok W h2).2 e he
      · exact flat_ok (fun d hd => (deed_ok W (h4 d hd)).2) e he
    · exact (next_ok W h5).2 e he
theorem met_nd : ∀ {xs acc : List Str}, (acc ++ xs).Nodup → xs.foldl step_dedup acc = acc ++ xs
  | [], acc, _ => by simp
  | x :: xs, acc, h => by
    have h1 : ¬ acc.any (· == x) = true := fun z => by
      obtain ⟨y, hy, e⟩ := List.any_eq_true.mp z
      have e2 : y = x := by simpa using e
      subst e2
      exact (List.nodup_append.mp h).2.2 y hy y List.mem_cons_self rfl
    have e : step_dedup acc x = acc ++ [x] := by
      unfold step_dedup
      rw [if_neg h1]
    rw [List.foldl_cons, e, met_nd (by simpa using h)]
    simp
theorem unlike_nd {ss : List Str} (h : ss.Nodup) : unlike ss = true := by
  have e : met ss = ss := by
    unfold met
    rw [met_nd (by simpa using h)]
    rfl
  unfold unlike
  rw [e]
  exact decide_eq_true rfl
theorem keys_of {P : Str → D → Prop} (hk : ∀ s d, P s d → key0 d = s) : ∀ {ss : List Str} {ds : List D}, All2 (fun e d => ∃ s, e = .str s ∧ P s d) (ss.map .str) ds → ds.map key0 = ss
  | [], _, h => by cases h; rfl
  | s :: ss, _, h => by
    cases h with
    | cons a b =>
      obtain ⟨t, e, h1⟩ := a
      cases e
      rw [List.map_cons, hk _ _ h1, keys_of hk b]
theorem text_str (ss : List Str) : (ss.map D.str).map text = ss := by
  rw [List.map_map]
  exact List.map_id'' (fun _ => rfl) ss
theorem scene_ok (W : WN N) (hd : (N "scene").Nodup) {nm : Str} (hn : isWord (.str nm) = true) {d : D} (h : GScene N nm d) : isScene d = true ∧ key0 d = nm ∧ ∀ e ∈ sceneN d, NmIn N e := by
  obtain ⟨ps, ts, cs, wv, en, rfl, h1, h2, h3, h4, h5⟩ := h
  have cok : ∀ c ∈ cs, isChoice c = true ∧ ∀ e ∈ choiceN c, NmIn N e := fun c hc => by
    obtain ⟨e, he, s, rfl, hg⟩ := h3.mem c hc
    obtain ⟨t, ht, e2⟩ := List.mem_map.mp he
    cases e2
    have := choice_ok W (h2.mem ht) hg
    exact ⟨this.1, this.2.2⟩
  have ck : cs.map key0 = ts := keys_of (P := GChoice N) (fun s d h => by obtain ⟨_, _, _, _, _, rfl, _⟩ := h; rfl) h3
  have nt : ts.Nodup := h2.nodup (by decide)
  have nw : wv.Nodup := by
    have := h4.nodup hd
    exact (List.pairwise_reverse.mp this).imp fun h e => h e.symm
  have ww : ∀ s ∈ wv, s ∈ N "scene" := fun s hs => h4.mem (List.mem_reverse.mpr hs)
  refine ⟨?_, rfl, fun e he => ?_⟩
  · have e : isScene (.tup [.str nm, ps, .tup cs, .tup (wv.map .str), en]) = (true && (isWord (.str nm) && (okPs pieceK pieceV ps && ((cs.all isChoice && unlike (cs.map key0)) && (((wv.map D.str).all isWord && unlike ((wv.map D.str).map text)) && (isEnding en && true)))))) := rfl
    have en1 : isEnding en = true := by
      rcases h5 with rfl | rfl | rfl
      · rfl
      · decide +kernel
      · decide +kernel
    have wv1 : (wv.map D.str).all isWord = true := List.all_eq_true.mpr fun d hd => by
      obtain ⟨s, hs, rfl⟩ := List.mem_map.mp hd
      exact W.sce (ww s hs)
    have hps : okPs pieceK pieceV ps = true := (pieces_ok W h1).1
    rw [e, hn, hps, List.all_eq_true.mpr fun c hc => (cok c hc).1, ck, unlike_nd nt, wv1, text_str, unlike_nd nw, en1]
    rfl
  · have e9 : sceneN (.tup [.str nm, ps, .tup cs, .tup (wv.map .str), en]) = piecesN ps ++ cs.flatMap choiceN ++ (wv.map D.str).map (nmg "scene") := rfl
    rw [e9] at he
    rcases List.mem_append.mp he with he | he
    · rcases List.mem_append.mp he with he | he
      · exact (pieces_ok W h1).2 e he
      · exact flat_ok (fun c hc => (cok c hc).2) e he
    · obtain ⟨x, hx, rfl⟩ := List.mem_map.mp he
      obtain ⟨s, hs, rfl⟩ := List.mem_map.mp hx
      exact .sce (ww s hs)
end
end Fk
set_option Elab.async false
set_option linter.all false
set_option maxRecDepth 100000
set_option maxHeartbeats 4000000
/-! P3: a tale is whole, and small. -/
namespace Fk
open PySem PySem.Spec PyProof.Rows L2
def subs {α : Type} : List α → List (List α)
  | [] => [[]]
  | a :: l => subs l ++ (subs l).map (a :: ·)
theorem sub_mem {α : Type} {l m : List α} (h : List.Sublist l m) : l ∈ subs m := by
  induction h with
  | slnil => exact List.mem_singleton_self _
  | cons a _ ih => exact List.mem_append_left _ ih
  | cons_cons a _ ih => exact List.mem_append_right _ (List.mem_map_of_mem ih)
def pw : List D → Bool
  | [] => true
  | a :: l => l.all (ltD a) && pw l
theorem pw_pair : ∀ {l : List D}, pw l = true → l.Pairwise fun a b => ltD a b = true
  | [], _ => .nil
  | a :: l, h => by
    rw [pw, Bool.and_eq_true] at h
    exact .cons (List.all_eq_true.mp h.1) (pw_pair h.2)
theorem pair_rise : ∀ {l : List D}, (l.Pairwise fun a b => ltD a b = true) → rise l = true
  | [], _ => rfl
  | [a], _ => rfl
  | a :: b :: l, h => by
    cases h with
    | cons h1 h2 =>
      rw [rise, h1 b List.mem_cons_self, pair_rise h2]
      rfl
theorem rise_strs {ss ts : List Str} (h : List.Sublist ss ts) (hp : pw (ts.map .str) = true) : rise (ss.map D.str) = true := pair_rise ((pw_pair hp).sublist (h.map _))
def U4 : List (Str × Str) := [("cave", "inn"), ("cave", "yard"), ("inn", "yard"), ("cave", "zzz")]
def prD (p : Str × Str) : D := .tup [.str p.1, .str p.2]
def dU : D → Bool
  | .tup [.str s, .str t] => decide ((s, t) ∈ U4)
  | _ => false
theorem dU_all : ∀ {ds : List D}, (∀ e ∈ ds, dU e = true) → ∃ ps : List (Str × Str), ds = ps.map prD ∧ ∀ p ∈ ps, p ∈ U4
  | [], _ => ⟨[], rfl, fun p h => by cases h⟩
  | d :: ds, h => by
    obtain ⟨ps, e, h2⟩ := dU_all fun e he => h e (List.mem_cons_of_mem _ he)
    have h1 := h d List.mem_cons_self
    unfold dU at h1
    split at h1
    · rename_i s t
      refine ⟨(s, t) :: ps, by rw [List.map_cons, ← e]; rfl, fun p hp => ?_⟩
      rcases List.mem_cons.mp hp with rfl | hp
      · exact of_decide_eq_true h1
      · exact h2 p hp
    · cases h1
def chkP (pl : List Str) : Bool := pw (pl.flatMap (prs pl)) && ((pl.flatMap (prs pl)).all isDoor && ((pl.flatMap (prs pl)).all (doorOk (pl.map .str)) && (decide ((pl.flatMap (prs pl)).length ≤ 3) && (pl.flatMap (prs pl)).all dU)))
theorem chk_all : (subs PLN).all chkP = true := by decide +kernel
def wordS (ss : List Str) : Bool := ss.all fun t => isWord (.str t)
theorem wordS_mem {ss ts : List Str} (h : List.Sublist ss ts) (hp : wordS ts = true) : ∀ t ∈ ss, isWord (.str t) = true := fun t ht => List.all_eq_true.mp hp t (h.mem ht)
theorem enumD_mem : ∀ {k : Nat} {ds : List D} {d : D}, d ∈ enumD k ds → ∃ (i : Nat) (x : D), x ∈ ds ∧ d = .tup [.int (i : Int), x]
  | k, [], d, h => by cases h
  | k, x :: ds, d, h => by
    rcases List.mem_cons.mp h with rfl | h
    · exact ⟨k, x, List.mem_cons_self, rfl⟩
    · obtain ⟨i, y, h1, h2⟩ := enumD_mem h
      exact ⟨i, y, List.mem_cons_of_mem _ h1, h2⟩
theorem keys_enum {P : D → D → Prop} (hk : ∀ (i : Nat) s y, P (.tup [.int (i : Int), .str s]) y → key0 y = s) : ∀ {k : Nat} {ss : List Str} {ds : List D}, All2 P (enumD k (ss.map .str)) ds → ds.map key0 = ss
  | _, [], _, h => by cases h; rfl
  | k, s :: ss, _, h => by
    cases h with
    | cons a b => rw [List.map_cons, hk _ _ _ a, keys_enum hk b]
theorem key_strs (ds : List D) : (ds.map fun d => D.str (key0 d)) = (ds.map key0).map D.str := by rw [List.map_map]; rfl
theorem firstNot_none {p : D → Bool} : ∀ {ds : List D} {i : Nat}, (∀ d ∈ ds, p d = true) → firstNot p i ds = none
  | [], _, _ => rfl
  | d :: ds, i, h => by
    rw [firstNot, if_pos (h d List.mem_cons_self)]
    exact firstNot_none fun e he => h e (List.mem_cons_of_mem _ he)
theorem sceneV_none {ok : D → Bool} : ∀ {ss : List D} {k : Nat}, (∀ s ∈ ss, ∀ e ∈ namesL s, ok e = true) → sceneV ok k ss = none
  | [], _, _ => rfl
  | s :: ss, k, h => by
    rw [sceneV, firstNot_none (h s List.mem_cons_self)]
    exact sceneV_none fun t ht => h t (List.mem_cons_of_mem _ ht)
theorem hasKey_of {kf : D → Str} {ds : List D} {ss : List Str} {t : Str} (h : ds.map kf = ss) (ht : t ∈ ss) : hasKey kf ds t = true := by
  rw [hasKey_mem, h]
  exact decide_eq_true ht
/-- what a tale is like -/
structure Taled (rows : List D) (pl : List Str) (doors folk digits scenes : List D) (b : Str) : Prop where
  whole : wholeV (.tup [.tup rows, .tup (pl.map .str), .tup doors, .tup folk, .tup digits, .tup scenes, .str b]) = none
  dr : ∃ ps : List (Str × Str), doors = ps.map prD ∧ ∀ p ∈ ps, p ∈ U4
  sm : Sm 16 80000 (.tup [.tup rows, .tup (pl.map .str), .tup doors, .tup folk, .tup digits, .tup scenes, .str b])
theorem taled {d : D} (h : GTale d) : ∃ rows pl doors folk digits scenes b, d = .tup [.tup rows, .tup (pl.map .str), .tup doors, .tup folk, .tup digits, .tup scenes, .str b] ∧ Taled rows pl doors folk digits scenes b := by
  obtain ⟨sc, nu, pl, fi, rows, doors, folk, digits, scenes, b, rfl, sc1, nu1, pl1, fi1, l4, hb, hrows, hdoors, hfolk, ⟨hdl, hdig⟩, hsc⟩ := h
  have wS := wordS_mem sc1 (by decide +kernel)
  have wN := wordS_mem nu1 (by decide +kernel)
  have wP := wordS_mem pl1 (by decide +kernel)
  have wF := wordS_mem fi1 (by decide +kernel)
  have sS : ∀ t ∈ sc, (D.str t).nice 10 1 = true ∧ t.length ≤ 8 := fun t ht => smallS_mem (ss := SCN) (by decide +kernel) (sc1.mem ht)
  have sN : ∀ t ∈ nu, (D.str t).nice 10 1 = true ∧ t.length ≤ 8 := fun t ht => smallS_mem (ss := NUN) (by decide +kernel) (nu1.mem ht)
  have sP : ∀ t ∈ pl, (D.str t).nice 10 1 = true ∧ t.length ≤ 8 := fun t ht => smallS_mem (ss := PLN) (by decide +kernel) (pl1.mem ht)
  have sF : ∀ t ∈ fi, (D.str t).nice 10 1 = true ∧ t.length ≤ 8 := fun t ht => smallS_mem (ss := FIN) (by decide +kernel) (fi1.mem ht)
  have nS : sc.Nodup := sc1.nodup (by decide)
  have WNh : WN (nmF sc nu pl fi) := fun s hs t ht => by
    simp only [SRTS, List.mem_cons, List.not_mem_nil, or_false] at hs
    rcases hs with rfl | rfl | rfl | rfl
    · exact wS t ht
    · exact wN t ht
    · exact wP t ht
    · exact wF t ht
  have NNh : NN (nmF sc nu pl fi) := fun s hs t ht => by
    simp only [SRTS, List.mem_cons, List.not_mem_nil, or_false] at hs
    rcases hs with rfl | rfl | rfl | rfl
    · exact sS t ht
    · exact sN t ht
    · exact sP t ht
    · exact sF t ht
  have kr : rows.map key0 = nu := keys_enum (fun i s y h => by obtain ⟨_, _, _, e, _, rfl, _⟩ := h; cases e; rfl) hrows
  have kf : folk.map key0 = fi := keys_of (P := fun s y => ∃ p, y = .tup [.str s, .str p] ∧ p ∈ pl) (fun s d h => by obtain ⟨_, rfl, _⟩ := h; rfl) (hfolk.imp fun d e h => by obtain ⟨s, p, h1, h2, h3⟩ := h; exact ⟨s, h1, p, h2, h3⟩)
  have ks : scenes.map key0 = sc := keys_of (P := GScene (nmF sc nu pl fi)) (fun s d h => by obtain ⟨_, _, _, _, _, rfl, _⟩ := h; rfl) hsc
  have kp : (pl.map D.str).map text = pl := text_str pl
  have rowsB : ∀ y ∈ rows, isBounded y = true ∧ Sm 2 20 y := fun y hy => by
    obtain ⟨d, hd, k, s, v, rfl, hk, rfl, v1, v2⟩ := hrows.mem y hy
    obtain ⟨i, x, hx, e⟩ := enumD_mem hd
    cases e
    obtain ⟨t, ht, e2⟩ := List.mem_map.mp hx
    cases e2
    refine ⟨?_, ?_⟩
    · have e : isBounded (.tup [.str s, .int 0, .int (9 - (k : Int)), .int v]) = (isWord (.str s) && (decide (0 ≤ v) && decide (v ≤ 9 - (k : Int)))) := rfl
      rw [e, wN s ht, decide_eq_true v1, decide_eq_true (by omega)]
      rfl
    · exact (Sms.cons (Sm.str (sN s ht)) (.cons (Sm.int (by decide)) (.cons (Sm.int (by omega)) (.cons (Sm.int (by omega)) .nil)))).tup (by decide) (by omega)
  have folkB : ∀ y ∈ folk, isPair y = true ∧ figOk (pl.map .str) y = true ∧ Sm 2 20 y := fun y hy => by
    obtain ⟨d, hd, s, p, rfl, rfl, hp⟩ := hfolk.mem y hy
    obtain ⟨t, ht, e2⟩ := List.mem_map.mp hd
    cases e2
    exact ⟨pair_of (wF s ht) (wP p hp), hasKey_of (t := p) kp hp, (Sms.cons (Sm.str (sF s ht)) (.cons (Sm.str (sP p hp)) .nil)).tup (by decide) (by omega)⟩
  have scB : ∀ y ∈ scenes, isScene y = true ∧ (∀ e ∈ sceneN y, NmIn (nmF sc nu pl fi) e) ∧ Sm 13 18000 y := fun y hy => by
    obtain ⟨d, hd, s, rfl, hg⟩ := hsc.mem y hy
    obtain ⟨t, ht, e2⟩ := List.mem_map.mp hd
    cases e2
    have q := scene_ok WNh nS (wS s ht) hg
    exact ⟨q.1, q.2.2, scene_sm NNh (Nat.le_trans l4 (by decide)) (sS s ht) hg⟩
  have hc := List.all_eq_true.mp chk_all pl (sub_mem pl1)
  unfold chkP at hc
  simp only [Bool.and_eq_true] at hc
  obtain ⟨c1, c2, c3, c4, c5⟩ := hc
  have c4 := of_decide_eq_true c4
  have drE : ∀ e ∈ doors, ∃ s t, e = .tup [.str s, .str t] ∧ (s ∈ pl ∧ t ∈ pl) := fun e he => by
    obtain ⟨a, ha, h2⟩ := List.mem_flatMap.mp (hdoors.mem he)
    obtain ⟨x, hx, rfl⟩ := List.mem_map.mp h2
    obtain ⟨t, ht, rfl⟩ := List.mem_map.mp (List.mem_filter.mp hx).1
    exact ⟨a, t, rfl, ha, ht⟩
  have drD : doors.all isDoor = true := List.all_eq_true.mpr fun e he => List.all_eq_true.mp c2 e (hdoors.mem he)
  have drR : rise doors = true := pair_rise ((pw_pair c1).sublist hdoors)
  have drO : ∀ e ∈ doors, doorOk (pl.map .str) e = true := fun e he => List.all_eq_true.mp c3 e (hdoors.mem he)
  have drL : doors.length ≤ 3 := Nat.le_trans hdoors.length_le c4
  have hst : isStory (.tup [.tup rows, .tup (pl.map .str), .tup doors, .tup folk, .tup digits, .tup scenes, .str b]) = true := by
    have e : isStory (.tup [.tup rows, .tup (pl.map .str), .tup doors, .tup folk, .tup digits, .tup scenes, .str b]) = ((((rows.all isBounded && rise (rows.map fun d => .str (key0 d))) && (pl.map D.str).all isWord) && rise (pl.map D.str)) && (((doors.all isDoor && rise doors) && (folk.all isPair && rise (folk.map fun d => .str (key0 d)))) && ((digits.all isDigit && (scenes.all isScene && rise (scenes.map fun d => .str (key0 d)))) && isWord (.str b)))) := rfl
    have e1 : (pl.map D.str).all isWord = true := List.all_eq_true.mpr fun d hd => by
      obtain ⟨t, ht, rfl⟩ := List.mem_map.mp hd
      exact wP t ht
    have e2 : digits.all isDigit = true := List.all_eq_true.mpr fun d hd => by
      obtain ⟨v, rfl, v1, v2⟩ := hdig d hd
      have e : isDigit (.int v) = (decide (0 ≤ v) && decide (v ≤ 9)) := rfl
      rw [e, decide_eq_true v1, decide_eq_true (by omega)]
      rfl
    rw [e, key_strs, key_strs, key_strs, kr, kf, ks, rise_strs nu1 (by decide +kernel), rise_strs fi1 (by decide +kernel), rise_strs sc1 (by decide +kernel), rise_strs pl1 (by decide +kernel), e1, e2, drD, drR, wS b hb,
      List.all_eq_true.mpr fun y hy => (rowsB y hy).1, List.all_eq_true.mpr fun y hy => (folkB y hy).1, List.all_eq_true.mpr fun y hy => (scB y hy).1]
    rfl
  refine ⟨rows, pl, doors, folk, digits, scenes, b, rfl, ?_, dU_all fun e he => List.all_eq_true.mp c5 e (hdoors.mem he), ?_⟩
  · have hg : groundV (pl.map .str) doors folk scenes b = none := by
      unfold groundV
      rw [firstNot_none drO, firstNot_none fun y hy => (folkB y hy).2.1]
      show (if hasKey key0 scenes b = true then none else some (("begin" : Str), D.int (-1))) = none
      rw [if_pos (hasKey_of ks hb)]
    have hv : sceneV (nmOk rows (pl.map .str) folk scenes) 0 scenes = none := sceneV_none fun s hs e he => by
      obtain ⟨x, hx, rfl⟩ := List.mem_map.mp he
      cases (scB s hs).2.1 x hx with
      | @num t ht => exact hasKey_of (t := t) kr ht
      | @seen t ht => exact hasKey_of (t := t) ks ht
      | @sce t ht => exact hasKey_of (t := t) ks ht
      | @fig t ht => exact hasKey_of (t := t) kf ht
      | @pla t ht => exact hasKey_of (t := t) kp ht
    unfold wholeV
    rw [if_pos hst]
    show (match groundV (pl.map .str) doors folk scenes b with
      | some (v, a) => some (D.str v, a)
      | none => sceneV (nmOk rows (pl.map .str) folk scenes) 0 scenes) = none
    rw [hg]
    exact hv
  · have r1 : Sm 3 201 (.tup rows) := Sm.list (m := 10) (fun y hy => (rowsB y hy).2) (by rw [← List.length_map (f := key0), kr]; exact sub_len nu1 (by decide)) (by decide) (by omega)
    have r2 : Sm 2 91 (.tup (pl.map .str)) := Sm.list (z := 9) (m := 10) (fun y hy => by
      obtain ⟨t, ht, rfl⟩ := List.mem_map.mp hy
      exact Sm.str (sP t ht)) (by rw [List.length_map]; exact sub_len pl1 (by decide)) (by decide) (by omega)
    have r3 : Sm 3 201 (.tup doors) := Sm.list (z := 20) (m := 10) (fun y hy => by
      obtain ⟨s, t, rfl, h1, h2⟩ := drE y hy
      exact (Sms.cons (Sm.str (sP s h1)) (.cons (Sm.str (sP t h2)) .nil)).tup (by decide) (by omega)) (by omega) (by decide) (by omega)
    have r4 : Sm 3 201 (.tup folk) := Sm.list (m := 10) (fun y hy => (folkB y hy).2.2) (by rw [← List.length_map (f := key0), kf]; exact sub_len fi1 (by decide)) (by decide) (by omega)
    have r5 : Sm 2 11 (.tup digits) := Sm.list (z := 1) (m := 10) (fun y hy => by
      obtain ⟨v, rfl, v1, v2⟩ := hdig y hy
      exact Sm.int (by omega)) (by omega) (by decide) (by omega)
    have r6 : Sm 14 72001 (.tup scenes) := Sm.list (m := 4) (fun y hy => (scB y hy).2.2) (by rw [← List.length_map (f := key0), ks]; exact l4) (by decide) (by omega)
    exact ((Sms.cons (r1.mono (show 3 ≤ 14 by decide) (Nat.le_refl _)) (.cons (r2.mono (by decide) (Nat.le_refl _)) (.cons (r3.mono (by decide) (Nat.le_refl _)) (.cons (r4.mono (by decide) (Nat.le_refl _)) (.cons (r5.mono (by decide) (Nat.le_refl _)) (.cons r6 (.cons (Sm.str (sS b hb)) .nil))))))).tup (by decide) (Nat.le_refl _)).mono (by decide) (by decide)
end Fk
set_option Elab.async false
set_option linter.all false
set_option maxRecDepth 100000
set_option maxHeartbeats 4000000
/-! T1: a set of tuples of texts, few enough never to be laid anew: what is asked of a key, the search. -/
namespace Fk
open PySem PySem.Spec PyProof.Rows L2
/-- the tuple at a holds the texts k -/
abbrev TxT (P : Program) (w : World) (h : Heap) (k : List Str) (a : Addr) : Prop := IsTupleKey (PySem.strKind P w) h k a
abbrev txh (P : Program) (w : World) (k : List Str) : Int := tupleKeyHash (PySem.strKind P w) k
section
variable {P : Program} {w : World} {A : Around} {E : Value → Shared → Prop} {s : Shared}
theorem txt_items {k : List Str} : ∀ {vs : List Value}, ItemsAre (PySem.strKind P w) k vs → ∀ v ∈ vs, ∃ x t, v = Value.str x t := by
  intro vs h
  induction h with
  | nil => exact fun v hv => absurd hv List.not_mem_nil
  | cons h1 _ ih =>
    intro v hv
    rcases List.mem_cons.mp hv with rfl | hv
    · obtain ⟨t, e⟩ := Value.isStrOf_shape h1
      exact ⟨_, t, e⟩
    · exact ih v hv
/-- every small question about a tuple of texts is answered by b: a walk over its items -/
theorem txt_class {k : List Str} {b : Addr} {Q : Bool → Shared → Prop} (hk : TxT P w s.heap k b) (q : Q false s) : wpAny (model P w) A (ofAClassStatement 8 (.ref b)) Q E s := by
  have ty := hk.typeIs
  obtain ⟨o, its, n, ho, _, hd, hi⟩ := hk
  have lone : ∀ (m : Nat) (x : Str) (t : Tok), ofAClassStatement m (.str x t) = pure false := fun m x t => by cases m <;> rfl
  unfold ofAClassStatement
  refine wpAny_bind (wpAny_typeOf ty ?_)
  dsimp only
  have e : (("tuple" : String) == "tuple") = true := by decide
  simp only [e, if_true, Bool.not_true, Bool.false_eq_true, if_false]
  try refine wpAny_bind (wpAny_pure ?_)
  try simp only [Bool.not_true, Bool.false_eq_true, if_false]
  show wpAny _ _ (seqItems? (.ref b) >>= _) _ _ s
  refine wpAny_bind (wpAny_seqItems ho hd ?_)
  dsimp only
  refine wpAny_bind ?_
  show wpAny _ _ (forIn its _ _) _ _ s
  rw [← Array.forIn_toList]
  refine wpAny_forIn_list _ (fun left r u => r.1 = none ∧ u = s ∧ ∀ v ∈ left, ∃ x t, v = Value.str x t) _ ?_ ?_ _ _ ⟨rfl, rfl, txt_items hi⟩
  · rintro v left r u ⟨hr, rfl, all⟩
    obtain ⟨x, t, rfl⟩ := all v List.mem_cons_self
    rw [lone]
    refine wpAny_bind (wpAny_pure ?_)
    simp only [Bool.false_eq_true, if_false]
    exact wpAny_pure ⟨rfl, rfl, fun y hy => all y (List.mem_cons_of_mem _ hy)⟩
  · rintro ⟨r1, r2⟩ u ⟨hr, rfl, _⟩
    simp only at hr
    subst hr
    exact wpAny_pure q
theorem txt_value {x : Str} {k : List Str} {b : Addr} {Q : Bool → Shared → Prop} (hk : TxT P w s.heap (x :: k) b) (q : Q false s) : wpAny (model P w) A (hashByValue 8 (.ref b)) Q E s := by
  have ty := hk.typeIs
  obtain ⟨o, its, n, ho, _, hd, hi⟩ := hk
  have lone : ∀ (m : Nat) (x : Str) (t : Tok), hashByValue m (.str x t) = pure false := fun m x t => by cases m <;> rfl
  obtain ⟨v, vs, e⟩ : ∃ v vs, its.toList = v :: vs := by
    generalize its.toList = l at hi
    cases hi with
    | cons _ _ => exact ⟨_, _, rfl⟩
  obtain ⟨y, t, rfl⟩ := txt_items hi v (by rw [e]; exact List.mem_cons_self)
  unfold hashByValue
  refine wpAny_bind (wpAny_specialOf ty F.slot_tuple_hash.lookup ?_)
  show wpAny _ _ (seqItems? (.ref b) >>= _) _ _ s
  refine wpAny_bind (wpAny_seqItems ho hd ?_)
  refine wpAny_bind ?_
  show wpAny _ _ (forIn its _ _) _ _ s
  rw [← Array.forIn_toList, e, List.forIn_cons, lone]
  refine wpAny_bind (wpAny_bind (wpAny_pure ?_))
  simp only [Bool.not_false, if_true]
  refine wpAny_pure ?_
  exact wpAny_pure (wpAny_pure q)
theorem txt_seen {k : List Str} {b : Addr} {Q : Bool → Shared → Prop} (hk : TxT P w s.heap k b) {ys : List Value} (hy : ∀ y ∈ ys, ∃ k2 c, y = Value.ref c ∧ TxT P w s.heap k2 c) (q : Q false s) : wpAny (model P w) A (searchCouldBeSeen (.ref b) ys) Q E s := by
  unfold searchCouldBeSeen
  refine wpAny_bind ?_
  refine wpAny_forIn_list _ (fun left r u => r.1 = none ∧ u = s ∧ ∀ y ∈ left, ∃ k2 c, y = Value.ref c ∧ TxT P w s.heap k2 c) _ ?_ ?_ _ _ ⟨rfl, rfl, hy⟩
  · rintro v left r u ⟨hr, rfl, all⟩
    obtain ⟨k2, c, rfl, hc⟩ := all v List.mem_cons_self
    have more : ∀ y ∈ left, ∃ k2 c, y = Value.ref c ∧ TxT P w u.heap k2 c := fun y h => all y (List.mem_cons_of_mem _ h)
    dsimp only
    by_cases hv : (b == c || (carriedByValue (.ref b) && carriedByValue (.ref c))) = true
    · exact wp_if_pos hv (wpAny_pure ⟨rfl, rfl, more⟩)
    · refine wp_if_neg hv (wpAny_bind (wpAny_eqIsQuiet_tuple hk ?_))
      simp only [Bool.not_true, Bool.false_eq_true, if_false]
      refine wpAny_bind (wpAny_eqIsQuiet_tuple hc ?_)
      simp only [Bool.not_true, Bool.false_eq_true, if_false]
      refine wpAny_bind (txt_class hk ?_)
      simp only [Bool.false_eq_true, if_false]
      refine wpAny_bind (txt_class hc ?_)
      simp only [Bool.false_eq_true, if_false]
      exact wpAny_pure ⟨rfl, rfl, more⟩
  · rintro ⟨r1, r2⟩ u ⟨hr, rfl, _⟩
    simp only at hr
    subst hr
    exact wpAny_pure q
/-- the keys that may come -/
def U4K : List (List Str) := U4.map fun p => [p.1, p.2]
/-- at a stands a set of these tuples, its table the first and smallest -/
structure PSt (P : Program) (w : World) (h : Heap) (a : Addr) (L : List (Addr × List Str)) (es : Array (Int × Value)) (ep : Nat) (t : SetTable) : Prop where
  ob : ∃ o, h.get? a = some o ∧ o.ExactSet ∧ o.data = .set es ep t
  rows : es.toList = L.map fun p => (txh P w p.2, Value.ref p.1)
  tab : TabOk t (L.map fun p => txh P w p.2)
  nd : (L.map (·.2)).Nodup
  tup : ∀ p ∈ L, TxT P w h p.2 p.1
  led : w.params.followText "set-order" = true ∨ t.led = true
  m7 : t.mask = 7
  sub : ∀ p ∈ L, p.2 ∈ U4K
theorem few_of : ∀ {l m : List (List Str)}, l.Nodup → (∀ x ∈ l, x ∈ m) → l.length ≤ m.length
  | [], _, _, _ => Nat.zero_le _
  | x :: l, m, hn, hs => by
    have h1 := List.nodup_cons.mp hn
    have hx := hs x List.mem_cons_self
    have ih := few_of (m := m.erase x) h1.2 fun y hy => (List.mem_erase_of_ne fun e => h1.1 (by rw [← e]; exact hy)).mpr (hs y (List.mem_cons_of_mem _ hy))
    have el := List.length_erase_of_mem hx
    have pos := List.length_pos_of_mem hx
    rw [List.length_cons]
    omega
variable {a : Addr} {L : List (Addr × List Str)} {es : Array (Int × Value)} {ep : Nat} {t : SetTable}
theorem PSt.few {h : Heap} (R : PSt P w h a L es ep t) : L.length ≤ 4 := by
  have := few_of R.nd (m := U4K) fun x hx => by
    obtain ⟨p, hp, rfl⟩ := List.mem_map.mp hx
    exact R.sub p hp
  rw [List.length_map] at this
  exact this
theorem PSt.size {h : Heap} (R : PSt P w h a L es ep t) : es.size = L.length := by
  have e := congrArg List.length R.rows
  rwa [Array.length_toList, List.length_map] at e
theorem PSt.fits {h : Heap} (R : PSt P w h a L es ep t) : t.fits es.size = true := by
  have s1 := R.tab.sz
  rw [List.length_map] at s1
  have s2 := R.size
  have s3 := R.few
  have s4 := R.m7
  unfold SetTable.fits SetTable.fill
  rw [R.tab.dm, Bool.and_eq_true, beq_iff_eq, decide_eq_true_eq]
  show t.place.size = es.size ∧ t.place.size + 0 ≤ t.mask
  omega
theorem PSt.row {h : Heap} (R : PSt P w h a L es ep t) {i : Nat} {p : Addr × List Str} (e : L[i]? = some p) : es[i]? = some (txh P w p.2, Value.ref p.1) := by
  rw [← Array.getElem?_toList, R.rows, List.getElem?_map, e]
  rfl
/-- where the way of k begins -/
abbrev way0 (P : Program) (w : World) (k : List Str) (t : SetTable) : SetTable.Probe := runAt t.mask (SetTable.bits (txh P w k) % (t.mask + 1)) (SetTable.bits (txh P w k))
theorem nth_nodummy (m : Nat) : ∀ (n : Nat) (p : SetTable.Probe), p.dummy = none → (nth m p n).dummy = none
  | 0, _, h => h
  | n + 1, p, h => nth_nodummy m n (adv m p) (by
    unfold adv
    split <;> exact h)
/-- the search from the c-th step of k's way on, where step K is the first that is free -/
theorem txt_search (R : PSt P w s.heap a L es ep t) {x : Addr} {k : List Str} (hx : TxT P w s.heap k x) (hu : A.units < cLine) {K : Nat} (hKf : K < 10 * SetTable.turns t.mask) (free : way t.mask (txh P w k) K ∉ t.place.toList)
    (held : ∀ c, c < K → way t.mask (txh P w k) c ∈ t.place.toList) {Q : SetFound → Shared → Prop} (inn : k ∈ L.map (·.2) → Q (.there none) s) (out : k ∉ L.map (·.2) → Q (.free (way t.mask (txh P w k) K) false) s) :
    ∀ (f c : Nat) (stand : Option SetTable.Probe), stand.getD (t.probeStart (txh P w k)) = nth t.mask (way0 P w k t) c → c ≤ K → K - c < f →
      (∀ (i : Nat) p, L[i]? = some p → p.2 = k → ∃ d, c ≤ d ∧ d < K ∧ t.place.toList[i]? = some (way t.mask (txh P w k) d)) → wpAny (model P w) A (setSearchFrom a (.ref x) (txh P w k) true f stand) Q E s := by
  intro f
  induction f with
  | zero => exact fun c stand _ _ hf _ => absurd hf (Nat.not_lt_zero _)
  | succ f ih =>
    intro c stand st hc hf ahead
    obtain ⟨o, ho, hex, hd⟩ := R.ob
    rw [setSearchFrom_succ]
    refine wpAny_bind (wpAny_setState_of ho hd R.fits ?_)
    dsimp only
    have ngw : ¬ t.gaveWay = true := by
      unfold SetTable.gaveWay
      rw [mask_odd R.tab.mok]
      decide
    refine wp_if_neg ngw ?_
    try refine wpAny_bind (wpAny_pure ?_)
    have go2 : ∀ q, nth t.mask (nth t.mask (way0 P w k t) c) q = nth t.mask (way0 P w k t) (c + q) := fun q => (nth_add t.mask c _ q).symm
    have wy : ∀ q, (nth t.mask (nth t.mask (way0 P w k t) c) q).j = way t.mask (txh P w k) (c + q) := fun q => congrArg SetTable.Probe.j (go2 q)
    have hsh : ∀ (i : Nat) p, L[i]? = some p → (fun i => (es[i]?.map (·.1)).getD 0) i = txh P w p.2 := fun i p hp => by
      show (es[i]?.map (·.1)).getD 0 = _
      rw [R.row hp]
      rfl
    have told := go_spec t R.tab.ris R.tab.dm (fun i => (es[i]?.map (·.1)).getD 0) (txh P w k) (10 * SetTable.turns t.mask) (K - c) (nth t.mask (way0 P w k t) c) (nth_nodummy t.mask c _ rfl) (by omega)
      (fun q hq => by rw [wy]; exact held (c + q) (by omega)) (by rw [wy, show c + (K - c) = K by omega]; exact free)
    rcases told with ⟨q, i, hq, hi, _, passed, pr⟩ | ⟨passed, pr⟩
    · rw [wy] at hi
      have met : t.probe (fun i => (es[i]?.map (·.1)).getD 0) (txh P w k) (stand.getD (t.probeStart (txh P w k))) = some (.candidate (way t.mask (txh P w k) (c + q)) i (nth t.mask (way0 P w k t) (c + (q + 1)))) := by
        rw [st, ← wy, ← go2]
        exact pr
      rw [met]
      dsimp only
      have il : i < L.length := by
        have z1 := (List.getElem?_eq_some_iff.mp hi).1
        have z2 := R.tab.sz
        rw [List.length_map] at z2
        rw [Array.length_toList] at z1
        omega
      obtain ⟨p, hp⟩ : ∃ p, L[i]? = some p := ⟨_, List.getElem?_eq_getElem il⟩
      have pm := List.mem_of_getElem? hp
      have slot : t.slot (way t.mask (txh P w k) (c + q)) = .live i := slot_live R.tab.ris hi
      have look : wpAny (model P w) A (searchRest a (.ref x) (txh P w k) true f es t (way t.mask (txh P w k) (c + q)) i (nth t.mask (way0 P w k t) (c + (q + 1)))) Q E s := by
        unfold searchRest
        rw [R.row hp]
        dsimp only
        refine wpAny_bind (wpAny_holding (wpAny_eqBool_tuple hu (R.tup p pm) hx ?_))
        refine wpAny_bind (wpAny_setState_of ho hd R.fits ?_)
        dsimp only
        by_cases same : p.2 = k
        · exact wp_if_pos (by simp [same]) (wpAny_pure (inn (List.mem_map.mpr ⟨p, pm, same⟩)))
        · refine wp_if_neg (by simp [same]) ?_
          try refine wpAny_bind (wpAny_pure ?_)
          rw [sameMem]
          dsimp only
          simp only [if_true, slot, R.row hp]
          refine wpAny_bind (wpAny_isSame_ref_self (wpAny_bind (wpAny_pure ?_)))
          simp only [if_true]
          refine wp_if_neg (by simp [same]) (ih (c + (q + 1)) _ rfl (by omega) (by omega) fun i0 p0 h0 k0 => ?_)
          obtain ⟨d, d1, d2, d3⟩ := ahead i0 p0 h0 k0
          refine ⟨d, ?_, d2, d3⟩
          rcases Nat.lt_trichotomy d (c + q) with z | z | z
          · exact absurd ((hsh i0 p0 h0).trans (congrArg (txh P w) k0)) (passed (d - c) i0 (by omega) (by rw [wy, show c + (d - c) = d by omega]; exact d3))
          · rw [z] at d3
            have z2 := slot_live R.tab.ris d3
            rw [slot] at z2
            injection z2 with z2
            rw [← z2, hp] at h0
            exact absurd ((congrArg Prod.snd (Option.some.inj h0)).trans k0) same
          · omega
      by_cases hl : t.led = true
      · refine wp_if_neg (by simp [hl]) ?_
        try refine wpAny_bind (wpAny_pure ?_)
        exact look
      · refine wp_if_pos (by simp [hl]) (wpAny_bind (txt_seen hx (fun y hy => ?_) ?_))
        · obtain ⟨e, he, rfl⟩ := List.mem_map.mp hy
          have he1 : e ∈ es ∧ e.1 = txh P w k := by simpa using he
          have he2 : e ∈ es.toList := by simpa using he1.1
          rw [R.rows] at he2
          obtain ⟨p2, hp2, rfl⟩ := List.mem_map.mp he2
          exact ⟨p2.2, p2.1, rfl, R.tup p2 hp2⟩
        · refine wp_if_neg (by decide) ?_
          try refine wpAny_bind (wpAny_pure ?_)
          exact look
    · have met : t.probe (fun i => (es[i]?.map (·.1)).getD 0) (txh P w k) (stand.getD (t.probeStart (txh P w k))) = some (.empty (way t.mask (txh P w k) K) none) := by
        have e2 : way t.mask (txh P w k) K = (nth t.mask (nth t.mask (way0 P w k t) c) (K - c)).j := by rw [wy, show c + (K - c) = K by omega]
        rw [st, e2]
        exact pr
      rw [met]
      dsimp only
      refine wpAny_pure (out fun hm => ?_)
      obtain ⟨p0, h0, k0⟩ := List.mem_map.mp hm
      obtain ⟨i0, hi0, rfl⟩ := List.getElem_of_mem h0
      have at0 : L[i0]? = some L[i0] := List.getElem?_eq_getElem hi0
      obtain ⟨d, d1, d2, d3⟩ := ahead i0 _ at0 k0
      exact passed (d - c) i0 (by omega) (by rw [wy, show c + (d - c) = d by omega]; exact d3) ((hsh i0 _ at0).trans (congrArg (txh P w) k0))
theorem txt_find (R : PSt P w s.heap a L es ep t) {x : Addr} {k : List Str} (hx : TxT P w s.heap k x) (hu : A.units < cLine) {Q : SetFound → Shared → Prop} (inn : k ∈ L.map (·.2) → Q (.there none) s)
    (out : ∀ K, k ∉ L.map (·.2) → way t.mask (txh P w k) K ∉ t.place.toList → (∀ c, c < K → way t.mask (txh P w k) c ∈ t.place.toList) → Q (.free (way t.mask (txh P w k) K) false) s) :
    wpAny (model P w) A (setSearch a (.ref x) (txh P w k) true) Q E s := by
  have s3 := R.few
  have s4 := R.m7
  obtain ⟨K, hKf, free, held⟩ := R.tab.first (by rw [List.length_map]; omega) (txh P w k)
  have hb : K < 100000 := by
    have : 10 * SetTable.turns t.mask ≤ 1420 := by
      unfold SetTable.turns
      omega
    omega
  unfold setSearch
  refine txt_search R hx hu hKf free held inn (fun hn => out K hn free held) 100000 0 none rfl (Nat.zero_le _) (by omega) fun i p hp hk => ?_
  have hi : (L.map fun p => txh P w p.2)[i]? = some (txh P w k) := by
    rw [List.getElem?_map, hp, ← hk]
    rfl
  have il : i < t.place.toList.length := by
    have z1 := (List.getElem?_eq_some_iff.mp hp).1
    have z2 := R.tab.sz
    rw [List.length_map] at z2
    rw [Array.length_toList]
    omega
  have hj := List.getElem?_eq_getElem il
  obtain ⟨d, d1, d2⟩ := R.tab.before free hi hj
  exact ⟨d, Nat.zero_le _, d1, by rw [hj, d2]⟩
end
end Fk
set_option Elab.async false
set_option linter.all false
set_option maxRecDepth 100000
set_option maxHeartbeats 4000000
/-! T2: a tuple of texts is added to a set; set(x), x a tuple of them. -/
namespace Fk
open PySem PySem.Spec PyProof.Rows L2
section
variable {P : Program} {w : World} {A : Around} {E : Value → Shared → Prop} {s : Shared} {a : Addr} {L : List (Addr × List Str)} {es : Array (Int × Value)} {ep : Nat} {t : SetTable}
theorem txt_other {h h' : Heap} {k : List Str} {b : Addr} {o : Obj} (hb : TxT P w h k b) (ho : h.get? a = some o) (hd : o.data = .set es ep t) (hs : Heap.SameBut a h h') : TxT P w h' k b := by
  obtain ⟨u, its, n, hu, hc, hd2, hi⟩ := hb
  refine ⟨u, its, n, (hs.2 b fun z => ?_).trans hu, hc, hd2, hi⟩
  subst z
  rw [ho] at hu
  cases hu
  rw [hd] at hd2
  cases hd2
theorem txt_stay {h h' : Heap} {k : List Str} {b : Addr} (x : TxT P w h k b) (hk : ∀ c o, h.get? c = some o → h'.get? c = some o) : TxT P w h' k b := by
  obtain ⟨o, its, n, ho, r⟩ := x
  exact ⟨o, its, n, hk b o ho, r⟩
theorem put_in {α : Type} (l : List α) (p : Nat) (x : α) : (l.take p ++ x :: l.drop p).Perm (x :: l) := by
  have h : (l.take p ++ x :: l.drop p).Perm (x :: (l.take p ++ l.drop p)) := List.perm_middle
  rwa [List.take_append_drop] at h
theorem u4_cons {k : List Str} (h : k ∈ U4K) : ∃ x r, k = x :: r := by
  obtain ⟨p, _, rfl⟩ := List.mem_map.mp h
  exact ⟨_, _, rfl⟩
theorem txt_add (R : PSt P w s.heap a L es ep t) {x : Addr} {k : List Str} (hx : TxT P w s.heap k x) (hk : k ∈ U4K) (hu : A.units < cLine) {Q : Bool → Shared → Prop}
    (hQ : ∀ b h' L' es' ep' t', Heap.SameBut a s.heap h' → PSt P w h' a L' es' ep' t' → (k ∈ L.map (·.2) → L' = L) → (k ∉ L.map (·.2) → L'.Perm ((x, k) :: L)) → Q b { s with heap := h' }) :
    wpAny (model P w) A (setAddHashed a (.ref x) (txh P w k)) Q E s := by
  obtain ⟨o, ho, hex, hd⟩ := R.ob
  unfold setAddHashed
  refine wpAny_holding ?_
  rw [show (100000 : Nat) = 99999 + 1 from rfl, setAddHashedIn_succ]
  refine wpAny_bind (wpAny_setState_of ho hd R.fits ?_)
  dsimp only
  refine wp_if_neg (by simp [byScan, Value.scannable]) ?_
  try refine wpAny_bind (wpAny_pure ?_)
  refine wpAny_bind (txt_find R hx hu (fun hm => ?_) fun K hm free held => ?_)
  · dsimp only
    exact wpAny_pure (hQ false s.heap L es ep t (Heap.SameBut.refl a s.heap) R (fun _ => rfl) fun z => absurd hm z)
  · dsimp only
    refine wpAny_bind (wpAny_setState_of ho hd R.fits ?_)
    dsimp only
    obtain ⟨u1, u2, u3, u4, u5, u6, u7, u8, u9⟩ := R.tab.put free held
    generalize t.put (way t.mask (txh P w k) K) = pt at u1 u3 u4 u5 u6 u7 u8 u9 ⊢
    obtain ⟨t1, p⟩ := pt
    dsimp only at u1 u3 u4 u5 u6 u7 u8 u9 ⊢
    subst u1
    generalize hp : SetTable.below t.place (way t.mask (txh P w k) K) = p at u2 u3 ⊢
    have pm := put_in L p (x, k)
    have el : (L.take p ++ (x, k) :: L.drop p).map (fun q => txh P w q.2) = (L.map fun q => txh P w q.2).take p ++ txh P w k :: (L.map fun q => txh P w q.2).drop p := by rw [List.map_append, List.map_cons, List.map_take, List.map_drop]
    rw [← el] at u3
    have rows : (SetTable.insertAt es p (txh P w k, Value.ref x)).toList = (L.take p ++ (x, k) :: L.drop p).map fun q => (txh P w q.2, Value.ref q.1) := by
      rw [SetTable.toList_insertAt, R.rows, List.map_append, List.map_cons, List.map_take, List.map_drop]
    have nd : ((L.take p ++ (x, k) :: L.drop p).map (·.2)).Nodup := (pm.map (·.2)).nodup_iff.mpr (by
      rw [List.map_cons]
      exact List.nodup_cons.mpr ⟨hm, R.nd⟩)
    have sub : ∀ q ∈ L.take p ++ (x, k) :: L.drop p, q.2 ∈ U4K := fun q hq => by
      rcases List.mem_cons.mp (pm.mem_iff.mp hq) with rfl | hq
      · exact hk
      · exact R.sub q hq
    have len := pm.length_eq
    rw [List.length_cons] at len
    have few : L.length + 1 ≤ 4 := by
      have := few_of nd (m := U4K) fun y hy => by
        obtain ⟨q, hq, rfl⟩ := List.mem_map.mp hy
        exact sub q hq
      rw [List.length_map, len] at this
      exact this
    have sz : (SetTable.insertAt es p (txh P w k, Value.ref x)).size = L.length + 1 := by
      have e := congrArg List.length rows
      rwa [Array.length_toList, List.length_map, len] at e
    have tupx : ∀ q ∈ L.take p ++ (x, k) :: L.drop p, TxT P w s.heap q.2 q.1 := fun q hq => by
      rcases List.mem_cons.mp (pm.mem_iff.mp hq) with rfl | hq
      · exact hx
      · exact R.tup q hq
    generalize SetTable.insertAt es p (txh P w k, Value.ref x) = es1 at rows sz ⊢
    generalize L.take p ++ (x, k) :: L.drop p = L1 at pm u3 nd sub rows len tupx
    have m1 : t1.mask = 7 := u4.trans R.m7
    have rest : ∀ t2 : SetTable, TabOk t2 (L1.map fun q => txh P w q.2) → t2.mask = 7 → (w.params.followText "set-order" = true ∨ t2.led = true) → t2.fill = L.length + 1 →
        wpAny (model P w) A (do
          storeSet a es1 t2
          if !false && t2.tooFull then setRelay a (SetTable.grown (es.size + 1))
          return true) Q E s := fun t2 T2 m2 l2 f2 => by
      refine wpAny_bind (wpAny_storeSet_of ho hd ?_ (by rw [sz, sizeLine_eq]; omega))
      have sb : Heap.SameBut a s.heap (s.heap.update a (Obj.putSet es1 t2)) := Heap.SameBut.update ..
      have nf : ¬ t2.tooFull = true := by
        unfold SetTable.tooFull
        rw [decide_eq_true_eq, f2, m2]
        omega
      first
        | refine wp_if_neg (by simp [nf]) ?_
        | (refine wpAny_bind ?_; refine wp_if_neg (by simp [nf]) ?_; refine wpAny_pure ?_)
      refine wpAny_pure (hQ true _ L1 es1 (ep + 1) t2 sb ⟨⟨_, store_at ho hd, ⟨hex.1, hex.2.1, hex.2.2⟩, rfl⟩, rows, T2, nd, fun q hq => txt_other (tupx q hq) ho hd sb, l2, m2, sub⟩ (fun z => absurd z hm) fun _ => pm)
    have l1 : w.params.followText "set-order" = true ∨ t1.led = true := by rw [u5]; exact R.led
    have f1 : t1.fill = L.length + 1 := by rw [u9, List.length_map]
    by_cases pl : t1.plain = true
    · obtain ⟨y, r, rfl⟩ := u4_cons hk
      first
        | (refine wpAny_bind ?_; refine wp_if_pos pl ?_; refine txt_value hx ?_)
        | refine wp_if_pos pl (wpAny_bind (txt_value hx ?_))
      simp only [Bool.false_eq_true, if_false]
      exact rest { t1 with plain := false } ⟨u3.ris, u3.dm, u3.sz, u3.mok, u3.bd, u3.reach⟩ m1 l1 f1
    · first
        | (refine wpAny_bind ?_; refine wp_if_neg pl ?_; refine wpAny_pure ?_)
        | refine wp_if_neg pl (wpAny_bind (wpAny_pure ?_))
      simp only [if_true]
      exact rest t1 u3 m1 l1 f1
/-- what the set has got of the first i items -/
structure Took (ks : List (Addr × List Str)) (i : Nat) (L : List (Addr × List Str)) : Prop where
  sub : ∀ p ∈ L, p ∈ ks.take i
theorem Took.up {ks L : List (Addr × List Str)} {i : Nat} (g : Took ks i L) : Took ks (i + 1) L := ⟨fun p hp => (List.take_sublist_take_left (Nat.le_succ i)).mem (g.sub p hp)⟩
theorem Took.put {ks L L' : List (Addr × List Str)} {i : Nat} {x : Addr × List Str} (g : Took ks i L) (h : ks[i]? = some x) (pm : L'.Perm (x :: L)) : Took ks (i + 1) L' := ⟨fun p hp => by
  rcases List.mem_cons.mp (pm.mem_iff.mp hp) with rfl | hp
  · rw [List.take_add_one, h]
    exact List.mem_append_right _ (List.mem_singleton_self _)
  · exact g.up.sub p hp⟩
theorem pst_new {h : Heap} (ho : h.get? a = some { cls := .type "set", dict := none, data := .set #[] 0 (.fresh 0 0 (!w.params.followText "set-order")) }) : PSt P w h a [] #[] 0 (.fresh 0 0 (!w.params.followText "set-order")) := by
  refine ⟨⟨_, ho, ⟨rfl, rfl, rfl⟩, rfl⟩, rfl, ⟨List.Pairwise.nil, rfl, rfl, .inl rfl, fun x hx => absurd hx List.not_mem_nil, fun i h j hi => by simp at hi⟩, List.nodup_nil, fun p hp => absurd hp List.not_mem_nil, ?_, rfl, fun p hp => absurd hp List.not_mem_nil⟩
  show _ ∨ (!w.params.followText "set-order") = true
  cases w.params.followText "set-order"
  · exact .inr rfl
  · exact .inl rfl
theorem PSt.stay {h h' : Heap} (R : PSt P w h a L es ep t) (ha : ∀ o, h.get? a = some o → h'.get? a = some o) (ht : ∀ p ∈ L, TxT P w h' p.2 p.1) : PSt P w h' a L es ep t := by
  obtain ⟨o, ho, r⟩ := R.ob
  exact ⟨⟨o, ha o ho, r⟩, R.rows, R.tab, R.nd, ht, R.led, R.m7, R.sub⟩
/-- the loop of set.update over a walk of such tuples -/
theorem txt_loop {I : Addr} {fp wr : List Addr} {G : Array GenState → Array GenState → Prop} {n : Nat} {Pv : Nat → Value → Prop} {St : Nat → Shared → Prop} {R : Result → Shared → Prop} (W : WalksS P w A.in1 I fp wr G n Pv St) (S : Addr) (hSf : S ∉ fp)
    (ks : List (Addr × List Str)) (hn : n = ks.length) (hval : ∀ i v, Pv i v → ∃ p, ks[i]? = some p ∧ v = .ref p.1) (h0 : Heap) (hk : ∀ p ∈ ks, TxT P w h0 p.2 p.1) (hk4 : ∀ p ∈ ks, p.2 ∈ U4K) (hS0 : h0.get? S = none) (hw0 : ∀ b ∈ wr, h0.get? b = none) (hu : A.in1.units < cLine) :
    ∀ (k i : Nat) (s : Shared), n - i = k → i ≤ n → St i s → (∀ b o, h0.get? b = some o → s.heap.get? b = some o) → (∃ L es ep t, PSt P w s.heap S L es ep t ∧ Took ks i L) →
      (∀ s' L es ep t, Moved (S :: wr) G s s' → PSt P w s'.heap S L es ep t → Took ks n L → (∀ b o, h0.get? b = some o → s'.heap.get? b = some o) → R (.ok (.ret .none)) s') →
      codeAny (model P w) A (.builtin "set.update.loop" ⟨[.ref S, .ref I], []⟩) R s := by
  have hSw : S ∉ wr := fun h => hSf (W.sub _ h)
  have into : ∀ b ∈ wr, b ∈ S :: wr := fun b hb => List.mem_cons_of_mem _ hb
  have held : ∀ {s s' : Shared}, Moved wr G s s' → (∀ b o, h0.get? b = some o → s.heap.get? b = some o) → ∀ b o, h0.get? b = some o → s'.heap.get? b = some o := fun {s s'} hm kp b o e => hm.heap b o (fun hb => by
    rw [hw0 b hb] at e
    cases e) (kp b o e)
  have own : ∀ {L : List (Addr × List Str)} {i : Nat}, Took ks i L → ∀ p ∈ L, p ∈ ks := fun {L i} g p hp => List.mem_of_mem_take (g.sub p hp)
  intro k
  induction k with
  | zero =>
    intro i s hk' hi hst kp ⟨L, es, ep, t, hS, g⟩ done
    obtain rfl : i = n := by omega
    refine codeAny_builtin F.entry_set_update_loop ?_
    rw [Around.under_plainId F.plain_set_update_loop _]
    show wpAny _ A.in1 (pyNext (.ref I) >>= _) _ _ s
    refine wpAny_bind (W.done s _ _ hst fun s' hm => ?_)
    show wpAny _ A.in1 (ret Value.none) _ _ s'
    have kp2 := held hm kp
    exact wpAny_pure (done s' L es ep t (hm.mono into) (hS.stay (fun o e => hm.heap S o hSw e) fun p hp => txt_stay (hk p (own g p hp)) kp2) g kp2)
  | succ k ih =>
    intro i s hk' hi hst kp ⟨L, es, ep, t, hS, g⟩ done
    have lt : i < n := by omega
    refine codeAny_builtin F.entry_set_update_loop ?_
    rw [Around.under_plainId F.plain_set_update_loop _]
    show wpAny _ A.in1 (pyNext (.ref I) >>= _) _ _ s
    refine wpAny_bind (W.item i s _ _ lt hst fun v s' hP hst2 hm => ?_)
    obtain ⟨p, hp, rfl⟩ := hval i v hP
    have pk := List.mem_of_getElem? hp
    have kp2 := held hm kp
    have hS2 : PSt P w s'.heap S L es ep t := hS.stay (fun o e => hm.heap S o hSw e) fun q hq => txt_stay (hk q (own g q hq)) kp2
    have hx : TxT P w s'.heap p.2 p.1 := txt_stay (hk p pk) kp2
    show wpAny _ A.in1 (holding [Value.ref p.1] (setAdd S (.ref p.1)) >>= _) _ _ s'
    refine wpAny_bind (wpAny_holding ?_)
    unfold setAdd
    refine wpAny_holding (wpAny_bind (wpAny_pyHash_tuple hu hx ?_))
    refine txt_add (s := { s' with toks := s'.toks + (p.2.length + 1) }) hS2 hx (hk4 p pk) hu fun b h' L' es' ep' t' sb hS3 c1 c2 => ?_
    have g2 : Took ks (i + 1) L' := by
      by_cases c : p.2 ∈ L.map (·.2)
      · rw [c1 c]
        exact g.up
      · exact g.put hp (c2 c)
    have kp3 : ∀ b o, h0.get? b = some o → h'.get? b = some o := fun b o e => (sb.2 b fun z => by
      rw [z, hS0] at e
      cases e).trans (kp2 b o e)
    refine wpAny_pure ⟨plainId_quiet F.plain_set_update_loop _, ih (i + 1) _ (by omega) lt (W.frame _ s' _ _ hst2 (Nat.le_add_right _ _) fun b hb o e => ?_) kp3 ⟨L', es', ep', t', hS3, g2⟩ fun s'' L2 es2 ep2 t2 m2 hS4 g3 kp4 => ?_⟩
    · rw [sb.2 b fun z : b = S => hSf (by rw [← z]; exact hb)]
      exact e
    · refine done s'' L2 es2 ep2 t2 (Moved.trans W.gtrans ((hm.mono into).then_heap (Nat.le_add_right _ _) fun b o hb e => ?_) m2) hS4 g3 kp4
      rw [sb.2 b fun z : b = S => hb (by rw [z]; exact List.mem_cons_self)]
      exact e
end
end Fk
set_option Elab.async false
set_option linter.all false
set_option maxRecDepth 100000
set_option maxHeartbeats 4000000
/-! T3: set(x), x a tuple of tuples of texts. -/
namespace Fk
open PySem PySem.Spec PyProof.Rows L2
section
variable {P : Program} {w : World} {A : Around} {E : Value → Shared → Prop} {s : Shared}
theorem set_prs {l : Addr} {items : Array Value} {ks : List (Addr × List Str)} {Q : Value → Shared → Prop} (hh : A.handled = none) (hu : A.units + 8 < cLine) (hl : s.heap.IsTuple l items) (hi : items.toList = ks.map fun p => Value.ref p.1) (hk : ∀ p ∈ ks, TxT P w s.heap p.2 p.1) (hk4 : ∀ p ∈ ks, p.2 ∈ U4K)
    (h : ∀ (h' : Heap) (tk : Nat) (L : List (Addr × List Str)) (es : Array (Int × Value)) (ep : Nat) (t : SetTable), PSt P w h' s.heap.objs.size L es ep t → (∀ p ∈ L, p ∈ ks) → (∀ b o, s.heap.get? b = some o → h'.get? b = some o) → Q (.ref s.heap.objs.size) { s with heap := h', toks := tk }) :
    wpAny (model P w) A (call (.type "set") [.ref l]) Q E s := by
  obtain ⟨c, tl, hmro⟩ := PySem.F.called_set.mro
  have hmade := PySem.F.called_set.made
  have hsub := PySem.F.called_set.sub
  refine wpAny_call (codeAny_of_tree ?_)
  show wpAny _ _ (callAny (.type "set") _) _ _ _
  refine wpAny_pure ⟨Code.quiet_builtin _ (by decide +kernel), codeAny_builtin PySem.F.entry_type_call ?_⟩
  rw [Around.under_plain (weight_type_call_type "set" [.ref l] []) rfl]
  have h1 := PySem.F.called_set.notType
  have h2 := PySem.F.called_set.canCreate
  have hct := PySem.F.typeCall_set_1 (.ref l)
  repeat (any_goals (first | assumption | wp_step))
  refine codeAny_mono (code_set_led1 (.ref l) (E := E) (Q₁ := fun obj s₁ => obj = .ref s.heap.objs.size ∧ s₁ = { s with heap := s.heap.push { cls := .type "set", dict := none, data := .set #[] 0 (.fresh 0 0 (!w.params.followText "set-order")) } }) ⟨rfl, rfl⟩) fun r s₁ hr => ?_
  cases r with
  | error e => exact hr
  | ok fl =>
    cases fl with
    | ret obj =>
      obtain ⟨rfl, rfl⟩ := hr
      have hS : (s.heap.push { cls := .type "set", dict := none, data := .set #[] 0 (.fresh 0 0 (!w.params.followText "set-order")) }).get? s.heap.objs.size = some { cls := .type "set", dict := none, data := .set #[] 0 (.fresh 0 0 (!w.params.followText "set-order")) } := Heap.get?_push_size _ rfl
      have hT : Shared.TypeIs { s with heap := s.heap.push { cls := .type "set", dict := none, data := .set #[] 0 (.fresh 0 0 (!w.params.followText "set-order")) } } (.ref s.heap.objs.size) "set" := ⟨_, hS, rfl⟩
      have hli := PySem.F.called_set.init.lookup
      have hbi := PySem.F.called_set.init.bind (.ref s.heap.objs.size)
      repeat (any_goals (first | assumption | wp_step))
      refine codeAny_mono (codeAny_call_builtin (R := wants (fun r s₂ => r = .none ∧ ∃ h' tk L es ep t, s₂ = { s with heap := h', toks := tk } ∧
          PSt P w h' s.heap.objs.size L es ep t ∧ (∀ p ∈ L, p ∈ ks) ∧ (∀ b o, s.heap.get? b = some o → h'.get? b = some o)) E) PySem.F.called_set.init.plain PySem.F.entry_set_init (check_set_init_1 hT ?_)) fun r₂ s₂ hr₂ => ?_
      · obtain ⟨ol, hol, hcl, nl, hdl⟩ := hl
        obtain ⟨ocls, odict, odata, oslots⟩ := ol
        simp only at hcl hdl
        subst hcl
        subst hdl
        have hol' : (s.heap.push { cls := .type "set", dict := none, data := .set #[] 0 (.fresh 0 0 (!w.params.followText "set-order")) }).get? l = some { cls := .type "tuple", dict := odict, data := .seq items nl, slots := oslots } := Heap.get?_push_of_some _ hol
        have hsls := PySem.F.sub_tuple_set
        have hslf := PySem.F.sub_tuple_frozenset
        have hne : (Value.type "tuple" == Value.type "dict") = false := by decide
        have hl1 : (s.heap.push { cls := .type "set", dict := none, data := .set #[] 0 (.fresh 0 0 (!w.params.followText "set-order")) }).IsTuple l items := ⟨_, hol', rfl, nl, rfl⟩
        unfold Builtin.«set.__init__» noKeywords Builtin.Frozenset.updateFrom
        generalize hPI : pyIter = PI
        wp_walk
        subst hPI
        refine wpAny_pyIter_tuple hl1 ?_
        refine wpAny_bind (wpAny_runValue ?_)
        have hlS : l < s.heap.objs.size := Heap.lt_size hol
        have hh3 : A.in1.in1.in1.handled = none := by simp [hh]
        have hneI : l ≠ (s.heap.push { cls := .type "set", dict := none, data := .set #[] 0 (.fresh 0 0 (!w.params.followText "set-order")) }).objs.size := by
          rw [Heap.size_push]
          exact Nat.ne_of_lt (Nat.lt_succ_of_lt hlS)
        have hSf : s.heap.objs.size ∉ [(s.heap.push { cls := .type "set", dict := none, data := .set #[] 0 (.fresh 0 0 (!w.params.followText "set-order")) }).objs.size, l] := by
          rw [Heap.size_push]
          simp only [List.mem_cons, List.mem_singleton, List.not_mem_nil, or_false, not_or]
          exact ⟨Nat.ne_of_lt (Nat.lt_succ_self _), Nat.ne_of_gt hlS⟩
        have hsz : items.size = ks.length := by rw [← Array.length_toList, hi, List.length_map]
        have hval : ∀ (i : Nat) (v : Value), items[i]? = some v → ∃ p, ks[i]? = some p ∧ v = .ref p.1 := fun i v hv => by
          rw [← Array.getElem?_toList, hi, List.getElem?_map] at hv
          cases hx : ks[i]? with
          | none =>
            rw [hx] at hv
            cases hv
          | some p =>
            rw [hx] at hv
            exact ⟨p, rfl, (Option.some.inj hv).symm⟩
        have hold : ∀ b o, s.heap.get? b = some o → ((s.heap.push { cls := .type "set", dict := none, data := .set #[] 0 (.fresh 0 0 (!w.params.followText "set-order")) }).push { cls := .type "tuple_iterator", data := .fields #[.ref l, .int 0 0] }).get? b = some o := fun b o e => Heap.get?_push_of_some _ (Heap.get?_push_of_some _ e)
        have hget : ((s.heap.push { cls := .type "set", dict := none, data := .set #[] 0 (.fresh 0 0 (!w.params.followText "set-order")) }).push { cls := .type "tuple_iterator", data := .fields #[.ref l, .int 0 0] }).get? s.heap.objs.size = some { cls := .type "set", dict := none, data := .set #[] 0 (.fresh 0 0 (!w.params.followText "set-order")) } := Heap.get?_push_of_some _ hS
        refine txt_loop ((Walks.tuple hh3 _ l hneI items).toS) s.heap.objs.size hSf ks hsz hval s.heap hk hk4 (PySem.Heap.get?_none_of_le (Nat.le_refl _)) (fun b hb => ?hW) (by
          simp only [units_in1, units_deeper, Around.mark_units, units_caller]
          omega) (items.size - 0) 0 _ (by omega) (Nat.zero_le _) ⟨⟨_, Heap.get?_push_size _ rfl, rfl, rfl⟩, (hl1.push _)⟩ hold ⟨[], #[], 0, _, pst_new hget, ⟨fun p hp => absurd hp List.not_mem_nil⟩⟩ fun s' L es ep t hm hP g kp => ?hR
        case hW =>
          rw [List.mem_singleton.mp hb]
          exact PySem.Heap.get?_none_of_le (by rw [Heap.size_push]; exact Nat.le_succ _)
        case hR =>
          obtain ⟨h', g', d', tk', os'⟩ := s'
          have eg : g' = s.gens := hm.gens
          have ed : d' = s.drawn := hm.drawn
          have eo : os' = s.os := hm.os
          subst eg
          subst ed
          subst eo
          show wpAny _ _ _ _ _ _
          refine wpAny_pure ?_
          show wpAny _ _ (ret Value.none) _ _ _
          exact wpAny_pure ⟨rfl, h', tk', L, es, ep, t, rfl, hP, fun p hp => List.mem_of_mem_take (g.sub p hp), kp⟩
      · cases r₂ with
        | error e => exact hr₂
        | ok fl₂ =>
          cases fl₂ with
          | ret r =>
            obtain ⟨rfl, h', tk, L, es, ep, t, rfl, hP, sub, kp⟩ := hr₂
            repeat (any_goals (first | assumption | wp_step))
            exact h _ _ L es ep t hP sub kp
          | _ => exact hr₂.elim
    | _ => exact hr.elim
end
end Fk
set_option Elab.async false
set_option linter.all false
set_option maxRecDepth 100000
set_option maxHeartbeats 4000000
/-! T4: sorted of a set of tuples of texts; sorted(set(x)) on data. -/
namespace Fk
open PySem PySem.Spec PyProof.Rows L2
section
variable {P : Program} {w : World} {A : Around} {E : Value → Shared → Prop} {s : Shared}
theorem txt_key {k : List Str} : ∀ {vs : List Value}, ItemsAre (PySem.strKind P w) k vs → ∀ i, ∃ l, tupItems (fun _ => true) i vs = some l := by
  intro vs h
  induction h with
  | nil => exact fun i => ⟨[], rfl⟩
  | @cons x v xs vs h1 _ ih =>
    intro i
    obtain ⟨t, rfl⟩ := Value.isStrOf_shape h1
    obtain ⟨l, e⟩ := ih (i + 1)
    refine ⟨Sum.inr x.cps.toList :: l, ?_⟩
    simp [tupItems, e]
theorem txt_keyC {h : Heap} {k : List Str} {a : Addr} (x : TxT P w h k a) : ∃ l, G.tupKeyC h (fun _ => true) (.ref a) = some l := by
  obtain ⟨o, its, n, ho, hc, hd, hi⟩ := x
  obtain ⟨l, e⟩ := txt_key hi 0
  exact ⟨l, G.tupKeyC_of ho hc hd e⟩
theorem txt_first {h : Heap} {k : List Str} {a : Addr} (x : TxT P w h k a) (hk : k ∈ U4K) : ∃ f, TupOf h (fun _ => true) (.ref a) f := by
  obtain ⟨o, its, n, ho, hc, hd, hi⟩ := x
  obtain ⟨y, r, rfl⟩ := u4_cons hk
  generalize hl : its.toList = l at hi
  cases hi with
  | @cons _ v _ vs h1 _ =>
    obtain ⟨t, rfl⟩ := Value.isStrOf_shape h1
    refine ⟨.str y t, a, o, its, n, rfl, ho, hc, hd, ?_, (fun z => by cases z), fun _ => ⟨y, t, rfl⟩⟩
    rw [← Array.getElem?_toList, hl]
    rfl
theorem txt_firsts {h : Heap} : ∀ {vs : List Value}, (∀ v ∈ vs, ∃ k a, v = Value.ref a ∧ TxT P w h k a ∧ k ∈ U4K) → ∃ fs, TupsOf h (fun _ => true) vs fs
  | [], _ => ⟨[], .nil⟩
  | v :: vs, hv => by
    obtain ⟨k, a, rfl, x, hk⟩ := hv _ List.mem_cons_self
    obtain ⟨f, h1⟩ := txt_first x hk
    obtain ⟨fs, h2⟩ := txt_firsts fun u hu => hv u (List.mem_cons_of_mem _ hu)
    exact ⟨f :: fs, .cons h1 h2⟩
theorem zip_snd (vs : List Value) : (vs.zip vs).map (·.2) = vs := by
  induction vs with
  | nil => rfl
  | cons v vs ih => simp [ih]
theorem sorted_prs {a : Addr} {L : List (Addr × List Str)} {es : Array (Int × Value)} {ep : Nat} {t : SetTable} {Q : Value → Shared → Prop} (R : PSt P w s.heap a L es ep t) (hh : A.handled = none)
    (hQ : ∀ s' p (out : Array Value) (c : Nat), (∀ b o, s.heap.get? b = some o → s'.heap.get? b = some o) → s'.gens = s.gens → s'.os = s.os → s.heap.objs.size ≤ p → s'.heap.get? p = some (seqObj "list" out c) → out.toList.Perm (L.map fun q => Value.ref q.1) → Q (.ref p) s') :
    wpAny (model P w) A (call (.builtin "sorted") [.ref a]) Q E s := by
  obtain ⟨o, ho, hex, hd⟩ := R.ob
  have hsz := R.size
  have hfew := R.few
  refine Calls.call_function_entry kind_sorted plain_sorted entry_sorted (args_sorted1 _) ?_
  unfold Builtin.«sorted»
  refine wpAny_bind (m := checkCount "sorted" 1 1 _) (wpAny_pure ?_)
  refine wpAny_bind (collect_set (A := A.in1) hh ⟨o, ho, hex.1, hd⟩ R.fits (by unfold scanBound; omega) R.tab.ris R.led fun s1 vs k1 hz g1 o1 pm => ?_)
  have hes : es.toList.map (·.2) = L.map fun q => Value.ref q.1 := by
    rw [R.rows, List.map_map]
    rfl
  rw [hes] at pm
  have hvl : vs.length ≤ 4 := by rw [pm.length_eq, List.length_map]; exact hfew
  refine wpAny_bind (wpAny_newList ?_ (by rw [sizeLine_eq]; omega))
  have hoL : (s1.heap.push (seqObj "list" vs.toArray 0)).get? s1.heap.objs.size = some (seqObj "list" vs.toArray 0) := Heap.get?_push_size _ rfl
  have own : ∀ v ∈ vs, ∃ k b, v = Value.ref b ∧ TxT P w (s1.heap.push (seqObj "list" vs.toArray 0)) k b ∧ k ∈ U4K := fun v hv => by
    obtain ⟨q, hq, e⟩ := List.mem_map.mp (pm.mem_iff.mp hv)
    exact ⟨q.2, q.1, e.symm, txt_stay (R.tup q hq) fun b u e => Heap.get?_push_of_some _ (k1 b u e), R.sub q hq⟩
  obtain ⟨fs, tf⟩ := txt_firsts own
  refine wpAny_bind (wpAny_holding (wpAny_call_entry slot_list_sort ⟨_, hoL, rfl⟩ entry_list_sort (G.list_sort_tups (s := { s1 with heap := s1.heap.push (seqObj "list" vs.toArray 0) }) (shape := fun _ => true) hoL tf (fun v hv => by
      obtain ⟨k, b, rfl, x, _⟩ := own v hv
      exact txt_keyC x) (by rw [sizeLine_eq]; omega) fun st a1 _ _ => ⟨_, rfl, ?_⟩) (args_list_sort _)))
  have pm2 : ((arrOf st).map (·.2)).toList.Perm (L.map fun q => Value.ref q.1) := by
    have e := (Array.perm_iff_toList_perm.mp a1).map (·.2)
    rw [pairsOf_toList, zip_snd] at e
    rw [Array.toList_map]
    exact e.trans pm
  obtain ⟨c, hc⟩ := sortedHeap_at (vs := vs) (out := (arrOf st).map (·.2)) hoL
  refine wpAny_pure ⟨_, rfl, hQ _ s1.heap.objs.size _ c (fun b u e => ?_) g1 o1 hz hc pm2⟩
  have q := k1 b u e
  have hlt := Heap.lt_size q
  show (sortedHeap (s1.heap.push (seqObj "list" vs.toArray 0)) s1.heap.objs.size vs _).get? b = some u
  rw [sortedHeap_old (Nat.ne_of_lt hlt) (by rw [size_push']; exact Nat.lt_succ_of_lt hlt)]
  exact Heap.get?_push_of_some _ q
end
theorem pick_list {α : Type} {f : α → Value} {L : List α} : ∀ {vs : List Value}, (∀ v ∈ vs, ∃ q ∈ L, v = f q) → ∃ L1 : List α, vs = L1.map f ∧ ∀ q ∈ L1, q ∈ L
  | [], _ => ⟨[], rfl, fun q hq => absurd hq List.not_mem_nil⟩
  | v :: vs, hv => by
    obtain ⟨q, hq, e⟩ := hv v List.mem_cons_self
    obtain ⟨L1, e1, hs⟩ := pick_list fun u hu => hv u (List.mem_cons_of_mem _ hu)
    refine ⟨q :: L1, by rw [List.map_cons, e, e1], fun r hr => ?_⟩
    rcases List.mem_cons.mp hr with rfl | z
    · exact hq
    · exact hs r z
theorem prs_inv {K : PySem.W.Frag} {W : List Addr} {H : Hp} : ∀ {ps : List (Str × Str)} {xs : List V}, DDs K W H xs (ps.map prD) → ∃ zs : List (Addr × (Str × Str)), xs = zs.map (fun z => V.ref z.1) ∧ zs.map (·.2) = ps ∧ ∀ z ∈ zs, z.1 ∉ W ∧ H z.1 = some (.tup [.str z.2.1, .str z.2.2])
  | [], _, h => by
    cases h
    exact ⟨[], rfl, rfl, fun z hz => absurd hz List.not_mem_nil⟩
  | p :: ps, _, h => by
    rw [List.map_cons] at h
    cases h with
    | cons h1 h2 =>
      obtain ⟨zs, rfl, e2, h3⟩ := prs_inv h2
      obtain ⟨a, ys, rfl, na, ha, h4⟩ := DD.tup_inv h1
      cases h4 with
      | cons q1 h5 =>
        cases h5 with
        | cons q2 h6 =>
          cases h6
          have e3 := q1.str_inv
          have e4 := q2.str_inv
          subst e3
          subst e4
          refine ⟨(a, p) :: zs, rfl, by rw [List.map_cons, e2], fun z hz => ?_⟩
          rcases List.mem_cons.mp hz with rfl | hz
          · exact ⟨na, ha⟩
          · exact h3 z hz
theorem prs_of {K : PySem.W.Frag} {W : List Addr} {H : Hp} : ∀ {zs : List (Addr × (Str × Str))}, (∀ z ∈ zs, z.1 ∉ W ∧ H z.1 = some (.tup [.str z.2.1, .str z.2.2])) → DDs K W H (zs.map fun z => V.ref z.1) ((zs.map (·.2)).map prD)
  | [], _ => .nil
  | z :: zs, h => by
    obtain ⟨h1, h2⟩ := h z List.mem_cons_self
    exact .cons (.tup h1 h2 (.cons (.str _) (.cons (.str _) .nil))) (prs_of fun y hy => h y (List.mem_cons_of_mem _ hy))
theorem vals_refs {α : Type} {f : α → Addr} : ∀ (ks : List α), Vals (ks.map fun p => V.ref (f p)) (ks.map fun p => Value.ref (f p))
  | [] => .nil
  | p :: ks => .cons rfl (vals_refs ks)
theorem refs_vals {α : Type} {f : α → Addr} : ∀ {ks : List α} {us : List Value}, Vals (ks.map fun p => V.ref (f p)) us → us = ks.map fun p => Value.ref (f p)
  | [], _, .nil => rfl
  | p :: ks, _, .cons r t => by
    cases r
    rw [refs_vals t]
    rfl
theorem Inv.txT {X : Cx} {pins : List (Addr × Obj)} {σ : L2.St} {H : Hp} {s : Shared} {b : Addr} {x y : Str} (I : Inv X pins σ H s) (h : H b = some (.tup [.str x, .str y])) : TxT X.prog X.w s.heap [x, y] b := by
  obtain ⟨its, r, ⟨o, ho, hc, n, hd⟩, _⟩ := I.tuple (.inl (.inl h))
  refine ⟨o, its.toArray, n, ho, hc, hd, ?_⟩
  have e : its.toArray.toList = its := by simp
  rw [e]
  cases r with
  | cons r1 r =>
    cases r with
    | cons r2 r =>
      cases r
      obtain ⟨t1, rfl⟩ := r1
      obtain ⟨t2, rfl⟩ := r2
      exact .cons (strKind_is _ _ _ _) (.cons (strKind_is _ _ _ _) .nil)
theorem hf_sortSet {X : Cx} {g : Gx} {n : Nat} {ρ : List SV} {e : Expr} {p1 p2 pos1 pos2 : Pos} {QF : Nat → List D → Prop} (hc : X.calm = true) (hu : X.A.units + 64 < cLine) (hm1 : X.mg "sorted" = none) (hm2 : X.mg "set" = none)
    (h : HE X g n ρ e fun n1 d => ∃ ps : List (Str × Str), d = .tup (ps.map prD) ∧ (∀ p ∈ ps, p ∈ U4) ∧ ps.length ≤ 1000 ∧ ∀ qs : List (Str × Str), (∀ q ∈ qs, q ∈ ps) → qs.length ≤ 4 → QF n1 (qs.map prD)) (hg1 : Gl X "sorted" := by rfl) (hg2 : Gl X "set" := by rfl)
    (hs1 : starEach [.Call (.Name "set" p2) [e] [] pos2] X.env = (false, eval (.Call (.Name "set" p2) [e] [] pos2) X.env) :: starEach [] X.env := by rfl) (hs2 : starEach [e] X.env = (false, eval e X.env) :: starEach [] X.env := by rfl) :
    HF X g n ρ (.Call (.Name "sorted" p1) [.Call (.Name "set" p2) [e] [] pos2] [] pos1) QF := fun W σ H k R r => by
  unfold WE
  intro pins s I
  refine Call_ (ld_blt I hg1 hm1 boot_sorted ?_)
  refine PyProof.Rows.callWith_builtin1 (PyProof.Rows.args_cons ?_ hs1) hs1 rfl
  refine Call_ (ld_blt I hg2 hm2 boot_set ?_)
  refine PyProof.Rows.callWith_type1 (PyProof.Rows.args_cons (thn (peW.run pins s σ H _ I (h W σ H k (fun x H1 => ∃ (n1 : Nat) (a : Addr) (zs : List (Addr × (Str × Str))), x = V.ref a ∧ Ext g.G H H1 ∧ g.J n1 H1 ∧ H1 a = some (.tup (zs.map fun z : Addr × (Str × Str) => V.ref z.1)) ∧ (∀ z ∈ zs, z.1 ∉ W ∧ H1 z.1 = some (.tup [.str z.2.1, .str z.2.2])) ∧ (∀ z ∈ zs, z.2 ∈ U4) ∧
      ∀ ys : List (Addr × (Str × Str)), (∀ y ∈ ys, y ∈ zs) → ys.length ≤ 4 → QF n1 ((ys.map (·.2)).map prD)) fun n1 d v H1 q e1 j1 dd => ?_)) fun v s1 ⟨x, H1, I1, r1, q1⟩ => PyProof.Rows.args_nil ?_) hs2) hs2 rfl
  · obtain ⟨ps, rfl, q1, q2, q3⟩ := q
    obtain ⟨a, xs, rfl, na, ha, h1⟩ := dd.tup_inv
    obtain ⟨zs, rfl, e2, h3⟩ := prs_inv h1
    subst e2
    refine ⟨n1, a, zs, rfl, e1, j1, ha, h3, fun z hz => q1 _ (List.mem_map.mpr ⟨z, hz, rfl⟩), fun ys hy hl => q3 _ (fun q hq => ?_) (by rw [List.length_map]; exact hl)⟩
    obtain ⟨y, h5, rfl⟩ := List.mem_map.mp hq
    exact List.mem_map.mpr ⟨y, hy y h5, rfl⟩
  · obtain ⟨n1, a, zs, rfl, e1, j1, ha, hz, hz4, q2⟩ := q1
    cases r1
    obtain ⟨its, rv, pl, hsz⟩ := I1.tuple (.inl (.inl ha))
    have hh := I1.ok.hd hc
    have ei := refs_vals (f := fun z : Addr × (Str × Str) => z.1) rv
    refine set_prs (ks := zs.map fun z => (z.1, [z.2.1, z.2.2])) hh (by omega) pl (by rw [List.map_map, List.toList_toArray]; exact ei) (fun p hp => ?_) (fun p hp => ?_) fun h' tk L es ep t RS sub kp => PyProof.Rows.args_nil ?_
    · obtain ⟨z, h5, rfl⟩ := List.mem_map.mp hp
      exact Inv.txT I1 (hz z h5).2
    · obtain ⟨z, h5, rfl⟩ := List.mem_map.mp hp
      exact List.mem_map.mpr ⟨z.2, hz4 z h5, rfl⟩
    · have I2 : Inv X pins σ H1 { s1 with heap := h', toks := tk } := I1.kept fun b o e => kp b o e
      refine sorted_prs (s := { s1 with heap := h', toks := tk }) RS hh fun s' p out c k2 hg ho hp hout pm => ?_
      obtain ⟨ys, ey, hy⟩ := pick_list (f := fun z : Addr × (Str × Str) => Value.ref z.1) (L := zs) (vs := out.toList) fun v hv => by
        obtain ⟨q, hq, rfl⟩ := List.mem_map.mp (pm.mem_iff.mp hv)
        obtain ⟨z, h5, e5⟩ := List.mem_map.mp (sub q hq)
        exact ⟨z, h5, by rw [← e5]⟩
      have hlen : ys.length ≤ 4 := by
        have e6 := pm.length_eq
        rw [ey, List.length_map, List.length_map] at e6
        rw [e6]
        exact RS.few
      have hl2 : (ys.map fun z => V.ref z.1).length ≤ sizeLine := by rw [List.length_map, sizeLine_eq]; omega
      have hn : H1 p = none := I2.hok.fresh hp
      have hv : Vals (ys.map fun z => V.ref z.1) out.toList := by rw [ey]; exact vals_refs (f := fun z : Addr × (Str × Str) => z.1) ys
      have J : Inv X pins σ (upd H1 p (.lst (ys.map fun z => V.ref z.1))) s' :=
        I2.call' (ch := []) ho (Un.laid k2 hp hn) (I2.hok.laid k2 hp ⟨hl2, out.toList, c, hv, hout⟩) (by rw [hg]; exact I2.bare) (fun _ z => nomatch z)
      refine ⟨.ref p, _, J, rfl, r n1 _ p _ _ (q2 ys hy hlen) (k.back e1 j1 hn) (e1.trans (Ext.upd hn)) (g.same j1 (Same.upd hn)) upd_same ?_⟩
      exact ((prs_of fun y h5 => hz y (hy y h5)).fresh hn).same (Same.upd hn)
end Fk
set_option Elab.async false
set_option linter.all false
set_option maxRecDepth 100000
set_option maxHeartbeats 4000000
/-! S2: _law_fewer. -/
namespace Fk
open PySem PySem.Spec PyProof.Rows L2
theorem cutD_take (ds : List D) (k : Nat) : cutD ds none (some (k : Int)) = ds.take k := by
  unfold cutD
  rw [HT.sIx_nat, HT.sIx_none, List.drop_zero, Nat.sub_zero, ← List.take_eq_take_min]
theorem cutD_drop (ds : List D) (k : Nat) : cutD ds (some (k : Int)) none = ds.drop k := by
  unfold cutD
  rw [HT.sIx_nat, HT.sIx_none]
  by_cases h : k ≤ ds.length
  · rw [Nat.min_eq_left h]
    exact List.take_of_length_le (by rw [List.length_drop]; exact Nat.le_refl _)
  · rw [Nat.min_eq_right (by omega), List.drop_length, List.drop_of_length_le (by omega)]
    simp
theorem szs_app : ∀ (a b : List D), szs (a ++ b) = szs a + szs b
  | [], b => by rw [szs]; simp
  | d :: a, b => by
    rw [List.cons_append, szs, szs, szs_app a b]
    omega
theorem szs_split {xs : List D} {w : Nat} {x : D} (h : xs[w]? = some x) : szs xs = szs (xs.take w) + (x.sz + szs (xs.drop (w + 1))) := by
  have e : xs = xs.take w ++ (x :: xs.drop (w + 1)) := by
    rw [← drop_at h, List.take_append_drop]
  have e2 := congrArg szs e
  rw [szs_app, szs] at e2
  exact e2
theorem szs_take (xs : List D) (w : Nat) : szs (xs.take w) + szs (xs.drop w) = szs xs := by
  rw [← szs_app, List.take_append_drop]
theorem szs_drop1 (xs : List D) (w : Nat) : szs (xs.take w) + szs (xs.drop (w + 1)) ≤ szs xs := by
  have h1 := szs_take xs w
  have h2 := szs_take (xs.drop w) 1
  rw [List.drop_drop] at h2
  omega
/-- a story to be changed -/
structure StF (b k z : Nat) (d : D) : Prop where
  ex : ∃ r0 r1 r3 x4 r5 x6, ∃ ps : List (Str × Str), d = .tup [.tup r0, .tup r1, .tup (ps.map prD), .tup r3, x4, .tup r5, x6] ∧ ∀ p ∈ ps, p ∈ U4
  n : d.nice b k = true
  z : d.sz ≤ z
def cutAt (r : List D) (a : Nat) : List D := r.take a ++ r.drop (a + 1)
theorem cutAt_mem {r : List D} {a : Nat} {d : D} (h : d ∈ cutAt r a) : d ∈ r := by
  rcases List.mem_append.mp h with h | h
  · exact List.mem_of_mem_take h
  · exact List.mem_of_mem_drop h
theorem cutAt_len (r : List D) (a : Nat) : (cutAt r a).length ≤ r.length := by
  unfold cutAt
  rw [List.length_append, List.length_take, List.length_drop]
  omega
theorem cutAt_sz (r : List D) (a : Nat) : (D.tup (cutAt r a)).sz ≤ (D.tup r).sz := by
  have := szs_drop1 r a
  rw [D.sz, D.sz, cutAt, szs_app]
  omega
theorem cutAt_prs (ps : List (Str × Str)) (a : Nat) : ∃ qs : List (Str × Str), cutAt (ps.map prD) a = qs.map prD ∧ ∀ q ∈ qs, q ∈ ps :=
  ⟨ps.take a ++ ps.drop (a + 1), by unfold cutAt; rw [List.map_append, List.map_take, List.map_drop], fun q h => by
    rcases List.mem_append.mp h with h | h
    · exact List.mem_of_mem_take h
    · exact List.mem_of_mem_drop h⟩
/-- one part otherwise -/
theorem nice_rep {b k w : Nat} {xs : List D} {y : D} (h : (D.tup xs).nice b (k + 1) = true) (hy : y.nice (b + 1) k = true) : (D.tup (xs.take w ++ [y] ++ xs.drop (w + 1))).nice (b + 1) (k + 1) = true := by
  obtain ⟨j, e, h1, h2⟩ := nice_tup_inv h
  obtain rfl : k = j := by omega
  refine nice_tup ?_ fun d hd => ?_
  · rw [List.length_append, List.length_append, List.length_take, List.length_drop, List.length_singleton]
    omega
  · rcases List.mem_append.mp hd with hd | hd
    · rcases List.mem_append.mp hd with hd | hd
      · exact nice_mono (Nat.le_refl _) (Nat.le_succ _) (h2 d (List.mem_of_mem_take hd))
      · rw [List.mem_singleton.mp hd]
        exact hy
    · exact nice_mono (Nat.le_refl _) (Nat.le_succ _) (h2 d (List.mem_of_mem_drop hd))
theorem sz_rep {xs : List D} {w z c : Nat} {x y : D} (hx : xs[w]? = some x) (hz : (D.tup xs).sz ≤ z) (hy : y.sz ≤ x.sz + c) : (D.tup (xs.take w ++ [y] ++ xs.drop (w + 1))).sz ≤ z + c := by
  have h1 := szs_split hx
  rw [D.sz] at hz ⊢
  rw [szs_app, szs_app, szs, szs]
  omega
theorem nice_cut {b k a : Nat} {r : List D} (h : (D.tup r).nice b k = true) : (D.tup (cutAt r a)).nice b k = true := by
  obtain ⟨j, rfl, h1, h2⟩ := nice_tup_inv h
  exact nice_tup (Nat.le_trans (cutAt_len r a) h1) fun d hd => h2 d (cutAt_mem hd)
theorem stf_cut {b k z w : Nat} {xs r : List D} (h : StF b (k + 1) z (.tup xs)) (hw : w ∈ ([0, 1, 2, 3, 5] : List Nat)) (hx : xs[w]? = some (.tup r)) (a : Nat) : StF (b + 1) (k + 1) (z + 40) (.tup (xs.take w ++ [.tup (cutAt r a)] ++ xs.drop (w + 1))) := by
  have hn : (D.tup r).nice b k = true := by
    obtain ⟨j, e, _, h2⟩ := nice_tup_inv h.n
    obtain rfl : k = j := by omega
    exact h2 _ (List.mem_of_getElem? hx)
  refine ⟨?_, nice_rep h.n (nice_mono (Nat.le_refl _) (Nat.le_succ _) (nice_cut hn)), sz_rep hx h.z (Nat.le_trans (cutAt_sz r a) (Nat.le_add_right _ _))⟩
  obtain ⟨r0, r1, r3, x4, r5, x6, ps, e, hp⟩ := h.ex
  cases e
  simp only [List.mem_cons, List.not_mem_nil, or_false] at hw
  rcases hw with rfl | rfl | rfl | rfl | rfl
  · exact ⟨_, _, _, _, _, _, ps, rfl, hp⟩
  · exact ⟨_, _, _, _, _, _, ps, rfl, hp⟩
  · cases hx
    obtain ⟨qs, e, hq⟩ := cutAt_prs ps a
    rw [e]
    exact ⟨_, _, _, _, _, _, qs, rfl, fun q h => hp q (hq q h)⟩
  · exact ⟨_, _, _, _, _, _, ps, rfl, hp⟩
  · exact ⟨_, _, _, _, _, _, ps, rfl, hp⟩
theorem prD_nice {p : Str × Str} (h : p ∈ U4) : (prD p).nice 10 2 = true ∧ (prD p).sz ≤ 20 := by
  have a : U4.all (fun p => (prD p).nice 10 2 && decide ((prD p).sz ≤ 20)) = true := by decide +kernel
  have b := List.all_eq_true.mp a p h
  rw [Bool.and_eq_true] at b
  exact ⟨b.1, of_decide_eq_true b.2⟩
theorem prs_nice {b k : Nat} {qs : List (Str × Str)} (hb : 10 ≤ b) (hk : 3 ≤ k) (h : ∀ q ∈ qs, q ∈ U4) (hl : qs.length ≤ 4) : (D.tup (qs.map prD)).nice b k = true ∧ (D.tup (qs.map prD)).sz ≤ 81 := by
  obtain ⟨k, rfl⟩ : ∃ j, k = j + 1 := ⟨k - 1, by omega⟩
  refine ⟨nice_tup (by rw [List.length_map]; omega) fun d hd => ?_, ?_⟩
  · obtain ⟨q, hq, rfl⟩ := List.mem_map.mp hd
    exact nice_mono (by omega) hb (prD_nice (h q hq)).1
  · have h1 := szs_le (B := 20) (ds := qs.map prD) fun d hd => by
      obtain ⟨q, hq, rfl⟩ := List.mem_map.mp hd
      exact (prD_nice (h q hq)).2
    rw [List.length_map] at h1
    rw [D.sz]
    omega
section
variable {P : Program} {w : World} {K : PySem.W.Frag} {mg : Str → Option Value} {base : Heap}
def aFewer : Acc := fun g n ds Q => ∃ fa ca cs, Feed g fa ca cs ∧ cs.length ≤ 1000 ∧ n + 2 ≤ CT ∧ ∃ b k z d, ds = [.obj fa, d] ∧ StF b k z d ∧ 10 ≤ b ∧ b ≤ 900 ∧ 5 ≤ k ∧ ∀ n' e, n' ≤ n + 2 → StF (b + 1) k (z + 100) e → Q n' e
theorem has_fewer (T : Top K mg) : Has P w K mg base 2 "_law_fewer" ["_law_feed_here", "_law_story"] aFewer := by
  have hN : (["_law_feed_here", "_law_story", "_law_way", "_law_some", "_law_at"] : List Str).Nodup := by decide +kernel
  refine has_of (N := ["_law_feed_here", "_law_story", "_law_way", "_law_some", "_law_at"]) T (i := 62) (d := d_law_fewer) rfl ⟨rfl, rfl, rfl, hN, rfl, by decide +kernel, by decide +kernel⟩ (by decide +kernel) rfl rfl rfl (fun _ _ _ _ _ _ us hl => match us, hl with | [_, _], _ => rfl) (fun g n ds Q h => by obtain ⟨_, _, _, _, _, _, _, _, _, _, rfl, _⟩ := h; rfl) fun cd Ar outer s H E hr g n ds Q h => ?_
  obtain ⟨fa, ca, cs, F, hc, hn, b, k, z, d, rfl, S, hb1, hb2, hk, q⟩ := h
  obtain ⟨k, rfl⟩ : ∃ j, k = j + 1 := ⟨k - 1, by omega⟩
  obtain ⟨r0, r1, r3, x4, r5, x6, ps, rfl, hp⟩ := S.ex
  have big : ∀ {k : Nat}, k ≤ 10000 → k ≤ sizeLine := fun {k} h => Nat.le_trans h (show 10000 ≤ sizeLine by decide)
  obtain ⟨j, ej, _, els⟩ := nice_tup_inv S.n
  obtain rfl : k = j := by omega
  have len : ∀ {r : List D}, D.tup r ∈ [D.tup r0, .tup r1, .tup (ps.map prD), .tup r3, x4, .tup r5, x6] → r.length ≤ b := fun {r} h => (nice_tup_inv (els _ h)).elim fun _ h => h.2.1
  generalize hxs : [D.tup r0, .tup r1, .tup (ps.map prD), .tup r3, x4, .tup r5, x6] = xs at S els len
  have xl : xs.length = 7 := by rw [← hxs]; rfl
  refine hss_cons (hs_set (i := 2) hN rfl (he_call (has_draw T) (hr.mono (by omega)) (ha_cons (he_name (i := 0) rfl rfl (ha_cons (he_int (ha_nil (draw_of F hc (by omega) (by decide) (by decide) fun way w1 w2 => ?_))))))))
  obtain ⟨v, rfl⟩ := Int.eq_ofNat_of_zero_le w1
  refine hss_cons (hs_ifP (decide ((v : Int) < 4) || decide ((v : Int) = 5)) (ht_bool (hw_orP (ht_cmp op_lt (he_name (i := 2) rfl rfl (he_int (rd_intB ⟨_, rfl, rfl, rfl⟩)))) fun _ => hw_or1 (ht_cmp op_eq (he_name (i := 2) rfl rfl (he_int (rd_eqI ⟨_, rfl, rfl, rfl⟩)))))) (fun e => ?rem) fun e => hss_nil ?g2)
  case rem =>
    have hv : v ∈ ([0, 1, 2, 3, 5] : List Nat) := by
      simp only [Bool.or_eq_true, decide_eq_true_eq] at e
      have : v = 0 ∨ v = 1 ∨ v = 2 ∨ v = 3 ∨ v = 5 := by omega
      simpa using this
    have hx : ∃ r, xs[v]? = some (.tup r) := by
      rw [← hxs]
      simp only [List.mem_cons, List.not_mem_nil, or_false] at hv
      rcases hv with rfl | rfl | rfl | rfl | rfl <;> exact ⟨_, rfl⟩
    obtain ⟨r, hx⟩ := hx
    have rl := len (List.mem_of_getElem? hx)
    refine hss_cons (hs_set (i := 3) hN rfl (he_ixT (he_name (i := 1) rfl rfl (he_name (i := 2) rfl rfl ⟨_, _, .tup r, rfl, rfl, atI_nat hx, ?_⟩))))
    refine hss_cons (hs_set (i := 4) hN rfl (he_call (has_draw T) (hr.mono (by omega)) (ha_cons (he_name (i := 0) rfl rfl (ha_cons (he_op op_add (he_len T.f_len (he_name (i := 3) rfl rfl ⟨rfl, he_int (rd_int (ha_nil (draw_of F hc (by omega) ?p1 ?p2 fun a a1 a2 => ?_)))⟩))))))))
    case p1 =>
      show (0 : Int) < (r.length : Int) + 1
      omega
    case p2 =>
      show (r.length : Int) + 1 < 1073741824
      omega
    obtain ⟨a, rfl⟩ := Int.eq_ofNat_of_zero_le a1
    have ea : ((a : Int) + 1) = ((a + 1 : Nat) : Int) := by omega
    have ev : ((v : Int) + 1) = ((v + 1 : Nat) : Int) := by omega
    refine hss_cons (hs_ret (he_op op_catA (he_op op_catA (he_slT (he_name (i := 1) rfl rfl (ho_none (ho_some (he_name (i := 2) rfl rfl ⟨_, rfl, _, rfl, ?_⟩))))))))
    rw [cutD_take]
    refine he_tup (ha_cons (he_op op_catA (he_slT (he_name (i := 3) rfl rfl (ho_none (ho_some (he_name (i := 4) rfl rfl ⟨_, rfl, _, rfl, ?_⟩)))))))
    rw [cutD_take]
    refine he_slT (he_name (i := 3) rfl rfl (ho_some (he_op op_add (he_name (i := 4) rfl rfl (he_int (rd_int ⟨_, rfl, ho_none ⟨_, rfl, ?_⟩⟩))))))
    rw [ea, cutD_drop]
    have c1 := cutAt_len r a
    unfold cutAt at c1
    rw [List.length_append] at c1
    refine rd_catT (big (by omega)) (ha_nil ⟨le1, rd_catT (big ?_) (he_slT (he_name (i := 1) rfl rfl (ho_some (he_op op_add (he_name (i := 2) rfl rfl (he_int (rd_int ⟨_, rfl, ho_none ⟨_, rfl, ?_⟩⟩)))))))⟩)
    · rw [List.length_take, List.length_singleton]
      omega
    rw [ev, cutD_drop]
    refine rd_catT (big ?_) (q _ _ (by omega) ?_)
    · rw [List.length_append, List.length_take, List.length_drop, List.length_singleton]
      omega
    · have := stf_cut S hv hx a
      exact ⟨this.ex, this.n, Nat.le_trans this.z (by omega)⟩
  refine hss_cons (hs_if (ht_cmp op_eq (he_name (i := 2) rfl rfl (he_int (rd_eqI ⟨_, rfl, fun e => ?dr, fun _ => hss_nil ?g3⟩)))))
  case dr =>
    refine hss_cons (hs_ret (he_op op_catA (he_op op_catA (he_slT (he_name (i := 1) rfl rfl (ho_none (ho_int ⟨_, rfl, ?_⟩)))))))
    rw [show cutD xs none (some (2 : Int)) = xs.take 2 from cutD_take xs 2]
    have x2 : xs[2]? = some (.tup (ps.map prD)) := by rw [← hxs]; rfl
    have l2 := len (List.mem_of_getElem? x2)
    rw [List.length_map] at l2
    refine he_tup (ha_cons (he_tuple T.f_tuple (he_lst (hf_sortSet rfl (Room.units hr) T.f_sorted T.f_set (he_op op_catA (he_ixT (he_name (i := 1) rfl rfl (he_int ⟨_, _, _, rfl, rfl, atI_nat (i := 2) x2, ?_⟩))))))))
    refine he_tup (ha_cons (he_tup (ha_cons (he_str (ha_cons (he_str (ha_nil ⟨le2, ha_nil ⟨le1, ?_⟩⟩)))))))
    refine rd_catT (big (by rw [List.length_map, List.length_singleton]; omega)) ⟨ps ++ [(("cave" : Str), ("zzz" : Str))], by rw [List.map_append]; rfl, fun p h => ?_, by rw [List.length_append, List.length_singleton]; omega, fun qs hq ql => ⟨_, rfl, ha_nil ⟨le1, ?_⟩⟩⟩
    · rcases List.mem_append.mp h with h | h
      · exact hp p h
      · rw [List.mem_singleton.mp h]
        decide
    have hq4 : ∀ q ∈ qs, q ∈ U4 := fun p h => by
      rcases List.mem_append.mp (hq p h) with h | h
      · exact hp p h
      · rw [List.mem_singleton.mp h]
        decide
    refine rd_catT (big ?_) (he_slT (he_name (i := 1) rfl rfl (ho_int (ho_none ⟨_, rfl, ?_⟩))))
    · rw [List.length_take, List.length_singleton]
      omega
    rw [show cutD xs (some (3 : Int)) none = xs.drop 3 from cutD_drop xs 3]
    have pn := prs_nice (b := b + 1) (k := k) (by omega) (by omega) hq4 ql
    refine rd_catT (big ?_) (q _ _ (by omega) ⟨?_, nice_rep (w := 2) S.n pn.1, sz_rep x2 S.z (by omega)⟩)
    · rw [List.length_append, List.length_take, List.length_drop, List.length_singleton]
      omega
    · rw [← hxs]
      exact ⟨_, _, _, _, _, _, qs, rfl, hq4⟩
  refine hss_cons (hs_if (ht_cmp op_eq (he_name (i := 2) rfl rfl (he_int (rd_eqI ⟨_, rfl, fun e => ?fi, fun _ => hss_nil ?g4⟩)))))
  case fi =>
    refine hss_cons (hs_ret (he_op op_catA (he_op op_catA (he_slT (he_name (i := 1) rfl rfl (ho_none (ho_int ⟨_, rfl, ?_⟩)))))))
    rw [show cutD xs none (some (3 : Int)) = xs.take 3 from cutD_take xs 3]
    have x3 : xs[3]? = some (.tup r3) := by rw [← hxs]; rfl
    have l3 := len (List.mem_of_getElem? x3)
    refine he_tup (ha_cons (he_op op_catA (he_tup (ha_cons (he_tup (ha_cons (he_str (ha_cons (he_str (ha_nil ⟨le2, ha_nil ⟨le1, he_ixT (he_name (i := 1) rfl rfl (he_int ⟨_, _, _, rfl, rfl, atI_nat (i := 3) x3, ?_⟩))⟩⟩))))))))))
    refine rd_catT (big (by rw [List.length_singleton]; omega)) (ha_nil ⟨le1, rd_catT (big ?_) (he_slT (he_name (i := 1) rfl rfl (ho_int (ho_none ⟨_, rfl, ?_⟩))))⟩)
    · rw [List.length_take, List.length_singleton]
      omega
    rw [show cutD xs (some (4 : Int)) none = xs.drop 4 from cutD_drop xs 4]
    have pr : (D.tup [.str "aa", .str "nowhere"]).nice 10 2 = true ∧ (D.tup [.str "aa", .str "nowhere"]).sz ≤ 20 := ⟨by decide +kernel, by decide +kernel⟩
    obtain ⟨i, ei, _, els3⟩ := nice_tup_inv (els _ (List.mem_of_getElem? x3))
    have yn : (D.tup ([D.tup [.str "aa", .str "nowhere"]] ++ r3)).nice (b + 1) k = true := by
      rw [ei]
      refine nice_tup (by rw [List.length_append, List.length_singleton]; omega) fun d hd => ?_
      rcases List.mem_append.mp hd with hd | hd
      · rw [List.mem_singleton.mp hd]
        exact nice_mono (by omega) (by omega) pr.1
      · exact nice_mono (Nat.le_refl _) (Nat.le_succ _) (els3 d hd)
    have ys : (D.tup ([D.tup [.str "aa", .str "nowhere"]] ++ r3)).sz ≤ (D.tup r3).sz + 100 := by
      rw [D.sz, D.sz, szs_app, szs, szs]
      omega
    refine rd_catT (big ?_) (q _ _ (by omega) ⟨?_, nice_rep (w := 3) S.n yn, sz_rep x3 S.z ys⟩)
    · rw [List.length_append, List.length_take, List.length_drop, List.length_singleton]
      omega
    · rw [← hxs]
      exact ⟨_, _, _, _, _, _, ps, rfl, hp⟩
  refine hss_cons (hs_ret (he_op op_catA (he_slT (he_name (i := 1) rfl rfl (ho_none (ho_int ⟨_, rfl, ?_⟩))))))
  rw [show cutD xs none (some (6 : Int)) = xs.take 6 from cutD_take xs 6]
  refine he_tup (ha_cons (he_ixL (he_lst (hf_lst (ha_cons (he_str (ha_cons (he_str (ha_nil ⟨le2, he_call (has_draw T) (hr.mono (by omega)) (ha_cons (he_name (i := 0) rfl rfl (ha_cons (he_int (ha_nil (draw_of F hc (by omega) (by decide) (by decide) fun r u1 u2 => ?_))))))⟩)))))))))
  obtain ⟨d, hd, e3⟩ := menu_at (ds := [D.str "nowhere", .str "barn"]) (m := 2) rfl u1 u2
  refine ⟨_, _, d, rfl, rfl, e3, ha_nil ⟨le1, rd_catT (big ?_) (q _ _ (by omega) ?_)⟩⟩
  · rw [List.length_take, List.length_singleton]
    omega
  have dn : d.nice 10 1 = true ∧ d.sz ≤ 9 := by
    simp only [List.mem_cons, List.not_mem_nil, or_false] at hd
    rcases hd with rfl | rfl <;> exact ⟨by decide +kernel, by decide +kernel⟩
  have x6' : xs[6]? = some x6 := by rw [← hxs]; rfl
  have e7 : xs.take 6 ++ [d] = xs.take 6 ++ [d] ++ xs.drop 7 := by rw [List.drop_of_length_le (by omega), List.append_nil]
  rw [e7]
  refine ⟨?_, nice_rep (w := 6) S.n (nice_mono (by omega) (by omega) dn.1), sz_rep x6' S.z (by omega)⟩
  rw [← hxs]
  exact ⟨_, _, _, _, _, _, ps, rfl, hp⟩
end
end Fk
set_option Elab.async false
set_option linter.all false
set_option maxRecDepth 100000
set_option maxHeartbeats 4000000
/-! S3: _law_spoilt. -/
namespace Fk
open PySem PySem.Spec PyProof.Rows L2
theorem ixN_at {n j : Nat} (hj : j < n) : ixN n (j : Int) = some j := by
  unfold ixN
  rw [if_pos (by omega), if_pos (by omega), Int.toNat_natCast]
/-- x[y1], x[y2] = e1, e2: x a list of one's own -/
theorem hs_swap {X : Cx} {g : Gx} {n : Nat} {ρ : List SV} {nx : Nat → List SV → Prop} {rt : Nat → SV → Prop} {i i1 i2 a b : Nat} {x y1 y2 : Str} {e1 e2 : Expr} {p1 p2 p3 p4 p5 p6 p7 p8 pos : Pos} {kt k2 : Nat} {ds : List D} (hc : X.calm = true) (hr : ρ[i]? = some (.own ds)) (hN : X.N[i]? = some x)
    (r1 : ρ[i1]? = some (.dat (.int (a : Int)))) (n1 : X.N[i1]? = some y1) (r2 : ρ[i2]? = some (.dat (.int (b : Int)))) (n2 : X.N[i2]? = some y2) (ha : a < ds.length) (hb : b < ds.length)
    (h : HE X g n ρ e1 fun n1 d1 => HE X g n1 ρ e2 fun n2 d2 => nx n2 (ρ.set i (.own ((ds.set a d1).set b d2))))
    (hv : Vis X.env.scope x := by first | exact Or.inl rfl | exact Or.inr (Or.inl rfl) | exact Or.inr (Or.inr rfl)) (hd : (x == ("__debug__" : Str)) = false := by decide) (hcd : (x == ("__classdict__" : Str)) = false := by decide)
    (hv1 : Vis X.env.scope y1 := by first | exact Or.inl rfl | exact Or.inr (Or.inl rfl) | exact Or.inr (Or.inr rfl)) (hd1 : (y1 == ("__debug__" : Str)) = false := by decide) (hcd1 : (y1 == ("__classdict__" : Str)) = false := by decide)
    (hv2 : Vis X.env.scope y2 := by first | exact Or.inl rfl | exact Or.inr (Or.inl rfl) | exact Or.inr (Or.inr rfl)) (hd2 : (y2 == ("__debug__" : Str)) = false := by decide) (hcd2 : (y2 == ("__classdict__" : Str)) = false := by decide)
    (a1 : ∀ v, assign (.Subscript (.Name x p1) (.Name y1 p2) p3) X.env v = (do
      let ov ← holding [v] (eval (.Name x p1) X.env)
      let iv ← holding [v, ov] (eval (.Name y1 p2) X.env)
      standAt p3
      holding [v, ov, iv] (setItem ov iv v)
      release [v, ov, iv] []) := by intro _; rfl)
    (a2 : ∀ v, assign (.Subscript (.Name x p4) (.Name y2 p5) p6) X.env v = (do
      let ov ← holding [v] (eval (.Name x p4) X.env)
      let iv ← holding [v, ov] (eval (.Name y2 p5) X.env)
      standAt p6
      holding [v, ov, iv] (setItem ov iv v)
      release [v, ov, iv] []) := by intro _; rfl)
    (h1 : starEach [e1, e2] X.env = (false, eval e1 X.env) :: starEach [e2] X.env := by rfl) (h2 : starEach [e2] X.env = (false, eval e2 X.env) :: starEach [] X.env := by rfl)
    (g1 : (assignEach [.Subscript (.Name x p1) (.Name y1 p2) p3, .Subscript (.Name x p4) (.Name y2 p5) p6] X.env).map (·.2) = assign (.Subscript (.Name x p1) (.Name y1 p2) p3) X.env :: (assignEach [.Subscript (.Name x p4) (.Name y2 p5) p6] X.env).map (·.2) := by rfl)
    (g2 : (assignEach [.Subscript (.Name x p4) (.Name y2 p5) p6] X.env).map (·.2) = assign (.Subscript (.Name x p4) (.Name y2 p5) p6) X.env :: (assignEach [] X.env).map (·.2) := by rfl)
    (hn : (assignEach [.Subscript (.Name x p1) (.Name y1 p2) p3, .Subscript (.Name x p4) (.Name y2 p5) p6] X.env).length = 2 := by rfl) (hst : (assignEach [.Subscript (.Name x p1) (.Name y1 p2) p3, .Subscript (.Name x p4) (.Name y2 p5) p6] X.env).findIdx? (·.1) = none := by rfl)
    (hs : swapsWithSole [.Tuple [.Subscript (.Name x p1) (.Name y1 p2) p3, .Subscript (.Name x p4) (.Name y2 p5) p6] kt p7] (.Tuple [e1, e2] k2 p8) pos.line X.env = pure false := by rfl) (hw : swappedStores [.Tuple [.Subscript (.Name x p1) (.Name y1 p2) p3, .Subscript (.Name x p4) (.Name y2 p5) p6] kt p7] (.Tuple [e1, e2] k2 p8) X.env = pure none := by rfl)
    (hs1 : (assignEach [.Tuple [.Subscript (.Name x p1) (.Name y1 p2) p3, .Subscript (.Name x p4) (.Name y2 p5) p6] kt p7] X.env).map (·.2) = [assign (.Tuple [.Subscript (.Name x p1) (.Name y1 p2) p3, .Subscript (.Name x p4) (.Name y2 p5) p6] kt p7) X.env] := by rfl) :
    HS X g n ρ (.Assign [.Tuple [.Subscript (.Name x p1) (.Name y1 p2) p3, .Subscript (.Name x p4) (.Name y2 p5) p6] kt p7] (.Tuple [e1, e2] k2 p8) pos) nx rt := fun H0 W0 τ σ H S Dd q1 q2 => by
  obtain ⟨W, w1, w2, k, w3⟩ := S.ex
  refine (ps_asg (pe_tup (pa_cons peW (pa_cons peW pa_nil h2) h1)) (pg_tup hc (pgs_cons (pg_sub (pe_var hN hv hd hcd) (pe_var n1 hv1 hd1 hcd1) set_list a1) (pgs_cons (pg_sub (pe_var hN hv hd hcd) (pe_var n2 hv2 hd2 hcd2) set_list a2) pgs_nil g2) g1) hn hst) hs hw hs1).wpr ?_
  show WE X e1 σ H _
  refine h W σ H k _ fun m1 d1 v1 H1 hb1 ex1 j1 dd1 => ?_
  have k1 := k.step ex1 j1
  have S1 := S.step k ex1 j1
  show WE X e2 σ H1 _
  refine hb1 W σ H1 k1 _ fun m2 d2 v2 H2 hq ex2 j2 dd2 => ?_
  have k2' := k1.step ex2 j2
  have S2 := S1.step k1 ex2 j2
  have dd1' := dd1.ext (k1.extW ex2)
  refine ⟨le2, fun t ht => ?_⟩
  have ex3 : Ext g.G H2 (upd H2 t (.tup [v1, v2])) := Ext.upd ht
  have j3 := g.same j2 (Same.upd (o := .tup [v1, v2]) ht)
  have k3 := k2'.step ex3 j3
  have S3 := S2.step k2' ex3 j3
  obtain ⟨p, xs, s1, pW, pF, hp, hx⟩ := k3.owns i ds hr
  obtain ⟨u1, t1, z1⟩ := k3.dats i1 _ r1
  obtain ⟨u2, t2, z2⟩ := k3.dats i2 _ r2
  have b1 := z1.int_inv
  have b2 := z2.int_inv
  subst b1 b2
  have lx := hx.length
  refine ⟨t, [v1, v2], rfl, .inl (.inl upd_same), rfl, v1, [v2], rfl, .ref p, s1, .int (a : Int), t1, p, xs, a, a, rfl, rfl, hp, ixN_at (by omega), ?_⟩
  refine ⟨v2, [], rfl, .ref p, s1, .int (b : Int), t2, p, xs.set a v1, b, b, rfl, rfl, upd_same, ixN_at (by rw [List.length_set]; omega), rfl, ?_⟩
  rw [upd_upd]
  have w3' : ∀ q ∈ τ, DD X.K W (upd H2 t (.tup [v1, v2])) q.1 q.2 := fun q hq => (((w3 q hq).ext (k.extW ex1)).ext (k1.extW ex2)).ext (k2'.extW ex3)
  exact q1 m2 _ σ _ hq (S3.modO w1 w2 k3 w3' hr s1 ((hx.set a (dd1'.ext (k2'.extW ex3))).set b (dd2.ext (k2'.extW ex3))))
theorem rd_eqNil {K : PySem.W.Frag} {Q : D → Prop} {ds : List D} {b k : Nat} (hn : (D.tup ds).nice b k = true) (hb : b ≤ 1000) (hk : k ≤ 60) (q : Q (.bl ds.isEmpty)) : RD K (rEqD K) (.tup ds) (.tup []) Q := fun W H v u _ dx dy R r => by
  have hf := nice_fit hb hn
  have sh : SeqAt.shaped (D.tup ds).py = true := by
    unfold SeqAt.shaped
    rw [(shows_nice hn).cl, decide_eq_true (Nat.le_trans (py_depth hf) (by omega))]
    rfl
  refine ⟨_, _, DD.dp hf dx, DD.dp (k := 1) rfl dy, sh, rfl, ?_⟩
  have e : PyData.eqv (D.tup ds).py (D.tup []).py = ds.isEmpty := by
    rw [D.py, D.py, pys, PyData.eqv]
    cases ds with
    | nil => rfl
    | cons d ds => rfl
  rw [e]
  exact r _ _ H q (Same.refl H) (.bl _)
theorem nice_typed {b k : Nat} {d : D} (h : d.nice b k = true) : d.typed = true := by
  cases k with
  | zero => rw [D.nice] at h; cases h
  | succ k => cases d <;> first | rfl | (rw [D.nice] at h; cases h)
def noPart : D → Bool
  | .tup ds => ds.isEmpty
  | _ => false
/-- a menu -/
structure Menu (ms : List D) : Prop where
  ne : ms ≠ []
  len : ms.length ≤ 100
  all : ∀ m ∈ ms, m.nice 10 3 = true ∧ m.sz ≤ 40
section
variable {P : Program} {w : World} {K : PySem.W.Frag} {mg : Str → Option Value} {base : Heap}
def aSpoilt (k : Nat) : Acc := fun g n ds Q => ∃ fa ca cs, Feed g fa ca cs ∧ cs.length ≤ 1000 ∧ n + 3 * k ≤ CT ∧ ∃ b d ms, ds = [.obj fa, d, .lst ms] ∧ d.nice b k = true ∧ Menu ms ∧ 10 ≤ b ∧ b ≤ 900 ∧ k ≤ 50 ∧ ∀ n' e, n' ≤ n + 3 * k → e.nice (b + 1) (k + 3) = true → e.sz ≤ 2 * d.sz + 40 → Q n' e
theorem spoilt_step (T : Top K mg) (k : Nat) (ih : ∀ j, k = j + 1 → Has P w K mg base (j + 1) "_law_spoilt" ["_law_feed_here", "_law_thing", "_law_menu"] (aSpoilt j)) : Has P w K mg base (k + 1) "_law_spoilt" ["_law_feed_here", "_law_thing", "_law_menu"] (aSpoilt k) := by
  have hN : (["_law_feed_here", "_law_thing", "_law_menu", "_law_way", "_law_at", "_law_other", "_law_some"] : List Str).Nodup := by decide +kernel
  refine has_of (N := ["_law_feed_here", "_law_thing", "_law_menu", "_law_way", "_law_at", "_law_other", "_law_some"]) T (i := 47) (d := d_law_spoilt) rfl ⟨rfl, rfl, rfl, hN, rfl, by decide +kernel, by decide +kernel⟩ (by decide +kernel) rfl rfl rfl (fun _ _ _ _ _ _ us hl => match us, hl with | [_, _, _], _ => rfl) (fun g n ds Q h => by obtain ⟨_, _, _, _, _, _, _, _, _, rfl, _⟩ := h; rfl) fun cd Ar outer s H E hr g n ds Q h => ?_
  obtain ⟨fa, ca, cs, F, hc, hn, b, d, ms, rfl, hd, M, hb1, hb2, hk, q⟩ := h
  have big : ∀ {k : Nat}, k ≤ 10000 → k ≤ sizeLine := fun {k} h => Nat.le_trans h (show 10000 ≤ sizeLine by decide)
  obtain ⟨k, rfl⟩ : ∃ j, k = j + 1 := ⟨k - 1, by
    cases k with
    | zero => rw [D.nice] at hd; cases hd
    | succ k => rfl⟩
  have hj := ih k rfl
  have ml := M.len
  have m0 : 0 < ms.length := List.length_pos_iff.mpr M.ne
  have mz := sz_pos d
  refine hss_cons (hs_set (i := 3) hN rfl (he_call (has_draw T) (hr.mono (by omega)) (ha_cons (he_name (i := 0) rfl rfl (ha_cons (he_int (ha_nil (draw_of F hc (by omega) (by decide) (by decide) fun way w1 w2 => ?_))))))))
  obtain ⟨v, rfl⟩ := Int.eq_ofNat_of_zero_le w1
  refine hss_cons (hs_ifP (!d.isTup || (noPart d || decide ((v : Int) = 0))) (ht_bool (hw_orP (ht_notP (ht_valP (he_isi kit_tup T.f_isinstance T.f_tuple boot_tuple (he_name (i := 1) rfl rfl ⟨nice_typed hd, rfl, rfl⟩)))) fun e1 => ?eq)) (fun e => ?mn) fun e => hss_nil ?go)
  case eq =>
    obtain ⟨ds, rfl⟩ := isTup_of (d := d) (by simpa using e1)
    exact hw_orP (ht_cmp (op_eqD (Room.units hr)) (he_name (i := 1) rfl rfl (he_tup (ha_nil ⟨Nat.zero_le _, rd_eqNil hd (by omega) (by omega) ⟨_, rfl, rfl, rfl⟩⟩)))) fun _ => hw_or1 (ht_cmp op_eq (he_name (i := 3) rfl rfl (he_int (rd_eqI ⟨_, rfl, rfl, rfl⟩))))
  case mn =>
    refine hss_cons (hs_ret (he_ixL (he_name (i := 2) rfl rfl (he_call (has_draw T) (hr.mono (by omega)) (ha_cons (he_name (i := 0) rfl rfl (ha_cons (he_len T.f_len (he_name (i := 2) rfl rfl ⟨rfl, ha_nil (draw_of F hc (by omega) ?p1 ?p2 fun r r1 r2 => ?_)⟩)))))))))
    case p1 =>
      show (0 : Int) < (ms.length : Int)
      omega
    case p2 =>
      show (ms.length : Int) < 1073741824
      omega
    obtain ⟨m, hm, e3⟩ := menu_at (ds := ms) (m := (ms.length : Int)) rfl r1 r2
    have := M.all m hm
    exact ⟨_, _, m, rfl, rfl, e3, q _ _ (by omega) (nice_mono (by omega) (by omega) this.1) (by omega)⟩
  simp only [Bool.or_eq_false_iff, decide_eq_false_iff_not] at e
  obtain ⟨e1, e2, e3⟩ := e
  obtain ⟨ds, rfl⟩ := isTup_of (d := d) (by simpa using e1)
  have d0 : 0 < ds.length := by
    cases ds with
    | nil => cases e2
    | cons _ _ => exact Nat.succ_pos _
  obtain ⟨j, ej, dl, els⟩ := nice_tup_inv hd
  obtain rfl : k = j := by omega
  have dsz : (D.tup ds).sz = szs ds + 1 := by rw [D.sz]
  refine hss_cons (hs_set (i := 4) hN rfl (he_call (has_draw T) (hr.mono (by omega)) (ha_cons (he_name (i := 0) rfl rfl (ha_cons (he_len T.f_len (he_name (i := 1) rfl rfl ⟨rfl, ha_nil (draw_of F hc (by omega) ?p3 ?p4 fun a a1 a2 => ?_)⟩)))))))
  case p3 =>
    show (0 : Int) < (ds.length : Int)
    omega
  case p4 =>
    show (ds.length : Int) < 1073741824
    omega
  obtain ⟨a, rfl⟩ := Int.eq_ofNat_of_zero_le a1
  have ha : a < ds.length := by
    have : (a : Int) < (ds.length : Int) := a2
    omega
  have hx : ds[a]? = some ds[a] := List.getElem?_eq_getElem ha
  generalize ds[a] = x at hx
  have xm := List.mem_of_getElem? hx
  have xs := szs_split hx
  have ea : ((a : Int) + 1) = ((a + 1 : Nat) : Int) := by omega
  have lt : (ds.take a).length ≤ a := by rw [List.length_take]; omega
  have ld : (ds.drop (a + 1)).length ≤ ds.length - (a + 1) := by rw [List.length_drop]; omega
  have ld2 : (ds.drop a).length ≤ ds.length - a := by rw [List.length_drop]; omega
  have up : ∀ {y : D}, y.nice b k = true → y.nice (b + 1) (k + 3) = true := fun h => nice_mono (by omega) (by omega) h
  refine hss_cons (hs_if (ht_cmp op_eq (he_name (i := 3) rfl rfl (he_int (rd_eqI ⟨_, rfl, fun e => ?c1, fun _ => hss_nil ?g1⟩)))))
  case c1 =>
    refine hss_cons (hs_ret (he_op op_catA (he_slT (he_name (i := 1) rfl rfl (ho_none (ho_some (he_name (i := 4) rfl rfl ⟨_, rfl, _, rfl, ?_⟩)))))))
    rw [cutD_take]
    refine he_slT (he_name (i := 1) rfl rfl (ho_some (he_op op_add (he_name (i := 4) rfl rfl (he_int (rd_int ⟨_, rfl, ho_none ⟨_, rfl, ?_⟩⟩))))))
    rw [ea, cutD_drop]
    refine rd_catT (big (by omega)) (q _ _ (by omega) (nice_mono (by omega) (by omega) (nice_cut (a := a) hd)) ?_)
    have := cutAt_sz ds a
    unfold cutAt at this
    omega
  refine hss_cons (hs_if (ht_cmp op_eq (he_name (i := 3) rfl rfl (he_int (rd_eqI ⟨_, rfl, fun e => ?c2, fun _ => hss_nil ?g2⟩)))))
  case c2 =>
    refine hss_cons (hs_ret (he_op op_catA (he_op op_catA (he_slT (he_name (i := 1) rfl rfl (ho_none (ho_some (he_name (i := 4) rfl rfl ⟨_, rfl, _, rfl, ?_⟩))))))))
    rw [cutD_take]
    refine he_slT (he_name (i := 1) rfl rfl (ho_some (he_name (i := 4) rfl rfl ⟨_, rfl, ho_some (he_op op_add (he_name (i := 4) rfl rfl (he_int (rd_int ⟨_, rfl, _, rfl, ?_⟩))))⟩)))
    have e5 : cutD ds (some (a : Int)) (some ((a : Int) + 1)) = [x] := by
      rw [ea]
      unfold cutD
      rw [HT.sIx_nat, HT.sIx_nat, Nat.min_eq_left (by omega), Nat.min_eq_left (by omega), Nat.add_sub_cancel_left, drop_at hx]
      rfl
    rw [e5]
    refine rd_catT (big (by rw [List.length_singleton]; omega)) (he_slT (he_name (i := 1) rfl rfl (ho_some (he_name (i := 4) rfl rfl ⟨_, rfl, ho_none ⟨_, rfl, ?_⟩⟩))))
    rw [cutD_drop]
    refine rd_catT (big (by rw [List.length_append, List.length_singleton]; omega)) (q _ _ (by omega) ?_ ?_)
    · refine nice_tup (by rw [List.length_append, List.length_append, List.length_singleton, List.length_take, List.length_drop]; omega) fun y hy => ?_
      rcases List.mem_append.mp hy with hy | hy
      · rcases List.mem_append.mp hy with hy | hy
        · exact nice_mono (by omega) (by omega) (els y (List.mem_of_mem_take hy))
        · rw [List.mem_singleton.mp hy]
          exact nice_mono (by omega) (by omega) (els x xm)
      · exact nice_mono (by omega) (by omega) (els y (List.mem_of_mem_drop hy))
    · have h1 := szs_take ds a
      rw [D.sz, szs_app, szs_app, szs, szs]
      omega
  refine hss_cons (hs_if (ht_cmp op_eq (he_name (i := 3) rfl rfl (he_int (rd_eqI ⟨_, rfl, fun e => ?c3, fun _ => hss_nil ?g3⟩)))))
  case c3 =>
    refine hss_cons (hs_ret (he_op op_catA (he_op op_catA (he_slT (he_name (i := 1) rfl rfl (ho_none (ho_some (he_name (i := 4) rfl rfl ⟨_, rfl, _, rfl, ?_⟩))))))))
    rw [cutD_take]
    refine he_tup (ha_cons (he_ixL (he_name (i := 2) rfl rfl (he_call (has_draw T) (hr.mono (by omega)) (ha_cons (he_name (i := 0) rfl rfl (ha_cons (he_len T.f_len (he_name (i := 2) rfl rfl ⟨rfl, ha_nil (draw_of F hc (by omega) ?p1 ?p2 fun r r1 r2 => ?_)⟩)))))))))
    case p1 =>
      show (0 : Int) < (ms.length : Int)
      omega
    case p2 =>
      show (ms.length : Int) < 1073741824
      omega
    obtain ⟨m, hm, e6⟩ := menu_at (ds := ms) (m := (ms.length : Int)) rfl r1 r2
    have mm := M.all m hm
    refine ⟨_, _, m, rfl, rfl, e6, ha_nil ⟨le1, rd_catT (big (by rw [List.length_singleton]; omega)) (he_slT (he_name (i := 1) rfl rfl (ho_some (he_name (i := 4) rfl rfl ⟨_, rfl, ho_none ⟨_, rfl, ?_⟩⟩))))⟩⟩
    rw [cutD_drop]
    refine rd_catT (big (by rw [List.length_append, List.length_singleton]; omega)) (q _ _ (by omega) ?_ ?_)
    · refine nice_tup (by rw [List.length_append, List.length_append, List.length_singleton, List.length_take, List.length_drop]; omega) fun y hy => ?_
      rcases List.mem_append.mp hy with hy | hy
      · rcases List.mem_append.mp hy with hy | hy
        · exact nice_mono (by omega) (by omega) (els y (List.mem_of_mem_take hy))
        · rw [List.mem_singleton.mp hy]
          exact nice_mono (by omega) (by omega) mm.1
      · exact nice_mono (by omega) (by omega) (els y (List.mem_of_mem_drop hy))
    · have h1 := szs_take ds a
      rw [D.sz, szs_app, szs_app, szs, szs]
      omega
  refine hss_cons (hs_if (ht_cmp op_eq (he_name (i := 3) rfl rfl (he_int (rd_eqI ⟨_, rfl, fun e => ?c4, fun _ => hss_nil ?g4⟩)))))
  case c4 =>
    refine hss_cons (hs_parDO (i := 5) (j := 6) hN rfl rfl (by decide) (he_call (has_draw T) (hr.mono (by omega)) (ha_cons (he_name (i := 0) rfl rfl (ha_cons (he_len T.f_len (he_name (i := 1) rfl rfl ⟨rfl, ha_nil (draw_of F hc (by omega) ?p5 ?p6 fun o o1 o2 => hf_list T.f_list (he_name (i := 1) rfl rfl ⟨ds, .inr rfl, ?_⟩))⟩)))))))
    case p5 =>
      show (0 : Int) < (ds.length : Int)
      omega
    case p6 =>
      show (ds.length : Int) < 1073741824
      omega
    obtain ⟨o, rfl⟩ := Int.eq_ofNat_of_zero_le o1
    have ho : o < ds.length := by
      have : (o : Int) < (ds.length : Int) := o2
      omega
    have hy : ds[o]? = some ds[o] := List.getElem?_eq_getElem ho
    generalize ds[o] = y at hy
    have ym := List.mem_of_getElem? hy
    refine hss_cons (hs_swap (i := 6) (i1 := 4) (i2 := 5) (a := a) (b := o) rfl rfl rfl rfl rfl rfl rfl ha ho (he_ixT (he_name (i := 1) rfl rfl (he_name (i := 5) rfl rfl ⟨_, _, y, rfl, rfl, atI_nat hy, he_ixT (he_name (i := 1) rfl rfl (he_name (i := 4) rfl rfl ⟨_, _, x, rfl, rfl, atI_nat hx, ?_⟩))⟩))))
    refine hss_freeze (i := 6) rfl ?_
    have sub : ∀ z ∈ (ds.set a y).set o x, z ∈ ds := fun z hz => by
      rcases List.mem_or_eq_of_mem_set hz with hz | rfl
      · rcases List.mem_or_eq_of_mem_set hz with hz | rfl
        · exact hz
        · exact ym
      · exact xm
    refine hss_cons (hs_ret (he_tuple T.f_tuple (he_name (i := 6) rfl rfl ⟨_, rfl, q _ _ (by omega) ?_ ?_⟩)))
    · exact nice_tup (by rw [List.length_set, List.length_set]; omega) fun z hz => nice_mono (by omega) (by omega) (els z (sub z hz))
    · have h1 : szs ((ds.set a y).set o x) = szs ds := by
        have hyo : (ds.set a y)[o]? = some (if a = o then y else y) := by
          by_cases hao : a = o
          · subst hao
            rw [if_pos rfl, List.getElem?_set_self ha]
          · rw [if_neg hao, List.getElem?_set_ne hao, hy]
        have hset : ∀ {l : List D} {i : Nat} {u z : D}, l[i]? = some u → szs (l.set i z) + u.sz = szs l + z.sz := fun {l i u z} h => by
          have e1 := szs_split h
          have hi : i < l.length := (List.getElem?_eq_some_iff.mp h).1
          have h2 : (l.set i z)[i]? = some z := List.getElem?_set_self hi
          have e2 := szs_split h2
          have e3 : (l.set i z).take i = l.take i := by rw [List.take_set_of_le (Nat.le_refl _)]
          have e4 : (l.set i z).drop (i + 1) = l.drop (i + 1) := by rw [List.drop_set_of_lt (by omega)]
          rw [e3, e4] at e2
          omega
        have s1 := hset (z := y) hx
        have s2 := hset (z := x) hyo
        rw [ite_self] at s2
        omega
      rw [D.sz]
      omega
  refine hss_cons (hs_if (ht_cmp op_eq (he_name (i := 3) rfl rfl (he_int (rd_eqI ⟨_, rfl, fun e => ?c5, fun _ => hss_nil ?g5⟩)))))
  case c5 =>
    refine hss_cons (hs_ret (he_lst (hf_list T.f_list (he_name (i := 1) rfl rfl ⟨ds, .inr rfl, q _ _ (by omega) ?_ ?_⟩))))
    · exact nice_lst (by omega) fun y hy => nice_mono (by omega) (by omega) (els y hy)
    · have el : (D.lst ds).sz = szs ds + 1 := by rw [D.sz]
      omega
  refine hss_cons (hs_ret (he_op op_catA (he_op op_catA (he_slT (he_name (i := 1) rfl rfl (ho_none (ho_some (he_name (i := 4) rfl rfl ⟨_, rfl, _, rfl, ?_⟩))))))))
  rw [cutD_take]
  refine he_tup (ha_cons (he_call hj (hr.mono (by omega)) (ha_cons (he_name (i := 0) rfl rfl (ha_cons (he_ixT (he_name (i := 1) rfl rfl (he_name (i := 4) rfl rfl ⟨_, _, x, rfl, rfl, atI_nat hx, ha_cons (he_name (i := 2) rfl rfl (ha_nil ⟨fa, ca, cs, F, hc, by omega, b, x, ms, rfl, els x xm, M, hb1, hb2, by omega, fun n1 y b1 y1 y2 => ha_nil ⟨le1, ?_⟩⟩))⟩))))))))
  refine rd_catT (big (by rw [List.length_singleton]; omega)) (he_slT (he_name (i := 1) rfl rfl (ho_some (he_op op_add (he_name (i := 4) rfl rfl (he_int (rd_int ⟨_, rfl, ho_none ⟨_, rfl, ?_⟩⟩)))))))
  rw [ea, cutD_drop]
  refine rd_catT (big (by rw [List.length_append, List.length_singleton]; omega)) (q _ _ (by omega) ?_ ?_)
  · refine nice_tup (by rw [List.length_append, List.length_append, List.length_singleton, List.length_take, List.length_drop]; omega) fun z hz => ?_
    rcases List.mem_append.mp hz with hz | hz
    · rcases List.mem_append.mp hz with hz | hz
      · exact nice_mono (by omega) (by omega) (els z (List.mem_of_mem_take hz))
      · rw [List.mem_singleton.mp hz]
        exact nice_mono (by omega) (by omega) y1
    · exact nice_mono (by omega) (by omega) (els z (List.mem_of_mem_drop hz))
  · rw [D.sz, szs_app, szs_app, szs, szs]
    omega
theorem has_spoilt (T : Top K mg) : ∀ k, Has P w K mg base (k + 1) "_law_spoilt" ["_law_feed_here", "_law_thing", "_law_menu"] (aSpoilt k)
  | 0 => spoilt_step T 0 fun j e => by cases e
  | k + 1 => spoilt_step T (k + 1) fun j e => by
    obtain rfl : k = j := by omega
    exact has_spoilt T k
end
end Fk
set_option Elab.async false
set_option linter.all false
set_option maxRecDepth 100000
set_option maxHeartbeats 4000000
/-! S4: d.update(e); lets_whole where nothing is refused. -/
namespace Fk
open PySem PySem.Spec PyProof.Rows L2
def rUpdD : V → List V → Hp → VK → Prop := fun x vs H Q => ∃ (a b : Addr) (kvs more : List (Key × V)), x = .ref a ∧ vs = [.ref b] ∧ a ≠ b ∧ H a = some (.dK kvs) ∧ H b = some (.dK more) ∧ kvs.length + more.length ≤ sizeLine ∧ Q .non (upd H a (.dK (mergeK kvs more)))
theorem mt_update {X : Cx} : MtR X "dict.update" rUpdD := by
  intro pins s σ H x vs v us Q I rx rv h
  obtain ⟨a, b, kvs, more, rfl, rfl, hne, ha, hb, hz, q⟩ := h
  obtain rfl : v = Value.ref a := rx
  obtain ⟨u, rfl, ru⟩ := vals1 rv
  cases ru
  obtain ⟨z1, d1, vs, r1, m1⟩ := dk_of I.hok ha
  obtain ⟨z2, d2, us, r2, m2⟩ := dk_of I.hok hb
  refine call_meetsIn PySem.F.slot_dict_update m1.typeIs PySem.F.entry_dict_update (PySem.F.args_dict_update_2 _ _) (meets_dict_update (mixKind X.prog X.w) a b hne d2) ⟨vs, us, m1, m2, by rw [← r1.length, ← r2.length]; exact hz, fun h' dd' _ hs => ?_⟩
  have he : ∃ q, h'.get? a = some q := let ⟨q, _, _, hq, _⟩ := dd'; ⟨q, hq⟩
  exact ⟨.non, _, d_write (t' := s.toks) I (by rw [ha]; exact True.intro) hs he (dk_new (by have := length_mergeK more kvs; omega) d1 (r2.merge r1) dd'), rfl, q⟩
section
variable {X : Cx} {g : Gx} {n : Nat} {ρ : List SV} {e : Expr} {es : List Expr} {pos p : Pos} {Q : Nat → D → Prop} {x : Str} {k : Nat} {ps : List Str} {A : AccX}
/-- a call of a def that may raise, where it does not -/
theorem he_callX (T : HasX X.prog X.w X.K X.mg X.base k x ps A) (hr : Room k X.A) (h : HA X g n ρ (e :: es) fun n' ds => A g n' ds Q fun _ _ _ => False) (hg : Gl X x := by rfl) (hdb : (x == ("__debug__" : Str)) = false := by decide)
    (he : starEach (e :: es) X.env = (false, eval e X.env) :: starEach es X.env := by rfl) (hpl : (backTo pos (starEach es X.env)).any (·.1) = false := by rfl) : HE X g n ρ (.Call (.Name x p) (e :: es) [] pos) Q := fun W σ H kk R r => by
  obtain ⟨fd, F, B⟩ := T.ok
  refine (pe_call (E := fun _ _ _ => False) F hr hg T.m T.kp B .nil (fun _ _ _ _ _ _ _ ⟨_, _, _, _, _, _, _, _, _, _, _, _, z⟩ => z.elim) paW hdb he hpl).wpr (h W σ H kk _ fun n1 ds vs H1 q e1 j1 dd => ?_)
  have k1 := kk.step e1 j1
  rw [List.append_nil]
  exact ⟨g, W, n1, ds, Q, fun _ _ _ => False, q, j1, k1.gw, k1.trk, dd, fun n' d v H' qd e2 j2 d2 => r n' d v H' qd (e1.trans e2) j2 d2, fun _ _ _ _ _ _ _ z => z.elim⟩
end
end Fk
set_option Elab.async false
set_option linter.all false
set_option maxRecDepth 100000
set_option maxHeartbeats 4000000
/-! S5: the second pool. -/
namespace Fk
open PySem PySem.Spec PyProof.Rows L2
def nwL : D := .lst [.str "nowhere"]
def p2D : List D := [.tup [.str "number", nwL], .tup [.str "place", nwL], .tup [.str "figure", nwL]]
def nm2 : Str → List Str := nmF ["a", "nowhere"] ["nowhere"] ["nowhere"] ["nowhere"]
theorem nw_inv {K : PySem.W.Frag} {W : List Addr} {H : Hp} {v : V} {s : Str} (h : DD K W H v (.tup [.str s, nwL])) : ∃ t l, v = .ref t ∧ H t = some (.tup [.str s, .ref l]) ∧ l ∉ W ∧ H l = some (.lst [.str "nowhere"]) := by
  obtain ⟨t, xs, rfl, _, ht, hx⟩ := h.tup_inv
  cases hx with
  | cons h1 h2 =>
    cases h2 with
    | cons h3 h4 =>
      cases h4
      cases h1
      obtain ⟨l, ys, rfl, hl, e1, e2⟩ := h3.lst_inv
      cases e2 with
      | cons h5 h6 =>
        cases h6
        cases h5
        exact ⟨t, l, rfl, ht, hl, e1⟩
/-- pool = dict([..]); pool.update({'scene': ['a', 'nowhere'], 'left': [c]}) -/
theorem hss_pool2 {X : Cx} {g : Gx} {n : Nat} {ρ : List SV} {nx : Nat → List SV → Prop} {rt : Nat → SV → Prop} {sts : List Stmt} {i : Nat} {y : Str} {ce : Expr} {py cp dp spos p1 p2 p3 p4 p5 p6 q1 q2 q3 apos upos epos : Pos} {j1 j2 j3 j4 j5 : Nat} {c : Int} {fa ca : Addr} {cs : List Int}
    (hcalm : X.calm = true) (hN : X.N.Nodup) (hy : X.N[i]? = some y) (hi : i < ρ.length) (hmd : X.mg "dict" = none) (F : Feed g fa ca cs) (hc : cs.length ≤ 1000) (hlc : HF X g n ρ ce fun n' ds => n' = n ∧ ds = p2D)
    (h : ∀ g' pa, Gen g' fa pa nm2 → HSs X g' n (ρ.set i (.dat (.obj pa))) sts nx rt)
    (v1 : Vis X.env.scope y := by first | exact Or.inl rfl | exact Or.inr (Or.inl rfl) | exact Or.inr (Or.inr rfl)) (b1 : (y == ("__debug__" : Str)) = false := by decide) (c1 : (y == ("__classdict__" : Str)) = false := by decide)
    (hx : Loc X.env.scope y := by first | exact Or.inl rfl | exact Or.inr rfl) (hf : X.fn y = true ∨ X.env.scope.names.lookup y = some .local := by first | exact .inl rfl | exact .inr rfl) (hgd : Gl X "dict" := by rfl)
    (he : starEach [ce] X.env = (false, eval ce X.env) :: starEach [] X.env := by rfl)
    (hs : swapsWith (.Call (.Name "dict" dp) [ce] [] cp) (some (.Name y py)) spos.line X.env = pure false := by rfl)
    (hbase : attributeBase (.Name y q1) "update" X.env (eval (.Name y q1) X.env) = eval (.Name y q1) X.env := by rfl)
    (hfew : ((backTo upos (starEach [.Dict [some (.Constant (.str "scene") j1 p1), some (.Constant (.str "left") j2 p2)] [.List [.Constant (.str "a") j3 p3, .Constant (.str "nowhere") j4 p4] q2, .List [.Constant (.int c) j5 p5] q3] p6] X.env)).all (fun x => !x.1) && (backToKw upos (keywordEach [] X.env)).all (fun x => x.1.isSome) && decide (([.Dict [some (.Constant (.str "scene") j1 p1), some (.Constant (.str "left") j2 p2)] [.List [.Constant (.str "a") j3 p3, .Constant (.str "nowhere") j4 p4] q2, .List [.Constant (.int c) j5 p5] q3] p6] : List Expr).length + ([] : List Keyword).length + (if ([] : List Keyword).isEmpty then 0 else 1) < 30)) = true := by rfl)
    (hline : (apos.endLine == upos.line) = true := by rfl)
    (hse : starEach [.Dict [some (.Constant (.str "scene") j1 p1), some (.Constant (.str "left") j2 p2)] [.List [.Constant (.str "a") j3 p3, .Constant (.str "nowhere") j4 p4] q2, .List [.Constant (.int c) j5 p5] q3] p6] X.env = (false, eval (.Dict [some (.Constant (.str "scene") j1 p1), some (.Constant (.str "left") j2 p2)] [.List [.Constant (.str "a") j3 p3, .Constant (.str "nowhere") j4 p4] q2, .List [.Constant (.int c) j5 p5] q3] p6) X.env) :: starEach [] X.env := by rfl)
    (hl1 : starEach [.Constant (.str "a") j3 p3, .Constant (.str "nowhere") j4 p4] X.env = (false, eval (.Constant (.str "a") j3 p3) X.env) :: starEach [.Constant (.str "nowhere") j4 p4] X.env := by rfl)
    (hsw : swapsWith (.Call (.Attribute (.Name y q1) "update" apos) [.Dict [some (.Constant (.str "scene") j1 p1), some (.Constant (.str "left") j2 p2)] [.List [.Constant (.str "a") j3 p3, .Constant (.str "nowhere") j4 p4] q2, .List [.Constant (.int c) j5 p5] q3] p6] [] upos) none epos.line X.env = pure false := by rfl) :
    HSs X g n ρ (.Assign [.Name y py] (.Call (.Name "dict" dp) [ce] [] cp) spos :: .Expr (.Call (.Attribute (.Name y q1) "update" apos) [.Dict [some (.Constant (.str "scene") j1 p1), some (.Constant (.str "left") j2 p2)] [.List [.Constant (.str "a") j3 p3, .Constant (.str "nowhere") j4 p4] q2, .List [.Constant (.int c) j5 p5] q3] p6] [] upos) epos :: sts) nx rt := fun H0 W0 τ σ H S Dd d1 d2 => by
  obtain ⟨W, w1, w2, k, w3⟩ := S.ex
  refine (pss_cons psW pssW).wpr ((ps_set hN hy hx (pe_callTy (call_dictP hcalm) hgd hmd boot_dict (pa_cons peW pa_nil he) (by decide) (by decide) he rfl) hs hf).wpr ?_)
  show WE X ce σ H _
  refine hlc W σ H k _ fun n' ds a xs H1 qd na e1 j1' ha dd => ?_
  obtain ⟨rfl, rfl⟩ := qd
  have kk := k.step e1 j1'
  have S1 := S.step k e1 j1'
  have w3' : ∀ p ∈ τ, DD X.K W H1 p.1 p.2 := fun p hp => (w3 p hp).ext (k.extW e1)
  cases dd with
  | cons x1 x' =>
    cases x' with
    | cons x2 x' =>
      cases x' with
      | cons x3 x' =>
        cases x'
        obtain ⟨t1, l1, rfl, ht1, n1, hl1'⟩ := nw_inv x1
        obtain ⟨t2, l2, rfl, ht2, n2, hl2'⟩ := nw_inv x2
        obtain ⟨t3, l3, rfl, ht3, n3, hl3'⟩ := nw_inv x3
        refine ⟨a, [t1, t2, t3], [(.inr "number", .ref l1), (.inr "place", .ref l2), (.inr "figure", .ref l3)], rfl, .inl (.inl ha), .cons (.inl (.inl ht1)) (.cons (.inl (.inl ht2)) (.cons (.inl (.inl ht3)) .nil)), fun pa hpa => ?_⟩
        have m1 : mergeK [] ([(Sum.inr "number", V.ref l1), (.inr "place", .ref l2), (.inr "figure", .ref l3)] : List (Key × V)) = [(.inr "number", .ref l1), (.inr "place", .ref l2), (.inr "figure", .ref l3)] := by
          have z := mergeK_new (kvs := []) (more := ([(Sum.inr "number", V.ref l1), (.inr "place", .ref l2), (.inr "figure", .ref l3)] : List (Key × V))) (show (([] : List Key) ++ (["number", "place", "figure"] : List Str).map Sum.inr).Nodup from nodup_inr (by decide))
          simpa using z
        rw [m1]
        have li : i < σ.length := by rw [← k.len]; exact hi
        have si : (σ.set i (some (.ref pa)))[i]? = some (some (V.ref pa)) := by rw [List.getElem?_set_self li]
        refine (pss_cons psW pssW).wpr ((ps_expr (pe_bm PySem.F.plainAttrs_dict PySem.F.slot_dict_update PySem.F.type_dict_update mt_update (pe_var hy v1 b1 c1) (pa_cons (pe_disp (ppsW rfl rfl) rfl rfl (fun z => by cases z) (by exact Nat.le_of_ble_eq_true rfl)) pa_nil hse) hbase hfew hline hse rfl) hsw).wpr ?_)
        refine ⟨.ref pa, si, .inr (.inr (.inl ⟨rfl, .inl ⟨_, upd_same⟩⟩)), fun pd hpd => ?_⟩
        show WE X _ _ _ _
        refine pe_str.wpr ?_
        show WE X _ _ _ _
        refine (pe_lst (pa_cons pe_str (pa_cons pe_str pa_nil) hl1)).wpr ⟨le2, fun ls hls => ?_⟩
        show WE X _ _ _ _
        refine pe_str.wpr ?_
        show WE X _ _ _ _
        refine (pe_lst (pa_cons pe_int pa_nil)).wpr ⟨le1, fun la hla => ?_⟩
        have hpd2 : pa ≠ pd := fun z => by
          subst z
          rw [upd_same] at hpd
          cases hpd
        have hd1 : H1 pd = none := by rwa [upd_ne hpd2.symm] at hpd
        have e1 : ls ≠ pd := fun z => by
          subst z
          rw [upd_same] at hls
          cases hls
        rw [upd_ne e1] at hls
        have e2 : ls ≠ pa := fun z => by
          subst z
          rw [upd_same] at hls
          cases hls
        rw [upd_ne e2] at hls
        have e3 : la ≠ ls := fun z => by
          subst z
          rw [upd_same] at hla
          cases hla
        rw [upd_ne e3] at hla
        have e4 : la ≠ pd := fun z => by
          subst z
          rw [upd_same] at hla
          cases hla
        rw [upd_ne e4] at hla
        have e5 : la ≠ pa := fun z => by
          subst z
          rw [upd_same] at hla
          cases hla
        rw [upd_ne e5] at hla
        have m2 : mergeK [] ([(Sum.inr "scene", V.ref ls), (.inr "left", .ref la)] : List (Key × V)) = [(.inr "scene", .ref ls), (.inr "left", .ref la)] := by
          have z := mergeK_new (kvs := []) (more := ([(Sum.inr "scene", V.ref ls), (.inr "left", .ref la)] : List (Key × V))) (show (([] : List Key) ++ (["scene", "left"] : List Str).map Sum.inr).Nodup from nodup_inr (by decide))
          simpa using z
        have m3 : mergeK ([(Sum.inr "number", V.ref l1), (.inr "place", .ref l2), (.inr "figure", .ref l3)] : List (Key × V)) [(.inr "scene", .ref ls), (.inr "left", .ref la)] = [(.inr "number", .ref l1), (.inr "place", .ref l2), (.inr "figure", .ref l3), (.inr "scene", .ref ls), (.inr "left", .ref la)] :=
          mergeK_new (show (((["number", "place", "figure"] : List Str).map Sum.inr : List Key) ++ (["scene", "left"] : List Str).map Sum.inr).Nodup from by
            rw [← List.map_append]
            exact nodup_inr (by decide))
        refine ⟨?_, [(.inr "scene", .ref ls), (.inr "left", .ref la)], rfl, by exact Nat.le_of_ble_eq_true rfl, ?_⟩
        · rw [upd_ne e4.symm, upd_ne e1.symm, upd_same]
        rw [m2]
        refine ⟨pa, pd, [(.inr "number", .ref l1), (.inr "place", .ref l2), (.inr "figure", .ref l3)], [(.inr "scene", .ref ls), (.inr "left", .ref la)], rfl, rfl, hpd2, ?_, upd_same, le5, ?_⟩
        · rw [upd_ne hpd2, upd_ne e5.symm, upd_ne e2.symm, upd_ne hpd2, upd_same]
        rw [m3]
        have ne : ∀ {b : Addr} {o}, H1 b = some o → b ≠ pa ∧ b ≠ pd ∧ b ≠ ls ∧ b ≠ la := fun {b o} q => ⟨fun z => (by rw [z, hpa] at q; cases q), fun z => (by rw [z, hd1] at q; cases q), fun z => (by rw [z, hls] at q; cases q), fun z => (by rw [z, hla] at q; cases q)⟩
        have keep : Same H1 (upd (upd (upd (upd (upd (upd H1 pa (.dK [(.inr "number", .ref l1), (.inr "place", .ref l2), (.inr "figure", .ref l3)])) pd (.dK [])) ls (.lst [.str "a", .str "nowhere"])) la (.lst [.int c])) pd (.dK [(.inr "scene", .ref ls), (.inr "left", .ref la)])) pa (.dK [(.inr "number", .ref l1), (.inr "place", .ref l2), (.inr "figure", .ref l3), (.inr "scene", .ref ls), (.inr "left", .ref la)])) := fun b o q => by
          obtain ⟨z1, z2, z3, z4⟩ := ne q
          rw [upd_ne z1, upd_ne z2, upd_ne z4, upd_ne z3, upd_ne z2, upd_ne z1]
          exact q
        have vs : ∀ (s : Str) (ks : List (Str × Addr)), valV (ks.map fun p => ((Sum.inr p.1 : Key), V.ref p.2)) (Sum.inr s) = (ks.find? fun p => decide (p.1 = s)).map fun p => V.ref p.2 := fun s ks => by
          induction ks with
          | nil => rfl
          | cons p ks ih =>
            rw [List.map_cons, List.find?_cons]
            by_cases hk : p.1 = s
            · rw [valV_pos (p := ((Sum.inr p.1 : Key), V.ref p.2)) (by rw [hk])]
              simp [hk]
            · rw [valV_neg (p := ((Sum.inr p.1 : Key), V.ref p.2)) (fun z => hk (Sum.inr.inj z)), ih]
              simp [hk]
        have vk : ∀ s : Str, valV ([(Sum.inr "number", V.ref l1), (.inr "place", .ref l2), (.inr "figure", .ref l3), (.inr "scene", .ref ls), (.inr "left", .ref la)] : List (Key × V)) (Sum.inr s) = (([("number", l1), ("place", l2), ("figure", l3), ("scene", ls), ("left", la)] : List (Str × Addr)).find? fun p => decide (p.1 = s)).map fun p => V.ref p.2 := fun s => vs s [("number", l1), ("place", l2), ("figure", l3), ("scene", ls), ("left", la)]
        have hls7 : (upd (upd (upd (upd (upd (upd H1 pa (.dK [(.inr "number", .ref l1), (.inr "place", .ref l2), (.inr "figure", .ref l3)])) pd (.dK [])) ls (.lst [.str "a", .str "nowhere"])) la (.lst [.int c])) pd (.dK [(.inr "scene", .ref ls), (.inr "left", .ref la)])) pa (.dK [(.inr "number", .ref l1), (.inr "place", .ref l2), (.inr "figure", .ref l3), (.inr "scene", .ref ls), (.inr "left", .ref la)])) ls = some (.lst [.str "a", .str "nowhere"]) := by
          rw [upd_ne e2, upd_ne e1, upd_ne e3.symm, upd_same]
        have nW : ∀ {b : Addr}, H1 b = none → b ∉ W := fun {b} z hf => by
          obtain ⟨o, q⟩ := kk.trk b hf
          rw [z] at q
          cases q
        have up : ∀ {b : Addr}, b ∉ a :: W → b ∉ W := fun {b} h z => h (List.mem_cons_of_mem _ z)
        have hn : ∀ s ∈ SRTS, ∃ b, valV ([(Sum.inr "number", V.ref l1), (.inr "place", .ref l2), (.inr "figure", .ref l3), (.inr "scene", .ref ls), (.inr "left", .ref la)] : List (Key × V)) (Sum.inr s) = some (.ref b) ∧ b ∈ [l1, l2, l3, ls] ∧ (upd (upd (upd (upd (upd (upd H1 pa (.dK [(.inr "number", .ref l1), (.inr "place", .ref l2), (.inr "figure", .ref l3)])) pd (.dK [])) ls (.lst [.str "a", .str "nowhere"])) la (.lst [.int c])) pd (.dK [(.inr "scene", .ref ls), (.inr "left", .ref la)])) pa (.dK [(.inr "number", .ref l1), (.inr "place", .ref l2), (.inr "figure", .ref l3), (.inr "scene", .ref ls), (.inr "left", .ref la)])) b = some (.lst ((nm2 s).map V.str)) := fun s hs => by
          simp only [SRTS, List.mem_cons, List.not_mem_nil, or_false] at hs
          rcases hs with rfl | rfl | rfl | rfl
          · exact ⟨ls, by rw [vk]; rfl, by simp, hls7⟩
          · exact ⟨l1, by rw [vk]; rfl, by simp, keep _ _ hl1'⟩
          · exact ⟨l2, by rw [vk]; rfl, by simp, keep _ _ hl2'⟩
          · exact ⟨l3, by rw [vk]; rfl, by simp, keep _ _ hl3'⟩
        have hall : ∀ b ∈ [l1, l2, l3, ls], (∃ xs, (upd (upd (upd (upd (upd (upd H1 pa (.dK [(.inr "number", .ref l1), (.inr "place", .ref l2), (.inr "figure", .ref l3)])) pd (.dK [])) ls (.lst [.str "a", .str "nowhere"])) la (.lst [.int c])) pd (.dK [(.inr "scene", .ref ls), (.inr "left", .ref la)])) pa (.dK [(.inr "number", .ref l1), (.inr "place", .ref l2), (.inr "figure", .ref l3), (.inr "scene", .ref ls), (.inr "left", .ref la)])) b = some (.lst xs)) ∧ b ∉ W ∧ b ≠ pa ∧ b ≠ la := fun b hb => by
          simp only [List.mem_cons, List.not_mem_nil, or_false] at hb
          rcases hb with rfl | rfl | rfl | rfl
          · exact ⟨⟨_, keep _ _ hl1'⟩, up n1, (ne hl1').1, (ne hl1').2.2.2⟩
          · exact ⟨⟨_, keep _ _ hl2'⟩, up n2, (ne hl2').1, (ne hl2').2.2.2⟩
          · exact ⟨⟨_, keep _ _ hl3'⟩, up n3, (ne hl3').1, (ne hl3').2.2.2⟩
          · exact ⟨⟨_, hls7⟩, nW hls, e2, e3.symm⟩
        obtain ⟨g', G, gr, S'⟩ := S1.pool (i := i) (N := nm2) (as := [l1, l2, l3, ls]) w1 w2 kk w3' keep hpa hla e5.symm upd_same ⟨c, by rw [upd_ne e5, upd_ne e4, upd_same]⟩ (by rw [vk]; rfl) hn hall F hc (fun s hs => Nat.le_trans (nmF_le (by decide) (by decide) (by decide) (by decide) s) (show 2 ≤ 1000 by decide)) (fun s hs => nmF_all (by decide +kernel) (by decide +kernel) (by decide +kernel) (by decide +kernel) s)
        exact h g' pa G H0 W0 τ _ _ S' Dd (fun n' ρ' σ' H' hn S2 => d1 n' ρ' σ' H' hn (gr.si _ _ _ _ _ S2)) fun n' r v H' hr e j ro => d2 n' r v H' hr (gr.ext _ e) (gr.j _ _ j) ro
end Fk
set_option Elab.async false
set_option linter.all false
set_option maxRecDepth 100000
set_option maxHeartbeats 4000000
/-! P4: what is heard is small; the things of the law. -/
namespace Fk
open PySem PySem.Spec PyProof.Rows L2
theorem firstNot_lt {p : D → Bool} : ∀ {ds : List D} {i j : Nat}, firstNot p i ds = some j → j < i + ds.length
  | [], _, _, h => by cases h
  | d :: ds, i, j, h => by
    rw [firstNot] at h
    split at h
    · have := firstNot_lt h
      rw [List.length_cons]
      omega
    · cases h
      rw [List.length_cons]
      omega
theorem sceneV_some {ok : D → Bool} : ∀ {ss : List D} {k : Nat} {v a : D}, sceneV ok k ss = some (v, a) → ∃ s ∈ ss, ∃ j k' : Nat, j < (namesL s).length ∧ k' < k + ss.length ∧ v = ((namesL s).getD j .non).hd ∧ a = .tup [.int (k' : Int), .int (j : Int)]
  | [], _, _, _, h => by cases h
  | s :: ss, k, v, a, h => by
    rw [sceneV] at h
    split at h
    · rename_i j hj
      cases h
      have := firstNot_lt hj
      exact ⟨s, List.mem_cons_self, j, k, by omega, by rw [List.length_cons]; omega, rfl, rfl⟩
    · obtain ⟨t, h1, j, k', h2, h3, h4, h5⟩ := sceneV_some h
      exact ⟨t, List.mem_cons_of_mem _ h1, j, k', h2, by rw [List.length_cons]; omega, h4, h5⟩
def WRD : List Str := ["told", "no", "shape", "door", "figure", "begin", "number", "scene", "place"]
theorem wrd_small {s : Str} (h : s ∈ WRD) {k : Nat} : Sm (k + 1) 9 (.str s) := Sm.str (smallS_mem (ss := WRD) (by decide +kernel) h)
theorem whole_small {d : D} (hf : d.fit FU = true) (hz : d.sz ≤ MX) {v a : D} (h : wholeV d = some (v, a)) : (∃ s, v = .str s ∧ s ∈ WRD) ∧ Sm 2 3 a := by
  have hMX : MX = 1048576 := rfl
  have i1 : ∀ {k : Nat}, k < 2000000 → Sm 2 3 (.int (k : Int)) := fun {k} hk => (Sm.int (by omega)).mono (Nat.le_refl _) (by decide)
  unfold wholeV at h
  split at h
  · rename_i hst
    obtain ⟨nu, pl, dr, fi, dg, sc, bg, rfl, S⟩ := story_inv hst
    have hk : ∀ x ∈ [D.tup nu, .tup pl, .tup dr, .tup fi, .tup dg, .tup sc, .str bg], x.fit FU = true := fit_el hf
    have l3 := fit_len (hk (.tup fi) (by simp))
    have l4 := fit_len (hk (.tup sc) (by simp))
    have l5 := fit_len (hk (.tup dr) (by simp))
    have hsf : (D.tup sc).fit FU = true := hk (.tup sc) (by simp)
    have hsz : (D.tup sc).sz ≤ MX := sz_in hz (.tup sc) (by simp)
    have h' : (match groundV pl dr fi sc bg with
      | some (v, a) => some (D.str v, a)
      | none => sceneV (nmOk nu pl fi sc) 0 sc) = some (v, a) := h
    cases hg : groundV pl dr fi sc bg with
    | some q =>
      obtain ⟨w, b⟩ := q
      rw [hg] at h'
      cases h'
      unfold groundV at hg
      split at hg
      · rename_i k hk1
        cases hg
        have := firstNot_lt hk1
        exact ⟨⟨_, rfl, by decide⟩, i1 (by omega)⟩
      · split at hg
        · rename_i k hk1
          cases hg
          have := firstNot_lt hk1
          exact ⟨⟨_, rfl, by decide⟩, i1 (by omega)⟩
        · split at hg
          · cases hg
          · cases hg
            exact ⟨⟨_, rfl, by decide⟩, (Sm.int (by decide)).mono (Nat.le_refl _) (by decide)⟩
    | none =>
      rw [hg] at h'
      obtain ⟨s, hs, j, k', h2, h3, rfl, rfl⟩ := sceneV_some h'
      have hscn := S.sc s hs
      have hnl : (namesL s).length ≤ MX := by
        unfold namesL
        rw [List.length_map]
        exact Nat.le_trans (scene_len (fit_el hsf s hs) hscn) (sz_in hsz s hs)
      obtain ⟨u, t, hnm, hu⟩ := names_nm hscn _ (List.getElem_mem h2)
      have hget : (namesL s).getD j .non = nmg u (.str t) := by rw [List.getD_eq_getElem?_getD, List.getElem?_eq_getElem h2, hnm]; rfl
      rw [hget]
      refine ⟨⟨u, rfl, ?_⟩, ?_⟩
      · simp only [List.mem_cons, List.not_mem_nil, or_false] at hu
        rcases hu with rfl | rfl | rfl | rfl <;> decide
      · exact (Sms.cons (Sm.int (by omega)) (.cons (Sm.int (by omega)) .nil)).tup (by decide) (by decide)
  · cases h
    exact ⟨⟨_, rfl, by decide⟩, (Sm.int (by decide)).mono (Nat.le_refl _) (by decide)⟩
theorem heard_small {d : D} (hf : d.fit FU = true) (hz : d.sz ≤ MX) : (∃ w rest, heardD d = .tup (.str w :: rest) ∧ decide (w = ("told" : Str)) = (wholeV d).isNone) ∧ Sm 3 40 (heardD d) := by
  unfold heardD
  cases h : wholeV d with
  | none =>
    refine ⟨⟨_, _, rfl, by decide⟩, ?_⟩
    exact (Sms.cons (wrd_small (by decide)) (.cons Sm.bl .nil)).tup (by decide) (by decide)
  | some q =>
    obtain ⟨v, a⟩ := q
    obtain ⟨⟨s, rfl, hs⟩, ha⟩ := whole_small hf hz h
    refine ⟨⟨_, _, rfl, show decide (("no" : Str) = "told") = false by decide⟩, ?_⟩
    exact (Sms.cons (wrd_small (by decide)) (.cons (wrd_small hs) (.cons ha .nil))).tup (by decide) (by decide)
/-- a thing that the law may ask about -/
structure OkT (d : D) : Prop where
  n : d.nice 900 30 = true
  z : d.sz ≤ MX
theorem OkT.fit {d : D} (h : OkT d) : d.fit FU = true := fit_mono (by decide) (nice_fit (by decide) h.n)
theorem OkT.of {b k z : Nat} {d : D} (hn : d.nice b k = true) (hz : d.sz ≤ z) (hb : b ≤ 900) (hk : k ≤ 30) (hz2 : z ≤ 1048576) : OkT d := ⟨nice_mono hk hb hn, Nat.le_trans hz (Nat.le_trans hz2 (Nat.le_refl _))⟩
def MEN : List D := [.non, .bl true, .int 0, .str "", .str "a", .tup [], .lst [], .tup [.str "a", .str "b"], .tup [.str "scene", .str "a"]] ++ [.str "nowhere", .tup [.str "of", .str "nowhere"], .tup [.str "to", .str "nowhere"]]
def OD2 : List D := [.tup [.tup [], .tup [], .tup [], .tup [], .tup [], .tup [], .str "a"], .tup [.tup [], .tup [], .tup [], .tup [], .tup [], .tup [.tup [.str "a", .tup [], .tup [], .tup [], .non]], .str "a"]]
theorem men_ok : Menu MEN := by
  refine ⟨by decide, by decide, fun m hm => ?_⟩
  have a : MEN.all (fun m => m.nice 10 3 && decide (m.sz ≤ 40)) = true := by decide +kernel
  have b := List.all_eq_true.mp a m hm
  rw [Bool.and_eq_true] at b
  exact ⟨b.1, of_decide_eq_true b.2⟩
theorem od_ok : ∀ m ∈ MEN ++ OD2, OkT m := fun m hm => by
  have a : (MEN ++ OD2).all (fun m => m.nice 10 5 && decide (m.sz ≤ 40)) = true := by decide +kernel
  have b := List.all_eq_true.mp a m hm
  rw [Bool.and_eq_true] at b
  exact OkT.of b.1 (of_decide_eq_true b.2) (by decide) (by decide) (by decide)
end Fk
set_option Elab.async false
set_option linter.all false
set_option maxRecDepth 100000
set_option maxHeartbeats 4000000
/-! S6: the law, behind its first row. -/
namespace Fk
open PySem PySem.Spec PyProof.Rows L2
abbrev LN0 : List Str := ["_law_script", "_law_feed_here", "_law_menu", "_law_some", "_law_turn", "_law_pool", "_law_sort", "_law_story", "_law_k", "_law_fewer_here", "_law_bent", "_law_thing", "_law_kept", "_law_due_here"]
section
variable {P : Program} {w : World} {K : PySem.W.Frag} {mg : Str → Option Value} {base : Heap}
theorem law_rest (T : Top K mg) (Ex : Exs K) (Eh : Exh K) {cd : Value} {Ar : Around} {outer : List Env} {s : Shared} {H : Hp} {E : XK} (gd : Ar.guards = some []) (hr : Room (LV + 16) (CxB P w K mg base LN0 d_law.qual d_law.scope (He.ga K d_law.name) cd Ar outer s H E).A)
    {g : Gx} {fa ca : Addr} {cs : List Int} (F : Feed g fa ca cs) (hc : cs.length ≤ 1000) :
    HSs (CxB P w K mg base LN0 d_law.qual d_law.scope (He.ga K d_law.name) cd Ar outer s H E) g 0 [.no, .dat (.obj fa), .no, .no, .no, .no, .no, .no, .no, .no, .no, .no, .no, .no] (d_law.body.drop 1) (fun _ _ => False) (fun _ r => r = .dat (.bl true)) := by
  have hN : LN0.Nodup := by decide +kernel
  have hCT : CT = 1099511627776 := rfl
  have hLV : LV = 122 := rfl
  have hgd : (CxB P w K mg base LN0 d_law.qual d_law.scope (He.ga K d_law.name) cd Ar outer s H E).A.guards = some [] := gd
  have big : ∀ {k : Nat}, k ≤ 10000 → k ≤ sizeLine := fun {k} h => Nat.le_trans h (show 10000 ≤ sizeLine by decide)
  refine hss_cons (hs_set (i := 2) hN rfl (he_lst (hf_lst (ha_cons (he_non (ha_cons (he_bl (ha_cons (he_int (ha_cons (he_str (ha_cons (he_str (ha_cons (he_tup (ha_nil ⟨Nat.zero_le _, ha_cons (he_lst (hf_lst (ha_nil ⟨Nat.zero_le _, ?_⟩)))⟩))))))))))))))))
  refine ha_cons (he_tup (ha_cons (he_str (ha_cons (he_str (ha_nil ⟨le2, ha_cons (he_tup (ha_cons (he_str (ha_cons (he_str (ha_nil ⟨le2, ha_nil ⟨big (by decide), ?_⟩⟩))))))⟩))))))
  refine hss_cons (hs_set (i := 2) hN rfl (he_lst (hf_add (he_name (i := 2) rfl rfl (he_lst (hf_lst (ha_cons (he_str (ha_cons (he_tup (ha_cons (he_str (ha_cons (he_str (ha_nil ⟨le2, ha_cons (he_tup (ha_cons (he_str (ha_cons (he_str (ha_nil ⟨le2, ha_nil ⟨le3, _, _, rfl, rfl, big (by decide), ?_⟩⟩))))))⟩)))))))))))))))
  refine hss_cons (HS.imp (nx' := fun n' ρ' => n' = 0 ∧ ρ' = [.no, .dat (.obj fa), .dat (.lst MEN), .dat (.lst (MEN ++ OD2)), .no, .no, .no, .no, .no, .no, .no, .no, .no, .no]) (fun n' ρ' hI => ?tl) (hs_set (i := 3) hN rfl (he_lst (hf_add (he_name (i := 2) rfl rfl (he_lst (hf_lst ?od)))))))
  case od =>
    refine ha_cons (he_tup (ha_cons (he_tup (ha_nil ⟨Nat.zero_le _, ha_cons (he_tup (ha_nil ⟨Nat.zero_le _, ha_cons (he_tup (ha_nil ⟨Nat.zero_le _, ha_cons (he_tup (ha_nil ⟨Nat.zero_le _, ha_cons (he_tup (ha_nil ⟨Nat.zero_le _, ha_cons (he_tup (ha_nil ⟨Nat.zero_le _, ha_cons (he_str (ha_nil ⟨le7, ?_⟩))⟩))⟩))⟩))⟩))⟩))⟩))))
    refine ha_cons (he_tup (ha_cons (he_tup (ha_nil ⟨Nat.zero_le _, ha_cons (he_tup (ha_nil ⟨Nat.zero_le _, ha_cons (he_tup (ha_nil ⟨Nat.zero_le _, ha_cons (he_tup (ha_nil ⟨Nat.zero_le _, ha_cons (he_tup (ha_nil ⟨Nat.zero_le _, ?_⟩))⟩))⟩))⟩))⟩))))
    refine ha_cons (he_tup (ha_cons (he_tup (ha_cons (he_str (ha_cons (he_tup (ha_nil ⟨Nat.zero_le _, ha_cons (he_tup (ha_nil ⟨Nat.zero_le _, ha_cons (he_tup (ha_nil ⟨Nat.zero_le _, ha_cons (he_non (ha_nil ⟨le5, ha_nil ⟨le1, ha_cons (he_str (ha_nil ⟨le7, ha_nil ⟨le2, _, _, rfl, rfl, big (by decide), rfl, rfl⟩⟩))⟩⟩))⟩))⟩))⟩))))))))
  obtain ⟨rfl, rfl⟩ := hI
  refine hss_cons (hs_for rfl PassesOwn.never (hi_range T.f_range (he_int ⟨4, rfl, by decide, by decide, fun i m ρ' => m ≤ i * 30000 ∧ ∃ (x4 x5 x7 x8 x9 x10 : SV) (ss : List D), ρ' = [.no, .dat (.obj fa), .dat (.lst MEN), .dat (.lst ss), x4, x5, .no, x7, x8, x9, x10, .no, .no, .no] ∧ ss.length ≤ 20 + i * 30 ∧ ∀ s ∈ ss, OkT s, ⟨Nat.le_refl _, .no, .no, .no, .no, .no, .no, _, rfl, by decide, od_ok⟩, fun i d m ρ' hd hI => ?turn, fun m ρ' hI => ?ask⟩)))
  case turn =>
    obtain ⟨hm, x4, x5, x7, x8, x9, x10, ss, rfl, hl, hok⟩ := hI
    obtain ⟨hi, rfl⟩ := range_at hd
    rw [show (4 : Int).toNat = 4 from rfl] at hi
    refine ⟨_, _, hg_name (i := 4) hN rfl, ?_⟩
    refine hss_pool2 (i := 5) rfl hN rfl (show 5 < 14 by decide) T.f_dict F hc ?comp fun g' pa G => ?_
    case comp =>
      refine hf_LC (own := [("_law_sort", 6)]) rfl hN ?blk (own1 rfl) (lc_map (fun d => .tup [d, nwL]) (hi_tup (he_tup (ha_cons (he_str (ha_cons (he_str (ha_cons (he_str (ha_nil ⟨le3, _, rfl, le3, fun d hd => ?elt, rfl, rfl⟩))))))))))
      case blk => exact (show BlkOk (["_law_script", "_law_feed_here", "_law_menu", "_law_some", "_law_turn", "_law_pool", "_law_sort", "_law_story", "_law_k", "_law_fewer_here", "_law_bent", "_law_thing", "_law_kept", "_law_due_here"] : List Str) d_law.scope _ _ from ⟨rfl, by decide +kernel, by decide +kernel, by decide +kernel, by decide +kernel⟩)
      case elt =>
        exact ⟨_, fun s H C cl fp => hg_name hN rfl, fun s H C cl fp => he_tup (ha_cons (he_name (i := 6) rfl rfl (ha_cons (he_lst (hf_lst (ha_cons (he_str (ha_nil ⟨le1, ha_nil ⟨le2, rfl, rfl⟩⟩))))))))⟩
    obtain ⟨ca', cs', F', hc'⟩ := G.feed
    refine hss_cons (hs_set (i := 7) hN rfl (he_call (has_tale T) (hr.mono (by omega)) (ha_cons (he_name (i := 1) rfl rfl (ha_cons (he_int (ha_nil ⟨fa, ca', cs', F', hc', by omega, rfl, fun n1 d b1 g1 => ?_⟩)))))))
    obtain ⟨rows, pl, doors, folk, digits, scenes, b, rfl, Tl⟩ := taled g1
    obtain ⟨ps, rfl, hps⟩ := Tl.dr
    have okS : OkT (.tup [.tup rows, .tup (pl.map .str), .tup (ps.map prD), .tup folk, .tup digits, .tup scenes, .str b]) := OkT.of Tl.sm.n Tl.sm.z (by decide) (by decide) (by decide)
    have Sst : StF 10 16 80000 (.tup [.tup rows, .tup (pl.map .str), .tup (ps.map prD), .tup folk, .tup digits, .tup scenes, .str b]) := ⟨⟨_, _, _, _, _, _, ps, rfl, hps⟩, Tl.sm.n, Tl.sm.z⟩
    have Swh := Tl.whole
    obtain ⟨j, ej, _, els⟩ := nice_tup_inv Tl.sm.n
    obtain rfl : j = 15 := by omega
    have Ssz := Tl.sm.z
    clear Tl g1
    refine hss_cons (hs_ifP false (ht_cmp op_notBl (he_callX (has_whole T Ex) (hr.mono (by decide)) (ha_cons (he_name (i := 7) rfl rfl (ha_nil ⟨_, rfl, okS.fit, okS.z, fun _ => he_bl (rd_notB ⟨_, rfl, rfl, rfl⟩), fun v a e => (by rw [Swh] at e; cases e)⟩))))) (fun e => by cases e) fun _ => hss_nil ?g1)
    refine hss_cons (hs_set (i := 3) hN rfl (he_lst (hf_add (he_name (i := 3) rfl rfl (he_lst (hf_lst (ha_cons (he_name (i := 7) rfl rfl (ha_cons (he_lst (hf_list T.f_list (he_name (i := 7) rfl rfl ⟨_, .inr rfl, ha_nil ⟨le2, _, _, rfl, rfl, big (show ss.length + 2 ≤ 10000 by omega), ?_⟩⟩))))))))))))
    have okL : OkT (.lst [.tup rows, .tup (pl.map .str), .tup (ps.map prD), .tup folk, .tup digits, .tup scenes, .str b]) := by
      refine OkT.of (b := 10) (k := 16) (z := 80000) (nice_lst (show 7 ≤ 10 by decide) els) ?_ (by decide) (by decide) (by decide)
      have e1 : (D.lst [.tup rows, .tup (pl.map .str), .tup (ps.map prD), .tup folk, .tup digits, .tup scenes, .str b]).sz = (D.tup [.tup rows, .tup (pl.map .str), .tup (ps.map prD), .tup folk, .tup digits, .tup scenes, .str b]).sz := by rw [D.sz, D.sz]
      rw [e1]
      exact Ssz
    have hok1 : ∀ s ∈ ss ++ [.tup [.tup rows, .tup (pl.map .str), .tup (ps.map prD), .tup folk, .tup digits, .tup scenes, .str b], .lst [.tup rows, .tup (pl.map .str), .tup (ps.map prD), .tup folk, .tup digits, .tup scenes, .str b]], OkT s := fun s hs => by
      rcases List.mem_append.mp hs with hs | hs
      · exact hok s hs
      · rcases List.mem_cons.mp hs with rfl | hs
        · exact okS
        · rw [List.mem_singleton.mp hs]
          exact okL
    have hl1 : (ss ++ [D.tup [.tup rows, .tup (pl.map .str), .tup (ps.map prD), .tup folk, .tup digits, .tup scenes, .str b], .lst [.tup rows, .tup (pl.map .str), .tup (ps.map prD), .tup folk, .tup digits, .tup scenes, .str b]]).length ≤ 22 + i * 30 := by
      rw [List.length_append]
      show ss.length + 2 ≤ _
      omega
    generalize ss ++ [D.tup [.tup rows, .tup (pl.map .str), .tup (ps.map prD), .tup folk, .tup digits, .tup scenes, .str b], .lst [.tup rows, .tup (pl.map .str), .tup (ps.map prD), .tup folk, .tup digits, .tup scenes, .str b]] = ss1 at hok1 hl1
    refine hss_cons (hs_set (i := 3) hN rfl (he_lst (hf_add (he_name (i := 3) rfl rfl (he_lst (hf_lst (ha_cons (he_op op_catA (he_slT (he_name (i := 7) rfl rfl (ho_none (ho_int ⟨_, rfl, ?_⟩))))))))))))
    refine he_tup (ha_cons (he_op op_catA (he_ixT (he_name (i := 7) rfl rfl (he_int ⟨_, _, _, rfl, rfl, atI_nat (i := 5) rfl, he_tup (ha_cons (he_call (has_scene T) (hr.mono (by omega)) (ha_cons (he_name (i := 1) rfl rfl (ha_cons (he_slS (he_str (ho_none (ho_int ⟨_, rfl, big (by decide), ha_cons (he_name (i := 5) rfl rfl (ha_nil ⟨fa, pa, nm2, _, G, by decide, by omega, rfl, fun n2 scn b2 g2 => ha_nil ⟨le1, ?_⟩⟩))⟩)))))))))⟩)))))
    have N2 : NN nm2 := fun s hs t ht => smallS_mem (ss := nm2 s) (nmF_all (by decide +kernel) (by decide +kernel) (by decide +kernel) (by decide +kernel) s) ht
    have sm2 := scene_sm N2 (by decide) (by decide +kernel) g2
    have slen : scenes.length ≤ 10 := (nice_tup_inv (els (.tup scenes) (by simp))).elim fun _ h => h.2.1
    obtain ⟨j, ej2, _, els2⟩ := nice_tup_inv (els (.tup scenes) (by simp))
    obtain rfl : j = 14 := by omega
    refine rd_catT (big (by rw [List.length_singleton]; omega)) (ha_cons (he_ixT (he_name (i := 7) rfl rfl (he_int ⟨_, _, _, rfl, rfl, atI_nat (i := 6) rfl, ha_nil ⟨le2, rd_catT (big (show 5 + 2 ≤ 10000 by decide)) (ha_nil ⟨le1, _, _, rfl, rfl, big (by rw [List.length_singleton]; omega), ?_⟩)⟩⟩))))
    have okN : OkT (.tup (cutD [.tup rows, .tup (pl.map .str), .tup (ps.map prD), .tup folk, .tup digits, .tup scenes, .str b] none (some 5) ++ [.tup (scenes ++ [scn]), .str b])) := by
      rw [show cutD [.tup rows, .tup (pl.map .str), .tup (ps.map prD), .tup folk, .tup digits, .tup scenes, .str b] none (some (5 : Int)) ++ [.tup (scenes ++ [scn]), .str b] = [.tup rows, .tup (pl.map .str), .tup (ps.map prD), .tup folk, .tup digits, .tup (scenes ++ [scn]), .str b] from rfl]
      refine OkT.of (b := 11) (k := 16) (z := 100000) (nice_tup (show 7 ≤ 11 by decide) fun d hd => ?_) ?_ (by decide) (by decide) (by decide)
      · by_cases hds : d ∈ [D.tup rows, .tup (pl.map .str), .tup (ps.map prD), .tup folk, .tup digits, .tup scenes, .str b]
        · exact nice_mono (Nat.le_refl _) (by decide) (els d hds)
        · have e1 : d = .tup (scenes ++ [scn]) := by
            simp only [List.mem_cons, List.not_mem_nil, or_false] at hd hds
            rcases hd with h | h | h | h | h | h | h
            · exact absurd (.inl h) hds
            · exact absurd (.inr (.inl h)) hds
            · exact absurd (.inr (.inr (.inl h))) hds
            · exact absurd (.inr (.inr (.inr (.inl h)))) hds
            · exact absurd (.inr (.inr (.inr (.inr (.inl h))))) hds
            · exact h
            · exact absurd (.inr (.inr (.inr (.inr (.inr (.inr h)))))) hds
          rw [e1]
          refine nice_tup (by rw [List.length_append, List.length_singleton]; omega) fun y hy => ?_
          rcases List.mem_append.mp hy with hy | hy
          · exact nice_mono (Nat.le_refl _) (by decide) (els2 y hy)
          · rw [List.mem_singleton.mp hy]
            exact nice_mono (by decide) (by decide) sm2.n
      · have e2 := sm2.z
        simp only [D.sz, szs, szs_app] at Ssz ⊢
        omega
    have hok2 : ∀ s ∈ ss1 ++ [.tup (cutD [.tup rows, .tup (pl.map .str), .tup (ps.map prD), .tup folk, .tup digits, .tup scenes, .str b] none (some 5) ++ [.tup (scenes ++ [scn]), .str b])], OkT s := fun s hs => by
      rcases List.mem_append.mp hs with hs | hs
      · exact hok1 s hs
      · rw [List.mem_singleton.mp hs]
        exact okN
    have hl2 : (ss1 ++ [D.tup (cutD [.tup rows, .tup (pl.map .str), .tup (ps.map prD), .tup folk, .tup digits, .tup scenes, .str b] none (some 5) ++ [.tup (scenes ++ [scn]), .str b])]).length ≤ 23 + i * 30 := by
      rw [List.length_append, List.length_singleton]
      omega
    generalize ss1 ++ [D.tup (cutD [.tup rows, .tup (pl.map .str), .tup (ps.map prD), .tup folk, .tup digits, .tup scenes, .str b] none (some 5) ++ [.tup (scenes ++ [scn]), .str b])] = ss2 at hok2 hl2
    generalize D.tup [.tup rows, .tup (pl.map .str), .tup (ps.map prD), .tup folk, .tup digits, .tup scenes, .str b] = st at okS Sst
    refine hss_cons (hs_for rfl PassesOwn.never (hi_range T.f_range (he_int ⟨5, rfl, by decide, by decide, fun l m ρ' => m ≤ n2 + l * 200 ∧ ∃ (x8 x9 x10 : SV) (ts : List D), ρ' = [.no, .dat (.obj fa), .dat (.lst MEN), .dat (.lst ts), .dat (.int (i : Nat)), .dat (.obj pa), .no, .dat st, x8, x9, x10, .no, .no, .no] ∧ ts.length ≤ 23 + i * 30 + l * 4 ∧ ∀ s ∈ ts, OkT s, ⟨by omega, x8, x9, x10, ss2, rfl, hl2, hok2⟩, fun l d m ρ' hd hI => ?inner, fun m ρ' hI => ?done⟩)))
    case inner =>
      obtain ⟨hm3, y8, y9, y10, ts, rfl, htl, htk⟩ := hI
      obtain ⟨hl5, rfl⟩ := range_at hd
      rw [show (5 : Int).toNat = 5 from rfl] at hl5
      refine ⟨_, _, hg_name (i := 8) hN rfl, ?_⟩
      refine hss_cons (hs_set (i := 9) hN rfl (he_call (has_fewer T) (hr.mono (by omega)) (ha_cons (he_name (i := 1) rfl rfl (ha_cons (he_name (i := 7) rfl rfl (ha_nil ⟨fa, ca', cs', F', hc', by omega, 10, 16, 80000, _, rfl, Sst, by decide, by decide, by decide, fun n3 f1 b3 S1 => ?_⟩)))))))
      refine hss_cons (hs_set (i := 10) hN rfl (he_call (has_spoilt T 16) (hr.mono (by omega)) (ha_cons (he_name (i := 1) rfl rfl (ha_cons (he_name (i := 7) rfl rfl (ha_cons (he_name (i := 2) rfl rfl (ha_nil ⟨fa, ca', cs', F', hc', by omega, 10, _, MEN, rfl, Sst.n, men_ok, by decide, by decide, by decide, fun n4 f2 b4 q1 q2 => ?_⟩)))))))))
      have Sz := Sst.z
      refine hss_cons (hs_set (i := 3) hN rfl (he_lst (hf_add (he_name (i := 3) rfl rfl (he_lst (hf_lst (ha_cons (he_name (i := 9) rfl rfl (ha_cons (he_call (has_fewer T) (hr.mono (by omega)) (ha_cons (he_name (i := 1) rfl rfl (ha_cons (he_name (i := 9) rfl rfl (ha_nil ⟨fa, ca', cs', F', hc', by omega, 11, 16, 80100, _, rfl, S1, by decide, by decide, by decide, fun n5 f3 b5 S3 => ?_⟩)))))))))))))))
      refine ha_cons (he_name (i := 10) rfl rfl (ha_cons (he_call (has_spoilt T 19) (hr.mono (by omega)) (ha_cons (he_name (i := 1) rfl rfl (ha_cons (he_name (i := 10) rfl rfl (ha_cons (he_name (i := 2) rfl rfl (ha_nil ⟨fa, ca', cs', F', hc', by omega, 11, _, MEN, rfl, q1, men_ok, by decide, by decide, by decide, fun n6 f4 b6 q3 q4 => ha_nil ⟨le4, _, _, rfl, rfl, big ?_, hss_nil ⟨by omega, _, _, _, _, rfl, ?_, ?_⟩⟩⟩))))))))))
      · show ts.length + 4 ≤ 10000
        omega
      · rw [List.length_append]
        show ts.length + 4 ≤ _
        omega
      · intro s hs
        rcases List.mem_append.mp hs with hs | hs
        · exact htk s hs
        · simp only [List.mem_cons, List.not_mem_nil, or_false] at hs
          rcases hs with rfl | rfl | rfl | rfl
          · exact OkT.of S1.n S1.z (by decide) (by decide) (by decide)
          · exact OkT.of S3.n S3.z (by decide) (by decide) (by decide)
          · exact OkT.of (z := 160040) q1 (by omega) (by decide) (by decide) (by decide)
          · exact OkT.of (z := 320120) q3 (by omega) (by decide) (by decide) (by decide)
    obtain ⟨hm3, y8, y9, y10, ts, rfl, htl, htk⟩ := hI
    rw [rangeD_len] at hm3 htl
    rw [show (5 : Int).toNat = 5 from rfl] at hm3 htl
    exact hss_nil ⟨by omega, _, _, _, _, _, _, ts, rfl, by omega, htk⟩
  obtain ⟨hm, x4, x5, x7, x8, x9, x10, ss, rfl, hl, hok⟩ := hI
  rw [rangeD_len] at hm hl
  rw [show (4 : Int).toNat = 4 from rfl] at hm hl
  have fin : HS (CxB P w K mg base LN0 d_law.qual d_law.scope (He.ga K d_law.name) cd Ar outer s H E) g m [.no, .dat (.obj fa), .dat (.lst MEN), .dat (.lst ss), x4, x5, .no, x7, x8, x9, x10, .no, .no, .no] (d_law.body.getD 5 (.Pass ⟨0, 0, 0, 0⟩)) (fun n' _ => True) (fun _ r => r = .dat (.bl true)) := by
    refine hs_for rfl PassesOwn.never (hi_list (he_name (i := 3) rfl rfl ⟨ss, rfl, fun i m' ρ' => m' = m ∧ ∃ (x11 x12 x13 : SV), ρ' = [.no, .dat (.obj fa), .dat (.lst MEN), .dat (.lst ss), x4, x5, .no, x7, x8, x9, x10, x11, x12, x13], ⟨rfl, _, _, _, rfl⟩, fun i d m' ρ' hd hI => ?one, fun m' ρ' hI => trivial⟩))
    obtain ⟨rfl, x11, x12, x13, rfl⟩ := hI
    have ok := hok d (List.mem_of_getElem? hd)
    have okf := ok.fit
    obtain ⟨⟨wd, rest, hh, hw⟩, hs⟩ := heard_small okf ok.z
    have rp : ∀ {d : D}, OkT d → (∃ k, k ≤ 60 ∧ d.nice 1000 k = true) ∧ d.sz ≤ MX := fun {d} h => ⟨⟨30, by decide, nice_mono (Nat.le_refl _) (by decide) h.n⟩, h.z⟩
    have okH : OkT (heardD d) := OkT.of hs.n hs.z (by decide) (by decide) (by decide)
    have okB : ∀ b, OkT (.bl b) := fun b => OkT.of (k := 1) (Sm.bl (k := 0) (b := b)).n (Sm.bl (k := 0) (b := b)).z (show 10 ≤ 900 by decide) (by decide) (by decide)
    refine ⟨_, _, hg_name (i := 11) hN rfl, ?_⟩
    refine hss_cons (hs_parDD (i := 12) (j := 13) hN rfl rfl (by decide) (he_repr hgd (Room.units hr) T.f_repr (he_name (i := 11) rfl rfl ⟨(rp ok).1, (rp ok).2, he_call (has_due T) (hr.mono (by decide)) (ha_cons (he_name (i := 11) rfl rfl (ha_nil ⟨d, rfl, okf, ok.z, ?_⟩)))⟩)))
    refine hss_cons (hs_ifP (false || false) (ht_bool (hw_orP (ht_cmp op_ne (he_repr hgd (Room.units hr) T.f_repr (he_call (has_heard T Ex Eh) (hr.mono (by decide)) (ha_cons (he_name (i := 11) rfl rfl (ha_nil ⟨d, rfl, okf, ok.z, (rp okH).1, (rp okH).2, he_repr hgd (Room.units hr) T.f_repr (he_name (i := 13) rfl rfl ⟨(rp okH).1, (rp okH).2, rd_neS ⟨_, rfl, rfl, by simp⟩⟩)⟩)))))) fun _ => hw_or1 (ht_cmp op_ne (he_repr hgd (Room.units hr) T.f_repr (he_call (has_isWhole T Ex Eh) (hr.mono (by decide)) (ha_cons (he_name (i := 11) rfl rfl (ha_nil ⟨d, rfl, okf, ok.z, (rp (okB _)).1, (rp (okB _)).2, ?two⟩)))))))) (fun e => by cases e) fun _ => hss_nil ?g2)
    case two =>
      rw [hh]
      refine he_repr hgd (Room.units hr) T.f_repr (he_cmp op_eq (he_ixT (he_name (i := 13) rfl rfl (he_int ⟨_, _, .str wd, rfl, rfl, atI_0, he_str (rd_eqS ⟨(rp (okB _)).1, (rp (okB _)).2, rd_neS ⟨_, rfl, rfl, ?_⟩⟩)⟩))))
      rw [hw]
      simp
    refine hss_cons (hs_ifP false (ht_cmp op_ne (he_repr hgd (Room.units hr) T.f_repr (he_name (i := 11) rfl rfl ⟨(rp ok).1, (rp ok).2, he_name (i := 12) rfl rfl (rd_neS ⟨_, rfl, rfl, by simp⟩)⟩))) (fun e => by cases e) fun _ => hss_nil (hss_nil ⟨rfl, _, _, _, rfl⟩))
  refine hss_cons (HS.imp (fun n' ρ' _ => ?_) fin)
  exact hss_cons (hs_ret (he_bl rfl))
end
end Fk
set_option Elab.async false
set_option linter.all false
set_option maxRecDepth 100000
set_option maxHeartbeats 4000000
/-! E1: the law's call, from outside. -/
namespace Fk
open PySem PySem.Spec PyProof.Rows L2
theorem law_at {P : Program} {w : World} {K : PySem.W.Frag} {mg : Str → Option Value} {base : Heap} (T : Top K mg) (Ex : Exs K) (Eh : Exh K) {s : Shared} {H : Hp} {a : Addr} {ns : List Int} (e0 : Env0 P w K mg base callerA [] s H) (hs : SqL K H a (ns.map V.int)) (hl : ns.length ≤ 63) :
    codeAny (model P w) callerA (.call (.ref (He.ga K "law")) ⟨[.ref a], []⟩) (CR CX0 [] P w H s (fun v _ => v = .bl true) fun _ _ _ => False) s := by
  have hr : Room (LV + 17) callerA := ⟨rfl, by decide, by decide⟩
  have hN : LN0.Nodup := by decide +kernel
  obtain ⟨fd, F⟩ := T.df 63 d_law rfl
  have q1 : d_law.dvs K = [] := rfl
  have q2 : d_law.kws K = [] := rfl
  have q3 : He.fAd K d_law.at_ = He.ga K "law" := rfl
  rw [q1, q2, q3] at F
  have bd := FunD.bindsA (ps := ["_law_script"]) F fun _ _ _ _ _ _ us hl => match us, hl with | [_], _ => rfl
  have Sc : FnScope LN0 ["_law_script"] d_law.scope := ⟨rfl, rfl, rfl, hN, rfl, by decide +kernel, by decide +kernel⟩
  obtain ⟨fdf, Ff, Bf⟩ := has_feed (P := P) (w := w) (base := base) T
  obtain ⟨gf1, gf2⟩ := T.gl "_law_feed" (by decide +kernel)
  obtain ⟨oc, od, dV, kV, doc, pm, an, cdv, ct, osl, rfl, lk, hcd, _, _⟩ := F.ex
  have stay : ∀ b o, base.get? b = some o → s.heap.get? b = some o := fun b o e => (e0.bs b o e).1
  have KI : K.In s.heap := e0.mod.kin.keeps stay
  have NL : s.heap.NoLimit := e0.mod.nolimit.keeps stay
  have kinds : ∀ y ∈ (["_law_script"] : List Str).zip [Value.ref a], d_law.scope.names.lookup y.1 = some .local ∨ (d_law.scope.names.lookup y.1 = some .cell ∧ ((cellsFrom (s.heap.objs.size + 1) d_law.scope.names []).lookup y.1).isSome = true) := fun y hy => by
    rw [List.mem_singleton.mp hy]
    exact .inl rfl
  refine codeAny_call_function hr.depth (KI _ _ lk) rfl Sc.co Sc.gen rfl (PySem.W.codeRec_of KI hcd) (bd s [.ref a] rfl _ _ _ _ ?_)
  refine wpAny_newFunctionEnv_cells Sc.kind kinds fun env he s1 x => ?_
  subst he
  refine ⟨NL.keeps x.toInCall.keep, codeAny_func ?_⟩
  have hr1 : Room (LV + 16) (CxB P w K mg base LN0 d_law.qual d_law.scope (He.ga K d_law.name) cdv callerA [] s H fun _ _ _ => False).A := hr.deeper _
  have I : Inv (cxOf CX0 P w K mg base LN0 d_law.qual d_law.scope (He.ga K "law") cdv callerA [] s H fun _ _ _ => False) [] (L2.start LN0 [.ref a]) H s1 := inv_start Sc hr.hd e0 rfl (.cons rfl .nil) x
  have rd : WSs (CxB P w K mg base LN0 d_law.qual d_law.scope (He.ga K d_law.name) cdv callerA [] s H fun _ _ _ => False) d_law.body { nx := fun _ _ => False, rt := fun v _ => v = .bl true } (L2.start LN0 [.ref a]) H := by
    refine (pss_cons psW pssW).wpr ((ps_set (i := 1) hN rfl (Or.inl rfl) (pe_call Ff (hr1.mono (by decide)) (by rfl) gf1 gf2 Bf .nil pass0 (pa_cons (pe_var (i := 0) rfl (Or.inl rfl)) pa_nil))).wpr ?_)
    refine ⟨.ref a, rfl, a, ns, rfl, hs, fun cs ca fa c1 c2 c3 c4 => ?_⟩
    have S0 : SI K gx0 H [] 0 (List.replicate (L2.start LN0 [V.ref a]).length .no) [] (L2.start LN0 [V.ref a]) H := (entry (N := LN0) (vs := [.non]) (ds := [.non]) (n := 0) trivial ⟨fun _ h => absurd h List.not_mem_nil, fun _ h => absurd h List.not_mem_nil⟩ (fun _ h => absurd h List.not_mem_nil) (.cons .non .nil)).wipe
    obtain ⟨W, w1, w2, k, w3⟩ := S0.ex
    have keep : Same H (upd (upd H ca (.lst (cs.map V.int))) fa (.lst [.ref ca, .int 0, .int 0, .int 0])) := fun b o q => by
      rw [upd_ne (fun z => by rw [z, c3] at q; cases q), upd_ne (fun z => by rw [z, c2] at q; cases q)]
      exact q
    obtain ⟨g', Fd, gr, S1⟩ := S0.feed (i := 1) (cs := cs) w1 w2 k w3 keep c3 c2 c4 upd_same (by rw [upd_ne c4.symm, upd_same])
    exact law_rest T Ex Eh rfl hr1 Fd (by omega) H [] [] _ _ S1 _ (fun _ _ _ _ z => z.elim) fun n' r v H' e _ _ ro => by
      subst e
      cases ro
      rfl
  refine wpAny_mono ((PSs.nox pssW).run [] s1 _ H _ I rd) (fun fl s' z => ?_) fun e s' z => z
  cases fl with
  | ret u =>
    obtain ⟨v, σ', H', J, rv, q⟩ := z
    exact ⟨v, H', J.os, J.bare, J.base, J.hok, rv, q⟩
  | next =>
    obtain ⟨_, _, _, q⟩ := z
    exact q.elim
  | brk =>
    obtain ⟨_, _, _, q⟩ := z
    exact q.elim
  | cont =>
    obtain ⟨_, _, _, q⟩ := z
    exact q.elim
/-- the script alone is tracked, or nothing is -/
def scriptH (a : Addr) (o : Obj) (ns : List Int) (b : Addr) : Option L2.HO := if b = a then some (.frz o (.lst (ns.map V.int))) else none
theorem law_end {P : Program} {w : World} {K : PySem.W.Frag} {mg mb : Str → Option Value} {f a : Addr} {s : Shared} {vs : List Value} {ns : List Int} (KI : K.In s.heap) (hM : s.heap.Ns mainGlobals mg) (hB : s.heap.Ns builtinsNs mb) (hbb : ∀ x : Str, x ≠ "__name__" → mb x = bootBuiltins x) (NL : s.heap.NoLimit) (ge : s.gens = #[])
    (ha : s.heap.get? a = some { cls := .type "list", data := .seq vs.toArray }) (hi : IntsAre vs ns) (hl : ns.length ≤ 63)
    (go : ∀ (base : Heap) (H : Hp), Env0 P w K mg base callerA [] s H → SqL K H a (ns.map V.int) → codeAny (model P w) callerA (.call (.ref f) ⟨[.ref a], []⟩) (CR CX0 [] P w H s (fun v _ => v = .bl true) fun _ _ _ => False) s) :
    codeAny (model P w) callerA (.call (.ref f) ⟨[.ref a], []⟩) (fun r t => r = .ok (.ret (.bool true)) ∧ OldK s.heap t.heap ∧ t.os = s.os ∧ AllBare t.gens) s := by
  have main : ∀ H : Hp, (∀ b u, H b = some u → b = a ∧ K.lookup a = none ∧ ∃ o xs, u = .frz o (.lst xs)) → HOk P w H s.heap → SqL K H a (ns.map V.int) → codeAny (model P w) callerA (.call (.ref f) ⟨[.ref a], []⟩) (fun r t => r = .ok (.ret (.bool true)) ∧ OldK s.heap t.heap ∧ t.os = s.os ∧ AllBare t.gens) s := fun H only ok sq => by
    have free : ∀ {b : Addr}, b ≠ a → H b = none := fun {b} hne => by
      cases q : H b with
      | none => rfl
      | some u => exact absurd (only b u q).1 hne
    have names : ∀ {b : Addr} {m : Str → Option Value}, s.heap.Ns b m → (hidT s.heap H).Ns b m := fun {b m} ⟨o, es, ep, e, d, r⟩ => ⟨o, es, ep, hidT_get e (free fun z => by
      subst z
      rw [ha] at e
      cases e
      have d2 : Data.seq vs.toArray _ = Data.dict es ep := d
      cases d2), d, r⟩
    have kin : K.In (hidT s.heap H) := fun b o e => hidT_get (KI b o e) (by
      cases q : H b with
      | none => rfl
      | some u =>
        obtain ⟨rfl, z, _⟩ := only b u q
        rw [z] at e
        cases e)
    obtain ⟨mc, nl1, nl2⟩ := NL
    have env : Env0 P w K mg (hidT s.heap H) callerA [] s H := ⟨rfl, ⟨kin, names hM, ⟨mb, names hB, hbb⟩, ⟨mc, names nl1, nl2⟩⟩, fun b o e => of_hidT e, Nat.le_of_eq (hidT_size _ _), trivial, fun b hb => absurd hb List.not_mem_nil, ok, .of_eq ge⟩
    refine codeAny_mono (go _ H env sq) fun r t z => ?_
    match r, z with
    | .error e, z => exact False.elim z
    | .ok .next, z => exact False.elim z
    | .ok .brk, z => exact False.elim z
    | .ok .cont, z => exact False.elim z
    | .ok (.ret u), ⟨v, H', os, bare, un, ok', rv, qv⟩ =>
      have ev : v = .bl true := qv
      subst ev
      obtain rfl : u = Value.bool true := rv
      refine ⟨rfl, OldK.of_keep fun b o e => ?_, os, bare⟩
      cases q : H b with
      | none => exact un.keep b o e q (fun z => absurd z List.not_mem_nil) (by simp)
      | some x =>
        obtain ⟨_, _, ob, xs, rfl⟩ := only b x q
        have k1 := (ok b _ q).1
        have k2 := (ok' b _ (un.frzs b ob _ q)).1
        rw [e] at k1
        cases k1
        exact k2
  have vl := vals_ints hi
  have ll := hi.length
  by_cases hk : ∃ o, K.lookup a = some o
  · obtain ⟨o, hk⟩ := hk
    have e := KI a o hk
    rw [ha] at e
    cases e
    refine main (fun _ => none) (fun b u z => by cases z) (fun b u z => by cases z) (.inr ⟨_, vs.toArray, _, hk, rfl, rfl, rfl, ?_, by simpa using vl⟩)
    rw [List.size_toArray, ll]
    exact Nat.le_trans hl (show 63 ≤ sizeLine by decide)
  · have hk2 : K.lookup a = none := by
      cases z : K.lookup a with
      | none => rfl
      | some o => exact absurd ⟨o, z⟩ hk
    have at_ : scriptH a { cls := .type "list", data := .seq vs.toArray } ns a = some (.frz { cls := .type "list", data := .seq vs.toArray } (.lst (ns.map V.int))) := if_pos rfl
    have out : ∀ {b u}, scriptH a { cls := .type "list", data := .seq vs.toArray } ns b = some u → b = a ∧ u = .frz { cls := .type "list", data := .seq vs.toArray } (.lst (ns.map V.int)) := fun {b u} z => by
      unfold scriptH at z
      split at z
      · rename_i hb
        cases z
        exact ⟨hb, rfl⟩
      · cases z
    refine main (scriptH a { cls := .type "list", data := .seq vs.toArray } ns) (fun b u z => ⟨(out z).1, hk2, _, _, (out z).2⟩) (fun b u z => ?_) (.inl (.inr ⟨_, at_⟩))
    obtain ⟨rfl, rfl⟩ := out z
    exact ⟨ha, by rw [List.length_map]; exact Nat.le_trans hl (show 63 ≤ sizeLine by decide), vs, _, vl, ha⟩
end Fk
set_option Elab.async false
set_option linter.all false
set_option maxRecDepth 100000
set_option maxHeartbeats 4000000
/-! E2: what the head tells. -/
namespace Fk
open PySem PySem.Spec PyProof.Rows L2
theorem ex_at {K : PySem.W.Frag} (e : exB K = true) (i : Nat) {b : Bool} (h : (exL K)[i]? = some b) : b = true := List.all_eq_true.mp e b (List.mem_of_getElem? h)
theorem exs_of {K : PySem.W.Frag} (e : exB K = true) : Exs K := by
  refine ⟨⟨oexB_ok (ex_at e 0 rfl), of_decide_eq_true (ex_at e 1 rfl), of_decide_eq_true (ex_at e 2 rfl), of_decide_eq_true (ex_at e 3 rfl), ex_at e 4 rfl⟩, of_decide_eq_true (ex_at e 5 rfl), of_decide_eq_true (ex_at e 6 rfl), of_decide_eq_true (ex_at e 7 rfl), of_decide_eq_true (ex_at e 8 rfl), of_decide_eq_true (ex_at e 22 rfl), ex_at e 23 rfl, clsFoundB_ok (ex_at e 24 rfl)⟩
theorem exh_of {K : PySem.W.Frag} (e : exB K = true) : Exh K := by
  refine ⟨of_decide_eq_true (ex_at e 9 rfl), of_decide_eq_true (ex_at e 10 rfl), of_decide_eq_true (ex_at e 11 rfl), fun x hx => of_decide_eq_true (List.all_eq_true.mp (ex_at e 12 rfl) x hx), of_decide_eq_true (ex_at e 13 rfl), of_decide_eq_true (ex_at e 14 rfl), ⟨of_decide_eq_true (ex_at e 15 rfl), of_decide_eq_true (ex_at e 16 rfl), of_decide_eq_true (ex_at e 2 rfl), ex_at e 17 rfl, of_decide_eq_true (ex_at e 18 rfl), of_decide_eq_true (ex_at e 19 rfl), of_decide_eq_true (ex_at e 20 rfl), of_decide_eq_true (ex_at e 21 rfl)⟩⟩
theorem fa_at {K : PySem.W.Frag} (c : He.SaysD fa fn K) {f : He.Fa} (h : f ∈ fa) : f.ok K = true := by
  obtain ⟨i, hi, e⟩ := List.getElem_of_mem h
  exact c.fact i (by rw [List.getElem?_eq_getElem hi, e])
theorem top_of {K : PySem.W.Frag} {h : Heap} {mg : Str → Option Value} (KX : K.In h) (G : h.Ns mainGlobals mg) (c : He.SaysD fa fn K) (e : exB K = true) : Top K mg := by
  have m1 : ∀ {f : He.Fa}, f ∈ frees.map He.Fa.free ++ [.int "LONGEST" 8, .str "LETTERS" "abcdefghijklmnopqrstuvwxyz", .glo "SIGNS"] → f ∈ fa := fun h => List.mem_append_right _ h
  have m2 : ∀ {f : He.Fa}, f ∈ ([.int "LONGEST" 8, .str "LETTERS" "abcdefghijklmnopqrstuvwxyz", .glo "SIGNS"] : List He.Fa) → f ∈ fa := fun h => m1 (List.mem_append_right _ h)
  refine ⟨fun i d hd => c.def_ i hd, fun x hx => ?_, fun x hx => ?_, He.int_ok KX G (fa_at c (m2 (by simp))), He.str_ok KX G (fa_at c (m2 (by simp))), He.glo_ok KX G (fa_at c (m2 (by simp))), fun H => He.tupB_ok (ex_at e 25 rfl) H⟩
  · have hm : x ∈ glos := List.contains_iff_mem.mp hx
    exact ⟨He.glo_ok KX G (fa_at c (List.mem_append_left _ (List.mem_map_of_mem hm))), List.all_eq_true.mp (ex_at e 26 rfl) x hm⟩
  · have hm : x ∈ frees := List.contains_iff_mem.mp hx
    exact He.free_ok KX G (fa_at c (m1 (List.mem_append_left _ (List.mem_map_of_mem hm))))
end Fk
set_option Elab.async false
set_option linter.all false
set_option maxRecDepth 100000
set_option maxHeartbeats 0
open PySem PySem.W PySem.Calls PyProof.Rows L2
theorem PySem.Challenge.cw_forktales_k07_wholeness_judged_holds : PySem.Challenge.rw_forktales_k07_wholeness_judged.Holds := by
  w_on; o_law
  refine HandSHeadRun.head_any (r := OpenLaw.row PySem.Challenge.rw_forktales_k07_wholeness_judged) (q := view (OpenLaw.row PySem.Challenge.rw_forktales_k07_wholeness_judged).prog [84]) (H := Fk.hookK) (ob := Fk.ob) (M := 8000) (loose := Fk.loose) (d := HandSHeadRun.topDef (OpenLaw.row PySem.Challenge.rw_forktales_k07_wholeness_judged).prog 84) (kwd := []) Fk.ob_eq
    (by kernel_rfl) (fun s => by kernel_rfl) Fk.run0 (by kernel_rfl) (by kernel_rfl) (by kernel_rfl) (by rfl) (by first | assumption | decide +kernel) (by decide +kernel) ⟨rfl, rfl, rfl, rfl, rfl, by decide +kernel⟩ ?hw ?hc
  case hw => w_witness2
  case hc =>
    refine Att.attach_call (n := 63) rfl (by kernel_rfl) fun w s₀ s₁ mg mb fa o pm cd doc a vs ns G Y ho hd hcd hmg hobj hints hlen hg => ?_
    obtain ⟨K, KX, c, e⟩ := Y
    have T := Fk.top_of KX G.T.g c e
    have hfa : fa = He.ga K "law" := by
      have e1 : (HandSHeadRun.topDef (OpenLaw.row PySem.Challenge.rw_forktales_k07_wholeness_judged).prog 84).name = ("law" : PySem.Str) := by kernel_rfl
      rw [e1, (T.gl "law" (by decide +kernel)).1] at hmg
      cases hmg
      rfl
    subst hfa
    exact Fk.law_end KX G.T.g G.T.b G.T.builtins G.T.nolimit hg hobj hints hlen fun base H e0 hs => Fk.law_at T (Fk.exs_of e) (Fk.exh_of e) e0 hs hlen
