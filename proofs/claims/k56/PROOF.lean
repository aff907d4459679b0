import PyProof.Rows.All
import Wide.All
import OpenK.AllK
import Wide.FinOn
import HandS.ForMost
import HandS.Exc
import HandS.TryOnly
import HandS.TryMany
import HandS.ExcOwn
import HandS.ExcInit
import HandS.ExcSuper
import HandS.Lambda
import HandS.Property
import HandS.IsInst
import HandS.Defaults
import HandS.SortKw
import HandS.SortInts
import HandS.Strs
import HandS.SetFor
import HandS.GenList
import HandS.Style
import HandS.Flow
import HandS.Zip
import HandS.TupAny
import HandS.TupLe
import HandS.RaiseMore
import HandS.EndTab
import HandS.HeadWalk
import HandS.HeadHook4
import HandS.Head2
import KE.KSortTupG
import KE.DatumOrd
import KE.KSuper
import KE.KExcSuper
import PyProof.ReprRoads
import HandS.Records
import KE.SortData
import HandS.Words
import HandS.Sort
import HandS.Nested
import KE.SortKeyHeap
import PyProof.TupleOfSeq
import HandS.Iter
import KE.GoesEnum
import KE.KTupSum
import HandS.ExcField
import PyProof.ReprLen
import PySem.Challenge.RW_lowerwords_k56_whole_halves_of_least_wor
set_option Elab.async false
set_option linter.all false
set_option maxRecDepth 100000
set_option maxHeartbeats 4000000
set_option maxHeartbeats 4000000
-- text P0
/-! # The program's text by places; the facts of its top that the walk asks -/
namespace G
open PySem PySem.Spec PyProof.Rows L2
def top (i : Nat) : Stmt := PySem.Challenge.pw_lowerwords_k56_whole_halves_of_least_wor.main.body.getD i (.Pass ⟨0, 0, 0, 0⟩)
abbrev Rw : PySem.W.OpenRow := PySem.W.OpenLaw.row PySem.Challenge.rw_lowerwords_k56_whole_halves_of_least_wor
/-- a def by its address -/
structure DefA where
  addr : Addr
  name : Str
  qual : Str
  params : Arguments
  body : List Stmt
  scope : Scope
  dfl : List V
  kwd : List (Str × V)
def mkD (a : Addr) (n q : Str) (st : Stmt) (dfl : List V) (kwd : List (Str × V)) : DefA := ⟨a, n, q, defArgs st, defBody st, defScope st, dfl, kwd⟩
def fnA (K : PySem.W.Frag) (a : Addr) : He.FnW := match K.lookup a with
  | some ⟨_, _, .func fd, _⟩ => some (fd.name, fd.qualname, fd.params, fd.body, fd.scope, fd.globals, fd.closure, fd.builtins)
  | _ => none
/-- the def's data, as they stand -/
def fdOf (K : PySem.W.Frag) (a : Addr) : FuncData := match K.lookup a with
  | some ⟨_, _, .func fd, _⟩ => fd
  | _ => default
def DefA.val (d : DefA) : He.FnW := some (d.name, d.qual, d.params, .stmts d.body, d.scope, mainGlobals, [], builtinsNs)
def DefA.ok (K : PySem.W.Frag) (d : DefA) : Bool := PySem.W.keepIn K (.ref d.addr) && (match K.lookup d.addr with
  | some ⟨_, _, .func fd, _⟩ => PySem.W.codeIn K fd.code d.qual && (He.dflB K fd.defaults d.dfl && He.kwdB K fd.kwdefaults d.kwd)
  | _ => false)
theorem DefA.funD {K : PySem.W.Frag} {d : DefA} (e : fnA K d.addr = d.val) (c : d.ok K = true) : FunD K d.name d.qual d.params d.body d.scope d.dfl d.kwd d.addr (fdOf K d.addr) := by
  obtain ⟨kp, c2⟩ := He.ba c
  unfold fnA at e
  unfold fdOf
  cases q : K.lookup d.addr with
  | none =>
    rw [q] at c2
    cases c2
  | some o =>
    obtain ⟨oc, od, dt, osl⟩ := o
    rw [q] at c2 e
    cases dt with
    | func fd =>
      obtain ⟨n1, n2, n3, n4, n5, n6, n7, n8, n9, n10, n11, n12, n13, n14, n15⟩ := fd
      have e2 : (some (n1, n2, n3, n4, n5, n6, n7, n15) : He.FnW) = some (d.name, d.qual, d.params, .stmts d.body, d.scope, mainGlobals, [], builtinsNs) := e
      simp only [Option.some.injEq, Prod.mk.injEq] at e2
      obtain ⟨h1, h2, h3, h4, h5, h6, h7, h8⟩ := e2
      subst h1 h2 h3 h4 h5 h6 h7 h8
      have c3 : (PySem.W.codeIn K n13 d.qual && (He.dflB K n8 d.dfl && He.kwdB K n9 d.kwd)) = true := c2
      obtain ⟨k1, k2⟩ := He.ba c3
      obtain ⟨k3, k4⟩ := He.ba k2
      exact ⟨⟨oc, od, n8, n9, n10, n11, n12, n13, n14, osl, rfl, q, k1, He.dflB_ok k3, He.kwdB_ok k4⟩, kp⟩
    | _ => cases c2
/-! ### facts of classes -/
def clsB (C : Addr) (K : PySem.W.Frag) : Bool := PySem.W.plainGet K C Str.empty && (PySem.W.hasDictIn K C && (PySem.W.plainOver K C && He.eqO (PySem.W.findIn K (.ref C) "__setattr__") (some (some (.builtin "object.__setattr__")))))
def noaB (C : Addr) (f : Str) (K : PySem.W.Frag) : Bool := He.eqO (PySem.W.findIn K (.ref C) f) (some none)
def makB (C i : Addr) (K : PySem.W.Frag) : Bool := PySem.W.makesIn K C && (He.eqO (PySem.W.findIn K (.ref C) "__init__") (some (some (.ref i))) && (PySem.W.isFn K (.ref i) && PySem.W.keepIn K (.ref C)))
def isiB (C : Addr) (K : PySem.W.Frag) : Bool := He.eqO (PySem.W.findIn K (.ref C) "__class__") (some (some (.builtin "object.__class__"))) && (He.eqO (PySem.W.specialIn K (.builtin "object.__class__") "__get__") (some (some (.builtin "getset_descriptor.__get__"))) &&
  (decide (PySem.W.takesIn K (.builtin "object.__class__") = some true) && decide (PySem.W.mroIn K C (.type "object") = some true)))
def proB (C : Addr) (f : Str) (p g : Addr) (K : PySem.W.Frag) : Bool := He.eqO (PySem.W.findIn K (.ref C) f) (some (some (.ref p))) && (He.eqO (PySem.W.specialIn K (.ref p) "__get__") (some (some (.builtin "property.__get__"))) &&
  (decide (PySem.W.takesIn K (.ref p) = some true) && (match PySem.W.recIn K p "property" with
    | some (.ref h :: _) => decide (h = g)
    | _ => false)))
def kitB2 (C D : Addr) (b : Bool) (K : PySem.W.Frag) : Bool := decide (PySem.W.kitOne K (.ref C) (.ref D) = some b)
def exmB (C D : Addr) (b : Bool) (K : PySem.W.Frag) : Bool := decide (PySem.W.exmOne K (.ref C) (.ref D) = some b)
def intB (x : Str) (i : Int) (K : PySem.W.Frag) : Bool := (He.Fa.int x i).ok K
def tupB (a : Addr) (ns : List Int) (K : PySem.W.Frag) : Bool := match K.lookup a with
  | some ⟨.type c, _, .seq its _, _⟩ => decide (c = "tuple") && (decide (its.size ≤ sizeLine) && He.relAll (ns.map V.int) its.toList)
  | _ => false
/-- an own exception over WordError over ValueError, its __init__ at i -/
def excB (C i : Addr) (K : PySem.W.Frag) : Bool := (match K.lookup C with
    | some ⟨.type "type", _, .cls cd, sl⟩ => (match cd.mro, sl.toList with
      | .ref C' :: bm, [_, _, _, _, some (.builtin n), _] => decide (C' = C) && (decide (n = "ValueError.__new__") && (decide (bm = [.ref 31, .type "ValueError", .type "Exception", .type "BaseException", .type "object"]) && (cd.hasDict && !cd.hasDel)))
      | _, _ => false)
    | _ => false) &&
  (He.eqO (PySem.W.findIn K (.ref C) "__setattr__") (some (some (.builtin "object.__setattr__"))) && (He.eqO (PySem.W.findIn K (.ref C) "__getattribute__") (some (some (.builtin "BaseException.__getattribute__"))) &&
  (He.eqO (PySem.W.findIn K (.ref C) "__getattr__") (some none) && (He.eqO (PySem.W.findIn K (.ref C) "__init__") (some (some (.ref i))) && (decide (PySem.W.typeIn K (.ref i) = some (.type "function")) &&
  (PySem.W.keepIn K (.ref C) && (decide (PySem.W.subIn K (.ref C) (.type "BaseException") = some true) && (decide (PySem.W.typeIn K (.ref C) = some (.type "type")) && PySem.W.hasDictIn K C))))))))
def cellB (a C : Addr) (K : PySem.W.Frag) : Bool := match K.lookup a with
  | some ⟨_, _, .cell (some (.ref b)), _⟩ => decide (b = C)
  | _ => false
/-! ### where the top lays things -/
abbrev a_is_whole : Addr := 293
abbrev a_check_letters : Addr := 300
abbrev a_check_number : Addr := 307
abbrev a_check_heap : Addr := 314
abbrev a_check_heaps : Addr := 321
abbrev a_check_places : Addr := 328
abbrev a_letters_of : Addr := 333
abbrev a_count_ones : Addr := 340
abbrev a_full_word : Addr := 348
abbrev a_check_word : Addr := 355
abbrev a_stepped_word : Addr := 362
abbrev a_ones_of : Addr := 367
abbrev a_heap_word : Addr := 374
abbrev a_heaps_of : Addr := 381
abbrev a_places_of : Addr := 388
abbrev a_marked_word : Addr := 395
abbrev a_weight_of : Addr := 402
abbrev a_checked_letters : Addr := 409
abbrev a_checked_heaps : Addr := 416
abbrev a_check_some : Addr := 507
abbrev a_strange_heap : Addr := 514
abbrev a_holds : Addr := 521
abbrev a_all_words : Addr := 526
abbrev a_first_places : Addr := 531
abbrev a_votes_for : Addr := 536
abbrev a_spoilt_votes : Addr := 543
abbrev a_reads_sure : Addr := 746
abbrev a_voting_order : Addr := 753
abbrev a_read_steps : Addr := 760
abbrev a_checked_most : Addr := 767
abbrev a_read_votes : Addr := 773
abbrev a_told_fault : Addr := 780
abbrev a_nearest_words : Addr := 787
abbrev a_two_near : Addr := 793
abbrev a_descents_of : Addr := 800
abbrev a_closed_gap : Addr := 805
abbrev a_first_gap : Addr := 812
abbrev a_check_closed : Addr := 819
abbrev a_check_falling : Addr := 826
abbrev a_is_form : Addr := 833
abbrev a_lots_sums : Addr := 838
abbrev a_check_forms : Addr := 843
abbrev a_values_of : Addr := 850
abbrev a_flat_word : Addr := 857
abbrev a_least_weight : Addr := 864
abbrev a_free_letters : Addr := 869
abbrev a_free_bits : Addr := 874
abbrev a_check_ground : Addr := 881
abbrev a_top_heaps : Addr := 886
abbrev a_least_count : Addr := 891
abbrev a_forms_by_bits : Addr := 898
abbrev a_least_forms : Addr := 905
abbrev a_least_at : Addr := 912
abbrev a_is_sure : Addr := 947
abbrev a_read_lossy : Addr := 954
abbrev a_law_mix : Addr := 961
abbrev a_law_hand : Addr := 966
abbrev a_law_draw : Addr := 973
abbrev a_law_wide : Addr := 980
abbrev a_law_is_int : Addr := 987
abbrev a_law_ones : Addr := 994
abbrev a_law_heap_word : Addr := 1001
abbrev a_law_is_below : Addr := 1008
abbrev a_law_falling : Addr := 1013
abbrev a_law_closed : Addr := 1018
abbrev a_law_seeds : Addr := 1023
abbrev a_law_choice : Addr := 1028
abbrev a_law_any_word : Addr := 1035
abbrev a_law_spots : Addr := 1040
abbrev a_law_mark : Addr := 1047
abbrev a_law_spots_of : Addr := 1052
abbrev a_law_low_choice : Addr := 1057
abbrev a_law_made_choice : Addr := 1064
abbrev a_law_weight_due : Addr := 1069
abbrev a_law_code : Addr := 1074
abbrev a_law_caught : Addr := 1081
abbrev a_law_bad_number : Addr := 1088
abbrev a_law_two_told : Addr := 1093
abbrev a_law_none_nearer : Addr := 1098
abbrev a_law_least_halved : Addr := 1103
abbrev a_law_great_code_nearest : Addr := 1108
abbrev a_law_errors_told : Addr := 1115
abbrev a_law : Addr := 1120
abbrev c_WordError : Addr := 31
abbrev c_BadLetters : Addr := 53
abbrev c_BadNumber : Addr := 74
abbrev c_BadHeap : Addr := 95
abbrev c_BadPlaces : Addr := 116
abbrev c_BadWord : Addr := 137
abbrev c_EmptyChoice : Addr := 179
abbrev c_TooMany : Addr := 200
abbrev c_NoneNear : Addr := 284
abbrev c_Choice : Addr := 496
abbrev c_Voted : Addr := 567
abbrev c_Read : Addr := 595
abbrev c_Far : Addr := 623
abbrev c_Tie : Addr := 651
abbrev c_Outvoted : Addr := 679
abbrev c_Nearest : Addr := 707
abbrev c_TwoNear : Addr := 735
abbrev c_Lossy : Addr := 936
abbrev i_Choice : Addr := 430
abbrev i_Voted : Addr := 557
abbrev i_Read : Addr := 585
abbrev i_Far : Addr := 613
abbrev i_Tie : Addr := 641
abbrev i_Outvoted : Addr := 669
abbrev i_Nearest : Addr := 697
abbrev i_TwoNear : Addr := 725
abbrev i_Lossy : Addr := 926
abbrev i_BadNumber : Addr := 71
abbrev i_EmptyChoice : Addr := 176
abbrev i_NoneNear : Addr := 281
abbrev p_size : Addr := 438
abbrev g_size : Addr := 437
abbrev p_top_size : Addr := 444
abbrev g_top_size : Addr := 443
abbrev a_WITHOUT : Addr := 341
abbrev cell_BadNumber : Addr := 59
abbrev cell_EmptyChoice : Addr := 164
abbrev cell_NoneNear : Addr := 269
def asK0 : List Addr := [3, 2, 496, 495, 567, 566, 595, 594, 623, 622, 651, 650, 679, 678, 707, 706, 735, 734, 936, 935, 31, 30, 53, 52, 74, 73, 95, 94, 116, 115, 137]
def asK1 : List Addr := [136, 179, 178, 200, 199, 284, 283, 438, 444, 341, 71, 70, 59, 176, 175, 164, 281, 280, 269, 430, 429, 557, 556, 585, 584, 613, 612, 641, 640, 669]
def asK2 : List Addr := [668, 697, 696, 725, 724, 926, 925, 437, 436, 443, 442, 293, 292, 300, 299, 307, 306, 314, 313, 321, 320, 328, 327, 333, 332, 340, 339, 348, 347, 355]
def asK3 : List Addr := [354, 362, 361, 367, 366, 374, 373, 381, 380, 388, 387, 395, 394, 402, 401, 409, 408, 416, 415, 507, 506, 514, 513, 521, 520, 526, 525, 531, 530, 536]
def asK4 : List Addr := [535, 543, 542, 746, 745, 753, 752, 760, 759, 767, 766, 773, 772, 768, 780, 779, 787, 786, 793, 792, 788, 800, 799, 805, 804, 812, 811, 819, 818, 826]
def asK5 : List Addr := [825, 833, 832, 838, 837, 843, 842, 850, 849, 857, 856, 864, 863, 869, 868, 874, 873, 881, 880, 886, 885, 891, 890, 898, 897, 905, 904, 912, 911, 947]
def asK6 : List Addr := [946, 954, 953, 961, 960, 966, 965, 973, 972, 980, 979, 987, 986, 994, 993, 1001, 1000, 1008, 1007, 1013, 1012, 1018, 1017, 1023, 1022, 1028, 1027, 1035, 1034, 1040]
def asK7 : List Addr := [1039, 1047, 1046, 1052, 1051, 1057, 1056, 1064, 1063, 1069, 1068, 1074, 1073, 1081, 1080, 1088, 1087, 1093, 1092, 1098, 1097, 1103, 1102, 1108, 1107, 1115, 1114, 1120, 1119]
/-- what the walk reads of the top -/
def asK : List Addr := asK0 ++ asK1 ++ asK2 ++ asK3 ++ asK4 ++ asK5 ++ asK6 ++ asK7
/-! ### the defs -/
def fns0 : List DefA := [
  mkD a_is_whole "is_whole" "is_whole" (top 17) [] [],
  mkD a_check_letters "check_letters" "check_letters" (top 18) [] [],
  mkD a_check_number "check_number" "check_number" (top 19) [] [],
  mkD a_check_heap "check_heap" "check_heap" (top 20) [] [],
  mkD a_check_heaps "check_heaps" "check_heaps" (top 21) [] [],
  mkD a_check_places "check_places" "check_places" (top 22) [] [],
  mkD a_letters_of "letters_of" "letters_of" (top 23) [] [],
  mkD a_count_ones "count_ones" "count_ones" (top 24) [] [],
  mkD a_full_word "full_word" "full_word" (top 27) [] [],
  mkD a_check_word "check_word" "check_word" (top 28) [] [],
  mkD a_stepped_word "stepped_word" "stepped_word" (top 29) [] [],
  mkD a_ones_of "ones_of" "ones_of" (top 30) [] [],
  mkD a_heap_word "heap_word" "heap_word" (top 31) [] [],
  mkD a_heaps_of "heaps_of" "heaps_of" (top 32) [] [],
  mkD a_places_of "places_of" "places_of" (top 33) [] [],
  mkD a_marked_word "marked_word" "marked_word" (top 34) [] [],
  mkD a_weight_of "weight_of" "weight_of" (top 35) [] [],
  mkD a_checked_letters "checked_letters" "checked_letters" (top 38) [] [],
  mkD a_checked_heaps "checked_heaps" "checked_heaps" (top 39) [] [],
  mkD a_check_some "check_some" "check_some" (top 41) [] []]
def fns1 : List DefA := [
  mkD a_strange_heap "strange_heap" "strange_heap" (top 42) [] [],
  mkD a_holds "holds" "holds" (top 43) [] [],
  mkD a_all_words "all_words" "all_words" (top 44) [] [],
  mkD a_first_places "first_places" "first_places" (top 46) [] [],
  mkD a_votes_for "votes_for" "votes_for" (top 47) [] [],
  mkD a_spoilt_votes "spoilt_votes" "spoilt_votes" (top 48) [] [],
  mkD a_reads_sure "reads_sure" "reads_sure" (top 57) [] [],
  mkD a_voting_order "voting_order" "voting_order" (top 58) [] [],
  mkD a_read_steps "read_steps" "read_steps" (top 59) [] [],
  mkD a_checked_most "checked_most" "checked_most" (top 60) [] [],
  mkD a_read_votes "read_votes" "read_votes" (top 61) [] [("most", .non)],
  mkD a_told_fault "told_fault" "told_fault" (top 62) [] [],
  mkD a_nearest_words "nearest_words" "nearest_words" (top 63) [] [],
  mkD a_two_near "two_near" "two_near" (top 64) [.int 0] [],
  mkD a_descents_of "descents_of" "descents_of" (top 66) [] [],
  mkD a_closed_gap "closed_gap" "closed_gap" (top 68) [] [],
  mkD a_first_gap "first_gap" "first_gap" (top 69) [] [],
  mkD a_check_closed "check_closed" "check_closed" (top 70) [] [],
  mkD a_check_falling "check_falling" "check_falling" (top 71) [] [],
  mkD a_is_form "is_form" "is_form" (top 73) [] []]
def fns2 : List DefA := [
  mkD a_lots_sums "lots_sums" "lots_sums" (top 74) [] [],
  mkD a_check_forms "check_forms" "check_forms" (top 75) [] [],
  mkD a_values_of "values_of" "values_of" (top 76) [] [],
  mkD a_flat_word "flat_word" "flat_word" (top 77) [] [],
  mkD a_least_weight "least_weight" "least_weight" (top 79) [] [],
  mkD a_free_letters "free_letters" "free_letters" (top 80) [] [],
  mkD a_free_bits "free_bits" "free_bits" (top 81) [] [],
  mkD a_check_ground "check_ground" "check_ground" (top 82) [] [],
  mkD a_top_heaps "top_heaps" "top_heaps" (top 83) [] [],
  mkD a_least_count "least_count" "least_count" (top 84) [] [],
  mkD a_forms_by_bits "forms_by_bits" "forms_by_bits" (top 85) [] [],
  mkD a_least_forms "least_forms" "least_forms" (top 86) [] [],
  mkD a_least_at "least_at" "least_at" (top 87) [] [],
  mkD a_is_sure "is_sure" "is_sure" (top 90) [] [],
  mkD a_read_lossy "read_lossy" "read_lossy" (top 91) [] [],
  mkD a_law_mix "_law_mix" "_law_mix" (top 93) [] [],
  mkD a_law_hand "_law_hand" "_law_hand" (top 94) [] [],
  mkD a_law_draw "_law_draw" "_law_draw" (top 95) [] [],
  mkD a_law_wide "_law_wide" "_law_wide" (top 96) [] [],
  mkD a_law_is_int "_law_is_int" "_law_is_int" (top 97) [] []]
def fns3 : List DefA := [
  mkD a_law_ones "_law_ones" "_law_ones" (top 98) [] [],
  mkD a_law_heap_word "_law_heap_word" "_law_heap_word" (top 99) [] [],
  mkD a_law_is_below "_law_is_below" "_law_is_below" (top 100) [] [],
  mkD a_law_falling "_law_falling" "_law_falling" (top 101) [] [],
  mkD a_law_closed "_law_closed" "_law_closed" (top 102) [] [],
  mkD a_law_seeds "_law_seeds" "_law_seeds" (top 103) [] [],
  mkD a_law_choice "_law_choice" "_law_choice" (top 104) [] [],
  mkD a_law_any_word "_law_any_word" "_law_any_word" (top 105) [] [],
  mkD a_law_spots "_law_spots" "_law_spots" (top 106) [] [],
  mkD a_law_mark "_law_mark" "_law_mark" (top 107) [] [],
  mkD a_law_spots_of "_law_spots_of" "_law_spots_of" (top 108) [] [],
  mkD a_law_low_choice "_law_low_choice" "_law_low_choice" (top 109) [] [],
  mkD a_law_made_choice "_law_made_choice" "_law_made_choice" (top 110) [] [],
  mkD a_law_weight_due "_law_weight_due" "_law_weight_due" (top 111) [] [],
  mkD a_law_code "_law_code" "_law_code" (top 112) [] [],
  mkD a_law_caught "_law_caught" "_law_caught" (top 113) [] [],
  mkD a_law_bad_number "_law_bad_number" "_law_bad_number" (top 114) [] [],
  mkD a_law_two_told "_law_two_told" "_law_two_told" (top 115) [] [],
  mkD a_law_none_nearer "_law_none_nearer" "_law_none_nearer" (top 116) [] [],
  mkD a_law_least_halved "_law_least_halved" "_law_least_halved" (top 117) [] []]
def fns4 : List DefA := [
  mkD a_law_great_code_nearest "_law_great_code_nearest" "_law_great_code_nearest" (top 118) [] [],
  mkD a_law_errors_told "_law_errors_told" "_law_errors_told" (top 119) [] [],
  mkD a_law "law" "law" (top 120) [] [],
  mkD i_Choice "__init__" "Choice.__init__" (inClass (top 40) 0) [] [],
  mkD i_Voted "__init__" "Voted.__init__" (inClass (top 50) 0) [] [],
  mkD i_Read "__init__" "Read.__init__" (inClass (top 51) 0) [] [],
  mkD i_Far "__init__" "Far.__init__" (inClass (top 52) 0) [] [],
  mkD i_Tie "__init__" "Tie.__init__" (inClass (top 53) 0) [] [],
  mkD i_Outvoted "__init__" "Outvoted.__init__" (inClass (top 54) 0) [] [],
  mkD i_Nearest "__init__" "Nearest.__init__" (inClass (top 55) 0) [] [],
  mkD i_TwoNear "__init__" "TwoNear.__init__" (inClass (top 56) 0) [] [],
  mkD i_Lossy "__init__" "Lossy.__init__" (inClass (top 89) 0) [] [],
  mkD g_size "size" "Choice.size" (inClass (top 40) 1) [] [],
  mkD g_top_size "top_size" "Choice.top_size" (inClass (top 40) 2) [] []]
def fns : List DefA := fns0 ++ fns1 ++ fns2 ++ fns3 ++ fns4
def gls0 : List (Str × Addr) := [("WordError", 31), ("BadLetters", 53), ("BadNumber", 74), ("BadHeap", 95), ("BadPlaces", 116), ("BadWord", 137), ("EmptyChoice", 179), ("TooMany", 200), ("NoneNear", 284), ("is_whole", 293), ("check_letters", 300), ("check_number", 307), ("check_heap", 314), ("check_heaps", 321), ("check_places", 328), ("letters_of", 333), ("count_ones", 340), ("WITHOUT", 341), ("full_word", 348), ("check_word", 355), ("stepped_word", 362), ("ones_of", 367), ("heap_word", 374), ("heaps_of", 381), ("places_of", 388), ("marked_word", 395), ("weight_of", 402), ("checked_letters", 409), ("checked_heaps", 416), ("Choice", 496)]
def gls1 : List (Str × Addr) := [("check_some", 507), ("strange_heap", 514), ("holds", 521), ("all_words", 526), ("first_places", 531), ("votes_for", 536), ("spoilt_votes", 543), ("Voted", 567), ("Read", 595), ("Far", 623), ("Tie", 651), ("Outvoted", 679), ("Nearest", 707), ("TwoNear", 735), ("reads_sure", 746), ("voting_order", 753), ("read_steps", 760), ("checked_most", 767), ("read_votes", 773), ("told_fault", 780), ("nearest_words", 787), ("two_near", 793), ("descents_of", 800), ("closed_gap", 805), ("first_gap", 812), ("check_closed", 819), ("check_falling", 826), ("is_form", 833), ("lots_sums", 838), ("check_forms", 843)]
def gls2 : List (Str × Addr) := [("values_of", 850), ("flat_word", 857), ("least_weight", 864), ("free_letters", 869), ("free_bits", 874), ("check_ground", 881), ("top_heaps", 886), ("least_count", 891), ("forms_by_bits", 898), ("least_forms", 905), ("least_at", 912), ("Lossy", 936), ("is_sure", 947), ("read_lossy", 954), ("_law_mix", 961), ("_law_hand", 966), ("_law_draw", 973), ("_law_wide", 980), ("_law_is_int", 987), ("_law_ones", 994), ("_law_heap_word", 1001), ("_law_is_below", 1008), ("_law_falling", 1013), ("_law_closed", 1018), ("_law_seeds", 1023), ("_law_choice", 1028), ("_law_any_word", 1035), ("_law_spots", 1040), ("_law_mark", 1047), ("_law_spots_of", 1052)]
def gls3 : List (Str × Addr) := [("_law_low_choice", 1057), ("_law_made_choice", 1064), ("_law_weight_due", 1069), ("_law_code", 1074), ("_law_caught", 1081), ("_law_bad_number", 1088), ("_law_two_told", 1093), ("_law_none_nearer", 1098), ("_law_least_halved", 1103), ("_law_great_code_nearest", 1108), ("_law_errors_told", 1115), ("law", 1120)]
def gls : List (Str × Addr) := gls0 ++ gls1 ++ gls2 ++ gls3
def frees : List Str := ["len", "range", "isinstance", "int", "bool", "list", "tuple", "set", "sorted", "enumerate", "max", "min", "sum", "any", "abs", "zip", "repr", "super", "ValueError"]
/-! ### facts -/
def facts0 : List (PySem.W.Frag → Bool) := [
  clsB c_Choice,
  makB c_Choice i_Choice,
  isiB c_Choice,
  noaB c_Choice "letters",
  noaB c_Choice "heaps",
  clsB c_Voted,
  makB c_Voted i_Voted,
  isiB c_Voted,
  noaB c_Voted "heap",
  noaB c_Voted "votes",
  noaB c_Voted "bit",
  noaB c_Voted "rest",
  clsB c_Read,
  makB c_Read i_Read,
  isiB c_Read,
  noaB c_Read "word",
  noaB c_Read "wrong",
  noaB c_Read "against",
  clsB c_Far,
  makB c_Far i_Far,
  isiB c_Far,
  noaB c_Far "word",
  noaB c_Far "wrong",
  noaB c_Far "against",
  clsB c_Tie]
def facts1 : List (PySem.W.Frag → Bool) := [
  makB c_Tie i_Tie,
  isiB c_Tie,
  noaB c_Tie "heap",
  clsB c_Outvoted,
  makB c_Outvoted i_Outvoted,
  isiB c_Outvoted,
  noaB c_Outvoted "heap",
  noaB c_Outvoted "spoilt",
  clsB c_Nearest,
  makB c_Nearest i_Nearest,
  isiB c_Nearest,
  noaB c_Nearest "distance",
  noaB c_Nearest "words",
  clsB c_TwoNear,
  makB c_TwoNear i_TwoNear,
  isiB c_TwoNear,
  noaB c_TwoNear "word",
  noaB c_TwoNear "lost",
  noaB c_TwoNear "one",
  noaB c_TwoNear "other",
  clsB c_Lossy,
  makB c_Lossy i_Lossy,
  isiB c_Lossy,
  noaB c_Lossy "word",
  noaB c_Lossy "wrong"]
def facts2 : List (PySem.W.Frag → Bool) := [
  noaB c_Lossy "sure",
  proB c_Choice "size" p_size g_size,
  proB c_Choice "top_size" p_top_size g_top_size,
  kitB2 c_Read c_Read true,
  kitB2 c_Far c_Read false,
  kitB2 c_Tie c_Read false,
  kitB2 c_Read c_Far false,
  kitB2 c_Read c_Tie false,
  kitB2 c_Far c_Far true,
  kitB2 c_Far c_Tie false,
  kitB2 c_Tie c_Far false,
  kitB2 c_Tie c_Tie true,
  kitB2 c_TwoNear c_TwoNear true,
  kitB2 c_Lossy c_Lossy true,
  kitB2 c_Nearest c_Nearest true,
  excB c_BadNumber i_BadNumber,
  cellB cell_BadNumber c_BadNumber,
  exmB c_BadNumber c_BadLetters false,
  exmB c_BadNumber c_BadNumber true,
  exmB c_BadNumber c_BadHeap false,
  exmB c_BadNumber c_BadPlaces false,
  exmB c_BadNumber c_BadWord false,
  exmB c_BadNumber c_EmptyChoice false,
  exmB c_BadNumber c_TooMany false,
  exmB c_BadNumber c_NoneNear false]
/-- the three tables stand apart -/
def tf0 : List He.Defn := [("voting_order", none), ("_law_two_told", none), ("_law_errors_told", none)]
def tabA (K : PySem.W.Frag) : Bool := decide (tf0.map (He.fAd K) = [a_voting_order, a_law_two_told, a_law_errors_told]) && decide (((tf0.map fun p => (He.cT K p).2) ++ [mainGlobals]).Nodup)
def facts3 : List (PySem.W.Frag → Bool) := [
  excB c_EmptyChoice i_EmptyChoice,
  cellB cell_EmptyChoice c_EmptyChoice,
  exmB c_EmptyChoice c_BadLetters false,
  exmB c_EmptyChoice c_BadNumber false,
  exmB c_EmptyChoice c_BadHeap false,
  exmB c_EmptyChoice c_BadPlaces false,
  exmB c_EmptyChoice c_BadWord false,
  exmB c_EmptyChoice c_EmptyChoice true,
  exmB c_EmptyChoice c_TooMany false,
  exmB c_EmptyChoice c_NoneNear false,
  excB c_NoneNear i_NoneNear,
  cellB cell_NoneNear c_NoneNear,
  exmB c_NoneNear c_BadLetters false,
  exmB c_NoneNear c_BadNumber false,
  exmB c_NoneNear c_BadHeap false,
  exmB c_NoneNear c_BadPlaces false,
  exmB c_NoneNear c_BadWord false,
  exmB c_NoneNear c_EmptyChoice false,
  exmB c_NoneNear c_TooMany false,
  exmB c_NoneNear c_NoneNear true,
  noaB c_BadNumber "most",
  intB "MOST_LETTERS" 5,
  intB "MOST_SIZE" 12,
  tupB a_WITHOUT [1431655765, 858993459, 252645135, 16711935, 65535],
  tabA]
def facts : List (PySem.W.Frag → Bool) := facts0 ++ facts1 ++ facts2 ++ facts3
/-! ### the __init__s that say super() -/
structure DefX where
  addr : Addr
  qual : Str
  st : Stmt
  cls : Addr
  cell : Addr
def DefX.val (d : DefX) : He.FnW := some ("__init__", d.qual, defArgs d.st, .stmts (defBody d.st), defScope d.st, mainGlobals, [("__class__", d.cell)], builtinsNs)
def xBad : DefX := ⟨i_BadNumber, "BadNumber.__init__", inClass (top 4) 0, c_BadNumber, cell_BadNumber⟩
def xEmp : DefX := ⟨i_EmptyChoice, "EmptyChoice.__init__", inClass (top 9) 0, c_EmptyChoice, cell_EmptyChoice⟩
def xNon : DefX := ⟨i_NoneNear, "NoneNear.__init__", inClass (top 14) 0, c_NoneNear, cell_NoneNear⟩
def xfns : List DefX := [xBad, xEmp, xNon]
def bmVE : List Value := [.type "ValueError", .type "Exception", .type "BaseException", .type "object"]
/-- the code object's file -/
def fileB (K : PySem.W.Frag) (cd : Value) (file : Str) : Bool := match cd with
  | .ref c => (match K.lookup c with
    | some ⟨_, _, .fields vs, _⟩ => (match (vs[2]? : Option Value) with
      | some (.str f _) => f == file
      | _ => false)
    | _ => false)
  | _ => false
def DefX.ok (K : PySem.W.Frag) (d : DefX) : Bool := (match K.lookup d.addr with
    | some ⟨_, _, .func fd, _⟩ => PySem.W.codeIn K fd.code d.qual && (fileB K fd.code Rw.prog.main.file && (He.dflB K fd.defaults [] && He.kwdB K fd.kwdefaults []))
    | _ => false) &&
  (PySem.W.excInitIn K d.cls bmVE "ValueError.__new__" && (PySem.W.excOver K d.cls bmVE && (He.eqO (PySem.W.ks_superIn K d.cls d.cls "__init__") (some (some (.builtin "ValueError.__init__"))) &&
  (decide (PySem.W.subIn K (.ref d.cls) (.type "ValueError") = some true) && (decide (PySem.W.mroIn K d.cls (.ref d.cls) = some true) && (He.eqO (PySem.W.nsIn K mainGlobals "super") (some none) &&
  (He.eqO (PySem.W.nsIn K cStatics "thirdparty.any") (some none) && (PySem.W.isFn K (.ref d.addr) && cellB d.cell d.cls K))))))))
/-! ### the Hook -/
def tfs : List He.Defn := tf0
def okA (K : PySem.W.Frag) : Bool := (gls.all fun p => He.eqO (PySem.W.nsIn K mainGlobals p.1) (some (some (.ref p.2)))) && ((frees.all fun x => He.eqO (PySem.W.nsIn K mainGlobals x) (some none)) && ((fns.all fun d => d.ok K) && facts.all fun f => f K))
def obsA (g : Addr → Option Obj) : Bool × List He.FnW × List He.FnW := ((okA (He.frT g asK) && xfns.all fun d => d.ok (He.frT g asK)) && He.tabsB g tfs (He.frT g asK), fns.map fun d => fnA (He.frT g asK) d.addr, xfns.map fun d => fnA (He.frT g asK) d.addr)
def valA : Bool × List He.FnW × List He.FnW := (true, fns.map DefA.val, xfns.map DefX.val)
structure SaysA (h : Heap) (K : PySem.W.Frag) : Prop where
  ok : okA K = true
  fn : (fns.map fun d => fnA K d.addr) = fns.map DefA.val
  xok : (xfns.all fun d => d.ok K) = true
  xfn : (xfns.map fun d => fnA K d.addr) = xfns.map DefX.val
  hd : ∀ p ∈ tfs, PySem.W.codeHdIn K (He.cT K p).1 (He.cT K p).2 = true
  out : ∀ p ∈ tfs, K.lookup (He.cT K p).2 = none
  empty : ∀ p ∈ tfs, h.get? (He.cT K p).2 = some { cls := .none, data := .fields #[] }
theorem saysA_of {h : Heap} (e : obsA h.get? = valA) : SaysA h (He.frT h.get? asK) := by
  have e1 : (fns.map fun d => fnA (He.frT h.get? asK) d.addr) = fns.map DefA.val := congrArg (fun z : Bool × List He.FnW × List He.FnW => z.2.1) e
  have e3 : (xfns.map fun d => fnA (He.frT h.get? asK) d.addr) = xfns.map DefX.val := congrArg (fun z : Bool × List He.FnW × List He.FnW => z.2.2) e
  have e2 : ((okA (He.frT h.get? asK) && xfns.all fun d => d.ok (He.frT h.get? asK)) && He.tabsB h.get? tfs (He.frT h.get? asK)) = true := congrArg (fun z : Bool × List He.FnW × List He.FnW => z.1) e
  obtain ⟨h0, h2⟩ := He.ba e2
  obtain ⟨h1, hx⟩ := He.ba h0
  have key : ∀ p ∈ tfs, PySem.W.codeHdIn (He.frT h.get? asK) (He.cT (He.frT h.get? asK) p).1 (He.cT (He.frT h.get? asK) p).2 = true ∧ ∃ o, h.get? (He.cT (He.frT h.get? asK) p).2 = some o ∧ He.emptyTab o = true := fun p hp => by
    obtain ⟨h3, h4⟩ := He.ba (List.all_eq_true.mp h2 p hp)
    refine ⟨h3, ?_⟩
    cases q : h.get? (He.cT (He.frT h.get? asK) p).2 with
    | none =>
      rw [q] at h4
      cases h4
    | some o =>
      rw [q] at h4
      exact ⟨o, rfl, h4⟩
  exact ⟨h1, e1, hx, e3, fun p hp => (key p hp).1, fun p hp => by
    obtain ⟨_, o, q, z⟩ := key p hp
    exact He.frT_none q z, fun p hp => by
    obtain ⟨_, o, q, z⟩ := key p hp
    rw [q, He.emptyTab_eq z]⟩
def hookA : PySem.W.Hook where
  α := Bool × List He.FnW × List He.FnW
  obs := fun s => obsA s.heap.get?
  val := fun _ => valA
  says := fun _ h => ∃ K : PySem.W.Frag, K.In h ∧ SaysA h K
  of := fun _ _ e => ⟨_, He.frT_in, saysA_of e⟩
  keeps := fun _ _ _ ⟨K, hK, c⟩ k => ⟨K, PySem.W.Frag.In.keeps hK k, ⟨c.ok, c.fn, c.xok, c.xfn, c.hd, c.out, fun p hp => k _ _ (c.empty p hp)⟩⟩
def obA (s : PySem.W.SharedT) : Bool × List He.FnW × List He.FnW := obsA (HandSHeadRun.getT s)
theorem obA_eq (s : PySem.W.SharedT) : obA s = hookA.obs s.abs := by
  have e : HandSHeadRun.getT s = s.abs.heap.get? := funext (HandSHeadRun.getT_eq s)
  unfold obA
  rw [e] <;> rfl
def nm0 : List Str := ["_wall", "__name__", "WordError", "BadLetters", "BadNumber", "BadHeap", "BadPlaces", "BadWord", "BadChoice", "EmptyChoice", "TooMany", "NotClosed", "NotFalling", "BadForms", "NoneNear", "MOST_LETTERS", "is_whole", "check_letters", "check_number", "check_heap", "check_heaps", "check_places", "letters_of", "count_ones", "WITHOUT", "full_word", "check_word", "stepped_word", "ones_of", "heap_word"]
def nm1 : List Str := ["heaps_of", "places_of", "marked_word", "weight_of", "MOST_SIZE", "checked_letters", "checked_heaps", "Choice", "check_some", "strange_heap", "holds", "all_words", "first_places", "votes_for", "spoilt_votes", "Voted", "Read", "Far", "Tie", "Outvoted", "Nearest", "TwoNear", "reads_sure", "voting_order", "read_steps", "checked_most", "read_votes", "told_fault", "nearest_words", "two_near"]
def nm2 : List Str := ["descents_of", "closed_gap", "first_gap", "check_closed", "check_falling", "is_form", "lots_sums", "check_forms", "values_of", "flat_word", "least_weight", "free_letters", "free_bits", "check_ground", "top_heaps", "least_count", "forms_by_bits", "least_forms", "least_at", "Lossy", "is_sure", "read_lossy", "_law_mix", "_law_hand", "_law_draw", "_law_wide", "_law_is_int", "_law_ones", "_law_heap_word", "_law_is_below"]
def nm3 : List Str := ["_law_falling", "_law_closed", "_law_seeds", "_law_choice", "_law_any_word", "_law_spots", "_law_mark", "_law_spots_of", "_law_low_choice", "_law_made_choice", "_law_weight_due", "_law_code", "_law_caught", "_law_bad_number", "_law_two_told", "_law_none_nearer", "_law_least_halved", "_law_great_code_nearest", "_law_errors_told"]
def names : List Str := nm0 ++ nm1 ++ nm2 ++ nm3
end G
set_option maxHeartbeats 0
-- text HC
namespace G
open PySem PySem.Spec PyProof.Rows L2
theorem runC (w : World) (os : OsState) : (HandSHeadRun.endF (HandSHeadRun.stepQ (HandSHeadRun.denQ HandSHeadRun.tabQ) Rw.prog w) 9000 Rw.prog w os).map obA = some (hookA.val w) := by
  kernel_rfl
end G
set_option maxHeartbeats 0
-- text HA
namespace G
open PySem PySem.Spec PyProof.Rows L2
theorem runA (w : World) (os : OsState) : (HandSHeadRun.endF (HandSHeadRun.stepQ (HandSHeadRun.denQ HandSHeadRun.tabQ) Rw.prog w) 9000 Rw.prog w os).map (fun s => HandSHeadRun.looksF Rw.prog (PySem.W.boot_heap w.params) s.abs) = some true := by
  kernel_rfl
end G
set_option maxHeartbeats 0
-- text HB
namespace G
open PySem PySem.Spec PyProof.Rows L2
theorem runB (w : World) (os : OsState) : (HandSHeadRun.endF (HandSHeadRun.stepQ (HandSHeadRun.denQ HandSHeadRun.tabQ) Rw.prog w) 9000 Rw.prog w os).map (fun s => HandSHeadRun.seenQ (PySem.W.view Rw.prog [120]) names (importedModules Rw.prog.main.body) (fun s => PySem.W.xlAt (PySem.W.view Rw.prog [120]) [] s && PySem.W.recOk Rw.toRowW.records s) s.abs) = some (PySem.W.openGood (PySem.W.view Rw.prog [120]) names) := by
  kernel_rfl
end G
set_option maxHeartbeats 4000000
-- text P1
/-! # What the walk asks of the text -/
namespace G
open PySem PySem.Spec PyProof.Rows L2
/-- what the top has written: its facts, its names -/
structure Txt (K : PySem.W.Frag) (mg : Str → Option Value) : Prop where
  ok : okA K = true
  fn : (fns.map fun d => fnA K d.addr) = fns.map DefA.val
  ns : ∃ h : Heap, K.In h ∧ h.Ns mainGlobals mg
section
variable {K : PySem.W.Frag} {mg : Str → Option Value}
theorem Txt.of {h : Heap} (c : SaysA h K) (X : K.In h) (N : h.Ns mainGlobals mg) : Txt K mg := ⟨c.ok, c.fn, h, X, N⟩
theorem Txt.glo (T : Txt K mg) (i : Nat) {x : Str} {a : Addr} (e : gls[i]? = some (x, a)) : mg x = some (.ref a) := by
  obtain ⟨h, X, N⟩ := T.ns
  have q := List.all_eq_true.mp (He.ba T.ok).1 (x, a) (List.mem_of_getElem? e)
  exact PySem.W.mg_of X N (He.eqO_ok q)
theorem Txt.fre (T : Txt K mg) (i : Nat) {x : Str} (e : frees[i]? = some x) : mg x = none := by
  obtain ⟨h, X, N⟩ := T.ns
  have q := List.all_eq_true.mp (He.ba (He.ba T.ok).2).1 x (List.mem_of_getElem? e)
  exact PySem.W.mg_none_of X N (He.eqO_ok q)
theorem Txt.def_ (T : Txt K mg) (i : Nat) {d : DefA} (e : fns[i]? = some d) : FunD K d.name d.qual d.params d.body d.scope d.dfl d.kwd d.addr (fdOf K d.addr) := by
  have q := List.all_eq_true.mp (He.ba (He.ba (He.ba T.ok).2).2).1 d (List.mem_of_getElem? e)
  have z : (fns.map fun d => fnA K d.addr)[i]? = (fns.map DefA.val)[i]? := by rw [T.fn]
  rw [List.getElem?_map, List.getElem?_map, e] at z
  exact DefA.funD (Option.some.inj z) q
theorem Txt.fact (T : Txt K mg) (i : Nat) {f : PySem.W.Frag → Bool} (e : facts[i]? = some f) : f K = true :=
  List.all_eq_true.mp (He.ba (He.ba (He.ba T.ok).2).2).2 f (List.mem_of_getElem? e)
theorem clsB_ok {C : Addr} (c : clsB C K = true) : Cls K C := by
  obtain ⟨h1, c⟩ := He.ba c
  obtain ⟨h2, c⟩ := He.ba c
  obtain ⟨h3, h4⟩ := He.ba c
  exact ⟨h1, h2, h3, He.eqO_ok h4⟩
theorem makB_ok {C i : Addr} (c : makB C i K = true) : Mk K C i := by
  obtain ⟨h1, c⟩ := He.ba c
  obtain ⟨h2, c⟩ := He.ba c
  obtain ⟨h3, h4⟩ := He.ba c
  exact ⟨h1, He.eqO_ok h2, h3, h4⟩
theorem proB_ok {C p g : Addr} {f : Str} (c : proB C f p g K = true) : PropOf K C f p g := by
  obtain ⟨h1, c⟩ := He.ba c
  obtain ⟨h2, c⟩ := He.ba c
  obtain ⟨h3, h4⟩ := He.ba c
  refine ⟨He.eqO_ok h1, He.eqO_ok h2, of_decide_eq_true h3, ?_⟩
  split at h4
  · rename_i h r e
    have z : h = g := of_decide_eq_true h4
    exact ⟨r, by rw [e, z]⟩
  · cases h4
theorem tyX_ins {H : Hp} {a C dx : Addr} {fs : List (Str × V)} (e : H a = some (.ins C dx fs)) (c : Cls K C) (i : isiB C K = true) : TyX K H (.ref a) (.ref C) := by
  obtain ⟨h1, i⟩ := He.ba i
  obtain ⟨h2, i⟩ := He.ba i
  obtain ⟨h3, h4⟩ := He.ba i
  exact .base (.ins e c (He.eqO_ok h1) (He.eqO_ok h2) (of_decide_eq_true h3) (of_decide_eq_true h4))
theorem Txt.v_MOST_LETTERS (T : Txt K mg) : ∃ t, mg "MOST_LETTERS" = some (.int 5 t) := by
  obtain ⟨h, X, N⟩ := T.ns
  exact He.int_ok X N (T.fact 96 (f := intB "MOST_LETTERS" 5) rfl)
theorem Txt.v_MOST_SIZE (T : Txt K mg) : ∃ t, mg "MOST_SIZE" = some (.int 12 t) := by
  obtain ⟨h, X, N⟩ := T.ns
  exact He.int_ok X N (T.fact 97 (f := intB "MOST_SIZE" 12) rfl)
theorem Txt.f_is_whole (T : Txt K mg) : FunD K "is_whole" "is_whole" (defArgs (top 17)) (defBody (top 17)) (defScope (top 17)) [] [] a_is_whole (fdOf K a_is_whole) := T.def_ 0 (d := mkD a_is_whole "is_whole" "is_whole" (top 17) [] []) rfl
theorem Txt.b_is_whole (T : Txt K mg) : Binds K (fdOf K a_is_whole) ["thing", "low", "high"] [] := T.f_is_whole.bindsN fun _ _ _ _ _ _ us hl => match us, hl with | [_, _, _], _ => rfl
theorem Txt.k_is_whole (T : Txt K mg) : PySem.W.keepIn K (.ref a_is_whole) = true := T.f_is_whole.kp
theorem Txt.f_check_letters (T : Txt K mg) : FunD K "check_letters" "check_letters" (defArgs (top 18)) (defBody (top 18)) (defScope (top 18)) [] [] a_check_letters (fdOf K a_check_letters) := T.def_ 1 (d := mkD a_check_letters "check_letters" "check_letters" (top 18) [] []) rfl
theorem Txt.b_check_letters (T : Txt K mg) : Binds K (fdOf K a_check_letters) ["letters"] [] := T.f_check_letters.bindsN fun _ _ _ _ _ _ us hl => match us, hl with | [_], _ => rfl
theorem Txt.k_check_letters (T : Txt K mg) : PySem.W.keepIn K (.ref a_check_letters) = true := T.f_check_letters.kp
theorem Txt.f_check_number (T : Txt K mg) : FunD K "check_number" "check_number" (defArgs (top 19)) (defBody (top 19)) (defScope (top 19)) [] [] a_check_number (fdOf K a_check_number) := T.def_ 2 (d := mkD a_check_number "check_number" "check_number" (top 19) [] []) rfl
theorem Txt.b_check_number (T : Txt K mg) : Binds K (fdOf K a_check_number) ["number", "most"] [] := T.f_check_number.bindsN fun _ _ _ _ _ _ us hl => match us, hl with | [_, _], _ => rfl
theorem Txt.k_check_number (T : Txt K mg) : PySem.W.keepIn K (.ref a_check_number) = true := T.f_check_number.kp
theorem Txt.f_check_heap (T : Txt K mg) : FunD K "check_heap" "check_heap" (defArgs (top 20)) (defBody (top 20)) (defScope (top 20)) [] [] a_check_heap (fdOf K a_check_heap) := T.def_ 3 (d := mkD a_check_heap "check_heap" "check_heap" (top 20) [] []) rfl
theorem Txt.b_check_heap (T : Txt K mg) : Binds K (fdOf K a_check_heap) ["letters", "heap"] [] := T.f_check_heap.bindsN fun _ _ _ _ _ _ us hl => match us, hl with | [_, _], _ => rfl
theorem Txt.k_check_heap (T : Txt K mg) : PySem.W.keepIn K (.ref a_check_heap) = true := T.f_check_heap.kp
theorem Txt.f_check_heaps (T : Txt K mg) : FunD K "check_heaps" "check_heaps" (defArgs (top 21)) (defBody (top 21)) (defScope (top 21)) [] [] a_check_heaps (fdOf K a_check_heaps) := T.def_ 4 (d := mkD a_check_heaps "check_heaps" "check_heaps" (top 21) [] []) rfl
theorem Txt.b_check_heaps (T : Txt K mg) : Binds K (fdOf K a_check_heaps) ["letters", "heaps"] [] := T.f_check_heaps.bindsN fun _ _ _ _ _ _ us hl => match us, hl with | [_, _], _ => rfl
theorem Txt.k_check_heaps (T : Txt K mg) : PySem.W.keepIn K (.ref a_check_heaps) = true := T.f_check_heaps.kp
theorem Txt.f_check_places (T : Txt K mg) : FunD K "check_places" "check_places" (defArgs (top 22)) (defBody (top 22)) (defScope (top 22)) [] [] a_check_places (fdOf K a_check_places) := T.def_ 5 (d := mkD a_check_places "check_places" "check_places" (top 22) [] []) rfl
theorem Txt.b_check_places (T : Txt K mg) : Binds K (fdOf K a_check_places) ["letters", "places"] [] := T.f_check_places.bindsN fun _ _ _ _ _ _ us hl => match us, hl with | [_, _], _ => rfl
theorem Txt.k_check_places (T : Txt K mg) : PySem.W.keepIn K (.ref a_check_places) = true := T.f_check_places.kp
theorem Txt.f_letters_of (T : Txt K mg) : FunD K "letters_of" "letters_of" (defArgs (top 23)) (defBody (top 23)) (defScope (top 23)) [] [] a_letters_of (fdOf K a_letters_of) := T.def_ 6 (d := mkD a_letters_of "letters_of" "letters_of" (top 23) [] []) rfl
theorem Txt.b_letters_of (T : Txt K mg) : Binds K (fdOf K a_letters_of) ["heap"] [] := T.f_letters_of.bindsN fun _ _ _ _ _ _ us hl => match us, hl with | [_], _ => rfl
theorem Txt.k_letters_of (T : Txt K mg) : PySem.W.keepIn K (.ref a_letters_of) = true := T.f_letters_of.kp
theorem Txt.f_count_ones (T : Txt K mg) : FunD K "count_ones" "count_ones" (defArgs (top 24)) (defBody (top 24)) (defScope (top 24)) [] [] a_count_ones (fdOf K a_count_ones) := T.def_ 7 (d := mkD a_count_ones "count_ones" "count_ones" (top 24) [] []) rfl
theorem Txt.b_count_ones (T : Txt K mg) : Binds K (fdOf K a_count_ones) ["number"] [] := T.f_count_ones.bindsN fun _ _ _ _ _ _ us hl => match us, hl with | [_], _ => rfl
theorem Txt.k_count_ones (T : Txt K mg) : PySem.W.keepIn K (.ref a_count_ones) = true := T.f_count_ones.kp
theorem Txt.f_full_word (T : Txt K mg) : FunD K "full_word" "full_word" (defArgs (top 27)) (defBody (top 27)) (defScope (top 27)) [] [] a_full_word (fdOf K a_full_word) := T.def_ 8 (d := mkD a_full_word "full_word" "full_word" (top 27) [] []) rfl
theorem Txt.b_full_word (T : Txt K mg) : Binds K (fdOf K a_full_word) ["letters"] [] := T.f_full_word.bindsN fun _ _ _ _ _ _ us hl => match us, hl with | [_], _ => rfl
theorem Txt.k_full_word (T : Txt K mg) : PySem.W.keepIn K (.ref a_full_word) = true := T.f_full_word.kp
theorem Txt.f_check_word (T : Txt K mg) : FunD K "check_word" "check_word" (defArgs (top 28)) (defBody (top 28)) (defScope (top 28)) [] [] a_check_word (fdOf K a_check_word) := T.def_ 9 (d := mkD a_check_word "check_word" "check_word" (top 28) [] []) rfl
theorem Txt.b_check_word (T : Txt K mg) : Binds K (fdOf K a_check_word) ["letters", "word"] [] := T.f_check_word.bindsN fun _ _ _ _ _ _ us hl => match us, hl with | [_, _], _ => rfl
theorem Txt.k_check_word (T : Txt K mg) : PySem.W.keepIn K (.ref a_check_word) = true := T.f_check_word.kp
theorem Txt.f_stepped_word (T : Txt K mg) : FunD K "stepped_word" "stepped_word" (defArgs (top 29)) (defBody (top 29)) (defScope (top 29)) [] [] a_stepped_word (fdOf K a_stepped_word) := T.def_ 10 (d := mkD a_stepped_word "stepped_word" "stepped_word" (top 29) [] []) rfl
theorem Txt.b_stepped_word (T : Txt K mg) : Binds K (fdOf K a_stepped_word) ["letters", "word"] [] := T.f_stepped_word.bindsN fun _ _ _ _ _ _ us hl => match us, hl with | [_, _], _ => rfl
theorem Txt.k_stepped_word (T : Txt K mg) : PySem.W.keepIn K (.ref a_stepped_word) = true := T.f_stepped_word.kp
theorem Txt.f_ones_of (T : Txt K mg) : FunD K "ones_of" "ones_of" (defArgs (top 30)) (defBody (top 30)) (defScope (top 30)) [] [] a_ones_of (fdOf K a_ones_of) := T.def_ 11 (d := mkD a_ones_of "ones_of" "ones_of" (top 30) [] []) rfl
theorem Txt.b_ones_of (T : Txt K mg) : Binds K (fdOf K a_ones_of) ["letters", "number"] [] := T.f_ones_of.bindsN fun _ _ _ _ _ _ us hl => match us, hl with | [_, _], _ => rfl
theorem Txt.k_ones_of (T : Txt K mg) : PySem.W.keepIn K (.ref a_ones_of) = true := T.f_ones_of.kp
theorem Txt.f_heap_word (T : Txt K mg) : FunD K "heap_word" "heap_word" (defArgs (top 31)) (defBody (top 31)) (defScope (top 31)) [] [] a_heap_word (fdOf K a_heap_word) := T.def_ 12 (d := mkD a_heap_word "heap_word" "heap_word" (top 31) [] []) rfl
theorem Txt.b_heap_word (T : Txt K mg) : Binds K (fdOf K a_heap_word) ["letters", "heap"] [] := T.f_heap_word.bindsN fun _ _ _ _ _ _ us hl => match us, hl with | [_, _], _ => rfl
theorem Txt.k_heap_word (T : Txt K mg) : PySem.W.keepIn K (.ref a_heap_word) = true := T.f_heap_word.kp
theorem Txt.f_heaps_of (T : Txt K mg) : FunD K "heaps_of" "heaps_of" (defArgs (top 32)) (defBody (top 32)) (defScope (top 32)) [] [] a_heaps_of (fdOf K a_heaps_of) := T.def_ 13 (d := mkD a_heaps_of "heaps_of" "heaps_of" (top 32) [] []) rfl
theorem Txt.b_heaps_of (T : Txt K mg) : Binds K (fdOf K a_heaps_of) ["letters", "word"] [] := T.f_heaps_of.bindsN fun _ _ _ _ _ _ us hl => match us, hl with | [_, _], _ => rfl
theorem Txt.k_heaps_of (T : Txt K mg) : PySem.W.keepIn K (.ref a_heaps_of) = true := T.f_heaps_of.kp
theorem Txt.f_places_of (T : Txt K mg) : FunD K "places_of" "places_of" (defArgs (top 33)) (defBody (top 33)) (defScope (top 33)) [] [] a_places_of (fdOf K a_places_of) := T.def_ 14 (d := mkD a_places_of "places_of" "places_of" (top 33) [] []) rfl
theorem Txt.b_places_of (T : Txt K mg) : Binds K (fdOf K a_places_of) ["letters", "word"] [] := T.f_places_of.bindsN fun _ _ _ _ _ _ us hl => match us, hl with | [_, _], _ => rfl
theorem Txt.k_places_of (T : Txt K mg) : PySem.W.keepIn K (.ref a_places_of) = true := T.f_places_of.kp
theorem Txt.f_marked_word (T : Txt K mg) : FunD K "marked_word" "marked_word" (defArgs (top 34)) (defBody (top 34)) (defScope (top 34)) [] [] a_marked_word (fdOf K a_marked_word) := T.def_ 15 (d := mkD a_marked_word "marked_word" "marked_word" (top 34) [] []) rfl
theorem Txt.b_marked_word (T : Txt K mg) : Binds K (fdOf K a_marked_word) ["letters", "places"] [] := T.f_marked_word.bindsN fun _ _ _ _ _ _ us hl => match us, hl with | [_, _], _ => rfl
theorem Txt.k_marked_word (T : Txt K mg) : PySem.W.keepIn K (.ref a_marked_word) = true := T.f_marked_word.kp
theorem Txt.f_weight_of (T : Txt K mg) : FunD K "weight_of" "weight_of" (defArgs (top 35)) (defBody (top 35)) (defScope (top 35)) [] [] a_weight_of (fdOf K a_weight_of) := T.def_ 16 (d := mkD a_weight_of "weight_of" "weight_of" (top 35) [] []) rfl
theorem Txt.b_weight_of (T : Txt K mg) : Binds K (fdOf K a_weight_of) ["letters", "word"] [] := T.f_weight_of.bindsN fun _ _ _ _ _ _ us hl => match us, hl with | [_, _], _ => rfl
theorem Txt.k_weight_of (T : Txt K mg) : PySem.W.keepIn K (.ref a_weight_of) = true := T.f_weight_of.kp
theorem Txt.f_checked_letters (T : Txt K mg) : FunD K "checked_letters" "checked_letters" (defArgs (top 38)) (defBody (top 38)) (defScope (top 38)) [] [] a_checked_letters (fdOf K a_checked_letters) := T.def_ 17 (d := mkD a_checked_letters "checked_letters" "checked_letters" (top 38) [] []) rfl
theorem Txt.b_checked_letters (T : Txt K mg) : Binds K (fdOf K a_checked_letters) ["letters"] [] := T.f_checked_letters.bindsN fun _ _ _ _ _ _ us hl => match us, hl with | [_], _ => rfl
theorem Txt.k_checked_letters (T : Txt K mg) : PySem.W.keepIn K (.ref a_checked_letters) = true := T.f_checked_letters.kp
theorem Txt.f_checked_heaps (T : Txt K mg) : FunD K "checked_heaps" "checked_heaps" (defArgs (top 39)) (defBody (top 39)) (defScope (top 39)) [] [] a_checked_heaps (fdOf K a_checked_heaps) := T.def_ 18 (d := mkD a_checked_heaps "checked_heaps" "checked_heaps" (top 39) [] []) rfl
theorem Txt.b_checked_heaps (T : Txt K mg) : Binds K (fdOf K a_checked_heaps) ["letters", "heaps"] [] := T.f_checked_heaps.bindsN fun _ _ _ _ _ _ us hl => match us, hl with | [_, _], _ => rfl
theorem Txt.k_checked_heaps (T : Txt K mg) : PySem.W.keepIn K (.ref a_checked_heaps) = true := T.f_checked_heaps.kp
theorem Txt.f_check_some (T : Txt K mg) : FunD K "check_some" "check_some" (defArgs (top 41)) (defBody (top 41)) (defScope (top 41)) [] [] a_check_some (fdOf K a_check_some) := T.def_ 19 (d := mkD a_check_some "check_some" "check_some" (top 41) [] []) rfl
theorem Txt.b_check_some (T : Txt K mg) : Binds K (fdOf K a_check_some) ["choice"] [] := T.f_check_some.bindsN fun _ _ _ _ _ _ us hl => match us, hl with | [_], _ => rfl
theorem Txt.k_check_some (T : Txt K mg) : PySem.W.keepIn K (.ref a_check_some) = true := T.f_check_some.kp
theorem Txt.f_strange_heap (T : Txt K mg) : FunD K "strange_heap" "strange_heap" (defArgs (top 42)) (defBody (top 42)) (defScope (top 42)) [] [] a_strange_heap (fdOf K a_strange_heap) := T.def_ 20 (d := mkD a_strange_heap "strange_heap" "strange_heap" (top 42) [] []) rfl
theorem Txt.b_strange_heap (T : Txt K mg) : Binds K (fdOf K a_strange_heap) ["choice", "word"] [] := T.f_strange_heap.bindsN fun _ _ _ _ _ _ us hl => match us, hl with | [_, _], _ => rfl
theorem Txt.k_strange_heap (T : Txt K mg) : PySem.W.keepIn K (.ref a_strange_heap) = true := T.f_strange_heap.kp
theorem Txt.f_holds (T : Txt K mg) : FunD K "holds" "holds" (defArgs (top 43)) (defBody (top 43)) (defScope (top 43)) [] [] a_holds (fdOf K a_holds) := T.def_ 21 (d := mkD a_holds "holds" "holds" (top 43) [] []) rfl
theorem Txt.b_holds (T : Txt K mg) : Binds K (fdOf K a_holds) ["choice", "word"] [] := T.f_holds.bindsN fun _ _ _ _ _ _ us hl => match us, hl with | [_, _], _ => rfl
theorem Txt.k_holds (T : Txt K mg) : PySem.W.keepIn K (.ref a_holds) = true := T.f_holds.kp
theorem Txt.f_all_words (T : Txt K mg) : FunD K "all_words" "all_words" (defArgs (top 44)) (defBody (top 44)) (defScope (top 44)) [] [] a_all_words (fdOf K a_all_words) := T.def_ 22 (d := mkD a_all_words "all_words" "all_words" (top 44) [] []) rfl
theorem Txt.b_all_words (T : Txt K mg) : Binds K (fdOf K a_all_words) ["choice"] [] := T.f_all_words.bindsN fun _ _ _ _ _ _ us hl => match us, hl with | [_], _ => rfl
theorem Txt.k_all_words (T : Txt K mg) : PySem.W.keepIn K (.ref a_all_words) = true := T.f_all_words.kp
theorem Txt.f_first_places (T : Txt K mg) : FunD K "first_places" "first_places" (defArgs (top 46)) (defBody (top 46)) (defScope (top 46)) [] [] a_first_places (fdOf K a_first_places) := T.def_ 23 (d := mkD a_first_places "first_places" "first_places" (top 46) [] []) rfl
theorem Txt.b_first_places (T : Txt K mg) : Binds K (fdOf K a_first_places) ["letters", "heap"] [] := T.f_first_places.bindsN fun _ _ _ _ _ _ us hl => match us, hl with | [_, _], _ => rfl
theorem Txt.k_first_places (T : Txt K mg) : PySem.W.keepIn K (.ref a_first_places) = true := T.f_first_places.kp
theorem Txt.f_votes_for (T : Txt K mg) : FunD K "votes_for" "votes_for" (defArgs (top 47)) (defBody (top 47)) (defScope (top 47)) [] [] a_votes_for (fdOf K a_votes_for) := T.def_ 24 (d := mkD a_votes_for "votes_for" "votes_for" (top 47) [] []) rfl
theorem Txt.b_votes_for (T : Txt K mg) : Binds K (fdOf K a_votes_for) ["letters", "word", "heap"] [] := T.f_votes_for.bindsN fun _ _ _ _ _ _ us hl => match us, hl with | [_, _, _], _ => rfl
theorem Txt.k_votes_for (T : Txt K mg) : PySem.W.keepIn K (.ref a_votes_for) = true := T.f_votes_for.kp
theorem Txt.f_spoilt_votes (T : Txt K mg) : FunD K "spoilt_votes" "spoilt_votes" (defArgs (top 48)) (defBody (top 48)) (defScope (top 48)) [] [] a_spoilt_votes (fdOf K a_spoilt_votes) := T.def_ 25 (d := mkD a_spoilt_votes "spoilt_votes" "spoilt_votes" (top 48) [] []) rfl
theorem Txt.b_spoilt_votes (T : Txt K mg) : Binds K (fdOf K a_spoilt_votes) ["letters", "places", "heap"] [] := T.f_spoilt_votes.bindsN fun _ _ _ _ _ _ us hl => match us, hl with | [_, _, _], _ => rfl
theorem Txt.k_spoilt_votes (T : Txt K mg) : PySem.W.keepIn K (.ref a_spoilt_votes) = true := T.f_spoilt_votes.kp
theorem Txt.f_reads_sure (T : Txt K mg) : FunD K "reads_sure" "reads_sure" (defArgs (top 57)) (defBody (top 57)) (defScope (top 57)) [] [] a_reads_sure (fdOf K a_reads_sure) := T.def_ 26 (d := mkD a_reads_sure "reads_sure" "reads_sure" (top 57) [] []) rfl
theorem Txt.b_reads_sure (T : Txt K mg) : Binds K (fdOf K a_reads_sure) ["choice"] [] := T.f_reads_sure.bindsN fun _ _ _ _ _ _ us hl => match us, hl with | [_], _ => rfl
theorem Txt.k_reads_sure (T : Txt K mg) : PySem.W.keepIn K (.ref a_reads_sure) = true := T.f_reads_sure.kp
theorem Txt.f_voting_order (T : Txt K mg) : FunD K "voting_order" "voting_order" (defArgs (top 58)) (defBody (top 58)) (defScope (top 58)) [] [] a_voting_order (fdOf K a_voting_order) := T.def_ 27 (d := mkD a_voting_order "voting_order" "voting_order" (top 58) [] []) rfl
theorem Txt.b_voting_order (T : Txt K mg) : Binds K (fdOf K a_voting_order) ["choice"] [] := T.f_voting_order.bindsN fun _ _ _ _ _ _ us hl => match us, hl with | [_], _ => rfl
theorem Txt.k_voting_order (T : Txt K mg) : PySem.W.keepIn K (.ref a_voting_order) = true := T.f_voting_order.kp
theorem Txt.f_read_steps (T : Txt K mg) : FunD K "read_steps" "read_steps" (defArgs (top 59)) (defBody (top 59)) (defScope (top 59)) [] [] a_read_steps (fdOf K a_read_steps) := T.def_ 28 (d := mkD a_read_steps "read_steps" "read_steps" (top 59) [] []) rfl
theorem Txt.b_read_steps (T : Txt K mg) : Binds K (fdOf K a_read_steps) ["choice", "word"] [] := T.f_read_steps.bindsN fun _ _ _ _ _ _ us hl => match us, hl with | [_, _], _ => rfl
theorem Txt.k_read_steps (T : Txt K mg) : PySem.W.keepIn K (.ref a_read_steps) = true := T.f_read_steps.kp
theorem Txt.f_checked_most (T : Txt K mg) : FunD K "checked_most" "checked_most" (defArgs (top 60)) (defBody (top 60)) (defScope (top 60)) [] [] a_checked_most (fdOf K a_checked_most) := T.def_ 29 (d := mkD a_checked_most "checked_most" "checked_most" (top 60) [] []) rfl
theorem Txt.b_checked_most (T : Txt K mg) : Binds K (fdOf K a_checked_most) ["choice", "most"] [] := T.f_checked_most.bindsN fun _ _ _ _ _ _ us hl => match us, hl with | [_, _], _ => rfl
theorem Txt.k_checked_most (T : Txt K mg) : PySem.W.keepIn K (.ref a_checked_most) = true := T.f_checked_most.kp
theorem Txt.f_read_votes (T : Txt K mg) : FunD K "read_votes" "read_votes" (defArgs (top 61)) (defBody (top 61)) (defScope (top 61)) [] [("most", .non)] a_read_votes (fdOf K a_read_votes) := T.def_ 30 (d := mkD a_read_votes "read_votes" "read_votes" (top 61) [] [("most", .non)]) rfl
theorem Txt.k_read_votes (T : Txt K mg) : PySem.W.keepIn K (.ref a_read_votes) = true := T.f_read_votes.kp
theorem Txt.f_told_fault (T : Txt K mg) : FunD K "told_fault" "told_fault" (defArgs (top 62)) (defBody (top 62)) (defScope (top 62)) [] [] a_told_fault (fdOf K a_told_fault) := T.def_ 31 (d := mkD a_told_fault "told_fault" "told_fault" (top 62) [] []) rfl
theorem Txt.b_told_fault (T : Txt K mg) : Binds K (fdOf K a_told_fault) ["choice", "word", "claimed"] [] := T.f_told_fault.bindsN fun _ _ _ _ _ _ us hl => match us, hl with | [_, _, _], _ => rfl
theorem Txt.k_told_fault (T : Txt K mg) : PySem.W.keepIn K (.ref a_told_fault) = true := T.f_told_fault.kp
theorem Txt.f_nearest_words (T : Txt K mg) : FunD K "nearest_words" "nearest_words" (defArgs (top 63)) (defBody (top 63)) (defScope (top 63)) [] [] a_nearest_words (fdOf K a_nearest_words) := T.def_ 32 (d := mkD a_nearest_words "nearest_words" "nearest_words" (top 63) [] []) rfl
theorem Txt.b_nearest_words (T : Txt K mg) : Binds K (fdOf K a_nearest_words) ["choice", "word"] [] := T.f_nearest_words.bindsN fun _ _ _ _ _ _ us hl => match us, hl with | [_, _], _ => rfl
theorem Txt.k_nearest_words (T : Txt K mg) : PySem.W.keepIn K (.ref a_nearest_words) = true := T.f_nearest_words.kp
theorem Txt.f_two_near (T : Txt K mg) : FunD K "two_near" "two_near" (defArgs (top 64)) (defBody (top 64)) (defScope (top 64)) [.int 0] [] a_two_near (fdOf K a_two_near) := T.def_ 33 (d := mkD a_two_near "two_near" "two_near" (top 64) [.int 0] []) rfl
theorem Txt.k_two_near (T : Txt K mg) : PySem.W.keepIn K (.ref a_two_near) = true := T.f_two_near.kp
theorem Txt.f_descents_of (T : Txt K mg) : FunD K "descents_of" "descents_of" (defArgs (top 66)) (defBody (top 66)) (defScope (top 66)) [] [] a_descents_of (fdOf K a_descents_of) := T.def_ 34 (d := mkD a_descents_of "descents_of" "descents_of" (top 66) [] []) rfl
theorem Txt.b_descents_of (T : Txt K mg) : Binds K (fdOf K a_descents_of) ["heap"] [] := T.f_descents_of.bindsN fun _ _ _ _ _ _ us hl => match us, hl with | [_], _ => rfl
theorem Txt.k_descents_of (T : Txt K mg) : PySem.W.keepIn K (.ref a_descents_of) = true := T.f_descents_of.kp
theorem Txt.f_closed_gap (T : Txt K mg) : FunD K "closed_gap" "closed_gap" (defArgs (top 68)) (defBody (top 68)) (defScope (top 68)) [] [] a_closed_gap (fdOf K a_closed_gap) := T.def_ 35 (d := mkD a_closed_gap "closed_gap" "closed_gap" (top 68) [] []) rfl
theorem Txt.b_closed_gap (T : Txt K mg) : Binds K (fdOf K a_closed_gap) ["choice"] [] := T.f_closed_gap.bindsN fun _ _ _ _ _ _ us hl => match us, hl with | [_], _ => rfl
theorem Txt.k_closed_gap (T : Txt K mg) : PySem.W.keepIn K (.ref a_closed_gap) = true := T.f_closed_gap.kp
theorem Txt.f_first_gap (T : Txt K mg) : FunD K "first_gap" "first_gap" (defArgs (top 69)) (defBody (top 69)) (defScope (top 69)) [] [] a_first_gap (fdOf K a_first_gap) := T.def_ 36 (d := mkD a_first_gap "first_gap" "first_gap" (top 69) [] []) rfl
theorem Txt.b_first_gap (T : Txt K mg) : Binds K (fdOf K a_first_gap) ["choice"] [] := T.f_first_gap.bindsN fun _ _ _ _ _ _ us hl => match us, hl with | [_], _ => rfl
theorem Txt.k_first_gap (T : Txt K mg) : PySem.W.keepIn K (.ref a_first_gap) = true := T.f_first_gap.kp
theorem Txt.f_check_closed (T : Txt K mg) : FunD K "check_closed" "check_closed" (defArgs (top 70)) (defBody (top 70)) (defScope (top 70)) [] [] a_check_closed (fdOf K a_check_closed) := T.def_ 37 (d := mkD a_check_closed "check_closed" "check_closed" (top 70) [] []) rfl
theorem Txt.b_check_closed (T : Txt K mg) : Binds K (fdOf K a_check_closed) ["choice"] [] := T.f_check_closed.bindsN fun _ _ _ _ _ _ us hl => match us, hl with | [_], _ => rfl
theorem Txt.k_check_closed (T : Txt K mg) : PySem.W.keepIn K (.ref a_check_closed) = true := T.f_check_closed.kp
theorem Txt.f_check_falling (T : Txt K mg) : FunD K "check_falling" "check_falling" (defArgs (top 71)) (defBody (top 71)) (defScope (top 71)) [] [] a_check_falling (fdOf K a_check_falling) := T.def_ 38 (d := mkD a_check_falling "check_falling" "check_falling" (top 71) [] []) rfl
theorem Txt.b_check_falling (T : Txt K mg) : Binds K (fdOf K a_check_falling) ["choice"] [] := T.f_check_falling.bindsN fun _ _ _ _ _ _ us hl => match us, hl with | [_], _ => rfl
theorem Txt.k_check_falling (T : Txt K mg) : PySem.W.keepIn K (.ref a_check_falling) = true := T.f_check_falling.kp
theorem Txt.f_is_form (T : Txt K mg) : FunD K "is_form" "is_form" (defArgs (top 73)) (defBody (top 73)) (defScope (top 73)) [] [] a_is_form (fdOf K a_is_form) := T.def_ 39 (d := mkD a_is_form "is_form" "is_form" (top 73) [] []) rfl
theorem Txt.b_is_form (T : Txt K mg) : Binds K (fdOf K a_is_form) ["letters", "thing"] [] := T.f_is_form.bindsN fun _ _ _ _ _ _ us hl => match us, hl with | [_, _], _ => rfl
theorem Txt.k_is_form (T : Txt K mg) : PySem.W.keepIn K (.ref a_is_form) = true := T.f_is_form.kp
theorem Txt.f_lots_sums (T : Txt K mg) : FunD K "lots_sums" "lots_sums" (defArgs (top 74)) (defBody (top 74)) (defScope (top 74)) [] [] a_lots_sums (fdOf K a_lots_sums) := T.def_ 40 (d := mkD a_lots_sums "lots_sums" "lots_sums" (top 74) [] []) rfl
theorem Txt.b_lots_sums (T : Txt K mg) : Binds K (fdOf K a_lots_sums) ["lots"] [] := T.f_lots_sums.bindsN fun _ _ _ _ _ _ us hl => match us, hl with | [_], _ => rfl
theorem Txt.k_lots_sums (T : Txt K mg) : PySem.W.keepIn K (.ref a_lots_sums) = true := T.f_lots_sums.kp
theorem Txt.f_check_forms (T : Txt K mg) : FunD K "check_forms" "check_forms" (defArgs (top 75)) (defBody (top 75)) (defScope (top 75)) [] [] a_check_forms (fdOf K a_check_forms) := T.def_ 41 (d := mkD a_check_forms "check_forms" "check_forms" (top 75) [] []) rfl
theorem Txt.b_check_forms (T : Txt K mg) : Binds K (fdOf K a_check_forms) ["letters", "forms"] [] := T.f_check_forms.bindsN fun _ _ _ _ _ _ us hl => match us, hl with | [_, _], _ => rfl
theorem Txt.k_check_forms (T : Txt K mg) : PySem.W.keepIn K (.ref a_check_forms) = true := T.f_check_forms.kp
theorem Txt.f_values_of (T : Txt K mg) : FunD K "values_of" "values_of" (defArgs (top 76)) (defBody (top 76)) (defScope (top 76)) [] [] a_values_of (fdOf K a_values_of) := T.def_ 42 (d := mkD a_values_of "values_of" "values_of" (top 76) [] []) rfl
theorem Txt.b_values_of (T : Txt K mg) : Binds K (fdOf K a_values_of) ["letters", "form"] [] := T.f_values_of.bindsN fun _ _ _ _ _ _ us hl => match us, hl with | [_, _], _ => rfl
theorem Txt.k_values_of (T : Txt K mg) : PySem.W.keepIn K (.ref a_values_of) = true := T.f_values_of.kp
theorem Txt.f_flat_word (T : Txt K mg) : FunD K "flat_word" "flat_word" (defArgs (top 77)) (defBody (top 77)) (defScope (top 77)) [] [] a_flat_word (fdOf K a_flat_word) := T.def_ 43 (d := mkD a_flat_word "flat_word" "flat_word" (top 77) [] []) rfl
theorem Txt.b_flat_word (T : Txt K mg) : Binds K (fdOf K a_flat_word) ["letters", "forms"] [] := T.f_flat_word.bindsN fun _ _ _ _ _ _ us hl => match us, hl with | [_, _], _ => rfl
theorem Txt.k_flat_word (T : Txt K mg) : PySem.W.keepIn K (.ref a_flat_word) = true := T.f_flat_word.kp
theorem Txt.f_least_weight (T : Txt K mg) : FunD K "least_weight" "least_weight" (defArgs (top 79)) (defBody (top 79)) (defScope (top 79)) [] [] a_least_weight (fdOf K a_least_weight) := T.def_ 44 (d := mkD a_least_weight "least_weight" "least_weight" (top 79) [] []) rfl
theorem Txt.b_least_weight (T : Txt K mg) : Binds K (fdOf K a_least_weight) ["choice"] [] := T.f_least_weight.bindsN fun _ _ _ _ _ _ us hl => match us, hl with | [_], _ => rfl
theorem Txt.k_least_weight (T : Txt K mg) : PySem.W.keepIn K (.ref a_least_weight) = true := T.f_least_weight.kp
theorem Txt.f_free_letters (T : Txt K mg) : FunD K "free_letters" "free_letters" (defArgs (top 80)) (defBody (top 80)) (defScope (top 80)) [] [] a_free_letters (fdOf K a_free_letters) := T.def_ 45 (d := mkD a_free_letters "free_letters" "free_letters" (top 80) [] []) rfl
theorem Txt.b_free_letters (T : Txt K mg) : Binds K (fdOf K a_free_letters) ["heap", "letter"] [] := T.f_free_letters.bindsN fun _ _ _ _ _ _ us hl => match us, hl with | [_, _], _ => rfl
theorem Txt.k_free_letters (T : Txt K mg) : PySem.W.keepIn K (.ref a_free_letters) = true := T.f_free_letters.kp
theorem Txt.f_free_bits (T : Txt K mg) : FunD K "free_bits" "free_bits" (defArgs (top 81)) (defBody (top 81)) (defScope (top 81)) [] [] a_free_bits (fdOf K a_free_bits) := T.def_ 46 (d := mkD a_free_bits "free_bits" "free_bits" (top 81) [] []) rfl
theorem Txt.b_free_bits (T : Txt K mg) : Binds K (fdOf K a_free_bits) ["heap"] [] := T.f_free_bits.bindsN fun _ _ _ _ _ _ us hl => match us, hl with | [_], _ => rfl
theorem Txt.k_free_bits (T : Txt K mg) : PySem.W.keepIn K (.ref a_free_bits) = true := T.f_free_bits.kp
theorem Txt.f_check_ground (T : Txt K mg) : FunD K "check_ground" "check_ground" (defArgs (top 82)) (defBody (top 82)) (defScope (top 82)) [] [] a_check_ground (fdOf K a_check_ground) := T.def_ 47 (d := mkD a_check_ground "check_ground" "check_ground" (top 82) [] []) rfl
theorem Txt.b_check_ground (T : Txt K mg) : Binds K (fdOf K a_check_ground) ["choice"] [] := T.f_check_ground.bindsN fun _ _ _ _ _ _ us hl => match us, hl with | [_], _ => rfl
theorem Txt.k_check_ground (T : Txt K mg) : PySem.W.keepIn K (.ref a_check_ground) = true := T.f_check_ground.kp
theorem Txt.f_top_heaps (T : Txt K mg) : FunD K "top_heaps" "top_heaps" (defArgs (top 83)) (defBody (top 83)) (defScope (top 83)) [] [] a_top_heaps (fdOf K a_top_heaps) := T.def_ 48 (d := mkD a_top_heaps "top_heaps" "top_heaps" (top 83) [] []) rfl
theorem Txt.b_top_heaps (T : Txt K mg) : Binds K (fdOf K a_top_heaps) ["choice"] [] := T.f_top_heaps.bindsN fun _ _ _ _ _ _ us hl => match us, hl with | [_], _ => rfl
theorem Txt.k_top_heaps (T : Txt K mg) : PySem.W.keepIn K (.ref a_top_heaps) = true := T.f_top_heaps.kp
theorem Txt.f_least_count (T : Txt K mg) : FunD K "least_count" "least_count" (defArgs (top 84)) (defBody (top 84)) (defScope (top 84)) [] [] a_least_count (fdOf K a_least_count) := T.def_ 49 (d := mkD a_least_count "least_count" "least_count" (top 84) [] []) rfl
theorem Txt.b_least_count (T : Txt K mg) : Binds K (fdOf K a_least_count) ["choice"] [] := T.f_least_count.bindsN fun _ _ _ _ _ _ us hl => match us, hl with | [_], _ => rfl
theorem Txt.k_least_count (T : Txt K mg) : PySem.W.keepIn K (.ref a_least_count) = true := T.f_least_count.kp
theorem Txt.f_forms_by_bits (T : Txt K mg) : FunD K "forms_by_bits" "forms_by_bits" (defArgs (top 85)) (defBody (top 85)) (defScope (top 85)) [] [] a_forms_by_bits (fdOf K a_forms_by_bits) := T.def_ 50 (d := mkD a_forms_by_bits "forms_by_bits" "forms_by_bits" (top 85) [] []) rfl
theorem Txt.b_forms_by_bits (T : Txt K mg) : Binds K (fdOf K a_forms_by_bits) ["heap", "bits"] [] := T.f_forms_by_bits.bindsN fun _ _ _ _ _ _ us hl => match us, hl with | [_, _], _ => rfl
theorem Txt.k_forms_by_bits (T : Txt K mg) : PySem.W.keepIn K (.ref a_forms_by_bits) = true := T.f_forms_by_bits.kp
theorem Txt.f_least_forms (T : Txt K mg) : FunD K "least_forms" "least_forms" (defArgs (top 86)) (defBody (top 86)) (defScope (top 86)) [] [] a_least_forms (fdOf K a_least_forms) := T.def_ 51 (d := mkD a_least_forms "least_forms" "least_forms" (top 86) [] []) rfl
theorem Txt.b_least_forms (T : Txt K mg) : Binds K (fdOf K a_least_forms) ["choice", "number"] [] := T.f_least_forms.bindsN fun _ _ _ _ _ _ us hl => match us, hl with | [_, _], _ => rfl
theorem Txt.k_least_forms (T : Txt K mg) : PySem.W.keepIn K (.ref a_least_forms) = true := T.f_least_forms.kp
theorem Txt.f_least_at (T : Txt K mg) : FunD K "least_at" "least_at" (defArgs (top 87)) (defBody (top 87)) (defScope (top 87)) [] [] a_least_at (fdOf K a_least_at) := T.def_ 52 (d := mkD a_least_at "least_at" "least_at" (top 87) [] []) rfl
theorem Txt.b_least_at (T : Txt K mg) : Binds K (fdOf K a_least_at) ["choice", "number"] [] := T.f_least_at.bindsN fun _ _ _ _ _ _ us hl => match us, hl with | [_, _], _ => rfl
theorem Txt.k_least_at (T : Txt K mg) : PySem.W.keepIn K (.ref a_least_at) = true := T.f_least_at.kp
theorem Txt.f_is_sure (T : Txt K mg) : FunD K "is_sure" "is_sure" (defArgs (top 90)) (defBody (top 90)) (defScope (top 90)) [] [] a_is_sure (fdOf K a_is_sure) := T.def_ 53 (d := mkD a_is_sure "is_sure" "is_sure" (top 90) [] []) rfl
theorem Txt.b_is_sure (T : Txt K mg) : Binds K (fdOf K a_is_sure) ["choice", "wrong", "lost"] [] := T.f_is_sure.bindsN fun _ _ _ _ _ _ us hl => match us, hl with | [_, _, _], _ => rfl
theorem Txt.k_is_sure (T : Txt K mg) : PySem.W.keepIn K (.ref a_is_sure) = true := T.f_is_sure.kp
theorem Txt.f_read_lossy (T : Txt K mg) : FunD K "read_lossy" "read_lossy" (defArgs (top 91)) (defBody (top 91)) (defScope (top 91)) [] [] a_read_lossy (fdOf K a_read_lossy) := T.def_ 54 (d := mkD a_read_lossy "read_lossy" "read_lossy" (top 91) [] []) rfl
theorem Txt.b_read_lossy (T : Txt K mg) : Binds K (fdOf K a_read_lossy) ["choice", "word", "lost"] [] := T.f_read_lossy.bindsN fun _ _ _ _ _ _ us hl => match us, hl with | [_, _, _], _ => rfl
theorem Txt.k_read_lossy (T : Txt K mg) : PySem.W.keepIn K (.ref a_read_lossy) = true := T.f_read_lossy.kp
theorem Txt.f__law_mix (T : Txt K mg) : FunD K "_law_mix" "_law_mix" (defArgs (top 93)) (defBody (top 93)) (defScope (top 93)) [] [] a_law_mix (fdOf K a_law_mix) := T.def_ 55 (d := mkD a_law_mix "_law_mix" "_law_mix" (top 93) [] []) rfl
theorem Txt.b__law_mix (T : Txt K mg) : Binds K (fdOf K a_law_mix) ["_law_number", "_law_turn"] [] := T.f__law_mix.bindsN fun _ _ _ _ _ _ us hl => match us, hl with | [_, _], _ => rfl
theorem Txt.k__law_mix (T : Txt K mg) : PySem.W.keepIn K (.ref a_law_mix) = true := T.f__law_mix.kp
theorem Txt.f__law_hand (T : Txt K mg) : FunD K "_law_hand" "_law_hand" (defArgs (top 94)) (defBody (top 94)) (defScope (top 94)) [] [] a_law_hand (fdOf K a_law_hand) := T.def_ 56 (d := mkD a_law_hand "_law_hand" "_law_hand" (top 94) [] []) rfl
theorem Txt.b__law_hand (T : Txt K mg) : Binds K (fdOf K a_law_hand) ["_law_script"] [] := T.f__law_hand.bindsN fun _ _ _ _ _ _ us hl => match us, hl with | [_], _ => rfl
theorem Txt.k__law_hand (T : Txt K mg) : PySem.W.keepIn K (.ref a_law_hand) = true := T.f__law_hand.kp
theorem Txt.f__law_draw (T : Txt K mg) : FunD K "_law_draw" "_law_draw" (defArgs (top 95)) (defBody (top 95)) (defScope (top 95)) [] [] a_law_draw (fdOf K a_law_draw) := T.def_ 57 (d := mkD a_law_draw "_law_draw" "_law_draw" (top 95) [] []) rfl
theorem Txt.b__law_draw (T : Txt K mg) : Binds K (fdOf K a_law_draw) ["_law_hand_here", "_law_many"] [] := T.f__law_draw.bindsN fun _ _ _ _ _ _ us hl => match us, hl with | [_, _], _ => rfl
theorem Txt.k__law_draw (T : Txt K mg) : PySem.W.keepIn K (.ref a_law_draw) = true := T.f__law_draw.kp
theorem Txt.f__law_wide (T : Txt K mg) : FunD K "_law_wide" "_law_wide" (defArgs (top 96)) (defBody (top 96)) (defScope (top 96)) [] [] a_law_wide (fdOf K a_law_wide) := T.def_ 58 (d := mkD a_law_wide "_law_wide" "_law_wide" (top 96) [] []) rfl
theorem Txt.b__law_wide (T : Txt K mg) : Binds K (fdOf K a_law_wide) ["_law_hand_here", "_law_bits"] [] := T.f__law_wide.bindsN fun _ _ _ _ _ _ us hl => match us, hl with | [_, _], _ => rfl
theorem Txt.k__law_wide (T : Txt K mg) : PySem.W.keepIn K (.ref a_law_wide) = true := T.f__law_wide.kp
theorem Txt.f__law_is_int (T : Txt K mg) : FunD K "_law_is_int" "_law_is_int" (defArgs (top 97)) (defBody (top 97)) (defScope (top 97)) [] [] a_law_is_int (fdOf K a_law_is_int) := T.def_ 59 (d := mkD a_law_is_int "_law_is_int" "_law_is_int" (top 97) [] []) rfl
theorem Txt.b__law_is_int (T : Txt K mg) : Binds K (fdOf K a_law_is_int) ["_law_thing", "_law_low", "_law_high"] [] := T.f__law_is_int.bindsN fun _ _ _ _ _ _ us hl => match us, hl with | [_, _, _], _ => rfl
theorem Txt.k__law_is_int (T : Txt K mg) : PySem.W.keepIn K (.ref a_law_is_int) = true := T.f__law_is_int.kp
theorem Txt.f__law_ones (T : Txt K mg) : FunD K "_law_ones" "_law_ones" (defArgs (top 98)) (defBody (top 98)) (defScope (top 98)) [] [] a_law_ones (fdOf K a_law_ones) := T.def_ 60 (d := mkD a_law_ones "_law_ones" "_law_ones" (top 98) [] []) rfl
theorem Txt.b__law_ones (T : Txt K mg) : Binds K (fdOf K a_law_ones) ["_law_number"] [] := T.f__law_ones.bindsN fun _ _ _ _ _ _ us hl => match us, hl with | [_], _ => rfl
theorem Txt.k__law_ones (T : Txt K mg) : PySem.W.keepIn K (.ref a_law_ones) = true := T.f__law_ones.kp
theorem Txt.f__law_heap_word (T : Txt K mg) : FunD K "_law_heap_word" "_law_heap_word" (defArgs (top 99)) (defBody (top 99)) (defScope (top 99)) [] [] a_law_heap_word (fdOf K a_law_heap_word) := T.def_ 61 (d := mkD a_law_heap_word "_law_heap_word" "_law_heap_word" (top 99) [] []) rfl
theorem Txt.b__law_heap_word (T : Txt K mg) : Binds K (fdOf K a_law_heap_word) ["_law_m", "_law_heap"] [] := T.f__law_heap_word.bindsN fun _ _ _ _ _ _ us hl => match us, hl with | [_, _], _ => rfl
theorem Txt.k__law_heap_word (T : Txt K mg) : PySem.W.keepIn K (.ref a_law_heap_word) = true := T.f__law_heap_word.kp
theorem Txt.f__law_is_below (T : Txt K mg) : FunD K "_law_is_below" "_law_is_below" (defArgs (top 100)) (defBody (top 100)) (defScope (top 100)) [] [] a_law_is_below (fdOf K a_law_is_below) := T.def_ 62 (d := mkD a_law_is_below "_law_is_below" "_law_is_below" (top 100) [] []) rfl
theorem Txt.b__law_is_below (T : Txt K mg) : Binds K (fdOf K a_law_is_below) ["_law_f", "_law_g"] [] := T.f__law_is_below.bindsN fun _ _ _ _ _ _ us hl => match us, hl with | [_, _], _ => rfl
theorem Txt.k__law_is_below (T : Txt K mg) : PySem.W.keepIn K (.ref a_law_is_below) = true := T.f__law_is_below.kp
theorem Txt.f__law_falling (T : Txt K mg) : FunD K "_law_falling" "_law_falling" (defArgs (top 101)) (defBody (top 101)) (defScope (top 101)) [] [] a_law_falling (fdOf K a_law_falling) := T.def_ 63 (d := mkD a_law_falling "_law_falling" "_law_falling" (top 101) [] []) rfl
theorem Txt.b__law_falling (T : Txt K mg) : Binds K (fdOf K a_law_falling) ["_law_m", "_law_seeds_here"] [] := T.f__law_falling.bindsN fun _ _ _ _ _ _ us hl => match us, hl with | [_, _], _ => rfl
theorem Txt.k__law_falling (T : Txt K mg) : PySem.W.keepIn K (.ref a_law_falling) = true := T.f__law_falling.kp
theorem Txt.f__law_closed (T : Txt K mg) : FunD K "_law_closed" "_law_closed" (defArgs (top 102)) (defBody (top 102)) (defScope (top 102)) [] [] a_law_closed (fdOf K a_law_closed) := T.def_ 64 (d := mkD a_law_closed "_law_closed" "_law_closed" (top 102) [] []) rfl
theorem Txt.b__law_closed (T : Txt K mg) : Binds K (fdOf K a_law_closed) ["_law_m", "_law_seeds_here"] [] := T.f__law_closed.bindsN fun _ _ _ _ _ _ us hl => match us, hl with | [_, _], _ => rfl
theorem Txt.k__law_closed (T : Txt K mg) : PySem.W.keepIn K (.ref a_law_closed) = true := T.f__law_closed.kp
theorem Txt.f__law_seeds (T : Txt K mg) : FunD K "_law_seeds" "_law_seeds" (defArgs (top 103)) (defBody (top 103)) (defScope (top 103)) [] [] a_law_seeds (fdOf K a_law_seeds) := T.def_ 65 (d := mkD a_law_seeds "_law_seeds" "_law_seeds" (top 103) [] []) rfl
theorem Txt.b__law_seeds (T : Txt K mg) : Binds K (fdOf K a_law_seeds) ["_law_hand_here", "_law_m"] [] := T.f__law_seeds.bindsN fun _ _ _ _ _ _ us hl => match us, hl with | [_, _], _ => rfl
theorem Txt.k__law_seeds (T : Txt K mg) : PySem.W.keepIn K (.ref a_law_seeds) = true := T.f__law_seeds.kp
theorem Txt.f__law_choice (T : Txt K mg) : FunD K "_law_choice" "_law_choice" (defArgs (top 104)) (defBody (top 104)) (defScope (top 104)) [] [] a_law_choice (fdOf K a_law_choice) := T.def_ 66 (d := mkD a_law_choice "_law_choice" "_law_choice" (top 104) [] []) rfl
theorem Txt.b__law_choice (T : Txt K mg) : Binds K (fdOf K a_law_choice) ["_law_hand_here", "_law_m"] [] := T.f__law_choice.bindsN fun _ _ _ _ _ _ us hl => match us, hl with | [_, _], _ => rfl
theorem Txt.k__law_choice (T : Txt K mg) : PySem.W.keepIn K (.ref a_law_choice) = true := T.f__law_choice.kp
theorem Txt.f__law_any_word (T : Txt K mg) : FunD K "_law_any_word" "_law_any_word" (defArgs (top 105)) (defBody (top 105)) (defScope (top 105)) [] [] a_law_any_word (fdOf K a_law_any_word) := T.def_ 67 (d := mkD a_law_any_word "_law_any_word" "_law_any_word" (top 105) [] []) rfl
theorem Txt.b__law_any_word (T : Txt K mg) : Binds K (fdOf K a_law_any_word) ["_law_hand_here", "_law_m"] [] := T.f__law_any_word.bindsN fun _ _ _ _ _ _ us hl => match us, hl with | [_, _], _ => rfl
theorem Txt.k__law_any_word (T : Txt K mg) : PySem.W.keepIn K (.ref a_law_any_word) = true := T.f__law_any_word.kp
theorem Txt.f__law_spots (T : Txt K mg) : FunD K "_law_spots" "_law_spots" (defArgs (top 106)) (defBody (top 106)) (defScope (top 106)) [] [] a_law_spots (fdOf K a_law_spots) := T.def_ 68 (d := mkD a_law_spots "_law_spots" "_law_spots" (top 106) [] []) rfl
theorem Txt.b__law_spots (T : Txt K mg) : Binds K (fdOf K a_law_spots) ["_law_hand_here", "_law_m", "_law_many"] [] := T.f__law_spots.bindsN fun _ _ _ _ _ _ us hl => match us, hl with | [_, _, _], _ => rfl
theorem Txt.k__law_spots (T : Txt K mg) : PySem.W.keepIn K (.ref a_law_spots) = true := T.f__law_spots.kp
theorem Txt.f__law_mark (T : Txt K mg) : FunD K "_law_mark" "_law_mark" (defArgs (top 107)) (defBody (top 107)) (defScope (top 107)) [] [] a_law_mark (fdOf K a_law_mark) := T.def_ 69 (d := mkD a_law_mark "_law_mark" "_law_mark" (top 107) [] []) rfl
theorem Txt.b__law_mark (T : Txt K mg) : Binds K (fdOf K a_law_mark) ["_law_places"] [] := T.f__law_mark.bindsN fun _ _ _ _ _ _ us hl => match us, hl with | [_], _ => rfl
theorem Txt.k__law_mark (T : Txt K mg) : PySem.W.keepIn K (.ref a_law_mark) = true := T.f__law_mark.kp
theorem Txt.f__law_spots_of (T : Txt K mg) : FunD K "_law_spots_of" "_law_spots_of" (defArgs (top 108)) (defBody (top 108)) (defScope (top 108)) [] [] a_law_spots_of (fdOf K a_law_spots_of) := T.def_ 70 (d := mkD a_law_spots_of "_law_spots_of" "_law_spots_of" (top 108) [] []) rfl
theorem Txt.b__law_spots_of (T : Txt K mg) : Binds K (fdOf K a_law_spots_of) ["_law_m", "_law_word"] [] := T.f__law_spots_of.bindsN fun _ _ _ _ _ _ us hl => match us, hl with | [_, _], _ => rfl
theorem Txt.k__law_spots_of (T : Txt K mg) : PySem.W.keepIn K (.ref a_law_spots_of) = true := T.f__law_spots_of.kp
theorem Txt.f__law_low_choice (T : Txt K mg) : FunD K "_law_low_choice" "_law_low_choice" (defArgs (top 109)) (defBody (top 109)) (defScope (top 109)) [] [] a_law_low_choice (fdOf K a_law_low_choice) := T.def_ 71 (d := mkD a_law_low_choice "_law_low_choice" "_law_low_choice" (top 109) [] []) rfl
theorem Txt.b__law_low_choice (T : Txt K mg) : Binds K (fdOf K a_law_low_choice) ["_law_hand_here", "_law_m"] [] := T.f__law_low_choice.bindsN fun _ _ _ _ _ _ us hl => match us, hl with | [_, _], _ => rfl
theorem Txt.k__law_low_choice (T : Txt K mg) : PySem.W.keepIn K (.ref a_law_low_choice) = true := T.f__law_low_choice.kp
theorem Txt.f__law_made_choice (T : Txt K mg) : FunD K "_law_made_choice" "_law_made_choice" (defArgs (top 110)) (defBody (top 110)) (defScope (top 110)) [] [] a_law_made_choice (fdOf K a_law_made_choice) := T.def_ 72 (d := mkD a_law_made_choice "_law_made_choice" "_law_made_choice" (top 110) [] []) rfl
theorem Txt.b__law_made_choice (T : Txt K mg) : Binds K (fdOf K a_law_made_choice) ["_law_hand_here", "_law_m", "_law_heaps"] [] := T.f__law_made_choice.bindsN fun _ _ _ _ _ _ us hl => match us, hl with | [_, _, _], _ => rfl
theorem Txt.k__law_made_choice (T : Txt K mg) : PySem.W.keepIn K (.ref a_law_made_choice) = true := T.f__law_made_choice.kp
theorem Txt.f__law_weight_due (T : Txt K mg) : FunD K "_law_weight_due" "_law_weight_due" (defArgs (top 111)) (defBody (top 111)) (defScope (top 111)) [] [] a_law_weight_due (fdOf K a_law_weight_due) := T.def_ 73 (d := mkD a_law_weight_due "_law_weight_due" "_law_weight_due" (top 111) [] []) rfl
theorem Txt.b__law_weight_due (T : Txt K mg) : Binds K (fdOf K a_law_weight_due) ["_law_m", "_law_heaps"] [] := T.f__law_weight_due.bindsN fun _ _ _ _ _ _ us hl => match us, hl with | [_, _], _ => rfl
theorem Txt.k__law_weight_due (T : Txt K mg) : PySem.W.keepIn K (.ref a_law_weight_due) = true := T.f__law_weight_due.kp
theorem Txt.f__law_code (T : Txt K mg) : FunD K "_law_code" "_law_code" (defArgs (top 112)) (defBody (top 112)) (defScope (top 112)) [] [] a_law_code (fdOf K a_law_code) := T.def_ 74 (d := mkD a_law_code "_law_code" "_law_code" (top 112) [] []) rfl
theorem Txt.b__law_code (T : Txt K mg) : Binds K (fdOf K a_law_code) ["_law_m", "_law_heaps"] [] := T.f__law_code.bindsN fun _ _ _ _ _ _ us hl => match us, hl with | [_, _], _ => rfl
theorem Txt.k__law_code (T : Txt K mg) : PySem.W.keepIn K (.ref a_law_code) = true := T.f__law_code.kp
theorem Txt.f__law_caught (T : Txt K mg) : FunD K "_law_caught" "_law_caught" (defArgs (top 113)) (defBody (top 113)) (defScope (top 113)) [] [] a_law_caught (fdOf K a_law_caught) := T.def_ 75 (d := mkD a_law_caught "_law_caught" "_law_caught" (top 113) [] []) rfl
theorem Txt.b__law_caught (T : Txt K mg) : Binds K (fdOf K a_law_caught) ["_law_call"] [] := T.f__law_caught.bindsN fun _ _ _ _ _ _ us hl => match us, hl with | [_], _ => rfl
theorem Txt.k__law_caught (T : Txt K mg) : PySem.W.keepIn K (.ref a_law_caught) = true := T.f__law_caught.kp
theorem Txt.f__law_bad_number (T : Txt K mg) : FunD K "_law_bad_number" "_law_bad_number" (defArgs (top 114)) (defBody (top 114)) (defScope (top 114)) [] [] a_law_bad_number (fdOf K a_law_bad_number) := T.def_ 76 (d := mkD a_law_bad_number "_law_bad_number" "_law_bad_number" (top 114) [] []) rfl
theorem Txt.b__law_bad_number (T : Txt K mg) : Binds K (fdOf K a_law_bad_number) ["_law_hand_here", "_law_most"] [] := T.f__law_bad_number.bindsN fun _ _ _ _ _ _ us hl => match us, hl with | [_, _], _ => rfl
theorem Txt.k__law_bad_number (T : Txt K mg) : PySem.W.keepIn K (.ref a_law_bad_number) = true := T.f__law_bad_number.kp
theorem Txt.f__law_two_told (T : Txt K mg) : FunD K "_law_two_told" "_law_two_told" (defArgs (top 115)) (defBody (top 115)) (defScope (top 115)) [] [] a_law_two_told (fdOf K a_law_two_told) := T.def_ 77 (d := mkD a_law_two_told "_law_two_told" "_law_two_told" (top 115) [] []) rfl
theorem Txt.b__law_two_told (T : Txt K mg) : Binds K (fdOf K a_law_two_told) ["_law_choice_here", "_law_m", "_law_heaps", "_law_weight", "_law_many"] [] := T.f__law_two_told.bindsN fun _ _ _ _ _ _ us hl => match us, hl with | [_, _, _, _, _], _ => rfl
theorem Txt.k__law_two_told (T : Txt K mg) : PySem.W.keepIn K (.ref a_law_two_told) = true := T.f__law_two_told.kp
theorem Txt.f__law_none_nearer (T : Txt K mg) : FunD K "_law_none_nearer" "_law_none_nearer" (defArgs (top 116)) (defBody (top 116)) (defScope (top 116)) [] [] a_law_none_nearer (fdOf K a_law_none_nearer) := T.def_ 78 (d := mkD a_law_none_nearer "_law_none_nearer" "_law_none_nearer" (top 116) [] []) rfl
theorem Txt.b__law_none_nearer (T : Txt K mg) : Binds K (fdOf K a_law_none_nearer) ["_law_choice_here", "_law_m", "_law_heaps", "_law_weight"] [] := T.f__law_none_nearer.bindsN fun _ _ _ _ _ _ us hl => match us, hl with | [_, _, _, _], _ => rfl
theorem Txt.k__law_none_nearer (T : Txt K mg) : PySem.W.keepIn K (.ref a_law_none_nearer) = true := T.f__law_none_nearer.kp
theorem Txt.f__law_least_halved (T : Txt K mg) : FunD K "_law_least_halved" "_law_least_halved" (defArgs (top 117)) (defBody (top 117)) (defScope (top 117)) [] [] a_law_least_halved (fdOf K a_law_least_halved) := T.def_ 79 (d := mkD a_law_least_halved "_law_least_halved" "_law_least_halved" (top 117) [] []) rfl
theorem Txt.b__law_least_halved (T : Txt K mg) : Binds K (fdOf K a_law_least_halved) ["_law_hand_here", "_law_choice_here", "_law_m", "_law_weight"] [] := T.f__law_least_halved.bindsN fun _ _ _ _ _ _ us hl => match us, hl with | [_, _, _, _], _ => rfl
theorem Txt.k__law_least_halved (T : Txt K mg) : PySem.W.keepIn K (.ref a_law_least_halved) = true := T.f__law_least_halved.kp
theorem Txt.f__law_great_code_nearest (T : Txt K mg) : FunD K "_law_great_code_nearest" "_law_great_code_nearest" (defArgs (top 118)) (defBody (top 118)) (defScope (top 118)) [] [] a_law_great_code_nearest (fdOf K a_law_great_code_nearest) := T.def_ 80 (d := mkD a_law_great_code_nearest "_law_great_code_nearest" "_law_great_code_nearest" (top 118) [] []) rfl
theorem Txt.b__law_great_code_nearest (T : Txt K mg) : Binds K (fdOf K a_law_great_code_nearest) ["_law_hand_here"] [] := T.f__law_great_code_nearest.bindsN fun _ _ _ _ _ _ us hl => match us, hl with | [_], _ => rfl
theorem Txt.k__law_great_code_nearest (T : Txt K mg) : PySem.W.keepIn K (.ref a_law_great_code_nearest) = true := T.f__law_great_code_nearest.kp
theorem Txt.f__law_errors_told (T : Txt K mg) : FunD K "_law_errors_told" "_law_errors_told" (defArgs (top 119)) (defBody (top 119)) (defScope (top 119)) [] [] a_law_errors_told (fdOf K a_law_errors_told) := T.def_ 81 (d := mkD a_law_errors_told "_law_errors_told" "_law_errors_told" (top 119) [] []) rfl
theorem Txt.b__law_errors_told (T : Txt K mg) : Binds K (fdOf K a_law_errors_told) ["_law_hand_here", "_law_choice_here", "_law_m", "_law_weight"] [] := T.f__law_errors_told.bindsN fun _ _ _ _ _ _ us hl => match us, hl with | [_, _, _, _], _ => rfl
theorem Txt.k__law_errors_told (T : Txt K mg) : PySem.W.keepIn K (.ref a_law_errors_told) = true := T.f__law_errors_told.kp
theorem Txt.f_law (T : Txt K mg) : FunD K "law" "law" (defArgs (top 120)) (defBody (top 120)) (defScope (top 120)) [] [] a_law (fdOf K a_law) := T.def_ 82 (d := mkD a_law "law" "law" (top 120) [] []) rfl
theorem Txt.b_law (T : Txt K mg) : Binds K (fdOf K a_law) ["_law_script"] [] := T.f_law.bindsN fun _ _ _ _ _ _ us hl => match us, hl with | [_], _ => rfl
theorem Txt.k_law (T : Txt K mg) : PySem.W.keepIn K (.ref a_law) = true := T.f_law.kp
theorem Txt.f_Choice (T : Txt K mg) : FunD K "__init__" "Choice.__init__" (defArgs (inClass (top 40) 0)) (defBody (inClass (top 40) 0)) (defScope (inClass (top 40) 0)) [] [] i_Choice (fdOf K i_Choice) := T.def_ 83 (d := mkD i_Choice "__init__" "Choice.__init__" (inClass (top 40) 0) [] []) rfl
theorem Txt.b_Choice (T : Txt K mg) : Binds K (fdOf K i_Choice) ["self", "letters", "heaps"] [] := T.f_Choice.bindsN fun _ _ _ _ _ _ us hl => match us, hl with | [_, _, _], _ => rfl
theorem Txt.f_Voted (T : Txt K mg) : FunD K "__init__" "Voted.__init__" (defArgs (inClass (top 50) 0)) (defBody (inClass (top 50) 0)) (defScope (inClass (top 50) 0)) [] [] i_Voted (fdOf K i_Voted) := T.def_ 84 (d := mkD i_Voted "__init__" "Voted.__init__" (inClass (top 50) 0) [] []) rfl
theorem Txt.b_Voted (T : Txt K mg) : Binds K (fdOf K i_Voted) ["self", "heap", "votes", "bit", "rest"] [] := T.f_Voted.bindsN fun _ _ _ _ _ _ us hl => match us, hl with | [_, _, _, _, _], _ => rfl
theorem Txt.f_Read (T : Txt K mg) : FunD K "__init__" "Read.__init__" (defArgs (inClass (top 51) 0)) (defBody (inClass (top 51) 0)) (defScope (inClass (top 51) 0)) [] [] i_Read (fdOf K i_Read) := T.def_ 85 (d := mkD i_Read "__init__" "Read.__init__" (inClass (top 51) 0) [] []) rfl
theorem Txt.b_Read (T : Txt K mg) : Binds K (fdOf K i_Read) ["self", "word", "wrong", "against"] [] := T.f_Read.bindsN fun _ _ _ _ _ _ us hl => match us, hl with | [_, _, _, _], _ => rfl
theorem Txt.f_Far (T : Txt K mg) : FunD K "__init__" "Far.__init__" (defArgs (inClass (top 52) 0)) (defBody (inClass (top 52) 0)) (defScope (inClass (top 52) 0)) [] [] i_Far (fdOf K i_Far) := T.def_ 86 (d := mkD i_Far "__init__" "Far.__init__" (inClass (top 52) 0) [] []) rfl
theorem Txt.b_Far (T : Txt K mg) : Binds K (fdOf K i_Far) ["self", "word", "wrong", "against"] [] := T.f_Far.bindsN fun _ _ _ _ _ _ us hl => match us, hl with | [_, _, _, _], _ => rfl
theorem Txt.f_Tie (T : Txt K mg) : FunD K "__init__" "Tie.__init__" (defArgs (inClass (top 53) 0)) (defBody (inClass (top 53) 0)) (defScope (inClass (top 53) 0)) [] [] i_Tie (fdOf K i_Tie) := T.def_ 87 (d := mkD i_Tie "__init__" "Tie.__init__" (inClass (top 53) 0) [] []) rfl
theorem Txt.b_Tie (T : Txt K mg) : Binds K (fdOf K i_Tie) ["self", "heap"] [] := T.f_Tie.bindsN fun _ _ _ _ _ _ us hl => match us, hl with | [_, _], _ => rfl
theorem Txt.f_Outvoted (T : Txt K mg) : FunD K "__init__" "Outvoted.__init__" (defArgs (inClass (top 54) 0)) (defBody (inClass (top 54) 0)) (defScope (inClass (top 54) 0)) [] [] i_Outvoted (fdOf K i_Outvoted) := T.def_ 88 (d := mkD i_Outvoted "__init__" "Outvoted.__init__" (inClass (top 54) 0) [] []) rfl
theorem Txt.b_Outvoted (T : Txt K mg) : Binds K (fdOf K i_Outvoted) ["self", "heap", "spoilt"] [] := T.f_Outvoted.bindsN fun _ _ _ _ _ _ us hl => match us, hl with | [_, _, _], _ => rfl
theorem Txt.f_Nearest (T : Txt K mg) : FunD K "__init__" "Nearest.__init__" (defArgs (inClass (top 55) 0)) (defBody (inClass (top 55) 0)) (defScope (inClass (top 55) 0)) [] [] i_Nearest (fdOf K i_Nearest) := T.def_ 89 (d := mkD i_Nearest "__init__" "Nearest.__init__" (inClass (top 55) 0) [] []) rfl
theorem Txt.b_Nearest (T : Txt K mg) : Binds K (fdOf K i_Nearest) ["self", "distance", "words"] [] := T.f_Nearest.bindsN fun _ _ _ _ _ _ us hl => match us, hl with | [_, _, _], _ => rfl
theorem Txt.f_TwoNear (T : Txt K mg) : FunD K "__init__" "TwoNear.__init__" (defArgs (inClass (top 56) 0)) (defBody (inClass (top 56) 0)) (defScope (inClass (top 56) 0)) [] [] i_TwoNear (fdOf K i_TwoNear) := T.def_ 90 (d := mkD i_TwoNear "__init__" "TwoNear.__init__" (inClass (top 56) 0) [] []) rfl
theorem Txt.b_TwoNear (T : Txt K mg) : Binds K (fdOf K i_TwoNear) ["self", "word", "lost", "one", "other"] [] := T.f_TwoNear.bindsN fun _ _ _ _ _ _ us hl => match us, hl with | [_, _, _, _, _], _ => rfl
theorem Txt.f_Lossy (T : Txt K mg) : FunD K "__init__" "Lossy.__init__" (defArgs (inClass (top 89) 0)) (defBody (inClass (top 89) 0)) (defScope (inClass (top 89) 0)) [] [] i_Lossy (fdOf K i_Lossy) := T.def_ 91 (d := mkD i_Lossy "__init__" "Lossy.__init__" (inClass (top 89) 0) [] []) rfl
theorem Txt.b_Lossy (T : Txt K mg) : Binds K (fdOf K i_Lossy) ["self", "word", "wrong", "sure"] [] := T.f_Lossy.bindsN fun _ _ _ _ _ _ us hl => match us, hl with | [_, _, _, _], _ => rfl
theorem Txt.f_size (T : Txt K mg) : FunD K "size" "Choice.size" (defArgs (inClass (top 40) 1)) (defBody (inClass (top 40) 1)) (defScope (inClass (top 40) 1)) [] [] g_size (fdOf K g_size) := T.def_ 92 (d := mkD g_size "size" "Choice.size" (inClass (top 40) 1) [] []) rfl
theorem Txt.b_size (T : Txt K mg) : Binds K (fdOf K g_size) ["self"] [] := T.f_size.bindsN fun _ _ _ _ _ _ us hl => match us, hl with | [_], _ => rfl
theorem Txt.f_top_size (T : Txt K mg) : FunD K "top_size" "Choice.top_size" (defArgs (inClass (top 40) 2)) (defBody (inClass (top 40) 2)) (defScope (inClass (top 40) 2)) [] [] g_top_size (fdOf K g_top_size) := T.def_ 93 (d := mkD g_top_size "top_size" "Choice.top_size" (inClass (top 40) 2) [] []) rfl
theorem Txt.b_top_size (T : Txt K mg) : Binds K (fdOf K g_top_size) ["self"] [] := T.f_top_size.bindsN fun _ _ _ _ _ _ us hl => match us, hl with | [_], _ => rfl
theorem Txt.g_WordError (T : Txt K mg) : mg "WordError" = some (.ref c_WordError) := T.glo 0 (x := "WordError") (a := 31) rfl
theorem Txt.g_BadLetters (T : Txt K mg) : mg "BadLetters" = some (.ref c_BadLetters) := T.glo 1 (x := "BadLetters") (a := 53) rfl
theorem Txt.g_BadNumber (T : Txt K mg) : mg "BadNumber" = some (.ref c_BadNumber) := T.glo 2 (x := "BadNumber") (a := 74) rfl
theorem Txt.g_BadHeap (T : Txt K mg) : mg "BadHeap" = some (.ref c_BadHeap) := T.glo 3 (x := "BadHeap") (a := 95) rfl
theorem Txt.g_BadPlaces (T : Txt K mg) : mg "BadPlaces" = some (.ref c_BadPlaces) := T.glo 4 (x := "BadPlaces") (a := 116) rfl
theorem Txt.g_BadWord (T : Txt K mg) : mg "BadWord" = some (.ref c_BadWord) := T.glo 5 (x := "BadWord") (a := 137) rfl
theorem Txt.g_EmptyChoice (T : Txt K mg) : mg "EmptyChoice" = some (.ref c_EmptyChoice) := T.glo 6 (x := "EmptyChoice") (a := 179) rfl
theorem Txt.g_TooMany (T : Txt K mg) : mg "TooMany" = some (.ref c_TooMany) := T.glo 7 (x := "TooMany") (a := 200) rfl
theorem Txt.g_NoneNear (T : Txt K mg) : mg "NoneNear" = some (.ref c_NoneNear) := T.glo 8 (x := "NoneNear") (a := 284) rfl
theorem Txt.g_is_whole (T : Txt K mg) : mg "is_whole" = some (.ref a_is_whole) := T.glo 9 (x := "is_whole") (a := 293) rfl
theorem Txt.g_check_letters (T : Txt K mg) : mg "check_letters" = some (.ref a_check_letters) := T.glo 10 (x := "check_letters") (a := 300) rfl
theorem Txt.g_check_number (T : Txt K mg) : mg "check_number" = some (.ref a_check_number) := T.glo 11 (x := "check_number") (a := 307) rfl
theorem Txt.g_check_heap (T : Txt K mg) : mg "check_heap" = some (.ref a_check_heap) := T.glo 12 (x := "check_heap") (a := 314) rfl
theorem Txt.g_check_heaps (T : Txt K mg) : mg "check_heaps" = some (.ref a_check_heaps) := T.glo 13 (x := "check_heaps") (a := 321) rfl
theorem Txt.g_check_places (T : Txt K mg) : mg "check_places" = some (.ref a_check_places) := T.glo 14 (x := "check_places") (a := 328) rfl
theorem Txt.g_letters_of (T : Txt K mg) : mg "letters_of" = some (.ref a_letters_of) := T.glo 15 (x := "letters_of") (a := 333) rfl
theorem Txt.g_count_ones (T : Txt K mg) : mg "count_ones" = some (.ref a_count_ones) := T.glo 16 (x := "count_ones") (a := 340) rfl
theorem Txt.g_WITHOUT (T : Txt K mg) : mg "WITHOUT" = some (.ref a_WITHOUT) := T.glo 17 (x := "WITHOUT") (a := 341) rfl
theorem Txt.g_full_word (T : Txt K mg) : mg "full_word" = some (.ref a_full_word) := T.glo 18 (x := "full_word") (a := 348) rfl
theorem Txt.g_check_word (T : Txt K mg) : mg "check_word" = some (.ref a_check_word) := T.glo 19 (x := "check_word") (a := 355) rfl
theorem Txt.g_stepped_word (T : Txt K mg) : mg "stepped_word" = some (.ref a_stepped_word) := T.glo 20 (x := "stepped_word") (a := 362) rfl
theorem Txt.g_ones_of (T : Txt K mg) : mg "ones_of" = some (.ref a_ones_of) := T.glo 21 (x := "ones_of") (a := 367) rfl
theorem Txt.g_heap_word (T : Txt K mg) : mg "heap_word" = some (.ref a_heap_word) := T.glo 22 (x := "heap_word") (a := 374) rfl
theorem Txt.g_heaps_of (T : Txt K mg) : mg "heaps_of" = some (.ref a_heaps_of) := T.glo 23 (x := "heaps_of") (a := 381) rfl
theorem Txt.g_places_of (T : Txt K mg) : mg "places_of" = some (.ref a_places_of) := T.glo 24 (x := "places_of") (a := 388) rfl
theorem Txt.g_marked_word (T : Txt K mg) : mg "marked_word" = some (.ref a_marked_word) := T.glo 25 (x := "marked_word") (a := 395) rfl
theorem Txt.g_weight_of (T : Txt K mg) : mg "weight_of" = some (.ref a_weight_of) := T.glo 26 (x := "weight_of") (a := 402) rfl
theorem Txt.g_checked_letters (T : Txt K mg) : mg "checked_letters" = some (.ref a_checked_letters) := T.glo 27 (x := "checked_letters") (a := 409) rfl
theorem Txt.g_checked_heaps (T : Txt K mg) : mg "checked_heaps" = some (.ref a_checked_heaps) := T.glo 28 (x := "checked_heaps") (a := 416) rfl
theorem Txt.g_Choice (T : Txt K mg) : mg "Choice" = some (.ref c_Choice) := T.glo 29 (x := "Choice") (a := 496) rfl
theorem Txt.g_check_some (T : Txt K mg) : mg "check_some" = some (.ref a_check_some) := T.glo 30 (x := "check_some") (a := 507) rfl
theorem Txt.g_strange_heap (T : Txt K mg) : mg "strange_heap" = some (.ref a_strange_heap) := T.glo 31 (x := "strange_heap") (a := 514) rfl
theorem Txt.g_holds (T : Txt K mg) : mg "holds" = some (.ref a_holds) := T.glo 32 (x := "holds") (a := 521) rfl
theorem Txt.g_all_words (T : Txt K mg) : mg "all_words" = some (.ref a_all_words) := T.glo 33 (x := "all_words") (a := 526) rfl
theorem Txt.g_first_places (T : Txt K mg) : mg "first_places" = some (.ref a_first_places) := T.glo 34 (x := "first_places") (a := 531) rfl
theorem Txt.g_votes_for (T : Txt K mg) : mg "votes_for" = some (.ref a_votes_for) := T.glo 35 (x := "votes_for") (a := 536) rfl
theorem Txt.g_spoilt_votes (T : Txt K mg) : mg "spoilt_votes" = some (.ref a_spoilt_votes) := T.glo 36 (x := "spoilt_votes") (a := 543) rfl
theorem Txt.g_Voted (T : Txt K mg) : mg "Voted" = some (.ref c_Voted) := T.glo 37 (x := "Voted") (a := 567) rfl
theorem Txt.g_Read (T : Txt K mg) : mg "Read" = some (.ref c_Read) := T.glo 38 (x := "Read") (a := 595) rfl
theorem Txt.g_Far (T : Txt K mg) : mg "Far" = some (.ref c_Far) := T.glo 39 (x := "Far") (a := 623) rfl
theorem Txt.g_Tie (T : Txt K mg) : mg "Tie" = some (.ref c_Tie) := T.glo 40 (x := "Tie") (a := 651) rfl
theorem Txt.g_Outvoted (T : Txt K mg) : mg "Outvoted" = some (.ref c_Outvoted) := T.glo 41 (x := "Outvoted") (a := 679) rfl
theorem Txt.g_Nearest (T : Txt K mg) : mg "Nearest" = some (.ref c_Nearest) := T.glo 42 (x := "Nearest") (a := 707) rfl
theorem Txt.g_TwoNear (T : Txt K mg) : mg "TwoNear" = some (.ref c_TwoNear) := T.glo 43 (x := "TwoNear") (a := 735) rfl
theorem Txt.g_reads_sure (T : Txt K mg) : mg "reads_sure" = some (.ref a_reads_sure) := T.glo 44 (x := "reads_sure") (a := 746) rfl
theorem Txt.g_voting_order (T : Txt K mg) : mg "voting_order" = some (.ref a_voting_order) := T.glo 45 (x := "voting_order") (a := 753) rfl
theorem Txt.g_read_steps (T : Txt K mg) : mg "read_steps" = some (.ref a_read_steps) := T.glo 46 (x := "read_steps") (a := 760) rfl
theorem Txt.g_checked_most (T : Txt K mg) : mg "checked_most" = some (.ref a_checked_most) := T.glo 47 (x := "checked_most") (a := 767) rfl
theorem Txt.g_read_votes (T : Txt K mg) : mg "read_votes" = some (.ref a_read_votes) := T.glo 48 (x := "read_votes") (a := 773) rfl
theorem Txt.g_told_fault (T : Txt K mg) : mg "told_fault" = some (.ref a_told_fault) := T.glo 49 (x := "told_fault") (a := 780) rfl
theorem Txt.g_nearest_words (T : Txt K mg) : mg "nearest_words" = some (.ref a_nearest_words) := T.glo 50 (x := "nearest_words") (a := 787) rfl
theorem Txt.g_two_near (T : Txt K mg) : mg "two_near" = some (.ref a_two_near) := T.glo 51 (x := "two_near") (a := 793) rfl
theorem Txt.g_descents_of (T : Txt K mg) : mg "descents_of" = some (.ref a_descents_of) := T.glo 52 (x := "descents_of") (a := 800) rfl
theorem Txt.g_closed_gap (T : Txt K mg) : mg "closed_gap" = some (.ref a_closed_gap) := T.glo 53 (x := "closed_gap") (a := 805) rfl
theorem Txt.g_first_gap (T : Txt K mg) : mg "first_gap" = some (.ref a_first_gap) := T.glo 54 (x := "first_gap") (a := 812) rfl
theorem Txt.g_check_closed (T : Txt K mg) : mg "check_closed" = some (.ref a_check_closed) := T.glo 55 (x := "check_closed") (a := 819) rfl
theorem Txt.g_check_falling (T : Txt K mg) : mg "check_falling" = some (.ref a_check_falling) := T.glo 56 (x := "check_falling") (a := 826) rfl
theorem Txt.g_is_form (T : Txt K mg) : mg "is_form" = some (.ref a_is_form) := T.glo 57 (x := "is_form") (a := 833) rfl
theorem Txt.g_lots_sums (T : Txt K mg) : mg "lots_sums" = some (.ref a_lots_sums) := T.glo 58 (x := "lots_sums") (a := 838) rfl
theorem Txt.g_check_forms (T : Txt K mg) : mg "check_forms" = some (.ref a_check_forms) := T.glo 59 (x := "check_forms") (a := 843) rfl
theorem Txt.g_values_of (T : Txt K mg) : mg "values_of" = some (.ref a_values_of) := T.glo 60 (x := "values_of") (a := 850) rfl
theorem Txt.g_flat_word (T : Txt K mg) : mg "flat_word" = some (.ref a_flat_word) := T.glo 61 (x := "flat_word") (a := 857) rfl
theorem Txt.g_least_weight (T : Txt K mg) : mg "least_weight" = some (.ref a_least_weight) := T.glo 62 (x := "least_weight") (a := 864) rfl
theorem Txt.g_free_letters (T : Txt K mg) : mg "free_letters" = some (.ref a_free_letters) := T.glo 63 (x := "free_letters") (a := 869) rfl
theorem Txt.g_free_bits (T : Txt K mg) : mg "free_bits" = some (.ref a_free_bits) := T.glo 64 (x := "free_bits") (a := 874) rfl
theorem Txt.g_check_ground (T : Txt K mg) : mg "check_ground" = some (.ref a_check_ground) := T.glo 65 (x := "check_ground") (a := 881) rfl
theorem Txt.g_top_heaps (T : Txt K mg) : mg "top_heaps" = some (.ref a_top_heaps) := T.glo 66 (x := "top_heaps") (a := 886) rfl
theorem Txt.g_least_count (T : Txt K mg) : mg "least_count" = some (.ref a_least_count) := T.glo 67 (x := "least_count") (a := 891) rfl
theorem Txt.g_forms_by_bits (T : Txt K mg) : mg "forms_by_bits" = some (.ref a_forms_by_bits) := T.glo 68 (x := "forms_by_bits") (a := 898) rfl
theorem Txt.g_least_forms (T : Txt K mg) : mg "least_forms" = some (.ref a_least_forms) := T.glo 69 (x := "least_forms") (a := 905) rfl
theorem Txt.g_least_at (T : Txt K mg) : mg "least_at" = some (.ref a_least_at) := T.glo 70 (x := "least_at") (a := 912) rfl
theorem Txt.g_Lossy (T : Txt K mg) : mg "Lossy" = some (.ref c_Lossy) := T.glo 71 (x := "Lossy") (a := 936) rfl
theorem Txt.g_is_sure (T : Txt K mg) : mg "is_sure" = some (.ref a_is_sure) := T.glo 72 (x := "is_sure") (a := 947) rfl
theorem Txt.g_read_lossy (T : Txt K mg) : mg "read_lossy" = some (.ref a_read_lossy) := T.glo 73 (x := "read_lossy") (a := 954) rfl
theorem Txt.g__law_mix (T : Txt K mg) : mg "_law_mix" = some (.ref a_law_mix) := T.glo 74 (x := "_law_mix") (a := 961) rfl
theorem Txt.g__law_hand (T : Txt K mg) : mg "_law_hand" = some (.ref a_law_hand) := T.glo 75 (x := "_law_hand") (a := 966) rfl
theorem Txt.g__law_draw (T : Txt K mg) : mg "_law_draw" = some (.ref a_law_draw) := T.glo 76 (x := "_law_draw") (a := 973) rfl
theorem Txt.g__law_wide (T : Txt K mg) : mg "_law_wide" = some (.ref a_law_wide) := T.glo 77 (x := "_law_wide") (a := 980) rfl
theorem Txt.g__law_is_int (T : Txt K mg) : mg "_law_is_int" = some (.ref a_law_is_int) := T.glo 78 (x := "_law_is_int") (a := 987) rfl
theorem Txt.g__law_ones (T : Txt K mg) : mg "_law_ones" = some (.ref a_law_ones) := T.glo 79 (x := "_law_ones") (a := 994) rfl
theorem Txt.g__law_heap_word (T : Txt K mg) : mg "_law_heap_word" = some (.ref a_law_heap_word) := T.glo 80 (x := "_law_heap_word") (a := 1001) rfl
theorem Txt.g__law_is_below (T : Txt K mg) : mg "_law_is_below" = some (.ref a_law_is_below) := T.glo 81 (x := "_law_is_below") (a := 1008) rfl
theorem Txt.g__law_falling (T : Txt K mg) : mg "_law_falling" = some (.ref a_law_falling) := T.glo 82 (x := "_law_falling") (a := 1013) rfl
theorem Txt.g__law_closed (T : Txt K mg) : mg "_law_closed" = some (.ref a_law_closed) := T.glo 83 (x := "_law_closed") (a := 1018) rfl
theorem Txt.g__law_seeds (T : Txt K mg) : mg "_law_seeds" = some (.ref a_law_seeds) := T.glo 84 (x := "_law_seeds") (a := 1023) rfl
theorem Txt.g__law_choice (T : Txt K mg) : mg "_law_choice" = some (.ref a_law_choice) := T.glo 85 (x := "_law_choice") (a := 1028) rfl
theorem Txt.g__law_any_word (T : Txt K mg) : mg "_law_any_word" = some (.ref a_law_any_word) := T.glo 86 (x := "_law_any_word") (a := 1035) rfl
theorem Txt.g__law_spots (T : Txt K mg) : mg "_law_spots" = some (.ref a_law_spots) := T.glo 87 (x := "_law_spots") (a := 1040) rfl
theorem Txt.g__law_mark (T : Txt K mg) : mg "_law_mark" = some (.ref a_law_mark) := T.glo 88 (x := "_law_mark") (a := 1047) rfl
theorem Txt.g__law_spots_of (T : Txt K mg) : mg "_law_spots_of" = some (.ref a_law_spots_of) := T.glo 89 (x := "_law_spots_of") (a := 1052) rfl
theorem Txt.g__law_low_choice (T : Txt K mg) : mg "_law_low_choice" = some (.ref a_law_low_choice) := T.glo 90 (x := "_law_low_choice") (a := 1057) rfl
theorem Txt.g__law_made_choice (T : Txt K mg) : mg "_law_made_choice" = some (.ref a_law_made_choice) := T.glo 91 (x := "_law_made_choice") (a := 1064) rfl
theorem Txt.g__law_weight_due (T : Txt K mg) : mg "_law_weight_due" = some (.ref a_law_weight_due) := T.glo 92 (x := "_law_weight_due") (a := 1069) rfl
theorem Txt.g__law_code (T : Txt K mg) : mg "_law_code" = some (.ref a_law_code) := T.glo 93 (x := "_law_code") (a := 1074) rfl
theorem Txt.g__law_caught (T : Txt K mg) : mg "_law_caught" = some (.ref a_law_caught) := T.glo 94 (x := "_law_caught") (a := 1081) rfl
theorem Txt.g__law_bad_number (T : Txt K mg) : mg "_law_bad_number" = some (.ref a_law_bad_number) := T.glo 95 (x := "_law_bad_number") (a := 1088) rfl
theorem Txt.g__law_two_told (T : Txt K mg) : mg "_law_two_told" = some (.ref a_law_two_told) := T.glo 96 (x := "_law_two_told") (a := 1093) rfl
theorem Txt.g__law_none_nearer (T : Txt K mg) : mg "_law_none_nearer" = some (.ref a_law_none_nearer) := T.glo 97 (x := "_law_none_nearer") (a := 1098) rfl
theorem Txt.g__law_least_halved (T : Txt K mg) : mg "_law_least_halved" = some (.ref a_law_least_halved) := T.glo 98 (x := "_law_least_halved") (a := 1103) rfl
theorem Txt.g__law_great_code_nearest (T : Txt K mg) : mg "_law_great_code_nearest" = some (.ref a_law_great_code_nearest) := T.glo 99 (x := "_law_great_code_nearest") (a := 1108) rfl
theorem Txt.g__law_errors_told (T : Txt K mg) : mg "_law_errors_told" = some (.ref a_law_errors_told) := T.glo 100 (x := "_law_errors_told") (a := 1115) rfl
theorem Txt.g_law (T : Txt K mg) : mg "law" = some (.ref a_law) := T.glo 101 (x := "law") (a := 1120) rfl
theorem Txt.n_len (T : Txt K mg) : mg "len" = none := T.fre 0 (x := "len") rfl
theorem Txt.n_range (T : Txt K mg) : mg "range" = none := T.fre 1 (x := "range") rfl
theorem Txt.n_isinstance (T : Txt K mg) : mg "isinstance" = none := T.fre 2 (x := "isinstance") rfl
theorem Txt.n_int (T : Txt K mg) : mg "int" = none := T.fre 3 (x := "int") rfl
theorem Txt.n_bool (T : Txt K mg) : mg "bool" = none := T.fre 4 (x := "bool") rfl
theorem Txt.n_list (T : Txt K mg) : mg "list" = none := T.fre 5 (x := "list") rfl
theorem Txt.n_tuple (T : Txt K mg) : mg "tuple" = none := T.fre 6 (x := "tuple") rfl
theorem Txt.n_set (T : Txt K mg) : mg "set" = none := T.fre 7 (x := "set") rfl
theorem Txt.n_sorted (T : Txt K mg) : mg "sorted" = none := T.fre 8 (x := "sorted") rfl
theorem Txt.n_enumerate (T : Txt K mg) : mg "enumerate" = none := T.fre 9 (x := "enumerate") rfl
theorem Txt.n_max (T : Txt K mg) : mg "max" = none := T.fre 10 (x := "max") rfl
theorem Txt.n_min (T : Txt K mg) : mg "min" = none := T.fre 11 (x := "min") rfl
theorem Txt.n_sum (T : Txt K mg) : mg "sum" = none := T.fre 12 (x := "sum") rfl
theorem Txt.n_any (T : Txt K mg) : mg "any" = none := T.fre 13 (x := "any") rfl
theorem Txt.n_abs (T : Txt K mg) : mg "abs" = none := T.fre 14 (x := "abs") rfl
theorem Txt.n_zip (T : Txt K mg) : mg "zip" = none := T.fre 15 (x := "zip") rfl
theorem Txt.n_repr (T : Txt K mg) : mg "repr" = none := T.fre 16 (x := "repr") rfl
theorem Txt.n_super (T : Txt K mg) : mg "super" = none := T.fre 17 (x := "super") rfl
theorem Txt.n_ValueError (T : Txt K mg) : mg "ValueError" = none := T.fre 18 (x := "ValueError") rfl
theorem Txt.cl_Choice (T : Txt K mg) : Cls K c_Choice := clsB_ok (T.fact 0 (f := clsB c_Choice) rfl)
theorem Txt.mk_Choice (T : Txt K mg) : Mk K c_Choice i_Choice := makB_ok (T.fact 1 (f := makB c_Choice i_Choice) rfl)
theorem Txt.is_Choice (T : Txt K mg) : isiB c_Choice K = true := T.fact 2 (f := isiB c_Choice) rfl
theorem Txt.no_Choice_letters (T : Txt K mg) : NoAttr K c_Choice "letters" := He.eqO_ok (T.fact 3 (f := noaB c_Choice "letters") rfl)
theorem Txt.no_Choice_heaps (T : Txt K mg) : NoAttr K c_Choice "heaps" := He.eqO_ok (T.fact 4 (f := noaB c_Choice "heaps") rfl)
theorem Txt.cl_Voted (T : Txt K mg) : Cls K c_Voted := clsB_ok (T.fact 5 (f := clsB c_Voted) rfl)
theorem Txt.mk_Voted (T : Txt K mg) : Mk K c_Voted i_Voted := makB_ok (T.fact 6 (f := makB c_Voted i_Voted) rfl)
theorem Txt.is_Voted (T : Txt K mg) : isiB c_Voted K = true := T.fact 7 (f := isiB c_Voted) rfl
theorem Txt.no_Voted_heap (T : Txt K mg) : NoAttr K c_Voted "heap" := He.eqO_ok (T.fact 8 (f := noaB c_Voted "heap") rfl)
theorem Txt.no_Voted_votes (T : Txt K mg) : NoAttr K c_Voted "votes" := He.eqO_ok (T.fact 9 (f := noaB c_Voted "votes") rfl)
theorem Txt.no_Voted_bit (T : Txt K mg) : NoAttr K c_Voted "bit" := He.eqO_ok (T.fact 10 (f := noaB c_Voted "bit") rfl)
theorem Txt.no_Voted_rest (T : Txt K mg) : NoAttr K c_Voted "rest" := He.eqO_ok (T.fact 11 (f := noaB c_Voted "rest") rfl)
theorem Txt.cl_Read (T : Txt K mg) : Cls K c_Read := clsB_ok (T.fact 12 (f := clsB c_Read) rfl)
theorem Txt.mk_Read (T : Txt K mg) : Mk K c_Read i_Read := makB_ok (T.fact 13 (f := makB c_Read i_Read) rfl)
theorem Txt.is_Read (T : Txt K mg) : isiB c_Read K = true := T.fact 14 (f := isiB c_Read) rfl
theorem Txt.no_Read_word (T : Txt K mg) : NoAttr K c_Read "word" := He.eqO_ok (T.fact 15 (f := noaB c_Read "word") rfl)
theorem Txt.no_Read_wrong (T : Txt K mg) : NoAttr K c_Read "wrong" := He.eqO_ok (T.fact 16 (f := noaB c_Read "wrong") rfl)
theorem Txt.no_Read_against (T : Txt K mg) : NoAttr K c_Read "against" := He.eqO_ok (T.fact 17 (f := noaB c_Read "against") rfl)
theorem Txt.cl_Far (T : Txt K mg) : Cls K c_Far := clsB_ok (T.fact 18 (f := clsB c_Far) rfl)
theorem Txt.mk_Far (T : Txt K mg) : Mk K c_Far i_Far := makB_ok (T.fact 19 (f := makB c_Far i_Far) rfl)
theorem Txt.is_Far (T : Txt K mg) : isiB c_Far K = true := T.fact 20 (f := isiB c_Far) rfl
theorem Txt.no_Far_word (T : Txt K mg) : NoAttr K c_Far "word" := He.eqO_ok (T.fact 21 (f := noaB c_Far "word") rfl)
theorem Txt.no_Far_wrong (T : Txt K mg) : NoAttr K c_Far "wrong" := He.eqO_ok (T.fact 22 (f := noaB c_Far "wrong") rfl)
theorem Txt.no_Far_against (T : Txt K mg) : NoAttr K c_Far "against" := He.eqO_ok (T.fact 23 (f := noaB c_Far "against") rfl)
theorem Txt.cl_Tie (T : Txt K mg) : Cls K c_Tie := clsB_ok (T.fact 24 (f := clsB c_Tie) rfl)
theorem Txt.mk_Tie (T : Txt K mg) : Mk K c_Tie i_Tie := makB_ok (T.fact 25 (f := makB c_Tie i_Tie) rfl)
theorem Txt.is_Tie (T : Txt K mg) : isiB c_Tie K = true := T.fact 26 (f := isiB c_Tie) rfl
theorem Txt.no_Tie_heap (T : Txt K mg) : NoAttr K c_Tie "heap" := He.eqO_ok (T.fact 27 (f := noaB c_Tie "heap") rfl)
theorem Txt.cl_Outvoted (T : Txt K mg) : Cls K c_Outvoted := clsB_ok (T.fact 28 (f := clsB c_Outvoted) rfl)
theorem Txt.mk_Outvoted (T : Txt K mg) : Mk K c_Outvoted i_Outvoted := makB_ok (T.fact 29 (f := makB c_Outvoted i_Outvoted) rfl)
theorem Txt.is_Outvoted (T : Txt K mg) : isiB c_Outvoted K = true := T.fact 30 (f := isiB c_Outvoted) rfl
theorem Txt.no_Outvoted_heap (T : Txt K mg) : NoAttr K c_Outvoted "heap" := He.eqO_ok (T.fact 31 (f := noaB c_Outvoted "heap") rfl)
theorem Txt.no_Outvoted_spoilt (T : Txt K mg) : NoAttr K c_Outvoted "spoilt" := He.eqO_ok (T.fact 32 (f := noaB c_Outvoted "spoilt") rfl)
theorem Txt.cl_Nearest (T : Txt K mg) : Cls K c_Nearest := clsB_ok (T.fact 33 (f := clsB c_Nearest) rfl)
theorem Txt.mk_Nearest (T : Txt K mg) : Mk K c_Nearest i_Nearest := makB_ok (T.fact 34 (f := makB c_Nearest i_Nearest) rfl)
theorem Txt.is_Nearest (T : Txt K mg) : isiB c_Nearest K = true := T.fact 35 (f := isiB c_Nearest) rfl
theorem Txt.no_Nearest_distance (T : Txt K mg) : NoAttr K c_Nearest "distance" := He.eqO_ok (T.fact 36 (f := noaB c_Nearest "distance") rfl)
theorem Txt.no_Nearest_words (T : Txt K mg) : NoAttr K c_Nearest "words" := He.eqO_ok (T.fact 37 (f := noaB c_Nearest "words") rfl)
theorem Txt.cl_TwoNear (T : Txt K mg) : Cls K c_TwoNear := clsB_ok (T.fact 38 (f := clsB c_TwoNear) rfl)
theorem Txt.mk_TwoNear (T : Txt K mg) : Mk K c_TwoNear i_TwoNear := makB_ok (T.fact 39 (f := makB c_TwoNear i_TwoNear) rfl)
theorem Txt.is_TwoNear (T : Txt K mg) : isiB c_TwoNear K = true := T.fact 40 (f := isiB c_TwoNear) rfl
theorem Txt.no_TwoNear_word (T : Txt K mg) : NoAttr K c_TwoNear "word" := He.eqO_ok (T.fact 41 (f := noaB c_TwoNear "word") rfl)
theorem Txt.no_TwoNear_lost (T : Txt K mg) : NoAttr K c_TwoNear "lost" := He.eqO_ok (T.fact 42 (f := noaB c_TwoNear "lost") rfl)
theorem Txt.no_TwoNear_one (T : Txt K mg) : NoAttr K c_TwoNear "one" := He.eqO_ok (T.fact 43 (f := noaB c_TwoNear "one") rfl)
theorem Txt.no_TwoNear_other (T : Txt K mg) : NoAttr K c_TwoNear "other" := He.eqO_ok (T.fact 44 (f := noaB c_TwoNear "other") rfl)
theorem Txt.cl_Lossy (T : Txt K mg) : Cls K c_Lossy := clsB_ok (T.fact 45 (f := clsB c_Lossy) rfl)
theorem Txt.mk_Lossy (T : Txt K mg) : Mk K c_Lossy i_Lossy := makB_ok (T.fact 46 (f := makB c_Lossy i_Lossy) rfl)
theorem Txt.is_Lossy (T : Txt K mg) : isiB c_Lossy K = true := T.fact 47 (f := isiB c_Lossy) rfl
theorem Txt.no_Lossy_word (T : Txt K mg) : NoAttr K c_Lossy "word" := He.eqO_ok (T.fact 48 (f := noaB c_Lossy "word") rfl)
theorem Txt.no_Lossy_wrong (T : Txt K mg) : NoAttr K c_Lossy "wrong" := He.eqO_ok (T.fact 49 (f := noaB c_Lossy "wrong") rfl)
theorem Txt.no_Lossy_sure (T : Txt K mg) : NoAttr K c_Lossy "sure" := He.eqO_ok (T.fact 50 (f := noaB c_Lossy "sure") rfl)
theorem Txt.pro_size (T : Txt K mg) : PropOf K c_Choice "size" p_size g_size := proB_ok (T.fact 51 (f := proB c_Choice "size" p_size g_size) rfl)
theorem Txt.pro_top_size (T : Txt K mg) : PropOf K c_Choice "top_size" p_top_size g_top_size := proB_ok (T.fact 52 (f := proB c_Choice "top_size" p_top_size g_top_size) rfl)
theorem Txt.kit_Read_Read (T : Txt K mg) : PySem.W.kitOne K (.ref c_Read) (.ref c_Read) = some true := of_decide_eq_true (T.fact 53 (f := kitB2 c_Read c_Read true) rfl)
theorem Txt.kit_Far_Read (T : Txt K mg) : PySem.W.kitOne K (.ref c_Far) (.ref c_Read) = some false := of_decide_eq_true (T.fact 54 (f := kitB2 c_Far c_Read false) rfl)
theorem Txt.kit_Tie_Read (T : Txt K mg) : PySem.W.kitOne K (.ref c_Tie) (.ref c_Read) = some false := of_decide_eq_true (T.fact 55 (f := kitB2 c_Tie c_Read false) rfl)
theorem Txt.kit_Read_Far (T : Txt K mg) : PySem.W.kitOne K (.ref c_Read) (.ref c_Far) = some false := of_decide_eq_true (T.fact 56 (f := kitB2 c_Read c_Far false) rfl)
theorem Txt.kit_Read_Tie (T : Txt K mg) : PySem.W.kitOne K (.ref c_Read) (.ref c_Tie) = some false := of_decide_eq_true (T.fact 57 (f := kitB2 c_Read c_Tie false) rfl)
theorem Txt.kit_Far_Far (T : Txt K mg) : PySem.W.kitOne K (.ref c_Far) (.ref c_Far) = some true := of_decide_eq_true (T.fact 58 (f := kitB2 c_Far c_Far true) rfl)
theorem Txt.kit_Far_Tie (T : Txt K mg) : PySem.W.kitOne K (.ref c_Far) (.ref c_Tie) = some false := of_decide_eq_true (T.fact 59 (f := kitB2 c_Far c_Tie false) rfl)
theorem Txt.kit_Tie_Far (T : Txt K mg) : PySem.W.kitOne K (.ref c_Tie) (.ref c_Far) = some false := of_decide_eq_true (T.fact 60 (f := kitB2 c_Tie c_Far false) rfl)
theorem Txt.kit_Tie_Tie (T : Txt K mg) : PySem.W.kitOne K (.ref c_Tie) (.ref c_Tie) = some true := of_decide_eq_true (T.fact 61 (f := kitB2 c_Tie c_Tie true) rfl)
theorem Txt.kit_TwoNear_TwoNear (T : Txt K mg) : PySem.W.kitOne K (.ref c_TwoNear) (.ref c_TwoNear) = some true := of_decide_eq_true (T.fact 62 (f := kitB2 c_TwoNear c_TwoNear true) rfl)
theorem Txt.kit_Lossy_Lossy (T : Txt K mg) : PySem.W.kitOne K (.ref c_Lossy) (.ref c_Lossy) = some true := of_decide_eq_true (T.fact 63 (f := kitB2 c_Lossy c_Lossy true) rfl)
theorem Txt.kit_Nearest_Nearest (T : Txt K mg) : PySem.W.kitOne K (.ref c_Nearest) (.ref c_Nearest) = some true := of_decide_eq_true (T.fact 64 (f := kitB2 c_Nearest c_Nearest true) rfl)
theorem Txt.ex_BadNumber (T : Txt K mg) : excB c_BadNumber i_BadNumber K = true := T.fact 65 (f := excB c_BadNumber i_BadNumber) rfl
theorem Txt.ce_BadNumber (T : Txt K mg) : cellB cell_BadNumber c_BadNumber K = true := T.fact 66 (f := cellB cell_BadNumber c_BadNumber) rfl
theorem Txt.exm_BadNumber_BadLetters (T : Txt K mg) : PySem.W.exmOne K (.ref c_BadNumber) (.ref c_BadLetters) = some false := of_decide_eq_true (T.fact 67 (f := exmB c_BadNumber c_BadLetters false) rfl)
theorem Txt.exm_BadNumber_BadNumber (T : Txt K mg) : PySem.W.exmOne K (.ref c_BadNumber) (.ref c_BadNumber) = some true := of_decide_eq_true (T.fact 68 (f := exmB c_BadNumber c_BadNumber true) rfl)
theorem Txt.exm_BadNumber_BadHeap (T : Txt K mg) : PySem.W.exmOne K (.ref c_BadNumber) (.ref c_BadHeap) = some false := of_decide_eq_true (T.fact 69 (f := exmB c_BadNumber c_BadHeap false) rfl)
theorem Txt.exm_BadNumber_BadPlaces (T : Txt K mg) : PySem.W.exmOne K (.ref c_BadNumber) (.ref c_BadPlaces) = some false := of_decide_eq_true (T.fact 70 (f := exmB c_BadNumber c_BadPlaces false) rfl)
theorem Txt.exm_BadNumber_BadWord (T : Txt K mg) : PySem.W.exmOne K (.ref c_BadNumber) (.ref c_BadWord) = some false := of_decide_eq_true (T.fact 71 (f := exmB c_BadNumber c_BadWord false) rfl)
theorem Txt.exm_BadNumber_EmptyChoice (T : Txt K mg) : PySem.W.exmOne K (.ref c_BadNumber) (.ref c_EmptyChoice) = some false := of_decide_eq_true (T.fact 72 (f := exmB c_BadNumber c_EmptyChoice false) rfl)
theorem Txt.exm_BadNumber_TooMany (T : Txt K mg) : PySem.W.exmOne K (.ref c_BadNumber) (.ref c_TooMany) = some false := of_decide_eq_true (T.fact 73 (f := exmB c_BadNumber c_TooMany false) rfl)
theorem Txt.exm_BadNumber_NoneNear (T : Txt K mg) : PySem.W.exmOne K (.ref c_BadNumber) (.ref c_NoneNear) = some false := of_decide_eq_true (T.fact 74 (f := exmB c_BadNumber c_NoneNear false) rfl)
theorem Txt.ex_EmptyChoice (T : Txt K mg) : excB c_EmptyChoice i_EmptyChoice K = true := T.fact 75 (f := excB c_EmptyChoice i_EmptyChoice) rfl
theorem Txt.ce_EmptyChoice (T : Txt K mg) : cellB cell_EmptyChoice c_EmptyChoice K = true := T.fact 76 (f := cellB cell_EmptyChoice c_EmptyChoice) rfl
theorem Txt.exm_EmptyChoice_BadLetters (T : Txt K mg) : PySem.W.exmOne K (.ref c_EmptyChoice) (.ref c_BadLetters) = some false := of_decide_eq_true (T.fact 77 (f := exmB c_EmptyChoice c_BadLetters false) rfl)
theorem Txt.exm_EmptyChoice_BadNumber (T : Txt K mg) : PySem.W.exmOne K (.ref c_EmptyChoice) (.ref c_BadNumber) = some false := of_decide_eq_true (T.fact 78 (f := exmB c_EmptyChoice c_BadNumber false) rfl)
theorem Txt.exm_EmptyChoice_BadHeap (T : Txt K mg) : PySem.W.exmOne K (.ref c_EmptyChoice) (.ref c_BadHeap) = some false := of_decide_eq_true (T.fact 79 (f := exmB c_EmptyChoice c_BadHeap false) rfl)
theorem Txt.exm_EmptyChoice_BadPlaces (T : Txt K mg) : PySem.W.exmOne K (.ref c_EmptyChoice) (.ref c_BadPlaces) = some false := of_decide_eq_true (T.fact 80 (f := exmB c_EmptyChoice c_BadPlaces false) rfl)
theorem Txt.exm_EmptyChoice_BadWord (T : Txt K mg) : PySem.W.exmOne K (.ref c_EmptyChoice) (.ref c_BadWord) = some false := of_decide_eq_true (T.fact 81 (f := exmB c_EmptyChoice c_BadWord false) rfl)
theorem Txt.exm_EmptyChoice_EmptyChoice (T : Txt K mg) : PySem.W.exmOne K (.ref c_EmptyChoice) (.ref c_EmptyChoice) = some true := of_decide_eq_true (T.fact 82 (f := exmB c_EmptyChoice c_EmptyChoice true) rfl)
theorem Txt.exm_EmptyChoice_TooMany (T : Txt K mg) : PySem.W.exmOne K (.ref c_EmptyChoice) (.ref c_TooMany) = some false := of_decide_eq_true (T.fact 83 (f := exmB c_EmptyChoice c_TooMany false) rfl)
theorem Txt.exm_EmptyChoice_NoneNear (T : Txt K mg) : PySem.W.exmOne K (.ref c_EmptyChoice) (.ref c_NoneNear) = some false := of_decide_eq_true (T.fact 84 (f := exmB c_EmptyChoice c_NoneNear false) rfl)
theorem Txt.ex_NoneNear (T : Txt K mg) : excB c_NoneNear i_NoneNear K = true := T.fact 85 (f := excB c_NoneNear i_NoneNear) rfl
theorem Txt.ce_NoneNear (T : Txt K mg) : cellB cell_NoneNear c_NoneNear K = true := T.fact 86 (f := cellB cell_NoneNear c_NoneNear) rfl
theorem Txt.exm_NoneNear_BadLetters (T : Txt K mg) : PySem.W.exmOne K (.ref c_NoneNear) (.ref c_BadLetters) = some false := of_decide_eq_true (T.fact 87 (f := exmB c_NoneNear c_BadLetters false) rfl)
theorem Txt.exm_NoneNear_BadNumber (T : Txt K mg) : PySem.W.exmOne K (.ref c_NoneNear) (.ref c_BadNumber) = some false := of_decide_eq_true (T.fact 88 (f := exmB c_NoneNear c_BadNumber false) rfl)
theorem Txt.exm_NoneNear_BadHeap (T : Txt K mg) : PySem.W.exmOne K (.ref c_NoneNear) (.ref c_BadHeap) = some false := of_decide_eq_true (T.fact 89 (f := exmB c_NoneNear c_BadHeap false) rfl)
theorem Txt.exm_NoneNear_BadPlaces (T : Txt K mg) : PySem.W.exmOne K (.ref c_NoneNear) (.ref c_BadPlaces) = some false := of_decide_eq_true (T.fact 90 (f := exmB c_NoneNear c_BadPlaces false) rfl)
theorem Txt.exm_NoneNear_BadWord (T : Txt K mg) : PySem.W.exmOne K (.ref c_NoneNear) (.ref c_BadWord) = some false := of_decide_eq_true (T.fact 91 (f := exmB c_NoneNear c_BadWord false) rfl)
theorem Txt.exm_NoneNear_EmptyChoice (T : Txt K mg) : PySem.W.exmOne K (.ref c_NoneNear) (.ref c_EmptyChoice) = some false := of_decide_eq_true (T.fact 92 (f := exmB c_NoneNear c_EmptyChoice false) rfl)
theorem Txt.exm_NoneNear_TooMany (T : Txt K mg) : PySem.W.exmOne K (.ref c_NoneNear) (.ref c_TooMany) = some false := of_decide_eq_true (T.fact 93 (f := exmB c_NoneNear c_TooMany false) rfl)
theorem Txt.exm_NoneNear_NoneNear (T : Txt K mg) : PySem.W.exmOne K (.ref c_NoneNear) (.ref c_NoneNear) = some true := of_decide_eq_true (T.fact 94 (f := exmB c_NoneNear c_NoneNear true) rfl)
theorem Txt.no_BadNumber_most (T : Txt K mg) : NoAttr K c_BadNumber "most" := He.eqO_ok (T.fact 95 (f := noaB c_BadNumber "most") rfl)
theorem Txt.tabA (T : Txt K mg) : tabA K = true := T.fact 99 (f := G.tabA) rfl
theorem Txt.fact_WITHOUT (T : Txt K mg) : tupB a_WITHOUT [1431655765, 858993459, 252645135, 16711935, 65535] K = true := T.fact 98 (f := tupB a_WITHOUT [1431655765, 858993459, 252645135, 16711935, 65535]) rfl
end
end G
set_option maxHeartbeats 4000000
-- text E1
namespace G
open PySem PySem.Spec PyProof.Rows L2
/-! ### operators over natural numbers -/
def rN (C : Nat → Nat → Prop) (g : Nat → Nat → V) : R2 := fun x y H Q => ∃ a b : Nat, x = .int a ∧ y = .int b ∧ C a b ∧ Q (g a b) H
def rN0 (g : Nat → Nat → V) : R2 := fun x y H Q => ∃ a b : Nat, x = .int a ∧ y = .int b ∧ Q (g a b) H
section
variable {X : Cx}
theorem bx_and (a b : Nat) : Builtin.bitAnd (a : Int) (b : Int) = ((a &&& b : Nat) : Int) := by
  rw [bitAnd_pp (by omega) (by omega), Int.toNat_natCast, Int.toNat_natCast]
theorem bx_or (a b : Nat) : Builtin.bitOr (a : Int) (b : Int) = ((a ||| b : Nat) : Int) := by
  rw [Bits.bitOr_pp (by omega) (by omega), Int.toNat_natCast, Int.toNat_natCast]
theorem bx_xor (a b : Nat) : Builtin.bitXor (a : Int) (b : Int) = ((a ^^^ b : Nat) : Int) := by
  rw [Bits.bitXor_pp (by omega) (by omega), Int.toNat_natCast, Int.toNat_natCast]
theorem on_and : OpR X (binaryOp .BitAnd) (rN0 fun a b => .int (a &&& b : Nat)) := by
  intro pins s σ H x y v u Q I rx ry h
  obtain ⟨a, b, rfl, rfl, q⟩ := h
  exact op_and pins s σ H _ _ v u Q I rx ry ⟨_, _, rfl, rfl, by dsimp only; rw [bx_and]; exact q⟩
theorem on_or : OpR X (binaryOp .BitOr) (rN0 fun a b => .int (a ||| b : Nat)) := by
  intro pins s σ H x y v u Q I rx ry h
  obtain ⟨a, b, rfl, rfl, q⟩ := h
  exact op_or pins s σ H _ _ v u Q I rx ry ⟨_, _, rfl, rfl, by dsimp only; rw [bx_or]; exact q⟩
theorem on_xor : OpR X (binaryOp .BitXor) (rN0 fun a b => .int (a ^^^ b : Nat)) := by
  intro pins s σ H x y v u Q I rx ry h
  obtain ⟨a, b, rfl, rfl, q⟩ := h
  exact op_xor pins s σ H _ _ v u Q I rx ry ⟨_, _, rfl, rfl, by dsimp only; rw [bx_xor]; exact q⟩
theorem on_shl : OpR X (binaryOp .LShift) (rN (fun a b => b ≤ 1000000 ∧ a < 2 ^ 64) fun a b => .int (a <<< b : Nat)) := by
  intro pins s σ H x y v u Q I rx ry h
  obtain ⟨a, b, rfl, rfl, ⟨hb, ha⟩, q⟩ := h
  refine op_shl pins s σ H _ _ v u Q I rx ry ⟨_, _, rfl, rfl, ⟨by omega, by omega, by rw [Int.natAbs_natCast]; exact ha⟩, ?_⟩
  dsimp only
  rw [Int.toNat_natCast]
  have e : ((a : Int) * 2 ^ b) = ((a <<< b : Nat) : Int) := by rw [Nat.shiftLeft_eq]; push_cast; rfl
  rw [e]; exact q
theorem on_shr : OpR X (binaryOp .RShift) (rN0 fun a b => .int (a >>> b : Nat)) := by
  intro pins s σ H x y v u Q I rx ry h
  obtain ⟨a, b, rfl, rfl, q⟩ := h
  refine op_shr pins s σ H _ _ v u Q I rx ry ⟨_, _, rfl, rfl, by omega, ?_⟩
  dsimp only
  rw [Int.toNat_natCast]
  have e : ((a : Int) / 2 ^ b) = ((a >>> b : Nat) : Int) := by rw [Nat.shiftRight_eq_div_pow]; push_cast; rfl
  rw [e]; exact q
theorem on_add : OpR X (binaryOp .Add) (rN0 fun a b => .int (a + b : Nat)) := by
  intro pins s σ H x y v u Q I rx ry h
  obtain ⟨a, b, rfl, rfl, q⟩ := h
  exact op_add pins s σ H _ _ v u Q I rx ry ⟨_, _, rfl, rfl, q⟩
theorem on_sub : OpR X (binaryOp .Sub) (rN (fun a b => b ≤ a) fun a b => .int (a - b : Nat)) := by
  intro pins s σ H x y v u Q I rx ry h
  obtain ⟨a, b, rfl, rfl, hl, q⟩ := h
  exact op_sub pins s σ H _ _ v u Q I rx ry ⟨_, _, rfl, rfl, by dsimp only; rw [← Int.ofNat_sub hl]; exact q⟩
theorem on_mul : OpR X (binaryOp .Mult) (rN (fun a b => a < 2 ^ 64) fun a b => .int (a * b : Nat)) := by
  intro pins s σ H x y v u Q I rx ry h
  obtain ⟨a, b, rfl, rfl, hl, q⟩ := h
  refine op_mul pins s σ H _ _ v u Q I rx ry ⟨_, _, rfl, rfl, .inl ⟨by omega, by exact_mod_cast hl⟩, ?_⟩
  have e : ((a : Int) * (b : Int)) = ((a * b : Nat) : Int) := by push_cast; rfl
  dsimp only
  rw [e]; exact q
theorem on_mod : OpR X (binaryOp .Mod) (rN (fun _ b => 0 < b) fun a b => .int (a % b : Nat)) := by
  intro pins s σ H x y v u Q I rx ry h
  obtain ⟨a, b, rfl, rfl, hl, q⟩ := h
  exact op_mod pins s σ H _ _ v u Q I rx ry ⟨_, _, rfl, rfl, (by show (0 : Int) < (b : Int); omega), q⟩
theorem on_div : OpR X (binaryOp .FloorDiv) (rN (fun _ b => 0 < b ∧ b < 1073741824) fun a b => .int (a / b : Nat)) := by
  intro pins s σ H x y v u Q I rx ry h
  obtain ⟨a, b, rfl, rfl, ⟨h1, h2⟩, q⟩ := h
  exact op_fdiv pins s σ H _ _ v u Q I rx ry ⟨_, _, rfl, rfl, ⟨by omega, by omega⟩, q⟩
theorem on_lt : OpR X (compareOp .Lt) (rN0 fun a b => .bl (decide (a < b))) := by
  intro pins s σ H x y v u Q I rx ry h
  obtain ⟨a, b, rfl, rfl, q⟩ := h
  refine op_lt pins s σ H _ _ v u Q I rx ry ⟨_, _, rfl, rfl, ?_⟩
  dsimp only
  simpa only [Int.ofNat_lt] using q
theorem on_le : OpR X (compareOp .LtE) (rN0 fun a b => .bl (decide (a ≤ b))) := by
  intro pins s σ H x y v u Q I rx ry h
  obtain ⟨a, b, rfl, rfl, q⟩ := h
  refine op_le pins s σ H _ _ v u Q I rx ry ⟨_, _, rfl, rfl, ?_⟩
  dsimp only
  simpa only [Int.ofNat_le] using q
theorem on_gt : OpR X (compareOp .Gt) (rN0 fun a b => .bl (decide (b < a))) := by
  intro pins s σ H x y v u Q I rx ry h
  obtain ⟨a, b, rfl, rfl, q⟩ := h
  refine op_gt pins s σ H _ _ v u Q I rx ry ⟨_, _, rfl, rfl, ?_⟩
  dsimp only
  simpa only [Int.ofNat_lt] using q
theorem on_ge : OpR X (compareOp .GtE) (rN0 fun a b => .bl (decide (b ≤ a))) := by
  intro pins s σ H x y v u Q I rx ry h
  obtain ⟨a, b, rfl, rfl, q⟩ := h
  refine op_ge pins s σ H _ _ v u Q I rx ry ⟨_, _, rfl, rfl, ?_⟩
  dsimp only
  simpa only [Int.ofNat_le] using q
theorem dec_int (a b : Nat) : decide (V.int (a : Int) = V.int (b : Int)) = decide (a = b) := by
  by_cases h : a = b
  · subst h; simp
  · have : ¬ V.int (a : Int) = V.int (b : Int) := fun e => h (by injection e with e; omega)
    rw [decide_eq_false h, decide_eq_false this]
theorem on_eq : OpR X (compareOp .Eq) (rN0 fun a b => .bl (decide (a = b))) := by
  intro pins s σ H x y v u Q I rx ry h
  obtain ⟨a, b, rfl, rfl, q⟩ := h
  exact op_eq pins s σ H _ _ v u Q I rx ry ⟨rfl, by rw [dec_int]; exact q⟩
theorem on_ne : OpR X (compareOp .NotEq) (rN0 fun a b => .bl (!decide (a = b))) := by
  intro pins s σ H x y v u Q I rx ry h
  obtain ⟨a, b, rfl, rfl, q⟩ := h
  exact op_ne pins s σ H _ _ v u Q I rx ry ⟨rfl, by rw [dec_int]; exact q⟩
end
end G
set_option maxHeartbeats 4000000
-- text E2
namespace G
open PySem PySem.Spec PyProof.Rows L2
/-! ### readings, a step at a time -/
section
variable {σ : L2.St} {H : Hp} {Q : VK} {D : Ends} {ta tb te : TE} {tt tu : TT} {t u : TS} {tl : TA} {r : R2} {i : Nat} {v : V} {K : PySem.W.Frag}
theorem rd_var (h : σ[i]? = some (some v)) (q : Q v H) : tVar i σ H Q := ⟨v, h, q⟩
theorem rd_c (q : Q v H) : tC v σ H Q := q
theorem rd_op (h : ta σ H fun x H1 => tb σ H1 fun y H2 => r x y H2 Q) : tOp r ta tb σ H Q := h
theorem rd_n {C : Nat → Nat → Prop} {g : Nat → Nat → V} {a b : Nat} (c : C a b) (q : Q (g a b) H) : rN C g (.int a) (.int b) H Q := ⟨a, b, rfl, rfl, c, q⟩
theorem rd_n0 {g : Nat → Nat → V} {a b : Nat} (q : Q (g a b) H) : rN0 g (.int a) (.int b) H Q := ⟨a, b, rfl, rfl, q⟩
theorem rd_i0 {g : Int → Int → V} {a b : Int} (q : Q (g a b) H) : rI0 g (.int a) (.int b) H Q := ⟨a, b, rfl, rfl, q⟩
theorem rd_i {C : Int → Int → Prop} {g : Int → Int → V} {a b : Int} (c : C a b) (q : Q (g a b) H) : rI C g (.int a) (.int b) H Q := ⟨a, b, rfl, rfl, c, q⟩
theorem rd_un {g : Int → V} {a : Int} (q : Q (g a) H) : rU g (.int a) H Q := ⟨a, rfl, q⟩
theorem rd_tun {r : V → Hp → VK → Prop} (h : ta σ H fun x H1 => r x H1 Q) : tUn r ta σ H Q := h
theorem rd_seq (h : t { D with nx := u D } σ H) : tSeq t u D σ H := h
theorem rd_asg {g : TG} (h : te σ H fun x H1 => g x σ H1 D.nx) : tAsg te g D σ H := h
theorem rd_name {q : L2.St → Hp → Prop} (h : q (σ.set i (some v)) H) : gName i v σ H q := h
theorem rd_drop (h : te σ H fun _ H1 => D.nx σ H1) : tDrop te D σ H := h
theorem rd_ret (h : te σ H D.rt) : tRet te D σ H := h
theorem rd_retN (h : D.rt .non H) : tRetN D σ H := h
theorem rd_next (h : D.nx σ H) : tNext D σ H := h
theorem rd_if (h : tt σ H fun b H1 => if b = true then t D σ H1 else u D σ H1) : tIfS tt t u D σ H := h
theorem rd_test {q : Bool → Hp → Prop} (h : te σ H fun x H1 => ∃ k, x = .bl k ∧ q k H1) : tTest te σ H q := h
theorem rd_b {q : Bool → Hp → Prop} (h : te σ H fun x H1 => ∃ k, x = .bl k ∧ q k H1) : tB te σ H q := h
theorem rd_bl {b : Bool} {q : Bool → Prop} (h : q b) : ∃ k, V.bl b = .bl k ∧ q k := ⟨b, rfl, h⟩
theorem ite_tt {p q : Prop} (h : p) : if true = true then p else q := h
theorem ite_ff {p q : Prop} (h : q) : if false = true then p else q := by rw [if_neg Bool.false_ne_true]; exact h
theorem ite_nt {p q : Prop} (h : q) : if (!true) = true then p else q := by rw [if_neg (by decide)]; exact h
theorem ite_nf {p q : Prop} (h : p) : if (!false) = true then p else q := h
theorem rd_not {q : Bool → Hp → Prop} (h : tt σ H fun b H1 => q (!b) H1) : tNot tt σ H q := h
theorem rd_and {q : Bool → Hp → Prop} (h : tt σ H fun c H1 => if c = true then tu σ H1 q else q false H1) : tAnd tt tu σ H q := h
theorem rd_or {q : Bool → Hp → Prop} (h : tt σ H fun c H1 => if c = true then q true H1 else tu σ H1 q) : tOr tt tu σ H q := h
theorem rd_andV (h : ta σ H fun x H1 => ∃ c, x = .bl c ∧ if c = true then tb σ H1 Q else Q (.bl false) H1) : tAndV ta tb σ H Q := h
theorem rd_orV (h : ta σ H fun x H1 => ∃ c, x = .bl c ∧ if c = true then Q (.bl true) H1 else tb σ H1 Q) : tOrV ta tb σ H Q := h
theorem rd_notV (h : ta σ H fun x H1 => ∃ c, x = .bl c ∧ Q (.bl (!c)) H1) : tNotV ta σ H Q := h
theorem rd_ife (h : tt σ H fun c H1 => if c = true then ta σ H1 Q else tb σ H1 Q) : tIf tt ta tb σ H Q := h
theorem rd_nil {q : List V → Hp → Prop} (h : q [] H) : tNil σ H q := h
theorem rd_cons {q : List V → Hp → Prop} (h : ta σ H fun x H1 => tl σ H1 fun xs H2 => q (x :: xs) H2) : tCons ta tl σ H q := h
theorem rd_call {sp : Sp} {E : XK} (h : tl σ H fun vs H1 => sp vs H1 Q E) : tCall sp [] E tl σ H Q := by
  unfold tCall
  simp only [List.append_nil]
  exact h
theorem rd_cb {rr : List V → Hp → VK → Prop} (h : tl σ H fun vs H1 => rr vs H1 Q) : tCB rr tl σ H Q := h
theorem rd_fld {f : Str} (h : ta σ H fun x H1 => ∃ a C dx fs v, x = .ref a ∧ H1 a = some (.ins C dx fs) ∧ Cls K C ∧ NoAttr K C f ∧ fs.lookup f = some v ∧ Q v H1) : tFld K ta f σ H Q := h
theorem rd_tup (h : tl σ H fun xs H1 => xs.length ≤ sizeLine ∧ ∀ p, H1 p = none → Q (.ref p) (upd H1 p (.tup xs))) : tTup tl σ H Q := h
theorem rd_lst (h : tl σ H fun xs H1 => xs.length ≤ sizeLine ∧ ∀ p, H1 p = none → Q (.ref p) (upd H1 p (.lst xs))) : tLst tl σ H Q := h
theorem rd_chain {r r' : R2} {tc : TE} (h : ta σ H fun x H1 => tb σ H1 fun y H2 => r x y H2 fun z H3 => ∃ k, z = .bl k ∧ (if k = true then tc σ H3 fun w' H4 => r' y w' H4 Q else Q (.bl false) H3)) : tChain r r' ta tb tc σ H Q := h
end
/-! ### written numbers -/
theorem pe_n {X : Cx} (n : Nat) {j : Nat} {pos : Pos} : PE X (.Constant (.int (n : Int)) j pos) (tC (.int (n : Int))) := pe_int
end G
namespace G
open PySem PySem.Spec PyProof.Rows L2
end G
set_option maxHeartbeats 4000000
-- text M0
/-! # what the program computes, in plain words -/
namespace M
def onesF : Nat → Nat → Nat
  | 0, _ => 0
  | f + 1, n => if n = 0 then 0 else n % 2 + onesF f (n / 2)
/-- how many ones -/
def ones (n : Nat) : Nat := onesF n n
theorem onesF_eq : ∀ (f g n : Nat), n ≤ f → n ≤ g → onesF f n = onesF g n := by
  intro f
  induction f with
  | zero =>
    intro g n h _
    have : n = 0 := by omega
    subst this
    cases g <;> rfl
  | succ f ih =>
    intro g n h1 h2
    cases g with
    | zero =>
      have : n = 0 := by omega
      subst this
      rfl
    | succ g =>
      by_cases h : n = 0
      · subst h; rfl
      · show (if n = 0 then 0 else n % 2 + onesF f (n / 2)) = (if n = 0 then 0 else n % 2 + onesF g (n / 2))
        rw [if_neg h, if_neg h, ih g (n / 2) (by omega) (by omega)]
theorem ones_zero : ones 0 = 0 := rfl
theorem ones_step (n : Nat) (h : n ≠ 0) : ones n = n % 2 + ones (n / 2) := by
  unfold ones
  cases n with
  | zero => exact absurd rfl h
  | succ k =>
    show (if k + 1 = 0 then 0 else (k + 1) % 2 + onesF k ((k + 1) / 2)) = _
    rw [if_neg h, onesF_eq k ((k + 1) / 2) ((k + 1) / 2) (by omega) (by omega)]
theorem ones_eq (n : Nat) : ones n = n % 2 + ones (n / 2) := by
  by_cases h : n = 0
  · subst h; rfl
  · exact ones_step n h
def without (l : Nat) : Nat := [1431655765, 858993459, 252645135, 16711935, 65535].getD l 0
def full (m : Nat) : Nat := 1 <<< (1 <<< m) - 1
def stp (m w l : Nat) : Nat := w ^^^ ((w &&& without l) <<< (1 <<< l) &&& full m)
def stepped (m w : Nat) : Nat := (List.range m).foldl (stp m) w
def onesOf (m n : Nat) : List Nat := (List.range (1 <<< m)).filter fun p => decide ((n >>> p &&& 1) ≠ 0)
def heapW (m h : Nat) : Nat := stepped m (1 <<< h)
def heapsOf (m w : Nat) : List Nat := onesOf m (stepped m w)
def mark (ps : List Nat) : Nat := ps.foldl (fun w p => w ||| 1 <<< p) 0
def lettersOf (h : Nat) : List Nat := (List.range 5).filter fun l => decide ((h >>> l &&& 1) ≠ 0)
def firstPl (m h : Nat) : List Nat := (List.range (1 <<< m)).filter fun p => decide ((p &&& h) = 0)
def folded (h w : Nat) : Nat := (lettersOf h).foldl (fun f l => f ^^^ f >>> (1 <<< l)) w
def votes (m w h : Nat) : List Nat := (firstPl m h).map fun p => folded h w >>> p &&& 1
def spoilt (m w h : Nat) : Nat := (votes m w h).sum
/-- most letters -/
def tops (hs : List Nat) : Nat := (hs.map ones).foldl max 0
def sure (m : Nat) (hs : List Nat) : Nat := if hs = [] then 1 <<< m else (1 <<< (m - tops hs) - 1) / 2
def xorAll (ws : List Nat) : Nat := ws.foldr (fun a b => a ^^^ b) 0
/-- a word of the code -/
def InCode (m : Nat) (hs : List Nat) (w : Nat) : Prop := ∃ S : List Nat, (∀ h ∈ S, h ∈ hs) ∧ w = xorAll (S.map (heapW m))
def bitOf (vs : List Nat) : Option Nat := if 2 * vs.sum = vs.length then none else some (if vs.length < 2 * vs.sum then 1 else 0)
def stepsF (m : Nat) : List Nat → Nat → List (Nat × List Nat × Option Nat × Nat)
  | [], _ => []
  | h :: hs, rest => match bitOf (votes m rest h) with
    | none => [(h, votes m rest h, none, rest)]
    | some b => (h, votes m rest h, some b, if b = 1 then rest ^^^ heapW m h else rest) :: stepsF m hs (if b = 1 then rest ^^^ heapW m h else rest)
/-- all sums of the rows, in order -/
def sums (rows : List Nat) : List Nat := rows.foldl (fun ws r => ws ++ ws.map fun w => w ^^^ r) [0]
/-- strictly ascending -/
abbrev Asc (xs : List Nat) : Prop := xs.Pairwise (· < ·)
theorem asc_len : ∀ (xs : List Nat) (a n : Nat), Asc xs → (∀ x ∈ xs, a ≤ x ∧ x < n) → xs.length ≤ n - a := by
  intro xs
  induction xs with
  | nil => intro a n _ _; exact Nat.zero_le _
  | cons x r ih =>
    intro a n h hb
    have hx := hb x List.mem_cons_self
    have z := ih (x + 1) n h.of_cons fun y hy => ⟨List.rel_of_pairwise_cons h hy, (hb y (List.mem_cons_of_mem _ hy)).2⟩
    rw [List.length_cons]
    omega
structure Ch (m : Nat) (hs : List Nat) : Prop where
  m1 : 1 ≤ m
  m5 : m ≤ 5
  asc : Asc hs
  lt : ∀ h ∈ hs, h < 2 ^ m
end M
set_option maxHeartbeats 4000000
-- text E3
namespace G
open PySem PySem.Spec PyProof.Rows L2
/-! ### what is known stays known -/
def Sm (H H' : Hp) : Prop := ∀ b o, H b = some o → H' b = some o
theorem Sm.refl {H : Hp} : Sm H H := fun _ _ e => e
theorem Sm.trans {A B C : Hp} (x : Sm A B) (y : Sm B C) : Sm A C := fun b o e => y b o (x b o e)
theorem Sm.new {H : Hp} {p : Addr} {o : HO} (n : H p = none) : Sm H (upd H p o) := fun b u e => by rw [upd_ne (ne_of_none e n)]; exact e
/-- H' keeps H but for what is new at p -/
theorem Sm.upd {H H' : Hp} {p : Addr} {o : HO} (s : Sm H H') (n : H p = none) : Sm H (upd H' p o) := fun b u e => by rw [upd_ne (ne_of_none e n)]; exact s b u e
theorem Sm.none {H H' : Hp} (s : Sm H H') {b : Addr} (n : H' b = none) : H b = none := by
  cases q : H b with
  | none => rfl
  | some o => rw [s b o q] at n; cases n
theorem Sm.sqT {H H' : Hp} {K : PySem.W.Frag} {a : Addr} {xs : List V} (s : Sm H H') (h : SqT K H a xs) : SqT K H' a xs := by
  rcases h with (h | ⟨o, h⟩) | h
  · exact .inl (.inl (s _ _ h))
  · exact .inl (.inr ⟨o, s _ _ h⟩)
  · exact .inr h
theorem Sm.sqL {H H' : Hp} {K : PySem.W.Frag} {a : Addr} {xs : List V} (s : Sm H H') (h : SqL K H a xs) : SqL K H' a xs := by
  rcases h with (h | ⟨o, h⟩) | h
  · exact .inl (.inl (s _ _ h))
  · exact .inl (.inr ⟨o, s _ _ h⟩)
  · exact .inr h
theorem sqT_of {H : Hp} {K : PySem.W.Frag} {a : Addr} {xs : List V} (h : H a = some (.tup xs)) : SqT K H a xs := .inl (.inl h)
theorem sqL_of {H : Hp} {K : PySem.W.Frag} {a : Addr} {xs : List V} (h : H a = some (.lst xs)) : SqL K H a xs := .inl (.inl h)
/-- numbers as values -/
abbrev nv (n : Nat) : V := .int (n : Int)
abbrev nvs (xs : List Nat) : List V := xs.map nv
theorem nvs_int (xs : List Nat) : nvs xs = (xs.map fun (n : Nat) => (n : Int)).map V.int := by rw [List.map_map]; rfl
theorem nv_inj {a b : Nat} (h : nv a = nv b) : a = b := by
  have : (a : Int) = b := by injection h
  omega
section
variable {σ : L2.St} {H : Hp} {Q : Addr → Hp → Prop} {D : Ends} {ta tb te : TE} {tt tu : TT} {t u : TS} {tl : TA} {r : R2} {i : Nat} {v : V} {K : PySem.W.Frag}
/-! ### comprehensions -/
/-- an element is put behind the list at D -/
def Elm (D : Addr) (Nx : Hp → Prop) : VK := fun y H4 => ∃ acc, H4 D = some (.lst acc) ∧ acc.length < sizeLine ∧ Nx (upd H4 D (.lst (acc ++ [y])))
/-- a comprehension over what J walks, one name, by the invariant Pv; the heap grows -/
theorem lc_name {J : It} {xs : List V} {H1 : Hp} (hn : xs.length ≤ sizeLine) (Wk : ∀ k H, Sm H1 H → (k < xs.length → J.go k H ∧ ∀ x H', J.yld k H x H' → H' = H ∧ xs[k]? = some x) ∧ (k = xs.length → J.stop k H))
    (Pv : Nat → List V → Hp → Prop) (p0 : ∀ D, H1 D = none → Pv 0 [] (upd H1 D (.lst [])))
    (step : ∀ k x, xs[k]? = some x → ∀ H acc D, Sm H1 H → H1 D = none → H D = some (.lst acc) → Pv k acc H → ∀ Nx : Hp → Prop, (∀ H3, Sm H H3 → Pv (k + 1) acc H3 → Nx H3) →
      (∀ y H4, Sm H H4 → Pv (k + 1) (acc ++ [y]) (upd H4 D (.lst (acc ++ [y]))) → Elm D Nx y H4) → tt ((wipe σ [i]).set i (some x)) H fun b H3 => if b = true then te ((wipe σ [i]).set i (some x)) H3 (Elm D Nx) else Nx H3)
    (fin : ∀ H acc D, Sm H1 H → H1 D = none → H D = some (.lst acc) → Pv xs.length acc H → Q D H) :
    ∀ D, H1 D = none → ∃ W : Nat → Nat → Hp → Prop, (∃ m, W 0 m (upd H1 D (.lst []))) ∧ ∀ i' m H, W i' m H →
      (J.stop i' H ∧ Q D H) ∨ (J.go i' H ∧ ∃ Nx : Hp → Prop, (∀ H', Nx H' → ∃ m', m' < m ∧ W (i' + 1) m' H') ∧ ∀ x H', J.yld i' H x H' → gName i x (wipe σ [i]) H' fun σ2 H2 => wipe σ2 [i] = wipe σ [i] ∧ tt σ2 H2 fun b H3 =>
        if b = true then te σ2 H3 fun y H4 => ∃ acc, H4 D = some (.lst acc) ∧ acc.length < sizeLine ∧ Nx (upd H4 D (.lst (acc ++ [y]))) else Nx H3) := by
  intro D hD
  refine ⟨fun k m H => m = xs.length - k ∧ k ≤ xs.length ∧ Sm H1 H ∧ ∃ acc, H D = some (.lst acc) ∧ acc.length ≤ k ∧ Pv k acc H, ⟨_, rfl, Nat.zero_le _, Sm.new hD, [], upd_same, Nat.le_refl _, p0 D hD⟩, ?_⟩
  rintro k m H ⟨rfl, hk, hS, acc, hacc, hlen, hP⟩
  by_cases hlt : k < xs.length
  · right
    obtain ⟨hgo, hy⟩ := (Wk k H hS).1 hlt
    refine ⟨hgo, fun H' => k + 1 ≤ xs.length ∧ Sm H1 H' ∧ ∃ acc, H' D = some (.lst acc) ∧ acc.length ≤ k + 1 ∧ Pv (k + 1) acc H', fun H' ⟨a, b, acc', c, d, e⟩ => ⟨xs.length - (k + 1), by omega, rfl, hlt, b, acc', c, d, e⟩, fun x H' y => ?_⟩
    obtain ⟨rfl, hx⟩ := hy x H' y
    refine ⟨by show (((σ.set i none).set i (some x)).set i none) = σ.set i none; rw [List.set_set, List.set_set], ?_⟩
    refine step k x hx H' acc D hS hD hacc hP _ (fun H3 s3 p3 => ⟨hlt, hS.trans s3, acc, s3 _ _ hacc, by omega, p3⟩) fun y H4 s4 p4 => ⟨acc, s4 _ _ hacc, by omega, hlt, (hS.trans s4).upd hD, _, upd_same, by rw [List.length_append, List.length_singleton]; omega, p4⟩
  · left
    have e : k = xs.length := by omega
    subst e
    exact ⟨(Wk _ H hS).2 rfl, fin H acc D hS hD hacc hP⟩
abbrev LcGoal (J : It) (i : Nat) (tt : TT) (te : TE) (σ : L2.St) (H1 : Hp) (Q : Addr → Hp → Prop) : Prop := ∀ D, H1 D = none → ∃ W : Nat → Nat → Hp → Prop, (∃ m, W 0 m (upd H1 D (.lst []))) ∧ ∀ i' m H, W i' m H →
      (J.stop i' H ∧ Q D H) ∨ (J.go i' H ∧ ∃ Nx : Hp → Prop, (∀ H', Nx H' → ∃ m', m' < m ∧ W (i' + 1) m' H') ∧ ∀ x H', J.yld i' H x H' → gName i x (wipe σ [i]) H' fun σ2 H2 => wipe σ2 [i] = wipe σ [i] ∧ tt σ2 H2 fun b H3 =>
        if b = true then te σ2 H3 fun y H4 => ∃ acc, H4 D = some (.lst acc) ∧ acc.length < sizeLine ∧ Nx (upd H4 D (.lst (acc ++ [y]))) else Nx H3)
/-- over a range; tests and elements by functions -/
theorem lc_rng {n : Nat} {H1 : Hp} (hn : n ≤ sizeLine) (p : Nat → Bool) (f : Nat → V)
    (step : ∀ k, k < n → ∀ H D, Sm H1 H → ∀ Nx : Hp → Prop, (∀ H3, Sm H H3 → p k = false → Nx H3) → (∀ H4, Sm H H4 → p k = true → Elm D Nx (f k) H4) → tt ((wipe σ [i]).set i (some (nv k))) H fun b H3 => if b = true then te ((wipe σ [i]).set i (some (nv k))) H3 (Elm D Nx) else Nx H3)
    (fin : ∀ H D, Sm H1 H → H1 D = none → H D = some (.lst (((List.range n).filter p).map f)) → Q D H) : LcGoal (Itr 0 n) i tt te σ H1 Q := by
  refine lc_name (xs := (List.range n).map nv) (by simpa using hn) (fun k H _ => ⟨fun hk => ?_, fun hk => ?_⟩) (fun k acc _ => acc = ((List.range k).filter p).map f) (fun D _ => rfl) (fun k x hx H acc D hS hD hacc hP Nx h1 h2 => ?_) (fun H acc D hS hD hacc hP => ?_)
  · have hk' : k < n := by simpa using hk
    refine ⟨hk', fun x H' ⟨e1, e2⟩ => ⟨e1, ?_⟩⟩
    rw [List.getElem?_map, List.getElem?_range hk', e2]
    simp
  · show n ≤ k
    simp at hk; omega
  · have hk : k < n := by
      have := (List.getElem?_eq_some_iff.mp hx).1
      simpa using this
    have ex : x = nv k := by
      rw [List.getElem?_map, List.getElem?_range hk] at hx
      simpa using hx.symm
    subst ex
    refine step k hk H D hS Nx (fun H3 s3 hp => h1 H3 s3 ?_) fun H4 s4 hp => h2 (f k) H4 s4 ?_
    · rw [hP, List.range_succ, List.filter_append, List.map_append]; simp [hp]
    · rw [hP, List.range_succ, List.filter_append, List.map_append]; simp [hp]
  · refine fin H D hS hD ?_
    rw [hacc, hP]; simp
/-- over a list or a tuple of numbers -/
theorem lc_nums {J : It} {xs : List Nat} {H1 : Hp} (hn : xs.length ≤ sizeLine) (Wk : ∀ k H, Sm H1 H → (k < xs.length → J.go k H ∧ ∀ x H', J.yld k H x H' → H' = H ∧ (nvs xs)[k]? = some x) ∧ (k = xs.length → J.stop k H)) (p : Nat → Bool) (f : Nat → V)
    (step : ∀ x, x ∈ xs → ∀ H D, Sm H1 H → ∀ Nx : Hp → Prop, (∀ H3, Sm H H3 → p x = false → Nx H3) → (∀ H4, Sm H H4 → p x = true → Elm D Nx (f x) H4) → tt ((wipe σ [i]).set i (some (nv x))) H fun b H3 => if b = true then te ((wipe σ [i]).set i (some (nv x))) H3 (Elm D Nx) else Nx H3)
    (fin : ∀ H D, Sm H1 H → H1 D = none → H D = some (.lst ((xs.filter p).map f)) → Q D H) : LcGoal J i tt te σ H1 Q := by
  refine lc_name (xs := nvs xs) (by simpa using hn) (fun k H s => ⟨fun hk => (Wk k H s).1 (by simpa using hk), fun hk => (Wk k H s).2 (by simpa using hk)⟩) (fun k acc _ => acc = ((xs.take k).filter p).map f) (fun D _ => rfl) (fun k x hx H acc D hS hD hacc hP Nx h1 h2 => ?_) (fun H acc D hS hD hacc hP => ?_)
  · have hk : k < xs.length := by
      have := (List.getElem?_eq_some_iff.mp hx).1
      simpa using this
    have ex : x = nv xs[k] := by
      rw [List.getElem?_map, List.getElem?_eq_getElem hk] at hx
      simpa using hx.symm
    subst ex
    have et : xs.take (k + 1) = xs.take k ++ [xs[k]] := by rw [List.take_add_one, List.getElem?_eq_getElem hk]; rfl
    refine step xs[k] (List.getElem_mem hk) H D hS Nx (fun H3 s3 hp => h1 H3 s3 ?_) fun H4 s4 hp => h2 _ H4 s4 ?_
    · rw [hP, et, List.filter_append, List.map_append]; simp [hp]
    · rw [hP, et, List.filter_append, List.map_append]; simp [hp]
  · refine fin H D hS hD ?_
    rw [hacc, hP, List.length_map, List.take_length]
theorem wk_tup {a : Addr} {xs : List V} {H1 : Hp} (h : SqT K H1 a xs) : ∀ k H, Sm H1 H → (k < xs.length → (Itt K a).go k H ∧ ∀ x H', (Itt K a).yld k H x H' → H' = H ∧ xs[k]? = some x) ∧ (k = xs.length → (Itt K a).stop k H) := fun k H s =>
  ⟨fun hk => ⟨⟨xs, xs[k], s.sqT h, List.getElem?_eq_getElem hk⟩, fun x H' ⟨e1, e2⟩ => ⟨e1, e2 xs (s.sqT h)⟩⟩, fun hk => ⟨xs, s.sqT h, by omega⟩⟩
theorem wk_lst {a : Addr} {xs : List V} {H1 : Hp} (h : SqL K H1 a xs) : ∀ k H, Sm H1 H → (k < xs.length → (Itl K a).go k H ∧ ∀ x H', (Itl K a).yld k H x H' → H' = H ∧ xs[k]? = some x) ∧ (k = xs.length → (Itl K a).stop k H) := fun k H s =>
  ⟨fun hk => ⟨⟨xs, xs[k], s.sqL h, List.getElem?_eq_getElem hk⟩, fun x H' ⟨e1, e2⟩ => ⟨e1, e2 xs (s.sqL h)⟩⟩, fun hk => ⟨xs, s.sqL h, by omega⟩⟩
end
end G
set_option maxHeartbeats 4000000
-- text E4
namespace G
open PySem PySem.Spec PyProof.Rows L2
section
variable {σ : L2.St} {H : Hp} {Q : VK} {D : Ends} {ta tb te : TE} {tt tu : TT} {t u : TS} {tl : TA} {r : R2} {i : Nat} {v : V} {K : PySem.W.Frag} {wi : TI} {gg : TG}
theorem rd_lc {vs : List Nat} (h : wi σ H fun J H1 => ∀ D, H1 D = none → ∃ W : Nat → Nat → Hp → Prop, (∃ m, W 0 m (upd H1 D (.lst []))) ∧ ∀ i m H, W i m H →
  (J.stop i H ∧ Q (.ref D) H) ∨ (J.go i H ∧ ∃ Nx : Hp → Prop, (∀ H', Nx H' → ∃ m', m' < m ∧ W (i + 1) m' H') ∧ ∀ x H', J.yld i H x H' → gg x (wipe σ vs) H' fun σ2 H2 => wipe σ2 vs = wipe σ vs ∧ tt σ2 H2 fun b H3 =>
    if b = true then te σ2 H3 fun y H4 => ∃ acc, H4 D = some (.lst acc) ∧ acc.length < sizeLine ∧ Nx (upd H4 D (.lst (acc ++ [y]))) else Nx H3)) : tLc wi gg tt te vs σ H Q := h
theorem rd_for (h : wi σ H fun J H1 => ∃ W : Nat → Nat → L2.St → Hp → Prop, (∃ m, W 0 m σ H1) ∧ ∀ i m σ H, W i m σ H →
  (J.stop i H ∧ D.nx σ H) ∨ (J.go i H ∧ ∃ N : L2.St → Hp → Prop, (∀ σ' H', N σ' H' → ∃ m', m' < m ∧ W (i + 1) m' σ' H') ∧ ∀ x H', J.yld i H x H' → gg x σ H' fun σ2 H2 => t { D with nx := N, ct := N, bk := D.nx } σ2 H2)) : tFor wi gg t D σ H := h
theorem rd_irng {R : It → Hp → Prop} (h : tl σ H fun vs H1 => ∃ n : Nat, vs = [nv n] ∧ n < 4611686018427387904 ∧ R (Itr 0 n) H1) (mono : ∀ Q Q' : List V → Hp → Prop, (∀ vs H, Q vs H → Q' vs H) → tl σ H Q → tl σ H Q') : iRng1 tl σ H R :=
  mono _ _ (fun vs H1 ⟨n, e, b, q⟩ => ⟨(n : Int), e, by omega, by omega, by simpa using q⟩) h
theorem rng_of {n : Nat} {R : It → Prop} (b : n < 4611686018427387904) (q : R (Itr 0 n)) : ∃ j : Int, [nv n] = [V.int j] ∧ -(2 ^ 62) ≤ j ∧ j < 2 ^ 62 ∧ R (Itr 0 j.toNat) := ⟨(n : Int), rfl, by omega, by omega, by simpa using q⟩
theorem rd_ir1 {R : It → Hp → Prop} (h : tl σ H fun vs H1 => ∃ j : Int, vs = [.int j] ∧ -(2 ^ 62) ≤ j ∧ j < 2 ^ 62 ∧ R (Itr 0 j.toNat) H1) : iRng1 tl σ H R := h
theorem rd_il {R : It → Hp → Prop} (h : ta σ H fun x H1 => ∃ a, x = .ref a ∧ (∃ xs, SqL K H1 a xs) ∧ R (Itl K a) H1) : iList K ta σ H R := h
theorem rd_it {R : It → Hp → Prop} (h : ta σ H fun x H1 => ∃ a, x = .ref a ∧ (∃ xs, SqT K H1 a xs) ∧ R (Itt K a) H1) : iTup K ta σ H R := h
theorem rd_yes {q : Bool → Hp → Prop} (h : q true H) : tYes σ H q := h
theorem rd_elm {D : Addr} {Nx : Hp → Prop} {y : V} (h : Elm D Nx y H) : ∃ acc, H D = some (.lst acc) ∧ acc.length < sizeLine ∧ Nx (upd H D (.lst (acc ++ [y]))) := h
end
section
variable {X : Cx} {ta : TE} {a : Expr}
/-- a number's truth -/
def rNumT : V → Hp → (Bool → Hp → Prop) → Prop := fun x H q => ∃ n : Nat, x = nv n ∧ q (decide (n ≠ 0)) H
theorem tru_num : TruR X rNumT := by
  intro pins s σ H x v Q I rx h
  obtain ⟨n, rfl, q⟩ := h
  refine tru_ok pins s σ H _ v Q I rx ⟨_, rfl, ?_⟩
  have e : ((n : Int) != 0) = decide (n ≠ 0) := by
    by_cases z : n = 0
    · subst z; rfl
    · have z2 : ((n : Int) == 0) = false := by simpa using z
      rw [bne, z2, decide_eq_true z]; rfl
  rw [e]; exact q
def tNum (ta : TE) : TT := fun σ H q => ta σ H fun x H' => rNumT x H' q
theorem pt_num (ha : PE X a ta) (he : ∀ whole, isTrue a X.env whole = (do let v ← whole; standAt a.pos; holding [v] (truthy v)) := by intro _; rfl) : PT X a (tNum ta) := pt_truthR ha tru_num he
theorem rd_num {σ : L2.St} {H : Hp} {q : Bool → Hp → Prop} (h : ta σ H fun x H' => rNumT x H' q) : tNum ta σ H q := h
theorem rd_numT {H : Hp} {q : Bool → Hp → Prop} {n : Nat} (h : q (decide (n ≠ 0)) H) : rNumT (nv n) H q := ⟨n, rfl, h⟩
end
end G
set_option maxHeartbeats 4000000
-- text S1
/-! # a generator that sleeps is left alone by code that runs beside it -/
namespace GG
open PySem
open Sem (wp)
def flat : Frame → Frame
  | .gen _ _ l c p => .ret (fun _ => .unsupported "x") none false l c p []
  | f => f
/-- asleep for good -/
def stick : GenState → GenState
  | .suspended _ l c p fs cl => .suspended (fun _ => .unsupported "x") l c p (fs.map flat) cl
  | x => x
theorem where_flat (f : Frame) : (flat f).where_ = f.where_ := by cases f <;> rfl
theorem seen_stick (x : GenState) : (stick x).seen = x.seen := by
  cases x with
  | suspended k l c p fs cl =>
    show (GenStatus.suspended, some ((c, p) :: (fs.map flat).map Frame.where_)) = (GenStatus.suspended, some ((c, p) :: fs.map Frame.where_))
    rw [List.map_map, show (Frame.where_ ∘ flat) = Frame.where_ from funext where_flat]
  | _ => rfl
theorem bare_stick (x : GenState) : (stick x).bare = x.bare := by cases x <;> rfl
def isGen : Frame → Bool
  | .gen .. => true
  | _ => false
def NoGen (fs : List Frame) : Prop := ∀ f ∈ fs, isGen f = false
theorem NoGen.nil : NoGen [] := fun _ h => by cases h
theorem NoGen.app {a b : List Frame} (x : NoGen a) (y : NoGen b) : NoGen (a ++ b) := fun f h => (List.mem_append.mp h).elim (x f) (y f)
theorem noGen_flat (fs : List Frame) : NoGen (fs.map flat) := fun f h => by
  obtain ⟨g, _, rfl⟩ := List.mem_map.mp h
  cases g <;> rfl
theorem NoGen.split {fs : List Frame} (x : NoGen fs) : splitAtGen fs = none := by
  induction fs with
  | nil => rfl
  | cons f fs ih =>
    cases f with
    | ret => show (splitAtGen fs).map _ = none; rw [ih fun g h => x g (List.mem_cons_of_mem _ h)]; rfl
    | gen => have := x _ List.mem_cons_self; cases this
def EndOk : End → Prop
  | .ret _ => True
  | .susp _ _ _ _ _ _ fs => NoGen fs
def StOk : GenState → Prop
  | .suspended _ _ _ _ fs _ => NoGen fs
  | _ => True
theorem EndOk.st {e : End} (h : EndOk e) : StOk e.genState := by cases e <;> exact h
def Stuck (x : GenState) : Prop := ∃ l c p fs cl, x = .suspended (fun _ => .unsupported "x") l c p fs cl
/-- two tables of generators: the left one's are frames of our own kind, or asleep for good beside the right one's -/
structure GR (G1 G2 : Array GenState) : Prop where
  size : G1.size = G2.size
  at_ : ∀ (i : Nat) (x y : GenState), G1[i]? = some x → G2[i]? = some y → StOk x ∧ (x = y ∨ (Stuck x ∧ x.seen = y.seen ∧ x.bare = y.bare))
/-- what is asleep for good stays as it is -/
def Pers (G1 G2 G1' G2' : Array GenState) : Prop := ∀ (i : Nat) (x : GenState), G1[i]? = some x → Stuck x → G1'[i]? = G1[i]? ∧ G2'[i]? = G2[i]?
theorem Pers.refl {A B : Array GenState} : Pers A B A B := fun _ _ _ _ => ⟨rfl, rfl⟩
theorem Pers.trans {A B C D E F : Array GenState} (a : Pers A B C D) (b : Pers C D E F) : Pers A B E F := fun i x h k => by
  obtain ⟨p, q⟩ := a i x h k
  obtain ⟨r, s⟩ := b i x (p.trans h) k
  exact ⟨r.trans p, s.trans q⟩
theorem GR.get {G1 G2 : Array GenState} (r : GR G1 G2) {i : Nat} {x : GenState} (h : G1[i]? = some x) : ∃ y, G2[i]? = some y ∧ StOk x ∧ (x = y ∨ (Stuck x ∧ x.seen = y.seen ∧ x.bare = y.bare)) := by
  have hi : i < G1.size := (Array.getElem?_eq_some_iff.mp h).1
  have e : G2[i]? = some (G2[i]'(r.size ▸ hi)) := Array.getElem?_eq_getElem _
  exact ⟨_, e, r.at_ i x _ h e⟩
theorem GR.set {G1 G2 : Array GenState} (r : GR G1 G2) (i : Nat) {x : GenState} (hx : StOk x) : GR (G1.setIfInBounds i x) (G2.setIfInBounds i x) where
  size := by simp [r.size]
  at_ := fun j a b ha hb => by
    by_cases e : i = j
    · subst e
      have hi : i < G1.size := by simpa using (Array.getElem?_eq_some_iff.mp ha).1
      have hi2 : i < G2.size := r.size ▸ hi
      simp only [Array.getElem?_setIfInBounds_self, hi, hi2, if_true] at ha hb
      simp only [Option.some.injEq] at ha hb
      subst ha; subst hb
      exact ⟨hx, .inl rfl⟩
    · rw [Array.getElem?_setIfInBounds_ne e] at ha hb
      exact r.at_ j a b ha hb
theorem pers_set {G1 G2 : Array GenState} {i : Nat} {x : GenState} (h : ∀ y, G1[i]? = some y → ¬ Stuck y) : Pers G1 G2 (G1.setIfInBounds i x) (G2.setIfInBounds i x) := fun j y hy k => by
  by_cases e : i = j
  · subst e; exact (h y hy k).elim
  · rw [Array.getElem?_setIfInBounds_ne e, Array.getElem?_setIfInBounds_ne e]; exact ⟨rfl, rfl⟩
theorem GR.push {G1 G2 : Array GenState} (r : GR G1 G2) (c : Code) : GR (G1.push (.fresh c)) (G2.push (.fresh c)) where
  size := by simp [r.size]
  at_ := fun j a b ha hb => by
    rw [Array.getElem?_push] at ha hb
    rw [r.size] at ha
    split at ha
    · rename_i e
      rw [if_pos e] at hb
      cases ha; cases hb
      exact ⟨trivial, .inl rfl⟩
    · rename_i e
      rw [if_neg e] at hb
      exact r.at_ j a b ha hb
theorem pers_push {G1 G2 : Array GenState} (r : GR G1 G2) (c : Code) : Pers G1 G2 (G1.push (.fresh c)) (G2.push (.fresh c)) := fun j y hy k => by
  have hi : j < G1.size := (Array.getElem?_eq_some_iff.mp hy).1
  have h2 : j < G2.size := r.size ▸ hi
  rw [Array.getElem?_push, Array.getElem?_push, if_neg (Nat.ne_of_lt hi), if_neg (Nat.ne_of_lt h2)]
  exact ⟨rfl, rfl⟩
theorem noRun {M : Model} {Γ : Ctx} {p : Pos} {fs : List Frame} {s s' : Shared} {e : End} {z : String} (h : Runs M Γ p (.unsupported z) fs s e s') : False := by
  generalize ht : (Sem.unsupported z : Sem PySem.Fin) = t at h
  induction h <;> first | (cases ht; done) | (rename_i ih _; exact ih ht) | (rename_i ih; exact ih ht)
theorem pers_resume {A B A1 B1 : Array GenState} {g : Nat} {x0 y z : GenState} (hg : A[g]? = some x0) (ns : ¬ Stuck x0) (d1 : Pers (A.setIfInBounds g y) (B.setIfInBounds g y) A1 B1) : Pers A B (A1.setIfInBounds g z) (B1.setIfInBounds g z) := fun i x hi k => by
  by_cases e : g = i
  · subst e
    rw [hg] at hi; cases hi
    exact (ns k).elim
  · have d1' := d1 i x (by rw [Array.getElem?_setIfInBounds_ne e]; exact hi) k
    refine ⟨?_, ?_⟩
    · rw [Array.getElem?_setIfInBounds_ne e, d1'.1, Array.getElem?_setIfInBounds_ne e]
    · rw [Array.getElem?_setIfInBounds_ne e, d1'.2, Array.getElem?_setIfInBounds_ne e]
theorem nst_of {M : Model} {Γ : Ctx} {p p₀ : Pos} {k₀ : Resume → Sem PySem.Fin} {l₀ : List Value} {c₀ : Code} {fs fs₀ : List Frame} {cl : Bool} {r : Resume} {s s' : Shared} {e : End} (h1 : Runs M Γ p (k₀ r) fs s e s') : ¬ Stuck (.suspended k₀ l₀ c₀ p₀ fs₀ cl) := fun ⟨l, c, p, fs, cl', z⟩ => by
  injection z with z1
  subst z1
  exact noRun h1
theorem nst_fresh {c : Code} : ¬ Stuck (.fresh c) := fun ⟨_, _, _, _, _, z⟩ => by cases z
theorem runs_gr {M : Model} {Γ : Ctx} {p : Pos} {t : Sem PySem.Fin} {fs : List Frame} {s s' : Shared} {e : End} (h : Runs M Γ p t fs s e s') :
    NoGen fs → ∀ G, GR s.gens G → ∃ G', Runs M Γ p t fs { s with gens := G } e { s' with gens := G' } ∧ GR s'.gens G' ∧ EndOk e ∧ Pers s.gens G s'.gens G' := by
  induction h with
  | done => intro _ G r; exact ⟨G, .done, r, trivial, .refl⟩
  | raise => intro _ G r; exact ⟨G, .raise, r, trivial, .refl⟩
  | again hq _ ih => intro n G r; obtain ⟨G', a, b, c, d⟩ := ih n G r; exact ⟨G', .again hq a, b, c, d⟩
  | rule _ ih => intro n G r; obtain ⟨G', a, b, c, d⟩ := ih n G r; exact ⟨G', .rule a, b, c, d⟩
  | «at» _ ih => intro n G r; obtain ⟨G', a, b, c, d⟩ := ih n G r; exact ⟨G', .at a, b, c, d⟩
  | load ho _ ih => intro n G r; obtain ⟨G', a, b, c, d⟩ := ih n G r; exact ⟨G', .load ho a, b, c, d⟩
  | update ha _ ih => intro n G r; obtain ⟨G', a, b, c, d⟩ := ih n G r; exact ⟨G', .update ha a, b, c, d⟩
  | loadIfAlive _ ih => intro n G r; obtain ⟨G', a, b, c, d⟩ := ih n G r; exact ⟨G', .loadIfAlive a, b, c, d⟩
  | point _ ih => intro n G r; obtain ⟨G', a, b, c, d⟩ := ih n G r; exact ⟨G', .point a, b, c, d⟩
  | alloc _ ih => intro n G r; obtain ⟨G', a, b, c, d⟩ := ih n G r; exact ⟨G', .alloc a, b, c, d⟩
  | fresh _ ih => intro n G r; obtain ⟨G', a, b, c, d⟩ := ih n G r; exact ⟨G', .fresh a, b, c, d⟩
  | ask _ ih => intro n G r; obtain ⟨G', a, b, c, d⟩ := ih n G r; exact ⟨G', .ask a, b, c, d⟩
  | choose hn _ ih => intro n G r; obtain ⟨G', a, b, c, d⟩ := ih n G r; exact ⟨G', .choose hn a, b, c, d⟩
  | os _ ih => intro n G r; obtain ⟨G', a, b, c, d⟩ := ih n G r; exact ⟨G', .os a, b, c, d⟩
  | handled _ ih => intro n G r; obtain ⟨G', a, b, c, d⟩ := ih n G r; exact ⟨G', .handled a, b, c, d⟩
  | genState hg _ ih =>
    intro n G r
    obtain ⟨G', a, b, c, d⟩ := ih n G r
    obtain ⟨y, hy, _, q⟩ := r.get hg
    refine ⟨G', .genState hy ?_, b, c, d⟩
    rcases q with q | ⟨_, q⟩
    · rw [← q]; exact a
    · rw [← q.1]; exact a
  | stack _ ih => intro n G r; obtain ⟨G', a, b, c, d⟩ := ih n G r; exact ⟨G', .stack a, b, c, d⟩
  | thread _ ih => intro n G r; obtain ⟨G', a, b, c, d⟩ := ih n G r; exact ⟨G', .thread a, b, c, d⟩
  | newGen _ ih =>
    intro n G r
    obtain ⟨G', a, b, c, d⟩ := ih n _ (r.push _)
    have hs := r.size
    exact ⟨G', .newGen (hs ▸ a), b, c, (pers_push r _).trans d⟩
  | call _ _ ih1 ih2 =>
    intro n G r
    obtain ⟨G1, a1, b1, _, d1⟩ := ih1 .nil G r
    obtain ⟨G2, a2, b2, c2, d2⟩ := ih2 n G1 b1
    exact ⟨G2, .call a1 a2, b2, c2, d1.trans d2⟩
  | callSusp _ ih =>
    intro n G r
    obtain ⟨G1, a1, b1, c1, d1⟩ := ih .nil G r
    exact ⟨G1, .callSusp a1, b1, NoGen.app c1 (fun f hf => by rw [List.mem_singleton.mp hf]; rfl), d1⟩
  | yield => intro n G r; exact ⟨G, .yield, r, .nil, .refl⟩
  | resumeFresh hg _ hq _ ih1 ih2 =>
    intro n G r
    obtain ⟨y, hy, _, q⟩ := r.get hg
    have e : y = _ := (q.resolve_right (fun z => nst_fresh z.1)).symm
    subst e
    obtain ⟨G1, a1, b1, c1, d1⟩ := ih1 .nil (G.setIfInBounds _ .running) (r.set _ trivial)
    obtain ⟨G2, a2, b2, c2, d2⟩ := ih2 n (G1.setIfInBounds _ _) (b1.set _ c1.st)
    exact ⟨G2, .resumeFresh hy a1 hq a2, b2, c2, (pers_resume hg nst_fresh d1).trans d2⟩
  | resumeSuspended hg h1 hq _ ih1 ih2 =>
    intro n G r
    obtain ⟨y, hy, sok, q⟩ := r.get hg
    have e : y = _ := (q.resolve_right (fun z => nst_of h1 z.1)).symm
    subst e
    obtain ⟨G1, a1, b1, c1, d1⟩ := ih1 sok (G.setIfInBounds _ .running) (r.set _ trivial)
    obtain ⟨G2, a2, b2, c2, d2⟩ := ih2 n (G1.setIfInBounds _ _) (b1.set _ c1.st)
    exact ⟨G2, .resumeSuspended hy a1 hq a2, b2, c2, (pers_resume hg (nst_of h1) d1).trans d2⟩
  | resumeJustStarted hg hv _ ih =>
    intro n G r
    obtain ⟨y, hy, _, q⟩ := r.get hg
    have e : y = _ := (q.resolve_right (fun ⟨⟨_, _, _, _, _, z⟩, _⟩ => by cases z)).symm
    subst e
    obtain ⟨G', a, b, c, d⟩ := ih n G r
    exact ⟨G', .resumeJustStarted hy hv a, b, c, d⟩
  | resumeThrowFresh hg _ ih =>
    intro n G r
    obtain ⟨y, hy, _, q⟩ := r.get hg
    have e : y = _ := (q.resolve_right (fun ⟨⟨_, _, _, _, _, z⟩, _⟩ => by cases z)).symm
    subst e
    obtain ⟨G', a, b, c, d⟩ := ih n (G.setIfInBounds _ .finished) (r.set _ trivial)
    exact ⟨G', .resumeThrowFresh hy a, b, c, (pers_set fun z hz ⟨_, _, _, _, _, k⟩ => by rw [hg] at hz; subst k; cases hz).trans d⟩
  | resumeRunning hg _ ih =>
    intro n G r
    obtain ⟨y, hy, _, q⟩ := r.get hg
    have e : y = _ := (q.resolve_right (fun ⟨⟨_, _, _, _, _, z⟩, _⟩ => by cases z)).symm
    subst e
    obtain ⟨G', a, b, c, d⟩ := ih n G r
    exact ⟨G', .resumeRunning hy a, b, c, d⟩
  | resumeFinished hg _ ih =>
    intro n G r
    obtain ⟨y, hy, _, q⟩ := r.get hg
    have e : y = _ := (q.resolve_right (fun ⟨⟨_, _, _, _, _, z⟩, _⟩ => by cases z)).symm
    subst e
    obtain ⟨G', a, b, c, d⟩ := ih n G r
    exact ⟨G', .resumeFinished hy a, b, c, d⟩
  | segRet _ _ ih1 ih2 =>
    intro n G r
    obtain ⟨G1, a1, b1, _, d1⟩ := ih1 .nil G r
    obtain ⟨G2, a2, b2, c2, d2⟩ := ih2 (fun f hf => n f (List.mem_cons_of_mem _ hf)) G1 b1
    exact ⟨G2, .segRet a1 a2, b2, c2, d1.trans d2⟩
  | segGen => intro n; have := n _ List.mem_cons_self; cases this
  | segSuspOut hs _ ih =>
    intro n G r
    obtain ⟨G1, a1, b1, c1, d1⟩ := ih .nil G r
    exact ⟨G1, .segSuspOut hs a1, b1, NoGen.app c1 n, d1⟩
  | segSuspGen hs => intro n; rw [n.split] at hs; cases hs
/-- .. a wish about code -/
theorem wp_gr {α : Type} (M : Model) (Γ : Ctx) (t : Sem α) : ∀ (Q : α → Pos → Shared → Prop) (E : Value → Pos → Shared → Prop) (p : Pos) (s : Shared) (G : Array GenState), GR s.gens G → wp M Γ t Q E p s →
    wp M Γ t (fun a p' s' => ∃ s₁, s'.heap = s₁.heap ∧ s'.os = s₁.os ∧ GR s₁.gens s'.gens ∧ Pers s.gens G s₁.gens s'.gens ∧ Q a p' s₁) (fun e p' s' => ∃ s₁, s'.heap = s₁.heap ∧ s'.os = s₁.os ∧ GR s₁.gens s'.gens ∧ Pers s.gens G s₁.gens s'.gens ∧ E e p' s₁) p { s with gens := G } := by
  induction t with
  | pure a => intro Q E p s G r h; exact ⟨s, rfl, rfl, r, .refl, h⟩
  | raise e => intro Q E p s G r h; exact ⟨s, rfl, rfl, r, .refl, h⟩
  | unsupported _ => intro Q E p s G _ h; exact h
  | finish _ => intro Q E p s G _ h; exact h
  | rule _ k ih => intro Q E p s G r h; exact ih () Q E p s G r h
  | «at» p' k ih => intro Q E p s G r h; exact ih () Q E p' s G r h
  | load a _ k ih => intro Q E p s G r h; obtain ⟨o, ho, h⟩ := h; exact ⟨o, ho, ih o Q E p s G r h⟩
  | update a _ f k ih => intro Q E p s G r h; exact ⟨h.1, ih () Q E p { s with heap := s.heap.update a f } G r h.2⟩
  | loadIfAlive a k ih => intro Q E p s G r h; exact ih _ Q E p s G r h
  | point _ k ih => intro Q E p s G r h; exact ih () Q E p s G r h
  | register _ _ => intro Q E p s G _ h; exact h
  | alloc o k ih => intro Q E p s G r h; exact ih _ Q E p { s with heap := s.heap.push o } G r h
  | fresh k ih => intro Q E p s G r h; exact ih _ Q E p { s with toks := s.toks + 1 } G r h
  | ask k ih => intro Q E p s G r h; exact ih _ Q E p s G r h
  | choose src m k ih => intro Q E p s G r h; exact ⟨h.1, ih _ Q E p { s with drawn := s.drawn.bump src } G r h.2⟩
  | os q _ k ih => intro Q E p s G r h; exact ih _ Q E p { s with os := (Os.step s.os q).1 } G r h
  | call c hd _ _ k ih =>
    intro Q E p s G r h
    obtain ⟨res, s', hr, h⟩ := h
    obtain ⟨G1, a1, b1, _, d1⟩ := runs_gr hr .nil G r
    refine ⟨res, _, a1, ?_⟩
    refine Sem.wp_mono M Γ _ ?_ ?_ _ _ (ih res Q E p s' G1 b1 h)
    · rintro a p' s₂ ⟨s₁, e1, e2, e3, e4, e5⟩; exact ⟨s₁, e1, e2, e3, d1.trans e4, e5⟩
    · rintro a p' s₂ ⟨s₁, e1, e2, e3, e4, e5⟩; exact ⟨s₁, e1, e2, e3, d1.trans e4, e5⟩
  | handled own k ih => intro Q E p s G r h; exact ih _ Q E p s G r h
  | genState g k ih =>
    intro Q E p s G r h
    obtain ⟨st, hs, h⟩ := h
    obtain ⟨y, hy, _, q⟩ := r.get hs
    refine ⟨y, hy, ?_⟩
    have e : st.seen = y.seen := q.elim (fun z => by rw [z]) fun z => z.2.1
    rw [← e]
    exact ih _ Q E p s G r h
  | newGen c k ih =>
    intro Q E p s G r h
    have hs := r.size
    show wp M Γ (k G.size) _ _ p { s with gens := G.push (.fresh c) }
    rw [← hs]
    refine Sem.wp_mono M Γ _ ?_ ?_ _ _ (ih _ Q E p { s with gens := s.gens.push (.fresh c) } (G.push (.fresh c)) (r.push c) h)
    · rintro a p' s₂ ⟨s₁, e1, e2, e3, e4, e5⟩; exact ⟨s₁, e1, e2, e3, (pers_push r c).trans e4, e5⟩
    · rintro a p' s₂ ⟨s₁, e1, e2, e3, e4, e5⟩; exact ⟨s₁, e1, e2, e3, (pers_push r c).trans e4, e5⟩
  | resume g rs l k ih =>
    intro Q E p s G r h
    obtain ⟨res, s', hw, h⟩ := h
    have key : ∃ G1, Wakes M Γ p g rs { s with gens := G } res { s' with gens := G1 } ∧ GR s'.gens G1 ∧ Pers s.gens G s'.gens G1 := by
      have hrun : Runs M Γ p (.resume g rs l fun x => .pure (.done .next)) [] s (.ret (.ok .next)) s' := (Sem.runs_resume_iff M _).mpr ⟨res, s', hw, .done⟩
      unfold Wakes at hw ⊢
      cases hg : s.gens[g]? with
      | none => simp only [hg] at hw
      | some gs =>
        obtain ⟨y, hy, sok, q⟩ := r.get hg
        show ∃ G1, (match G[g]? with | _ => _) ∧ _
        cases gs with
        | fresh c =>
          have e : y = _ := (q.resolve_right (fun ⟨⟨_, _, _, _, _, z⟩, _⟩ => by cases z)).symm
          subst e
          simp only [hg] at hw
          simp only [hy]
          cases rs with
          | send v =>
            by_cases hv : v = .none
            · subst hv
              obtain ⟨e₁, s₁, h1, hq, rfl, rfl⟩ := hw
              obtain ⟨G1, a1, b1, c1, d1⟩ := runs_gr h1 .nil (G.setIfInBounds g .running) (r.set g trivial)
              exact ⟨G1.setIfInBounds g e₁.genState, ⟨e₁, _, a1, hq, rfl, rfl⟩, b1.set g c1.st, pers_resume hg nst_fresh d1⟩
            · have hw' : res = .justStarted ∧ s' = s := by cases v <;> first | exact absurd rfl hv | exact hw
              obtain ⟨rfl, rfl⟩ := hw'
              refine ⟨G, ?_, r, .refl⟩
              cases v <;> first | exact absurd rfl hv | exact ⟨rfl, rfl⟩
          | throw v =>
            obtain ⟨rfl, rfl⟩ := hw
            refine ⟨G.setIfInBounds g .finished, ⟨rfl, rfl⟩, r.set g trivial, pers_set fun z hz ⟨_, _, _, _, _, k⟩ => by rw [hg] at hz; subst k; cases hz⟩
        | suspended k₀ l₀ c₀ p₀ fs₀ cl =>
          simp only [hg] at hw
          obtain ⟨e₁, s₁, h1, hq, rfl, rfl⟩ := hw
          have e : y = _ := (q.resolve_right (fun z => nst_of h1 z.1)).symm
          subst e
          simp only [hy]
          obtain ⟨G1, a1, b1, c1, d1⟩ := runs_gr h1 sok (G.setIfInBounds g .running) (r.set g trivial)
          exact ⟨G1.setIfInBounds g e₁.genState, ⟨e₁, _, a1, hq, rfl, rfl⟩, b1.set g c1.st, pers_resume hg (nst_of h1) d1⟩
        | running =>
          have e : y = _ := (q.resolve_right (fun ⟨⟨_, _, _, _, _, z⟩, _⟩ => by cases z)).symm
          subst e
          simp only [hg] at hw
          simp only [hy]
          obtain ⟨rfl, rfl⟩ := hw
          exact ⟨G, ⟨rfl, rfl⟩, r, .refl⟩
        | finished =>
          have e : y = _ := (q.resolve_right (fun ⟨⟨_, _, _, _, _, z⟩, _⟩ => by cases z)).symm
          subst e
          simp only [hg] at hw
          simp only [hy]
          obtain ⟨rfl, rfl⟩ := hw
          exact ⟨G, ⟨rfl, rfl⟩, r, .refl⟩
    obtain ⟨G1, w1, b1, d1⟩ := key
    refine ⟨res, _, w1, ?_⟩
    refine Sem.wp_mono M Γ _ ?_ ?_ _ _ (ih res Q E p s' G1 b1 h)
    · rintro a p' s₂ ⟨s₁, e1, e2, e3, e4, e5⟩; exact ⟨s₁, e1, e2, e3, d1.trans e4, e5⟩
    · rintro a p' s₂ ⟨s₁, e1, e2, e3, e4, e5⟩; exact ⟨s₁, e1, e2, e3, d1.trans e4, e5⟩
  | yield _ _ _ _ => intro Q E p s G _ h; exact h
  | stack k ih => intro Q E p s G r h; exact ih _ Q E p s G r h
  | fork _ _ => intro Q E p s G _ h; exact h
  | thread k ih => intro Q E p s G r h; exact ih _ Q E p s G r h
  | await _ _ _ _ _ => intro Q E p s G _ h; exact h
theorem gr_stick (G : Array GenState) : GR (G.map stick) G where
  size := by simp
  at_ := fun i x y hx hy => by
    rw [Array.getElem?_map, hy] at hx
    cases hx
    refine ⟨?_, ?_⟩
    · cases y <;> first | exact noGen_flat _ | exact trivial
    · cases y with
      | suspended k l c p fs cl => exact .inr ⟨⟨l, c, p, fs.map flat, cl, rfl⟩, seen_stick _, bare_stick _⟩
      | _ => exact .inl rfl
/-- code that runs beside sleeping generators leaves them as they are -/
theorem beside {α : Type} {M : Model} {A : Around} {t : Sem α} {Q : α → Shared → Prop} {E : Value → Shared → Prop} {s : Shared} (h : wpAny M A t Q E { s with gens := s.gens.map stick }) :
    wpAny M A t (fun a s' => ∃ s₁, s'.heap = s₁.heap ∧ s'.os = s₁.os ∧ (PyProof.Rows.AllBare s₁.gens → PyProof.Rows.AllBare s'.gens) ∧ (∀ (i : Nat) (k : Resume → Sem PySem.Fin) (l : List Value) (c : Code) (p : Pos) (fs : List Frame) (cl : Bool), s.gens[i]? = some (.suspended k l c p fs cl) → s'.gens[i]? = some (.suspended k l c p fs cl)) ∧ Q a s₁)
      (fun e s' => ∃ s₁, s'.heap = s₁.heap ∧ s'.os = s₁.os ∧ (PyProof.Rows.AllBare s₁.gens → PyProof.Rows.AllBare s'.gens) ∧ E e s₁) s := by
  intro Γ p hΓ
  have q := wp_gr M Γ t _ _ p { s with gens := s.gens.map stick } s.gens (gr_stick s.gens) (h Γ p hΓ)
  have bb : ∀ {G1 G2 : Array GenState}, GR G1 G2 → PyProof.Rows.AllBare G1 → PyProof.Rows.AllBare G2 := fun {G1 G2} r hb y hy => by
    obtain ⟨i, hi, e⟩ := Array.mem_iff_getElem.mp hy
    have e2 : G2[i]? = some y := by rw [Array.getElem?_eq_getElem hi, e]
    have hi1 : i < G1.size := r.size ▸ hi
    have e1 : G1[i]? = some G1[i] := Array.getElem?_eq_getElem hi1
    obtain ⟨_, z⟩ := r.at_ i _ _ e1 e2
    have b1 := hb _ (Array.mem_of_getElem? e1)
    rcases z with z | z
    · rw [← z]; exact b1
    · rw [← z.2.2]; exact b1
  refine Sem.wp_mono M Γ t ?_ ?_ p s q
  · rintro a p' s' ⟨s₁, e1, e2, e3, e4, e5⟩
    refine ⟨s₁, e1, e2, bb e3, fun i k l c p fs cl hi => ?_, e5⟩
    have z := e4 i (stick (.suspended k l c p fs cl)) (by show (s.gens.map stick)[i]? = _; rw [Array.getElem?_map, hi]; rfl) ⟨l, c, p, fs.map flat, cl, rfl⟩
    exact z.2.trans hi
  · rintro a p' s' ⟨s₁, e1, e2, e3, e4, e5⟩
    exact ⟨s₁, e1, e2, bb e3, e5⟩
end GG
set_option maxHeartbeats 4000000
-- text S2
/-! # one turn of a generator -/
namespace GG
open PySem
open Sem (wp)
def Seg1 (M : Model) (A : Around) (Φ : End → Shared → Prop) (c : Code) (t : Sem PySem.Fin) (fs : List Frame) (s : Shared) : Prop := ∀ (Γ : Ctx) (p : Pos), Γ.code = c → Γ.Woken A → ∃ e s', Runs M Γ p t fs s e s' ∧ Φ e s'
section
variable {M : Model} {A : Around} {Φ : End → Shared → Prop} {c : Code} {fs : List Frame} {s : Shared}
theorem s1_wrap {α : Type} {m : Sem α} {K : α → Sem PySem.Fin} {H : Value → Sem PySem.Fin} {gd lv}
    (h : wpAny M (A.over c fs) m (fun a s' => Seg1 M A Φ c (K a) fs s') (fun x s' => Seg1 M A Φ c (H x) fs s') s) : Seg1 M A Φ c (m.wrap K H gd lv) fs s := by
  rintro Γ p rfl hΓ
  exact runs_wrap_of_wp K H gd lv m (h (Γ.over fs) p (hΓ.over fs)) (fun a p' s' h' => h' Γ p' rfl hΓ) (fun x p' s' h' => h' Γ p' rfl hΓ)
theorem s1_bind {α : Type} {m : Sem α} {K : α → Sem PySem.Fin}
    (h : wpAny M (A.over c fs) m (fun a s' => Seg1 M A Φ c (K a) fs s') (fun x s' => Seg1 M A Φ c (.raise x) fs s') s) : Seg1 M A Φ c (m >>= K) fs s := by
  rw [Sem.bind_eq_wrap']; exact s1_wrap h
theorem s1_bind_wrap {α β : Type} {m : Sem α} {K : α → Sem β} {K' : β → Sem PySem.Fin} {H' : Value → Sem PySem.Fin} {gd lv}
    (h : wpAny M (A.over c fs) m (fun a s' => Seg1 M A Φ c ((K a).wrap K' H' gd lv) fs s') (fun x s' => Seg1 M A Φ c (H' x) fs s') s) : Seg1 M A Φ c ((m >>= K).wrap K' H' gd lv) fs s := by
  rw [Sem.bind_eq_wrap', Sem.wrap_wrap]; exact s1_wrap h
theorem s1_at {p' : Pos} {k : Unit → Sem PySem.Fin} (h : Seg1 M A Φ c (k ()) fs s) : Seg1 M A Φ c (.at p' k) fs s :=
  s1_wrap (m := standAt p') (K := k) (H := .raise) (gd := id) (lv := id) (wpAny_standAt h)
theorem s1_point {l : List Value} {k : Unit → Sem PySem.Fin} (h : Seg1 M A Φ c (k ()) fs s) : Seg1 M A Φ c (.point l k) fs s :=
  s1_wrap (m := point) (K := k) (H := .raise) (gd := id) (lv := fun _ => l) (wpAny_point h)
theorem s1_call {c' : Code} {h g l} {k : Result → Sem PySem.Fin} (hc : ∀ p, Seg1 M A Φ c' (M.den c') (.ret k h g l c p [] :: fs) s) : Seg1 M A Φ c (.call c' h g l k) fs s := by
  rintro Γ p rfl hΓ
  obtain ⟨e, s', hr, he⟩ := (hc p) (Γ.goto c') p rfl (hΓ.goto c')
  exact ⟨e, s', runs_call_seg hr, he⟩
theorem s1_leaf {k h g l c₁ p₁ kp} (r : Result) (hk : Seg1 M A Φ c₁ (k r) fs s) : Seg1 M A Φ c (leafOf r) (.ret k h g l c₁ p₁ kp :: fs) s := by
  rintro Γ p rfl hΓ
  obtain ⟨e, s', hr, he⟩ := hk (Γ.goto c₁) p₁ rfl (hΓ.goto c₁)
  exact ⟨e, s', Runs.pop r hr, he⟩
theorem s1_again {c' : Code} (hq : c'.quiet = true) (hc : Seg1 M A Φ c' (M.den c') fs s) : Seg1 M A Φ c (.pure (.again c')) fs s := by
  rintro Γ p rfl hΓ
  obtain ⟨e, s', hr, he⟩ := hc (Γ.goto c') p rfl (hΓ.goto c')
  exact ⟨e, s', Runs.head (c₁ := c') (fun _ _ x => .again hq x) hr, he⟩
theorem s1_end (r : Result) (h : Φ (.ret r) s) : Seg1 M A Φ c (leafOf r) [] s := by
  rintro Γ p rfl _
  exact ⟨.ret r, s, Runs.leaf r, h⟩
theorem s1_yield {v g l} {k : Resume → Sem PySem.Fin} (hfs : splitAtGen fs = none) (h : ∀ p, Φ (.susp v g l k c p fs) s) : Seg1 M A Φ c (.yield v g l k) fs s := by
  rintro Γ p rfl _
  exact ⟨_, s, Runs.yield' fs hfs, h p⟩
theorem s1_mono {Φ' : End → Shared → Prop} {t : Sem PySem.Fin} (h : Seg1 M A Φ c t fs s) (w : ∀ e s', Φ e s' → Φ' e s') : Seg1 M A Φ' c t fs s := fun Γ p hc hΓ => by
  obtain ⟨e, s', hr, he⟩ := h Γ p hc hΓ
  exact ⟨e, s', hr, w _ _ he⟩
variable {env : Env} {K : Flow → Sem PySem.Fin} {J : Value → Sem PySem.Fin} {gd : Bool → Bool} {lv : List Value → List Value}
theorem s1_execs_nil (h : Seg1 M A Φ c (K .next) fs s) : Seg1 M A Φ c ((execs [] env).wrap K J gd lv) fs s := h
theorem s1_execs_cons {st : Stmt} {rest : List Stmt}
    (h : Seg1 M A Φ c ((exec st env).wrap (fun f => match f with | .next => (execs rest env).wrap K J gd lv | f => K f) J gd lv) fs s) : Seg1 M A Φ c ((execs (st :: rest) env).wrap K J gd lv) fs s := by rw [execs_cons_wrap]; exact h
theorem s1_Expr_Yield {e : Expr} {ypos pos : Pos} (hfs : splitAtGen fs = none) (hgd : gd false = false)
    (h : wpAny M (A.over c fs) (eval e env) (fun v s' => ∀ (l : List Value) (k : Resume → Sem PySem.Fin) (p : Pos), (∀ s'', Seg1 M A Φ c (K .next) fs s'' → Seg1 M A Φ c (k (.send .none)) fs s'') →
        (∀ Φ' s'', Seg1 M A Φ' c (K .next) fs s'' → Seg1 M A Φ' c (k (.send .none)) fs s'') → Φ (.susp v false l k c p fs) s')
      (fun x s' => Seg1 M A Φ c (J x) fs s') s) (hco : env.scope.isCoroutine = false := by rfl) (hi : interactive env = false := by rfl) :
    Seg1 M A Φ c ((exec (.Expr (.Yield (some e) ypos) pos) env).wrap K J gd lv) fs s := by
  rw [exec_Expr env _ pos hi rfl]
  show Seg1 M A Φ c (.at pos fun _ => ((eval e env >>= fun v => (standAt ypos >>= fun _ => yieldOut env v)) >>= fun x =>
    dropValue (.Yield (some e) ypos) pos x).wrap K J gd lv) fs s
  have hy : ∀ v, yieldOut env v = yieldValue v := fun v => by simp only [yieldOut, hco, Bool.false_eq_true, if_false]
  simp only [hy]
  refine s1_at ?_
  rw [Sem.bind_eq_wrap', Sem.bind_eq_wrap', Sem.wrap_wrap, Sem.wrap_wrap]
  refine s1_wrap (wpAny_mono h (fun v s' h' => ?_) fun _ _ x => x)
  refine s1_at (s1_yield hfs fun p => ?_)
  show Φ (.susp v (gd false) _ _ c p fs) s'
  rw [hgd]
  exact h' _ _ p (fun s'' hx => hx) fun Φ' s'' hx => hx
theorem s1_If {test : Expr} {body orelse : List Stmt} {pos : Pos}
    (h : wpAny M (A.over c fs) (isTrue test env (eval test env)) (fun b s' => if b = true then Seg1 M A Φ c ((execs body env).wrap K J gd lv) fs s' else Seg1 M A Φ c ((execs orelse env).wrap K J gd lv) fs s') (fun x s' => Seg1 M A Φ c (J x) fs s') s) :
    Seg1 M A Φ c ((exec (.If test body orelse pos) env).wrap K J gd lv) fs s := by
  rw [exec_If]
  refine s1_bind_wrap (wpAny_standAt ?_)
  refine s1_bind_wrap (wpAny_mono h (fun b s' hb => ?_) fun _ _ x => x)
  cases b with
  | true => rw [if_pos rfl] at hb ⊢; exact hb
  | false => rw [if_neg Bool.false_ne_true] at hb ⊢; exact hb
/-- what a loop's call does with an exception that comes back -/
theorem s1_For {tg iter : Expr} {body orelse : List Stmt} {pos : Pos}
    (h : wpAny M (A.over c fs) (eval iter env) (fun x s₁ => wpAny M (A.over c fs) (pyIter x) (fun it s₂ => ∀ p, Seg1 M A Φ (.forLoop tg it body orelse env) (M.den (.forLoop tg it body orelse env))
      (.ret (fun r => ((match r with | .ok f => (.pure f : Sem Flow) | .error e => .raise e).onRaise (L2.cameBack env)).wrap K J gd lv) none (gd false) (lv []) c p [] :: fs) s₂) (fun x s' => Seg1 M A Φ c (J x) fs s') s₁) (fun x s' => Seg1 M A Φ c (J x) fs s') s)
    (hs : ∀ x, foldedSetIterable iter env x = pure x := by intro _; rfl) : Seg1 M A Φ c ((exec (.For tg iter body orelse pos) env).wrap K J gd lv) fs s := by
  rw [exec_For]
  refine s1_bind_wrap (wpAny_standAt ?_)
  refine s1_bind_wrap (wpAny_mono h (fun x s₁ h₁ => ?_) fun _ _ x => x)
  refine s1_bind_wrap (wpAny_of_eq (hs x) ?_)
  refine s1_bind_wrap (wpAny_standAt ?_)
  refine s1_bind_wrap (wpAny_holding (wpAny_mono h₁ (fun it s₂ h₂ => ?_) fun _ _ x => x))
  exact s1_call h₂
end
section
variable {prog : Program} {w : World} {A : Around} {Φ : End → Shared → Prop} {fs : List Frame} {s : Shared} {env : Env}
/-- a turn of a loop; nothing is raised -/
theorem s1_forLoop {tg : Expr} {itv : Value} {body : List Stmt}
    (h : wpAny (model prog w) (A.over (.forLoop tg itv body [] env) fs) (pyNext itv) (fun r s₁ => match r with
      | none => Seg1 (model prog w) A Φ (.block [] env) (.pure (.done .next)) fs s₁
      | some v => wpAny (model prog w) (A.over (.forLoop tg itv body [] env) fs) (letOwnedTupleGo tg itv v) (fun _ s₂ => wpAny (model prog w) (A.over (.forLoop tg itv body [] env) fs) (assign tg env v) (fun _ s₃ =>
          Seg1 (model prog w) A Φ (.forLoop tg itv body [] env) ((execs body env).wrap (fun f => match f with
            | .next | .cont => .pure (.again (.forLoop tg itv body [] env))
            | .brk => .pure (.done .next)
            | .ret v => .pure (.done (.ret v))) (fun e => (do noteFrame e env; theTreesLotGoes e : Sem Unit).wrap (fun _ => .raise e) .raise id id) id id) fs s₃)
          (fun _ _ => False) s₂) (fun _ _ => False) s₁) (fun _ _ => False) s) :
    Seg1 (model prog w) A Φ (.forLoop tg itv body [] env) ((model prog w).den (.forLoop tg itv body [] env)) fs s := by
  show Seg1 _ A Φ _ ((forTurn tg itv body [] env).onRaise (fun x => do noteFrame x env; theTreesLotGoes x)) fs s
  unfold forTurn
  rw [Sem.onRaise_eq_wrap]
  refine s1_bind_wrap (wpAny_standAt ?_)
  refine s1_bind_wrap (wpAny_onRaise (wpAny_mono h (fun r s₁ h₁ => ?_) fun _ _ x => x.elim))
  cases r with
  | none =>
    refine s1_again rfl ?_
    exact h₁
  | some v =>
    refine s1_bind_wrap (wpAny_mono h₁ (fun _ s₂ h₂ => ?_) fun _ _ x => x.elim)
    refine s1_bind_wrap (wpAny_mono h₂ (fun _ s₃ h₃ => ?_) fun _ _ x => x.elim)
    rw [Sem.bind_eq_wrap', Sem.wrap_wrap]
    rw [Sem.wrap_congr (execs body env) _ _ (K' := fun f => match f with
            | .next | .cont => .pure (.again (.forLoop tg itv body [] env))
            | .brk => .pure (.done .next)
            | .ret v => .pure (.done (.ret v))) (H' := (fun e => (do noteFrame e env; theTreesLotGoes e : Sem Unit).wrap (fun _ => .raise e) .raise id id))
        (fun f => by cases f <;> rfl)
        (fun e => by first | exact Sem.bind_eq_wrap _ _ | (show (do noteFrame e env; theTreesLotGoes e : Sem Unit).bind (fun _ => .raise e) = _; rw [Sem.bind_eq_wrap]))]
    exact h₃
theorem s1_func {body : List Stmt}
    (h : Seg1 (model prog w) A Φ (.func body env) ((execs body env).wrap (fun f => .pure (.done (.ret (match f with | .ret v => v | _ => .none))))
      (fun e => (leaving env e).wrap (fun _ => .raise e) .raise id id) id id) fs s) :
    Seg1 (model prog w) A Φ (.func body env) ((model prog w).den (.func body env)) fs s := by
  show Seg1 _ A Φ _ (.point [] fun _ => ((execs body env).onRaise (leaving env)) >>= _) fs s
  refine s1_point ?_
  rw [Sem.onRaise_eq_wrap, Sem.bind_eq_wrap', Sem.wrap_wrap]
  rw [Sem.wrap_congr (execs body env) _ _ (K' := fun f => .pure (.done (.ret (match f with | .ret v => v | _ => .none))))
    (H' := fun e => (leaving env e).wrap (fun _ => .raise e) .raise id id) (fun f => by cases f <;> rfl)
    (fun e => by rw [Sem.bind_eq_wrap, Sem.wrap_wrap]; rfl)]
  exact h
/-- the wish about a resumption -/
theorem wpAny_resume1 {g : Nat} {gs : GenState} {r : Resume} {l : List Value} {α : Type} {k : GenResult → Sem α} {Q : α → Shared → Prop} {E : Value → Shared → Prop} {M : Model} (hg : s.gens[g]? = some gs)
    (hgo : match gs with | .fresh c => r = .send .none ∧ Seg1 M A Φ c (M.den c) [] (s.setGen g .running) | .suspended k₀ _ c₀ _ fs₀ _ => Seg1 M A Φ c₀ (k₀ r) fs₀ (s.setGen g .running) | _ => False)
    (hq : ∀ e s₁, Φ e s₁ → e.quiet = true)
    (h : ∀ e s₁, Φ e s₁ → s.gens.size ≤ s₁.gens.size → wpAny M A (k e.result) Q E (s₁.setGen g e.genState)) : wpAny M A (.resume g r l k) Q E s := by
  intro Γ p hΓ
  rw [Sem.wp_resume]
  have hB : ∀ c, (Γ.wake c p).Woken A := fun c => hΓ.wake c p
  cases gs with
  | fresh c =>
    obtain ⟨rfl, hs⟩ := hgo
    obtain ⟨e₁, s₁, hr, he⟩ := hs (Γ.wake c p) p rfl (hB c)
    have z := GenW.runs_gsz hr
    rw [GenW.setGen_size] at z
    exact ⟨_, _, by unfold Wakes; rw [hg]; exact ⟨e₁, s₁, hr, hq e₁ s₁ he, rfl, rfl⟩, h e₁ s₁ he z Γ p hΓ⟩
  | suspended k₀ l₀ c₀ p₀ fs₀ cl =>
    obtain ⟨e₁, s₁, hr, he⟩ := hgo (Γ.wake c₀ p) p₀ rfl (hB c₀)
    have z := GenW.runs_gsz hr
    rw [GenW.setGen_size] at z
    exact ⟨_, _, by unfold Wakes; rw [hg]; exact ⟨e₁, s₁, hr, hq e₁ s₁ he, rfl, rfl⟩, h e₁ s₁ he z Γ p hΓ⟩
  | running => exact hgo.elim
  | finished => exact hgo.elim
end
end GG
set_option maxHeartbeats 4000000
-- text S3
/-! # a generator and the one that walks it -/
namespace GG
open PySem PySem.Spec PyProof.Rows L2
open Classical in
/-- the objects at pv, known as they stand -/
noncomputable def mask (h : Heap) (pv : Addr → Prop) (H : Hp) : Hp := fun b => if pv b then (h.get? b).map (fun o => HO.ext fun h' => h'.get? b = some o) else H b
open Classical in
noncomputable def unmask (pv : Addr → Prop) (H : Hp) : Hp := fun b => if pv b then none else H b
section
variable {h : Heap} {pv : Addr → Prop} {H : Hp} {b : Addr}
theorem mask_on (p : pv b) : mask h pv H b = (h.get? b).map (fun o => HO.ext fun h' => h'.get? b = some o) := if_pos p
theorem mask_off (p : ¬ pv b) : mask h pv H b = H b := if_neg p
theorem unmask_on (p : pv b) : unmask pv H b = none := if_pos p
theorem unmask_off (p : ¬ pv b) : unmask pv H b = H b := if_neg p
end
/-- known as it stands -/
def PL (b : Addr) (o : HO) : Prop := ∃ ob, o = .ext fun h => h.get? b = some ob
/-- what is known stays known, but what is known as it stands; and but for tables -/
def Kp (H H' : Hp) : Prop := ∀ b o, H b = some o → ¬ PL b o → (∀ ps, o ≠ .tbl ps) → H' b = some o
theorem Kp.refl {H : Hp} : Kp H H := fun _ _ e _ _ => e
theorem Kp.trans {A B C : Hp} (x : Kp A B) (y : Kp B C) : Kp A C := fun b o e n m => y b o (x b o e n m) n m
theorem Kp.of {H H' : Hp} (s : ∀ b o, H b = some o → H' b = some o) : Kp H H' := fun b o e _ _ => s b o e
theorem hok_un {P : Program} {w : World} {H H' : Hp} {h : Heap} (x : HOk P w H h) (u : ∀ b, H' b = H b ∨ (H' b = none ∧ ∃ o, H b = some o ∧ PL b o)) : HOk P w H' h := fun b o e => by
  have k : ∀ c v, H c = some v → (∀ φ, v ≠ .ext φ) → H' c = some v := fun c v e n => by
    rcases u c with q | ⟨_, o, q, ob, z⟩
    · rw [q]; exact e
    · rw [q] at e; cases e; exact (n _ z).elim
  have e2 : H b = some o := by
    rcases u b with q | ⟨q, _⟩
    · rw [← q]; exact e
    · rw [q] at e; cases e
  exact (x b o e2).stay (fun _ _ _ z => z) (fun c z => k c _ z (fun φ q => by cases q)) fun c xs z => k c _ z (fun φ q => by cases q)
theorem hok_mask {P : Program} {w : World} {H : Hp} {h : Heap} {pv : Addr → Prop} (x : HOk P w H h) (n : ∀ b, pv b → H b = none) : HOk P w (mask h pv H) h := fun b o e => by
  by_cases p : pv b
  · rw [mask_on p] at e
    cases q : h.get? b with
    | none => rw [q] at e; cases e
    | some ob =>
      rw [q] at e
      cases e
      exact ⟨q, ⟨ob, q⟩, fun h1 h2 e1 k => k ob e1⟩
  · rw [mask_off p] at e
    have k : ∀ c v, H c = some v → mask h pv H c = some v := fun c v e => by
      rw [mask_off fun z => by rw [n c z] at e; cases e]; exact e
    exact (x b o e).stay (fun _ _ _ z => z) (fun c z => k c _ z) fun c xs z => k c _ z
/-- the heap's objects below n0 alone -/
def cut (h : Heap) (n0 : Nat) : Heap := ⟨h.objs.extract 0 n0, h.life⟩
theorem cut_size {h : Heap} {n0 : Nat} (l : n0 ≤ h.objs.size) : (cut h n0).objs.size = n0 := by
  show (h.objs.extract 0 n0).size = n0
  rw [Array.size_extract]; omega
theorem cut_get {h : Heap} {n0 : Nat} {b : Nat} (hb : b < n0) : (cut h n0).get? b = h.get? b := by
  unfold Heap.get? cut
  have e : (h.objs.extract 0 n0)[b]? = h.objs[b]? := by
    rw [Array.getElem?_extract]
    by_cases l : b < min n0 h.objs.size - 0
    · rw [if_pos l, Nat.zero_add]
    · rw [if_neg l]
      have : h.objs.size ≤ b := by
        rcases Nat.lt_or_ge b h.objs.size with z | z
        · exact (l (by rw [Nat.sub_zero]; exact Nat.lt_min.mpr ⟨hb, z⟩)).elim
        · exact z
      rw [Array.getElem?_eq_none this]
  rw [e]
theorem cut_of {h : Heap} {n0 : Nat} {b : Addr} {o : Obj} (e : (cut h n0).get? b = some o) (l : n0 ≤ h.objs.size) : b < n0 ∧ h.get? b = some o := by
  have hb : b < n0 := by
    have := Heap.lt_size e
    rw [cut_size l] at this
    exact this
  exact ⟨hb, by rw [← cut_get hb]; exact e⟩
/-- the generator's context at a turn -/
def gx (P : Program) (w : World) (K : PySem.W.Frag) (mg : Str → Option Value) (base : Heap) (N : List Str) (qual : Str) (scope : Scope) (f : Addr) (cd : Value) (A : Around) (outer : List Env) (n0 : Nat) (pn : List (Addr × Obj)) (s0 : Shared) (H0 : Hp) : Cx where
  prog := P
  w := w
  K := K
  mg := mg
  base := base
  A := A.deeper (envOfC qual scope n0 f cd)
  N := N
  s_0 := s0
  H_0 := H0
  env := envOfC qual scope n0 f cd
  outer := outer
  stack := envOfC qual scope n0 f cd :: outer
  ex := []
  calm := true
  fn := fun _ => true
  pn := pn
  xe := fun _ _ => False
section
variable {P : Program} {w : World} {K : PySem.W.Frag} {mg : Str → Option Value} {base : Heap} {N : List Str} {qual : Str} {scope : Scope} {f : Addr} {cd : Value} {A : Around} {outer : List Env} {n0 : Nat} {pn : List (Addr × Obj)}
theorem re_ok {s0 s0' : Shared} {H0 H0' : Hp} (ok : (gx P w K mg base N qual scope f cd A outer n0 pn s0 H0).Ok) (sz : s0'.heap.objs.size = s0.heap.objs.size) (bs : ∀ b o, base.get? b = some o → s0'.heap.get? b = some o ∧ H0' b = none)
    (funs : s0'.heap.FunFrames base outer) (frf : ∀ b ∈ frs outer, H0' b = none) : (gx P w K mg base N qual scope f cd A outer n0 pn s0' H0').Ok :=
  ⟨ok.mod, ok.kind, ok.glob, ok.blt, (show s0'.heap.objs.size ≤ _ by rw [sz]; exact ok.above), ok.inj, ok.has, fun x c h e => (show s0'.heap.objs.size ≤ c by rw [sz]; exact ok.cab x c h e), ok.hd, ok.frames, ok.stk, ok.exf, bs,
    (show _ ≤ s0'.heap.objs.size by rw [sz]; exact ok.bsz), ok.noex, ok.exfs, funs, frf⟩
/-- the generator's own objects: its frame, its cells, itself, its iterators -/
def pvOf (qual : Str) (scope : Scope) (f : Addr) (cd : Value) (n0 : Nat) (ps : List (Addr × Obj)) (b : Addr) : Prop := b = n0 ∨ (∃ x, (envOfC qual scope n0 f cd).cells.lookup x = some b) ∨ ∃ p ∈ ps, p.1 = b
/-- the walker's place -/
structure Amb (X : Cx) (pins : List (Addr × Obj)) (n0 : Nat) : Prop where
  sz : X.s_0.heap.objs.size ≤ n0
  loc : X.env.locals < n0
  cel : ∀ x c, X.env.cells.lookup x = some c → c < n0
  pin : ∀ p ∈ X.pn ++ pins, p.1 < n0
  frs : ∀ b ∈ frs X.stack, b < n0
  ex : X.ex = []
theorem Amb.of {X : Cx} {pins : List (Addr × Obj)} {σ : L2.St} {H : Hp} {s : Shared} (I : Inv X pins σ H s) (ex : X.ex = []) : Amb X pins s.heap.objs.size where
  sz := I.sz
  loc := I.lt
  cel := fun x c e => by obtain ⟨v, q⟩ := I.cell x c e; exact q.lt
  pin := fun p hp => Heap.lt_size (I.pin p hp).1
  frs := fun b hb => by
    obtain ⟨_, o, ho, _⟩ := I.stack.mem hb
    exact Heap.lt_size ho
  ex := ex
/-- the walker's state and the generator's view of it -/
structure Lk (X : Cx) (pins : List (Addr × Obj)) (n0 : Nat) (σ : L2.St) (Hc : Hp) (s2 s0 : Shared) (Hg : Hp) : Prop where
  inv : Inv X pins σ Hc s2
  os : s0.os = s2.os
  size : s0.heap.objs.size = n0
  cut : ∀ b o, b < n0 → s2.heap.get? b = some o → s0.heap.get? b = some o
  um : ∀ b, Hg b = Hc b ∨ (Hg b = none ∧ n0 ≤ b ∧ ∃ o, Hc b = some o ∧ PL b o)
theorem Lk.none {X : Cx} {pins : List (Addr × Obj)} {σ : L2.St} {Hc : Hp} {s2 s0 : Shared} {Hg : Hp} (l : Lk X pins n0 σ Hc s2 s0 Hg) {b : Addr} (h : Hc b = none) : Hg b = none := by
  rcases l.um b with q | ⟨q, _⟩
  · rw [q]; exact h
  · exact q
theorem Lk.some {X : Cx} {pins : List (Addr × Obj)} {σ : L2.St} {Hc : Hp} {s2 s0 : Shared} {Hg : Hp} (l : Lk X pins n0 σ Hc s2 s0 Hg) {b : Addr} {o : HO} (h : Hc b = some o) (n : ¬ PL b o) : Hg b = some o := by
  rcases l.um b with q | ⟨_, _, o', q, z⟩
  · rw [q]; exact h
  · rw [q] at h; cases h; exact (n z).elim
theorem Lk.kp {X : Cx} {pins : List (Addr × Obj)} {σ : L2.St} {Hc : Hp} {s2 s0 : Shared} {Hg : Hp} (l : Lk X pins n0 σ Hc s2 s0 Hg) : Kp Hc Hg :=
  fun b o e n _ => l.some e n
/-- THE SLEEP: behind a turn, the walker's state stands -/
theorem sleep {X : Cx} {pins ip : List (Addr × Obj)} {σ σg : L2.St} {Hc Hg H1 : Hp} {s2 s0 s1 : Shared} (am : Amb X pins n0) (hP : X.prog = P) (hw : X.w = w) (l : Lk X pins n0 σ Hc s2 s0 Hg)
    (J : Inv (gx P w K mg base N qual scope f cd A X.stack n0 pn s0 Hg) ip σg H1 s1) (pv : Addr → Prop) (hpv : ∀ b, pv b → n0 ≤ b ∧ H1 b = none) : Inv X pins σ (mask s1.heap pv H1) s1 := by
  subst hP hw
  have I := l.inv
  have low : ∀ {b : Addr}, b < n0 → mask s1.heap pv H1 b = H1 b := fun {b} hb => mask_off fun z => absurd (hpv b z).1 (Nat.not_le_of_lt hb)
  -- an old thing that nobody knows, up to slots
  have any : ∀ {b : Addr} {o : Obj}, b < n0 → s2.heap.get? b = some o → Hc b = none → ∃ sl, s1.heap.get? b = some { o with slots := sl } := fun {b o} hb e n =>
    J.base.any (l.cut b o hb e) (l.none n) (by intro z; exact absurd (show b ∈ ([] : List Addr) from z) (by simp))
  have keep : ∀ {b : Addr} {o : Obj}, b < n0 → s2.heap.get? b = some o → Hc b = none → b ∉ frs X.stack → s1.heap.get? b = some o := fun {b o} hb e n hf =>
    J.base.keep b o (l.cut b o hb e) (l.none n) hf (by intro z; exact absurd (show b ∈ ([] : List Addr) from z) (by simp))
  have free : ∀ {b : Addr} {o : Obj}, b < n0 → s2.heap.get? b = some o → Hc b = none → mask s1.heap pv H1 b = none := fun {b o} hb e n => by
    rw [low hb]
    exact J.base.free b o (l.cut b o hb e) (l.none n) (by intro z; exact absurd (show b ∈ ([] : List Addr) from z) (by simp))
  have nst : ∀ b, b ∉ X.fs → b ≠ X.env.locals → b ∉ frs X.stack := fun b h1 h2 hm => (List.mem_cons.mp (I.stkSub b hm)).elim h2 h1
  have lt0 : ∀ {b : Addr} {o : Obj}, X.s_0.heap.get? b = some o → b < n0 ∧ b ≠ X.env.locals := fun {b o} e => ⟨Nat.lt_of_lt_of_le (Heap.lt_size e) am.sz, Nat.ne_of_lt (Nat.lt_of_lt_of_le (Heap.lt_size e) I.ok.above)⟩
  have hmk : ∀ {b : Addr} {o : HO}, H1 b = some o → mask s1.heap pv H1 b = some o := fun {b o} e => by
    rw [mask_off fun z => by rw [(hpv b z).2] at e; cases e]; exact e
  refine ⟨I.ok, ?_, J.bare, ⟨fun b o e n hb hx => ?_, fun b o e n hb hx => ?_, fun b o e n hx => ?_, fun b o e hx => ?_, fun b xs e => ?_, fun b o u e => ?_, fun b ps e => ?_⟩, ?_, fun x c e => ?_, ?_, fun x c e => ?_, fun p hp => ?_, hok_mask J.hok fun b z => (hpv b z).2, I.len⟩
  · exact (J.os.trans l.os).trans I.os
  · obtain ⟨h1, h2⟩ := lt0 e
    exact keep h1 (I.base.keep b o e n hb hx) (I.base.free b o e n hx) (nst b hb h2)
  · obtain ⟨h1, h2⟩ := lt0 e
    obtain ⟨sl, e1⟩ := I.base.slot b o e n hb hx
    obtain ⟨sl2, e2⟩ := any h1 e1 (I.base.free b o e n hx)
    exact ⟨sl2, e2⟩
  · obtain ⟨h1, h2⟩ := lt0 e
    obtain ⟨o', e1⟩ := I.base.there b o e hx
    exact free h1 e1 (I.base.free b o e n hx)
  · obtain ⟨h1, h2⟩ := lt0 e
    obtain ⟨o', e1⟩ := I.base.there b o e hx
    exact J.base.there b o' (l.cut b o' h1 e1) (by intro z; exact absurd (show b ∈ ([] : List Addr) from z) (by simp))
  · exact hmk (J.base.tups b xs (l.some (I.base.tups b xs e) fun ⟨_, q⟩ => by cases q))
  · exact hmk (J.base.frzs b o u (l.some (I.base.frzs b o u e) fun ⟨_, q⟩ => by cases q))
  · obtain ⟨m1, e1⟩ := I.base.tbls b ps e
    obtain ⟨m2, e2⟩ := J.base.tbls b _ (l.some e1 fun ⟨_, q⟩ => by cases q)
    exact ⟨m1 ++ m2, by rw [hmk e2, Array.append_assoc]⟩
  · obtain ⟨m, ⟨o, es, ep, ho, r⟩, hl⟩ := I.loc
    obtain ⟨sl, hL⟩ := any am.loc ho I.free
    refine ⟨m, ⟨_, es, ep, hL, r⟩, fun i x v e1 e2 e3 => ?_⟩
    obtain ⟨u, rv, lk⟩ := hl i x v e1 e2 e3
    refine ⟨u, rv, ?_⟩
    rcases lk with lk | ⟨k, c, e, ⟨oc, hoc, hd⟩⟩
    · exact .inl lk
    · obtain ⟨sl2, q⟩ := any (am.cel x c e) hoc (I.freeC x c e)
      exact .inr ⟨k, c, e, ⟨_, q, hd⟩⟩
  · obtain ⟨v, oc, hoc, hd⟩ := I.cell x c e
    obtain ⟨sl2, q⟩ := any (am.cel x c e) hoc (I.freeC x c e)
    exact ⟨v, _, q, hd⟩
  · obtain ⟨m, ⟨o, es, ep, ho, r⟩, hl⟩ := I.loc
    exact free am.loc ho I.free
  · obtain ⟨v, oc, hoc, hd⟩ := I.cell x c e
    exact free (am.cel x c e) hoc (I.freeC x c e)
  · obtain ⟨e, n, ne, nf, d⟩ := I.pin p hp
    exact ⟨keep (am.pin p hp) e n (nst p.1 nf ne), free (am.pin p hp) e n, ne, nf, d⟩
/-- THE WAKE: the generator's state at the next turn -/
theorem wake {X : Cx} {pins ip : List (Addr × Obj)} {σ2 σg : L2.St} {H0 H1 Hc2 : Hp} {s2 s0 s1 : Shared} (am : Amb X pins n0) (hP : X.prog = P) (hw : X.w = w) (hb : X.base = base) (hs0 : s0.heap.objs.size = n0)
    (J : Inv (gx P w K mg base N qual scope f cd A X.stack n0 pn s0 H0) ip σg H1 s1) (I2 : Inv X pins σ2 Hc2 s2)
    (ag : ∀ b, pvOf qual scope f cd n0 (pn ++ ip) b → Hc2 b = mask s1.heap (pvOf qual scope f cd n0 (pn ++ ip)) H1 b) (hpv : ∀ b, pvOf qual scope f cd n0 (pn ++ ip) b → n0 ≤ b) :
    ∃ s0', Lk X pins n0 σ2 Hc2 s2 s0' (unmask (pvOf qual scope f cd n0 (pn ++ ip)) Hc2) ∧
      Inv (gx P w K mg base N qual scope f cd A X.stack n0 pn s0' (unmask (pvOf qual scope f cd n0 (pn ++ ip)) Hc2)) ip σg (unmask (pvOf qual scope f cd n0 (pn ++ ip)) Hc2) s2 := by
  subst hP hw hb
  generalize hpq : pvOf qual scope f cd n0 (pn ++ ip) = pv at *
  have kp : ∀ {b : Addr} {o : Obj}, pv b → s1.heap.get? b = some o → s2.heap.get? b = some o := fun {b o} p e => by
    have q := ag b p
    rw [mask_on p, e] at q
    exact (I2.hok b _ q).1
  have hL : pv n0 := by rw [← hpq]; exact .inl rfl
  have hC : ∀ x c, (envOfC qual scope n0 f cd).cells.lookup x = some c → pv c := fun x c e => by rw [← hpq]; exact .inr (.inl ⟨x, e⟩)
  have hI : ∀ p ∈ pn ++ ip, pv p.1 := fun p hp => by rw [← hpq]; exact .inr (.inr ⟨p, hp, rfl⟩)
  have sz2 : n0 ≤ s2.heap.objs.size := by
    obtain ⟨m, ⟨o, es, ep, ho, r⟩, hl⟩ := J.loc
    exact Nat.le_of_lt (Heap.lt_size (kp hL ho))
  have um : ∀ b, unmask pv Hc2 b = Hc2 b ∨ (unmask pv Hc2 b = none ∧ n0 ≤ b ∧ (∃ o, Hc2 b = some o ∧ PL b o) ) ∨ (unmask pv Hc2 b = none ∧ Hc2 b = none) := fun b => by
    by_cases p : pv b
    · have q := ag b p
      rw [mask_on p] at q
      cases e : s1.heap.get? b with
      | none => rw [e] at q; exact .inr (.inr ⟨unmask_on p, q⟩)
      | some o => rw [e] at q; exact .inr (.inl ⟨unmask_on p, hpv b p, _, q, _, rfl⟩)
    · exact .inl (unmask_off p)
  have um2 : ∀ b, unmask pv Hc2 b = Hc2 b ∨ (unmask pv Hc2 b = none ∧ n0 ≤ b ∧ ∃ o, Hc2 b = some o ∧ PL b o) := fun b => by
    rcases um b with q | q | ⟨q1, q2⟩
    · exact .inl q
    · exact .inr q
    · exact .inl (q1.trans q2.symm)
  have non : ∀ {b : Addr}, Hc2 b = none → unmask pv Hc2 b = none := fun {b} e => by
    by_cases p : pv b
    · exact unmask_on p
    · rw [unmask_off p]; exact e
  refine ⟨{ s2 with heap := cut s2.heap n0 }, ⟨I2, rfl, cut_size sz2, fun b o hb e => by rw [← e]; exact cut_get hb, um2⟩, ⟨re_ok J.ok ((cut_size sz2).trans hs0.symm) (fun b o e => ?_) ?_ (fun b hb => ?_), rfl, I2.bare, Un.kept fun b o e => (cut_of e sz2).2, ?_, fun x c e => ?_, unmask_on hL, fun x c e => unmask_on (hC x c e), fun p hp => ?_, hok_un I2.hok fun b => ?_, J.len⟩⟩
  · obtain ⟨e1, n1⟩ := I2.bs b o e
    have hlt : b < n0 := by
      have z : b < X.s_0.heap.objs.size := Nat.lt_of_lt_of_le (Heap.lt_size e) I2.ok.bsz
      exact Nat.lt_of_lt_of_le z am.sz
    exact ⟨by show (cut s2.heap n0).get? b = _; rw [cut_get hlt]; exact e1, non n1⟩
  · have all : ∀ (l : List Env), (∀ b ∈ frs l, b < n0) → s2.heap.FunFrames X.base l → (cut s2.heap n0).FunFrames X.base l := by
      intro l
      induction l with
      | nil => intro _ _; trivial
      | cons env r ih =>
        intro hs hl
        obtain ⟨hk, ⟨L, o, hf, hn, ho, hd⟩, hr⟩ := hl
        have hL : L < n0 := hs L (by unfold frs; rw [List.filterMap_cons, hf]; exact List.mem_cons_self)
        exact ⟨hk, ⟨L, o, hf, hn, by rw [cut_get hL]; exact ho, hd⟩, ih (fun b hb => hs b (by unfold frs; rw [List.filterMap_cons, hf]; exact List.mem_cons_of_mem _ hb)) hr⟩
    exact all X.stack am.frs I2.stack
  · exact non (I2.stkFree b hb)
  · obtain ⟨m, hn, hl⟩ := J.loc
    refine ⟨m, hn.at' fun o e => kp hL e, fun i x v e1 e2 e3 => ?_⟩
    obtain ⟨u, rv, lk⟩ := hl i x v e1 e2 e3
    refine ⟨u, rv, ?_⟩
    rcases lk with lk | ⟨k, c, e, ⟨oc, hoc, hd⟩⟩
    · exact .inl lk
    · exact .inr ⟨k, c, e, ⟨oc, kp (hC x c e) hoc, hd⟩⟩
  · obtain ⟨v, oc, hoc, hd⟩ := J.cell x c e
    exact ⟨v, oc, kp (hC x c e) hoc, hd⟩
  · obtain ⟨e, n, ne, nf, d⟩ := J.pin p hp
    exact ⟨kp (hI p hp) e, unmask_on (hI p hp), ne, nf, d⟩
  · rcases um2 b with q | ⟨q, _, φ⟩
    · exact .inl q
    · exact .inr ⟨q, φ⟩
end
end GG
set_option maxHeartbeats 4000000
-- text S4
/-! # the statements of a generator -/
namespace GG
open PySem PySem.Spec PyProof.Rows L2
section
variable (X : Cx) (pins : List (Addr × Obj)) (a : Addr) (g : Nat) (item : Nat → V → Hp → Prop) (A : Around)
/-- what a turn is to give the walker: r items more, the next one the i-th -/
def Trn : Nat → Nat → Hp → (Addr → Prop) → L2.St → End → Shared → Prop
  | 0, i, Hc, _, σ, e, s1 => (e = .ret (.ok (.ret .none)) ∨ e = .ret (.ok .next)) ∧ ∃ H', Inv X pins σ H' s1 ∧ Kp Hc H' ∧ item i .non H'
  | r + 1, i, Hc, G, σ, e, s1 => ∃ v l k c p fs, e = .susp v false l k c p fs ∧ fs.any Frame.guarded = false ∧ ∃ x H' G', RelV x v ∧ Inv X pins σ H' s1 ∧ Kp Hc H' ∧
      (∀ b, G' b → H' b ≠ none ∧ (G b ∨ Hc b = none ∨ ∃ o, H' b = some o ∧ PL b o)) ∧ item i x H' ∧ s1.heap.IsGen a g ∧
      ∀ σ2 H2 s2, Inv X pins σ2 H2 s2 → (∀ b, G' b → H2 b = H' b) → s2.heap.IsGen a g ∧ Seg1 (model X.prog X.w) A (Trn r (i + 1) H2 G' σ2) c (k (.send .none)) fs (s2.setGen g .running)
theorem Trn.quiet {r i : Nat} {Hc : Hp} {G : Addr → Prop} {σ : L2.St} {e : End} {s1 : Shared} (h : Trn X pins a g item A r i Hc G σ e s1) : e.quiet = true := by
  cases r with
  | zero => obtain ⟨h | h, _⟩ := h <;> rw [h] <;> rfl
  | succ r =>
    obtain ⟨v, l, k, c, p, fs, rfl, hf, _⟩ := h
    show (!(false || fs.any Frame.guarded)) = true
    rw [hf]; rfl
end
/-- where a turn stands: r items are still to come, the next one is the i-th; the heap at the wake; what the walker leaves as it is -/
structure U where
  r : Nat
  i : Nat
  Hr : Hp
  G : Addr → Prop
structure GE where
  nx : U → L2.St → Hp → Prop
  rt : U → V → Hp → Prop
  bk : U → L2.St → Hp → Prop := fun _ _ _ => False
  ct : U → L2.St → Hp → Prop := fun _ _ _ => False
abbrev TY := GE → U → L2.St → Hp → Prop
def GE.at (D : GE) (u : U) : Ends := { nx := D.nx u, rt := D.rt u, bk := D.bk u, ct := D.ct u }
/-- the walker's side of a turn -/
structure Gh where
  σ : L2.St
  Hc : Hp
  Gc : Addr → Prop
  s2 : Shared
  s0 : Shared
/-- all that stays the same through the generator's life -/
structure Life where
  P : Program
  w : World
  K : PySem.W.Frag
  mg : Str → Option Value
  base : Heap
  N : List Str
  qual : Str
  scope : Scope
  f : Addr
  cd : Value
  X : Cx
  pins : List (Addr × Obj)
  a : Addr
  g : Nat
  go : Obj
  item : Nat → V → Hp → Prop
  A : Around
  n0 : Nat
abbrev Life.env (L : Life) : Env := envOfC L.qual L.scope L.n0 L.f L.cd
abbrev Life.gx (L : Life) (s0 : Shared) (H0 : Hp) : Cx := GG.gx L.P L.w L.K L.mg L.base L.N L.qual L.scope L.f L.cd L.A L.X.stack L.n0 [(L.a, L.go)] s0 H0
abbrev Life.pv (L : Life) (ip : List (Addr × Obj)) : Addr → Prop := pvOf L.qual L.scope L.f L.cd L.n0 ([(L.a, L.go)] ++ ip)
structure Life.Ok (L : Life) : Prop where
  prog : L.X.prog = L.P
  w : L.X.w = L.w
  base : L.X.base = L.base
  amb : Amb L.X L.pins L.n0
  age : L.n0 ≤ L.a
  gen : ∀ h : Heap, h.get? L.a = some L.go → h.IsGen L.a L.g
  mono : ∀ i x H H', (∀ b o, H b = some o → H' b = some o) → L.item i x H → L.item i x H'
  kind : L.env.scope.isCoroutine = false
structure TOk (L : Life) (gh : Gh) (u : U) : Prop where
  lk : Lk L.X L.pins L.n0 gh.σ gh.Hc gh.s2 gh.s0 u.Hr
  sub : ∀ b, u.G b → gh.Gc b
  own : ∀ b, gh.Hc b ≠ none → u.Hr b = none → gh.Gc b
structure CC (L : Life) (ip : List (Addr × Obj)) (c : Code) (fs : List Frame) (gd : Bool → Bool) : Prop where
  over : L.A.over c fs = L.A.deeper L.env
  split : splitAtGen fs = none
  guard : fs.any Frame.guarded = false
  gd : gd false = false
  ipn : ∀ p ∈ ip, L.n0 ≤ p.1
def YSP (L : Life) (ip : List (Addr × Obj)) (D : GE) (gh : Gh) (u : U) (f : Flow) (s : Shared) : Prop := SP (L.gx gh.s0 u.Hr) ip (D.at u) f s
abbrev Life.seg (L : Life) (gh : Gh) (u : U) := Seg1 (model L.P L.w) L.A (Trn L.X L.pins L.a L.g L.item L.A u.r u.i gh.Hc gh.Gc gh.σ)
structure GY (L : Life) (st : Stmt) (t : TY) : Prop where
  run : ∀ (gh : Gh) (u : U) (ip : List (Addr × Obj)) (c : Code) (fs : List Frame) (K : Flow → Sem PySem.Fin) (J : Value → Sem PySem.Fin) (gd : Bool → Bool) (lv : List Value → List Value) (s : Shared) (σ : L2.St) (H : Hp) (D : GE),
    CC L ip c fs gd → TOk L gh u → (∀ gh u f s, TOk L gh u → YSP L ip D gh u f s → L.seg gh u c (K f) fs s) → Inv (L.gx gh.s0 u.Hr) ip σ H s → t D u σ H → L.seg gh u c ((exec st L.env).wrap K J gd lv) fs s
structure GYs (L : Life) (st : List Stmt) (t : TY) : Prop where
  run : ∀ (gh : Gh) (u : U) (ip : List (Addr × Obj)) (c : Code) (fs : List Frame) (K : Flow → Sem PySem.Fin) (J : Value → Sem PySem.Fin) (gd : Bool → Bool) (lv : List Value → List Value) (s : Shared) (σ : L2.St) (H : Hp) (D : GE),
    CC L ip c fs gd → TOk L gh u → (∀ gh u f s, TOk L gh u → YSP L ip D gh u f s → L.seg gh u c (K f) fs s) → Inv (L.gx gh.s0 u.Hr) ip σ H s → t D u σ H → L.seg gh u c ((execs st L.env).wrap K J gd lv) fs s
section
variable {L : Life} {st : Stmt} {rest : List Stmt}
def tYP (t : Shared → Hp → TS) : TY := fun D u σ H => ∀ s0 H0, t s0 H0 (D.at u) σ H
theorem gy_ps {t : Shared → Hp → TS} (h : ∀ s0 H0, PS (L.gx s0 H0) st (t s0 H0)) : GY L st (tYP t) := by
  refine ⟨fun gh u ip c fs K J gd lv s σ H D g tk k I ht => ?_⟩
  refine s1_wrap ?_
  rw [g.over]
  exact wpAny_mono ((h gh.s0 u.Hr).run ip s σ H (D.at u) I (ht gh.s0 u.Hr)) (fun f s' hs => k gh u f s' tk hs) fun x s' hx => hx.elim
theorem gys_pss {t : Shared → Hp → TS} (h : ∀ s0 H0, PSs (L.gx s0 H0) rest (t s0 H0)) : GYs L rest (tYP t) := by
  refine ⟨fun gh u ip c fs K J gd lv s σ H D g tk k I ht => ?_⟩
  refine s1_wrap ?_
  rw [g.over]
  exact wpAny_mono ((h gh.s0 u.Hr).run ip s σ H (D.at u) I (ht gh.s0 u.Hr)) (fun f s' hs => k gh u f s' tk hs) fun x s' hx => hx.elim
def tYThen (t v : TY) : TY := fun D u σ H => t { D with nx := fun u' σ' H' => v D u' σ' H' } u σ H
theorem gys_cons {t v : TY} (a : GY L st t) (b : GYs L rest v) : GYs L (st :: rest) (tYThen t v) := by
  refine ⟨fun gh u ip c fs K J gd lv s σ H D g tk k I ht => ?_⟩
  refine s1_execs_cons ?_
  refine a.run gh u ip c fs _ J gd lv s σ H { D with nx := fun u' σ' H' => v D u' σ' H' } g tk (fun gh' u' f s' tk' hs => ?_) I ht
  cases f with
  | next =>
    obtain ⟨σ', H', I', q⟩ := hs
    exact b.run gh' u' ip c fs K J gd lv s' σ' H' D g tk' k I' q
  | brk => exact k gh' u' .brk s' tk' hs
  | cont => exact k gh' u' .cont s' tk' hs
  | ret x => exact k gh' u' (.ret x) s' tk' hs
theorem gys_one {t : TY} (a : GY L st t) : GYs L [st] t := by
  refine ⟨fun gh u ip c fs K J gd lv s σ H D g tk k I ht => ?_⟩
  refine s1_execs_cons ?_
  refine a.run gh u ip c fs _ J gd lv s σ H D g tk (fun gh' u' f s' tk' hs => ?_) I ht
  cases f with
  | next => exact s1_execs_nil (k gh' u' .next s' tk' hs)
  | brk => exact k gh' u' .brk s' tk' hs
  | cont => exact k gh' u' .cont s' tk' hs
  | ret x => exact k gh' u' (.ret x) s' tk' hs
def tYIf (c : Shared → Hp → TT) (t v : TY) : TY := fun D u σ H => ∀ s0 H0, c s0 H0 σ H fun b H1 => if b = true then t D u σ H1 else v D u σ H1
theorem gy_if {c : Expr} {x y : List Stmt} {tc : Shared → Hp → TT} {t v : TY} {pos : Pos} (hc : ∀ s0 H0, PT (L.gx s0 H0) c (tc s0 H0)) (ha : GYs L x t) (hb : GYs L y v) : GY L (.If c x y pos) (tYIf tc t v) := by
  refine ⟨fun gh u ip c fs K J gd lv s σ H D g tk k I ht => ?_⟩
  refine s1_If ?_
  rw [g.over]
  refine wpAny_mono ((hc gh.s0 u.Hr).run ip s σ H _ I (ht gh.s0 u.Hr)) (fun b s' hs => ?_) fun x s' hx => hx.elim
  obtain ⟨H1, I1, q⟩ := hs
  cases b with
  | true => rw [if_pos rfl]; exact ha.run gh u ip c fs K J gd lv s' σ H1 D g tk k I1 q
  | false => rw [if_neg Bool.false_ne_true]; exact hb.run gh u ip c fs K J gd lv s' σ H1 D g tk k I1 q
/-- yield: the item, what the generator leans on behind it -/
def tYY (item : Nat → V → Hp → Prop) (te : Shared → Hp → TE) : TY := fun D u σ H => ∀ s0 H0, te s0 H0 σ H fun x H1 => ∃ r', u.r = r' + 1 ∧ ∃ G' : Addr → Prop, (∀ b, G' b → H1 b ≠ none ∧ (u.G b ∨ u.Hr b = none)) ∧ item u.i x H1 ∧ Kp u.Hr H1 ∧
  ∀ H2, (∀ b, G' b → H2 b = H1 b) → D.nx ⟨r', u.i + 1, H2, G'⟩ σ H2
theorem inv_pv {gh : Gh} {u : U} {ip : List (Addr × Obj)} {σ : L2.St} {H : Hp} {s : Shared} (ok : L.Ok) (hs : gh.s0.heap.objs.size = L.n0) (hip : ∀ p ∈ ip, L.n0 ≤ p.1) (I : Inv (L.gx gh.s0 u.Hr) ip σ H s) : ∀ b, L.pv ip b → L.n0 ≤ b ∧ H b = none ∧ ∃ o, s.heap.get? b = some o := by
  intro b hb
  rcases hb with e | ⟨x, e⟩ | ⟨p, hp, e⟩
  · subst e
    obtain ⟨m, ⟨o, es, ep, ho, r⟩, hl⟩ := I.loc
    exact ⟨Nat.le_refl _, I.free, o, ho⟩
  · obtain ⟨v, o, ho, _⟩ := I.cell x b e
    refine ⟨?_, I.freeC x b e, o, ho⟩
    have z := I.ok.cab x b rfl e
    rw [show (L.gx gh.s0 u.Hr).s_0.heap.objs.size = L.n0 from hs] at z
    exact z
  · subst e
    obtain ⟨e, n, _⟩ := I.pin p hp
    refine ⟨?_, n, _, e⟩
    rcases List.mem_append.mp hp with z | z
    · rw [List.mem_singleton.mp z]; exact ok.age
    · exact hip p z
theorem gy_yield {e : Expr} {yp pos : Pos} {te : Shared → Hp → TE} (ok : L.Ok) (he : ∀ s0 H0, PE (L.gx s0 H0) e (te s0 H0)) (hi : interactive L.env = false := by rfl) : GY L (.Expr (.Yield (some e) yp) pos) (tYY L.item te) := by
  refine ⟨fun gh u ip c fs K J gd lv s σ H D g tk k I ht => ?_⟩
  refine s1_Expr_Yield g.split g.gd ?_ ok.kind hi
  rw [g.over]
  refine wpAny_mono ((he gh.s0 u.Hr).run ip s σ H _ I (ht gh.s0 u.Hr)) (fun v s' hv => ?_) fun x s' hx => hx.elim
  obtain ⟨x, H1, I1, rv, r', hr, G', hG, hit, hkp, hn⟩ := hv
  intro l kk p _ hk2
  have hpv := inv_pv ok tk.lk.size g.ipn I1
  rw [show u.r = r' + 1 from hr]
  have hmk : ∀ {b : Addr} {o : HO}, H1 b = some o → mask s'.heap (L.pv ip) H1 b = some o := fun {b o} e => by
    rw [mask_off fun z => by rw [(hpv b z).2.1] at e; cases e]; exact e
  have IC := sleep ok.amb ok.prog ok.w tk.lk I1 (L.pv ip) fun b z => ⟨(hpv b z).1, (hpv b z).2.1⟩
  have ga : s'.heap.get? L.a = some L.go := (I1.pin (L.a, L.go) (List.mem_append_left _ (List.mem_singleton.mpr rfl))).1
  refine ⟨v, l, kk, c, p, fs, rfl, g.guard, x, mask s'.heap (L.pv ip) H1, fun b => G' b ∨ L.pv ip b, rv, IC, (tk.lk.kp.trans hkp).trans (Kp.of fun b o => hmk), fun b hb => ?_, ok.mono _ _ _ _ (fun b o => hmk) hit, ok.gen _ ga, fun σ2 H2 s2 I2 ag => ?_⟩
  · rcases hb with hb | hb
    · obtain ⟨h1, h2⟩ := hG b hb
      have npv : ¬ L.pv ip b := fun z => h1 (hpv b z).2.1
      refine ⟨by rw [mask_off npv]; exact h1, ?_⟩
      rcases h2 with h2 | h2
      · exact .inl (tk.sub b h2)
      · by_cases z : gh.Hc b = none
        · exact .inr (.inl z)
        · exact .inl (tk.own b z h2)
    · obtain ⟨_, _, o, ho⟩ := hpv b hb
      have e : mask s'.heap (L.pv ip) H1 b = some (.ext fun h' => h'.get? b = some o) := by rw [mask_on hb, ho]; rfl
      exact ⟨by rw [e]; simp, .inr (.inr ⟨_, e, _, rfl⟩)⟩
  · have ag2 : ∀ b, L.pv ip b → H2 b = mask s'.heap (L.pv ip) H1 b := fun b hb => ag b (.inr hb)
    have ga2 : s2.heap.get? L.a = some L.go := by
      have q := ag2 L.a (.inr (.inr ⟨(L.a, L.go), List.mem_append_left _ (List.mem_singleton.mpr rfl), rfl⟩))
      rw [mask_on (show L.pv ip L.a from .inr (.inr ⟨(L.a, L.go), List.mem_append_left _ (List.mem_singleton.mpr rfl), rfl⟩)), ga] at q
      exact (I2.hok L.a _ q).1
    refine ⟨ok.gen _ ga2, ?_⟩
    have I2' : Inv L.X L.pins σ2 H2 (s2.setGen L.g .running) := I2.call' (ch := []) rfl Un.refl I2.hok (allBare_setGen I2.bare rfl) fun b z => by simp at z
    obtain ⟨s0', lk', J'⟩ := wake ok.amb ok.prog ok.w ok.base tk.lk.size I1 I2' ag2 fun b z => (hpv b z).1
    have tk' : TOk L ⟨σ2, H2, fun b => G' b ∨ L.pv ip b, s2.setGen L.g .running, s0'⟩ ⟨r', u.i + 1, unmask (L.pv ip) H2, G'⟩ := ⟨lk', fun b hb => .inl hb, fun b h1 h2 => by
      by_cases z : L.pv ip b
      · exact .inr z
      · have h3 : unmask (L.pv ip) H2 b = none := h2
        rw [unmask_off z] at h3
        exact (h1 h3).elim⟩
    rw [ok.prog, ok.w]
    refine hk2 _ _ (k ⟨σ2, H2, fun b => G' b ∨ L.pv ip b, s2.setGen L.g .running, s0'⟩ ⟨r', u.i + 1, unmask (L.pv ip) H2, G'⟩ .next _ tk' ⟨σ, _, J', hn _ fun b hb => ?_⟩)
    have npv : ¬ L.pv ip b := fun z => (hG b hb).1 (hpv b z).2.1
    rw [unmask_off npv, ag b (.inl hb), mask_off npv]
end
end GG
set_option maxHeartbeats 4000000
-- text S5
/-! # for within a generator; a generator def; for over a generator -/
namespace GG
open PySem PySem.Spec PyProof.Rows L2
section
variable {L : Life}
def tYFor (wi : Shared → Hp → TI) (gg : Shared → Hp → TG) (tb : TY) : TY := fun D u σ H => ∀ s0 H0, wi s0 H0 σ H fun J H1 => ∃ W : Nat → Nat → U → L2.St → Hp → Prop, (∃ m, W 0 m u σ H1) ∧ ∀ i m u σ H, W i m u σ H →
  (J.stop i H ∧ D.nx u σ H) ∨ (J.go i H ∧ ∃ N : U → L2.St → Hp → Prop, (∀ u' σ' H', N u' σ' H' → ∃ m', m' < m ∧ W (i + 1) m' u' σ' H') ∧ ∀ x H', J.yld i H x H' → ∀ s0 H0, gg s0 H0 x σ H' fun σ2 H2 => tb { D with nx := N, ct := N, bk := D.nx } u σ2 H2)
theorem cc_loop {ip ip' : List (Addr × Obj)} {c c' : Code} {fs : List Frame} {gd : Bool → Bool} {k : Result → Sem PySem.Fin} {l kp : List Value} {p : Pos} (g : CC L ip c fs gd) (hw : c'.weight = 0) (hu : c'.cUnits = 0) (hip : ∀ q ∈ ip', L.n0 ≤ q.1) : CC L ip' c' (.ret k none (gd false) l c p kp :: fs) id where
  over := (GenW.over_loop hw hu).trans g.over
  split := by
    show (splitAtGen fs).map _ = none
    rw [g.split]; rfl
  guard := by
    show (gd false || fs.any Frame.guarded) = false
    rw [g.gd, g.guard]; rfl
  gd := rfl
  ipn := hip
theorem gy_for {tg iter : Expr} {body : List Stmt} {wi : Shared → Hp → TI} {gg : Shared → Hp → TG} {tb : TY} {pos : Pos} (hi : ∀ s0 H0, PI (L.gx s0 H0) tg iter (wi s0 H0)) (hg : ∀ s0 H0, PG (L.gx s0 H0) tg (gg s0 H0)) (hb : GYs L body tb)
    (hs : ∀ x, foldedSetIterable iter L.env x = pure x := by intro _; rfl) : GY L (.For tg iter body [] pos) (tYFor wi gg tb) := by
  refine ⟨fun gh u ip c fs K J gd lv s σ H D g tk k I ht => ?_⟩
  refine s1_For ?_ hs
  rw [g.over]
  refine wpAny_mono ((hi gh.s0 u.Hr).run ip s σ H _ I (ht gh.s0 u.Hr)) (fun v s1 h1 => ?_) fun x s' hx => hx.elim
  refine wpAny_mono h1 (fun itv s2 h2 p => ?_) fun x s' hx => hx.elim
  obtain ⟨it, fp, tn, Jt, H2, e, I2, T, st2, f2, W, ⟨m0, w0⟩, turn⟩ := h2
  subst e
  have T' : Turn L.P L.w L.K tg Jt fp it tn := T
  have st : ∀ b ∈ fp, b ≠ L.env.locals ∧ b ∉ frs L.X.stack ∧ L.n0 ≤ b ∧ (∀ x c, L.env.cells.lookup x = some c → c ≠ b) ∧ ∀ q ∈ [(L.a, L.go)] ++ ip, q.1 ≠ b := fun b hb => by
    obtain ⟨_, q1, q2, q3, q4, q5⟩ := f2 b hb
    refine ⟨q1, q2, ?_, q4, q5⟩
    rcases q3 with z | z
    · exact absurd (show b ∈ ([] : List Addr) from z) (by simp)
    · have z' : gh.s0.heap.objs.size ≤ b := z
      rw [tk.lk.size] at z'; exact z'
  have stat : ∀ {gh : Gh} {u : U} {H' : Hp}, TOk L gh u → (∀ b ∈ fp, H' b = none) → ∀ b ∈ fp, FpOk (L.gx gh.s0 u.Hr) ip H' b := fun {gh u H'} tk hn b hb => by
    obtain ⟨q1, q2, q3, q4, q5⟩ := st b hb
    exact ⟨hn b hb, q1, q2, .inr (by show gh.s0.heap.objs.size ≤ b; rw [tk.lk.size]; exact q3), q4, q5⟩
  have loop : ∀ (m i : Nat) (gh : Gh) (u : U) (s : Shared) (σ : L2.St) (H : Hp), TOk L gh u → Inv (L.gx gh.s0 u.Hr) ip σ H s → tn i s.heap → (∀ b ∈ fp, H b = none) → W i m u σ H →
      L.seg gh u (.forLoop tg (.ref it) body [] L.env) ((model L.P L.w).den (.forLoop tg (.ref it) body [] L.env))
        (.ret (fun r => ((match r with | .ok f => (.pure f : Sem Flow) | .error e => .raise e).onRaise (L2.cameBack L.env)).wrap K J gd lv) none (gd false) (lv []) c p [] :: fs) s := by
    intro m
    induction m using Nat.strongRecOn with
    | ind m ih =>
      intro i gh u s σ H tk I hst fr hw
      have gl : ∀ ip' : List (Addr × Obj), (∀ q ∈ ip', L.n0 ≤ q.1) → CC L ip' (.forLoop tg (.ref it) body [] L.env) (.ret (fun r => ((match r with | .ok f => (.pure f : Sem Flow) | .error e => .raise e).onRaise (L2.cameBack L.env)).wrap K J gd lv) none (gd false) (lv []) c p [] :: fs) id :=
        fun ip' h => cc_loop g rfl rfl h
      refine s1_forLoop ?_
      rw [(gl ip g.ipn).over]
      rcases turn i m u σ H hw with ⟨stop, qn⟩ | ⟨go, N, hN, step⟩
      · refine wpAny_mono (T'.done (L.gx gh.s0 u.Hr) rfl rfl rfl rfl i ip s σ H (fun _ _ => False) I (stat tk fr) hst stop) (fun r s4 hr => ?_) fun _ _ x => x
        obtain ⟨hr, I4⟩ := hr
        subst hr
        exact s1_leaf (.ok .next) (k gh u .next s4 tk ⟨σ, H, I4, qn⟩)
      · refine wpAny_mono (T'.item (L.gx gh.s0 u.Hr) rfl rfl rfl rfl i ip s σ H (fun _ _ => False) I (stat tk fr) hst go) (fun r s4 hr => ?_) fun _ _ x => x
        obtain ⟨v, hr, h4⟩ := hr
        subst hr
        refine wpAny_mono h4 (fun _ s5 h5 => ?_) fun _ _ x => x
        obtain ⟨x, H5, I5, r5, y5, st5, fr5⟩ := h5
        have I5' := I5.pinned (stat tk fr5) (T'.obj _ _ st5)
        have hip' : ∀ q ∈ ip ++ pinsAt fp s5.heap, L.n0 ≤ q.1 := fun q hq => (List.mem_append.mp hq).elim (g.ipn q) fun z => (st q.1 (of_pinsAt z).1).2.2.1
        refine wpAny_mono ((hg gh.s0 u.Hr).run _ s5 σ H5 x v _ I5' r5 (step x H5 y5 gh.s0 u.Hr)) (fun _ s6 h6 => ?_) fun _ _ x => x
        obtain ⟨σ6, H6, I6, q6⟩ := h6
        refine hb.run gh u (ip ++ pinsAt fp s5.heap) _ _ _ _ id id s6 σ6 H6 { D with nx := N, ct := N, bk := D.nx } (gl _ hip') tk (fun gh' u' f s7 tk' hs7 => ?_) I6 q6
        have again : ∀ {σ7 : L2.St} {H7 : Hp}, Inv (L.gx gh'.s0 u'.Hr) (ip ++ pinsAt fp s5.heap) σ7 H7 s7 → N u' σ7 H7 → L.seg gh' u' (.forLoop tg (.ref it) body [] L.env) (.pure (.again (.forLoop tg (.ref it) body [] L.env)))
            (.ret (fun r => ((match r with | .ok f => (.pure f : Sem Flow) | .error e => .raise e).onRaise (L2.cameBack L.env)).wrap K J gd lv) none (gd false) (lv []) c p [] :: fs) s7 := fun {σ7 H7} I7 n7 => by
          obtain ⟨m', hm, w7⟩ := hN u' σ7 H7 n7
          refine s1_again rfl (ih m' hm (i + 1) gh' u' s7 σ7 H7 tk' I7.unpinned (T'.keep _ _ _ st5 fun b hb o e => ?_) (fun b hb => ?_) w7)
          · exact (I7.pin (b, o) (List.mem_append_right _ (List.mem_append_right _ (mem_pinsAt hb e)))).1
          · obtain ⟨o, e, d⟩ := T'.obj _ _ st5 b hb
            exact (I7.pin (b, o) (List.mem_append_right _ (List.mem_append_right _ (mem_pinsAt hb e)))).2.1
        cases f with
        | next => obtain ⟨σ7, H7, I7, n7⟩ := hs7; exact again I7 n7
        | cont => obtain ⟨σ7, H7, I7, n7⟩ := hs7; exact again I7 n7
        | brk => obtain ⟨σ7, H7, I7, q7⟩ := hs7; exact s1_leaf (.ok .next) (k gh' u' .next s7 tk' ⟨σ7, H7, I7.unpinned, q7⟩)
        | ret z => obtain ⟨x7, σ7, H7, I7, r7, q7⟩ := hs7; exact s1_leaf (.ok (.ret z)) (k gh' u' (.ret z) s7 tk' ⟨x7, σ7, H7, I7.unpinned, r7, q7⟩)
  exact loop m0 0 gh u s2 σ H2 tk I2 st2 (fun b hb => (f2 b hb).1) w0
end
/-! ### a generator def -/
/-- the promise: the arguments, the heap, how many items, what each is, what the generator leans on -/
abbrev SpY := List V → Hp → Nat → (Nat → V → Hp → Prop) → (Addr → Prop) → Prop
structure GenOk (P : Program) (w : World) (K : PySem.W.Frag) (mg : Str → Option Value) (base : Heap) (k : Nat) (f : Addr) (fd : FuncData) (ps : List Str) (sp : SpY) : Prop where
  len : ∀ vs H n it G, sp vs H n it G → vs.length = ps.length
  run : ∀ (X : Cx) (pins : List (Addr × Obj)) (σ : L2.St) (A : Around) (s : Shared) (H : Hp) (args : Args) (us : List Value) (vs : List V) (n : Nat) (item : Nat → V → Hp → Prop) (G : Addr → Prop), X.prog = P → X.w = w → X.K = K → X.mg = mg → X.base = base → X.ex = [] → Inv X pins σ H s → Room k A →
    BindsTo s fd args (ps.zip us) → Vals vs us → sp vs H n item G → (∀ i x H H', (∀ b o, H b = some o → H' b = some o) → item i x H → item i x H') →
    codeAny (model P w) A (.call (.ref f) args) (fun r s' => match r with
      | .ok (.ret u) => ∃ a g c, u = .ref a ∧ Inv X pins σ H s' ∧ s'.heap.IsGen a g ∧ s'.gens[g]? = some (.fresh c) ∧ ∀ A2, Room k A2 → A2.frames = some X.stack →
          Seg1 (model P w) A2 (Trn X pins a g item A2 n 0 H G σ) c ((model P w).den c) [] (s'.setGen g .running)
      | _ => False) s
theorem genOk_of {P : Program} {w : World} {K : PySem.W.Frag} {mg : Str → Option Value} {base : Heap} {k : Nat} {x qual : Str} {params : Arguments} {body : List Stmt} {scope : Scope} {dvs : List V} {kws : List (Str × V)} {f : Addr} {fd : FuncData} {N ps : List Str} {sp : SpY}
    (F : FunD K x qual params body scope dvs kws f fd) (S : GScope N ps scope) (len : ∀ vs H n it G, sp vs H n it G → vs.length = ps.length)
    (hbody : ∀ (cdv : Value) (L : Life), L.P = P → L.w = w → L.K = K → L.mg = mg → L.base = base → L.N = N → L.qual = qual → L.scope = scope → L.f = f → L.cd = cdv → L.Ok → Room k (L.A.deeper L.env) → ∀ (H : Hp) (vs : List V) (n : Nat) (G : Addr → Prop), sp vs H n L.item G →
      ∃ t, GYs L body t ∧ t { nx := fun u _ H' => u.r = 0 ∧ Kp u.Hr H' ∧ L.item u.i .non H', rt := fun u v H' => v = .non ∧ u.r = 0 ∧ Kp u.Hr H' ∧ L.item u.i .non H' } ⟨n, 0, H, G⟩ (start N vs) H) : GenOk P w K mg base (k + 1) f fd ps sp := by
  obtain ⟨oc, od, dV, kV, doc, pm, an, cdv, ct, osl, rfl, lk, hcd, _, _⟩ := F.ex
  refine ⟨len, fun X pins σ A s H args us vs n item G hP hw hK hmg hbs hex I hr hb r hsp mono => ?_⟩
  subst hP hw hK hmg hbs
  have hl := len _ _ _ _ _ hsp
  have KX : X.K.In s.heap := I.kIn
  have lim : s.heap.NoLimit := I.nolimit
  have hkind : ∀ y ∈ ps.zip us, scope.names.lookup y.1 = some .local ∨ (scope.names.lookup y.1 = some .cell ∧ ((cellsFrom (s.heap.objs.size + 1) scope.names []).lookup y.1).isSome = true) := fun ⟨n, v⟩ hy => by
    rcases S.par n (List.of_mem_zip hy).1 with q | q
    · exact .inl q
    · exact .inr ⟨q, PySem.W.cellsFrom_some _ _ _ (.inl q)⟩
  refine codeAny_call_generator hr.depth (KX _ _ lk) rfl S.co S.gen rfl (PySem.W.codeRec_of KX hcd) (hb _ _ _ _ ?_)
  refine wpAny_newFunctionEnv_cells S.kind hkind fun env he s1 x => ?_
  subst he
  have lim1 : s1.heap.NoLimit := lim.keeps x.toInCall.keep
  refine ⟨lim1, ?_⟩
  obtain ⟨h1, tk, es1, hk1⟩ := x.done
  have os1 : s1.os = s.os := by rw [es1]
  have gen1 : s1.gens = s.gens := by rw [es1]
  have lt1 : s.heap.objs.size < s1.heap.objs.size := x.toInCall.ns.lt
  have sz1 : s.heap.objs.size ≤ s1.heap.objs.size := Nat.le_of_lt lt1
  have kp1 : ∀ b o, s.heap.get? b = some o → s1.heap.get? b = some o := x.toInCall.keep
  have main : ∀ (go : Obj) (nm qn : Value) (tk2 : Nat), go.cls = .type "generator" → go.data = .fields #[.int s1.gens.size 0, nm, qn] → go.slots = #[] → (∀ h : Heap, (h.push go).get? h.objs.size = some go) →
      ∀ s' : Shared, s' = { s1 with gens := s1.gens.push (.fresh (.func body (envOfC qual scope s.heap.objs.size f cdv))), toks := tk2, heap := s1.heap.push go } →
      ∃ a g c, Value.ref s1.heap.objs.size = .ref a ∧ Inv X pins σ H s' ∧ s'.heap.IsGen a g ∧ s'.gens[g]? = some (.fresh c) ∧ ∀ A2, Room (k + 1) A2 → A2.frames = some X.stack →
          Seg1 (model X.prog X.w) A2 (Trn X pins a g item A2 n 0 H G σ) c ((model X.prog X.w).den c) [] (s'.setGen g .running) := by
    intro go nm qn tk2 hgc hgd0 hgs hgp s' es'
    have hgen : ∀ h : Heap, h.get? s1.heap.objs.size = some go → h.IsGen s1.heap.objs.size s1.gens.size := fun h e => ⟨go, nm, qn, e, hgc, hgd0, hgs⟩
    have hpushed : s'.heap.get? s1.heap.objs.size = some go := by rw [es']; exact hgp _
    have kp2 : ∀ b o, s1.heap.get? b = some o → s'.heap.get? b = some o := fun b o e => by rw [es']; exact Heap.get?_push_of_some _ e
    have kp3 : ∀ b o, s.heap.get? b = some o → s'.heap.get? b = some o := fun b o e => kp2 b o (kp1 b o e)
    have bare' : AllBare s'.gens := by rw [es']; exact AllBare.push (by rw [gen1]; exact I.bare) rfl
    have os' : s'.os = s.os := by rw [es']; exact os1
    have I' : Inv X pins σ H s' := I.call' (ch := []) os' (Un.kept kp3) (I.hok.kept kp3) bare' fun b z => by simp at z
    have hgs' : s'.gens[s1.gens.size]? = some (.fresh (.func body (envOfC qual scope s.heap.objs.size f cdv))) := by rw [es']; exact Array.getElem?_push_size ..
    refine ⟨s1.heap.objs.size, s1.gens.size, _, rfl, I', hgen _ hpushed, hgs', fun Aw hrw hfr => ?_⟩
    have I2 : Inv X pins σ H (s'.setGen s1.gens.size .running) := I'.call' (ch := []) rfl Un.refl I'.hok (allBare_setGen bare' rfl) fun b z => by simp at z
    have am : Amb X pins s.heap.objs.size := Amb.of I hex
    have sz2 : s.heap.objs.size ≤ s'.heap.objs.size := by
      rw [es']
      show _ ≤ (s1.heap.push go).objs.size
      rw [Heap.size_push]
      omega
    let L : Life := { P := X.prog, w := X.w, K := X.K, mg := X.mg, base := X.base, N := N, qual := qual, scope := scope, f := f, cd := cdv, X := X, pins := pins, a := s1.heap.objs.size, g := s1.gens.size, go := go, item := item, A := Aw, n0 := s.heap.objs.size }
    have ok : L.Ok := ⟨rfl, rfl, rfl, am, sz1, hgen, mono, S.co⟩
    obtain ⟨t, ht, hq⟩ := hbody cdv L rfl rfl rfl rfl rfl rfl rfl rfl rfl rfl ok (hrw.deeper _) H vs n G hsp
    have e0w : Env0 X.prog X.w X.K X.mg X.base Aw X.stack s H := ⟨hfr, I.ok.mod, I.bs, Nat.le_trans I.ok.bsz I.sz, I.stack, I.stkFree, I.hok, I.bare⟩
    have J1 : Inv (gcxOf X.prog X.w X.K X.mg X.base N qual scope f cdv Aw X.stack s H (fun _ _ _ => False) []) [] (start N vs) H s1 := inv_startG S hrw.hd e0w hl r x
    have J2 := J1.call' (s' := s') (ch := []) (os'.trans os1.symm) (Un.kept kp2) (J1.hok.kept kp2) bare' fun b z => by simp at z
    let s0 : Shared := { s' with heap := cut s'.heap s.heap.objs.size }
    have hs0 : s0.heap.objs.size = s.heap.objs.size := cut_size sz2
    have lkk : Lk X pins s.heap.objs.size σ H (s'.setGen s1.gens.size .running) s0 H := ⟨I2, rfl, hs0, fun b o hb e => by rw [← e]; exact cut_get hb, fun b => .inl rfl⟩
    have ok0 : (L.gx s0 H).Ok := by
      refine ⟨J2.ok.mod, J2.ok.kind, J2.ok.glob, J2.ok.blt, (show s0.heap.objs.size ≤ _ by rw [hs0]; exact J2.ok.above), J2.ok.inj, J2.ok.has, fun y c h e => (show s0.heap.objs.size ≤ c by rw [hs0]; exact J2.ok.cab y c h e), J2.ok.hd, J2.ok.frames, J2.ok.stk, J2.ok.exf, fun b o e => ?_,
        (show _ ≤ s0.heap.objs.size by rw [hs0]; exact J2.ok.bsz), J2.ok.noex, J2.ok.exfs, ?_, J2.ok.frf⟩
      · obtain ⟨e1, n1⟩ := I'.bs b o e
        have hlt : b < s.heap.objs.size := Nat.lt_of_lt_of_le (Heap.lt_size e) (Nat.le_trans I.ok.bsz I.sz)
        exact ⟨by show (cut s'.heap s.heap.objs.size).get? b = _; rw [cut_get hlt]; exact e1, n1⟩
      · have all : ∀ (l : List Env), (∀ b ∈ frs l, b < s.heap.objs.size) → s'.heap.FunFrames X.base l → (cut s'.heap s.heap.objs.size).FunFrames X.base l := by
          intro l
          induction l with
          | nil => intro _ _; trivial
          | cons env r ih =>
            intro hs hl
            obtain ⟨hk, ⟨L, o, hf, hn, ho, hd⟩, hr⟩ := hl
            have hL : L < s.heap.objs.size := hs L (by unfold frs; rw [List.filterMap_cons, hf]; exact List.mem_cons_self)
            exact ⟨hk, ⟨L, o, hf, hn, by rw [cut_get hL]; exact ho, hd⟩, ih (fun b hb => hs b (by unfold frs; rw [List.filterMap_cons, hf]; exact List.mem_cons_of_mem _ hb)) hr⟩
        exact all X.stack am.frs I'.stack
    have J3 : Inv (L.gx s0 H) [] (start N vs) H (s'.setGen s1.gens.size .running) := by
      refine ⟨ok0, rfl, I2.bare, Un.kept fun b o e => (cut_of e sz2).2, J2.loc, J2.cell, J2.free, J2.freeC, fun p hp => ?_, J2.hok, J2.len⟩
      have hp' : p ∈ [(s1.heap.objs.size, go)] ++ ([] : List (Addr × Obj)) := hp
      rw [List.append_nil] at hp'
      rw [List.mem_singleton.mp hp']
      refine ⟨hpushed, J1.hok.fresh (Nat.le_refl _), Nat.ne_of_gt lt1, J1.nofs (Nat.le_refl _), fun v z => by
        have z' : go.data = .cell v := z
        rw [hgd0] at z'; cases z'⟩
    have tk0 : TOk L ⟨σ, H, G, s'.setGen s1.gens.size .running, s0⟩ ⟨n, 0, H, G⟩ := ⟨lkk, fun b z => z, fun b z1 z2 => (z1 z2).elim⟩
    have fin : ∀ (gh : Gh) (u : U) (s3 : Shared) (σ3 : L2.St) (H3 : Hp), TOk L gh u → Inv (L.gx gh.s0 u.Hr) [] σ3 H3 s3 → u.r = 0 → Kp u.Hr H3 ∧ L.item u.i .non H3 → L.seg gh u (.func body L.env) (.pure (.done (.ret .none))) [] s3 := fun gh u s3 σ3 H3 tk3 I3 hr0 hk3 => by
      refine s1_end (.ok (.ret .none)) ?_
      show Trn L.X L.pins L.a L.g L.item L.A u.r u.i gh.Hc gh.Gc gh.σ _ s3
      rw [hr0]
      have z := sleep ok.amb ok.prog ok.w tk3.lk I3 (fun _ => False) fun b z => z.elim
      have hm : ∀ b o, H3 b = some o → mask s3.heap (fun _ => False) H3 b = some o := fun b o e => by rw [mask_off (fun z => z)]; exact e
      exact ⟨.inl rfl, _, z, (tk3.lk.kp.trans hk3.1).trans (Kp.of hm), mono _ _ _ _ hm hk3.2⟩
    refine s1_func ?_
    refine ht.run ⟨σ, H, G, s'.setGen s1.gens.size .running, s0⟩ ⟨n, 0, H, G⟩ [] _ [] _ _ id id _ (start N vs) H _ ⟨GenW.over_func, rfl, rfl, rfl, fun p hp => by simp at hp⟩ tk0 (fun gh u fl s3 tk3 hs => ?_) J3 hq
    cases fl with
    | next => obtain ⟨σ3, H3, I3, hr0, hk3⟩ := hs; exact fin gh u s3 σ3 H3 tk3 I3 hr0 hk3
    | brk => obtain ⟨_, _, _, q⟩ := hs; exact False.elim q
    | cont => obtain ⟨_, _, _, q⟩ := hs; exact False.elim q
    | ret z =>
      obtain ⟨v, σ3, H3, I3, rv, ev, hr0, hk3⟩ := hs
      subst ev
      have ez : z = Value.none := rv
      subst ez
      exact fin gh u s3 σ3 H3 tk3 I3 hr0 hk3
  exact main _ _ _ _ rfl rfl rfl (fun h => Heap.get?_push_size _ rfl) _ rfl
end GG
set_option maxHeartbeats 4000000
-- text S6
/-! # for over a generator -/
namespace GG
open PySem PySem.Spec PyProof.Rows L2
theorem inv_same {X : Cx} {pins : List (Addr × Obj)} {σ : L2.St} {H : Hp} {s s' : Shared} (I : Inv X pins σ H s) (e1 : s'.heap = s.heap) (e2 : s'.os = s.os) (hb : AllBare s'.gens) : Inv X pins σ H s' :=
  I.call' (ch := []) e2 (by rw [e1]; exact Un.refl) (by rw [e1]; exact I.hok) hb fun b z => by simp at z
theorem bare_map {G : Array GenState} (h : AllBare G) : AllBare (G.map stick) := fun y hy => by
  obtain ⟨x, hx, rfl⟩ := Array.mem_map.mp hy
  rw [bare_stick]; exact h x hx
section
variable {P : Program} {w : World} {A : Around} {E : Value → Shared → Prop} {s : Shared}
/-- the generator stands ready for a turn -/
def Ready (M : Model) (A : Around) (Φ : End → Shared → Prop) (g : Nat) (gs : GenState) (s : Shared) : Prop := match gs with
  | .fresh c => Seg1 M A Φ c (M.den c) [] (s.setGen g .running)
  | .suspended k₀ _ c₀ _ fs₀ _ => Seg1 M A Φ c₀ (k₀ (.send .none)) fs₀ (s.setGen g .running)
  | _ => False
theorem next_gen1 {a : Addr} {g : Nat} {gs : GenState} {Φ : End → Shared → Prop} {Q : Option Value → Shared → Prop} (hh : A.handled = none)
    (hl : s.heap.NoLimit) (hroom : A.depth < recursionLimit) (hg : s.heap.IsGen a g) (hgs : s.gens[g]? = some gs) (hgo : Ready (model P w) A.in1 Φ g gs s) (hq : ∀ e s₁, Φ e s₁ → e.quiet = true)
    (hE : ∀ e s₁, Φ e s₁ → s.gens.size ≤ s₁.gens.size → (∃ v l k c p fs, e = .susp v false l k c p fs ∧ fs.any Frame.guarded = false ∧ Q (some v) (s₁.setGen g (.suspended k l c p fs false))) ∨
      ((e = .ret (.ok (.ret .none)) ∨ e = .ret (.ok .next)) ∧ ∀ h', (∀ b o, s₁.heap.get? b = some o → h'.get? b = some o) → Q none { s₁.setGen g .finished with heap := h' })) :
    wpAny (model P w) A (pyNext (.ref a)) Q E s := by
  unfold pyNext
  refine wpAny_bind (wpAny_attempt (wpAny_callSpecial?_slot (name := Str.ofString "__next__") hg.typeIs slot_gen_next
    (wpAny_call_entry slot_gen_next hg.typeIs entry_gen_next ?_ (args_gen_next _))))
  show wpAny _ A.in1 (Builtin.Generator.genWake (.ref a) (.send .none)) _ _ s
  unfold Builtin.Generator.genWake
  refine wpAny_bind (wpAny_holding (wpAny_genNumber hg (wpAny_bind (wpAny_genState hgs ?_))))
  have go : ∀ {α : Type} {k : GenResult → Sem α} {l : List Value} {Q2 : α → Shared → Prop} {E2 : Value → Shared → Prop}, (∀ e s₁, Φ e s₁ → s.gens.size ≤ s₁.gens.size → wpAny (model P w) A.in1 (k e.result) Q2 E2 (s₁.setGen g e.genState)) → wpAny (model P w) A.in1 (.resume g (.send .none) l k) Q2 E2 s := fun {α k l Q2 E2} hk =>
    wpAny_resume1 hgs (by cases gs <;> first | exact ⟨rfl, hgo⟩ | exact hgo) hq hk
  cases gs with
  | running => exact hgo.elim
  | finished => exact hgo.elim
  | _ =>
    refine wpAny_bind (wpAny_roomToWake hl hroom ?_)
    show wpAny _ A.in1 (.resume g (.send .none) [] _) _ _ s
    refine go fun e s₁ he hsz => ?_
    rcases hE e s₁ he hsz with ⟨v, l, k, c, p, fs, rfl, hf, hQ⟩ | ⟨hr, hQ⟩
    · have e2 : (End.susp v false l k c p fs).genState = .suspended k l c p fs false := by
        show GenState.suspended k l c p fs (false || fs.any Frame.guarded) = _
        rw [hf]; rfl
      rw [e2]
      exact wpAny_pure ⟨v, rfl, wpAny_pure hQ⟩
    · have hres : e.result = .returned .none := by
        rcases hr with hr | hr <;> rw [hr] <;> rfl
      have hst : e.genState = .finished := by
        rcases hr with hr | hr <;> rw [hr] <;> rfl
      rw [hst]
      first | rw [hres] | simp only [hres]
      show wpAny _ A.in1 (newExc (.type "StopIteration") [] >>= _) _ _ _
      refine wpAny_bind ?_
      simp only [newExc, newTuple]
      refine wpAny_bind (wpAny_newObj_type ?_ (by size_fits))
      refine wpAny_bind (m := firstArgMember _ _) (wpAny_of_eq (a := Value.none) (by first | rfl | (simp only [firstArgMember]; rfl)) ?_)
      refine wpAny_newObj_type ?_ (by size_fits)
      simp only [raiseNew]
      refine wpAny_bind (wpAny_bind (wpAny_handled ?_))
      first | rw [show A.in1.handled = none from hh] | rw [hh]
      refine wpAny_throw ?_
      refine wpAny_bind (wpAny_isInstance (T := "StopIteration") (b := true) ⟨_, Heap.get?_push_size _ rfl, rfl⟩ isSubtype_stop ?_)
      exact wpAny_pure (hQ _ fun b o hb => Heap.get?_push_of_some _ (Heap.get?_push_of_some _ hb))
end
section
variable {X : Cx} {k : Nat} {f : Addr} {fd : FuncData} {ps : List Str} {sp : SpY} {dvs : List V} {ds : List Value} {x : Str} {p pos pos2 : Pos}
/-- W: the invariant by the turn and by what the generator leans on (it is left as it is) -/
def tForY (sp : SpY) (dvs : List V) (ta : TA) (gg : TG) (tb : TS) : TS := fun D σ H => ta σ H fun vs H1 => ∃ (n : Nat) (item : Nat → V → Hp → Prop) (G0 : Addr → Prop), sp (vs ++ dvs) H1 n item G0 ∧
  (∀ i x H H', (∀ b o, H b = some o → H' b = some o) → item i x H → item i x H') ∧ ∃ W : Nat → (Addr → Prop) → L2.St → Hp → Prop, W 0 G0 σ H1 ∧ ∀ i G σ H, W i G σ H →
    (i = n → ∀ H', Kp H H' → item i .non H' → D.nx σ H') ∧ (i < n → ∀ x H' G', Kp H H' → (∀ b, G' b → H' b ≠ none ∧ (G b ∨ H b = none ∨ ∃ o, H' b = some o ∧ PL b o)) → item i x H' → gg x σ H' fun σ2 H2 =>
      tb { D with nx := fun σ3 H3 => W (i + 1) G' σ3 H3 ∧ ∀ b, G' b → H3 b = H' b, ct := fun σ3 H3 => W (i + 1) G' σ3 H3 ∧ ∀ b, G' b → H3 b = H' b, bk := D.nx } σ2 H2)
theorem ps_forY {tg : Expr} {e : Expr} {es : List Expr} {body : List Stmt} {t : TA} {gg : TG} {tb : TS} (hp : PassesOwn (model X.prog X.w) X.A X.env X.xe) (hc : X.calm = true) (hex : X.ex = []) (hxe : ∀ e s, X.xe e s → False) (F : GenOk X.prog X.w X.K X.mg X.base k f fd ps sp) (hr : Room (k + 1) X.A) (hg : Gl X x) (hm : X.mg x = some (.ref f)) (hk : PySem.W.keepIn X.K (.ref f) = true)
    (hb : Binds X.K fd ps ds) (hd : Vals dvs ds) (ha : PA X (e :: es) t) (hpg : PG X tg gg) (hbd : PSs X body tb) (ht : ∀ it v, letOwnedTupleGo tg it v = pure () := by intro _ _; rfl) (hdb : (x == ("__debug__" : Str)) = false := by decide)
    (he : starEach (e :: es) X.env = (false, eval e X.env) :: starEach es X.env := by rfl) (hpl : (backTo pos (starEach es X.env)).any (·.1) = false := by rfl) (hs : ∀ v, foldedSetIterable (.Call (.Name x p) (e :: es) [] pos) X.env v = pure v := by intro _; rfl) :
    PS X (.For tg (.Call (.Name x p) (e :: es) [] pos) body [] pos2) (tForY sp dvs t gg tb) := by
  refine ⟨fun pins s σ H D I h => ?_⟩
  refine wpAny_For ?_ hs
  refine wpAny_Call_Name_kw (ld_glob I hg hm ?_ hdb)
  refine PySem.W.callWith_K (h₀ := X.base) I.ok.mod.kin hk (thn (ha.run pos pins s σ H _ I h) fun us s1 ⟨vs, H1, I1, r, q⟩ => ⟨I1.kIn, ?_⟩) he hpl
  obtain ⟨n, item, G0, hsp, mono, W, w0, turn⟩ := q
  have r2 : Vals (vs ++ dvs) (us ++ ds) := r.append hd
  have hl2 : (us ++ ds).length = ps.length := by rw [← r2.length]; exact F.len _ _ _ _ _ hsp
  refine wpAny_call (codeAny_mono (F.run X pins σ X.A s1 H1 ⟨us, []⟩ (us ++ ds) (vs ++ dvs) n item G0 rfl rfl rfl rfl rfl hex I1 (hr.mono (by omega)) (hb s1 us I1.kIn hl2) r2 hsp mono) fun r s' hq => ?_)
  cases r with
  | error e => exact False.elim hq
  | ok fl =>
    cases fl with
    | next => exact False.elim hq
    | brk => exact False.elim hq
    | cont => exact False.elim hq
    | ret u =>
      obtain ⟨a, g, c, rfl, I2, hgen, hgs, hseg⟩ := hq
      show wpAny _ _ (pyIter (.ref a)) _ _ s'
      refine wpAny_pyIter_gen hgen ?_
      have hA2 : Room k X.A.in1 := hr.in1
      have hfr2 : X.A.in1.frames = some X.stack := I.ok.frames
      refine codeAny_forLoop_any (fun m s' => ∃ i G σ H, m = n - i ∧ i ≤ n ∧ Inv X pins σ H s' ∧ W i G σ H ∧ s'.heap.IsGen a g ∧ ∃ gs, s'.gens[g]? = some gs ∧ Ready (model X.prog X.w) X.A.in1 (Trn X pins a g item X.A.in1 (n - i) i H G σ) g gs s') ?_ n
        ⟨0, G0, σ, H1, by omega, by omega, I2, w0, hgen, _, hgs, hseg X.A.in1 hA2 hfr2⟩
      rintro m s3 ⟨i, G, σ3, H3, hm3, hi, I3, w3, hgen3, gs, hgs3, rd⟩
      have hglt : g < s3.gens.size := (Array.getElem?_eq_some_iff.mp hgs3).1
      refine wpAny_passesOwn hp ?_
      refine next_gen1 hr.hd I3.nolimit (by have := hr.dp; omega) hgen3 hgs3 rd (fun e s₁ hΦ => hΦ.quiet) fun e s₁ hΦ hsz => ?_
      by_cases hin : i = n
      · right
        subst hin
        rw [Nat.sub_self] at hΦ
        obtain ⟨he1, H', I4, hkp, hfin⟩ := hΦ
        refine ⟨he1, fun h' hk' => ?_⟩
        have I5 : Inv X pins σ3 H' { s₁.setGen g .finished with heap := h' } := I4.call' (ch := []) rfl (Un.kept hk') (I4.hok.kept hk') (allBare_setGen I4.bare rfl) fun b z => by simp at z
        exact wpAny_execs_nil ⟨σ3, H', I5, (turn i G σ3 H3 w3).1 rfl H' hkp hfin⟩
      · left
        have hlt : i < n := by omega
        obtain ⟨r, hr'⟩ : ∃ r, n - i = r + 1 := ⟨n - i - 1, by omega⟩
        rw [hr'] at hΦ
        obtain ⟨v, l, kk, cc, pp, fs, rfl, hf, xv, H', G', rv, I4, hkp, hG', hit, hgen4, nxt⟩ := hΦ
        refine ⟨v, l, kk, cc, pp, fs, rfl, hf, ?_⟩
        have hs5 : (s₁.setGen g (.suspended kk l cc pp fs false)).gens[g]? = some (.suspended kk l cc pp fs false) := setGen_at (Nat.lt_of_lt_of_le hglt hsz)
        have I5 : Inv X pins σ3 H' (s₁.setGen g (.suspended kk l cc pp fs false)) := inv_same I4 rfl rfl (allBare_setGen I4.bare rfl)
        refine wpAny_of_eq (ht _ _) ?_
        have step := (turn i G σ3 H3 w3).2 hlt xv H' G' hkp hG' hit
        -- the walker's code runs beside the sleeping generator
        refine wpAny_passesOwn hp ?_
        have B1 := beside (s := s₁.setGen g (.suspended kk l cc pp fs false)) (hpg.run pins { s₁.setGen g (.suspended kk l cc pp fs false) with gens := (s₁.setGen g (.suspended kk l cc pp fs false)).gens.map stick } σ3 H' xv v _ (inv_same I5 rfl rfl (bare_map I5.bare)) rv step)
        refine wpAny_mono B1 (fun _ s6 h6 => ?_) fun x s6 h6 => ?_
        · obtain ⟨t6, e1, e2, e3, e4, σ6, H6, I6, q6⟩ := h6
          have I6' : Inv X pins σ6 H6 s6 := inv_same I6 e1 e2 (e3 I6.bare)
          have hs6 := e4 _ _ _ _ _ _ _ hs5
          refine wpAny_passesOwn hp ?_
          have B2 := beside (s := s6) (hbd.run pins { s6 with gens := s6.gens.map stick } σ6 H6 _ (inv_same I6' rfl rfl (bare_map I6'.bare)) q6)
          refine wpAny_mono B2 (fun fl s7 h7 => ?_) fun x s7 h7 => ?_
          · obtain ⟨t7, f1, f2, f3, f4, q7⟩ := h7
            have hs7 := f4 _ _ _ _ _ _ _ hs6
            have again : ∀ {σ7 : L2.St} {H7 : Hp}, Inv X pins σ7 H7 t7 → W (i + 1) G' σ7 H7 ∧ (∀ b, G' b → H7 b = H' b) → ∃ m', m' < m ∧ ∃ i G σ H, m' = n - i ∧ i ≤ n ∧ Inv X pins σ H s7 ∧ W i G σ H ∧ s7.heap.IsGen a g ∧ ∃ gs, s7.gens[g]? = some gs ∧ Ready (model X.prog X.w) X.A.in1 (Trn X pins a g item X.A.in1 (n - i) i H G σ) g gs s7 := fun {σ7 H7} I7 ⟨w7, ag⟩ => by
              have I7' : Inv X pins σ7 H7 s7 := inv_same I7 f1 f2 (f3 I7.bare)
              obtain ⟨g7, sg7⟩ := nxt σ7 H7 s7 I7' ag
              refine ⟨n - (i + 1), by omega, i + 1, G', σ7, H7, rfl, hlt, I7', w7, g7, _, hs7, ?_⟩
              have e : n - (i + 1) = r := by omega
              rw [e]
              exact sg7
            cases fl with
            | next => obtain ⟨σ7, H7, I7, n7⟩ := q7; exact again I7 n7
            | cont => obtain ⟨σ7, H7, I7, n7⟩ := q7; exact again I7 n7
            | brk => obtain ⟨σ7, H7, I7, n7⟩ := q7; exact ⟨σ7, H7, inv_same I7 f1 f2 (f3 I7.bare), n7⟩
            | ret z => obtain ⟨x7, σ7, H7, I7, r7, n7⟩ := q7; exact ⟨x7, σ7, H7, inv_same I7 f1 f2 (f3 I7.bare), r7, n7⟩
          · obtain ⟨t, _, _, _, q⟩ := h7; exact (hxe _ _ q).elim
        · obtain ⟨t, _, _, _, q⟩ := h6; exact (hxe _ _ q).elim
end
end GG
set_option maxHeartbeats 4000000
-- text X1
/-! # set(xs) of a list; sorted(set) -/
namespace GX
open PySem PySem.Spec PyProof.Rows L2
/-- a set that is new -/
abbrev emS (w : World) : Obj := { cls := .type "set", dict := none, data := .set #[] 0 (.fresh 0 0 (!w.params.followText "set-order")) }
section
variable {P : Program} {w : World} {A : Around} {E : Value → Shared → Prop} {s : Shared}
theorem set_of_list {l : Addr} {items : Array Value} (ns : List Int) {Q : Value → Shared → Prop} (hh : A.handled = none) (hl : s.heap.IsList l items) (hit : IntsAre items.toList ns) (hb : ns.length + 1 < scanBound)
    (h : ∀ (h' : Heap) (tk c : Nat), SetR w h' s.heap.objs.size (fun j => decide (j ∈ ns)) c → c ≤ ns.length → (∀ b o, s.heap.get? b = some o → h'.get? b = some o) → Q (.ref s.heap.objs.size) { s with heap := h', toks := tk }) :
    wpAny (model P w) A (call (.type "set") [.ref l]) Q E s := by
  have hisz : items.size = ns.length := by
    have q := IntsAre.length hit
    rw [Array.length_toList] at q
    exact q
  obtain ⟨c, tl, hmro⟩ := F.called_set.mro
  have hmade := F.called_set.made
  have hsub := F.called_set.sub
  refine wpAny_call (codeAny_of_tree ?_)
  show wpAny _ _ (callAny (.type "set") _) _ _ _
  refine wpAny_pure ⟨Code.quiet_builtin _ (by decide +kernel), codeAny_builtin F.entry_type_call ?_⟩
  rw [Around.under_plain (weight_type_call_type "set" [.ref l] []) rfl]
  have h1 := F.called_set.notType
  have h2 := F.called_set.canCreate
  have hct := F.typeCall_set_1 (.ref l)
  repeat (any_goals (first | assumption | wp_step))

  refine codeAny_mono (code_set_led1 (.ref l) (E := E) (Q₁ := fun obj s₁ => obj = .ref s.heap.objs.size ∧ s₁ = { s with heap := s.heap.push (emS w) }) ⟨rfl, rfl⟩) fun r s₁ hr => ?_
  cases r with
  | error e => exact hr
  | ok fl =>
    cases fl with
    | ret obj =>
      obtain ⟨rfl, rfl⟩ := hr
      have hS : (s.heap.push (emS w)).get? s.heap.objs.size = some (emS w) := Heap.get?_push_size _ rfl
      have hT : Shared.TypeIs { s with heap := s.heap.push (emS w) } (.ref s.heap.objs.size) "set" := ⟨_, hS, rfl⟩
      have hli := F.called_set.init.lookup
      have hbi := F.called_set.init.bind (.ref s.heap.objs.size)
      repeat (any_goals (first | assumption | wp_step))

      refine codeAny_mono (codeAny_call_builtin (R := wants (fun r s₂ => r = .none ∧ ∃ h' tk c, s₂ = { s with heap := h', toks := tk } ∧ SetR w h' s.heap.objs.size (fun j => decide (j ∈ ns)) c ∧ c ≤ ns.length ∧
          (∀ b o, s.heap.get? b = some o → h'.get? b = some o)) E) F.called_set.init.plain F.entry_set_init (check_set_init_1 hT ?_)) fun r₂ s₂ hr₂ => ?_
      · obtain ⟨ol, hol, hcl, nl, hdl⟩ := hl
        obtain ⟨ocls, odict, odata, oslots⟩ := ol
        simp only at hcl hdl
        subst hcl; subst hdl
        have hol' : (s.heap.push (emS w)).get? l = some { cls := .type "list", dict := odict, data := .seq items nl, slots := oslots } := Heap.get?_push_of_some _ hol
        have hsls := F.sub_list_set
        have hslf := F.sub_list_frozenset
        have hne : (Value.type "list" == Value.type "dict") = false := by decide
        have hl1 : (s.heap.push (emS w)).IsList l items := ⟨_, hol', rfl, nl, rfl⟩
        unfold Builtin.«set.__init__» noKeywords Builtin.Frozenset.updateFrom
        generalize hPI : pyIter = PI
        wp_walk
        subst hPI

        refine wpAny_pyIter_list hl1 ?_
        refine wpAny_bind (wpAny_runValue ?_)
        have hlS : l < s.heap.objs.size := Heap.lt_size hol
        have hh3 : A.in1.in1.in1.handled = none := by simp [hh]
        have hz1 : (s.heap.push (emS w)).objs.size = s.heap.objs.size + 1 := Heap.size_push ..
        have hneI : l ≠ (s.heap.push (emS w)).objs.size := by
          rw [Heap.size_push]; exact Nat.ne_of_lt (Nat.lt_succ_of_lt hlS)
        have hSf : s.heap.objs.size ∉ [(s.heap.push (emS w)).objs.size, l] := by
          rw [Heap.size_push]; simp only [List.mem_cons, List.mem_singleton, List.not_mem_nil, or_false, not_or]
          exact ⟨Nat.ne_of_lt (Nat.lt_succ_self _), Nat.ne_of_gt hlS⟩
        have hval : ∀ (i : Nat) (v : Value), items[i]? = some v → ∃ k t, ns[i]? = some k ∧ v = .int k t := fun i v hv => by
          have hi : i < ns.length := by rw [← hisz]; exact (Array.getElem?_eq_some_iff.mp hv).1
          obtain ⟨t, e⟩ := PyProof.Rows.IntsAre.int_at hit i v (by rw [Array.getElem?_toList]; exact hv)
          refine ⟨ns[i], t, List.getElem?_eq_getElem hi, ?_⟩
          rw [e, List.getD_eq_getElem?_getD, List.getElem?_eq_getElem hi] <;> rfl
        refine set_update_ints ((Walks.list hh3 _ l hneI items).toS) s.heap.objs.size
          hSf ns hisz hb hval (items.size - 0) 0 _ (by omega) (Nat.zero_le _)
          ⟨⟨_, Heap.get?_push_size _ rfl, rfl, rfl⟩, (hl1.push _)⟩ ?hS0 ?hR
        case hS0 =>
          have hget : ((s.heap.push (emS w)).push { cls := .type "list_iterator", data := .fields #[.ref l, .int 0 0] }).get? s.heap.objs.size
              = some (emS w) := Heap.get?_push_of_some _ hS
          exact ⟨0, Nat.le_refl 0, setR_new_at hget⟩
        case hR =>
          intro s' c' hm hc' hS'
          obtain ⟨h', g2, d', tk', os'⟩ := s'
          have eg : g2 = s.gens := hm.gens
          have ed : d' = s.drawn := hm.drawn
          have eo : os' = s.os := hm.os
          subst eg; subst ed; subst eo
          show wpAny _ _ _ _ _ _
          refine wpAny_pure ?_
          show wpAny _ _ (ret Value.none) _ _ _
          rw [hisz] at hc'
          refine wpAny_pure ⟨rfl, h', tk', c', rfl, hS', hc', fun b o e => ?_⟩
          have hb0 : b < s.heap.objs.size := Heap.lt_size e
          have hb1 : b ≠ s.heap.objs.size := Nat.ne_of_lt hb0
          have hb2 : b ≠ (s.heap.push (emS w)).objs.size := by
            rw [Heap.size_push]; exact Nat.ne_of_lt (Nat.lt_succ_of_lt hb0)
          exact hm.heap b o (by simp only [List.mem_cons, List.mem_singleton, List.not_mem_nil, or_false, not_or]; exact ⟨hb1, hb2⟩) (Heap.get?_push_of_some _ (Heap.get?_push_of_some _ e))

      · cases r₂ with
        | error e => exact hr₂
        | ok fl₂ =>
          cases fl₂ with
          | ret r =>
            obtain ⟨rfl, h', tk, c', rfl, hS', hc', hk'⟩ := hr₂
            repeat (any_goals (first | assumption | wp_step))
            exact h _ _ _ hS' hc' hk'
          | _ => exact hr₂.elim
    | _ => exact hr.elim

end
end GX
set_option maxHeartbeats 4000000
-- text X2
namespace GX
open PySem PySem.Spec PyProof.Rows L2
/-- a set of these ints -/
def setO (w : World) (p : Addr) (ns : List Int) : HO := .ext fun h => ∃ c, c ≤ ns.length ∧ SetR w h p (fun j => decide (j ∈ ns)) c
/-- ascending, each once -/
abbrev Asc (ns : List Int) : Prop := ns.Pairwise (· < ·)
def rSetI (K : PySem.W.Frag) (w : World) : List V → Hp → VK → Prop := fun vs H Q => ∃ (l : Addr) (ns : List Int), vs = [V.ref l] ∧ (SqL K H l (ns.map V.int) ∨ SqT K H l (ns.map V.int)) ∧ ns.length ≤ 1000 ∧
  ∀ p, H p = none → Q (.ref p) (upd H p (setO w p ns))
def rSortedSet (w : World) : List V → Hp → VK → Prop := fun vs H Q => ∃ (p : Addr) (ns : List Int), vs = [V.ref p] ∧ H p = some (setO w p ns) ∧ ns.length ≤ 1000 ∧
  ∀ q out, H q = none → Asc out → (∀ k, k ∈ out ↔ k ∈ ns) → Q (.ref q) (upd H q (.lst (out.map V.int)))
theorem asc_unique {a b : List Int} (ha : Asc a) (hb : Asc b) (h : ∀ k, k ∈ a ↔ k ∈ b) : a = b := by
  induction a generalizing b with
  | nil =>
    cases b with
    | nil => rfl
    | cons y ys => exact absurd ((h y).mpr List.mem_cons_self) (by simp)
  | cons x xs ih =>
    cases b with
    | nil => exact absurd ((h x).mp List.mem_cons_self) (by simp)
    | cons y ys =>
      have hxy : x = y := by
        have h1 := (h x).mp List.mem_cons_self
        have h2 := (h y).mpr List.mem_cons_self
        rcases List.mem_cons.mp h1 with e | e
        · exact e
        · rcases List.mem_cons.mp h2 with e2 | e2
          · exact e2.symm
          · have l1 := List.rel_of_pairwise_cons hb e
            have l2 := List.rel_of_pairwise_cons ha e2
            omega
      subst hxy
      rw [ih ha.of_cons hb.of_cons fun k => ?_]
      have hk := h k
      constructor
      · intro m
        have l := List.rel_of_pairwise_cons ha m
        rcases List.mem_cons.mp (hk.mp (List.mem_cons_of_mem _ m)) with e | e
        · omega
        · exact e
      · intro m
        have l := List.rel_of_pairwise_cons hb m
        rcases List.mem_cons.mp (hk.mpr (List.mem_cons_of_mem _ m)) with e | e
        · omega
        · exact e
section
variable {X : Cx}
theorem cr_setI (hc : X.calm = true) : CallR X (.type "set") (rSetI X.K X.w) := by
  intro pins s σ H vs us Q I r h
  obtain ⟨l, ns, rfl, hs, hn, q⟩ := h
  rw [Vals.ref1 r]
  have hd := I.ok.hd hc
  have fin : ∀ (h' : Heap) (tk c : Nat), SetR X.w h' s.heap.objs.size (fun j => decide (j ∈ ns)) c → c ≤ ns.length → (∀ b o, s.heap.get? b = some o → h'.get? b = some o) → EP X pins σ Q (.ref s.heap.objs.size) { s with heap := h', toks := tk } := fun h' tk c R hcn k => by
    have hob : ∃ o, h'.get? s.heap.objs.size = some o := by obtain ⟨o, es, ep, t, ho, _⟩ := R; exact ⟨o, ho⟩
    have I' := I.laid (o := setO X.w s.heap.objs.size ns) (t' := tk) k (Nat.le_refl _) ⟨⟨c, hcn, R⟩, hob, fun h1 h2 ⟨c', hc', R'⟩ kk => ⟨c', hc', R'.at kk⟩⟩
    exact ⟨.ref s.heap.objs.size, _, I', rfl, q _ (I.hok.fresh (Nat.le_refl _))⟩
  rcases hs with hs | hs
  · obtain ⟨its, rv, pl, hz⟩ := I.list hs
    exact set_of_list ns hd pl.isList (ints_of_vals rv) (by unfold scanBound; omega) fun h' tk c R hcn k => fin h' tk c R hcn k
  · obtain ⟨its, rv, pt, hz⟩ := I.tuple hs
    exact call_set_tupI ns hd (show s.heap.IsTuple l its.toArray from pt) (ints_of_vals rv) (by unfold scanBound; omega) fun h' tk c R hcn k => fin h' tk c R hcn k
theorem cr_sortedSet (hc : X.calm = true) : CallR X (.builtin "sorted") (rSortedSet X.w) := by
  intro pins s σ H vs us Q I r h
  obtain ⟨p, ns, rfl, hp, hn, q⟩ := h
  rw [Vals.ref1 r]
  have hd := I.ok.hd hc
  obtain ⟨⟨c, hcn, o, es, ep, t, ho, hex, hdt, g, nd, hm2, hb, hf, hnn, hr, hl2⟩, _⟩ := I.hok p _ hp
  refine Calls.call_function_entry PyProof.Rows.kind_sorted PyProof.Rows.plain_sorted PyProof.Rows.entry_sorted (PyProof.Rows.args_sorted1 _) ?_
  unfold Builtin.«sorted»
  refine wpAny_bind (m := checkCount "sorted" 1 1 _) (wpAny_pure ?_)
  refine wpAny_bind (collect_set hd ⟨o, ho, hex.1, hdt⟩ hf hb hr hl2 fun s2 out k hsz hg ho2 hperm => ?_)
  have hv : ∀ v ∈ out, ∃ k t, v = Value.int k t := fun v hv => by
    obtain ⟨e, he, ev⟩ := List.mem_map.mp (hperm.mem_iff.mp hv)
    obtain ⟨kk, tt, e2, _⟩ := g e he
    exact ⟨kk, tt, ev.symm.trans e2⟩
  have hlen : out.length ≤ 1000 := by rw [hperm.length_eq, List.length_map, Array.length_toList]; omega
  have hls : out.length ≤ sizeLine := by rw [sizeLine_eq]; omega
  refine wpAny_bind (wpAny_newList ?_ hls)
  have hI := SrtO.ints_iv hv
  have hob : (s2.heap.push { cls := .type "list", data := .seq out.toArray }).get? s2.heap.objs.size = some (seqObj "list" out.toArray 0) := Heap.get?_push_size _ rfl
  refine wpAny_bind (wpAny_holding (wpAny_call_entry PyProof.Rows.slot_list_sort ⟨_, hob, rfl⟩ PyProof.Rows.entry_list_sort
    (SrtO.list_sort_ord (s := { s2 with heap := s2.heap.push { cls := .type "list", data := .seq out.toArray } }) SrtO.swo_int hob hls (fun h2 => SrtO.ints_sortable hI h2) fun out2 h1 h2 => ⟨.none, rfl, ?_⟩) (PyProof.Rows.args_list_sort _)))
  obtain ⟨k1, k2, k3⟩ := SrtO.ints_out hI h1 h2
  obtain ⟨ep2, he'⟩ := PyProof.Rows.sortedHeap_at (vs := out) (out := out2.toArray) hob
  have hl2' : ((out2.map SrtO.iv).map V.int).length ≤ sizeLine := by rw [List.length_map, k2.length_eq, List.length_map]; exact hls
  have I2 : Inv X pins σ H s2 := I.call' (ch := []) ho2 (Un.kept k) (I.hok.kept k) (by rw [hg]; exact I.bare) fun b z => by simp at z
  have hfr : H s2.heap.objs.size = none := I2.hok.fresh (Nat.le_refl _)
  refine wpAny_pure ⟨_, rfl, ?_⟩
  refine ⟨.ref s2.heap.objs.size, _, I2.laid (o := .lst ((out2.map SrtO.iv).map V.int)) (t' := s2.toks) (fun b u e => ?_) (Nat.le_refl _) ⟨hl2', out2, ep2, vals_of_ints k1, he'⟩, rfl, q _ _ hfr ?_ fun j => ?_⟩
  · have hlt := Heap.lt_size e
    rw [PyProof.Rows.sortedHeap_old (Nat.ne_of_lt hlt) (by rw [size_push']; exact Nat.lt_succ_of_lt hlt)]
    exact Heap.get?_push_of_some _ e
  · have nd2 : (out2.map SrtO.iv).Nodup := by
      rw [k2.nodup_iff]
      have z := hperm.map L2.vInt
      rw [List.map_map] at z
      have ee : es.toList.map (L2.vInt ∘ fun x => x.2) = es.toList.map keyOf := List.map_congr_left fun e _ => (key_vInt e).symm
      rw [ee] at z
      have z2 : (out.map L2.vInt).Nodup := z.nodup_iff.mpr nd
      have z3 : out.map SrtO.iv = out.map L2.vInt := List.map_congr_left fun v hv' => by
        obtain ⟨kk, tt, rfl⟩ := hv v hv'; rfl
      rw [z3]; exact z2
    refine List.Pairwise.imp₂ (fun a b h1 h2 => ?_) k3 nd2
    exact Int.lt_iff_le_and_ne.mpr ⟨h1, h2⟩
  · rw [k2.mem_iff]
    have z3 : out.map SrtO.iv = out.map L2.vInt := List.map_congr_left fun v hv' => by
      obtain ⟨kk, tt, rfl⟩ := hv v hv'; rfl
    have z := hperm.map L2.vInt
    rw [List.map_map] at z
    have ee : es.toList.map (L2.vInt ∘ fun x => x.2) = es.toList.map keyOf := List.map_congr_left fun e _ => (key_vInt e).symm
    rw [ee] at z
    rw [z3, z.mem_iff, ← hm2 j, decide_eq_true_eq]
end
end GX
set_option maxHeartbeats 4000000
-- text X3
/-! # sorted(tuple of ints, key=lambda x: (a, b)) -/
namespace GX
open PySem PySem.Spec PyProof.Rows L2 PySem.W LamX NdefX
/-- kept, but for the slots of the frames at fs, and but for the object at a -/
structure Kf (fs : List Addr) (a : Addr) (h h' : Heap) : Prop where
  out : ∀ b o, b ≠ a → h.get? b = some o → b ∉ fs → h'.get? b = some o
  slot : ∀ b o, b ≠ a → h.get? b = some o → ∃ sl, h'.get? b = some { o with slots := sl }
theorem Kf.of {fs : List Addr} {a : Addr} {h h' : Heap} (k : ∀ b o, b ≠ a → h.get? b = some o → h'.get? b = some o) : Kf fs a h h' := ⟨fun b o hb e _ => k b o hb e, fun b o hb e => ⟨o.slots, k b o hb e⟩⟩
theorem Kf.trans {fs : List Addr} {a : Addr} {h1 h2 h3 : Heap} (x : Kf fs a h1 h2) (y : Kf fs a h2 h3) : Kf fs a h1 h3 := ⟨fun b o hb e n => y.out b o hb (x.out b o hb e n) n, fun b o hb e => by
  obtain ⟨s1, e1⟩ := x.slot b o hb e
  obtain ⟨s2, e2⟩ := y.slot b _ hb e1
  exact ⟨s2, e2⟩⟩
theorem Kf.pair {fs : List Addr} {a : Addr} {h h' : Heap} {v : Value} {x y : Int} (k : Kf fs a h h') (ha : ∀ o, h.get? a = some o → o.cls ≠ .type "tuple") (p : Srt.IsPair h v x y) : Srt.IsPair h' v x y := by
  obtain ⟨b, o, t, u, n, e, ho, hc, hd⟩ := p
  obtain ⟨sl, e2⟩ := k.slot b o (fun z => ha o (by rw [← z]; exact ho) hc) ho
  exact ⟨b, _, t, u, n, e, e2, hc, hd⟩
theorem reads_pair {h : Heap} {v : Value} {x y : Int} (p : Srt.IsPair h v x y) : ∃ as, Reads h v (.tuple [.int x, .int y]) as := by
  obtain ⟨b, o, t, u, n, rfl, ho, hc, hd⟩ := p
  exact ⟨_, .tuple ho hc hd (.cons (.int x t) (.cons (.int y u) .nil))⟩
section
variable {P : Program} {w : World} {K : PySem.W.Frag} {mg : Str → Option Value} {base : Heap}
/-- a lambda with parameters and nothing captured, called -/
theorem lam_call {N ps : List Str} {q : Str} {params : Arguments} {body : Expr} {scope : Scope} {pm ctv : Value} {f c' : Addr} {A : Around} {outer : List Env} {s : Shared} {H : Hp} {us : List Value} {vs : List V} {Q : VK} {tb : TE} {k : Nat} {o : Obj}
    (hf : s.heap.get? f = some o) (ho : o.data = .func (kla_fn "<lambda>" q params body scope [] pm (.ref c') ctv)) (hcode : s.heap.CodeRec (.ref c') q) (S : NScope N ps [] scope) (hbind : bindArgs (kla_fn "<lambda>" q params body scope [] pm (.ref c') ctv) ⟨us, []⟩ = pure (ps.zip us))
    (e0 : Env0 P w K mg base A outer s H) (hr : Room (k + 1) A) (r : Vals vs us) (hl : vs.length = ps.length)
    (hbody : Room k (A.deeper (envF ⟨"<lambda>", q, params, [], scope, [], c'⟩ f s.heap.objs.size)) → PE (ncx L2.CX0 P w K mg base N ⟨"<lambda>", q, params, [], scope, [], c'⟩ f A outer s H E0).nox body tb) (ht : tb (startF N vs []) H Q) :
    codeAny (model P w) A (.call (.ref f) ⟨us, []⟩) (CR L2.CX0 outer P w H s Q E0) s := by
  have lim : s.heap.NoLimit := e0.mod.nolimit.keeps fun b o e => (e0.bs b o e).1
  refine kla_callFunE hr.depth hf ho S.co S.gen rfl hcode ?_
  rw [hbind]
  refine wpAny_pure (wpAny_newFunctionEnv S.nocell (fun ⟨n, _⟩ hy => S.par n (List.of_mem_zip hy).1) (fun h₁ hns hsb => ⟨lim.fresh _ hsb, ?_⟩) S.kind)
  show codeAny _ _ (.expr body (envF ⟨"<lambda>", q, params, [], scope, [], c'⟩ f s.heap.objs.size)) _ _
  have kp : ∀ b o, s.heap.get? b = some o → h₁.get? b = some o := fun b o e => hsb.extBut b o (Nat.ne_of_lt (Heap.lt_size e)) (Heap.get?_push_of_some _ e)
  have C : CellsAt ([] : List (Str × Addr)) ([] : List Str) ([] : List (Option V)) s.heap H := ⟨rfl, fun y c e => by simp at e, fun x y c e => by simp at e, fun i y e => by simp at e⟩
  have I : Inv (ncx L2.CX0 P w K mg base N ⟨"<lambda>", q, params, [], scope, [], c'⟩ f A outer s H E0) [] (startF N vs []) H { s with heap := h₁, toks := s.toks + (ps.zip us).length } := inv_startN (F := ⟨"<lambda>", q, params, [], scope, [], c'⟩) S hr.hd e0 hl r C hns kp
  refine kla_codeExpr (wpAny_mono ((hbody (hr.deeper _)).nox.run [] _ (startF N vs []) H Q I ht) (fun v s' hq => ?_) fun e s' hq => hq)
  obtain ⟨v', H', J, rv, q⟩ := hq
  exact ⟨v', H', J.os, J.bare, J.base, J.hok, rv, q⟩
end
section
variable {prog : Program} {w : World} {A : Around} {E : Value → Shared → Prop} {s : Shared} {fs : List Addr} {a : Addr} {vs : List Value} {bs : List Int} {x y : Int → Int}
theorem pair_each {h : Heap} : ∀ {us : List Value} {ds : List Int}, EachIs (fun v b => Srt.IsPair h v (x b) (y b)) us ds → EachIs (fun v d => ∃ as, Reads h v d as) us (ds.map fun b => PyData.tuple [.int (x b), .int (y b)])
  | _, _, .nil => .nil
  | _, _, .cons r t => .cons (reads_pair r) (pair_each t)
theorem each_take_succ {α β : Type} {R : α → β → Prop} : ∀ {as : List α} {bs : List β} {u : α} {d : β} {j : Nat}, EachIs R as (bs.take j) → bs[j]? = some d → R u d → EachIs R (as ++ [u]) (bs.take (j + 1)) := by
  intro as bs u d j h hd hr
  rw [List.take_add_one, hd]
  exact each_snoc hr h
/-- xs.sort(key=f): f gives pairs of ints, and keeps all but frames' slots -/
theorem sort_pairs {n : Nat} {f : Value} {R : PySem.Fin → Shared → Prop} (ho : s.heap.get? a = some (seqObj "list" vs.toArray n)) (e : EachIs (fun (v : Value) b => ∃ t, v = Value.int b t) vs bs) (hL : vs.length ≤ sizeLine) (hu : A.units + 10 < cLine) (hfs : ∀ b ∈ fs, b < a)
    (hbare : AllBare s.gens)
    (turn : ∀ (v : Value) (b : Int), b ∈ bs → (∃ t, v = Value.int b t) → ∀ s1 : Shared, s1.os = s.os → AllBare s1.gens → Kf fs a s.heap s1.heap → s.heap.objs.size ≤ s1.heap.objs.size → wpAny (model prog w) A (call f [v]) (fun u s2 => s2.os = s.os ∧ AllBare s2.gens ∧ Kf fs a s1.heap s2.heap ∧ (∀ o, s1.heap.get? a = some o → s2.heap.get? a = some o) ∧ Srt.IsPair s2.heap u (x b) (y b)) (fun _ _ => False) s1)
    (h : ∀ s3 out c, s3.os = s.os → AllBare s3.gens → Kf fs a s.heap s3.heap → s3.heap.get? a = some (seqObj "list" (List.toArray out) c) → EachIs (fun (v : Value) b => ∃ t, v = Value.int b t) out (bs.mergeSort fun p q => decide (x p < x q ∨ (x p = x q ∧ y p ≤ y q))) → R (.done (.ret .none)) s3) :
    wpAny (model prog w) A (ksk_tree a f false) R E s := by
  have ha : a < s.heap.objs.size := Heap.lt_size ho
  obtain ⟨e1, ho1⟩ : ∃ e1, (s.heap.update a (Obj.mapSeq fun _ => (#[] : Array Value))).get? a = some (seqObj "list" #[] e1) := ⟨_, get?_update_seq ho fun _ => #[]⟩
  have hkS : ((s.heap.update a (Obj.mapSeq fun _ => (#[] : Array Value))).push (seqObj "tuple" vs.toArray 0)).objs.size = s.heap.objs.size + 1 := by rw [size_push', Heap.size_update]
  have hka : ((s.heap.update a (Obj.mapSeq fun _ => (#[] : Array Value))).push (seqObj "tuple" vs.toArray 0)).objs.size ≠ a := by rw [hkS]; exact Nat.ne_of_gt (Nat.lt_succ_of_lt ha)
  generalize hkk : ((s.heap.update a (Obj.mapSeq fun _ => (#[] : Array Value))).push (seqObj "tuple" vs.toArray 0)).objs.size = kS at *
  have kSn : s.heap.get? kS = none := Heap.get?_none_of_le (by rw [hkS]; exact Nat.le_succ _)
  have kfs : kS ∉ fs := fun z => by
    have q : kS < a := hfs _ z
    rw [hkS] at q
    exact absurd (Nat.lt_trans q ha) (by omega)
  have hvb : vs.length = bs.length := e.length
  have sl0 : s.heap.objs.size ≤ (sortingHeap s.heap a vs).objs.size := by
    unfold sortingHeap
    rw [size_push', size_push', Heap.size_update]; omega
  unfold ksk_tree
  refine wpAny_bind (listItems_at ho rfl ?_)
  refine wpAny_bind (listUpdate_at ho rfl ?_ (by rw [List.size_toArray]; exact hL) (Nat.zero_le _))
  refine wpAny_bind (seqEpoch_at ho1 rfl ?_)
  refine wpAny_bind (wpAny_newTuple ?_ (by show vs.length ≤ _; exact hL))
  refine wpAny_bind (wpAny_newList ?_ (Nat.zero_le _))
  refine wpAny_holding ?_
  rw [hkk]
  show wpAny (model prog w) A _ R E { s with heap := sortingHeap s.heap a vs }
  have kp0 : Kf fs a s.heap (sortingHeap s.heap a vs) := Kf.of fun b o hb q => sortingHeap_old hb q
  have nk0 : (sortingHeap s.heap a vs).get? kS = some (seqObj "list" #[] 0) := by rw [← hkk]; exact Heap.get?_push_size _ rfl
  have na0 : (sortingHeap s.heap a vs).get? a = some (seqObj "list" #[] e1) := Heap.get?_push_of_some _ (Heap.get?_push_of_some _ ho1)
  unfold ksk_rest
  refine wpAny_bind (wpAny_rule ?_)
  first
    | rw [List.forIn_toArray]
    | (rw [← Array.forIn_toList]; simp only [List.toList_toArray])
    | rw [← Array.forIn_toList]
  refine wpAny_bind (ksk_fold (fun i s' => ∃ kA e, s'.os = s.os ∧ AllBare s'.gens ∧ s.heap.objs.size ≤ s'.heap.objs.size ∧ Kf fs a s.heap s'.heap ∧ s'.heap.get? kS = some (seqObj "list" kA e) ∧ s'.heap.get? a = some (seqObj "list" #[] e1) ∧ EachIs (fun v b => Srt.IsPair s'.heap v (x b) (y b)) kA.toList (bs.take i)) vs 0 _
    ⟨#[], 0, rfl, hbare, sl0, kp0, nk0, na0, by rw [List.take_zero]; exact EachIs.nil⟩ ?step ?done)
  case step =>
    rintro j v s1 hx ⟨kA, e2, o1, b1, sz1, kf1, nk1, na1, hk⟩
    simp only [Nat.zero_add] at hk ⊢
    have hj : j < vs.length := (List.getElem?_eq_some_iff.mp hx).1
    obtain ⟨b, hbj⟩ : ∃ b, bs[j]? = some b := ⟨_, List.getElem?_eq_getElem (by omega)⟩
    have hvbj : ∃ t, v = Value.int b t := e.zip (v, b) (List.mem_of_getElem? (i := j) (by rw [List.getElem?_zip_eq_some]; exact ⟨hx, hbj⟩))
    have hz : kA.size ≤ vs.length := by
      have h1 := hk.length
      rw [Array.length_toList, List.length_take] at h1
      omega
    refine wpAny_bind (wpAny_attempt (wpAny_mono (turn v b (List.mem_of_getElem? hbj) hvbj s1 o1 b1 kf1 sz1) (fun u s2 he => ?_) fun _ _ hF => hF.elim))
    obtain ⟨o2, b2, kf2, ka2, pr⟩ := he
    try dsimp only
    have nk2 : s2.heap.get? kS = some (seqObj "list" kA e2) := kf2.out kS _ hka nk1 kfs
    have na2 := ka2 _ na1
    have s1' := Heap.SameBut.update s2.heap kS (Obj.mapSeq (·.push u))
    obtain ⟨c2, hc2⟩ : ∃ c2, (s2.heap.update kS (Obj.mapSeq (·.push u))).get? kS = some (seqObj "list" (kA.push u) c2) := ⟨_, get?_update_seq nk2 (·.push u)⟩
    refine wpAny_bind (listUpdate_at nk2 rfl ?_ (Nat.le_trans hz hL) (Nat.le_trans (Nat.le_of_eq (Array.size_push ..)) (Nat.succ_le_succ (Nat.le_trans hz hL))))
    have kk : Kf fs kS s2.heap (s2.heap.update kS (Obj.mapSeq (·.push u))) := Kf.of fun b o hb e => (s1'.2 b hb).trans e
    have kcls : ∀ o, s2.heap.get? kS = some o → o.cls ≠ .type "tuple" := fun o e => by
      rw [nk2] at e; cases e
      exact fun z => by injection z with z3; exact absurd z3 (by decide)
    have acls : ∀ o, s1.heap.get? a = some o → o.cls ≠ .type "tuple" := fun o e => by
      rw [na1] at e; cases e
      exact fun z => by injection z with z3; exact absurd z3 (by decide)
    have sz2 : s.heap.objs.size ≤ s2.heap.objs.size := by
      have z := Heap.lt_size nk2
      rw [hkS] at z
      exact Nat.le_of_lt (Nat.lt_of_succ_lt z)
    refine wpAny_pure ⟨rfl, kA.push u, c2, o2, b2, by show _ ≤ (s2.heap.update _ _).objs.size; rw [Heap.size_update]; exact sz2, ?_, hc2, (s1'.2 a hka.symm).trans na2, ?_⟩
    · refine ⟨fun b o hb q n => ?_, fun b o hb q => ?_⟩
      · have q2 := kf2.out b o hb (kf1.out b o hb q n) n
        exact (s1'.2 b (fun z => by rw [z, kSn] at q; cases q)).trans q2
      · obtain ⟨t1, q1⟩ := kf1.slot b o hb q
        obtain ⟨t2, q2⟩ := kf2.slot b _ hb q1
        exact ⟨t2, (s1'.2 b (fun z => by rw [z, kSn] at q; cases q)).trans q2⟩
    · rw [Array.toList_push]
      exact each_take_succ (hk.mono fun u d q => kk.pair kcls (kf2.pair acls q)) hbj (kk.pair kcls pr)
  case done =>
    rintro s3 ⟨kA, e2, o1, b1, sz1, kf1, nk1, na1, hk⟩
    have e3 : bs.take (0 + vs.length) = bs := List.take_of_length_le (by omega)
    rw [e3] at hk
    have hsz : kA.size = vs.length := by
      have h1 := hk.length
      rw [Array.length_toList] at h1
      omega
    try dsimp only
    refine wpAny_bind (listItems_at nk1 rfl ?_)
    have hr := pair_each hk
    have hal : AllAlike (bs.map fun b => PyData.tuple [.int (x b), .int (y b)]) := AllAlike.of fun _ _ => by rfl
    have hsk : Sortable (bs.map fun b => PyData.tuple [.int (x b), .int (y b)]) := Sortable.tuples fun b => ⟨_, _, rfl⟩
    have hud : ∀ d, d ∈ (bs.map fun b => PyData.tuple [.int (x b), .int (y b)]) → A.units + d.depth < cLine := fun d hd => by
      obtain ⟨b, _, rfl⟩ := List.mem_map.mp hd
      have : (PyData.tuple [.int (x b), .int (y b)]).depth ≤ 5 := by simp [PyData.depth, PyData.depthAll]
      omega
    have hno : (hideAll s3.heap [kS]).get? kS = none := hideAll_none _ (by simp)
    refine keyH_end (κ := dataKind s3.heap (bs.map fun b => PyData.tuple [.int (x b), .int (y b)])) (h₁ := hideAll s3.heap [kS]) (fun b o _ e => of_hideAll _ e) hno nk1 na1 hka (SortsAt.data (s := s3) hr hal hsk hud) hsz hL fun h3 tk3 c k3 n3 => ?_
    have ko : KeyedOut false (bs.map fun b => PyData.tuple [.int (x b), .int (y b)]) vs _ := ⟨s3.heap, kA.toList, hal, rfl, hr⟩
    have ko2 := keyedOut_each (fun b => PyData.tuple [.int (x b), .int (y b)]) ko e
    rw [dataLe_ii] at ko2
    have kz : ∀ b o, b ≠ a → b ≠ kS → s3.heap.get? b = some o → h3.get? b = some o := fun b o hb hb2 q => k3 b o hb (hideAll_get _ q (by simpa using hb2))
    refine h _ _ c o1 b1 ⟨fun b o hb q n => ?_, fun b o hb q => ?_⟩ n3 ko2
    · exact kz b o hb (fun z => by rw [z, kSn] at q; cases q) (kf1.out b o hb q n)
    · obtain ⟨t1, q1⟩ := kf1.slot b o hb q
      exact ⟨t1, kz b _ hb (fun z => by rw [z, kSn] at q; cases q) q1⟩
end
end GX
set_option maxHeartbeats 4000000
-- text X4
namespace GX
open PySem PySem.Spec PyProof.Rows L2 PySem.W LamX NdefX
def tSL (H0 : Hp) (K : PySem.W.Frag) (T : List (Addr × Str)) (Pb : Int → Prop) (x y : Int → Int) (ta : TE) : TE := fun σ H Q => ta σ H fun v H1 => ∃ (a : Addr) (bs : List Int), v = .ref a ∧ SqT K H1 a (bs.map V.int) ∧ (∀ b ∈ bs, Pb b) ∧ Tabs T H1 ∧
  ∀ p H2, ExtN H1 H2 → Tabs T H2 → (∀ b ps, H0 b = some (.tbl ps) → H2 b ≠ none) → H2 p = none → Q (.ref p) (upd H2 p (.lst ((bs.mergeSort fun p q => decide (x p < x q ∨ (x p = x q ∧ y p ≤ y q))).map V.int)))
theorem each_int {us : List Value} {bs : List Int} (h : Vals (bs.map V.int) us) : EachIs (fun (v : Value) b => ∃ t, v = Value.int b t) us bs := by
  induction bs generalizing us with
  | nil => cases h; exact .nil
  | cons b bs ih =>
    cases h with
    | cons r t => exact .cons r (ih t)
theorem vals_each {us : List Value} {bs : List Int} (h : EachIs (fun (v : Value) b => ∃ t, v = Value.int b t) us bs) : Vals (bs.map V.int) us := by
  induction h with
  | nil => exact .nil
  | cons r _ ih => exact .cons r ih
theorem there {P : Program} {w : World} {H : Hp} {h : Heap} {a : Addr} {o : HO} (x : ObjOk P w H h a o) : ∃ ob, h.get? a = some ob := by
  cases o with
  | lst xs => obtain ⟨_, _, _, _, e⟩ := x; exact ⟨_, e⟩
  | tup xs => obtain ⟨_, _, _, ob, e, _⟩ := x; exact ⟨_, e⟩
  | dK kvs => obtain ⟨_, _, _, _, o, _, _, e, _⟩ := x; exact ⟨_, e⟩
  | dT kvs => obtain ⟨_, _, _, _, o, _, _, e, _⟩ := x; exact ⟨_, e⟩
  | set S n => obtain ⟨o, _, _, _, e, _⟩ := x; exact ⟨_, e⟩
  | ins C dx fs => obtain ⟨_, _, _, e, _⟩ := x; exact ⟨_, e⟩
  | own y => exact x
  | xd fs => obtain ⟨_, ⟨_, _, _, e, _⟩, _⟩ := x; exact ⟨_, e⟩
  | rng lo hi => obtain ⟨_, _, _, e⟩ := x; exact ⟨_, e⟩
  | frz ob u => obtain ⟨e, _⟩ := x; exact ⟨_, e⟩
  | tbl ps => exact ⟨_, (show h.get? a = some _ from x)⟩
  | met f y => exact ⟨_, (show h.get? a = some _ from x)⟩
  | ext φ => obtain ⟨_, e, _⟩ := x; exact e
theorem pe_sortedLam {X : Cx} {e : Expr} {ta : TE} {T : List (Addr × Str)} {Pb : Int → Prop} {x y : Int → Int} {c Pt : Addr} {params : Arguments} {body : Expr} {scope : Scope} {lpos kpos p pos : Pos} {N : List Str} {z : Str} {k : Nat} (ha : PE X e ta) (hg : Gl X "sorted") (hm : X.mg "sorted" = none)
    (TB : TabB X.base X.mg c Pt) (hcode : X.env.code = .ref c) (hmT : (Pt, X.env.qual ++ "<lambda>") ∈ T) (hu : ∀ p ∈ T, p.1 = Pt → p.2 = X.env.qual ++ "<lambda>") (hr : Room (k + 3) X.A) (hdef : defaultsOf params X.env = ([], [])) (S : NScope N [z] [] scope) (hclo : cloFrom X.env.cells scope.names [] = [])
    (hbind : ∀ (q : Str) (pm cv ctv u : Value), bindArgs (kla_fn "<lambda>" q params body scope [] pm cv ctv) ⟨[u], []⟩ = pure ([z].zip [u]))
    (hbody : ∀ (A : Around) (outer : List Env) (s : Shared) (f c' : Addr), Room k (A.deeper (envF ⟨"<lambda>", X.env.qual ++ "<lambda>", params, [], scope, [], c'⟩ f s.heap.objs.size)) → ∃ tb, PE (ncx L2.CX0 X.prog X.w X.K X.mg X.base N ⟨"<lambda>", X.env.qual ++ "<lambda>", params, [], scope, [], c'⟩ f A outer s (fun _ => none) E0).nox body tb ∧
      ∀ b, Pb b → tb (startF N [.int b] []) (fun _ => none) fun v H => ∃ p, v = .ref p ∧ H p = some (.tup [.int (x b), .int (y b)]))
    (he : backTo pos (starEach [e] X.env) = (false, eval e X.env) :: backTo pos (starEach [] X.env) := by rfl) (hpl : (backTo pos (starEach [e] X.env)).any (·.1) = false := by rfl) :
    PE X (.Call (.Name "sorted" p) [e] [⟨some "key", .Lambda params body scope lpos, kpos⟩] pos) (tSL X.H_0 X.K T Pb x y ta) := by
  refine ⟨fun pins s σ H Q I h => ?_⟩
  refine wpAny_Call_Name_kw (ld_blt I hg hm (by rfl : bootBuiltins "sorted" = some (.builtin "sorted")) ?_ (by decide) (by decide))
  refine PyProof.Rows.callWith_kw ?_ he hpl (by rfl) (by rfl)
  rw [he]
  refine Calls.spliced_cons (thn (ha.run pins s σ H _ I h) fun u s1 h1 => ?_)
  obtain ⟨v, H1, I1, rv, a, bs, ev, hsq, hPb, hT, hq⟩ := h1
  subst ev
  obtain rfl : u = Value.ref a := rv
  refine Calls.spliced_nil ?_
  show wpAny _ _ (evalAll ((do let v ← eval (.Lambda params body scope lpos) X.env; standAt pos; pure v) :: [])) _ _ s1
  refine wpAny_evalAll_cons (wpAny_bind (lam_make2 I1 TB hcode hmT hu hT hdef (fun y hy e => absurd (S.free y hy e) (by simp)) fun f c' pm ctv H2 s2 I2 eN T2 hf hfn hfr hco => ?_))
  refine wpAny_bind (wpAny_standAt (wpAny_pure (wpAny_evalAll_nil ?_)))
  show wpAny (model X.prog X.w) X.A (call (.builtin "sorted") [.ref a] [(Str.ofString "key", .ref f)]) (EP X pins σ Q) X.xe s2
  have hsq2 : SqT X.K H2 a (bs.map V.int) := by
    rcases hsq with h | h
    · left
      rcases h with h | ⟨o, h⟩
      · exact .inl (eN _ _ h fun ps z => by cases z)
      · exact .inr ⟨o, eN _ _ h fun ps z => by cases z⟩
    · exact .inr h
  obtain ⟨its, rv2, ⟨oa, hoa, hca, na, hda⟩, hz⟩ := I2.tuple hsq2
  have hzl : its.length ≤ sizeLine := by rw [← rv2.length]; exact hz
  have hd := hr.hd
  refine call_function_entry_kw kind_sorted plain_sorted entry_sorted (ksk_s1 _ _) ?_
  unfold Builtin.«sorted»
  refine wpAny_bind (m := checkCount "sorted" 1 1 _) (wpAny_pure ?_)
  refine wpAny_bind (wpAny_collect_seq a (.inr rfl) hoa hca hda (fun h2 k2 => ?_) (by rw [List.size_toArray]; exact hzl))
  refine wpAny_bind (wpAny_newList ?_ (by simpa using hzl))
  have hob : (h2.push { cls := .type "list", data := .seq its.toArray.toList.toArray }).get? h2.objs.size = some (seqObj "list" its.toArray 0) := by
    rw [Array.toArray_toList]; exact Heap.get?_push_size _ rfl
  generalize hsc : ({ s2 with heap := h2.push { cls := .type "list", data := .seq its.toArray.toList.toArray } } : Shared) = sc
  have kc : ∀ b o, s2.heap.get? b = some o → sc.heap.get? b = some o := fun b o q => by rw [← hsc]; exact Heap.get?_push_of_some _ (k2 b o q)
  have osc : sc.os = s2.os := by rw [← hsc]
  have bsc : AllBare sc.gens := by rw [← hsc]; exact I2.bare
  have hobc : sc.heap.get? h2.objs.size = some (seqObj "list" its.toArray 0) := by rw [← hsc]; exact hob
  have hA : ∀ b ∈ frs X.stack, b < h2.objs.size := fun b hb => by
    obtain ⟨_, o, ho, _⟩ := I2.stack.mem hb
    exact Heap.lt_size (k2 b o ho)
  have hfrn : h2.objs.size ∉ frs X.stack := fun z => absurd (hA _ z) (Nat.lt_irrefl _)
  refine wpAny_bind (wpAny_holding (wpAny_call_entry_kw slot_list_sort ⟨_, hobc, rfl⟩ entry_list_sort ?body (ksk_l1 _ _)))
  rw [ksk_t1]
  have hn2 : H2 h2.objs.size = none := by
    cases q : H2 h2.objs.size with
    | none => rfl
    | some o =>
      obtain ⟨o', e'⟩ := there (I2.hok _ _ q)
      exact absurd (Heap.lt_size (k2 _ _ e')) (Nat.lt_irrefl _)
  refine sort_pairs (fs := frs X.stack) (bs := bs) (x := x) (y := y) hobc (each_int rv2) hzl (by have := hr.un; show X.A.units + 1 + 1 + 10 < _; omega) hA bsc (fun v b hb hvb s3 o3 b3 k3 z3 => ?turn) fun s3 out cc o3 b3 k3 n3 ko => ⟨_, rfl, wpAny_pure ⟨_, rfl, ?fin⟩⟩
  case turn =>
    obtain ⟨t, rfl⟩ := hvb
    have ks3 : Kf (frs X.stack) h2.objs.size s2.heap s3.heap := ⟨fun b o hb q n => k3.out b o hb (kc b o q) n, fun b o hb q => k3.slot b o hb (kc b o q)⟩
    have neA : ∀ b o, s2.heap.get? b = some o → b ≠ h2.objs.size := fun b o q => Nat.ne_of_lt (Heap.lt_size (k2 b o q))
    obtain ⟨⟨oc, vsc, tc, hoc, hdc, hvc⟩, _, _⟩ := I2.hok c' _ hco
    obtain ⟨slc, hoc3⟩ := ks3.slot c' _ (neA _ _ hoc) hoc
    have hf3 := ks3.out f _ (neA _ _ hf) hf hfr
    have bs3 : ∀ b o, X.base.get? b = some o → s3.heap.get? b = some o := fun b o q => by
      have q2 := I2.bk b o q
      refine ks3.out b o (neA _ _ q2) q2 fun z => ?_
      rcases List.mem_cons.mp (I2.stkSub b z) with z1 | z1
      · have h1 := Nat.lt_of_lt_of_le (Heap.lt_size q) (Nat.le_trans I2.ok.bsz I2.ok.above)
        rw [z1] at h1
        exact Nat.lt_irrefl _ h1
      · exact I2.ok.nofr q z1
    have ff : s3.heap.FunFrames X.base X.stack := by
      have all : ∀ (l : List Env), s2.heap.FunFrames X.base l → s3.heap.FunFrames X.base l := by
        intro l
        induction l with
        | nil => intro _; trivial
        | cons env r ih =>
          intro hl
          obtain ⟨hk, ⟨Lf, o, hff, hn, ho, hdd⟩, hrr⟩ := hl
          obtain ⟨sl, e⟩ := ks3.slot Lf o (neA _ _ ho) ho
          exact ⟨hk, ⟨Lf, _, hff, hn, e, hdd⟩, ih hrr⟩
      exact all X.stack I2.stack
    have bsz3 : X.base.objs.size ≤ s3.heap.objs.size := by
      obtain ⟨m, ⟨oL, es, ep, hoL, _⟩, _⟩ := I2.loc
      obtain ⟨sl, e⟩ := ks3.slot _ oL (neA _ _ hoL) hoL
      exact Nat.le_trans (Nat.le_trans I2.ok.bsz I2.ok.above) (Nat.le_of_lt (Heap.lt_size e))
    have e0 : Env0 X.prog X.w X.K X.mg X.base X.A.in1.in1 X.stack s3 (fun _ => none) := ⟨I2.ok.frames, I2.ok.mod, fun b o q => ⟨bs3 b o q, rfl⟩, bsz3, ff, fun _ _ => rfl, fun a o q => (by cases q), b3⟩
    have hrA : Room (k + 1) X.A.in1.in1 := (Room.in1 (Room.in1 hr))
    have hclo' : (kla_obj "<lambda>" (X.env.qual ++ "<lambda>") params body scope (cloFrom X.env.cells scope.names []) pm c' ctv).data = .func (kla_fn "<lambda>" (X.env.qual ++ "<lambda>") params body scope [] pm (.ref c') ctv) := by rw [hclo]
    obtain ⟨tb, hpe, htb⟩ := hbody X.A.in1.in1 X.stack s3 f c' (hrA.deeper _)
    have rc := lam_call (P := X.prog) (w := X.w) (K := X.K) (mg := X.mg) (base := X.base) (us := [.int b t]) (vs := [.int b]) (Q := fun v H => ∃ p, v = .ref p ∧ H p = some (.tup [.int (x b), .int (y b)])) hf3 hclo' ⟨c', _, vsc, tc, rfl, hoc3, hdc, hvc⟩ S (hbind _ _ _ _ _) e0 hrA (.cons ⟨t, rfl⟩ .nil) rfl (fun _ => hpe) (htb b (hPb b hb))
    refine wpAny_call (codeAny_mono rc fun r s' hq' => ?_)
    cases r with
    | error e => exact (show False from hq').elim
    | ok fl =>
      cases fl with
      | ret u =>
        obtain ⟨v', H', o4, b4, un, hok4, rv4, pp, rfl, hp4⟩ := hq'
        obtain rfl : u = Value.ref pp := rv4
        have kk : ∀ b o, s3.heap.get? b = some o → b ∉ frs X.stack → s'.heap.get? b = some o := fun b o q n => un.keep b o q rfl n (by simp)
        refine ⟨o4.trans o3, b4, ⟨fun b o _ q n => kk b o q n, fun b o _ q => un.any q rfl (by simp)⟩, fun o q => kk _ o q hfrn, ?_⟩
        obtain ⟨_, itp, rvp, op, hop, hcp, np, hdp⟩ := hok4 pp _ hp4
        obtain ⟨u1, u2, rfl, ⟨t1, rfl⟩, ⟨t2, rfl⟩⟩ := vals2 rvp
        exact ⟨pp, op, t1, t2, np, rfl, hop, hcp, hdp⟩
      | next => exact False.elim hq'
      | brk => exact False.elim hq'
      | cont => exact False.elim hq'
  case fin =>
    have neA : ∀ b o, s2.heap.get? b = some o → b ≠ h2.objs.size := fun b o q => Nat.ne_of_lt (Heap.lt_size (k2 b o q))
    have neH : ∀ b o, H2 b = some o → b ≠ h2.objs.size := fun b o q => ne_of_none q hn2
    have nfs : ∀ b o, H2 b = some o → b ∉ frs X.stack := fun b o q z => by rw [I2.stkFree b z] at q; cases q
    have hlen : ((bs.mergeSort fun p q => decide (x p < x q ∨ (x p = x q ∧ y p ≤ y q))).map V.int).length ≤ sizeLine := by
      rw [List.length_map, List.length_mergeSort]
      rw [List.length_map] at hz; exact hz
    refine ⟨.ref h2.objs.size, upd H2 h2.objs.size (.lst ((bs.mergeSort fun p q => decide (x p < x q ∨ (x p = x q ∧ y p ≤ y q))).map V.int)), I2.call' (ch := []) (o3.trans osc) ⟨fun b o q n hb _ => ?_, fun b o q n hb _ => ?_, fun b o q n _ => ?_, fun b o q _ => ?_, fun b xs q => ?_, fun b o u q => ?_, fun b ps q => ?_⟩ (fun b u q => ?_) b3 (fun b z => by simp at z), rfl, hq _ _ eN T2 (fun b ps q z => by obtain ⟨m, e⟩ := I2.base.tbls b ps q; rw [e] at z; cases z) hn2⟩
    · exact k3.out b o (neA b o q) (kc b o q) hb
    · exact k3.slot b o (neA b o q) (kc b o q)
    · rw [upd_ne (neA b o q)]; exact n
    · obtain ⟨sl, e⟩ := k3.slot b o (neA b o q) (kc b o q)
      exact ⟨_, e⟩
    · rw [upd_ne (neH b _ q)]; exact q
    · rw [upd_ne (neH b _ q)]; exact q
    · exact ⟨#[], by rw [upd_ne (neH b _ q), q]; simp⟩
    · by_cases hb : b = h2.objs.size
      · subst hb
        rw [upd_same] at q
        cases q
        exact ⟨hlen, out, cc, vals_each ko, n3⟩
      · rw [upd_ne hb] at q
        refine (I2.hok b u q).stay (fun d v hd' e => ?_) (fun d e => by rw [upd_ne (neH d _ e)]; exact e) fun d xs e => by rw [upd_ne (neH d _ e)]; exact e
        have hdn : d ∉ frs X.stack := by
          rcases hd' with z | z
          · rw [z]; exact nfs b u q
          · exact nfs d _ z
        exact k3.out d v (neA d v e) (kc d v e) hdn
end GX
set_option maxHeartbeats 4000000
-- text X5
/-! # for i, x in enumerate(xs), xs a list or a tuple -/
namespace GX
open PySem PySem.Spec PyProof.Rows L2
set_option maxHeartbeats 1000000 in
theorem meets_enumT (l : Addr) (items : Array Value) (n : Nat) (dct : Option Addr) (sl : Array (Option Value)) :
    Meets (Builtin.«enumerate.__new__» ⟨[.type "enumerate", .ref l], []⟩) (fun _ R s => s.heap.get? l = some { cls := .type "tuple", dict := dct, data := .seq items n, slots := sl } ∧
      R (.ok (.ret (.ref (s.heap.push { cls := .type "tuple_iterator", data := .fields #[.ref l, .int 0 0] }).objs.size)))
        { s with heap := (s.heap.push { cls := .type "tuple_iterator", data := .fields #[.ref l, .int 0 0] }).push { cls := .type "enumerate", data := .fields #[.none, .bool false, .ref s.heap.objs.size, rawInt 0, .none, .none] } }) :=
  .of_wp fun prog w A R s h => by
    obtain ⟨hp, g, d, tk, os⟩ := s; obtain ⟨hl, h⟩ := h
    have hsub := sub_enumerate
    have hL : Heap.IsTuple (Shared.heap ⟨hp, g, d, tk, os⟩) l items := ⟨_, hl, rfl, n, rfl⟩
    wp_walk using PySem.AutoSeq1.wpAny_loadPart' hl
    refine wpAny_stack_any fun st => wpAny_pure ?_
    split
    · rename_i c _ _ _ _ _
      cases (c == Value.type "enumerate")
      · wp_walk using PySem.AutoSeq1.wpAny_loadPart' hl, wpAny_pyIter_tuple hL
        exact ⟨_, rfl, h⟩
      · wp_walk using PySem.AutoSeq1.wpAny_loadPart' hl, wpAny_pyIter_tuple hL
        exact ⟨_, rfl, h⟩
    · wp_walk using PySem.AutoSeq1.wpAny_loadPart' hl, wpAny_pyIter_tuple hL
      exact ⟨_, rfl, h⟩
section
variable {prog : Program} {w : World} {A : Around} {E : Value → Shared → Prop} {s : Shared}
theorem call_enumT {l : Addr} {items : Array Value} {Q : Value → Shared → Prop} (hL : s.heap.IsTuple l items)
    (h : ∀ h', IsEnum h' (s.heap.objs.size + 1) s.heap.objs.size 0 .none → h'.IsTupleIter s.heap.objs.size l 0 → h'.objs.size = s.heap.objs.size + 2 →
      (∀ b o, s.heap.get? b = some o → h'.get? b = some o) → Q (.ref (s.heap.objs.size + 1)) { s with heap := h' }) :
    wpAny (model prog w) A (call (.type "enumerate") [.ref l]) Q E s := by
  obtain ⟨⟨c, dct, dt, sl⟩, hl, hc, n, hd⟩ := hL
  replace hc : c = .type "tuple" := hc
  replace hd : dt = .seq items n := hd
  subst hc hd
  refine callType_new F.called_enumerate (by decide) (F.typeCall_enumerate_1 _) (F.newCall_enumerate_1 _) (fun obj => F.args_object_init_2 obj _) F.entry_enumerate_new
    (meets_enumT l items n dct sl) ⟨hl, ?_⟩
  have hz : (s.heap.push { cls := .type "tuple_iterator", data := .fields #[.ref l, .int 0 0] }).objs.size = s.heap.objs.size + 1 := Heap.size_push ..
  show _ ∧ _
  rw [hz]
  have he : IsEnum ((s.heap.push { cls := .type "tuple_iterator", data := .fields #[.ref l, .int 0 0] }).push
      { cls := .type "enumerate", data := .fields #[.none, .bool false, .ref s.heap.objs.size, rawInt 0, .none, .none] }) (s.heap.objs.size + 1) s.heap.objs.size 0 .none := by
    have := Heap.get?_push_size (s.heap.push { cls := .type "tuple_iterator", data := .fields #[.ref l, .int 0 0] })
      (o := { cls := .type "enumerate", data := .fields #[.none, .bool false, .ref s.heap.objs.size, rawInt 0, .none, .none] }) rfl
    rw [hz] at this; exact this
  refine ⟨⟨_, he, rfl⟩, h _ he ⟨_, Heap.get?_push_of_some _ (Heap.get?_push_size _ rfl), rfl, rfl⟩ (by rw [Heap.size_push, hz]) fun b o x => Heap.get?_push_of_some _ (Heap.get?_push_of_some _ x)⟩
end
/-- the tuple at a, each item in a new pair -/
def IteT (K : PySem.W.Frag) (a : Addr) : It :=
  ⟨fun i H => ∃ (xs : List V) (x : V), SqT K H a xs ∧ xs[i]? = some x, fun i H v H' => ∃ T x, v = .ref T ∧ H T = none ∧ H' = upd H T (.tup [.int (i : Nat), x]) ∧ ∀ xs, SqT K H a xs → xs[i]? = some x, fun i H => ∃ xs : List V, SqT K H a xs ∧ xs.length ≤ i⟩
theorem turn_enumT {P : Program} {w : World} {K : PySem.W.Frag} {elts : List Expr} {kk : Nat} {tpos : Pos} (a e it : Addr) :
    Turn P w K (.Tuple elts kk tpos) (IteT K a) [e, it] e (fun i h => (∃ old, IsEnum h e it ((i : Nat) : Int) old) ∧ h.IsTupleIter it a i ∧ e ≠ it) where
  mem := by simp
  obj := fun i h st b hb => by
    obtain ⟨⟨old, he⟩, ⟨o, ho, hc, hd⟩, _⟩ := st
    have e' : b = e ∨ b = it := by simpa using hb
    rcases e' with z | z
    · rw [z]; exact ⟨_, he, fun v q => nomatch q⟩
    · rw [z]; exact ⟨o, ho, fun v q => by rw [hd] at q; cases q⟩
  keep := fun i h h' st k => let ⟨⟨old, he⟩, hi, hne⟩ := st; ⟨⟨old, k e (by simp) _ he⟩, hi.at fun o q => k it (by simp) o q, hne⟩
  item := by
    intro X hP hw hK hc i pins s σ H E I hf st hg
    subst hP hw hK
    obtain ⟨⟨old, he⟩, hit, hne⟩ := st
    obtain ⟨xs, x, hq, hx⟩ := hg
    obtain ⟨its, rv, p, hz⟩ := I.tuple hq
    obtain ⟨u, hu, ru⟩ := rv.get hx
    have hel : e < s.heap.objs.size := Heap.lt_size he
    have hil : it < s.heap.objs.size := by obtain ⟨_, q, _⟩ := hit; exact Heap.lt_size q
    have pt : s.heap.IsTuple a its.toArray := p
    have hia : a ≠ it := fun z => by
      obtain ⟨o1, q1, q2, _⟩ := hit
      obtain ⟨o2, q3, q4, _⟩ := pt
      rw [z, q1] at q3; cases q3
      rw [q2] at q4; exact absurd (Value.type.inj q4) (by decide)
    have hea : e ≠ a := fun z => by
      obtain ⟨o2, q3, q4, _⟩ := pt
      rw [← z] at q3
      have he' : s.heap.get? e = _ := he
      rw [he'] at q3; cases q3
      exact absurd (Value.type.inj q4) (by decide)
    have hi : i < its.toArray.size := by
      have := (List.getElem?_eq_some_iff.mp hu).1
      simpa using this
    have D := Draws.tuple (prog := X.prog) (w := X.w) (A := X.A.in1) (I.ok.hd hc) it a hia its.toArray
    refine wpAny_pyNext_enum_itemD D he ⟨hit, pt⟩ hi hne (by simp [hne, hea]) fun x' h' tk hx' ho hit' hT hsz hk => ?_
    have ex : x' = u := by
      have z : its.toArray[i]? = some u := by simpa using hu
      rw [z] at hx'; exact (Option.some.inj hx').symm
    subst ex
    refine ⟨_, rfl, wpAny_letOwnedTupleGo_enum (s := { s with heap := h', toks := tk + 1 }) ho fun h'' he' sb => ?_⟩
    have hT2 : h''.get? s.heap.objs.size = some { cls := .type "tuple", data := .seq #[.int i tk, x'] } := (sb.2 _ (Nat.ne_of_gt hel)).trans hT
    have new : ObjOk X.prog X.w (upd H s.heap.objs.size (.tup [.int (i : Nat), x])) h'' s.heap.objs.size (.tup [.int (i : Nat), x]) :=
      ⟨by show 2 ≤ sizeLine; decide, [.int i tk, x'], .cons ⟨_, rfl⟩ (.cons ru .nil), ⟨_, hT2, rfl, _, rfl⟩⟩
    have I1 : Inv X pins σ (upd H s.heap.objs.size (.tup [.int (i : Nat), x])) { s with heap := h'', toks := tk + 1 } :=
      I.turnedNew (ch := [e, it]) (fun b ob hb q => (sb.2 b (fun z => hb (by simp [z]))).trans (hk b ob (fun z => hb (by simp [z])) (fun z => hb (by simp [z])) q)) hf (Nat.le_refl _) new
    refine ⟨.ref s.heap.objs.size, _, I1, rfl, ⟨_, x, rfl, I.hok.fresh (Nat.le_refl _), rfl, fun ys hy => by rw [I.tuple_inj hy hq]; exact hx⟩, ⟨⟨x', ?_⟩, hit'.1.at fun o q => (sb.2 it (Ne.symm hne)).trans q, hne⟩, fun b hb => ?_⟩
    · have e1 : ((i + 1 : Nat) : Int) = (i : Int) + 1 := by omega
      rw [e1]; exact he'
    · have hb' : b < s.heap.objs.size := by
        have e' : b = e ∨ b = it := by simpa using hb
        rcases e' with z | z
        · rw [z]; exact hel
        · rw [z]; exact hil
      rw [upd_ne (Nat.ne_of_lt hb')]
      exact (hf b hb).1
  done := by
    intro X hP hw hK hc i pins s σ H E I hf st hg
    subst hP hw hK
    obtain ⟨⟨old, he⟩, hit, hne⟩ := st
    obtain ⟨xs, hq, hx⟩ := hg
    obtain ⟨its, rv, p, hz⟩ := I.tuple hq
    obtain ⟨f0, f1, f2, f3, f4, f5⟩ := hf it (by simp)
    have hl := rv.length
    have pt : s.heap.IsTuple a its.toArray := p
    have hia : a ≠ it := fun z => by
      obtain ⟨o1, q1, q2, _⟩ := hit
      obtain ⟨o2, q3, q4, _⟩ := pt
      rw [z, q1] at q3; cases q3
      rw [q2] at q4; exact absurd (Value.type.inj q4) (by decide)
    have D := Draws.tuple (prog := X.prog) (w := X.w) (A := X.A.in1) (I.ok.hd hc) it a hia its.toArray
    have hT : s.TypeIs (.ref e) "enumerate" := ⟨_, he, rfl⟩
    unfold pyNext
    refine wpAny_bind (wpAny_attempt (wpAny_callSpecial?_slot (name := Str.ofString "__next__") hT F.slot_enumerate_next
      (wpAny_call_entry F.slot_enumerate_next hT F.entry_enumerate_next ?_ (F.args_enumerate_next_1 _))))
    show wpAny _ _ (field (.ref e) 2 >>= _) _ _ _
    refine wpAny_bind (wpAny_field he rfl (x := .ref it) rfl ?_)
    refine wpAny_bind (wpAny_nextOf_tuple_end (I.ok.hd hc) hit pt (by simp; omega) fun h' x he' hx' => ?_)
    obtain ⟨o, ho, hc'⟩ := hx'
    refine wpAny_bind (wpAny_isInstance (T := "StopIteration") (b := true) ⟨o, ho, hc'⟩ isSubtype_stop ?_)
    exact wpAny_pure ⟨rfl, I.turned (t' := s.toks) (fun b o hb q => he' b o hb q) f0 f1 f3 f4 f5⟩
  self := fun A i s Q E st h => let ⟨⟨_, he⟩, _⟩ := st; wpAny_pyIter_enum he h
def iEnumA (K : PySem.W.Frag) (ta : TA) : TI := fun σ H R => ta σ H fun vs H1 => ∃ a xs, vs = [.ref a] ∧ ((SqL K H1 a xs ∧ R (Ite K a) H1) ∨ (SqT K H1 a xs ∧ R (IteT K a) H1))
theorem pi_enumA {X : Cx} {e : Expr} {ta : TA} {p pos tpos : Pos} {elts : List Expr} {kk : Nat} (hg : Gl X "enumerate") (hm : X.mg "enumerate" = none) (ha : PA X [e] ta) (hs : starEach [e] X.env = [(false, eval e X.env)] := by rfl) :
    PI X (.Tuple elts kk tpos) (.Call (.Name "enumerate" p) [e] [] pos) (iEnumA X.K ta) := by
  refine ⟨fun pins s σ H R I h => ?_⟩
  refine Call_ (ld_blt I hg hm boot_enumerate (PyProof.Rows.callWith_type1 (thn (ha.run pos pins s σ H _ I h) fun us s1 ⟨vs, H1, I1, r1, q1⟩ => ?_) hs rfl))
  obtain ⟨a, xs, ex, q⟩ := q1
  subst ex
  cases r1 with
  | cons r rr =>
    cases rr
    cases r
    have fresh : ∀ b ∈ [s1.heap.objs.size + 1, s1.heap.objs.size], FpOk X pins H1 b := fun b hb => by
      have e' : b = s1.heap.objs.size + 1 ∨ b = s1.heap.objs.size := by simpa using hb
      have hle : s1.heap.objs.size ≤ b := by
        rcases e' with z | z
        · rw [z]; exact Nat.le_add_right _ _
        · rw [z]; exact Nat.le_refl _
      exact I1.fpOk hle (I1.hok.fresh hle)
    rcases q with ⟨hq, q⟩ | ⟨hq, q⟩
    · obtain ⟨its, rv, p', hz⟩ := I1.list hq
      refine call_enumerate_list p'.isList fun h' he hit hsz hk => wpAny_pyIter_enum he ?_
      have I2 : Inv X pins σ H1 { s1 with heap := h' } := I1.kept (t' := s1.toks) hk
      exact ⟨s1.heap.objs.size + 1, [s1.heap.objs.size + 1, s1.heap.objs.size], _, _, H1, rfl, I2, turn_enum a (s1.heap.objs.size + 1) s1.heap.objs.size, ⟨⟨.none, he⟩, hit, Nat.succ_ne_self _⟩, fresh, q⟩
    · obtain ⟨its, rv, p', hz⟩ := I1.tuple hq
      refine call_enumT (show s1.heap.IsTuple a its.toArray from p') fun h' he hit hsz hk => wpAny_pyIter_enum he ?_
      have I2 : Inv X pins σ H1 { s1 with heap := h' } := I1.kept (t' := s1.toks) hk
      exact ⟨s1.heap.objs.size + 1, [s1.heap.objs.size + 1, s1.heap.objs.size], _, _, H1, rfl, I2, turn_enumT a (s1.heap.objs.size + 1) s1.heap.objs.size, ⟨⟨.none, he⟩, hit, Nat.succ_ne_self _⟩, fresh, q⟩
end GX
set_option maxHeartbeats 4000000
-- text X6
/-! # sum of a tuple; max(xs, default=d) -/
namespace GX
open PySem PySem.Spec PyProof.Rows L2
def rSumT (K : PySem.W.Frag) : List V → Hp → VK → Prop := fun vs H Q => ∃ (a : Addr) (ns : List Int), vs = [V.ref a] ∧ SqT K H a (ns.map V.int) ∧ Q (.int ns.sum) H
def rMaxD (K : PySem.W.Frag) : List V → List V → Hp → VK → Prop := fun vs zs H Q => ∃ (a : Addr) (ns : List Int) (d : V), vs = [V.ref a] ∧ zs = [d] ∧ SqL K H a (ns.map V.int) ∧ ns ≠ [] ∧ Q (.int (ns.tail.foldl max (ns.headD 0))) H
section
variable {X : Cx}
theorem cr_sumT (hc : X.calm = true) : CallR X (.builtin "sum") (rSumT X.K) := by
  intro pins s σ H vs us Q I r h
  obtain ⟨a, ns, rfl, hs, q⟩ := h
  obtain ⟨its, rv, hl, _⟩ := I.tuple hs
  rw [Vals.ref1 r]
  have hi := rv.ints
  obtain ⟨xs, e⟩ := hi.allInts.items
  have hn : numsOf (intItems xs).toList = ns := by rw [← e]; exact hi.numsOf
  rw [nums_intItems] at hn
  have hl' : s.heap.IsTuple a (intItems xs) := by rw [← e]; exact hl
  refine PySem.W.ktm_sumG (I.ok.hd hc) hl' fun h' tk t' hk => ?_
  refine ⟨.int ns.sum, H, I.kept hk, ⟨t', ?_⟩, q⟩
  rw [preSum_eq, List.take_of_length_le (by simp), hn]
theorem reads_ints {h : Heap} : ∀ {us : List Value} {ns : List Int}, IntsAre us ns → ReadsAll h us (ns.map PyData.int) []
  | _, _, .nil => .nil
  | _, _, .cons n k r => ReadsAll.cons (as := []) (bs := []) (.int n k) (reads_ints r)
theorem cr_maxDflt (hc : X.calm = true) (hu : X.A.units + 64 < cLine) : CallRK X (.builtin "max") [Str.ofString "default"] (rMaxD X.K) := by
  intro pins s σ H vs zs us ws Q I r rz h
  obtain ⟨a, ns, d, rfl, rfl, hs, hne, q⟩ := h
  obtain ⟨its, rv, hl, _⟩ := I.list hs
  rw [Vals.ref1 r]
  obtain ⟨w1, rfl, e1⟩ := vals1 rz
  have hi := rv.ints
  have hd0 : PyData.depthAll (ns.map PyData.int) = 0 := PySem.W.depth_ints ns
  have hal : PySem.W.AlikeAll (ns.map PyData.int) := by
    refine ⟨fun x hx y hy => ?_, fun x hx => ?_⟩
    · obtain ⟨a, _, rfl⟩ := List.mem_map.mp hx
      obtain ⟨b, _, rfl⟩ := List.mem_map.mp hy
      rfl
    · obtain ⟨a, _, rfl⟩ := List.mem_map.mp hx
      intro z; cases z
  refine PySem.W.max_list_default (I.ok.hd hc) hl.isList (by simpa using reads_ints hi) hal (by rw [hd0]; omega) (fun e => absurd (List.map_eq_nil_iff.mp e) hne) fun y ys i v h' tk bs e hv hr hk => ?_
  obtain ⟨n, ns', rfl⟩ : ∃ n ns', ns = n :: ns' := by
    cases ns with
    | nil => exact absurd rfl hne
    | cons n ns' => exact ⟨n, ns', rfl⟩
  rw [List.map_cons] at e
  injection e with e1 e2
  subst e1; subst e2
  rw [PySem.W.maxD_ints] at hr
  cases hr with
  | int _ t => exact ⟨.int _, H, I.kept hk, ⟨t, rfl⟩, q⟩
end
end GX
set_option maxHeartbeats 4000000
-- text B0
namespace G
open PySem PySem.Spec PyProof.Rows L2
abbrev o_add {X : Cx} := @on_add X
abbrev o_sub {X : Cx} := @on_sub X
abbrev o_mul {X : Cx} := @on_mul X
abbrev o_mod {X : Cx} := @on_mod X
abbrev o_div {X : Cx} := @on_div X
abbrev o_and {X : Cx} := @on_and X
abbrev o_or {X : Cx} := @on_or X
abbrev o_xor {X : Cx} := @on_xor X
abbrev o_shl {X : Cx} := @on_shl X
abbrev o_shr {X : Cx} := @on_shr X
abbrev o_lt {X : Cx} := @on_lt X
abbrev o_le {X : Cx} := @on_le X
abbrev o_gt {X : Cx} := @on_gt X
abbrev o_ge {X : Cx} := @on_ge X
abbrev o_eq {X : Cx} := @on_eq X
abbrev o_ne {X : Cx} := @on_ne X
end G
set_option maxHeartbeats 4000000
-- text E5
namespace G
open PySem PySem.Spec PyProof.Rows L2
section
variable {K : PySem.W.Frag} {D : Ends} {σ : L2.St} {H : Hp} {gg : TG} {tb : TS}
/-- over a list or a tuple with the indices; the heap grows by the pairs -/
theorem for_enumA {a : Addr} {xs : List V} (h : SqL K H a xs ∨ SqT K H a xs) (Pv : Nat → L2.St → Hp → Prop) (h0 : Pv 0 σ H) (hS : ∀ i σ' H', Pv i σ' H' → Sm H H')
    (hs : ∀ i x σ' H' T, xs[i]? = some x → Pv i σ' H' → H' T = none → gg (.ref T) σ' (upd H' T (.tup [.int (i : Nat), x])) fun σ2 H2 => tb { D with nx := Pv (i + 1), ct := Pv (i + 1), bk := D.nx } σ2 H2) (hd : ∀ σ' H', Pv xs.length σ' H' → D.nx σ' H') :
    ∃ (a' : Addr) (xs' : List V), [V.ref a] = [V.ref a'] ∧ ((SqL K H a' xs' ∧ ∃ W : Nat → Nat → L2.St → Hp → Prop, (∃ m, W 0 m σ H) ∧ ∀ i m σ H, W i m σ H →
      ((Ite K a').stop i H ∧ D.nx σ H) ∨ ((Ite K a').go i H ∧ ∃ N : L2.St → Hp → Prop, (∀ σ' H', N σ' H' → ∃ m', m' < m ∧ W (i + 1) m' σ' H') ∧ ∀ x H', (Ite K a').yld i H x H' → gg x σ H' fun σ2 H2 => tb { D with nx := N, ct := N, bk := D.nx } σ2 H2)) ∨
      (SqT K H a' xs' ∧ ∃ W : Nat → Nat → L2.St → Hp → Prop, (∃ m, W 0 m σ H) ∧ ∀ i m σ H, W i m σ H →
      ((GX.IteT K a').stop i H ∧ D.nx σ H) ∨ ((GX.IteT K a').go i H ∧ ∃ N : L2.St → Hp → Prop, (∀ σ' H', N σ' H' → ∃ m', m' < m ∧ W (i + 1) m' σ' H') ∧ ∀ x H', (GX.IteT K a').yld i H x H' → gg x σ H' fun σ2 H2 => tb { D with nx := N, ct := N, bk := D.nx } σ2 H2))) := by
  refine ⟨a, xs, rfl, ?_⟩
  rcases h with h | h
  · left
    refine ⟨h, fun i m σ' H' => m = xs.length - i ∧ i ≤ xs.length ∧ Pv i σ' H', ⟨_, rfl, Nat.zero_le _, h0⟩, ?_⟩
    rintro i m σ' H' ⟨rfl, hi, p⟩
    have q := (hS i σ' H' p).sqL h
    by_cases hlt : i < xs.length
    · refine .inr ⟨⟨xs, xs[i], q, by simp [hlt]⟩, Pv (i + 1), fun σ2 H2 p2 => ⟨xs.length - (i + 1), by omega, rfl, hlt, p2⟩, fun x H2 y => ?_⟩
      obtain ⟨T, x', rfl, hT, rfl, hx⟩ := y
      exact hs i x' σ' H' T (hx xs q) p hT
    · have e : i = xs.length := by omega
      subst e
      exact .inl ⟨⟨xs, q, Nat.le_refl _⟩, hd σ' H' p⟩
  · right
    refine ⟨h, fun i m σ' H' => m = xs.length - i ∧ i ≤ xs.length ∧ Pv i σ' H', ⟨_, rfl, Nat.zero_le _, h0⟩, ?_⟩
    rintro i m σ' H' ⟨rfl, hi, p⟩
    have q := (hS i σ' H' p).sqT h
    by_cases hlt : i < xs.length
    · refine .inr ⟨⟨xs, xs[i], q, by simp [hlt]⟩, Pv (i + 1), fun σ2 H2 p2 => ⟨xs.length - (i + 1), by omega, rfl, hlt, p2⟩, fun x H2 y => ?_⟩
      obtain ⟨T, x', rfl, hT, rfl, hx⟩ := y
      exact hs i x' σ' H' T (hx xs q) p hT
    · have e : i = xs.length := by omega
      subst e
      exact .inl ⟨⟨xs, q, Nat.le_refl _⟩, hd σ' H' p⟩
theorem rd_ien {ta : TA} {R : It → Hp → Prop} (h : ta σ H fun vs H1 => ∃ a xs, vs = [.ref a] ∧ ((SqL K H1 a xs ∧ R (Ite K a) H1) ∨ (SqT K H1 a xs ∧ R (GX.IteT K a) H1))) : GX.iEnumA K ta σ H R := h
theorem rd_gcons {t : TG} {u : TGs} {v : V} {r : List V} {Q : L2.St → Hp → Prop} (h : t v σ H fun σ' H' => u r σ' H' Q) : gCons t u (v :: r) σ H Q := ⟨v, r, rfl, h⟩
theorem rd_gnil {Q : L2.St → Hp → Prop} (h : Q σ H) : gNil [] σ H Q := ⟨rfl, h⟩
theorem rd_gtup {t : TGs} {n : Nat} {p : Addr} {xs : List V} {Q : L2.St → Hp → Prop} (e : H p = some (.tup xs)) (hn : xs.length = n) (h : t xs σ H Q) : gTup K n t (.ref p) σ H Q := ⟨p, xs, rfl, sqT_of e, hn, h⟩
theorem ka_cons {t : String} {c : String} {cs : List Value} {b r : Bool} (h : kitB t c = some b) (hr : b = false → PySem.W.kitAny K (.type t) cs = some r) (hb : b = true → r = true) : PySem.W.kitAny K (.type t) (.type c :: cs) = some r := kitAny_cons (kit_ty h) hr hb
theorem kb_ll : kitB "list" "list" = some true := by decide +kernel
theorem kb_tl : kitB "tuple" "list" = some false := by decide +kernel
theorem kb_tt : kitB "tuple" "tuple" = some true := by decide +kernel
/-- isinstance(x, (list, tuple)) of a list or a tuple -/
theorem rd_seqT {l tp : Addr} {xs : List V} {Q : VK} (hl : H l = some (.lst xs) ∨ H l = some (.tup xs)) (ht : H tp = some (.tup [.ty "list", .ty "tuple"])) (q : Q (.bl true) H) : rIsiT K [.ref l, .ref tp] H Q := by
  rcases hl with e | e
  · exact ⟨_, _, _, _, _, true, rfl, ht, .cons (.ty "list") (.cons (.ty "tuple") .nil), .base (.lst e), ka_cons kb_ll (fun z => by cases z) fun _ => rfl, q⟩
  · exact ⟨_, _, _, _, _, true, rfl, ht, .cons (.ty "list") (.cons (.ty "tuple") .nil), .base (.tup e), ka_cons kb_tl (fun _ => ka_cons kb_tt (fun z => by cases z) fun _ => rfl) (fun z => by cases z), q⟩
theorem rd_sfld {ta tv : TE} {f : Str} (h : tv σ H fun y H1 => ta σ H1 fun x H2 => ∃ a C dx fs, x = .ref a ∧ H2 a = some (.ins C dx fs) ∧ Cls K C ∧ NoAttr K C f ∧ fs.length < 1000 ∧ D.nx σ (upd H2 a (.ins C dx (putF f y fs)))) : sFld K ta tv f D σ H := h
theorem rd_prop {C : Addr} {sp : Sp} {E : XK} {ta : TE} {Q : VK} (h : ta σ H fun x H1 => ∃ a dx fs, x = .ref a ∧ H1 a = some (.ins C dx fs) ∧ sp [.ref a] H1 Q E) : tProp C sp [] E ta σ H Q := h
theorem rd_make {C : Addr} {sp : Sp} {E : XK} {t : TA} {Q : VK} (h : t σ H fun vs H1 => ∀ x dx, H1 x = none → H1 dx = none → dx ≠ x → sp (.ref x :: vs) (upd (upd H1 dx (.own x)) x (.ins C dx [])) (fun v H2 => v = .non ∧ Q (.ref x) H2) E) : tMake C sp [] E t σ H Q := by
  unfold tMake
  simp only [List.append_nil]
  exact h
theorem rd_ckw {r : List V → List V → Hp → VK → Prop} {t tk : TA} {Q : VK} (h : t σ H fun vs H1 => tk σ H1 fun zs H2 => r vs zs H2 Q) : tCKw r t tk σ H Q := h
theorem lc_rngJ {tt : TT} {te : TE} {i n : Nat} {H1 : Hp} {Q : Addr → Hp → Prop} (hn : n ≤ sizeLine) (p : Nat → Bool) (f : Nat → V)
    (step : ∀ k, k < n → ∀ H D, Sm H1 H → ∀ Nx : Hp → Prop, (∀ H3, Sm H H3 → p k = false → Nx H3) → (∀ H4, Sm H H4 → p k = true → Elm D Nx (f k) H4) → tt ((wipe σ [i]).set i (some (nv k))) H fun b H3 => if b = true then te ((wipe σ [i]).set i (some (nv k))) H3 (Elm D Nx) else Nx H3)
    (fin : ∀ H D, Sm H1 H → H1 D = none → H D = some (.lst (((List.range n).filter p).map f)) → Q D H) : ∃ j : Int, [nv n] = [V.int j] ∧ -(2 ^ 62) ≤ j ∧ j < 2 ^ 62 ∧ LcGoal (Itr 0 j.toNat) i tt te σ H1 Q := by
  have hs : n ≤ 16777216 := by rw [sizeLine_eq] at hn; exact hn
  refine ⟨(n : Int), rfl, by omega, by omega, ?_⟩
  rw [Int.toNat_natCast]
  exact lc_rng hn p f step fin
theorem wk_tupN {a : Addr} {xs : List Nat} {H1 : Hp} (h : SqT K H1 a (nvs xs)) : ∀ k H, Sm H1 H → (k < xs.length → (Itt K a).go k H ∧ ∀ x H', (Itt K a).yld k H x H' → H' = H ∧ (nvs xs)[k]? = some x) ∧ (k = xs.length → (Itt K a).stop k H) := fun k H s =>
  ⟨fun hk => (wk_tup h k H s).1 (by simpa using hk), fun hk => (wk_tup h k H s).2 (by simpa using hk)⟩
theorem wk_lstN {a : Addr} {xs : List Nat} {H1 : Hp} (h : SqL K H1 a (nvs xs)) : ∀ k H, Sm H1 H → (k < xs.length → (Itl K a).go k H ∧ ∀ x H', (Itl K a).yld k H x H' → H' = H ∧ (nvs xs)[k]? = some x) ∧ (k = xs.length → (Itl K a).stop k H) := fun k H s =>
  ⟨fun hk => (wk_lst h k H s).1 (by simpa using hk), fun hk => (wk_lst h k H s).2 (by simpa using hk)⟩
theorem lc_tupJ {tt : TT} {te : TE} {i : Nat} {a : Addr} {xs : List Nat} {H1 : Hp} {Q : Addr → Hp → Prop} (h : SqT K H1 a (nvs xs)) (hn : xs.length ≤ sizeLine) (p : Nat → Bool) (f : Nat → V)
    (step : ∀ x, x ∈ xs → ∀ H D, Sm H1 H → ∀ Nx : Hp → Prop, (∀ H3, Sm H H3 → p x = false → Nx H3) → (∀ H4, Sm H H4 → p x = true → Elm D Nx (f x) H4) → tt ((wipe σ [i]).set i (some (nv x))) H fun b H3 => if b = true then te ((wipe σ [i]).set i (some (nv x))) H3 (Elm D Nx) else Nx H3)
    (fin : ∀ H D, Sm H1 H → H1 D = none → H D = some (.lst ((xs.filter p).map f)) → Q D H) : ∃ a', V.ref a = .ref a' ∧ (∃ xs, SqT K H1 a' xs) ∧ LcGoal (Itt K a') i tt te σ H1 Q := ⟨a, rfl, ⟨_, h⟩, lc_nums hn (wk_tupN h) p f step fin⟩
theorem lc_lstJ {tt : TT} {te : TE} {i : Nat} {a : Addr} {xs : List Nat} {H1 : Hp} {Q : Addr → Hp → Prop} (h : SqL K H1 a (nvs xs)) (hn : xs.length ≤ sizeLine) (p : Nat → Bool) (f : Nat → V)
    (step : ∀ x, x ∈ xs → ∀ H D, Sm H1 H → ∀ Nx : Hp → Prop, (∀ H3, Sm H H3 → p x = false → Nx H3) → (∀ H4, Sm H H4 → p x = true → Elm D Nx (f x) H4) → tt ((wipe σ [i]).set i (some (nv x))) H fun b H3 => if b = true then te ((wipe σ [i]).set i (some (nv x))) H3 (Elm D Nx) else Nx H3)
    (fin : ∀ H D, Sm H1 H → H1 D = none → H D = some (.lst ((xs.filter p).map f)) → Q D H) : ∃ a', V.ref a = .ref a' ∧ (∃ xs, SqL K H1 a' xs) ∧ LcGoal (Itl K a') i tt te σ H1 Q := ⟨a, rfl, ⟨_, h⟩, lc_nums hn (wk_lstN h) p f step fin⟩
theorem for_rngJ {n : Nat} (hn : n < 4611686018427387904) (Pv : Nat → L2.St → Hp → Prop) (h0 : Pv 0 σ H)
    (hs : ∀ i σ' H', i < n → Pv i σ' H' → gg (nv i) σ' H' fun σ2 H2 => tb { D with nx := Pv (i + 1), ct := Pv (i + 1), bk := D.nx } σ2 H2) (hd : ∀ σ' H', Pv n σ' H' → D.nx σ' H') :
    ∃ j : Int, [nv n] = [V.int j] ∧ -(2 ^ 62) ≤ j ∧ j < 2 ^ 62 ∧ ∃ W : Nat → Nat → L2.St → Hp → Prop, (∃ m, W 0 m σ H) ∧ ∀ i m σ H, W i m σ H →
      ((Itr 0 j.toNat).stop i H ∧ D.nx σ H) ∨ ((Itr 0 j.toNat).go i H ∧ ∃ N : L2.St → Hp → Prop, (∀ σ' H', N σ' H' → ∃ m', m' < m ∧ W (i + 1) m' σ' H') ∧ ∀ x H', (Itr 0 j.toNat).yld i H x H' → gg x σ H' fun σ2 H2 => tb { D with nx := N, ct := N, bk := D.nx } σ2 H2) := by
  refine ⟨(n : Int), rfl, by omega, by omega, ?_⟩
  rw [Int.toNat_natCast]
  refine for_range Pv h0 (fun i σ' H' hi p => ?_) hd
  rw [Int.zero_add]
  exact hs i σ' H' hi p
end
end G
set_option maxHeartbeats 4000000
-- text X7
/-! # try with several handlers, with and without a name -/
namespace GX
open PySem PySem.Spec PyProof.Rows L2
/-- a handler: the class it names, the slot of its name, what its suite does -/
abbrev Hd : Type := Value × Option Nat × (Addr → Value → Option Addr → TS)
/-- behind the suite the name is gone -/
def Gone (D : Ends) (i : Nat) : Ends := { nx := fun σ H => D.nx (σ.set i none) H, rt := D.rt, bk := fun σ H => D.bk (σ.set i none) H, ct := fun σ H => D.ct (σ.set i none) H }
def enter (n : Nat) (D : Ends) (a : Addr) (cls : Value) (d : Option Addr) (σ : L2.St) (H : Hp) : Option Nat → (Addr → Value → Option Addr → TS) → Prop
  | none, ts => ts a cls d D σ H
  | some i, ts => σ.length = n → ts a cls d (Gone D i) (σ.set i (some (.ref a))) H
def wM (K : PySem.W.Frag) (n : Nat) (Wout : WX) (D : Ends) : List Hd → WX
  | [] => Wout
  | h :: r => fun cls d σ H => ∃ b, PySem.W.exmOne K cls h.1 = some b ∧ (b = true → ∀ a, H a = none → enter n D a cls d σ H h.2.1 h.2.2) ∧ (b = false → wM K n Wout D r cls d σ H)
/-- the name of a handler, if any -/
inductive NmOk (X : Cx) : Option Str → Option Nat → Prop
  | no : NmOk X none none
  | yes {n : Str} {i : Nat} (hi : X.N[i]? = some n) (hl : X.env.kindOf n = some .local) : NmOk X (some n) (some i)
inductive HdM (X : Cx) : List ExceptHandler → List Hd → Prop
  | nil : HdM X [] []
  | cons {x : Str} {c : Value} {nm : Option Str} {o : Option Nat} {ts : Addr → Value → Option Addr → TS} {b : Stmt} {bs : List Stmt} {p1 p2 : Pos} {hs : List ExceptHandler} {l : List Hd} (hn : NmOk X nm o) (hc : Names X x c)
      (hsu : ∀ (a : Addr) (oe : Obj) (cls : Value) (d : Option Addr) (pn : List (Addr × Obj)), Zc cls d oe → (∃ vs, oe.data = .fields vs) → PSs (X.suite a ((a, oe) :: pn)) (b :: bs) (ts a cls d)) (r : HdM X hs l) :
      HdM X (.ExceptHandler (some (.Name x p1)) nm (b :: bs) p2 :: hs) ((c, o, ts) :: l)
section
variable {X : Cx} {body : List Stmt} {h₀ : ExceptHandler} {hds : List ExceptHandler} {l : List Hd} {pos : Pos} {tb : WX → TS} {Wout : WX}
theorem ps_try_mix (hs : X.stack = X.env :: X.outer) (hf : X.env.frame = some X.env.locals) (hN : X.N.Nodup) (tk : Takes X Wout)
    (hb : ∀ (W : WX) (pn : List (Addr × Obj)) (xe : Value → Shared → Prop), Takes (X.tr pn xe) W → PassesOwn (model X.prog X.w) X.A X.env xe → PSs (X.tr pn xe) body (tb W))
    (hh : HdM X (h₀ :: hds) l) : PS X (.Try body (h₀ :: hds) [] [] pos) (fun D σ H => tb (wM X.K X.N.length Wout D l) D σ H) := by
  refine ⟨fun pins s σ H D I hrd => ?_⟩
  have okX := I.ok
  have fra : X.A.frames = some (X.env :: X.outer) := by rw [okX.frames, hs]
  refine wpAny_Try_except ?_
  have hrun := (hb (wM X.K X.N.length Wout D l) (X.pn ++ pins) (fun e s1 => wpAny (model X.prog X.w) X.A (noteFrame e X.env) (fun _ s2 => wpAny (model X.prog X.w) X.A (setFlight e none) (fun _ s3 =>
    wpAny (model X.prog X.w) X.A (handleBy e X.env (h₀ :: hds)) (SP X pins D) X.xe s3) X.xe s2) X.xe s1) (fun u s' xx => ?caught) PassesOwn.looking).run [] s σ H D (I.toTry _) hrd
  · refine wpAny_mono hrun (fun f s1 e1 => ?_) (fun e s1 e1 => e1)
    cases f with
    | next =>
      obtain ⟨σ1, H1, J1, q1⟩ := e1
      exact wpAny_execs_nil ⟨σ1, H1, J1.ofTry okX, q1⟩
    | ret u =>
      obtain ⟨v, σ1, H1, J1, r1, q1⟩ := e1
      exact ⟨v, σ1, H1, J1.ofTry okX, r1, q1⟩
    | brk =>
      obtain ⟨σ1, H1, J1, q1⟩ := e1
      exact ⟨σ1, H1, J1.ofTry okX, q1⟩
    | cont =>
      obtain ⟨σ1, H1, J1, q1⟩ := e1
      exact ⟨σ1, H1, J1.ofTry okX, q1⟩
  obtain ⟨a, B, sI, pins1, σ1, H1, cls, d, rfl, J0, nb, up, sky, na, os, ag, w0⟩ := xx
  have J := J0.ofTry okX
  have skyX : Sky B (X.env :: X.outer) a (Zc cls d) X.env.locals s'.heap := by rw [← hs]; exact sky
  show wpAny (model X.prog X.w) X.A (noteFrame (.ref a) X.env) _ _ _
  refine Sky.land Zc.steady fra hf skyX fun hA flA upA => ?_
  have JA : Inv X pins σ1 H1 { s' with heap := hA } := J.landed nb flA.1 (up.trans upA) os ag
  obtain ⟨oA, vsA, hoA, hzA, hdA⟩ := flA.there
  have apart : a ∉ frs (X.env :: X.outer) := fun hm => by
    obtain ⟨_, o', e', hnf⟩ := flA.2.2.1.mem hm
    rw [hoA] at e'
    cases e'
    exact hnf _ hdA
  have aL : a ≠ X.env.locals := fun z => apart (List.mem_filterMap.mpr ⟨X.env, List.mem_cons_self, by rw [hf, z]⟩)
  have aF : a ∉ X.fs := fun hm => by
    obtain ⟨e, he, q⟩ := List.mem_filterMap.mp hm
    exact apart (List.mem_filterMap.mpr ⟨e, List.mem_cons_of_mem _ he, q⟩)
  have SA := JA.suite hoA hdA na aL aF
  have turn : ∀ {hs2 : List ExceptHandler} {l2 : List Hd}, HdM X hs2 l2 → wM X.K X.N.length Wout D l2 cls d σ1 H1 → wpAny (model X.prog X.w) X.A (handleBy (.ref a) X.env hs2) (SP X pins D) X.xe { s' with heap := hA } := by
    intro hs2 l2 hk
    induction hk with
    | nil =>
      intro w
      refine wpAny_handleBy_nil ?_
      obtain ⟨_, _, _, oe, vs, T, oT, ts', he, hz, hd, h1, hr⟩ := id flA
      unfold PySem.passOn
      refine wpAny_bind (wpAny_field he hd h1 ?_)
      rw [if_neg (show ¬ ((Value.ref T == Value.none) = true) from by simp)]
      have out : wpAny (model X.prog X.w) X.A (setFlight (.ref a) X.env.frame) (fun _ s4 => wpAny (model X.prog X.w) X.A (throw (.ref a) : Sem Flow) (SP X pins D) X.xe s4) X.xe { s' with heap := hA } := by
        rw [hf]
        exact HandSPX.setFlight_upZ flA fun hB held upB => wpAny_throw (tk _ _ ⟨a, B, sI, pins, σ1, H1, cls, d, rfl, J, nb, (up.trans upA).trans upB, .inr (.inr (by rw [hs]; exact held)), na, os, ag, w⟩)
      first
        | exact wpAny_bind (wpAny_pure (wpAny_bind out))
        | exact wpAny_bind out
    | @cons x c nm o ts b bs p1 p2 hs3 l3 hn hc hsu r ih =>
      intro w
      obtain ⟨k, hk1, hyes, hno⟩ := w
      refine wpAny_handleBy_cons (codeAny_handlers_test ?_) (by intro q; cases q)
      have LT : PySem.W.Looks (model X.prog X.w) hA (typeOf (.ref a)) cls := fun A Q E s kp q => wpAny_typeOf_ref (kp _ _ hoA) (by rw [hzA.1]; exact q)
      have LM := PySem.W.exm_one (M := model X.prog X.w) JA.kIn LT hk1
      have asks : ∀ {Q : Value → Shared → Prop} {E : Value → Shared → Prop}, Q c { s' with heap := hA } → wpAny (model X.prog X.w) (X.A.mark (some (.ref a))) (eval (.Name x p1) X.env) Q E { s' with heap := hA } := fun {Q E} q => by
        obtain ⟨hg, hdbg, hm | ⟨hm, hv, hnn⟩⟩ := hc
        · exact ld_glob (X := X.suite a ((a, oA) :: (X.pn ++ pins))) SA hg hm q hdbg
        · exact ld_blt (X := X.suite a ((a, oA) :: (X.pn ++ pins))) SA hg hm hv q hnn hdbg
      refine asks (LM.here ?_)
      cases k with
      | false =>
        show wpAny _ X.A (handleBy (.ref a) X.env hs3) _ _ _
        exact ih (hno rfl)
      | true =>
        have ent := hyes rfl a na
        cases hn with
        | no =>
          refine codeAny_handlers_suite ?_
          refine HandSPX.lands_againZ flA fun hB flB upB => ?_
          have JB : Inv X pins σ1 H1 { s' with heap := hB } := J.landed nb flB.1 ((up.trans upA).trans upB) os ag
          obtain ⟨oB, vsB, hoB, hzB, hdB⟩ := flB.there
          have SB := JB.suite hoB hdB na aL aF
          refine wpAny_mono ((hsu a oB cls d (X.pn ++ pins) hzB ⟨_, hdB⟩).run [] _ _ H1 _ SB ent) (fun f s6 e6 => ?_) (fun _ _ z => z.elim)
          cases f with
          | ret u =>
            obtain ⟨v6, σ6, H6, S6, r6, q6⟩ := e6
            exact ⟨_, _, _, S6.unsuite okX, r6, q6⟩
          | next =>
            obtain ⟨σ6, H6, S6, q6⟩ := e6
            exact ⟨_, _, S6.unsuite okX, q6⟩
          | brk =>
            obtain ⟨σ6, H6, S6, q6⟩ := e6
            exact ⟨_, _, S6.unsuite okX, q6⟩
          | cont =>
            obtain ⟨σ6, H6, S6, q6⟩ := e6
            exact ⟨_, _, S6.unsuite okX, q6⟩
        | @yes n i hi hl =>
          refine codeAny_handlers_suite_as ?_
          refine HandSPX.lands_againZ flA fun hB flB upB => ?_
          have JB : Inv X pins σ1 H1 { s' with heap := hB } := J.landed nb flB.1 ((up.trans upA).trans upB) os ag
          obtain ⟨oB, vsB, hoB, hzB, hdB⟩ := flB.there
          have SB := JB.suite hoB hdB na aL aF
          refine store_ok (X := X.suite a ((a, oB) :: (X.pn ++ pins))) (v := .ref a) SB hN hi (.inl hl) rfl (fun s5 S5 => ?_) (.inr hl)
          refine wpAny_mono ((hsu a oB cls d (X.pn ++ pins) hzB ⟨_, hdB⟩).run [] s5 _ H1 _ S5 (ent J.len)) (fun f s6 e6 => ?_) (fun _ _ z => z.elim)
          have leave : ∀ {σ6 : L2.St} {H6 : Hp} {Q : Shared → Prop}, Inv (X.suite a ((a, oB) :: (X.pn ++ pins))) [] σ6 H6 s6 → (∀ s7, Inv X pins (σ6.set i none) H6 s7 → Q s7) →
              wpAny (model X.prog X.w) X.A (do bindName X.env n .none; unbindBehindTheSuite X.env n p2) (fun _ s7 => Q s7) X.xe s6 := fun {σ6 H6 Q} S6 hq => gone_ok (S6.unsuite okX) hN hi hl hq
          cases f with
          | ret u =>
            obtain ⟨v6, σ6, H6, S6, r6, q6⟩ := e6
            exact leave S6 fun s7 J7 => ⟨_, _, _, J7, r6, q6⟩
          | next =>
            obtain ⟨σ6, H6, S6, q6⟩ := e6
            exact leave S6 fun s7 J7 => ⟨_, _, J7, q6⟩
          | brk =>
            obtain ⟨σ6, H6, S6, q6⟩ := e6
            exact leave S6 fun s7 J7 => ⟨_, _, J7, q6⟩
          | cont =>
            obtain ⟨σ6, H6, S6, q6⟩ := e6
            exact leave S6 fun s7 J7 => ⟨_, _, J7, q6⟩
  exact turn hh w0
end
end GX
local macro_rules | `(tactic| walk_at "rd1") => `(tactic| with_reducible first
  | refine G.rd_seq ?_ | refine G.rd_asg ?_ | refine G.rd_cons ?_ | refine G.rd_nil ?_ | refine G.rd_op ?_ | refine G.rd_c ?_
  | (refine' G.rd_var ?h ?_; (case h => with_unfolding_all rfl))
  | refine G.rd_name ?_ | refine G.rd_n0 ?_ | refine G.rd_i0 ?_ | refine G.rd_if ?_ | refine G.rd_test ?_ | refine G.rd_b ?_ | refine G.rd_bl ?_ | refine G.rd_ret ?_ | refine G.rd_retN ?_ | refine G.rd_drop ?_
  | refine G.rd_call ?_ | refine G.rd_cb ?_ | refine G.rd_not ?_ | refine G.rd_and ?_ | refine G.rd_or ?_ | refine G.rd_andV ?_ | refine G.rd_orV ?_ | refine G.rd_notV ?_ | refine G.rd_ife ?_ | refine G.rd_next ?_
  | refine G.rd_tun ?_ | refine G.rd_un ?_ | refine G.rd_fld ?_ | refine G.rd_tup ?_ | refine G.rd_lst ?_ | refine G.rd_chain ?_ | refine G.rd_lc ?_ | refine G.rd_for ?_ | refine G.rd_ir1 ?_ | refine G.rd_il ?_ | refine G.rd_it ?_ | refine G.rd_yes ?_ | refine G.rd_num ?_ | refine G.rd_numT ?_ | refine G.rd_sfld ?_ | refine G.rd_prop ?_ | refine G.rd_make ?_ | refine G.rd_ckw ?_ | refine G.rd_ien ?_ | refine G.rd_gcons ?_ | refine G.rd_gnil ?_ | refine G.ite_tt ?_ | refine G.ite_ff ?_ | refine G.ite_nt ?_ | refine G.ite_nf ?_)
local macro_rules | `(tactic| walk_at "rd") => `(tactic| repeat walk_at "rd1")
local macro_rules | `(tactic| walk_at "sg") => `(tactic| simp only [L2.start, List.map_cons, List.map_nil, List.length_cons, List.length_nil, List.cons_append, List.nil_append, List.set_cons_succ, List.set_cons_zero, List.replicate])
open LamX (TabB Tabs TabS ExtN)
set_option maxHeartbeats 4000000
-- text D2
namespace G
open PySem PySem.Spec PyProof.Rows L2 M
section
variable {P : Program} {w : World} {K : PySem.W.Frag} {mg : Str → Option Value} {base : Heap}
/-! ### is_whole -/
/-- these values are asked -/
def okV (H : Hp) : V → Prop
  | .non => True
  | .bl _ => True
  | .int _ => True
  | .str _ => True
  | .ref a => ∃ xs, H a = some (.tup xs)
  | _ => False
def wholeV (lo hi : Int) : V → Bool
  | .int i => decide (lo ≤ i) && decide (i ≤ hi)
  | _ => false
theorem wholeN {lo hi n : Nat} : wholeV lo hi (nv n) = (decide (lo ≤ n) && decide (n ≤ hi)) := by
  show (decide ((lo : Int) ≤ (n : Int)) && decide ((n : Int) ≤ (hi : Int))) = _
  simp only [Int.ofNat_le]
def spWhole : Sp := fun vs H Q _ => ∃ (x : V) (lo hi : Int), vs = [x, .int lo, .int hi] ∧ okV H x ∧ Q (.bl (wholeV lo hi x)) H
theorem isi_ty {H : Hp} {x : V} {Q : VK} {t c : String} {b : Bool} (ty : TyX K H x (.type t)) (e : kitB t c = some b) (q : Q (.bl b) H) : rIsi K [x, .ty c] H Q := ⟨x, _, _, _, b, rfl, .ty c, ty, kit_ty e, q⟩
theorem kb_nn : kitB "NoneType" "int" = some false := by decide +kernel
theorem kb_bi : kitB "bool" "int" = some true := by decide +kernel
theorem kb_bb : kitB "bool" "bool" = some true := by decide +kernel
theorem kb_ii : kitB "int" "int" = some true := by decide +kernel
theorem kb_ib : kitB "int" "bool" = some false := by decide +kernel
theorem kb_si : kitB "str" "int" = some false := by decide +kernel
theorem kb_ti : kitB "tuple" "int" = some false := by decide +kernel
theorem sc_is_whole : FnScope ["thing", "low", "high"] ["thing", "low", "high"] (defScope (top 17)) := ⟨rfl, rfl, rfl, by decide +kernel, rfl, by decide +kernel, by decide +kernel⟩
theorem ok_is_whole (T : Txt K mg) : FnOk P w K mg base CX0 1 a_is_whole (fdOf K a_is_whole) ["thing", "low", "high"] spWhole := by
  refine T.f_is_whole.ok sc_is_whole (fun vs H Q E h => ?len) (fun cdv A outer s H vs Q E hr h => ?body)
  case body =>
    have nd := sc_is_whole.nd
    refine ⟨_, PSs.nox (pss_one (ps_ret (pe_and (pe_callB (call_isi) (by rfl) (T.n_isinstance) (by decide +kernel) (pa_cons (pv 0) (pa_cons (pe_bltn (v := .ty "int") rfl (T.n_int) (by decide +kernel) rfl) pa_nil))) (pe_and (pe_not (pe_callB (call_isi) (by rfl) (T.n_isinstance) (by decide +kernel) (pa_cons (pv 0) (pa_cons (pe_bltn (v := .ty "bool") rfl (T.n_bool) (by decide +kernel) rfl) pa_nil)))) (pe_one (pe_chain op_le op_le (pv 1) (pv 0) (pv 2))))))), ?_⟩
    obtain ⟨x, lo, hi, rfl, ok, q⟩ := h
    walk_at "rd"
    cases x with
    | non => exact isi_ty (.base .non) kb_nn ⟨_, rfl, iteF q⟩
    | bl b => exact isi_ty (.base (.bl b)) kb_bi ⟨_, rfl, iteT (by walk_at "rd"; exact isi_ty (.base (.bl b)) kb_bb ⟨_, rfl, _, rfl, iteF q⟩)⟩
    | int i =>
      refine isi_ty (.base (.int i)) kb_ii ⟨_, rfl, iteT ?_⟩
      walk_at "rd"
      refine isi_ty (.base (.int i)) kb_ib ⟨_, rfl, _, rfl, iteT ?_⟩
      walk_at "rd"
      have e : wholeV lo hi (.int i) = (decide (lo ≤ i) && decide (i ≤ hi)) := rfl
      rw [e] at q
      by_cases h1 : lo ≤ i
      · rw [decide_eq_true h1] at q ⊢
        refine iteT ?_
        walk_at "rd"
        simpa using q
      · rw [decide_eq_false h1] at q ⊢
        exact iteF (by simpa using q)
    | str z => exact isi_ty (.base (.str z)) kb_si ⟨_, rfl, iteF q⟩
    | ref a =>
      obtain ⟨xs, e⟩ := ok
      exact isi_ty (.base (.tup e)) kb_ti ⟨_, rfl, iteF q⟩
    | byt b => exact ok.elim
    | flt b => exact ok.elim
    | ty b => exact ok.elim
  case len =>
    obtain ⟨x, lo, hi, rfl, _⟩ := h
    rfl
/-- a number is asked, and is one -/
theorem rd_whole {H : Hp} {Q : VK} {E : XK} {n lo hi : Nat} (h1 : lo ≤ n) (h2 : n ≤ hi) (q : Q (.bl true) H) : spWhole [nv n, nv lo, nv hi] H Q E := ⟨_, _, _, rfl, trivial, by rw [wholeN, decide_eq_true h1, decide_eq_true h2]; exact q⟩
/-! ### check_letters, check_number, check_heap -/
def spLetters : Sp := fun vs H Q _ => ∃ m : Nat, vs = [nv m] ∧ 1 ≤ m ∧ m ≤ 5 ∧ Q (nv m) H
theorem sc_check_letters : FnScope ["letters"] ["letters"] (defScope (top 18)) := ⟨rfl, rfl, rfl, by decide +kernel, rfl, by decide +kernel, by decide +kernel⟩
theorem ok_check_letters (T : Txt K mg) : FnOk P w K mg base CX0 2 a_check_letters (fdOf K a_check_letters) ["letters"] spLetters := by
  refine T.f_check_letters.ok sc_check_letters (fun vs H Q E h => ?len) (fun cdv A outer s H vs Q E hr h => ?body)
  case body =>
    obtain ⟨t5, m5⟩ := T.v_MOST_LETTERS
    have nd := sc_check_letters.nd
    refine ⟨_, PSs.nox (pss_cons (ps_if (pt_not (pt_val (pe_call (ok_is_whole T) (hr.mono (by decide)) rfl (T.g_is_whole) (T.k_is_whole) (T.b_is_whole) .nil pass0 (pa_cons (pv 0) (pa_cons (pe_n 1) (pa_cons (pe_glob (v := .int ((5 : Nat) : Int)) rfl m5 ⟨_, rfl⟩) pa_nil)))))) (pss_one ps_never) pss_nil)
      (pss_one (ps_ret (pv 0)))), ?_⟩
    obtain ⟨m, rfl, h1, h2, q⟩ := h
    walk_at "rd"
    exact rd_whole h1 h2 (by walk_at "rd"; exact q)
  case len =>
    obtain ⟨m, rfl, _⟩ := h
    rfl
def spNumber : Sp := fun vs H Q _ => ∃ k n : Nat, vs = [nv k, nv n] ∧ k ≤ n ∧ Q (nv k) H
theorem sc_check_number : FnScope ["number", "most"] ["number", "most"] (defScope (top 19)) := ⟨rfl, rfl, rfl, by decide +kernel, rfl, by decide +kernel, by decide +kernel⟩
theorem ok_check_number (T : Txt K mg) : FnOk P w K mg base CX0 2 a_check_number (fdOf K a_check_number) ["number", "most"] spNumber := by
  refine T.f_check_number.ok sc_check_number (fun vs H Q E h => ?len) (fun cdv A outer s H vs Q E hr h => ?body)
  case body =>
    have nd := sc_check_number.nd
    refine ⟨_, PSs.nox (pss_cons (ps_if (pt_not (pt_val (pe_call (ok_is_whole T) (hr.mono (by decide)) rfl (T.g_is_whole) (T.k_is_whole) (T.b_is_whole) .nil pass0 (pa_cons (pv 0) (pa_cons (pe_n 0) (pa_cons (pv 1) pa_nil)))))) (pss_one ps_never) pss_nil)
      (pss_one (ps_ret (pv 0)))), ?_⟩
    obtain ⟨k, n, rfl, h1, q⟩ := h
    walk_at "rd"
    exact rd_whole (Nat.zero_le _) h1 (by walk_at "rd"; exact q)
  case len =>
    obtain ⟨k, n, rfl, _⟩ := h
    rfl
def spHeap : Sp := fun vs H Q _ => ∃ m g : Nat, vs = [nv m, nv g] ∧ 1 ≤ m ∧ m ≤ 5 ∧ g < 2 ^ m ∧ Q (nv g) H
theorem shl1 (m : Nat) : 1 <<< m = 2 ^ m := by rw [Nat.shiftLeft_eq, Nat.one_mul]
theorem two_pos (m : Nat) : 0 < 2 ^ m := Nat.two_pow_pos m
theorem sc_check_heap : FnScope ["letters", "heap"] ["letters", "heap"] (defScope (top 20)) := ⟨rfl, rfl, rfl, by decide +kernel, rfl, by decide +kernel, by decide +kernel⟩
theorem ok_check_heap (T : Txt K mg) : FnOk P w K mg base CX0 3 a_check_heap (fdOf K a_check_heap) ["letters", "heap"] spHeap := by
  refine T.f_check_heap.ok sc_check_heap (fun vs H Q E h => ?len) (fun cdv A outer s H vs Q E hr h => ?body)
  case body =>
    have nd := sc_check_heap.nd
    refine ⟨_, PSs.nox (pss_cons (ps_expr (pe_call (ok_check_letters T) (hr.mono (by decide)) rfl (T.g_check_letters) (T.k_check_letters) (T.b_check_letters) .nil pass0 (pa_cons (pv 0) pa_nil)))
      (pss_cons (ps_if (pt_not (pt_val (pe_call (ok_is_whole T) (hr.mono (by decide)) rfl (T.g_is_whole) (T.k_is_whole) (T.b_is_whole) .nil pass0 (pa_cons (pv 1) (pa_cons (pe_n 0) (pa_cons (pe_op o_sub (pe_op o_shl (pe_n 1) (pv 0)) (pe_n 1)) pa_nil)))))) (pss_one ps_never) pss_nil)
      (pss_one (ps_ret (pv 1))))), ?_⟩
    obtain ⟨m, g, rfl, h1, h2, h3, q⟩ := h
    walk_at "rd"
    refine ⟨m, rfl, h1, h2, ?_⟩
    walk_at "rd"
    refine rd_n ⟨by omega, by omega⟩ ?_
    walk_at "rd"
    refine rd_n (by rw [shl1]; exact two_pos m) ?_
    walk_at "rd"
    exact rd_whole (Nat.zero_le _) (by rw [shl1]; omega) (by walk_at "rd"; exact q)
  case len =>
    obtain ⟨m, g, rfl, _⟩ := h
    rfl
end
end G
set_option maxHeartbeats 4000000
-- text D3
namespace G
open PySem PySem.Spec PyProof.Rows L2 M
section
variable {P : Program} {w : World} {K : PySem.W.Frag} {mg : Str → Option Value} {base : Heap}
/-- numbers in a list or a tuple -/
def spHeaps : Sp := fun vs H Q _ => ∃ (m : Nat) (l : Addr) (xs ys : List Nat), vs = [nv m, .ref l] ∧ 1 ≤ m ∧ m ≤ 5 ∧ (H l = some (.lst (nvs xs)) ∨ H l = some (.tup (nvs xs))) ∧ (∀ x ∈ xs, x < 2 ^ m) ∧ xs.length ≤ 1000 ∧ Asc ys ∧ (∀ y, y ∈ ys ↔ y ∈ xs) ∧
  ∀ t H', Sm H H' → H' t = some (.tup (nvs ys)) → Q (.ref t) H'
theorem sc_check_heaps : FnScope ["letters", "heaps", "index", "heap"] ["letters", "heaps"] (defScope (top 21)) := ⟨rfl, rfl, rfl, by decide +kernel, rfl, by decide +kernel, by decide +kernel⟩
theorem ok_check_heaps (T : Txt K mg) : FnOk P w K mg base CX0 3 a_check_heaps (fdOf K a_check_heaps) ["letters", "heaps"] spHeaps := by
  refine T.f_check_heaps.ok sc_check_heaps (fun vs H Q E h => ?len) (fun cdv A outer s H vs Q E hr h => ?body)
  case body =>
    have nd := sc_check_heaps.nd
    refine ⟨_, PSs.nox (pss_cons (ps_expr (pe_call (ok_check_letters T) (hr.mono (by decide)) rfl (T.g_check_letters) (T.k_check_letters) (T.b_check_letters) .nil pass0 (pa_cons (pv 0) pa_nil)))
      (pss_cons (ps_if (pt_not (pt_val (pe_callB (call_isiT) (by rfl) (T.n_isinstance) (by decide +kernel) (pa_cons (pv 1) (pa_cons (pe_tup (pa_cons (pe_bltn (v := .ty "list") rfl (T.n_list) (by decide +kernel) rfl) (pa_cons (pe_bltn (v := .ty "tuple") rfl (T.n_tuple) (by decide +kernel) rfl) pa_nil))) pa_nil))))) (pss_one ps_never) pss_nil)
      (pss_cons (ps_for PassesOwn.never rfl (GX.pi_enumA (by rfl) (T.n_enumerate) (pa_cons (pv 1) pa_nil)) (pg_tup rfl (pgs_cons (pg_name (i := 2) nd rfl (.inl rfl)) (pgs_cons (pg_name (i := 3) nd rfl (.inl rfl)) pgs_nil))) (pss_one (ps_if (pt_not (pt_val (pe_call (ok_is_whole T) (hr.mono (by decide)) rfl (T.g_is_whole) (T.k_is_whole) (T.b_is_whole) .nil pass0 (pa_cons (pv 3) (pa_cons (pe_n 0) (pa_cons (pe_op o_sub (pe_op o_shl (pe_n 1) (pv 0)) (pe_n 1)) pa_nil)))))) (pss_one ps_never) pss_nil)))
      (pss_one (ps_ret (pe_callTy (call_tuple_of) (by rfl) (T.n_tuple) (by decide +kernel) (pa_cons (pe_callB (GX.cr_sortedSet rfl) (by rfl) (T.n_sorted) (by decide +kernel) (pa_cons (pe_callTy (GX.cr_setI rfl) (by rfl) (T.n_set) (by decide +kernel) (pa_cons (pv 1) pa_nil)) pa_nil)) pa_nil))))))), ?_⟩
    obtain ⟨m, l, xs, ys, rfl, h1, h2, hl, hx, hn, hasc, hm, q⟩ := h
    walk_at "rd"
    refine ⟨m, rfl, h1, h2, ?_⟩
    walk_at "rd"
    refine ⟨by decide, fun tp htp => ?_⟩
    walk_at "rd"
    have s1 : Sm H (upd H tp (.tup [.ty "list", .ty "tuple"])) := Sm.new htp
    refine rd_seqT (hl.imp (s1 _ _) (s1 _ _)) upd_same ?_
    walk_at "rd"
    have hl1 : SqL K (upd H tp (.tup [.ty "list", .ty "tuple"])) l (nvs xs) ∨ SqT K (upd H tp (.tup [.ty "list", .ty "tuple"])) l (nvs xs) := hl.imp (fun e => sqL_of (s1 _ _ e)) fun e => sqT_of (s1 _ _ e)
    refine for_enumA hl1 (fun i σ' H' => Sm (upd H tp (.tup [.ty "list", .ty "tuple"])) H' ∧ ∃ u v, σ' = [some (nv m), some (.ref l), u, v]) ⟨Sm.refl, _, _, rfl⟩ (fun i σ' H' p => p.1) (fun i x σ' H' T hxi p hT => ?_) (fun σ' H' p => ?_)
    · obtain ⟨s2, u, v, rfl⟩ := p
      have hxm : ∃ k, x = nv k ∧ k < 2 ^ m := by
        obtain ⟨k, hk, e⟩ := List.mem_map.mp (List.mem_of_getElem? hxi)
        exact ⟨k, e.symm, hx k hk⟩
      obtain ⟨k, rfl, hk⟩ := hxm
      refine rd_gtup upd_same rfl ?_
      walk_at "rd"
      refine rd_n ⟨by omega, by omega⟩ ?_
      walk_at "rd"
      refine rd_n (by rw [shl1]; exact two_pos m) ?_
      walk_at "rd"
      refine rd_whole (Nat.zero_le _) (by rw [shl1]; omega) ?_
      walk_at "rd"
      exact ⟨s2.upd (s2.none hT), _, _, rfl⟩
    · obtain ⟨s2, u, v, rfl⟩ := p
      have s3 := s1.trans s2
      have hxs : nvs xs = (xs.map fun n : Nat => (n : Int)).map V.int := nvs_int xs
      walk_at "rd"
      refine ⟨l, xs.map fun n : Nat => (n : Int), rfl, ?_, by simpa using hn, fun p hp => ?_⟩
      · rw [← hxs]; exact hl.imp (fun e => sqL_of (s3 _ _ e)) fun e => sqT_of (s3 _ _ e)
      walk_at "rd"
      refine ⟨p, xs.map fun n : Nat => (n : Int), rfl, upd_same, by simpa using hn, fun p2 out hp2 hasc2 hm2 => ?_⟩
      walk_at "rd"
      have hout : out.map V.int = nvs ys := by
        rw [nvs_int]
        congr 1
        refine GX.asc_unique hasc2 (List.pairwise_map.mpr (hasc.imp fun h => by omega)) fun k => ?_
        rw [hm2]
        simp only [List.mem_map]
        exact ⟨fun ⟨a, ha, e⟩ => ⟨a, (hm a).mpr ha, e⟩, fun ⟨a, ha, e⟩ => ⟨a, (hm a).mp ha, e⟩⟩
      rw [hout]
      refine ⟨p2, nvs ys, rfl, .inl ⟨sqL_of upd_same, fun t ht => ?_⟩⟩
      refine q t _ ?_ upd_same
      have s4 : Sm H (upd H' p (GX.setO w p (xs.map fun n : Nat => (n : Int)))) := s3.trans (Sm.new hp)
      exact (s4.trans (Sm.new hp2)).trans (Sm.new ht)
  case len =>
    obtain ⟨m, l, xs, ys, rfl, _⟩ := h
    rfl
theorem sc_check_places : FnScope ["letters", "places", "index", "place"] ["letters", "places"] (defScope (top 22)) := ⟨rfl, rfl, rfl, by decide +kernel, rfl, by decide +kernel, by decide +kernel⟩
theorem ok_check_places (T : Txt K mg) : FnOk P w K mg base CX0 3 a_check_places (fdOf K a_check_places) ["letters", "places"] spHeaps := by
  refine T.f_check_places.ok sc_check_places (fun vs H Q E h => ?len) (fun cdv A outer s H vs Q E hr h => ?body)
  case body =>
    have nd := sc_check_places.nd
    refine ⟨_, PSs.nox (pss_cons (ps_expr (pe_call (ok_check_letters T) (hr.mono (by decide)) rfl (T.g_check_letters) (T.k_check_letters) (T.b_check_letters) .nil pass0 (pa_cons (pv 0) pa_nil)))
      (pss_cons (ps_if (pt_not (pt_val (pe_callB (call_isiT) (by rfl) (T.n_isinstance) (by decide +kernel) (pa_cons (pv 1) (pa_cons (pe_tup (pa_cons (pe_bltn (v := .ty "list") rfl (T.n_list) (by decide +kernel) rfl) (pa_cons (pe_bltn (v := .ty "tuple") rfl (T.n_tuple) (by decide +kernel) rfl) pa_nil))) pa_nil))))) (pss_one ps_never) pss_nil)
      (pss_cons (ps_for PassesOwn.never rfl (GX.pi_enumA (by rfl) (T.n_enumerate) (pa_cons (pv 1) pa_nil)) (pg_tup rfl (pgs_cons (pg_name (i := 2) nd rfl (.inl rfl)) (pgs_cons (pg_name (i := 3) nd rfl (.inl rfl)) pgs_nil))) (pss_one (ps_if (pt_not (pt_val (pe_call (ok_is_whole T) (hr.mono (by decide)) rfl (T.g_is_whole) (T.k_is_whole) (T.b_is_whole) .nil pass0 (pa_cons (pv 3) (pa_cons (pe_n 0) (pa_cons (pe_op o_sub (pe_op o_shl (pe_n 1) (pv 0)) (pe_n 1)) pa_nil)))))) (pss_one ps_never) pss_nil)))
      (pss_one (ps_ret (pe_callTy (call_tuple_of) (by rfl) (T.n_tuple) (by decide +kernel) (pa_cons (pe_callB (GX.cr_sortedSet rfl) (by rfl) (T.n_sorted) (by decide +kernel) (pa_cons (pe_callTy (GX.cr_setI rfl) (by rfl) (T.n_set) (by decide +kernel) (pa_cons (pv 1) pa_nil)) pa_nil)) pa_nil))))))), ?_⟩
    obtain ⟨m, l, xs, ys, rfl, h1, h2, hl, hx, hn, hasc, hm, q⟩ := h
    walk_at "rd"
    refine ⟨m, rfl, h1, h2, ?_⟩
    walk_at "rd"
    refine ⟨by decide, fun tp htp => ?_⟩
    walk_at "rd"
    have s1 : Sm H (upd H tp (.tup [.ty "list", .ty "tuple"])) := Sm.new htp
    refine rd_seqT (hl.imp (s1 _ _) (s1 _ _)) upd_same ?_
    walk_at "rd"
    have hl1 : SqL K (upd H tp (.tup [.ty "list", .ty "tuple"])) l (nvs xs) ∨ SqT K (upd H tp (.tup [.ty "list", .ty "tuple"])) l (nvs xs) := hl.imp (fun e => sqL_of (s1 _ _ e)) fun e => sqT_of (s1 _ _ e)
    refine for_enumA hl1 (fun i σ' H' => Sm (upd H tp (.tup [.ty "list", .ty "tuple"])) H' ∧ ∃ u v, σ' = [some (nv m), some (.ref l), u, v]) ⟨Sm.refl, _, _, rfl⟩ (fun i σ' H' p => p.1) (fun i x σ' H' T hxi p hT => ?_) (fun σ' H' p => ?_)
    · obtain ⟨s2, u, v, rfl⟩ := p
      have hxm : ∃ k, x = nv k ∧ k < 2 ^ m := by
        obtain ⟨k, hk, e⟩ := List.mem_map.mp (List.mem_of_getElem? hxi)
        exact ⟨k, e.symm, hx k hk⟩
      obtain ⟨k, rfl, hk⟩ := hxm
      refine rd_gtup upd_same rfl ?_
      walk_at "rd"
      refine rd_n ⟨by omega, by omega⟩ ?_
      walk_at "rd"
      refine rd_n (by rw [shl1]; exact two_pos m) ?_
      walk_at "rd"
      refine rd_whole (Nat.zero_le _) (by rw [shl1]; omega) ?_
      walk_at "rd"
      exact ⟨s2.upd (s2.none hT), _, _, rfl⟩
    · obtain ⟨s2, u, v, rfl⟩ := p
      have s3 := s1.trans s2
      have hxs : nvs xs = (xs.map fun n : Nat => (n : Int)).map V.int := nvs_int xs
      walk_at "rd"
      refine ⟨l, xs.map fun n : Nat => (n : Int), rfl, ?_, by simpa using hn, fun p hp => ?_⟩
      · rw [← hxs]; exact hl.imp (fun e => sqL_of (s3 _ _ e)) fun e => sqT_of (s3 _ _ e)
      walk_at "rd"
      refine ⟨p, xs.map fun n : Nat => (n : Int), rfl, upd_same, by simpa using hn, fun p2 out hp2 hasc2 hm2 => ?_⟩
      walk_at "rd"
      have hout : out.map V.int = nvs ys := by
        rw [nvs_int]
        congr 1
        refine GX.asc_unique hasc2 (List.pairwise_map.mpr (hasc.imp fun h => by omega)) fun k => ?_
        rw [hm2]
        simp only [List.mem_map]
        exact ⟨fun ⟨a, ha, e⟩ => ⟨a, (hm a).mpr ha, e⟩, fun ⟨a, ha, e⟩ => ⟨a, (hm a).mp ha, e⟩⟩
      rw [hout]
      refine ⟨p2, nvs ys, rfl, .inl ⟨sqL_of upd_same, fun t ht => ?_⟩⟩
      refine q t _ ?_ upd_same
      have s4 : Sm H (upd H' p (GX.setO w p (xs.map fun n : Nat => (n : Int)))) := s3.trans (Sm.new hp)
      exact (s4.trans (Sm.new hp2)).trans (Sm.new ht)
  case len =>
    obtain ⟨m, l, xs, ys, rfl, _⟩ := h
    rfl
end
end G
set_option maxHeartbeats 4000000
-- text D4
namespace G
open PySem PySem.Spec PyProof.Rows L2 M
section
variable {P : Program} {w : World} {K : PySem.W.Frag} {mg : Str → Option Value} {base : Heap}
/-- a new tuple of numbers -/
def NewT (H : Hp) (xs : List Nat) (Q : VK) : Prop := ∀ t H', Sm H H' → H' t = some (.tup (nvs xs)) → Q (.ref t) H'
/-- a list comprehension made a tuple -/
theorem rd_tupL {H : Hp} {l : Addr} {ys : List V} {Q : VK} (e : H l = some (.lst ys)) (q : ∀ t, H t = none → Q (.ref t) (upd H t (.tup ys))) : ∃ p ys, [V.ref l] = [V.ref p] ∧ ((SqL K H p ys ∧ ∀ l, H l = none → Q (.ref l) (upd H l (.tup ys))) ∨ (SqT K H p ys ∧ Q (.ref p) H)) := ⟨l, ys, rfl, .inl ⟨sqL_of e, q⟩⟩
/-! ### letters_of, count_ones -/
def spLettersOf : Sp := fun vs H Q _ => ∃ g : Nat, vs = [nv g] ∧ g < 32 ∧ NewT H (lettersOf g) Q
theorem sc_letters_of : FnScope ["heap", "letter"] ["heap"] (defScope (top 23)) := ⟨rfl, rfl, rfl, by decide +kernel, rfl, by decide +kernel, by decide +kernel⟩
theorem ok_letters_of (T : Txt K mg) : FnOk P w K mg base CX0 4 a_letters_of (fdOf K a_letters_of) ["heap"] spLettersOf := by
  refine T.f_letters_of.ok sc_letters_of (fun vs H Q E h => ?len) (fun cdv A outer s H vs Q E hr h => ?body)
  case body =>
    obtain ⟨t5, m5⟩ := T.v_MOST_LETTERS
    have nd := sc_letters_of.nd
    refine ⟨_, PSs.nox (pss_cons (ps_expr (pe_call (ok_check_heap T) (hr.mono (by decide)) rfl (T.g_check_heap) (T.k_check_heap) (T.b_check_heap) .nil pass0 (pa_cons (pe_glob (v := .int ((5 : Nat) : Int)) rfl m5 ⟨_, rfl⟩) (pa_cons (pv 0) pa_nil))))
      (pss_one (ps_ret (pe_callTy (call_tuple_of) (by rfl) (T.n_tuple) (by decide +kernel) (pa_cons (pe_lc (own := [("letter", 1)]) rfl nd (pi_range1 rfl (T.n_range) (pa_cons (pe_glob (v := .int ((5 : Nat) : Int)) rfl m5 ⟨_, rfl⟩) pa_nil)) (blkOk_by (N := ["heap", "letter"]) (sc := defScope (top 23)) (by decide +kernel)) (fun _ _ _ _ _ => (pg_name (i := 1) nd rfl (.inl rfl))) (fun _ _ _ _ _ => (pts_one (pt_num (pe_op o_and (pe_op o_shr (pv 0) (pv 1)) (pe_n 1))))) (fun _ _ _ _ _ => (pv 1))) pa_nil))))), ?_⟩
    obtain ⟨g, rfl, hg, q⟩ := h
    walk_at "rd"
    refine ⟨5, g, rfl, by omega, by omega, hg, ?_⟩
    walk_at "rd"
    refine lc_rngJ (n := 5) (by decide) (fun l => decide ((g >>> l &&& 1) ≠ 0)) nv (fun l hl H2 D2 s2 Nx h1 h2 => ?_) (fun H2 D2 s2 hD e => ?_)
    · walk_at "rd"
      by_cases z : (g >>> l &&& 1) = 0
      · rw [decide_eq_false (by simpa using z)]
        walk_at "rd"
        exact h1 _ Sm.refl (decide_eq_false (by simpa using z))
      · rw [decide_eq_true (by simpa using z)]
        walk_at "rd"
        exact h2 _ Sm.refl (decide_eq_true (by simpa using z))
    · walk_at "rd"
      refine rd_tupL e fun t ht => q t _ (s2.trans (Sm.new ht)) ?_
      rw [upd_same]
      rfl
  case len =>
    obtain ⟨g, rfl, _⟩ := h
    rfl
def spOnes : Sp := fun vs H Q _ => ∃ n : Nat, vs = [nv n] ∧ Q (nv (ones n)) H
theorem sc_count_ones : FnScope ["number", "many"] ["number"] (defScope (top 24)) := ⟨rfl, rfl, rfl, by decide +kernel, rfl, by decide +kernel, by decide +kernel⟩
theorem ok_count_ones (T : Txt K mg) : FnOk P w K mg base CX0 1 a_count_ones (fdOf K a_count_ones) ["number"] spOnes := by
  refine T.f_count_ones.ok sc_count_ones (fun vs H Q E h => ?len) (fun cdv A outer s H vs Q E hr h => ?body)
  case body =>
    have nd := sc_count_ones.nd
    refine ⟨_, PSs.nox (pss_cons (ps_set (i := 1) nd rfl (Or.inl rfl) (pe_n 0))
      (pss_cons (ps_while PassesOwn.never (pt_cmpR o_gt (pv 0) (pe_n 0) (nomark _)) (pss_cons (ps_set (i := 1) nd rfl (Or.inl rfl) (pe_op o_add (pv 1) (pe_op o_and (pv 0) (pe_n 1))))
      (pss_one (ps_set (i := 0) nd rfl (Or.inl rfl) (pe_op o_shr (pv 0) (pe_n 1))))))
      (pss_one (ps_ret (pv 1))))), ?_⟩
    obtain ⟨n, rfl, q⟩ := h
    walk_at "rd"
    refine ⟨fun k σ' H' => H' = H ∧ ∃ a : Nat, σ' = [some (nv k), some (nv a)] ∧ a + ones k = ones n, ⟨n, rfl, 0, rfl, by omega⟩, ?_⟩
    rintro k σ' H' ⟨rfl, a, rfl, e⟩
    walk_at "rd"
    by_cases z : 0 < k
    · rw [decide_eq_true z]
      walk_at "rd"
      refine ⟨fun σ2 H2 => ∃ k', k' < k ∧ H2 = H' ∧ ∃ a : Nat, σ2 = [some (nv k'), some (nv a)] ∧ a + ones k' = ones n, fun _ _ h => h, ?_⟩
      walk_at "rd"
      refine ⟨k >>> 1, by rw [Nat.shiftRight_eq_div_pow]; omega, rfl, a + (k &&& 1), rfl, ?_⟩
      rw [Nat.shiftRight_eq_div_pow, Nat.and_one_is_mod, ← e, ones_eq k]
      simp [Nat.add_assoc]
    · rw [decide_eq_false z]
      walk_at "rd"
      have k0 : k = 0 := by omega
      subst k0
      have : a = ones n := by rw [← e]; rfl
      rw [this]; exact q
  case len =>
    obtain ⟨g, rfl, _⟩ := h
    rfl
end
end G
set_option maxHeartbeats 4000000
-- text D5
namespace G
open PySem PySem.Spec PyProof.Rows L2 M
section
variable {P : Program} {w : World} {K : PySem.W.Frag} {mg : Str → Option Value} {base : Heap}
theorem pow32 {m : Nat} (h : m ≤ 5) : 2 ^ m ≤ 32 := by
  have : 2 ^ m ≤ 2 ^ 5 := Nat.pow_le_pow_right (by omega) h
  omega
theorem full_eq (m : Nat) : full m = 2 ^ 2 ^ m - 1 := by unfold full; rw [shl1, shl1]
theorem full_lt {m : Nat} (h : m ≤ 5) : 2 ^ 2 ^ m ≤ 4294967296 := by
  have : 2 ^ 2 ^ m ≤ 2 ^ 32 := Nat.pow_le_pow_right (by omega) (pow32 h)
  omega
/-! ### full_word, check_word, stepped_word -/
def spFull : Sp := fun vs H Q _ => ∃ m : Nat, vs = [nv m] ∧ 1 ≤ m ∧ m ≤ 5 ∧ Q (nv (full m)) H
theorem sc_full_word : FnScope ["letters"] ["letters"] (defScope (top 27)) := ⟨rfl, rfl, rfl, by decide +kernel, rfl, by decide +kernel, by decide +kernel⟩
theorem ok_full_word (T : Txt K mg) : FnOk P w K mg base CX0 3 a_full_word (fdOf K a_full_word) ["letters"] spFull := by
  refine T.f_full_word.ok sc_full_word (fun vs H Q E h => ?len) (fun cdv A outer s H vs Q E hr h => ?body)
  case body =>
    have nd := sc_full_word.nd
    refine ⟨_, PSs.nox (pss_one (ps_ret (pe_op o_sub (pe_op o_shl (pe_n 1) (pe_op o_shl (pe_n 1) (pe_call (ok_check_letters T) (hr.mono (by decide)) rfl (T.g_check_letters) (T.k_check_letters) (T.b_check_letters) .nil pass0 (pa_cons (pv 0) pa_nil)))) (pe_n 1)))), ?_⟩
    obtain ⟨m, rfl, h1, h2, q⟩ := h
    walk_at "rd"
    refine ⟨m, rfl, h1, h2, ?_⟩
    walk_at "rd"
    refine rd_n ⟨by omega, by omega⟩ ?_
    walk_at "rd"
    refine rd_n ⟨by rw [shl1]; have := pow32 h2; omega, by omega⟩ ?_
    walk_at "rd"
    refine rd_n (by rw [shl1, shl1]; exact two_pos _) ?_
    walk_at "rd"
    exact q
  case len =>
    obtain ⟨m, rfl, _⟩ := h
    rfl
def spWord : Sp := fun vs H Q _ => ∃ m u : Nat, vs = [nv m, nv u] ∧ 1 ≤ m ∧ m ≤ 5 ∧ u ≤ full m ∧ Q (nv u) H
theorem sc_check_word : FnScope ["letters", "word"] ["letters", "word"] (defScope (top 28)) := ⟨rfl, rfl, rfl, by decide +kernel, rfl, by decide +kernel, by decide +kernel⟩
theorem ok_check_word (T : Txt K mg) : FnOk P w K mg base CX0 4 a_check_word (fdOf K a_check_word) ["letters", "word"] spWord := by
  refine T.f_check_word.ok sc_check_word (fun vs H Q E h => ?len) (fun cdv A outer s H vs Q E hr h => ?body)
  case body =>
    have nd := sc_check_word.nd
    refine ⟨_, PSs.nox (pss_cons (ps_if (pt_not (pt_val (pe_call (ok_is_whole T) (hr.mono (by decide)) rfl (T.g_is_whole) (T.k_is_whole) (T.b_is_whole) .nil pass0 (pa_cons (pv 1) (pa_cons (pe_n 0) (pa_cons (pe_call (ok_full_word T) (hr.mono (by decide)) rfl (T.g_full_word) (T.k_full_word) (T.b_full_word) .nil pass0 (pa_cons (pv 0) pa_nil)) pa_nil)))))) (pss_one ps_never) pss_nil)
      (pss_one (ps_ret (pv 1)))), ?_⟩
    obtain ⟨m, u, rfl, h1, h2, h3, q⟩ := h
    walk_at "rd"
    refine ⟨m, rfl, h1, h2, ?_⟩
    walk_at "rd"
    exact rd_whole (Nat.zero_le _) h3 (by walk_at "rd"; exact q)
  case len =>
    obtain ⟨m, u, rfl, _⟩ := h
    rfl
def spStepped : Sp := fun vs H Q _ => ∃ m u : Nat, vs = [nv m, nv u] ∧ 1 ≤ m ∧ m ≤ 5 ∧ u ≤ full m ∧ Q (nv (stepped m u)) H
theorem without_at : ∀ l, l < 5 → [V.int 1431655765, .int 858993459, .int 252645135, .int 16711935, .int 65535][l]? = some (nv (without l)) := by decide +revert
theorem stp_le {m u l : Nat} (h : u ≤ full m) : stp m u l ≤ full m := by
  have hf := full_eq m
  have e1 : u < 2 ^ 2 ^ m := by have := two_pos (2 ^ m); omega
  have e2 : (u &&& without l) <<< (1 <<< l) &&& full m < 2 ^ 2 ^ m := by
    have : (u &&& without l) <<< (1 <<< l) &&& full m ≤ full m := Nat.and_le_right
    have := two_pos (2 ^ m)
    omega
  have := Nat.xor_lt_two_pow e1 e2
  unfold stp
  omega
theorem atI_nat {xs : List V} {l : Nat} {v : V} (h : xs[l]? = some v) : atI xs (l : Int) = some v := by
  have hl := (List.getElem?_eq_some_iff.mp h).1
  unfold atI ixN
  rw [if_pos (by omega), if_pos (by omega)]
  simpa using h
theorem tupB_sqT {a : Addr} {ns : List Int} {H : Hp} (h : tupB a ns K = true) : SqT K H a (ns.map V.int) := by
  unfold tupB at h
  split at h
  · rename_i c dd its n sl e
    obtain ⟨h1, h2⟩ := He.ba h
    obtain ⟨h2, h3⟩ := He.ba h2
    have hc : c = "tuple" := of_decide_eq_true h1
    subst hc
    exact .inr ⟨_, its, n, e, rfl, rfl, of_decide_eq_true h2, He.relAll_ok h3⟩
  · cases h
theorem sc_stepped_word : FnScope ["letters", "word", "letter"] ["letters", "word"] (defScope (top 29)) := ⟨rfl, rfl, rfl, by decide +kernel, rfl, by decide +kernel, by decide +kernel⟩
theorem ok_stepped_word (T : Txt K mg) : FnOk P w K mg base CX0 4 a_stepped_word (fdOf K a_stepped_word) ["letters", "word"] spStepped := by
  refine T.f_stepped_word.ok sc_stepped_word (fun vs H Q E h => ?len) (fun cdv A outer s H vs Q E hr h => ?body)
  case body =>
    have nd := sc_stepped_word.nd
    refine ⟨_, PSs.nox (pss_cons (ps_for PassesOwn.never rfl (pi_range1 rfl (T.n_range) (pa_cons (pv 0) pa_nil)) (pg_name (i := 2) nd rfl (.inl rfl)) (pss_one (ps_set (i := 1) nd rfl (Or.inl rfl) (pe_op o_xor (pv 1) (pe_op o_and (pe_op o_shl (pe_op o_and (pv 1) (pe_ix ix_tup (pe_glob (v := .ref a_WITHOUT) rfl (T.g_WITHOUT) rfl) (pv 2) (fun _ _ => rfl))) (pe_op o_shl (pe_n 1) (pv 2))) (pe_call (ok_full_word T) (hr.mono (by decide)) rfl (T.g_full_word) (T.k_full_word) (T.b_full_word) .nil pass0 (pa_cons (pv 0) pa_nil)))))))
      (pss_one (ps_ret (pv 1)))), ?_⟩
    obtain ⟨m, u, rfl, h1, h2, h3, q⟩ := h
    walk_at "rd"
    refine for_rngJ (by omega) (fun i σ' H' => H' = H ∧ ∃ v b, σ' = [some (nv m), some (nv v), b] ∧ v ≤ full m ∧ v = (List.range i).foldl (stp m) u) ⟨rfl, u, _, rfl, h3, rfl⟩ (fun i σ' H' hi p => ?_) (fun σ' H' p => ?_)
    · obtain ⟨rfl, v, b, rfl, hv, e⟩ := p
      walk_at "rd"
      refine ⟨a_WITHOUT, _, (i : Int), nv (without i), rfl, rfl, tupB_sqT T.fact_WITHOUT, atI_nat (without_at i (by omega)), ?_⟩
      walk_at "rd"
      refine rd_n ⟨by omega, by omega⟩ ?_
      walk_at "rd"
      refine rd_n ⟨?_, ?_⟩ ?_
      · rw [shl1]
        have := pow32 (m := i) (by omega)
        omega
      · have h4 := full_eq m
        have h5 := full_lt h2
        have h6 : v &&& without i ≤ v := Nat.and_le_left
        omega
      walk_at "rd"
      refine ⟨m, rfl, h1, h2, ?_⟩
      walk_at "rd"
      refine ⟨rfl, _, _, rfl, stp_le hv, ?_⟩
      rw [List.range_succ, List.foldl_append, ← e]
      rfl
    · obtain ⟨rfl, v, b, rfl, hv, e⟩ := p
      walk_at "rd"
      subst e
      exact q
  case len =>
    obtain ⟨m, u, rfl, _⟩ := h
    rfl
end
end G
set_option maxHeartbeats 4000000
-- text D6
namespace G
open PySem PySem.Spec PyProof.Rows L2 M
section
variable {P : Program} {w : World} {K : PySem.W.Frag} {mg : Str → Option Value} {base : Heap}
/-- a new list of numbers -/
def NewL (H : Hp) (xs : List Nat) (Q : VK) : Prop := ∀ t H', Sm H H' → H' t = some (.lst (nvs xs)) → Q (.ref t) H'
theorem le32 {m : Nat} (h : m ≤ 5) : 1 <<< m ≤ 32 := by rw [shl1]; exact pow32 h
theorem line32 {n : Nat} (h : n ≤ 4096) : n ≤ sizeLine := by rw [sizeLine_eq]; omega
theorem tnum {n : Nat} {p q : Prop} (h0 : n = 0 → q) (h1 : n ≠ 0 → p) : if decide (n ≠ 0) = true then p else q := by
  by_cases z : n = 0
  · rw [decide_eq_false (by simpa using z)]; exact h0 z
  · rw [decide_eq_true z]; exact h1 z
theorem tdec {c : Prop} [Decidable c] {p q : Prop} (h0 : ¬ c → q) (h1 : c → p) : if decide c = true then p else q := by
  by_cases z : c
  · rw [decide_eq_true z]; exact h1 z
  · rw [decide_eq_false z]; exact h0 z
def spOnesOf : Sp := fun vs H Q _ => ∃ m u : Nat, vs = [nv m, nv u] ∧ m ≤ 5 ∧ NewT H (onesOf m u) Q
theorem sc_ones_of : FnScope ["letters", "number", "place"] ["letters", "number"] (defScope (top 30)) := ⟨rfl, rfl, rfl, by decide +kernel, rfl, by decide +kernel, by decide +kernel⟩
theorem ok_ones_of (T : Txt K mg) : FnOk P w K mg base CX0 1 a_ones_of (fdOf K a_ones_of) ["letters", "number"] spOnesOf := by
  refine T.f_ones_of.ok sc_ones_of (fun vs H Q E h => ?len) (fun cdv A outer s H vs Q E hr h => ?body)
  case body =>
    have nd := sc_ones_of.nd
    refine ⟨_, PSs.nox (pss_one (ps_ret (pe_callTy (call_tuple_of) (by rfl) (T.n_tuple) (by decide +kernel) (pa_cons (pe_lc (own := [("place", 2)]) rfl nd (pi_range1 rfl (T.n_range) (pa_cons (pe_op o_shl (pe_n 1) (pv 0)) pa_nil)) (blkOk_by (N := ["letters", "number", "place"]) (sc := defScope (top 30)) (by decide +kernel)) (fun _ _ _ _ _ => (pg_name (i := 2) nd rfl (.inl rfl))) (fun _ _ _ _ _ => (pts_one (pt_num (pe_op o_and (pe_op o_shr (pv 1) (pv 2)) (pe_n 1))))) (fun _ _ _ _ _ => (pv 2))) pa_nil)))), ?_⟩
    obtain ⟨m, u, rfl, h2, q⟩ := h
    walk_at "rd"
    refine rd_n ⟨by omega, by omega⟩ ?_
    walk_at "rd"
    refine lc_rngJ (n := 1 <<< m) (line32 (by have := le32 h2; omega)) (fun p => decide ((u >>> p &&& 1) ≠ 0)) nv (fun l hl H2 D2 s2 Nx g1 g2 => ?_) (fun H2 D2 s2 hD e => ?_)
    · walk_at "rd"
      refine tnum (fun z => ?_) fun z => ?_
      · exact g1 _ Sm.refl (decide_eq_false (by simpa using z))
      · walk_at "rd"
        exact g2 _ Sm.refl (decide_eq_true z)
    · walk_at "rd"
      refine rd_tupL e fun t ht => q t _ (s2.trans (Sm.new ht)) upd_same
  case len =>
    obtain ⟨m, u, rfl, _⟩ := h
    rfl
theorem pow_le_full {m g : Nat} (h : g < 2 ^ m) : 1 <<< g ≤ full m := by
  rw [shl1, full_eq]
  have : 2 ^ g < 2 ^ 2 ^ m := Nat.pow_lt_pow_right (by omega) h
  omega
theorem stepped_le {m u : Nat} (h : u ≤ full m) : stepped m u ≤ full m := by
  unfold stepped
  have : ∀ (l : List Nat) (v : Nat), v ≤ full m → l.foldl (stp m) v ≤ full m := by
    intro l
    induction l with
    | nil => intro v hv; exact hv
    | cons a l ih => intro v hv; exact ih _ (stp_le hv)
  exact this _ _ h
def spHeapWord : Sp := fun vs H Q _ => ∃ m g : Nat, vs = [nv m, nv g] ∧ 1 ≤ m ∧ m ≤ 5 ∧ g < 2 ^ m ∧ Q (nv (heapW m g)) H
theorem sc_heap_word : FnScope ["letters", "heap"] ["letters", "heap"] (defScope (top 31)) := ⟨rfl, rfl, rfl, by decide +kernel, rfl, by decide +kernel, by decide +kernel⟩
theorem ok_heap_word (T : Txt K mg) : FnOk P w K mg base CX0 5 a_heap_word (fdOf K a_heap_word) ["letters", "heap"] spHeapWord := by
  refine T.f_heap_word.ok sc_heap_word (fun vs H Q E h => ?len) (fun cdv A outer s H vs Q E hr h => ?body)
  case body =>
    have nd := sc_heap_word.nd
    refine ⟨_, PSs.nox (pss_one (ps_ret (pe_call (ok_stepped_word T) (hr.mono (by decide)) rfl (T.g_stepped_word) (T.k_stepped_word) (T.b_stepped_word) .nil pass0 (pa_cons (pv 0) (pa_cons (pe_op o_shl (pe_n 1) (pe_call (ok_check_heap T) (hr.mono (by decide)) rfl (T.g_check_heap) (T.k_check_heap) (T.b_check_heap) .nil pass0 (pa_cons (pv 0) (pa_cons (pv 1) pa_nil)))) pa_nil))))), ?_⟩
    obtain ⟨m, g, rfl, h1, h2, h3, q⟩ := h
    walk_at "rd"
    refine ⟨m, g, rfl, h1, h2, h3, ?_⟩
    walk_at "rd"
    refine rd_n ⟨by have := pow32 h2; omega, by omega⟩ ?_
    walk_at "rd"
    exact ⟨m, 1 <<< g, rfl, h1, h2, pow_le_full h3, q⟩
  case len =>
    obtain ⟨m, u, rfl, _⟩ := h
    rfl
def spHeapsOf : Sp := fun vs H Q _ => ∃ m u : Nat, vs = [nv m, nv u] ∧ 1 ≤ m ∧ m ≤ 5 ∧ u ≤ full m ∧ NewT H (heapsOf m u) Q
theorem sc_heaps_of : FnScope ["letters", "word"] ["letters", "word"] (defScope (top 32)) := ⟨rfl, rfl, rfl, by decide +kernel, rfl, by decide +kernel, by decide +kernel⟩
theorem ok_heaps_of (T : Txt K mg) : FnOk P w K mg base CX0 5 a_heaps_of (fdOf K a_heaps_of) ["letters", "word"] spHeapsOf := by
  refine T.f_heaps_of.ok sc_heaps_of (fun vs H Q E h => ?len) (fun cdv A outer s H vs Q E hr h => ?body)
  case body =>
    have nd := sc_heaps_of.nd
    refine ⟨_, PSs.nox (pss_one (ps_ret (pe_call (ok_ones_of T) (hr.mono (by decide)) rfl (T.g_ones_of) (T.k_ones_of) (T.b_ones_of) .nil pass0 (pa_cons (pv 0) (pa_cons (pe_call (ok_stepped_word T) (hr.mono (by decide)) rfl (T.g_stepped_word) (T.k_stepped_word) (T.b_stepped_word) .nil pass0 (pa_cons (pv 0) (pa_cons (pe_call (ok_check_word T) (hr.mono (by decide)) rfl (T.g_check_word) (T.k_check_word) (T.b_check_word) .nil pass0 (pa_cons (pv 0) (pa_cons (pv 1) pa_nil))) pa_nil))) pa_nil))))), ?_⟩
    obtain ⟨m, u, rfl, h1, h2, h3, q⟩ := h
    walk_at "rd"
    refine ⟨m, u, rfl, h1, h2, h3, ?_⟩
    walk_at "rd"
    refine ⟨m, u, rfl, h1, h2, h3, ?_⟩
    walk_at "rd"
    exact ⟨m, stepped m u, rfl, h2, q⟩
  case len =>
    obtain ⟨m, u, rfl, _⟩ := h
    rfl
def spPlacesOf : Sp := fun vs H Q _ => ∃ m u : Nat, vs = [nv m, nv u] ∧ 1 ≤ m ∧ m ≤ 5 ∧ u ≤ full m ∧ NewT H (onesOf m u) Q
theorem sc_places_of : FnScope ["letters", "word"] ["letters", "word"] (defScope (top 33)) := ⟨rfl, rfl, rfl, by decide +kernel, rfl, by decide +kernel, by decide +kernel⟩
theorem ok_places_of (T : Txt K mg) : FnOk P w K mg base CX0 5 a_places_of (fdOf K a_places_of) ["letters", "word"] spPlacesOf := by
  refine T.f_places_of.ok sc_places_of (fun vs H Q E h => ?len) (fun cdv A outer s H vs Q E hr h => ?body)
  case body =>
    have nd := sc_places_of.nd
    refine ⟨_, PSs.nox (pss_one (ps_ret (pe_call (ok_ones_of T) (hr.mono (by decide)) rfl (T.g_ones_of) (T.k_ones_of) (T.b_ones_of) .nil pass0 (pa_cons (pv 0) (pa_cons (pe_call (ok_check_word T) (hr.mono (by decide)) rfl (T.g_check_word) (T.k_check_word) (T.b_check_word) .nil pass0 (pa_cons (pv 0) (pa_cons (pv 1) pa_nil))) pa_nil))))), ?_⟩
    obtain ⟨m, u, rfl, h1, h2, h3, q⟩ := h
    walk_at "rd"
    refine ⟨m, u, rfl, h1, h2, h3, ?_⟩
    walk_at "rd"
    exact ⟨m, u, rfl, h2, q⟩
  case len =>
    obtain ⟨m, u, rfl, _⟩ := h
    rfl
def spMarked : Sp := fun vs H Q _ => ∃ (m : Nat) (l : Addr) (xs ys : List Nat), vs = [nv m, .ref l] ∧ 1 ≤ m ∧ m ≤ 5 ∧ (H l = some (.lst (nvs xs)) ∨ H l = some (.tup (nvs xs))) ∧ (∀ x ∈ xs, x < 2 ^ m) ∧ xs.length ≤ 1000 ∧ Asc ys ∧ (∀ y, y ∈ ys ↔ y ∈ xs) ∧
  ∀ H', Sm H H' → Q (nv (mark ys)) H'
theorem mem_nvs {xs : List Nat} {i : Nat} {x : V} (h : (nvs xs)[i]? = some x) : ∃ k, xs[i]? = some k ∧ x = nv k := by
  rw [List.getElem?_map] at h
  cases e : xs[i]? with
  | none => rw [e] at h; cases h
  | some k => rw [e] at h; cases h; exact ⟨k, rfl, rfl⟩
theorem take_at {α : Type} {xs : List α} {i : Nat} {k : α} (h : xs[i]? = some k) : xs.take (i + 1) = xs.take i ++ [k] := by rw [List.take_add_one, h]; rfl
theorem sc_marked_word : FnScope ["letters", "places", "word", "place"] ["letters", "places"] (defScope (top 34)) := ⟨rfl, rfl, rfl, by decide +kernel, rfl, by decide +kernel, by decide +kernel⟩
theorem ok_marked_word (T : Txt K mg) : FnOk P w K mg base CX0 4 a_marked_word (fdOf K a_marked_word) ["letters", "places"] spMarked := by
  refine T.f_marked_word.ok sc_marked_word (fun vs H Q E h => ?len) (fun cdv A outer s H vs Q E hr h => ?body)
  case body =>
    have nd := sc_marked_word.nd
    refine ⟨_, PSs.nox (pss_cons (ps_set (i := 2) nd rfl (Or.inl rfl) (pe_n 0))
      (pss_cons (ps_for PassesOwn.never rfl (pi_tup (pe_call (ok_check_places T) (hr.mono (by decide)) rfl (T.g_check_places) (T.k_check_places) (T.b_check_places) .nil pass0 (pa_cons (pv 0) (pa_cons (pv 1) pa_nil)))) (pg_name (i := 3) nd rfl (.inl rfl)) (pss_one (ps_set (i := 2) nd rfl (Or.inl rfl) (pe_op o_or (pv 2) (pe_op o_shl (pe_n 1) (pv 3))))))
      (pss_one (ps_ret (pv 2))))), ?_⟩
    obtain ⟨m, l, xs, ys, rfl, h1, h2, hl, hx, hn, hasc, hm, q⟩ := h
    walk_at "rd"
    refine ⟨m, l, xs, ys, rfl, h1, h2, hl, hx, hn, hasc, hm, fun t H2 s2 et => ?_⟩
    refine ⟨t, rfl, ⟨_, sqT_of et⟩, for_tup (fun i σ' H' => H' = H2 ∧ ∃ c, σ' = [some (nv m), some (.ref l), some (nv (mark (ys.take i))), c]) ⟨rfl, _, rfl⟩ (fun i σ' H' _ p => by rw [p.1]; exact sqT_of et) (fun i x σ' H' hxi p => ?_) (fun σ' H' p => ?_)⟩
    · obtain ⟨rfl, c, rfl⟩ := p
      obtain ⟨k, hk, rfl⟩ := mem_nvs hxi
      have hk2 : k < 2 ^ m := hx k ((hm k).mp (List.mem_of_getElem? hk))
      walk_at "rd"
      refine rd_n ⟨by have := pow32 h2; omega, by omega⟩ ?_
      walk_at "rd"
      refine ⟨rfl, some (nv k), ?_⟩
      rw [take_at hk]
      unfold mark
      rw [List.foldl_append]
      rfl
    · obtain ⟨rfl, c, rfl⟩ := p
      walk_at "rd"
      have e2 : ys.take (nvs ys).length = ys := by rw [List.length_map]; exact List.take_length
      rw [e2]
      exact q _ s2
  case len =>
    obtain ⟨m, l, xs, ys, rfl, _⟩ := h
    rfl
def spWeight : Sp := fun vs H Q _ => ∃ m u : Nat, vs = [nv m, nv u] ∧ 1 ≤ m ∧ m ≤ 5 ∧ u ≤ full m ∧ Q (nv (ones u)) H
theorem sc_weight_of : FnScope ["letters", "word"] ["letters", "word"] (defScope (top 35)) := ⟨rfl, rfl, rfl, by decide +kernel, rfl, by decide +kernel, by decide +kernel⟩
theorem ok_weight_of (T : Txt K mg) : FnOk P w K mg base CX0 5 a_weight_of (fdOf K a_weight_of) ["letters", "word"] spWeight := by
  refine T.f_weight_of.ok sc_weight_of (fun vs H Q E h => ?len) (fun cdv A outer s H vs Q E hr h => ?body)
  case body =>
    have nd := sc_weight_of.nd
    refine ⟨_, PSs.nox (pss_one (ps_ret (pe_call (ok_count_ones T) (hr.mono (by decide)) rfl (T.g_count_ones) (T.k_count_ones) (T.b_count_ones) .nil pass0 (pa_cons (pe_call (ok_check_word T) (hr.mono (by decide)) rfl (T.g_check_word) (T.k_check_word) (T.b_check_word) .nil pass0 (pa_cons (pv 0) (pa_cons (pv 1) pa_nil))) pa_nil)))), ?_⟩
    obtain ⟨m, u, rfl, h1, h2, h3, q⟩ := h
    walk_at "rd"
    refine ⟨m, u, rfl, h1, h2, h3, ?_⟩
    walk_at "rd"
    exact ⟨u, rfl, q⟩
  case len =>
    obtain ⟨m, u, rfl, _⟩ := h
    rfl
end
end G
set_option maxHeartbeats 4000000
-- text D7
namespace G
open PySem PySem.Spec PyProof.Rows L2 M
section
variable {P : Program} {w : World} {K : PySem.W.Frag} {mg : Str → Option Value} {base : Heap}
theorem room64 {k : Nat} {A : Around} (hr : Room k A) : A.units + 64 < cLine := by have := hr.un; omega
theorem sc_checked_letters : FnScope ["letters"] ["letters"] (defScope (top 38)) := ⟨rfl, rfl, rfl, by decide +kernel, rfl, by decide +kernel, by decide +kernel⟩
theorem ok_checked_letters (T : Txt K mg) : FnOk P w K mg base CX0 3 a_checked_letters (fdOf K a_checked_letters) ["letters"] spLetters := by
  refine T.f_checked_letters.ok sc_checked_letters (fun vs H Q E h => ?len) (fun cdv A outer s H vs Q E hr h => ?body)
  case body =>
    have nd := sc_checked_letters.nd
    refine ⟨_, PSs.nox (pss_one (ps_try_thru0 (pss_one (ps_ret (pe_call (ok_check_letters T) (hr.mono (by decide)) rfl (T.g_check_letters) (T.k_check_letters) (T.b_check_letters) .nil pass0 (pa_cons (pv 0) pa_nil)))))), ?_⟩
    obtain ⟨m, rfl, h1, h2, q⟩ := h
    walk_at "rd"
    exact ⟨m, rfl, h1, h2, q⟩
  case len =>
    obtain ⟨m, rfl, _⟩ := h
    rfl
theorem sc_checked_heaps : FnScope ["letters", "heaps", "e"] ["letters", "heaps"] (defScope (top 39)) := ⟨rfl, rfl, rfl, by decide +kernel, rfl, by decide +kernel, by decide +kernel⟩
theorem ok_checked_heaps (T : Txt K mg) : FnOk P w K mg base CX0 4 a_checked_heaps (fdOf K a_checked_heaps) ["letters", "heaps"] spHeaps := by
  refine T.f_checked_heaps.ok sc_checked_heaps (fun vs H Q E h => ?len) (fun cdv A outer s H vs Q E hr h => ?body)
  case body =>
    have nd := sc_checked_heaps.nd
    refine ⟨_, PSs.nox (pss_one (ps_try_thru0 (pss_one (ps_ret (pe_call (ok_check_heaps T) (hr.mono (by decide)) rfl (T.g_check_heaps) (T.k_check_heaps) (T.b_check_heaps) .nil pass0 (pa_cons (pv 0) (pa_cons (pv 1) pa_nil))))))), ?_⟩
    obtain ⟨m, l, xs, ys, rfl, h1, h2, hl, hx, hn, hasc, hm, q⟩ := h
    walk_at "rd"
    exact ⟨m, l, xs, ys, rfl, h1, h2, hl, hx, hn, hasc, hm, q⟩
  case len =>
    obtain ⟨m, l, xs, ys, rfl, _⟩ := h
    rfl
/-! ### a choice -/
structure ChAt (H : Hp) (c : Addr) (m : Nat) (hs : List Nat) : Prop where
  ch : Ch m hs
  at_ : ∃ dx t, H c = some (.ins c_Choice dx [("letters", nv m), ("heaps", .ref t)]) ∧ H t = some (.tup (nvs hs))
def spChoice : Sp := fun vs H Q _ => ∃ (x dx l : Addr) (m : Nat) (xs ys : List Nat), vs = [.ref x, nv m, .ref l] ∧ H x = some (.ins c_Choice dx []) ∧ 1 ≤ m ∧ m ≤ 5 ∧ (H l = some (.lst (nvs xs)) ∨ H l = some (.tup (nvs xs))) ∧ (∀ x ∈ xs, x < 2 ^ m) ∧ xs.length ≤ 1000 ∧ Asc ys ∧ (∀ y, y ∈ ys ↔ y ∈ xs) ∧
  ∀ t H', (∀ b o, b ≠ x → H b = some o → H' b = some o) → H' x = some (.ins c_Choice dx [("letters", nv m), ("heaps", .ref t)]) → H' t = some (.tup (nvs ys)) → Q .non H'
theorem sc_Choice : FnScope ["self", "letters", "heaps"] ["self", "letters", "heaps"] (defScope (inClass (top 40) 0)) := ⟨rfl, rfl, rfl, by decide +kernel, rfl, by decide +kernel, by decide +kernel⟩
theorem ok_Choice (T : Txt K mg) : FnOk P w K mg base CX0 5 i_Choice (fdOf K i_Choice) ["self", "letters", "heaps"] spChoice := by
  refine T.f_Choice.ok sc_Choice (fun vs H Q E h => ?len) (fun cdv A outer s H vs Q E hr h => ?body)
  case body =>
    have nd := sc_Choice.nd
    refine ⟨_, PSs.nox (pss_cons (ps_fld (pv 0) (pe_call (ok_checked_letters T) (hr.mono (by decide)) rfl (T.g_checked_letters) (T.k_checked_letters) (T.b_checked_letters) .nil pass0 (pa_cons (pv 1) pa_nil)) rfl)
      (pss_one (ps_fld (pv 0) (pe_call (ok_checked_heaps T) (hr.mono (by decide)) rfl (T.g_checked_heaps) (T.k_checked_heaps) (T.b_checked_heaps) .nil pass0 (pa_cons (pv 1) (pa_cons (pv 2) pa_nil))) rfl))), ?_⟩
    obtain ⟨x, dx, l, m, xs, ys, rfl, hx0, h1, h2, hl, hx, hn, hasc, hm, q⟩ := h
    walk_at "rd"
    refine ⟨m, rfl, h1, h2, ?_⟩
    walk_at "rd"
    refine ⟨x, c_Choice, dx, [], rfl, hx0, T.cl_Choice, T.no_Choice_letters, by decide, ?_⟩
    walk_at "rd"
    have nel : l ≠ x := fun z => by
      subst z
      rcases hl with e | e <;> (rw [hx0] at e; cases e)
    refine ⟨m, l, xs, ys, rfl, h1, h2, by rw [upd_ne nel]; exact hl, hx, hn, hasc, hm, fun t H' s1 et => ?_⟩
    walk_at "rd"
    have e1 := s1 _ _ (upd_same (H := H) (a := x))
    refine ⟨x, c_Choice, dx, _, rfl, e1, T.cl_Choice, T.no_Choice_heaps, (by show (1 : Nat) < 1000; decide), ?_⟩
    walk_at "rd"
    have net : t ≠ x := fun z => by
      subst z
      rw [e1] at et; cases et
    refine q t _ (fun b o hb e => ?_) upd_same (by rw [upd_ne net]; exact et)
    rw [upd_ne hb]
    exact s1 _ _ (by rw [upd_ne hb]; exact e)
  case len =>
    obtain ⟨x, dx, l, m, xs, ys, rfl, _⟩ := h
    rfl
theorem ChAt.mono {H H' : Hp} {c : Addr} {m : Nat} {hs : List Nat} (h : ChAt H c m hs) (s : Sm H H') : ChAt H' c m hs := by
  obtain ⟨c1, dx, t, e1, e2⟩ := h
  exact ⟨c1, dx, t, s _ _ e1, s _ _ e2⟩
def spSize : Sp := fun vs H Q _ => ∃ (c : Addr) (m : Nat) (hs : List Nat), vs = [.ref c] ∧ ChAt H c m hs ∧ Q (nv hs.length) H
theorem sc_size : FnScope ["self"] ["self"] (defScope (inClass (top 40) 1)) := ⟨rfl, rfl, rfl, by decide +kernel, rfl, by decide +kernel, by decide +kernel⟩
theorem ok_size (T : Txt K mg) : FnOk P w K mg base CX0 1 g_size (fdOf K g_size) ["self"] spSize := by
  refine T.f_size.ok sc_size (fun vs H Q E h => ?len) (fun cdv A outer s H vs Q E hr h => ?body)
  case body =>
    have nd := sc_size.nd
    refine ⟨_, PSs.nox (pss_one (ps_ret (pe_callB (call_len) (by rfl) (T.n_len) (by decide +kernel) (pa_cons (pe_fld (pv 0) rfl) pa_nil)))), ?_⟩
    obtain ⟨c, m, hs, rfl, hc, q⟩ := h
    obtain ⟨_, dx, t, e1, e2⟩ := hc
    walk_at "rd"
    refine ⟨c, _, dx, _, _, rfl, e1, T.cl_Choice, T.no_Choice_heaps, rfl, ?_⟩
    walk_at "rd"
    exact ⟨_, _, rfl, .inr ⟨_, sqT_of e2, rfl⟩, by simpa using q⟩
  case len =>
    obtain ⟨c, m, hs, rfl, _⟩ := h
    rfl
theorem foldl_max_cast : ∀ (l : List Nat) (a : Nat), (l.map fun n : Nat => (n : Int)).foldl max (a : Int) = ((l.foldl max a : Nat) : Int) := by
  intro l
  induction l with
  | nil => intro a; rfl
  | cons b l ih =>
    intro a
    rw [List.map_cons, List.foldl_cons, List.foldl_cons, ← ih]
    congr 1
    omega
def spTop : Sp := fun vs H Q _ => ∃ (c : Addr) (m : Nat) (hs : List Nat), vs = [.ref c] ∧ ChAt H c m hs ∧ hs ≠ [] ∧ hs.length ≤ 1000 ∧ ∀ H', Sm H H' → Q (nv (tops hs)) H'
theorem sc_top_size : FnScope ["self", "heap"] ["self"] (defScope (inClass (top 40) 2)) := ⟨rfl, rfl, rfl, by decide +kernel, rfl, by decide +kernel, by decide +kernel⟩
theorem ok_top_size (T : Txt K mg) : FnOk P w K mg base CX0 2 g_top_size (fdOf K g_top_size) ["self"] spTop := by
  refine T.f_top_size.ok sc_top_size (fun vs H Q E h => ?len) (fun cdv A outer s H vs Q E hr h => ?body)
  case body =>
    have nd := sc_top_size.nd
    refine ⟨_, PSs.nox (pss_one (ps_ret (pe_callBK (GX.cr_maxDflt rfl (room64 hr)) (by rfl) (T.n_max) (by decide +kernel) (pa_cons (pe_lc (own := [("heap", 1)]) rfl nd (pi_tup (pe_fld (pv 0) rfl)) (blkOk_by (N := ["self", "heap"]) (sc := defScope (inClass (top 40) 2)) (by decide +kernel)) (fun _ _ _ _ _ => (pg_name (i := 1) nd rfl (.inl rfl))) (fun _ _ _ _ _ => pts_nil) (fun _ _ _ _ _ => (pe_call (ok_count_ones T) (hr.mono (by decide)) rfl (T.g_count_ones) (T.k_count_ones) (T.b_count_ones) .nil pass0 (pa_cons (pv 1) pa_nil)))) pa_nil) (pk_cons (pe_un un_neg (pe_n 1)) pk_nil)))), ?_⟩
    obtain ⟨c, m, hs, rfl, hc, hne, hlen, q⟩ := h
    obtain ⟨_, dx, t, e1, e2⟩ := hc
    walk_at "rd"
    refine ⟨c, _, dx, _, _, rfl, e1, T.cl_Choice, T.no_Choice_heaps, rfl, ?_⟩
    refine lc_tupJ (sqT_of e2) (line32 (by omega)) (fun _ => true) (fun g => nv (ones g)) (fun g hg H2 D2 s2 Nx g1 g2 => ?_) (fun H2 D2 s2 hD e => ?_)
    · walk_at "rd"
      refine ⟨g, rfl, ?_⟩
      exact g2 _ Sm.refl rfl
    · walk_at "rd"
      have e3 : (hs.filter fun _ => true).map (fun g => nv (ones g)) = ((hs.map ones).map fun n : Nat => (n : Int)).map V.int := by
        rw [List.filter_eq_self.mpr (fun _ _ => rfl), List.map_map, List.map_map]; rfl
      rw [e3] at e
      refine ⟨D2, _, _, rfl, rfl, sqL_of e, by simpa using hne, ?_⟩
      cases hs with
      | nil => exact absurd rfl hne
      | cons a r =>
        have z := q H2 s2
        show Q (.int (((r.map ones).map fun n : Nat => (n : Int)).foldl max ((ones a : Nat) : Int))) H2
        rw [foldl_max_cast]
        have : tops (a :: r) = (r.map ones).foldl max (ones a) := by
          show (r.map ones).foldl max (max 0 (ones a)) = _
          rw [Nat.zero_max]
        rw [← this]
        exact z
  case len =>
    obtain ⟨c, m, hs, rfl, _⟩ := h
    rfl
end
end G
set_option maxHeartbeats 4000000
-- text D8
namespace G
open PySem PySem.Spec PyProof.Rows L2 M
section
variable {P : Program} {w : World} {K : PySem.W.Frag} {mg : Str → Option Value} {base : Heap}
/-! ### records -/
def spRec (C : Addr) (fs : List Str) : Sp := fun vs H Q _ => ∃ (x dx : Addr) (args : List V), vs = .ref x :: args ∧ args.length = fs.length ∧ H x = some (.ins C dx []) ∧ Q .non (upd H x (.ins C dx (fs.zip args)))
theorem sc_Voted : FnScope ["self", "heap", "votes", "bit", "rest"] ["self", "heap", "votes", "bit", "rest"] (defScope (inClass (top 50) 0)) := ⟨rfl, rfl, rfl, by decide +kernel, rfl, by decide +kernel, by decide +kernel⟩
theorem ok_Voted (T : Txt K mg) : FnOk P w K mg base CX0 1 i_Voted (fdOf K i_Voted) ["self", "heap", "votes", "bit", "rest"] (spRec c_Voted ["heap", "votes", "bit", "rest"]) := by
  refine T.f_Voted.ok sc_Voted (fun vs H Q E h => ?len) (fun cdv A outer s H vs Q E hr h => ?body)
  case body =>
    have nd := sc_Voted.nd
    refine ⟨_, PSs.nox (pss_cons (ps_fld (pv 0) (pv 1) rfl)
      (pss_cons (ps_fld (pv 0) (pv 2) rfl)
      (pss_cons (ps_fld (pv 0) (pv 3) rfl)
      (pss_one (ps_fld (pv 0) (pv 4) rfl))))), ?_⟩
    obtain ⟨x, dx, args, rfl, hl, hx0, q⟩ := h
    obtain ⟨a0, a1, a2, a3, rfl⟩ : ∃ a0 a1 a2 a3, args = [a0, a1, a2, a3] := by
      match args, hl with
      | [a0, a1, a2, a3], _ => exact ⟨a0, a1, a2, a3, rfl⟩
    walk_at "rd"
    refine ⟨x, c_Voted, dx, _, rfl, hx0, T.cl_Voted, T.no_Voted_heap, (by show (0 : Nat) < 1000; decide), ?_⟩
    walk_at "rd"
    refine ⟨x, c_Voted, dx, _, rfl, upd_same, T.cl_Voted, T.no_Voted_votes, (by show (1 : Nat) < 1000; decide), ?_⟩
    walk_at "rd"
    refine ⟨x, c_Voted, dx, _, rfl, upd_same, T.cl_Voted, T.no_Voted_bit, (by show (2 : Nat) < 1000; decide), ?_⟩
    walk_at "rd"
    refine ⟨x, c_Voted, dx, _, rfl, upd_same, T.cl_Voted, T.no_Voted_rest, (by show (3 : Nat) < 1000; decide), ?_⟩
    walk_at "rd"
    simp only [upd_upd]
    exact q
  case len =>
    obtain ⟨x, dx, args, rfl, hl, _⟩ := h
    rw [List.length_cons, hl]; rfl
theorem sc_Read : FnScope ["self", "word", "wrong", "against"] ["self", "word", "wrong", "against"] (defScope (inClass (top 51) 0)) := ⟨rfl, rfl, rfl, by decide +kernel, rfl, by decide +kernel, by decide +kernel⟩
theorem ok_Read (T : Txt K mg) : FnOk P w K mg base CX0 1 i_Read (fdOf K i_Read) ["self", "word", "wrong", "against"] (spRec c_Read ["word", "wrong", "against"]) := by
  refine T.f_Read.ok sc_Read (fun vs H Q E h => ?len) (fun cdv A outer s H vs Q E hr h => ?body)
  case body =>
    have nd := sc_Read.nd
    refine ⟨_, PSs.nox (pss_cons (ps_fld (pv 0) (pv 1) rfl)
      (pss_cons (ps_fld (pv 0) (pv 2) rfl)
      (pss_one (ps_fld (pv 0) (pv 3) rfl)))), ?_⟩
    obtain ⟨x, dx, args, rfl, hl, hx0, q⟩ := h
    obtain ⟨a0, a1, a2, rfl⟩ : ∃ a0 a1 a2, args = [a0, a1, a2] := by
      match args, hl with
      | [a0, a1, a2], _ => exact ⟨a0, a1, a2, rfl⟩
    walk_at "rd"
    refine ⟨x, c_Read, dx, _, rfl, hx0, T.cl_Read, T.no_Read_word, (by show (0 : Nat) < 1000; decide), ?_⟩
    walk_at "rd"
    refine ⟨x, c_Read, dx, _, rfl, upd_same, T.cl_Read, T.no_Read_wrong, (by show (1 : Nat) < 1000; decide), ?_⟩
    walk_at "rd"
    refine ⟨x, c_Read, dx, _, rfl, upd_same, T.cl_Read, T.no_Read_against, (by show (2 : Nat) < 1000; decide), ?_⟩
    walk_at "rd"
    simp only [upd_upd]
    exact q
  case len =>
    obtain ⟨x, dx, args, rfl, hl, _⟩ := h
    rw [List.length_cons, hl]; rfl
theorem sc_Far : FnScope ["self", "word", "wrong", "against"] ["self", "word", "wrong", "against"] (defScope (inClass (top 52) 0)) := ⟨rfl, rfl, rfl, by decide +kernel, rfl, by decide +kernel, by decide +kernel⟩
theorem ok_Far (T : Txt K mg) : FnOk P w K mg base CX0 1 i_Far (fdOf K i_Far) ["self", "word", "wrong", "against"] (spRec c_Far ["word", "wrong", "against"]) := by
  refine T.f_Far.ok sc_Far (fun vs H Q E h => ?len) (fun cdv A outer s H vs Q E hr h => ?body)
  case body =>
    have nd := sc_Far.nd
    refine ⟨_, PSs.nox (pss_cons (ps_fld (pv 0) (pv 1) rfl)
      (pss_cons (ps_fld (pv 0) (pv 2) rfl)
      (pss_one (ps_fld (pv 0) (pv 3) rfl)))), ?_⟩
    obtain ⟨x, dx, args, rfl, hl, hx0, q⟩ := h
    obtain ⟨a0, a1, a2, rfl⟩ : ∃ a0 a1 a2, args = [a0, a1, a2] := by
      match args, hl with
      | [a0, a1, a2], _ => exact ⟨a0, a1, a2, rfl⟩
    walk_at "rd"
    refine ⟨x, c_Far, dx, _, rfl, hx0, T.cl_Far, T.no_Far_word, (by show (0 : Nat) < 1000; decide), ?_⟩
    walk_at "rd"
    refine ⟨x, c_Far, dx, _, rfl, upd_same, T.cl_Far, T.no_Far_wrong, (by show (1 : Nat) < 1000; decide), ?_⟩
    walk_at "rd"
    refine ⟨x, c_Far, dx, _, rfl, upd_same, T.cl_Far, T.no_Far_against, (by show (2 : Nat) < 1000; decide), ?_⟩
    walk_at "rd"
    simp only [upd_upd]
    exact q
  case len =>
    obtain ⟨x, dx, args, rfl, hl, _⟩ := h
    rw [List.length_cons, hl]; rfl
theorem sc_Tie : FnScope ["self", "heap"] ["self", "heap"] (defScope (inClass (top 53) 0)) := ⟨rfl, rfl, rfl, by decide +kernel, rfl, by decide +kernel, by decide +kernel⟩
theorem ok_Tie (T : Txt K mg) : FnOk P w K mg base CX0 1 i_Tie (fdOf K i_Tie) ["self", "heap"] (spRec c_Tie ["heap"]) := by
  refine T.f_Tie.ok sc_Tie (fun vs H Q E h => ?len) (fun cdv A outer s H vs Q E hr h => ?body)
  case body =>
    have nd := sc_Tie.nd
    refine ⟨_, PSs.nox (pss_one (ps_fld (pv 0) (pv 1) rfl)), ?_⟩
    obtain ⟨x, dx, args, rfl, hl, hx0, q⟩ := h
    obtain ⟨a0, rfl⟩ : ∃ a0, args = [a0] := by
      match args, hl with
      | [a0], _ => exact ⟨a0, rfl⟩
    walk_at "rd"
    refine ⟨x, c_Tie, dx, _, rfl, hx0, T.cl_Tie, T.no_Tie_heap, (by show (0 : Nat) < 1000; decide), ?_⟩
    walk_at "rd"
    simp only [upd_upd]
    exact q
  case len =>
    obtain ⟨x, dx, args, rfl, hl, _⟩ := h
    rw [List.length_cons, hl]; rfl
theorem sc_Outvoted : FnScope ["self", "heap", "spoilt"] ["self", "heap", "spoilt"] (defScope (inClass (top 54) 0)) := ⟨rfl, rfl, rfl, by decide +kernel, rfl, by decide +kernel, by decide +kernel⟩
theorem ok_Outvoted (T : Txt K mg) : FnOk P w K mg base CX0 1 i_Outvoted (fdOf K i_Outvoted) ["self", "heap", "spoilt"] (spRec c_Outvoted ["heap", "spoilt"]) := by
  refine T.f_Outvoted.ok sc_Outvoted (fun vs H Q E h => ?len) (fun cdv A outer s H vs Q E hr h => ?body)
  case body =>
    have nd := sc_Outvoted.nd
    refine ⟨_, PSs.nox (pss_cons (ps_fld (pv 0) (pv 1) rfl)
      (pss_one (ps_fld (pv 0) (pv 2) rfl))), ?_⟩
    obtain ⟨x, dx, args, rfl, hl, hx0, q⟩ := h
    obtain ⟨a0, a1, rfl⟩ : ∃ a0 a1, args = [a0, a1] := by
      match args, hl with
      | [a0, a1], _ => exact ⟨a0, a1, rfl⟩
    walk_at "rd"
    refine ⟨x, c_Outvoted, dx, _, rfl, hx0, T.cl_Outvoted, T.no_Outvoted_heap, (by show (0 : Nat) < 1000; decide), ?_⟩
    walk_at "rd"
    refine ⟨x, c_Outvoted, dx, _, rfl, upd_same, T.cl_Outvoted, T.no_Outvoted_spoilt, (by show (1 : Nat) < 1000; decide), ?_⟩
    walk_at "rd"
    simp only [upd_upd]
    exact q
  case len =>
    obtain ⟨x, dx, args, rfl, hl, _⟩ := h
    rw [List.length_cons, hl]; rfl
theorem sc_Nearest : FnScope ["self", "distance", "words"] ["self", "distance", "words"] (defScope (inClass (top 55) 0)) := ⟨rfl, rfl, rfl, by decide +kernel, rfl, by decide +kernel, by decide +kernel⟩
theorem ok_Nearest (T : Txt K mg) : FnOk P w K mg base CX0 1 i_Nearest (fdOf K i_Nearest) ["self", "distance", "words"] (spRec c_Nearest ["distance", "words"]) := by
  refine T.f_Nearest.ok sc_Nearest (fun vs H Q E h => ?len) (fun cdv A outer s H vs Q E hr h => ?body)
  case body =>
    have nd := sc_Nearest.nd
    refine ⟨_, PSs.nox (pss_cons (ps_fld (pv 0) (pv 1) rfl)
      (pss_one (ps_fld (pv 0) (pv 2) rfl))), ?_⟩
    obtain ⟨x, dx, args, rfl, hl, hx0, q⟩ := h
    obtain ⟨a0, a1, rfl⟩ : ∃ a0 a1, args = [a0, a1] := by
      match args, hl with
      | [a0, a1], _ => exact ⟨a0, a1, rfl⟩
    walk_at "rd"
    refine ⟨x, c_Nearest, dx, _, rfl, hx0, T.cl_Nearest, T.no_Nearest_distance, (by show (0 : Nat) < 1000; decide), ?_⟩
    walk_at "rd"
    refine ⟨x, c_Nearest, dx, _, rfl, upd_same, T.cl_Nearest, T.no_Nearest_words, (by show (1 : Nat) < 1000; decide), ?_⟩
    walk_at "rd"
    simp only [upd_upd]
    exact q
  case len =>
    obtain ⟨x, dx, args, rfl, hl, _⟩ := h
    rw [List.length_cons, hl]; rfl
theorem sc_TwoNear : FnScope ["self", "word", "lost", "one", "other"] ["self", "word", "lost", "one", "other"] (defScope (inClass (top 56) 0)) := ⟨rfl, rfl, rfl, by decide +kernel, rfl, by decide +kernel, by decide +kernel⟩
theorem ok_TwoNear (T : Txt K mg) : FnOk P w K mg base CX0 1 i_TwoNear (fdOf K i_TwoNear) ["self", "word", "lost", "one", "other"] (spRec c_TwoNear ["word", "lost", "one", "other"]) := by
  refine T.f_TwoNear.ok sc_TwoNear (fun vs H Q E h => ?len) (fun cdv A outer s H vs Q E hr h => ?body)
  case body =>
    have nd := sc_TwoNear.nd
    refine ⟨_, PSs.nox (pss_cons (ps_fld (pv 0) (pv 1) rfl)
      (pss_cons (ps_fld (pv 0) (pv 2) rfl)
      (pss_cons (ps_fld (pv 0) (pv 3) rfl)
      (pss_one (ps_fld (pv 0) (pv 4) rfl))))), ?_⟩
    obtain ⟨x, dx, args, rfl, hl, hx0, q⟩ := h
    obtain ⟨a0, a1, a2, a3, rfl⟩ : ∃ a0 a1 a2 a3, args = [a0, a1, a2, a3] := by
      match args, hl with
      | [a0, a1, a2, a3], _ => exact ⟨a0, a1, a2, a3, rfl⟩
    walk_at "rd"
    refine ⟨x, c_TwoNear, dx, _, rfl, hx0, T.cl_TwoNear, T.no_TwoNear_word, (by show (0 : Nat) < 1000; decide), ?_⟩
    walk_at "rd"
    refine ⟨x, c_TwoNear, dx, _, rfl, upd_same, T.cl_TwoNear, T.no_TwoNear_lost, (by show (1 : Nat) < 1000; decide), ?_⟩
    walk_at "rd"
    refine ⟨x, c_TwoNear, dx, _, rfl, upd_same, T.cl_TwoNear, T.no_TwoNear_one, (by show (2 : Nat) < 1000; decide), ?_⟩
    walk_at "rd"
    refine ⟨x, c_TwoNear, dx, _, rfl, upd_same, T.cl_TwoNear, T.no_TwoNear_other, (by show (3 : Nat) < 1000; decide), ?_⟩
    walk_at "rd"
    simp only [upd_upd]
    exact q
  case len =>
    obtain ⟨x, dx, args, rfl, hl, _⟩ := h
    rw [List.length_cons, hl]; rfl
theorem sc_Lossy : FnScope ["self", "word", "wrong", "sure"] ["self", "word", "wrong", "sure"] (defScope (inClass (top 89) 0)) := ⟨rfl, rfl, rfl, by decide +kernel, rfl, by decide +kernel, by decide +kernel⟩
theorem ok_Lossy (T : Txt K mg) : FnOk P w K mg base CX0 1 i_Lossy (fdOf K i_Lossy) ["self", "word", "wrong", "sure"] (spRec c_Lossy ["word", "wrong", "sure"]) := by
  refine T.f_Lossy.ok sc_Lossy (fun vs H Q E h => ?len) (fun cdv A outer s H vs Q E hr h => ?body)
  case body =>
    have nd := sc_Lossy.nd
    refine ⟨_, PSs.nox (pss_cons (ps_fld (pv 0) (pv 1) rfl)
      (pss_cons (ps_fld (pv 0) (pv 2) rfl)
      (pss_one (ps_fld (pv 0) (pv 3) rfl)))), ?_⟩
    obtain ⟨x, dx, args, rfl, hl, hx0, q⟩ := h
    obtain ⟨a0, a1, a2, rfl⟩ : ∃ a0 a1 a2, args = [a0, a1, a2] := by
      match args, hl with
      | [a0, a1, a2], _ => exact ⟨a0, a1, a2, rfl⟩
    walk_at "rd"
    refine ⟨x, c_Lossy, dx, _, rfl, hx0, T.cl_Lossy, T.no_Lossy_word, (by show (0 : Nat) < 1000; decide), ?_⟩
    walk_at "rd"
    refine ⟨x, c_Lossy, dx, _, rfl, upd_same, T.cl_Lossy, T.no_Lossy_wrong, (by show (1 : Nat) < 1000; decide), ?_⟩
    walk_at "rd"
    refine ⟨x, c_Lossy, dx, _, rfl, upd_same, T.cl_Lossy, T.no_Lossy_sure, (by show (2 : Nat) < 1000; decide), ?_⟩
    walk_at "rd"
    simp only [upd_upd]
    exact q
  case len =>
    obtain ⟨x, dx, args, rfl, hl, _⟩ := h
    rw [List.length_cons, hl]; rfl
end
end G
set_option maxHeartbeats 4000000
-- text D9
namespace G
open PySem PySem.Spec PyProof.Rows L2 M
section
variable {P : Program} {w : World} {K : PySem.W.Frag} {mg : Str → Option Value} {base : Heap}
def spSome : Sp := fun vs H Q _ => ∃ (c : Addr) (m : Nat) (hs : List Nat), vs = [.ref c] ∧ ChAt H c m hs ∧ hs ≠ [] ∧ Q (.ref c) H
theorem len_ne {hs : List Nat} (h : hs ≠ []) : ¬ (hs.length = 0) := fun z => h (List.length_eq_zero_iff.mp z)
/-- a choice's letters -/
theorem rd_letters {H : Hp} {q : V → Prop} {c : Addr} {m : Nat} {hs : List Nat} (T : Txt K mg) (hc : ChAt H c m hs) (h : q (nv m)) : ∃ a C dx fs v, V.ref c = .ref a ∧ H a = some (.ins C dx fs) ∧ Cls K C ∧ NoAttr K C "letters" ∧ fs.lookup ("letters" : Str) = some v ∧ q v := by
  obtain ⟨_, dx, t, e1, e2⟩ := hc
  exact ⟨c, _, dx, _, _, rfl, e1, T.cl_Choice, T.no_Choice_letters, rfl, h⟩
theorem rd_heaps {H : Hp} {q : V → Prop} {c : Addr} {m : Nat} {hs : List Nat} (T : Txt K mg) (hc : ChAt H c m hs) (h : ∀ t, H t = some (.tup (nvs hs)) → q (.ref t)) : ∃ a C dx fs v, V.ref c = .ref a ∧ H a = some (.ins C dx fs) ∧ Cls K C ∧ NoAttr K C "heaps" ∧ fs.lookup ("heaps" : Str) = some v ∧ q v := by
  obtain ⟨_, dx, t, e1, e2⟩ := hc
  exact ⟨c, _, dx, _, _, rfl, e1, T.cl_Choice, T.no_Choice_heaps, rfl, h t e2⟩
theorem rd_size {H : Hp} {Q : VK} {E : XK} {c : Addr} {m : Nat} {hs : List Nat} (hc : ChAt H c m hs) (q : Q (nv hs.length) H) : ∃ a dx fs, V.ref c = .ref a ∧ H a = some (.ins c_Choice dx fs) ∧ spSize [.ref a] H Q E := by
  obtain ⟨_, dx, t, e1, e2⟩ := id hc
  exact ⟨c, dx, _, rfl, e1, c, m, hs, rfl, hc, q⟩
theorem rd_topS {H : Hp} {Q : VK} {E : XK} {c : Addr} {m : Nat} {hs : List Nat} (hc : ChAt H c m hs) (hne : hs ≠ []) (hl : hs.length ≤ 1000) (q : ∀ H', Sm H H' → Q (nv (tops hs)) H') : ∃ a dx fs, V.ref c = .ref a ∧ H a = some (.ins c_Choice dx fs) ∧ spTop [.ref a] H Q E := by
  obtain ⟨_, dx, t, e1, e2⟩ := id hc
  exact ⟨c, dx, _, rfl, e1, c, m, hs, rfl, hc, hne, hl, q⟩
theorem ChAt.len {H : Hp} {c : Addr} {m : Nat} {hs : List Nat} (hc : ChAt H c m hs) : hs.length ≤ 32 := by
  have h1 := hc.ch.asc
  have h2 := hc.ch.lt
  have h3 := pow32 hc.ch.m5
  have := asc_len hs 0 (2 ^ m) h1 fun x hx => ⟨Nat.zero_le _, h2 x hx⟩
  omega
theorem sc_check_some : FnScope ["choice"] ["choice"] (defScope (top 41)) := ⟨rfl, rfl, rfl, by decide +kernel, rfl, by decide +kernel, by decide +kernel⟩
theorem ok_check_some (T : Txt K mg) : FnOk P w K mg base CX0 4 a_check_some (fdOf K a_check_some) ["choice"] spSome := by
  refine T.f_check_some.ok sc_check_some (fun vs H Q E h => ?len) (fun cdv A outer s H vs Q E hr h => ?body)
  case body =>
    have nd := sc_check_some.nd
    refine ⟨_, PSs.nox (pss_cons (ps_if (pt_cmpR o_eq (pe_prop (pv 0) T.cl_Choice (T.pro_size) (ok_size T) (hr.mono (by decide)) (T.b_size) .nil pass0 (by rfl)) (pe_n 0) (nomark _)) (pss_one ps_never) pss_nil)
      (pss_one (ps_ret (pv 0)))), ?_⟩
    obtain ⟨c, m, hs, rfl, hc, hne, q⟩ := h
    walk_at "rd"
    refine rd_size hc ?_
    walk_at "rd"
    rw [decide_eq_false (len_ne hne)]
    walk_at "rd"
    exact q
  case len =>
    obtain ⟨c, m, hs, rfl, _⟩ := h
    rfl
def holdsB (m : Nat) (hs : List Nat) (u : Nat) : Bool := (heapsOf m u).all fun g => decide (g ∈ hs)
/-- x in xs, numbers -/
theorem inV_nv {g : Nat} {hs : List Nat} : inV (nv g) (nvs hs) = decide (g ∈ hs) := by
  unfold inV
  induction hs with
  | nil => rfl
  | cons a r ih =>
    show (eqV (nv a) (nv g) || (nvs r).any fun y => eqV y (nv g)) = _
    rw [ih]
    have : eqV (nv a) (nv g) = decide (g = a) := by
      show ((a : Int) == (g : Int)) = _
      by_cases z : g = a
      · subst z; simp
      · have z2 : ¬ ((a : Int) = (g : Int)) := by omega
        rw [decide_eq_false z]
        simpa using z2
    rw [this]
    by_cases z : g = a <;> simp [z]
theorem flat_nvs (hs : List Nat) : (nvs hs).all flatV = true := by
  rw [List.all_map]; exact List.all_eq_true.mpr fun _ _ => rfl
theorem rd_in {H : Hp} {Q : VK} {p : Addr} {hs : List Nat} {g : Nat} {b : Bool} (h : SqL K H p (nvs hs) ∨ SqT K H p (nvs hs)) (q : Q (.bl (if b = true then !decide (g ∈ hs) else decide (g ∈ hs))) H) : rIn K b (nv g) (.ref p) H Q := ⟨p, _, rfl, h, rfl, flat_nvs hs, by rw [inV_nv]; exact q⟩
theorem rd_notin {H : Hp} {Q : VK} {p : Addr} {hs : List Nat} {g : Nat} (h : SqL K H p (nvs hs) ∨ SqT K H p (nvs hs)) (q : Q (.bl (!decide (g ∈ hs))) H) : rIn K true (nv g) (.ref p) H Q := rd_in h q
theorem rd_isin {H : Hp} {Q : VK} {p : Addr} {hs : List Nat} {g : Nat} (h : SqL K H p (nvs hs) ∨ SqT K H p (nvs hs)) (q : Q (.bl (decide (g ∈ hs))) H) : rIn K false (nv g) (.ref p) H Q := rd_in h q
theorem tndec {c : Prop} [Decidable c] {p q : Prop} (h0 : c → q) (h1 : ¬ c → p) : if (!decide c) = true then p else q := by
  by_cases z : c
  · rw [decide_eq_true z]; exact h0 z
  · rw [decide_eq_false z]; exact h1 z
theorem nvs_map {α : Type} (f : α → Nat) (l : List α) : nvs (l.map f) = l.map fun x => nv (f x) := by
  show (l.map f).map nv = _
  rw [List.map_map]; rfl
end
end G
set_option maxHeartbeats 4000000
-- text D10
namespace G
open PySem PySem.Spec PyProof.Rows L2 M
section
variable {P : Program} {w : World} {K : PySem.W.Frag} {mg : Str → Option Value} {base : Heap}
def firstOut (hs gs : List Nat) : V := match gs.find? fun g => !decide (g ∈ hs) with
  | some g => nv g
  | none => .non
def spStrange : Sp := fun vs H Q _ => ∃ (c : Addr) (m : Nat) (hs : List Nat) (u : Nat), vs = [.ref c, nv u] ∧ ChAt H c m hs ∧ u ≤ full m ∧ ∀ H', Sm H H' → Q (firstOut hs (heapsOf m u)) H'
theorem sc_strange_heap : FnScope ["choice", "word", "heap"] ["choice", "word"] (defScope (top 42)) := ⟨rfl, rfl, rfl, by decide +kernel, rfl, by decide +kernel, by decide +kernel⟩
theorem ok_strange_heap (T : Txt K mg) : FnOk P w K mg base CX0 6 a_strange_heap (fdOf K a_strange_heap) ["choice", "word"] spStrange := by
  refine T.f_strange_heap.ok sc_strange_heap (fun vs H Q E h => ?len) (fun cdv A outer s H vs Q E hr h => ?body)
  case body =>
    have nd := sc_strange_heap.nd
    refine ⟨_, PSs.nox (pss_cons (ps_for PassesOwn.never rfl (pi_tup (pe_call (ok_heaps_of T) (hr.mono (by decide)) rfl (T.g_heaps_of) (T.k_heaps_of) (T.b_heaps_of) .nil pass0 (pa_cons (pe_fld (pv 0) rfl) (pa_cons (pv 1) pa_nil)))) (pg_name (i := 2) nd rfl (.inl rfl)) (pss_one (ps_if (pt_cmpR op_notIn_seq (pv 2) (pe_fld (pv 0) rfl) rfl) (pss_one (ps_ret (pv 2))) pss_nil)))
      (pss_one (ps_ret pe_non))), ?_⟩
    obtain ⟨c, m, hs, u, rfl, hc, hu, q⟩ := h
    walk_at "rd"
    refine rd_letters T hc ?_
    walk_at "rd"
    refine ⟨m, u, rfl, hc.ch.m1, hc.ch.m5, hu, fun t H2 s2 et => ?_⟩
    have hc2 := hc.mono s2
    refine ⟨t, rfl, ⟨_, sqT_of et⟩, for_tup (fun i σ' H' => H' = H2 ∧ (∃ v, σ' = [some (.ref c), some (nv u), v]) ∧ ∀ g ∈ (heapsOf m u).take i, g ∈ hs) ⟨rfl, ⟨_, rfl⟩, by simp⟩ (fun i σ' H' _ p => by rw [p.1]; exact sqT_of et) (fun i x σ' H' hxi p => ?_) (fun σ' H' p => ?_)⟩
    · obtain ⟨rfl, ⟨v, rfl⟩, hall⟩ := p
      obtain ⟨k, hk, rfl⟩ := mem_nvs hxi
      walk_at "rd"
      refine rd_heaps T hc2 fun t2 e2 => ?_
      walk_at "rd"
      refine rd_notin (.inr (sqT_of e2)) ?_
      walk_at "rd"
      refine tndec (fun z => ?_) fun z => ?_
      · walk_at "rd"
        refine ⟨rfl, ⟨_, rfl⟩, fun g hg => ?_⟩
        rw [take_at hk] at hg
        rcases List.mem_append.mp hg with e | e
        · exact hall g e
        · rw [List.mem_singleton.mp e]; exact z
      · walk_at "rd"
        have : firstOut hs (heapsOf m u) = nv k := by
          unfold firstOut
          have : (heapsOf m u).find? (fun g => !decide (g ∈ hs)) = some k := by
            rw [List.find?_eq_some_iff_append]
            refine ⟨by simpa using z, (heapsOf m u).take i, (heapsOf m u).drop (i + 1), ?_, fun a ha => by simpa using hall a ha⟩
            have h1 := List.take_append_drop (i + 1) (heapsOf m u)
            rw [take_at hk, List.append_assoc] at h1
            exact h1.symm
          rw [this]
        have q2 := q _ s2
        rw [this] at q2
        exact q2
    · obtain ⟨rfl, ⟨v, rfl⟩, hall⟩ := p
      walk_at "rd"
      have e2 : (heapsOf m u).take (nvs (heapsOf m u)).length = heapsOf m u := by rw [List.length_map]; exact List.take_length
      rw [e2] at hall
      have : firstOut hs (heapsOf m u) = .non := by
        unfold firstOut
        have : (heapsOf m u).find? (fun g => !decide (g ∈ hs)) = none := List.find?_eq_none.mpr fun g hg => by simpa using hall g hg
        rw [this]
      rw [← this]
      exact q _ s2
  case len =>
    obtain ⟨c, m, hs, u, rfl, _⟩ := h
    rfl
def spHolds : Sp := fun vs H Q _ => ∃ (c : Addr) (m : Nat) (hs : List Nat) (u : Nat), vs = [.ref c, nv u] ∧ ChAt H c m hs ∧ u ≤ full m ∧ ∀ H', Sm H H' → Q (.bl (holdsB m hs u)) H'
theorem sc_holds : FnScope ["choice", "word"] ["choice", "word"] (defScope (top 43)) := ⟨rfl, rfl, rfl, by decide +kernel, rfl, by decide +kernel, by decide +kernel⟩
theorem ok_holds (T : Txt K mg) : FnOk P w K mg base CX0 7 a_holds (fdOf K a_holds) ["choice", "word"] spHolds := by
  refine T.f_holds.ok sc_holds (fun vs H Q E h => ?len) (fun cdv A outer s H vs Q E hr h => ?body)
  case body =>
    have nd := sc_holds.nd
    refine ⟨_, PSs.nox (pss_one (ps_ret (pe_cmpR op_isN (pe_call (ok_strange_heap T) (hr.mono (by decide)) rfl (T.g_strange_heap) (T.k_strange_heap) (T.b_strange_heap) .nil pass0 (pa_cons (pv 0) (pa_cons (pv 1) pa_nil))) pe_non (nomark _)))), ?_⟩
    obtain ⟨c, m, hs, u, rfl, hc, hu, q⟩ := h
    walk_at "rd"
    refine ⟨c, m, hs, u, rfl, hc, hu, fun H2 s2 => ?_⟩
    walk_at "rd"
    refine ⟨rfl, ?_⟩
    have : decide (firstOut hs (heapsOf m u) = .non) = holdsB m hs u := by
      unfold firstOut holdsB
      cases e : (heapsOf m u).find? fun g => !decide (g ∈ hs) with
      | none =>
        have h1 := List.find?_eq_none.mp e
        have h2 : ((heapsOf m u).all fun g => decide (g ∈ hs)) = true := List.all_eq_true.mpr fun g hg => by simpa using h1 g hg
        rw [h2]; rfl
      | some g =>
        have h1 := List.find?_some e
        have h3 := List.mem_of_find?_eq_some e
        have h2 : ((heapsOf m u).all fun g => decide (g ∈ hs)) = false := by
          rw [List.all_eq_false]
          exact ⟨g, h3, by simpa using h1⟩
        rw [h2]; rfl
    rw [this]
    exact q _ s2
  case len =>
    obtain ⟨c, m, hs, u, rfl, _⟩ := h
    rfl
/-! ### votes -/
def spFirst : Sp := fun vs H Q _ => ∃ m g : Nat, vs = [nv m, nv g] ∧ m ≤ 5 ∧ NewL H (firstPl m g) Q
theorem sc_first_places : FnScope ["letters", "heap", "place"] ["letters", "heap"] (defScope (top 46)) := ⟨rfl, rfl, rfl, by decide +kernel, rfl, by decide +kernel, by decide +kernel⟩
theorem ok_first_places (T : Txt K mg) : FnOk P w K mg base CX0 1 a_first_places (fdOf K a_first_places) ["letters", "heap"] spFirst := by
  refine T.f_first_places.ok sc_first_places (fun vs H Q E h => ?len) (fun cdv A outer s H vs Q E hr h => ?body)
  case body =>
    have nd := sc_first_places.nd
    refine ⟨_, PSs.nox (pss_one (ps_ret (pe_lc (own := [("place", 2)]) rfl nd (pi_range1 rfl (T.n_range) (pa_cons (pe_op o_shl (pe_n 1) (pv 0)) pa_nil)) (blkOk_by (N := ["letters", "heap", "place"]) (sc := defScope (top 46)) (by decide +kernel)) (fun _ _ _ _ _ => (pg_name (i := 2) nd rfl (.inl rfl))) (fun _ _ _ _ _ => (pts_one (pt_cmpR o_eq (pe_op o_and (pv 2) (pv 1)) (pe_n 0) (nomark _)))) (fun _ _ _ _ _ => (pv 2))))), ?_⟩
    obtain ⟨m, g, rfl, h2, q⟩ := h
    walk_at "rd"
    refine rd_n ⟨by omega, by omega⟩ ?_
    walk_at "rd"
    refine lc_rngJ (n := 1 <<< m) (line32 (by have := le32 h2; omega)) (fun p => decide ((p &&& g) = 0)) nv (fun l hl H2 D2 s2 Nx g1 g2 => ?_) (fun H2 D2 s2 hD e => ?_)
    · walk_at "rd"
      refine tdec (fun z => ?_) fun z => ?_
      · exact g1 _ Sm.refl (decide_eq_false z)
      · walk_at "rd"
        exact g2 _ Sm.refl (decide_eq_true z)
    · exact q _ _ s2 e
  case len =>
    obtain ⟨m, u, rfl, _⟩ := h
    rfl
def spVotes : Sp := fun vs H Q _ => ∃ m u g : Nat, vs = [nv m, nv u, nv g] ∧ 1 ≤ m ∧ m ≤ 5 ∧ u ≤ full m ∧ g < 2 ^ m ∧ NewT H (votes m u g) Q
theorem lettersOf_lt {g l : Nat} (h : l ∈ lettersOf g) : l < 5 := by
  unfold lettersOf at h
  exact List.mem_range.mp (List.mem_filter.mp h).1
theorem firstPl_lt {m g p : Nat} (h : p ∈ firstPl m g) : p < 1 <<< m := by
  unfold firstPl at h
  exact List.mem_range.mp (List.mem_filter.mp h).1
theorem firstPl_len {m g : Nat} (h : m ≤ 5) : (firstPl m g).length ≤ 32 := by
  unfold firstPl
  refine Nat.le_trans (List.length_filter_le _ _) ?_
  rw [List.length_range]
  exact le32 h
theorem sc_votes_for : FnScope ["letters", "word", "heap", "folded", "letter", "first"] ["letters", "word", "heap"] (defScope (top 47)) := ⟨rfl, rfl, rfl, by decide +kernel, rfl, by decide +kernel, by decide +kernel⟩
theorem ok_votes_for (T : Txt K mg) : FnOk P w K mg base CX0 5 a_votes_for (fdOf K a_votes_for) ["letters", "word", "heap"] spVotes := by
  refine T.f_votes_for.ok sc_votes_for (fun vs H Q E h => ?len) (fun cdv A outer s H vs Q E hr h => ?body)
  case body =>
    have nd := sc_votes_for.nd
    refine ⟨_, PSs.nox (pss_cons (ps_expr (pe_call (ok_check_letters T) (hr.mono (by decide)) rfl (T.g_check_letters) (T.k_check_letters) (T.b_check_letters) .nil pass0 (pa_cons (pv 0) pa_nil)))
      (pss_cons (ps_expr (pe_call (ok_check_word T) (hr.mono (by decide)) rfl (T.g_check_word) (T.k_check_word) (T.b_check_word) .nil pass0 (pa_cons (pv 0) (pa_cons (pv 1) pa_nil))))
      (pss_cons (ps_expr (pe_call (ok_check_heap T) (hr.mono (by decide)) rfl (T.g_check_heap) (T.k_check_heap) (T.b_check_heap) .nil pass0 (pa_cons (pv 0) (pa_cons (pv 2) pa_nil))))
      (pss_cons (ps_set (i := 3) nd rfl (Or.inr rfl) (pv 1))
      (pss_cons (ps_for PassesOwn.never rfl (pi_tup (pe_call (ok_letters_of T) (hr.mono (by decide)) rfl (T.g_letters_of) (T.k_letters_of) (T.b_letters_of) .nil pass0 (pa_cons (pv 2) pa_nil))) (pg_name (i := 4) nd rfl (.inl rfl)) (pss_one (ps_set (i := 3) nd rfl (Or.inr rfl) (pe_op o_xor (pv 3) (pe_op o_shr (pv 3) (pe_op o_shl (pe_n 1) (pv 4)))))))
      (pss_one (ps_ret (pe_callTy (call_tuple_of) (by rfl) (T.n_tuple) (by decide +kernel) (pa_cons (pe_lc (own := [("first", 5)]) rfl nd (pi_list (pe_call (ok_first_places T) (hr.mono (by decide)) rfl (T.g_first_places) (T.k_first_places) (T.b_first_places) .nil pass0 (pa_cons (pv 0) (pa_cons (pv 2) pa_nil)))) (blkOk_by (N := ["letters", "word", "heap", "folded", "letter", "first"]) (sc := defScope (top 47)) (by decide +kernel)) (fun _ _ _ _ _ => (pg_name (i := 5) nd rfl (.inl rfl))) (fun _ _ _ _ _ => pts_nil) (fun _ _ _ _ _ => (pe_op o_and (pe_op o_shr (pv 3) (pv 5)) (pe_n 1)))) pa_nil))))))))), ?_⟩
    obtain ⟨m, u, g, rfl, h1, h2, h3, h4, q⟩ := h
    walk_at "rd"
    refine ⟨m, rfl, h1, h2, ?_⟩
    walk_at "rd"
    refine ⟨m, u, rfl, h1, h2, h3, ?_⟩
    walk_at "rd"
    refine ⟨m, g, rfl, h1, h2, h4, ?_⟩
    walk_at "rd"
    refine ⟨g, rfl, by have := pow32 h2; omega, fun t H2 s2 et => ?_⟩
    refine ⟨t, rfl, ⟨_, sqT_of et⟩, for_tup (fun i σ' H' => H' = H2 ∧ ∃ b c, σ' = [some (nv m), some (nv u), some (nv g), some (nv (((lettersOf g).take i).foldl (fun f l => f ^^^ f >>> (1 <<< l)) u)), b, c]) ⟨rfl, _, _, rfl⟩ (fun i σ' H' _ p => by rw [p.1]; exact sqT_of et) (fun i x σ' H' hxi p => ?_) (fun σ' H' p => ?_)⟩
    · obtain ⟨rfl, b, c, rfl⟩ := p
      obtain ⟨k, hk, rfl⟩ := mem_nvs hxi
      have hk5 := lettersOf_lt (List.mem_of_getElem? hk)
      walk_at "rd"
      refine rd_n ⟨by omega, by omega⟩ ?_
      walk_at "rd"
      refine ⟨rfl, some (nv k), c, ?_⟩
      rw [take_at hk, List.foldl_append]
      rfl
    · obtain ⟨rfl, b, c, rfl⟩ := p
      walk_at "rd"
      refine ⟨m, g, rfl, h2, fun t3 H3 s3 e3 => ?_⟩
      have e2 : (lettersOf g).take (nvs (lettersOf g)).length = lettersOf g := by rw [List.length_map]; exact List.take_length
      rw [e2]
      refine lc_lstJ (sqL_of e3) (line32 (by have := firstPl_len (g := g) h2; omega)) (fun _ => true) (fun p => nv (folded g u >>> p &&& 1)) (fun p hp H4 D4 s4 Nx g1 g2 => ?_) (fun H4 D4 s4 hD e => ?_)
      · walk_at "rd"
        exact g2 _ Sm.refl rfl
      · walk_at "rd"
        refine rd_tupL e fun t ht => ?_
        refine q t _ (((s2.trans s3).trans s4).trans (Sm.new ht)) ?_
        rw [upd_same, List.filter_eq_self.mpr (fun _ _ => rfl)]
        unfold votes
        rw [nvs_map]
  case len =>
    obtain ⟨m, u, g, rfl, _⟩ := h
    rfl
/-- places, marked -/
def spSpoilt : Sp := fun vs H Q _ => ∃ (m g : Nat) (l : Addr) (ys : List Nat), vs = [nv m, .ref l, nv g] ∧ 1 ≤ m ∧ m ≤ 5 ∧ H l = some (.tup (nvs ys)) ∧ (∀ x ∈ ys, x < 2 ^ m) ∧ Asc ys ∧ mark ys ≤ full m ∧ g < 2 ^ m ∧ ∀ H', Sm H H' → Q (nv (spoilt m (mark ys) g)) H'
theorem sum_cast : ∀ l : List Nat, (l.map fun n : Nat => (n : Int)).sum = ((l.sum : Nat) : Int)
  | [] => rfl
  | a :: r => by rw [List.map_cons, List.sum_cons, List.sum_cons, sum_cast r]; omega
theorem sc_spoilt_votes : FnScope ["letters", "places", "heap", "marked"] ["letters", "places", "heap"] (defScope (top 48)) := ⟨rfl, rfl, rfl, by decide +kernel, rfl, by decide +kernel, by decide +kernel⟩
theorem ok_spoilt_votes (T : Txt K mg) : FnOk P w K mg base CX0 6 a_spoilt_votes (fdOf K a_spoilt_votes) ["letters", "places", "heap"] spSpoilt := by
  refine T.f_spoilt_votes.ok sc_spoilt_votes (fun vs H Q E h => ?len) (fun cdv A outer s H vs Q E hr h => ?body)
  case body =>
    have nd := sc_spoilt_votes.nd
    refine ⟨_, PSs.nox (pss_cons (ps_expr (pe_call (ok_check_letters T) (hr.mono (by decide)) rfl (T.g_check_letters) (T.k_check_letters) (T.b_check_letters) .nil pass0 (pa_cons (pv 0) pa_nil)))
      (pss_cons (ps_set (i := 3) nd rfl (Or.inl rfl) (pe_call (ok_marked_word T) (hr.mono (by decide)) rfl (T.g_marked_word) (T.k_marked_word) (T.b_marked_word) .nil pass0 (pa_cons (pv 0) (pa_cons (pe_call (ok_check_places T) (hr.mono (by decide)) rfl (T.g_check_places) (T.k_check_places) (T.b_check_places) .nil pass0 (pa_cons (pv 0) (pa_cons (pv 1) pa_nil))) pa_nil))))
      (pss_one (ps_ret (pe_callB (GX.cr_sumT rfl) (by rfl) (T.n_sum) (by decide +kernel) (pa_cons (pe_call (ok_votes_for T) (hr.mono (by decide)) rfl (T.g_votes_for) (T.k_votes_for) (T.b_votes_for) .nil pass0 (pa_cons (pv 0) (pa_cons (pv 3) (pa_cons (pv 2) pa_nil)))) pa_nil)))))), ?_⟩
    obtain ⟨m, g, l, ys, rfl, h1, h2, hl, hlt, hasc, hmk, hg, q⟩ := h
    have hlen : ys.length ≤ 1000 := by
      have := asc_len ys 0 (2 ^ m) hasc fun x hx => ⟨Nat.zero_le _, hlt x hx⟩
      have := pow32 h2
      omega
    walk_at "rd"
    refine ⟨m, rfl, h1, h2, ?_⟩
    walk_at "rd"
    refine ⟨m, l, ys, ys, rfl, h1, h2, .inr hl, hlt, hlen, hasc, fun _ => Iff.rfl, fun t H2 s2 et => ?_⟩
    walk_at "rd"
    refine ⟨m, t, ys, ys, rfl, h1, h2, .inr et, hlt, hlen, hasc, fun _ => Iff.rfl, fun H3 s3 => ?_⟩
    walk_at "rd"
    refine ⟨m, mark ys, g, rfl, h1, h2, hmk, hg, fun t4 H4 s4 e4 => ?_⟩
    walk_at "rd"
    rw [nvs_int] at e4
    refine ⟨t4, _, rfl, sqT_of e4, ?_⟩
    rw [sum_cast]
    exact q _ ((s2.trans s3).trans s4)
  case len =>
    obtain ⟨m, g, l, ys, rfl, _⟩ := h
    rfl
end
end G
set_option maxHeartbeats 4000000
-- text D11
namespace G
open PySem PySem.Spec PyProof.Rows L2 M
/-- the three tables -/
def tabl (K : PySem.W.Frag) : List (Addr × Str) := [((He.cT K ("voting_order", none)).2, "voting_order.<locals>.<lambda>"), ((He.cT K ("_law_two_told", none)).2, "_law_two_told.<locals>.<lambda>"), ((He.cT K ("_law_errors_told", none)).2, "_law_errors_told.<locals>.<lambda>")]
/-- the text, and what the making of lambdas asks of the base -/
structure TxB (K : PySem.W.Frag) (mg : Str → Option Value) (base : Heap) : Prop extends Txt K mg where
  tb : ∀ p ∈ tfs, LamX.TabB base mg (He.cT K p).1 (He.cT K p).2
section
variable {P : Program} {w : World} {K : PySem.W.Frag} {mg : Str → Option Value} {base : Heap}
instance : CoeOut (TxB K mg base) (Txt K mg) := ⟨fun T => T.toTxt⟩
/-- a table's own name -/
theorem tabl_uniq (T : Txt K mg) : ∀ p ∈ tabl K, ∀ q ∈ tabl K, p.1 = q.1 → p.2 = q.2 := by
  have h := of_decide_eq_true (He.ba T.tabA).2
  have h2 : (He.cT K ("voting_order", none)).2 ≠ (He.cT K ("_law_two_told", none)).2 ∧ (He.cT K ("voting_order", none)).2 ≠ (He.cT K ("_law_errors_told", none)).2 ∧ (He.cT K ("_law_two_told", none)).2 ≠ (He.cT K ("_law_errors_told", none)).2 := by
    simp only [tf0, List.map_cons, List.map_nil, List.cons_append, List.nil_append, List.nodup_cons, List.mem_cons, List.not_mem_nil, not_or, or_false] at h
    exact ⟨h.1.1, h.1.2.1, h.2.1.1⟩
  obtain ⟨a, b, c⟩ := h2
  intro p hp q hq e
  simp only [tabl, List.mem_cons, List.not_mem_nil, or_false] at hp hq
  rcases hp with rfl | rfl | rfl <;> rcases hq with rfl | rfl | rfl <;> first | rfl | exact absurd e a | exact absurd e b | exact absurd e c | exact absurd e.symm a | exact absurd e.symm b | exact absurd e.symm c
theorem fAds (T : Txt K mg) : He.fAd K ("voting_order", none) = a_voting_order ∧ He.fAd K ("_law_two_told", none) = a_law_two_told ∧ He.fAd K ("_law_errors_told", none) = a_law_errors_told := by
  have h := of_decide_eq_true (He.ba T.tabA).1
  simp only [tf0, List.map_cons, List.map_nil, List.cons.injEq, and_true] at h
  exact h
/-- what a call keeps: all but tables and code objects; the tables stay tables -/
def Gr (K : PySem.W.Frag) (H H' : Hp) : Prop := GG.Kp H H' ∧ (Tabs (tabl K) H → Tabs (tabl K) H')
theorem Gr.refl {H : Hp} : Gr K H H := ⟨fun _ _ e _ _ => e, id⟩
theorem Gr.trans {A B C : Hp} (x : Gr K A B) (y : Gr K B C) : Gr K A C := ⟨fun b o e n1 n2 => y.1 b o (x.1 b o e n1 n2) n1 n2, fun t => y.2 (x.2 t)⟩
theorem Sm.gr {H H' : Hp} (s : Sm H H') : Gr K H H' := ⟨fun b o e _ _ => s b o e, fun t => t.ext s⟩
theorem Gr.of {H H' : Hp} (e : ExtN H H') (t : Tabs (tabl K) H') : Gr K H H' := ⟨fun b o q _ n => e b o q n, fun _ => t⟩
theorem Gr.tup {H H' : Hp} (s : Gr K H H') {a : Addr} {xs : List V} (e : H a = some (.tup xs)) : H' a = some (.tup xs) := s.1 _ _ e (fun ⟨_, z⟩ => by cases z) fun _ z => by cases z
theorem Gr.lst {H H' : Hp} (s : Gr K H H') {a : Addr} {xs : List V} (e : H a = some (.lst xs)) : H' a = some (.lst xs) := s.1 _ _ e (fun ⟨_, z⟩ => by cases z) fun _ z => by cases z
theorem Gr.ins {H H' : Hp} (s : Gr K H H') {a C dx : Addr} {fs : List (Str × V)} (e : H a = some (.ins C dx fs)) : H' a = some (.ins C dx fs) := s.1 _ _ e (fun ⟨_, z⟩ => by cases z) fun _ z => by cases z
theorem Gr.frz {H H' : Hp} (s : Gr K H H') {a : Addr} {o : Obj} {u : HO} (e : H a = some (.frz o u)) : H' a = some (.frz o u) := s.1 _ _ e (fun ⟨_, z⟩ => by cases z) fun _ z => by cases z
theorem Gr.sqT {H H' : Hp} {a : Addr} {xs : List V} (s : Gr K H H') (h : SqT K H a xs) : SqT K H' a xs := by
  rcases h with (h | ⟨o, h⟩) | h
  · exact .inl (.inl (s.tup h))
  · exact .inl (.inr ⟨o, s.frz h⟩)
  · exact .inr h
theorem Gr.sqL {H H' : Hp} {a : Addr} {xs : List V} (s : Gr K H H') (h : SqL K H a xs) : SqL K H' a xs := by
  rcases h with (h | ⟨o, h⟩) | h
  · exact .inl (.inl (s.lst h))
  · exact .inl (.inr ⟨o, s.frz h⟩)
  · exact .inr h
theorem ChAt.gr {H H' : Hp} {c : Addr} {m : Nat} {hs : List Nat} (hc : ChAt H c m hs) (s : Gr K H H') : ChAt H' c m hs := by
  obtain ⟨h0, dx, t, e1, e2⟩ := hc
  exact ⟨h0, dx, t, s.ins e1, s.tup e2⟩
theorem Gr.new {H : Hp} {p : Addr} {o : HO} (n : H p = none) : Gr K H (upd H p o) := (Sm.new n).gr
/-! ### voting_order -/
def ordR (p q : Nat) : Bool := decide (ones q < ones p ∨ (ones p = ones q ∧ p ≤ q))
def ordOf (hs : List Nat) : List Nat := hs.mergeSort ordR
def spOrd (K : PySem.W.Frag) : Sp := fun vs H Q _ => ∃ (c : Addr) (m : Nat) (hs : List Nat), vs = [.ref c] ∧ ChAt H c m hs ∧ Tabs (tabl K) H ∧ ∀ a H', Gr K H H' → Tabs (tabl K) H' → H a = none → H' a = some (.lst (nvs (ordOf hs))) → Q (.ref a) H'
theorem ordOf_cast (hs : List Nat) : ((hs.map fun n : Nat => (n : Int)).mergeSort fun p q => decide (-(ones p.toNat : Int) < -(ones q.toNat : Int) ∨ (-(ones p.toNat : Int) = -(ones q.toNat : Int) ∧ p ≤ q))).map V.int = nvs (ordOf hs) := by
  have h := List.map_mergeSort (r := ordR) (s := fun p q : Int => decide (-(ones p.toNat : Int) < -(ones q.toNat : Int) ∨ (-(ones p.toNat : Int) = -(ones q.toNat : Int) ∧ p ≤ q))) (f := fun n : Nat => (n : Int)) (l := hs) (fun a _ b _ => by
    unfold ordR
    rw [Int.toNat_natCast, Int.toNat_natCast]
    exact decide_eq_decide.mpr (by omega))
  rw [← h, nvs_int]
  rfl
/-- a def whose code object is known -/
theorem funD_ok2 {CX : CXT} {x qual : Str} {params : Arguments} {body : List Stmt} {scope : Scope} {dvs : List V} {kws : List (Str × V)} {f : Addr} {fd : FuncData} {N ps : List Str} {k : Nat} {sp : Sp} (F : FunD K x qual params body scope dvs kws f fd) (S : FnScope N ps scope) (len : ∀ vs H Q E, sp vs H Q E → vs.length = ps.length)
    (hbody : ∀ (c : Addr), (∀ p : He.Defn, He.fAd K p = f → (He.cT K p).1 = c) → ∀ (A : Around) (outer : List Env) (s : Shared) (H : Hp) (vs : List V) (Q : VK) (E : XK), Room k (A.deeper (envOfC qual scope s.heap.objs.size f (.ref c))) → sp vs H Q E →
      ∃ t, PSs (cxOf CX P w K mg base N qual scope f (.ref c) A outer s H E) body t ∧ t { nx := fun _ H' => Q .non H', rt := Q } (start N vs) H) : FnOk P w K mg base CX (k + 1) f fd ps sp := by
  obtain ⟨oc, od, dV, kV, doc, pm, an, cdv, ct, osl, rfl, lk, hcd, _, _⟩ := F.ex
  obtain ⟨c, rfl⟩ := He.codeIn_ref hcd
  exact fn_of lk hcd S len fun A outer s H vs Q E hr hsp => hbody c (fun p e => He.codeOf_eq (by rw [e]; exact lk) rfl) A outer s H vs Q E hr hsp
theorem sc_voting_order : FnScope ["choice"] ["choice"] (defScope (top 58)) := ⟨rfl, rfl, rfl, by decide +kernel, rfl, by decide +kernel, by decide +kernel⟩
theorem ok_voting_order (T' : TxB K mg base) : FnOk P w K mg base CX0 5 a_voting_order (fdOf K a_voting_order) ["choice"] (spOrd K) := by
  have T := T'.toTxt
  refine funD_ok2 T.f_voting_order sc_voting_order (fun vs H Q E h => ?len) (fun c hc A outer s H vs Q E hr h => ?body)
  case body =>
    have nd := sc_voting_order.nd
    have TB : LamX.TabB base mg c (He.cT K ("voting_order", none)).2 := by
      have := T'.tb ("voting_order", none) (by simp [tfs, tf0])
      rw [hc _ (fAds T).1] at this
      exact this
    have hm : ((He.cT K ("voting_order", none)).2, ("voting_order.<locals>.<lambda>" : Str)) ∈ tabl K := by simp [tabl]
    refine ⟨_, PSs.nox (pss_one (ps_ret (GX.pe_sortedLam (N := ["heap"]) (z := "heap") (k := 1) (T := tabl K) (Pb := fun b => 0 ≤ b) (x := fun b => -(ones b.toNat : Int)) (y := fun b => b) (pe_fld (pv 0) rfl) (by rfl) T.n_sorted TB rfl hm (fun p hp e => tabl_uniq T p hp _ hm e) hr rfl (NdefX.nscope_by (by decide +kernel)) rfl (fun _ _ _ _ _ => rfl) (fun A outer s f c' hr2 => ⟨_, pe_tup (pa_cons (pe_un un_neg (pe_call (ok_count_ones T) hr2 rfl (T.g_count_ones) (T.k_count_ones) (T.b_count_ones) .nil pass0 (pa_cons (pv 0) pa_nil))) (pa_cons (pv 0) pa_nil)), fun b hb => ?lam⟩)))), ?_⟩
    case lam =>
      obtain ⟨n, rfl⟩ := Int.eq_ofNat_of_zero_le hb
      walk_at "rd"
      refine ⟨n, rfl, ?_⟩
      walk_at "rd"
      exact ⟨by rw [sizeLine_eq]; show 2 ≤ 16777216; omega, fun p hp => ⟨p, rfl, by rw [upd_same, Int.toNat_natCast]⟩⟩
    obtain ⟨c0, m, hs, rfl, hch, hT, q⟩ := h
    walk_at "rd"
    unfold GX.tSL
    walk_at "rd"
    refine rd_heaps T hch fun t et => ⟨t, hs.map fun n : Nat => (n : Int), rfl, ?_, ?_, hT, fun p H2 eN T2 hN hp => ?_⟩
    · rw [← nvs_int]; exact sqT_of et
    · intro b hb
      obtain ⟨n, _, rfl⟩ := List.mem_map.mp hb
      omega
    rw [ordOf_cast]
    have n1 : H p = none := by
      cases e : H p with
      | none => rfl
      | some o =>
        by_cases z : ∃ ps, o = .tbl ps
        · obtain ⟨ps, rfl⟩ := z
          exact absurd hp (hN p ps e)
        · rw [eN p o e fun ps y => z ⟨ps, y⟩] at hp
          cases hp
    exact q p _ ((Gr.of eN T2).trans (Gr.new hp)) (T2.ext (Sm.new hp)) n1 upd_same
  case len =>
    obtain ⟨c, m, hs, rfl, _⟩ := h
    rfl
end
end G
set_option maxHeartbeats 4000000
-- text X8
/-! # own exceptions over WordError whose __init__ says super().__init__(text) -/
namespace GE
open PySem PySem.W PySem.Calls PyProof.Rows
section
variable {prog : Program} {w : World} {A : Around} {E : Value → Shared → Prop} {h : Heap} {g : Array GenState} {d : Drawn} {t : Nat} {os : OsState}
variable {nm q : Str} {C N : Addr} {bs bm bmB : List Value} {hdct : Bool} {sn : List Str} {sub : List Value} {ab : Bool} {col : Option Bool} {dd : Option Addr} {k0 k1 k2 k3 k5 : Option Value} {B newId initId : String}
/-- the bound built-in __init__, called -/
theorem call_mw (F : ExcBaseFacts B newId initId bmB) {u e t0 : Addr} {rest : List Value} {Q : Value → Shared → Prop}
    (hC : h.get? C = some (excClassObj nm q C N bs bm hdct sn sub ab col dd k0 k1 k2 k3 k5 newId)) (he : h.get? e = some (HandSPX.excO C t0)) (hu : h.get? u = some (kxs_mw initId e)) (hrest : rest.length ≤ sizeLine)
    (hq : ∀ h' t1, (∀ b o, b ≠ e → h.get? b = some o → h'.get? b = some o) → h'.get? e = some (HandSPX.excO C t1) → Q .none ⟨h', g, d, t, os⟩) :
    wpAny (model prog w) A (call (.ref u) rest) Q E ⟨h, g, d, t, os⟩ := by
  refine wpAny_call (codeAny_of_tree ?_)
  show wpAny _ A.in1 (callAny (.ref u) ⟨rest, []⟩) _ _ _
  simp only [callAny]
  refine wpAny_bind (wpAny_load hu ?_)
  simp only [kxs_mw, show (Value.type "method-wrapper" == Value.type "method" || Value.type "method-wrapper" == Value.type "builtin_function_or_method" || Value.type "method-wrapper" == Value.type "method-wrapper") = true by decide, if_true]
  refine W.KFB.if_so (by decide) ?_
  refine wpAny_bind (ESX.check_bound F hC he rfl ?_)
  refine wpAny_bind (wpAny_pure (wpAny_pure ?_))
  refine ⟨plainId_quiet F.init.plain _, codeAny_builtin F.initEntry ?_⟩
  rw [Around.under_plainId F.init.plain _]
  wp_walk
  refine hq _ h.objs.size (fun b o hb ho => ?_) ?_
  · rw [Heap.get?_update_other _ _ (Ne.symm hb)]
    exact Heap.get?_push_of_some _ ho
  · rw [Heap.get?_update_self _ (Heap.get?_push_of_some _ he) rfl]
    rfl
end
section
variable {prog : Program} {w : World} {A : Around} {E : Value → Shared → Prop} {s : Shared} {K : Frag} {C L f cc cda e t0 : Addr} {mg mb m : Str → Option Value}
/-- super().__init__(text) -/
theorem super_init {body : List Stmt} {q : Str} {scope : Scope} {p0 p1 p2 apos pos : Pos} {j : Nat} {txt : Str} {fd : FuncData} {ar : Arg} {vs : Array Value} {file : Str} {tf : Tok} {oc ccl cl : Value} {od cdd cld : Option Addr} {osl ccs csl : Array (Option Value)} {cdD : ClassData} {Q : Value → Shared → Prop}
    (X : K.In s.heap) (hg : s.heap.Ns mainGlobals mg) (hbn : s.heap.Ns builtinsNs mb) (hns : s.heap.Ns L m) (hf : K.lookup f = some ⟨oc, od, .func fd, osl⟩) (hp : (fd.params.posonlyargs ++ fd.params.args).head? = some ar) (hv : m ar.arg = some (.ref e)) (he : s.heap.get? e = some (HandSPX.excO C t0))
    (hcode : K.lookup cda = some ⟨ccl, cdd, .fields vs, ccs⟩) (hvs : vs[2]? = some (.str file tf)) (hfile : ((prog.main.file : Str) == file) = true)
    (hcell : K.lookup cc = some ⟨cl, cld, .cell (some (.ref C)), csl⟩) (hcC : clsIn K C = some cdD) (hsub : mroIn K C (.ref C) = some true) (hsuper : mg "super" = none) (hboot : mb "super" = some (.type "super"))
    (ho : nsIn K cStatics "thirdparty.any" = some none) (hm : ks_superIn K C C "__init__" = some (some (.builtin "ValueError.__init__"))) (hB : subIn K (.ref C) (.type "ValueError") = some true) (hei : excInitIn K C G.bmVE "ValueError.__new__" = true)
    (hks : scope.names.lookup ("super" : Str) = some .globalImplicit) (hkc : scope.names.lookup ("__class__" : Str) = some .free) (hka : scope.names.lookup ar.arg = some .local) (hk : scope.kind = .function)
    (htop : (prog.main.scope.names.lookup ("super" : Str)).isSome = false) {pl : Sem Bool}
    (hev : eval (.Call (.Attribute (.Call (.Name "super" p0) [] [] p1) "__init__" apos) [.Constant (.str txt) j p2] [] pos) (ksEnv q scope L f (.ref cda) cc) = (do
      let ov ← attributeBase (.Call (.Name "super" p0) [] [] p1) "__init__" (ksEnv q scope L f (.ref cda) cc) (eval (.Call (.Name "super" p0) [] [] p1) (ksEnv q scope L f (.ref cda) cc))
      standAt apos.atName
      let (f', first) ← holding [ov] (getMethod ov "__init__" pl)
      callWith pos f' first (backTo pos (starEach [.Constant (.str txt) j p2] (ksEnv q scope L f (.ref cda) cc))) []))
    (h : ∀ h' tk t1, (∀ b o, b ≠ e → s.heap.get? b = some o → h'.get? b = some o) → h'.get? e = some (HandSPX.excO C t1) → Q .none { s with heap := h', toks := tk }) :
    _root_.PySem.wpAt (model prog w) A (.func body (ksEnv q scope L f (.ref cda) cc)) (eval (.Call (.Attribute (.Call (.Name "super" p0) [] [] p1) "__init__" apos) [.Constant (.str txt) j p2] [] pos) (ksEnv q scope L f (.ref cda) cc)) Q E s := by
  obtain ⟨hh, g, d, t, os⟩ := s
  obtain ⟨oC, hC1, hC2⟩ : ∃ oC, hh.get? C = some oC ∧ oC.data = .cls cdD := by
    unfold clsIn at hcC
    split at hcC
    · rename_i c d cd' sl ho
      cases hcC
      exact ⟨_, X _ _ ho, rfl⟩
    · cases hcC
  have I0 : InstAt hh e (HandSPX.excO C t0) C none := ⟨he, rfl, rfl, trivial⟩
  have eC : e ≠ C := ks_ne X I0 hcC
  refine ks_wpAt_MethodCall ?_ hev
  refine ks_wpAt_super_base (env := ksEnv q scope L f (.ref cda) cc) hks hkc (by decide) rfl (X _ _ hf) rfl hp rfl (X _ _ hcode) rfl hvs hfile htop ?_
  refine ks_loadName_global hk hks (loadGlobal_builtin (env := ksEnv q scope L f (.ref cda) cc) hg hsuper hbn hboot ⟨rfl, ?_⟩)
  refine wpAny_loadName_free hk hkc rfl ⟨_, X _ _ hcell, rfl⟩ ?_
  refine wpAny_loadName_local hk hka hns hv ?_
  refine ks_wpAny_isType_cls hC1 hC2 ⟨rfl, ?_⟩
  refine ks_wpAny_call_super hC1 hC2 he rfl (fun c z => ?_) (looks_mroIn X hsub) (fun h1 hso k1 => ?_)
  · cases z
  have X1 : K.In h1 := X.keeps k1
  have he1 := k1 _ _ he
  have I1 : InstAt h1 e (HandSPX.excO C t0) C none := ⟨he1, rfl, rfl, trivial⟩
  have hm' : alongIn K "__init__" ((cdD.mro.dropWhile (· != .ref C)).drop 1) = some (some (.builtin "ValueError.__init__")) := by
    unfold ks_superIn at hm
    rw [hcC] at hm
    exact hm
  refine kxs_getMethod kxs_ValueError hso (looks_opaque X1 ho) (l₀ := cdD.mro) (fun A Q E s k q => wpAny_bind ((looks_clsIn X1 hcC) A _ E s k (wpAny_pure q))) rfl X1 hm' (I1.type.andThen (looks_subIn X1 hB)) eC (by decide) ?_
  have hu : (h1.push (kxs_mw "ValueError.__init__" e)).get? h1.objs.size = some (kxs_mw "ValueError.__init__" e) := Heap.get?_push_at rfl rfl
  have k2 : ∀ b o, h1.get? b = some o → (h1.push (kxs_mw "ValueError.__init__" e)).get? b = some o := fun b o z => Heap.get?_push_of_some _ z
  refine kxs_callWith (i := "ValueError.__init__") (x := e) rfl ?_
  show wpAny _ _ (evalArgs _ true ((false, eval (.Constant (.str txt) j p2) (ksEnv q scope L f (.ref cda) cc)) :: []) []) _ _ _
  refine evalArgs_plain (spliced_cons ?_)
  refine Calls.Constant_str ?_
  refine spliced_nil ⟨hu, ?_⟩
  obtain ⟨nm, N', qn, bs, bm, hdct, sn, sub, ab, col, dd, k0, k1', k2', k3, k5, hCo, hT⟩ := excInit_of (X1.keeps k2) hei
  refine call_mw F.excBase_ValueError hCo (k2 _ _ he1) hu (by show 1 ≤ sizeLine; rw [sizeLine_eq]; omega) fun h' t1 k3' e3 => ?_
  exact h h' _ t1 (fun b o hb z => k3' b o hb (k2 _ _ (k1 _ _ z))) e3
end
end GE
set_option maxHeartbeats 4000000
-- text X9
namespace GE
open PySem PySem.W PySem.Calls PyProof.Rows
/-- an own exception's __init__ that says super() first: what the written part says -/
structure IOk (P : Program) (K : Frag) (mg : Str → Option Value) (C f cc cda : Addr) (q : Str) (scope : Scope) : Prop where
  codeI : codeIn K (.ref cda) q = true
  file : ∃ ccl cdd vs ccs file tf, K.lookup cda = some ⟨ccl, cdd, .fields vs, ccs⟩ ∧ vs[2]? = some (.str file tf) ∧ ((P.main.file : Str) == file) = true
  cell : ∃ cl cld csl, K.lookup cc = some ⟨cl, cld, .cell (some (.ref C)), csl⟩
  cls : ∃ cd, clsIn K C = some cd
  sub : mroIn K C (.ref C) = some true
  nosup : mg "super" = none
  stat : nsIn K cStatics "thirdparty.any" = some none
  sup : ks_superIn K C C "__init__" = some (some (.builtin "ValueError.__init__"))
  subV : subIn K (.ref C) (.type "ValueError") = some true
  ini : excInitIn K C G.bmVE "ValueError.__new__" = true
  ks : scope.names.lookup ("super" : Str) = some .globalImplicit
  kc : scope.names.lookup ("__class__" : Str) = some .free
  kself : scope.names.lookup ("self" : Str) = some .local
  kind : scope.kind = .function
  nocell : ∀ x ∈ scope.names, x.2 ≠ .cell
  co : scope.isCoroutine = false
  gen : scope.isGenerator = false
  top : (P.main.scope.names.lookup ("super" : Str)).isSome = false
section
variable {P : Program} {w : World} {A : Around} {E : Value → Shared → Prop} {R : Result → Shared → Prop} {s : Shared} {K : Frag} {C f cc cda e t0 : Addr} {mg mb : Str → Option Value} {q : Str} {scope : Scope}
  {params : Arguments} {oc : Value} {od : Option Addr} {osl : Array (Option Value)} {dV kV doc pm ct : Value} {an : Option Addr} {p0 p1 p2 p3 apos pos : Pos} {j : Nat} {txt : Str} {rest : List Stmt}
/-- the first statement -/
theorem init_first (o : IOk P K mg C f cc cda q scope) {L : Addr} {m : Str → Option Value} {body : List Stmt} {ar : Arg} {Q : Flow → Shared → Prop} (X : K.In s.heap) (hg : s.heap.Ns mainGlobals mg) (hbn : s.heap.Ns builtinsNs mb) (hboot : mb "super" = some (.type "super"))
    (hlk : K.lookup f = some ⟨oc, od, .func (ksFn "__init__" q params body scope dV kV doc pm an (.ref cda) ct cc), osl⟩) (hp : (params.posonlyargs ++ params.args).head? = some ar) (har : ar.arg = "self") (hns : s.heap.Ns L m) (hv : m "self" = some (.ref e)) (he : s.heap.get? e = some (HandSPX.excO C t0)) {pl : Sem Bool}
    (hev : eval (.Call (.Attribute (.Call (.Name "super" p0) [] [] p1) "__init__" apos) [.Constant (.str txt) j p2] [] pos) (ksEnv q scope L f (.ref cda) cc) = (do
      let ov ← attributeBase (.Call (.Name "super" p0) [] [] p1) "__init__" (ksEnv q scope L f (.ref cda) cc) (eval (.Call (.Name "super" p0) [] [] p1) (ksEnv q scope L f (.ref cda) cc))
      standAt apos.atName
      let (f', first) ← holding [ov] (getMethod ov "__init__" pl)
      callWith pos f' first (backTo pos (starEach [.Constant (.str txt) j p2] (ksEnv q scope L f (.ref cda) cc))) []))
    (hsw : swapsWith (.Call (.Attribute (.Call (.Name "super" p0) [] [] p1) "__init__" apos) [.Constant (.str txt) j p2] [] pos) none p3.line (ksEnv q scope L f (.ref cda) cc) = pure false)
    (hin : interactive (ksEnv q scope L f (.ref cda) cc) = false)
    (h : ∀ h' tk t1, (∀ b o, b ≠ e → s.heap.get? b = some o → h'.get? b = some o) → h'.get? e = some (HandSPX.excO C t1) → Q .next { s with heap := h', toks := tk }) :
    _root_.PySem.wpAt (model P w) A (.func body (ksEnv q scope L f (.ref cda) cc)) (exec (.Expr (.Call (.Attribute (.Call (.Name "super" p0) [] [] p1) "__init__" apos) [.Constant (.str txt) j p2] [] pos) p3) (ksEnv q scope L f (.ref cda) cc)) Q E s := by
  obtain ⟨ccl, cdd, vs, ccs, file, tf, f1, f2, f3⟩ := o.file
  obtain ⟨cl, cld, csl, hcell⟩ := o.cell
  obtain ⟨cd, hcd⟩ := o.cls
  refine ks_wpAt_Expr_any ?_ hin hsw
  exact super_init X hg hbn hns hlk hp (by rw [har]; exact hv) he f1 f2 f3 hcell hcd o.sub o.nosup hboot o.stat o.sup o.subV o.ini o.ks o.kc (by rw [har]; exact o.kself) o.kind o.top hev h
end
end GE
namespace G
open PySem PySem.Spec PyProof.Rows L2
/-- what the raising theorems know beside -/
structure TxX (P : Program) (K : PySem.W.Frag) (mg : Str → Option Value) (base : Heap) : Prop extends TxB K mg base where
  xok : (xfns.all fun d => d.ok K) = true
  xfn : (xfns.map fun d => fnA K d.addr) = xfns.map DefX.val
  hP : P = Rw.prog
section
variable {P : Program} {K : PySem.W.Frag} {mg : Str → Option Value} {base : Heap}
theorem fileB_ok {cd : Value} {file : Str} (h : fileB K cd file = true) : ∃ c ccl cdd vs ccs fl tf, cd = .ref c ∧ K.lookup c = some ⟨ccl, cdd, .fields vs, ccs⟩ ∧ (vs[2]? : Option Value) = some (.str fl tf) ∧ (file == fl) = true := by
  unfold fileB at h
  split at h
  · rename_i c
    split at h
    · rename_i ccl cdd vs ccs e
      split at h
      · rename_i fl tf e2
        have e3 : fl = file := by simpa using h
        exact ⟨c, ccl, cdd, vs, ccs, fl, tf, rfl, e, e2, by rw [e3]; simp⟩
      · cases h
    · cases h
  · cases h
theorem cellB_ok {a C : Addr} (h : cellB a C K = true) : ∃ cl cld csl, K.lookup a = some ⟨cl, cld, .cell (some (.ref C)), csl⟩ := by
  unfold cellB at h
  split at h
  · rename_i cl cld b csl e
    have e2 : b = C := of_decide_eq_true h
    exact ⟨cl, cld, csl, by rw [e, e2]⟩
  · cases h
theorem exc_cls {C : Addr} (h : PySem.W.excInitIn K C bmVE "ValueError.__new__" = true) : ∃ cd, PySem.W.clsIn K C = some cd := by
  unfold PySem.W.excInitIn at h
  split at h
  · rename_i dd cd sl ho
    exact ⟨cd, by unfold PySem.W.clsIn; rw [ho]⟩
  · cases h
theorem TxX.init (T : TxX P K mg base) (i : Nat) {d : DefX} (e : xfns[i]? = some d) (k1 : (defScope d.st).names.lookup ("super" : Str) = some .globalImplicit) (k2 : (defScope d.st).names.lookup ("__class__" : Str) = some .free) (k3 : (defScope d.st).names.lookup ("self" : Str) = some .local)
    (k4 : (defScope d.st).kind = .function) (k5 : ∀ x ∈ (defScope d.st).names, x.2 ≠ .cell) (k6 : (defScope d.st).isCoroutine = false) (k7 : (defScope d.st).isGenerator = false) :
    ∃ oc od kV doc pm an cda ct osl, K.lookup d.addr = some ⟨oc, od, .func (PySem.W.ksFn "__init__" d.qual (defArgs d.st) (defBody d.st) (defScope d.st) .none kV doc pm an (.ref cda) ct d.cell), osl⟩ ∧ GE.IOk P K mg d.cls d.addr d.cell cda d.qual (defScope d.st) ∧ PySem.W.isFn K (.ref d.addr) = true := by
  have q := List.all_eq_true.mp T.xok d (List.mem_of_getElem? e)
  have z : (xfns.map fun d => fnA K d.addr)[i]? = (xfns.map DefX.val)[i]? := by rw [T.xfn]
  rw [List.getElem?_map, List.getElem?_map, e] at z
  have z : fnA K d.addr = d.val := Option.some.inj z
  obtain ⟨q1, q⟩ := He.ba q
  obtain ⟨q2, q⟩ := He.ba q
  obtain ⟨q3, q⟩ := He.ba q
  obtain ⟨q4, q⟩ := He.ba q
  obtain ⟨q5, q⟩ := He.ba q
  obtain ⟨q6, q⟩ := He.ba q
  obtain ⟨q7, q⟩ := He.ba q
  obtain ⟨q8, q⟩ := He.ba q
  obtain ⟨q9, q10⟩ := He.ba q
  unfold fnA at z
  cases lk : K.lookup d.addr with
  | none =>
    rw [lk] at q1
    cases q1
  | some o =>
    obtain ⟨oc, od, dt, osl⟩ := o
    rw [lk] at q1 z
    cases dt with
    | func fd =>
      obtain ⟨n1, n2, n3, n4, n5, n6, n7, n8, n9, n10, n11, n12, n13, n14, n15⟩ := fd
      have e2 : (some (n1, n2, n3, n4, n5, n6, n7, n15) : He.FnW) = some (("__init__" : Str), d.qual, defArgs d.st, FuncBody.stmts (defBody d.st), defScope d.st, mainGlobals, [(("__class__" : Str), d.cell)], builtinsNs) := z
      simp only [Option.some.injEq, Prod.mk.injEq] at e2
      obtain ⟨h1, h2, h3, h4, h5, h6, h7, h8⟩ := e2
      subst h1 h2 h3 h4 h5 h6 h7 h8
      have c3 : (PySem.W.codeIn K n13 d.qual && (fileB K n13 Rw.prog.main.file && (He.dflB K n8 [] && He.kwdB K n9 []))) = true := q1
      obtain ⟨c4, c5⟩ := He.ba c3
      obtain ⟨c6, c7⟩ := He.ba c5
      obtain ⟨c, ccl, cdd, vs, ccs, fl, tf, rfl, f1, f2, f3⟩ := fileB_ok c6
      obtain ⟨c8, c9⟩ := He.ba c7
      rcases He.dflB_ok c8 with ⟨_, rfl⟩ | ⟨c10, _⟩
      case inr => exact absurd rfl c10
      refine ⟨oc, od, n9, n10, n11, n12, c, n14, osl, rfl, ?_, q9⟩
      obtain ⟨hp, X, N⟩ := T.ns
      exact ⟨c4, ⟨ccl, cdd, vs, ccs, fl, tf, f1, f2, by rw [T.hP]; exact f3⟩, cellB_ok q10, exc_cls q2, of_decide_eq_true q6, PySem.W.mg_none_of X N (He.eqO_ok q7), He.eqO_ok q8, He.eqO_ok q4, of_decide_eq_true q5, q2, k1, k2, k3, k4, k5, k6, k7, by rw [T.hP]; decide +kernel⟩
    | _ => cases q1
end
end G
set_option maxHeartbeats 4000000
-- text X10
namespace G
open PySem PySem.Spec PyProof.Rows L2
/-- what excB says -/
structure ExOk (K : PySem.W.Frag) (C i : Addr) : Prop where
  ox : OexC K C
  ini : PySem.W.findIn K (.ref C) "__init__" = some (some (.ref i))
  fn : PySem.W.typeIn K (.ref i) = some (.type "function")
  ga : PySem.W.findIn K (.ref C) "__getattribute__" = some (some (.builtin "BaseException.__getattribute__"))
  gt : PySem.W.findIn K (.ref C) "__getattr__" = some none
  hd : PySem.W.hasDictIn K C = true
theorem excB_ok {K : PySem.W.Frag} {C i : Addr} (h : excB C i K = true) : ExOk K C i := by
  obtain ⟨h0, h⟩ := He.ba h
  obtain ⟨h1, h⟩ := He.ba h
  obtain ⟨h2, h⟩ := He.ba h
  obtain ⟨h3, h⟩ := He.ba h
  obtain ⟨h4, h⟩ := He.ba h
  obtain ⟨h5, h⟩ := He.ba h
  obtain ⟨h6, h⟩ := He.ba h
  obtain ⟨h7, h⟩ := He.ba h
  obtain ⟨h8, h9⟩ := He.ba h
  refine ⟨⟨?_, He.eqO_ok h1, of_decide_eq_true h7, of_decide_eq_true h8, h6⟩, He.eqO_ok h4, of_decide_eq_true h5, He.eqO_ok h2, He.eqO_ok h3, h9⟩
  split at h0
  · rename_i dd cd sl ho
    split at h0
    · rename_i C' bm k0 k1 k2 k3 n k5 hm hs
      obtain ⟨e1, h0⟩ := He.ba h0
      obtain ⟨e2, h0⟩ := He.ba h0
      obtain ⟨e3, h0⟩ := He.ba h0
      obtain ⟨e4, e5⟩ := He.ba h0
      have e1 := of_decide_eq_true e1
      have e2 := of_decide_eq_true e2
      have e3 := of_decide_eq_true e3
      obtain ⟨nm, bs, mro, ns, qn, hd, sn, sub, ab, col, dl⟩ := cd
      dsimp only at hm e4 e5
      have e5 : dl = false := by cases dl with
        | false => rfl
        | true => cases e5
      subst hm e1 e2 e3 e4 e5
      have hsl : sl = #[k0, k1, k2, k3, some (.builtin "ValueError.__new__"), k5] := by
        obtain ⟨l⟩ := sl
        simp only at hs
        rw [hs]
      subst hsl
      exact ⟨nm, qn, ns, bs, _, sn, sub, ab, col, dd, k0, k1, k2, k3, k5, ho, rfl⟩
    · cases h0
  · cases h0
section
variable {P : Program} {w : World} {K : PySem.W.Frag} {mg : Str → Option Value} {base : Heap}
theorem TxX.iEmp (T : TxX P K mg base) : ∃ oc od kV doc pm an cda ct osl, K.lookup i_EmptyChoice = some ⟨oc, od, .func (PySem.W.ksFn "__init__" "EmptyChoice.__init__" (defArgs xEmp.st) (defBody xEmp.st) (defScope xEmp.st) .none kV doc pm an (.ref cda) ct cell_EmptyChoice), osl⟩ ∧ GE.IOk P K mg c_EmptyChoice i_EmptyChoice cell_EmptyChoice cda "EmptyChoice.__init__" (defScope xEmp.st) ∧ PySem.W.isFn K (.ref i_EmptyChoice) = true :=
  T.init 1 (d := xEmp) rfl (by decide +kernel) (by decide +kernel) (by decide +kernel) (by decide +kernel) (by decide +kernel) (by decide +kernel) (by decide +kernel)
theorem TxX.iNon (T : TxX P K mg base) : ∃ oc od kV doc pm an cda ct osl, K.lookup i_NoneNear = some ⟨oc, od, .func (PySem.W.ksFn "__init__" "NoneNear.__init__" (defArgs xNon.st) (defBody xNon.st) (defScope xNon.st) .none kV doc pm an (.ref cda) ct cell_NoneNear), osl⟩ ∧ GE.IOk P K mg c_NoneNear i_NoneNear cell_NoneNear cda "NoneNear.__init__" (defScope xNon.st) ∧ PySem.W.isFn K (.ref i_NoneNear) = true :=
  T.init 2 (d := xNon) rfl (by decide +kernel) (by decide +kernel) (by decide +kernel) (by decide +kernel) (by decide +kernel) (by decide +kernel) (by decide +kernel)
theorem TxX.iBad (T : TxX P K mg base) : ∃ oc od kV doc pm an cda ct osl, K.lookup i_BadNumber = some ⟨oc, od, .func (PySem.W.ksFn "__init__" "BadNumber.__init__" (defArgs xBad.st) (defBody xBad.st) (defScope xBad.st) .none kV doc pm an (.ref cda) ct cell_BadNumber), osl⟩ ∧ GE.IOk P K mg c_BadNumber i_BadNumber cell_BadNumber cda "BadNumber.__init__" (defScope xBad.st) ∧ PySem.W.isFn K (.ref i_BadNumber) = true :=
  T.init 0 (d := xBad) rfl (by decide +kernel) (by decide +kernel) (by decide +kernel) (by decide +kernel) (by decide +kernel) (by decide +kernel) (by decide +kernel)
section
variable {A : Around} {R : Result → Shared → Prop} {s : Shared} {e t0 : Addr} {mb : Str → Option Value}
/-- EmptyChoice.__init__ -/
theorem run_iEmp (T : TxX P K mg base) (hr : A.depth < recursionLimit) (X : K.In s.heap) (hg : s.heap.Ns mainGlobals mg) (hbn : s.heap.Ns builtinsNs mb) (hboot : mb "super" = some (.type "super")) (lim : s.heap.NoLimit) (he : s.heap.get? e = some (PySem.HandSPX.excO c_EmptyChoice t0))
    (h : ∀ h' tk t1, (∀ b o, b ≠ e → s.heap.get? b = some o → h'.get? b = some o) → h'.get? e = some (PySem.HandSPX.excO c_EmptyChoice t1) → R (.ok (.ret .none)) { s with heap := h', toks := tk }) :
    codeAny (model P w) A (.call (.ref i_EmptyChoice) ⟨[.ref e], []⟩) R s := by
  obtain ⟨oc, od, kV, doc, pm, an, cda, ct, osl, hlk, o, _⟩ := T.iEmp
  refine PySem.ks_codeAny_call_defAt (binds := [("self", .ref e)]) hr (X _ _ hlk) rfl lim (PySem.W.codeRec_of X o.codeI) rfl (BindsTo.of_eq rfl) o.nocell (fun y hy => ?_) (fun h₁ hns hk₁ => ?_) o.co o.gen o.kind
  · rw [List.mem_singleton.mp hy]; exact o.kself
  · refine PySem.ks_wpAt_execs_cons (GE.init_first o (X.keeps hk₁) (hg.keeps hk₁) (hbn.keeps hk₁) hboot hlk rfl rfl hns rfl (hk₁ _ _ he) rfl rfl rfl fun h' tk t1 k e1 => ?_)
    refine PySem.wpAt_of_wpAny (wpAny_execs_nil ?_)
    exact h h' tk t1 (fun b o hb z => k b o hb (hk₁ _ _ z)) e1
theorem run_iNon (T : TxX P K mg base) (hr : A.depth < recursionLimit) (X : K.In s.heap) (hg : s.heap.Ns mainGlobals mg) (hbn : s.heap.Ns builtinsNs mb) (hboot : mb "super" = some (.type "super")) (lim : s.heap.NoLimit) (he : s.heap.get? e = some (PySem.HandSPX.excO c_NoneNear t0))
    (h : ∀ h' tk t1, (∀ b o, b ≠ e → s.heap.get? b = some o → h'.get? b = some o) → h'.get? e = some (PySem.HandSPX.excO c_NoneNear t1) → R (.ok (.ret .none)) { s with heap := h', toks := tk }) :
    codeAny (model P w) A (.call (.ref i_NoneNear) ⟨[.ref e], []⟩) R s := by
  obtain ⟨oc, od, kV, doc, pm, an, cda, ct, osl, hlk, o, _⟩ := T.iNon
  refine PySem.ks_codeAny_call_defAt (binds := [("self", .ref e)]) hr (X _ _ hlk) rfl lim (PySem.W.codeRec_of X o.codeI) rfl (BindsTo.of_eq rfl) o.nocell (fun y hy => ?_) (fun h₁ hns hk₁ => ?_) o.co o.gen o.kind
  · rw [List.mem_singleton.mp hy]; exact o.kself
  · refine PySem.ks_wpAt_execs_cons (GE.init_first o (X.keeps hk₁) (hg.keeps hk₁) (hbn.keeps hk₁) hboot hlk rfl rfl hns rfl (hk₁ _ _ he) rfl rfl rfl fun h' tk t1 k e1 => ?_)
    refine PySem.wpAt_of_wpAny (wpAny_execs_nil ?_)
    exact h h' tk t1 (fun b o hb z => k b o hb (hk₁ _ _ z)) e1
/-- BadNumber.__init__ -/
theorem run_iBad (T : TxX P K mg base) {v : Value} (hKe : K.lookup e = none) (hr : A.depth < recursionLimit) (X : K.In s.heap) (hg : s.heap.Ns mainGlobals mg) (hbn : s.heap.Ns builtinsNs mb) (hboot : mb "super" = some (.type "super")) (lim : s.heap.NoLimit) (he : s.heap.get? e = some (PySem.HandSPX.excO c_BadNumber t0))
    (h : ∀ h' tk t1 dx, (∀ b o, b ≠ e → s.heap.get? b = some o → h'.get? b = some o) → s.heap.objs.size ≤ dx → dx ≠ e → h'.get? e = some ({ cls := .ref c_BadNumber, dict := some dx, data := .fields #[.ref t1, .none, .none, .none, .bool false, .none] } : Obj) → h'.Ns1 dx (fun y => if y = "most" then some v else none) → R (.ok (.ret .none)) { s with heap := h', toks := tk }) :
    codeAny (model P w) A (.call (.ref i_BadNumber) ⟨[.ref e, v], []⟩) R s := by
  obtain ⟨oc, od, kV, doc, pm, an, cda, ct, osl, hlk, o, _⟩ := T.iBad
  have x := excB_ok T.ex_BadNumber
  refine PySem.ks_codeAny_call_defAt (binds := [("self", .ref e), ("most", v)]) hr (X _ _ hlk) rfl lim (PySem.W.codeRec_of X o.codeI) rfl (BindsTo.of_eq rfl) o.nocell (fun y hy => ?_) (fun h₁ hns hk₁ => ?_) o.co o.gen o.kind
  · rcases List.mem_cons.mp hy with e1 | e1
    · rw [e1]; exact o.kself
    · rw [List.mem_singleton.mp e1]
      show (defScope xBad.st).names.lookup ("most" : Str) = some .local
      decide +kernel
  · have sz : s.heap.objs.size ≤ h₁.objs.size := by
      obtain ⟨oL, _, _, e2, _⟩ := hns
      exact Nat.le_of_lt (Heap.lt_size e2)
    refine PySem.ks_wpAt_execs_cons (GE.init_first o (X.keeps hk₁) (hg.keeps hk₁) (hbn.keeps hk₁) hboot hlk rfl rfl hns rfl (hk₁ _ _ he) rfl rfl rfl fun h' tk t1 k e1 => ?_)
    refine PySem.wpAt_of_wpAny (wpAny_execs_cons ?_)
    have hLe : s.heap.objs.size ≠ e := Nat.ne_of_gt (Heap.lt_size he)
    have hns' : h'.Ns s.heap.objs.size (fun x => ([("self", .ref e), ("most", v)] : List (Str × Value)).reverse.lookup x) := by
      obtain ⟨oL, es, ep, e2, r⟩ := hns
      exact ⟨oL, es, ep, k _ _ hLe e2, r⟩
    refine plainObj_wpAny_Assign_Attribute ?_ rfl
    refine PySem.ESX.ldL (m := fun x => ([("self", .ref e), ("most", v)] : List (Str × Value)).reverse.lookup x) hns' rfl ?_
    refine PySem.ESX.ldL (m := fun x => ([("self", .ref e), ("most", v)] : List (Str × Value)).reverse.lookup x) hns' rfl ?_
    have X' : K.In h' := fun b ob z => k b ob (fun y => by rw [y, hKe] at z; cases z) (hk₁ _ _ (X _ _ z))
    obtain ⟨nm, q, N, bs, bm, sn, sub, ab, col, dd, k0, k1, k2, k3, k5, hC, hbm⟩ := x.ox.cls
    have hcl : PySem.W.clsIn K c_BadNumber = some { name := nm, bases := bs, mro := .ref c_BadNumber :: bm, ns := N, qualname := q, hasDict := true, slotNames := sn, subclasses := sub, abstract := ab, collection := col, hasDel := false } := by unfold PySem.W.clsIn; rw [hC] <;> rfl
    have hno : NoAttr K c_BadNumber "most" := T.no_BadNumber_most
    refine PySem.W.set_plain X' (ox := { cls := .ref c_BadNumber, dict := none, data := .fields #[.ref t1, .none, .none, .none, .bool false, .none] }) (od := none) ⟨e1, rfl, rfl, trivial⟩ x.ox.sa ?_
    refine PySem.HandSPX.exc_osa X' e1 hcl (show PySem.HandSPX.refsVE (.ref c_BadNumber :: bm) = true from hbm) rfl hno (fun h2 tk' dx k2 dn dne hx hn => ?_)
    refine wpAny_execs_nil ?_
    refine h h2 _ t1 dx (fun b o hb z => k2 b o hb (k b o hb (hk₁ _ _ z))) ?_ dne hx hn
    have : h'.objs.size ≤ dx := dn
    have l1 : s.heap.objs.size < h'.objs.size := by
      obtain ⟨oL, _, _, e2, _⟩ := hns'
      exact Heap.lt_size e2
    omega
end
end
end G
set_option maxHeartbeats 4000000
-- text X11
namespace G
open PySem PySem.Spec PyProof.Rows L2
section
variable {X : Cx} {k : Nat} {p pos : Pos}
theorem blt_super {pins : List (Addr × Obj)} {σ : L2.St} {H : Hp} {s : Shared} (I : Inv X pins σ H s) : ∃ mb, s.heap.Ns builtinsNs mb ∧ mb "super" = some (.type "super") := by
  obtain ⟨mb, h1, h2⟩ := I.mod.blt
  exact ⟨mb, h1.keeps I.bk, (h2 _ (by decide +kernel)).trans (by decide +kernel)⟩
/-- C(), C's own __init__ says super().__init__(text) and nothing else -/
theorem pmk_own0 {C i : Addr} {x : Str} (e : ExOk X.K C i) (hr : Room (k + 1) X.A) (hg : Gl X x) (hm : X.mg x = some (.ref C))
    (run : ∀ {A : Around} {R : Result → Shared → Prop} {s : Shared} {e t0 : Addr} {mb : Str → Option Value}, A.depth < recursionLimit → X.K.In s.heap → s.heap.Ns mainGlobals X.mg → s.heap.Ns builtinsNs mb → mb "super" = some (.type "super") → s.heap.NoLimit → s.heap.get? e = some (PySem.HandSPX.excO C t0) →
      (∀ h' tk t1, (∀ b o, b ≠ e → s.heap.get? b = some o → h'.get? b = some o) → h'.get? e = some (PySem.HandSPX.excO C t1) → R (.ok (.ret .none)) { s with heap := h', toks := tk }) → codeAny (model X.prog X.w) A (.call (.ref i) ⟨[.ref e], []⟩) R s)
    (hdb : (x == ("__debug__" : Str)) = false := by decide) : PMk X (.Call (.Name x p) [] [] pos) (fun _ H Q => Q (.ref C) none H) := by
  intro pins s σ H Q I h
  obtain ⟨nm, q, N, bs, bm, sn, sub, ab, col, dd, k0, k1, k2, k3, k5, hC, hbm⟩ := e.ox.cls
  refine wpAny_Call_Name_kw (ld_glob I hg hm ?_ hdb)
  refine PySem.W.callWith_K0 I.kIn e.ox.kC ?_
  show wpAny _ _ (call (.ref C) []) _ _ _
  obtain ⟨mb, hb1, hb2⟩ := blt_super I
  have hgl : s.heap.Ns mainGlobals X.mg := I.mod.glob.keeps I.bk
  have hlim := I.nolimit
  have hK := I.kIn
  obtain ⟨hp, g, dr, tk, os⟩ := s
  have kk : ∀ b o, hp.get? b = some o → ((hp.push (PySem.W.kdv_tup [])).push (PySem.HandSPX.excO C hp.objs.size)).get? b = some o := fun b o e => Heap.get?_push_of_some _ (Heap.get?_push_of_some _ e)
  have hget : ((hp.push (PySem.W.kdv_tup [])).push (PySem.HandSPX.excO C hp.objs.size)).get? (hp.objs.size + 1) = some (PySem.HandSPX.excO C hp.objs.size) := by heap_get
  have hsz : hp.objs.size ≤ hp.objs.size + 1 := Nat.le_succ _
  refine wpAny_call (PySem.HandSPX.call_own F.excBase_ValueError (fun Y => PySem.HandSPX.refsVE_contains Y bm hbm) (hK _ _ hC) (PySem.W.looks_findIn hK e.ini) (fun self => PySem.W.bind_fn hK self e.fn) (Nat.zero_le _) ?_)
  refine run (hr.make C [] []).depth (hK.keeps kk) (hgl.keeps kk) (hb1.keeps kk) hb2 (hlim.keeps kk) hget fun h' tk' t1 k e1 => ?_
  refine ⟨rfl, ?_⟩
  have ne : ∀ {b : Addr} {o : Obj}, hp.get? b = some o → b ≠ hp.objs.size + 1 := fun {b o} z => Nat.ne_of_lt (Nat.lt_of_lt_of_le (Heap.lt_size z) hsz)
  have hnone : hp.get? (hp.objs.size + 1) = none := by
    cases z : hp.get? (hp.objs.size + 1) with
    | none => rfl
    | some o => exact absurd rfl (ne z)
  exact ⟨_, _, _, ⟨hp, g, dr, tk, os⟩, H, .ref C, none, rfl, I, fun b o z => k b o (ne z) (kk _ _ z), hnone, e1, ⟨rfl, rfl⟩, rfl, rfl, I.hok.fresh hsz, rfl, I.bare, raises_own e.ox.exC e.ox.tyC, h⟩
theorem pmk_Empty (T : TxX X.prog X.K X.mg X.base) (hr : Room (k + 1) X.A) (hg : Gl X "EmptyChoice") : PMk X (.Call (.Name "EmptyChoice" p) [] [] pos) (fun _ H Q => Q (.ref c_EmptyChoice) none H) :=
  pmk_own0 (excB_ok T.ex_EmptyChoice) hr hg T.g_EmptyChoice (fun h1 h2 h3 h4 h5 h6 h7 h8 => run_iEmp T h1 h2 h3 h4 h5 h6 h7 h8)
theorem pmk_None (T : TxX X.prog X.K X.mg X.base) (hr : Room (k + 1) X.A) (hg : Gl X "NoneNear") : PMk X (.Call (.Name "NoneNear" p) [] [] pos) (fun _ H Q => Q (.ref c_NoneNear) none H) :=
  pmk_own0 (excB_ok T.ex_NoneNear) hr hg T.g_NoneNear (fun h1 h2 h3 h4 h5 h6 h7 h8 => run_iNon T h1 h2 h3 h4 h5 h6 h7 h8)
/-- BadNumber(e) -/
theorem pmk_Bad (T : TxX X.prog X.K X.mg X.base) (hr : Room (k + 1) X.A) (hg : Gl X "BadNumber") {ex : Expr} {ta : TA} (ha : PA X [ex] ta) (he : starEach [ex] X.env = (false, eval ex X.env) :: starEach [] X.env := by rfl) (hpl : (backTo pos (starEach [] X.env)).any (·.1) = false := by rfl) :
    PMk X (.Call (.Name "BadNumber" p) [ex] [] pos) (fun σ H Q => ta σ H fun vs H1 => ∃ v, vs = [v] ∧ ∀ d, H1 d = none → Q (.ref c_BadNumber) (some d) (upd H1 d (.xd [("most", v)]))) := by
  intro pins s σ H Q I h
  have e := excB_ok T.ex_BadNumber
  obtain ⟨nm, q, N, bs, bm, sn, sub, ab, col, dd, k0, k1, k2, k3, k5, hC, hbm⟩ := e.ox.cls
  refine wpAny_Call_Name_kw (ld_glob I hg T.g_BadNumber ?_ (by decide))
  refine PySem.W.callWith_K (h₀ := X.base) I.ok.mod.kin e.ox.kC (thn (ha.run pos pins s σ H _ I h) fun us s1 ⟨vs, H1, I1, r1, v, ev, q1⟩ => ⟨I1.kIn, ?_⟩) he hpl
  subst ev
  obtain ⟨u, rfl, ru⟩ : ∃ u, us = [u] ∧ RelV v u := by
    cases r1 with
    | cons a b => cases b with
      | nil => exact ⟨_, rfl, a⟩
  show wpAny _ _ (call (.ref c_BadNumber) [u]) _ _ _
  obtain ⟨mb, hb1, hb2⟩ := blt_super I1
  have hgl : s1.heap.Ns mainGlobals X.mg := I1.mod.glob.keeps I1.bk
  have hlim := I1.nolimit
  have hK := I1.kIn
  obtain ⟨hp, g, dr, tk, os⟩ := s1
  have kk : ∀ b o, hp.get? b = some o → ((hp.push (PySem.W.kdv_tup [u])).push (PySem.HandSPX.excO c_BadNumber hp.objs.size)).get? b = some o := fun b o e => Heap.get?_push_of_some _ (Heap.get?_push_of_some _ e)
  have hget : ((hp.push (PySem.W.kdv_tup [u])).push (PySem.HandSPX.excO c_BadNumber hp.objs.size)).get? (hp.objs.size + 1) = some (PySem.HandSPX.excO c_BadNumber hp.objs.size) := by heap_get
  have hsz : hp.objs.size ≤ hp.objs.size + 1 := Nat.le_succ _
  have ne : ∀ {b : Addr} {o : Obj}, hp.get? b = some o → b ≠ hp.objs.size + 1 := fun {b o} z => Nat.ne_of_lt (Nat.lt_of_lt_of_le (Heap.lt_size z) hsz)
  have hKe : X.K.lookup (hp.objs.size + 1) = none := by
    cases z : X.K.lookup (hp.objs.size + 1) with
    | none => rfl
    | some o => exact absurd rfl (ne (hK _ _ z))
  refine wpAny_call (PySem.HandSPX.call_own F.excBase_ValueError (fun Y => PySem.HandSPX.refsVE_contains Y bm hbm) (hK _ _ hC) (PySem.W.looks_findIn hK e.ini) (fun self => PySem.W.bind_fn hK self e.fn) (by show 1 ≤ sizeLine; rw [sizeLine_eq]; omega) ?_)
  refine run_iBad T hKe (hr.make c_BadNumber [u] []).depth (hK.keeps kk) (hgl.keeps kk) (hb1.keeps kk) hb2 (hlim.keeps kk) hget fun h2 tk' t1 d k hd dne e1 hns => ?_
  refine ⟨rfl, ?_⟩
  have hd2 : hp.objs.size ≤ d := Nat.le_trans (by rw [Heap.size_push, Heap.size_push]; omega) hd
  have nd : ∀ {b : Addr} {o : Obj}, hp.get? b = some o → b ≠ d := fun {b o} z => Nat.ne_of_lt (Nat.lt_of_lt_of_le (Heap.lt_size z) hd2)
  have hd1 : H1 d = none := I1.hok.fresh hd2
  obtain ⟨G, g1', g2'⟩ := restrict h2 fun b => decide (b ≠ hp.objs.size + 1)
  have gk : ∀ b, b ≠ hp.objs.size + 1 → G.get? b = h2.get? b := fun b hb => g1' b (decide_eq_true hb)
  have ge : G.get? (hp.objs.size + 1) = none := g2' _ (by simp)
  have kG : ∀ b o, hp.get? b = some o → G.get? b = some o := fun b o z => by
    rw [gk b (ne z)]
    exact k b o (ne z) (kk _ _ z)
  have U : Un (frs X.stack) [] H1 (upd H1 d (.xd [("most", v)])) hp G := {
    keep := fun b o z n _ _ => kG b o z
    slot := fun b o z n _ _ => ⟨o.slots, kG b o z⟩
    free := fun b o z n _ => by rw [upd_ne (nd z)]; exact n
    there := fun b o z _ => ⟨o, kG b o z⟩
    tups := fun b xs z => by rw [upd_ne (ne_of_none z hd1)]; exact z
    frzs := fun b o v z => by rw [upd_ne (ne_of_none z hd1)]; exact z
    tbls := fun b ps z => ⟨#[], by rw [upd_ne (ne_of_none z hd1), z]; simp⟩ }
  have hok3 : HOk X.prog X.w (upd H1 d (.xd [("most", v)])) G := fun b o z => by
    by_cases hbd : b = d
    · subst hbd
      rw [upd_same] at z
      cases z
      exact ⟨_, hns.at fun o y => (gk b dne).trans y, relO_put (fs := []) ru fun g => True.intro⟩
    · rw [upd_ne hbd] at z
      exact (I1.hok b o z).stay (fun c v _ y => kG c v y) (fun c hc => by rw [upd_ne (ne_of_none hc hd1)]; exact hc) (fun c xs hc => by rw [upd_ne (ne_of_none hc hd1)]; exact hc)
  have J : Inv X pins σ (upd H1 d (.xd [("most", v)])) ⟨G, g, dr, tk', os⟩ := I1.call' (ch := []) rfl U hok3 I1.bare (fun b z => absurd z (by simp))
  have na : (upd H1 d (.xd [("most", v)])) (hp.objs.size + 1) = none := by
    rw [upd_ne (Ne.symm dne)]
    exact I1.hok.fresh hsz
  exact ⟨_, _, _, ⟨G, g, dr, tk', os⟩, _, .ref c_BadNumber, some d, rfl, J, fun b o z => by
    by_cases hb : b = hp.objs.size + 1
    · rw [hb, ge] at z; cases z
    · exact (gk b hb).symm.trans z, ge, e1, ⟨rfl, rfl⟩, rfl, rfl, na, rfl, I1.bare, raises_own e.ox.exC e.ox.tyC, q1 d hd1⟩
end
end G
set_option maxHeartbeats 4000000
-- text D12
namespace M
theorem ones_le : ∀ (m n : Nat), n < 2 ^ m → ones n ≤ m := by
  intro m
  induction m with
  | zero => intro n h; have : n = 0 := by simpa using h
            subst this; exact Nat.le_refl _
  | succ m ih =>
    intro n h
    rw [ones_eq]
    have := ih (n / 2) (by rw [Nat.pow_succ] at h; omega)
    omega
theorem foldl_max_le : ∀ (l : List Nat) (a b : Nat), a ≤ b → (∀ x ∈ l, x ≤ b) → l.foldl max a ≤ b
  | [], a, b, h, _ => h
  | x :: l, a, b, h, hl => foldl_max_le l (max a x) b (Nat.max_le.mpr ⟨h, hl x List.mem_cons_self⟩) fun y hy => hl y (List.mem_cons_of_mem _ hy)
theorem tops_le {m : Nat} {hs : List Nat} (h : ∀ x ∈ hs, x < 2 ^ m) : tops hs ≤ m := by
  unfold tops
  refine foldl_max_le _ _ _ (Nat.zero_le _) fun x hx => ?_
  obtain ⟨y, hy, rfl⟩ := List.mem_map.mp hx
  exact ones_le m y (h y hy)
theorem foldl_max_ge : ∀ (l : List Nat) (a : Nat), a ≤ l.foldl max a ∧ ∀ x ∈ l, x ≤ l.foldl max a
  | [], a => ⟨Nat.le_refl _, by simp⟩
  | x :: l, a => by
    obtain ⟨h1, h2⟩ := foldl_max_ge l (max a x)
    refine ⟨Nat.le_trans (Nat.le_max_left ..) h1, fun y hy => ?_⟩
    rcases List.mem_cons.mp hy with rfl | hy
    · exact Nat.le_trans (Nat.le_max_right ..) h1
    · exact h2 y hy
theorem le_tops {hs : List Nat} {h : Nat} (e : h ∈ hs) : ones h ≤ tops hs := (foldl_max_ge _ 0).2 _ (List.mem_map.mpr ⟨h, e, rfl⟩)
/-- those of most letters -/
def topH (hs : List Nat) : List Nat := hs.filter fun h => decide (ones h = tops hs)
/-- the least weight -/
def leastW (m : Nat) (hs : List Nat) : Nat := 1 <<< (m - tops hs)
def sureB (m : Nat) (hs : List Nat) (a b : Nat) : Bool := decide (hs = []) || decide (2 * a + b < leastW m hs)
end M
namespace G
open PySem PySem.Spec PyProof.Rows L2 M
section
variable {P : Program} {w : World} {K : PySem.W.Frag} {mg : Str → Option Value} {base : Heap}
theorem ChAt.tl {H : Hp} {c : Addr} {m : Nat} {hs : List Nat} (hc : ChAt H c m hs) : tops hs ≤ m := tops_le hc.ch.lt
/-- the top_size of a choice with heaps, read -/
theorem rd_top {H : Hp} {Q : VK} {E : XK} {c : Addr} {m : Nat} {hs : List Nat} (hc : ChAt H c m hs) (hne : hs ≠ []) (q : ∀ H', Sm H H' → Q (nv (tops hs)) H') : ∃ a dx fs, V.ref c = .ref a ∧ H a = some (.ins c_Choice dx fs) ∧ spTop [.ref a] H Q E :=
  rd_topS hc hne (by have := hc.len; omega) q
theorem one_le_shl (k : Nat) : 1 ≤ 1 <<< k := by rw [Nat.shiftLeft_eq, Nat.one_mul]; exact Nat.one_le_two_pow
def spSure : Sp := fun vs H Q _ => ∃ (c : Addr) (m : Nat) (hs : List Nat), vs = [.ref c] ∧ ChAt H c m hs ∧ ∀ H', Sm H H' → Q (nv (sure m hs)) H'
theorem sc_reads_sure : FnScope ["choice"] ["choice"] (defScope (top 57)) := ⟨rfl, rfl, rfl, by decide +kernel, rfl, by decide +kernel, by decide +kernel⟩
theorem ok_reads_sure (T : Txt K mg) : FnOk P w K mg base CX0 4 a_reads_sure (fdOf K a_reads_sure) ["choice"] spSure := by
  refine T.f_reads_sure.ok sc_reads_sure (fun vs H Q E h => ?len) (fun cdv A outer s H vs Q E hr h => ?body)
  case body =>
    have nd := sc_reads_sure.nd
    refine ⟨_, PSs.nox (pss_cons (ps_if (pt_cmpR o_eq (pe_prop (pv 0) T.cl_Choice (T.pro_size) (ok_size T) (hr.mono (by decide)) (T.b_size) .nil pass0 (by rfl)) (pe_n 0) (nomark _)) (pss_one (ps_ret (pe_op o_shl (pe_n 1) (pe_fld (pv 0) rfl)))) pss_nil)
      (pss_one (ps_ret (pe_op o_div (pe_op o_sub (pe_op o_shl (pe_n 1) (pe_op o_sub (pe_fld (pv 0) rfl) (pe_prop (pv 0) T.cl_Choice (T.pro_top_size) (ok_top_size T) (hr.mono (by decide)) (T.b_top_size) .nil pass0 (by rfl)))) (pe_n 1)) (pe_n 2))))), ?_⟩
    obtain ⟨c, m, hs, rfl, hc, q⟩ := h
    have hm := hc.ch.m5
    walk_at "rd"
    refine rd_size hc ?_
    walk_at "rd"
    refine tdec (fun z => ?_) fun z => ?_
    · have hne : hs ≠ [] := fun e => z (by rw [e]; rfl)
      walk_at "rd"
      refine rd_letters T hc ?_
      walk_at "rd"
      refine rd_top hc hne fun H1 s1 => ?_
      have ht := hc.tl
      refine rd_n ht ?_
      refine rd_n ⟨by omega, by omega⟩ ?_
      walk_at "rd"
      refine rd_n (one_le_shl _) ?_
      walk_at "rd"
      refine rd_n ⟨by omega, by omega⟩ ?_
      have := q H1 s1
      unfold sure at this
      rw [if_neg hne] at this
      exact this
    · have e : hs = [] := List.length_eq_zero_iff.mp z
      walk_at "rd"
      refine rd_letters T hc ?_
      refine rd_n ⟨by omega, by omega⟩ ?_
      have := q H Sm.refl
      unfold sure at this
      rw [if_pos e] at this
      exact this
  case len =>
    obtain ⟨c, m, hs, rfl, _⟩ := h
    rfl
def spMost : Sp := fun vs H Q _ => ∃ (c : Addr) (m : Nat) (hs : List Nat), vs = [.ref c, .non] ∧ ChAt H c m hs ∧ ∀ H', Sm H H' → Q (nv (sure m hs)) H'
theorem sc_checked_most : FnScope ["choice", "most", "sure"] ["choice", "most"] (defScope (top 60)) := ⟨rfl, rfl, rfl, by decide +kernel, rfl, by decide +kernel, by decide +kernel⟩
theorem ok_checked_most (T : Txt K mg) : FnOk P w K mg base CX0 5 a_checked_most (fdOf K a_checked_most) ["choice", "most"] spMost := by
  refine T.f_checked_most.ok sc_checked_most (fun vs H Q E h => ?len) (fun cdv A outer s H vs Q E hr h => ?body)
  case body =>
    have nd := sc_checked_most.nd
    refine ⟨_, PSs.nox (pss_cons (ps_set (i := 2) nd rfl (Or.inl rfl) (pe_call (ok_reads_sure T) (hr.mono (by decide)) rfl (T.g_reads_sure) (T.k_reads_sure) (T.b_reads_sure) .nil pass0 (pa_cons (pv 0) pa_nil)))
      (pss_cons (ps_if (pt_cmpR op_isN (pv 1) pe_non (nomark _)) (pss_one (ps_ret (pv 2))) pss_nil)
      (pss_one (ps_ret (pe_call (ok_check_number T) (hr.mono (by decide)) rfl (T.g_check_number) (T.k_check_number) (T.b_check_number) .nil pass0 (pa_cons (pv 1) (pa_cons (pv 2) pa_nil))))))), ?_⟩
    obtain ⟨c, m, hs, rfl, hc, q⟩ := h
    walk_at "rd"
    refine ⟨c, m, hs, rfl, hc, fun H1 s1 => ?_⟩
    walk_at "rd"
    refine ⟨rfl, rd_bl ?_⟩
    refine tdec (fun z => absurd rfl z) fun _ => ?_
    walk_at "rd"
    exact q H1 s1
  case len =>
    obtain ⟨c, m, hs, rfl, _⟩ := h
    rfl
def spLeast : Sp := fun vs H Q _ => ∃ (c : Addr) (m : Nat) (hs : List Nat), vs = [.ref c] ∧ ChAt H c m hs ∧ hs ≠ [] ∧ ∀ H', Sm H H' → Q (nv (leastW m hs)) H'
theorem sc_least_weight : FnScope ["choice"] ["choice"] (defScope (top 79)) := ⟨rfl, rfl, rfl, by decide +kernel, rfl, by decide +kernel, by decide +kernel⟩
theorem ok_least_weight (T : Txt K mg) : FnOk P w K mg base CX0 5 a_least_weight (fdOf K a_least_weight) ["choice"] spLeast := by
  refine T.f_least_weight.ok sc_least_weight (fun vs H Q E h => ?len) (fun cdv A outer s H vs Q E hr h => ?body)
  case body =>
    have nd := sc_least_weight.nd
    refine ⟨_, PSs.nox (pss_cons (ps_expr (pe_call (ok_check_some T) (hr.mono (by decide)) rfl (T.g_check_some) (T.k_check_some) (T.b_check_some) .nil pass0 (pa_cons (pv 0) pa_nil)))
      (pss_one (ps_ret (pe_op o_shl (pe_n 1) (pe_op o_sub (pe_fld (pv 0) rfl) (pe_prop (pv 0) T.cl_Choice (T.pro_top_size) (ok_top_size T) (hr.mono (by decide)) (T.b_top_size) .nil pass0 (by rfl))))))), ?_⟩
    obtain ⟨c, m, hs, rfl, hc, hne, q⟩ := h
    have hm := hc.ch.m5
    walk_at "rd"
    refine ⟨c, m, hs, rfl, hc, hne, ?_⟩
    walk_at "rd"
    refine rd_letters T hc ?_
    walk_at "rd"
    refine rd_top hc hne fun H1 s1 => ?_
    refine rd_n hc.tl ?_
    refine rd_n ⟨by omega, by omega⟩ ?_
    exact q H1 s1
  case len =>
    obtain ⟨c, m, hs, rfl, _⟩ := h
    rfl
def spTopH : Sp := fun vs H Q _ => ∃ (c : Addr) (m : Nat) (hs : List Nat), vs = [.ref c] ∧ ChAt H c m hs ∧ hs ≠ [] ∧ NewL H (topH hs) Q
theorem sc_top_heaps : FnScope ["choice", "heap"] ["choice"] (defScope (top 83)) := ⟨rfl, rfl, rfl, by decide +kernel, rfl, by decide +kernel, by decide +kernel⟩
theorem ok_top_heaps (T : Txt K mg) : FnOk P w K mg base CX0 4 a_top_heaps (fdOf K a_top_heaps) ["choice"] spTopH := by
  refine T.f_top_heaps.ok sc_top_heaps (fun vs H Q E h => ?len) (fun cdv A outer s H vs Q E hr h => ?body)
  case body =>
    have nd := sc_top_heaps.nd
    refine ⟨_, PSs.nox (pss_one (ps_ret (pe_lc (own := [("heap", 1)]) rfl nd (pi_tup (pe_fld (pv 0) rfl)) (blkOk_by (N := ["choice", "heap"]) (sc := defScope (top 83)) (by decide +kernel)) (fun _ _ _ _ _ => (pg_name (i := 1) nd rfl (.inl rfl))) (fun _ _ _ _ _ => (pts_one (pt_cmpR o_eq (pe_call (ok_count_ones T) (hr.mono (by decide)) rfl (T.g_count_ones) (T.k_count_ones) (T.b_count_ones) .nil pass0 (pa_cons (pv 1) pa_nil)) (pe_prop (pv 0) T.cl_Choice (T.pro_top_size) (ok_top_size T) (hr.mono (by decide)) (T.b_top_size) .nil pass0 (by rfl)) (nomark _)))) (fun _ _ _ _ _ => (pv 1))))), ?_⟩
    obtain ⟨c, m, hs, rfl, hc, hne, q⟩ := h
    have hm := hc.ch.m5
    walk_at "rd"
    refine rd_heaps T hc fun t et => ?_
    refine lc_tupJ (sqT_of et) (line32 (by have := hc.len; omega)) (fun g => decide (ones g = tops hs)) nv (fun g hg H2 D2 s2 Nx g1 g2 => ?_) (fun H2 D2 s2 hD e => ?_)
    · walk_at "rd"
      refine ⟨g, rfl, ?_⟩
      walk_at "rd"
      refine rd_top (hc.mono s2) hne fun H3 s3 => ?_
      walk_at "rd"
      refine tdec (fun z => ?_) fun z => ?_
      · exact g1 _ s3 (decide_eq_false z)
      · walk_at "rd"
        exact g2 _ s3 (decide_eq_true z)
    · exact q _ _ s2 e
  case len =>
    obtain ⟨c, m, hs, rfl, _⟩ := h
    rfl
def spSureB : Sp := fun vs H Q _ => ∃ (c : Addr) (m : Nat) (hs : List Nat) (a b : Nat), vs = [.ref c, nv a, nv b] ∧ ChAt H c m hs ∧ ∀ H', Sm H H' → Q (.bl (sureB m hs a b)) H'
theorem sc_is_sure : FnScope ["choice", "wrong", "lost"] ["choice", "wrong", "lost"] (defScope (top 90)) := ⟨rfl, rfl, rfl, by decide +kernel, rfl, by decide +kernel, by decide +kernel⟩
theorem ok_is_sure (T : Txt K mg) : FnOk P w K mg base CX0 4 a_is_sure (fdOf K a_is_sure) ["choice", "wrong", "lost"] spSureB := by
  refine T.f_is_sure.ok sc_is_sure (fun vs H Q E h => ?len) (fun cdv A outer s H vs Q E hr h => ?body)
  case body =>
    have nd := sc_is_sure.nd
    refine ⟨_, PSs.nox (pss_cons (ps_if (pt_cmpR o_eq (pe_prop (pv 0) T.cl_Choice (T.pro_size) (ok_size T) (hr.mono (by decide)) (T.b_size) .nil pass0 (by rfl)) (pe_n 0) (nomark _)) (pss_one (ps_ret pe_bl)) pss_nil)
      (pss_one (ps_ret (pe_cmpR o_lt (pe_op o_add (pe_op o_mul (pe_n 2) (pv 1)) (pv 2)) (pe_op o_shl (pe_n 1) (pe_op o_sub (pe_fld (pv 0) rfl) (pe_prop (pv 0) T.cl_Choice (T.pro_top_size) (ok_top_size T) (hr.mono (by decide)) (T.b_top_size) .nil pass0 (by rfl)))) (nomark _))))), ?_⟩
    obtain ⟨c, m, hs, a, b, rfl, hc, q⟩ := h
    have hm := hc.ch.m5
    walk_at "rd"
    refine rd_size hc ?_
    walk_at "rd"
    refine tdec (fun z => ?_) fun z => ?_
    · have hne : hs ≠ [] := fun e => z (by rw [e]; rfl)
      walk_at "rd"
      refine rd_n (by omega) ?_
      walk_at "rd"
      refine rd_letters T hc ?_
      walk_at "rd"
      refine rd_top hc hne fun H1 s1 => ?_
      refine rd_n hc.tl ?_
      refine rd_n ⟨by omega, by omega⟩ ?_
      walk_at "rd"
      have := q H1 s1
      unfold sureB at this
      rw [decide_eq_false hne, Bool.false_or] at this
      exact this
    · have e : hs = [] := List.length_eq_zero_iff.mp z
      walk_at "rd"
      have := q H Sm.refl
      unfold sureB at this
      rw [decide_eq_true e, Bool.true_or] at this
      exact this
  case len =>
    obtain ⟨c, m, hs, a, b, rfl, hc, q⟩ := h
    rfl
end
end G
set_option maxHeartbeats 4000000
-- text D13
namespace G
open PySem PySem.Spec PyProof.Rows L2 M GG
section
variable {P : Program} {w : World} {K : PySem.W.Frag} {mg : Str → Option Value} {base : Heap}
/-! ### readings in a generator -/
section
variable {D : GE} {u : U} {σ : L2.St} {H : Hp}
theorem rd_yP {t : Shared → Hp → TS} (h : ∀ s0 H0, t s0 H0 (D.at u) σ H) : tYP t D u σ H := h
theorem rd_atnx (h : D.nx u σ H) : (D.at u).nx σ H := h
theorem rd_atrt {v : V} (h : D.rt u v H) : (D.at u).rt v H := h
theorem rd_yThen {t v : TY} (h : t { D with nx := fun u' σ' H' => v D u' σ' H' } u σ H) : tYThen t v D u σ H := h
theorem rd_yIf {c : Shared → Hp → TT} {t v : TY} (h : ∀ s0 H0, c s0 H0 σ H fun b H1 => if b = true then t D u σ H1 else v D u σ H1) : tYIf c t v D u σ H := h
theorem rd_yY {item : Nat → V → Hp → Prop} {te : Shared → Hp → TE} (h : ∀ s0 H0, te s0 H0 σ H fun x H1 => ∃ r', u.r = r' + 1 ∧ ∃ G' : Addr → Prop, (∀ b, G' b → H1 b ≠ none ∧ (u.G b ∨ u.Hr b = none)) ∧ item u.i x H1 ∧ Kp u.Hr H1 ∧ ∀ H2, (∀ b, G' b → H2 b = H1 b) → D.nx ⟨r', u.i + 1, H2, G'⟩ σ H2) : tYY item te D u σ H := h
theorem rd_yFor {wi : Shared → Hp → TI} {gg : Shared → Hp → TG} {tb : TY} (h : ∀ s0 H0, wi s0 H0 σ H fun J H1 => ∃ W : Nat → Nat → U → L2.St → Hp → Prop, (∃ m, W 0 m u σ H1) ∧ ∀ i m u σ H, W i m u σ H →
  (J.stop i H ∧ D.nx u σ H) ∨ (J.go i H ∧ ∃ N : U → L2.St → Hp → Prop, (∀ u' σ' H', N u' σ' H' → ∃ m', m' < m ∧ W (i + 1) m' u' σ' H') ∧ ∀ x H', J.yld i H x H' → ∀ s0 H0, gg s0 H0 x σ H' fun σ2 H2 => tb { D with nx := N, ct := N, bk := D.nx } u σ2 H2)) : tYFor wi gg tb D u σ H := h
end
local macro_rules | `(tactic| walk_at "ry1") => `(tactic| first | walk_at "rd1" | with_reducible first | refine rd_atnx ?_ | refine rd_atrt ?_ | refine rd_yThen ?_ | (refine rd_yP ?_; intro _ _) | (refine rd_yIf ?_; intro _ _) | (refine rd_yY ?_; intro _ _) | (refine rd_yFor ?_; intro _ _))
local macro_rules | `(tactic| walk_at "ry") => `(tactic| repeat walk_at "ry1")
theorem split_step {α : Type} {L X : List α} {i : Nat} {a : α} (hi : i ≤ L.length) (h : L = L.take i ++ a :: X) : L[i]? = some a ∧ L = L.take (i + 1) ++ X ∧ i + 1 ≤ L.length := by
  have hl : (L.take i).length = i := by rw [List.length_take]; omega
  have h1 : L[i]? = some a := by
    rw [h, List.getElem?_append_right (by omega), hl, Nat.sub_self]; rfl
  refine ⟨h1, ?_, (List.getElem?_eq_some_iff.mp h1).1⟩
  rw [List.take_add_one, h1, List.append_assoc]
  exact h
theorem steps_none {m h r : Nat} {t : List Nat} (e : bitOf (votes m r h) = none) : stepsF m (h :: t) r = [(h, votes m r h, none, r)] := by
  unfold stepsF; rw [e]
theorem steps_some {m h r b : Nat} {t : List Nat} (e : bitOf (votes m r h) = some b) : stepsF m (h :: t) r = (h, votes m r h, some b, if b = 1 then r ^^^ heapW m h else r) :: stepsF m t (if b = 1 then r ^^^ heapW m h else r) := by
  show (match bitOf (votes m r h) with | none => _ | some b => _) = _
  rw [e]
theorem full_xor {m a b : Nat} (ha : a ≤ full m) (hb : b ≤ full m) : a ^^^ b ≤ full m := by
  rw [full_eq] at *
  have h1 : 0 < 2 ^ 2 ^ m := Nat.two_pow_pos _
  have := Nat.xor_lt_two_pow (n := 2 ^ m) (x := a) (y := b) (by omega) (by omega)
  omega
theorem heapW_le {m g : Nat} (h : g < 2 ^ m) : heapW m g ≤ full m := stepped_le (pow_le_full h)
theorem ordOf_mem {hs : List Nat} {g : Nat} : g ∈ ordOf hs ↔ g ∈ hs := List.mem_mergeSort
def bitV : Option Nat → V
  | none => .non
  | some b => nv b
/-- what the steps hand out -/
def itemS (K : PySem.W.Frag) (L : List (Nat × List Nat × Option Nat × Nat)) (i : Nat) (x : V) (H : Hp) : Prop := Tabs (tabl K) H ∧
  ∀ h vs b r, L[i]? = some (h, vs, b, r) → ∃ v dv tv, x = .ref v ∧ H v = some (.ins c_Voted dv [("heap", nv h), ("votes", .ref tv), ("bit", bitV b), ("rest", nv r)]) ∧ H tv = some (.tup (nvs vs))
theorem itemS.mono {L : List (Nat × List Nat × Option Nat × Nat)} {i : Nat} {x : V} {H H' : Hp} (s : Sm H H') (h : itemS K L i x H) : itemS K L i x H' := by
  refine ⟨h.1.ext s, fun g vs b r e => ?_⟩
  obtain ⟨v, dv, tv, e1, e2, e3⟩ := h.2 g vs b r e
  exact ⟨v, dv, tv, e1, s _ _ e2, s _ _ e3⟩
def spSteps (K : PySem.W.Frag) : SpY := fun vs H n it G => ∃ (c : Addr) (m : Nat) (hs : List Nat) (u : Nat) (x0 : Addr) (l0 : List V), vs = [.ref c, nv u] ∧ ChAt H c m hs ∧ u ≤ full m ∧ Tabs (tabl K) H ∧ H x0 = some (.lst l0) ∧
  n = (stepsF m (ordOf hs) u).length ∧ it = itemS K (stepsF m (ordOf hs) u) ∧ G = fun b => H b ≠ none ∧ b ≠ x0
/-- what the generator leans on -/
def Hold (K : PySem.W.Frag) (c : Addr) (m : Nat) (hs : List Nat) (ord : Addr) (H : Hp) : Prop := Tabs (tabl K) H ∧ ChAt H c m hs ∧ H ord = some (.lst (nvs (ordOf hs)))
def YOk (Ho : Hp → Prop) (u : U) (H : Hp) : Prop := Kp u.Hr H ∧ ∀ H2, (∀ b, H b ≠ none → (u.G b ∨ u.Hr b = none) → H2 b = H b) → Ho H2
theorem YOk.hold {Ho : Hp → Prop} {u : U} {H : Hp} (h : YOk Ho u H) : Ho H := h.2 H fun _ _ _ => rfl
theorem YOk.mono {Ho : Hp → Prop} {u : U} {H H' : Hp} (h : YOk Ho u H) (s : Sm H H') : YOk Ho u H' := by
  refine ⟨fun b o e n1 n2 => s b o (h.1 b o e n1 n2), fun H2 a => h.2 H2 fun b hb g => ?_⟩
  cases e : H b with
  | none => exact absurd e hb
  | some o =>
    have e2 := s b o e
    rw [a b (by rw [e2]; simp) g, e2]
theorem YOk.next {Ho : Hp → Prop} {u : U} {H1 H2 : Hp} {r i : Nat} (h : YOk Ho u H1) (a : ∀ b, (H1 b ≠ none ∧ (u.G b ∨ u.Hr b = none)) → H2 b = H1 b) : YOk Ho ⟨r, i, H2, fun b => H1 b ≠ none ∧ (u.G b ∨ u.Hr b = none)⟩ H2 := by
  refine ⟨fun _ _ e _ _ => e, fun H3 a3 => h.2 H3 fun b hb g => ?_⟩
  have e := a b ⟨hb, g⟩
  rw [a3 b (by show H2 b ≠ none; rw [e]; exact hb) (.inl ⟨hb, g⟩), e]
theorem hold_start {c ord x0 : Addr} {m n : Nat} {hs : List Nat} {l0 : List V} {H0 H : Hp} (g : Gr K H0 H) (t : Tabs (tabl K) H) (hc : ChAt H0 c m hs) (n0 : H0 ord = none) (e : H ord = some (.lst (nvs (ordOf hs)))) (e0 : H0 x0 = some (.lst l0)) : YOk (Hold K c m hs ord) ⟨n, 0, H0, fun b => H0 b ≠ none ∧ b ≠ x0⟩ H := by
  have hx := g.lst e0
  refine ⟨g.1, fun H2 a => ?_⟩
  have key : ∀ b o, H b = some o → o ≠ .lst l0 → H2 b = some o := fun b o eb ne => by
    have nb : b ≠ x0 := fun z => by rw [z, hx] at eb; exact ne (Option.some.inj eb).symm
    rw [a b (by rw [eb]; simp) ?_, eb]
    by_cases z : H0 b = none
    · exact .inr z
    · exact .inl ⟨z, nb⟩
  refine ⟨fun p hp => ?_, ?_, ?_⟩
  · obtain ⟨ps, h1, h2, h3⟩ := t p hp
    refine ⟨ps, key _ _ h1 (fun z => by cases z), h2, fun pos cv hcv => ?_⟩
    obtain ⟨c', e1, e2⟩ := h3 pos cv hcv
    exact ⟨c', e1, key _ _ e2 (fun z => by unfold LamX.CodeO at z; cases z)⟩
  · have hc2 := hc.gr g
    obtain ⟨h0, dx, tt, e1, e2⟩ := hc2
    exact ⟨h0, dx, tt, key _ _ e1 (fun z => by cases z), key _ _ e2 (fun z => by cases z)⟩
  · have nb : ord ≠ x0 := fun z => by rw [z, e0] at n0; cases n0
    rw [a ord (by rw [e]; simp) (.inr n0), e]
theorem Hold.mono {c ord : Addr} {m : Nat} {hs : List Nat} {H H' : Hp} (h : Hold K c m hs ord H) (s : Sm H H') : Hold K c m hs ord H' := ⟨h.1.ext s, h.2.1.mono s, s _ _ h.2.2⟩
theorem yield_voted {Ho : Hp → Prop} {u' : U} {H3 : Hp} {g i r : Nat} {vs : List Nat} {b : Option Nat} {tv : Addr} {L : List (Nat × List Nat × Option Nat × Nat)} {E : XK} {nx : Nat → Hp → (Addr → Prop) → Prop} (y3 : YOk Ho u' H3) (hT : ∀ H, Ho H → Tabs (tabl K) H) (hui : u'.i = i) (hur : u'.r = L.length - i) (hil : i + 1 ≤ L.length) (hL : L[i]? = some (g, vs, b, r)) (e3 : H3 tv = some (.tup (nvs vs)))
    (hn : ∀ r' H2 G', YOk Ho ⟨r', i + 1, H2, G'⟩ H2 → r' = L.length - (i + 1) → nx r' H2 G') :
    ∀ x dx, H3 x = none → H3 dx = none → dx ≠ x → spRec c_Voted ["heap", "votes", "bit", "rest"] [.ref x, nv g, .ref tv, bitV b, nv r] (upd (upd H3 dx (.own x)) x (.ins c_Voted dx [])) (fun v H2 => v = .non ∧ ∃ r', u'.r = r' + 1 ∧ ∃ G' : Addr → Prop, (∀ b, G' b → H2 b ≠ none ∧ (u'.G b ∨ u'.Hr b = none)) ∧ itemS K L u'.i (.ref x) H2 ∧ Kp u'.Hr H2 ∧ ∀ H2', (∀ b, G' b → H2' b = H2 b) → nx r' H2' G') E := by
  intro x dx hx hdx hne
  refine ⟨x, dx, [nv g, .ref tv, bitV b, nv r], rfl, rfl, upd_same, rfl, ?_⟩
  rw [upd_upd]
  have s4 : Sm H3 (upd (upd H3 dx (.own x)) x (.ins c_Voted dx [("heap", nv g), ("votes", .ref tv), ("bit", bitV b), ("rest", nv r)])) := (Sm.new hdx).upd hx
  have y4 := y3.mono s4
  refine ⟨L.length - (i + 1), by omega, fun b => (upd (upd H3 dx (.own x)) x (.ins c_Voted dx [("heap", nv g), ("votes", .ref tv), ("bit", bitV _), ("rest", nv r)])) b ≠ none ∧ (u'.G b ∨ u'.Hr b = none), fun _ h => h, ⟨hT _ y4.hold, ?_⟩, y4.1, fun H2' a => ?_⟩
  · intro h' vs' b' r' e
    rw [hui, hL] at e
    cases e
    exact ⟨x, dx, tv, rfl, upd_same, s4 _ _ e3⟩
  · exact hn _ _ _ (y4.next a) rfl
def StepI (K : PySem.W.Frag) (c : Addr) (m : Nat) (hs : List Nat) (ord : Addr) (u i : Nat) (u' : U) (σ' : L2.St) (H' : Hp) : Prop := i ≤ (ordOf hs).length ∧ u'.i = i ∧ YOk (Hold K c m hs ord) u' H' ∧ ∃ r v1 v2 v3 v4, σ' = [some (.ref c), some (nv u), some (nv r), v1, v2, v3, v4] ∧ r ≤ full m ∧
  stepsF m (ordOf hs) u = (stepsF m (ordOf hs) u).take i ++ stepsF m ((ordOf hs).drop i) r ∧ i ≤ (stepsF m (ordOf hs) u).length ∧ u'.r = (stepsF m (ordOf hs) u).length - i
theorem sc_read_steps : GScope ["choice", "word", "rest", "heap", "votes", "ones", "bit"] ["choice", "word"] (defScope (top 59)) := ⟨rfl, rfl, rfl, by decide +kernel, rfl, by decide +kernel, by decide +kernel⟩
theorem ok_read_steps (T' : TxB K mg base) : GenOk P w K mg base 6 a_read_steps (fdOf K a_read_steps) ["choice", "word"] (spSteps K) := by
  have T := T'.toTxt
  refine genOk_of T.f_read_steps sc_read_steps (fun vs H n it G h => ?len) (fun cdv L eP ew eK emg ebase eN equal escope ef ecd ok hr H vs n G h => ?body)
  case body =>
    have nd := sc_read_steps.nd
    obtain ⟨LP, Lw, LK, Lmg, Lbase, LN, Lqual, Lscope, Lf, Lcd, LX, Lpins, La, Lg, Lgo, LA, Ln0, Litem⟩ := L
    dsimp only at eP ew eK emg ebase eN equal escope ef ecd
    replace eP := eP.symm
    replace ew := ew.symm
    replace eK := eK.symm
    replace emg := emg.symm
    replace ebase := ebase.symm
    subst eP ew eK emg ebase eN equal escope ef ecd
    refine ⟨_, (gys_cons (gy_ps fun _ _ => (ps_set (i := 2) nd rfl (Or.inl rfl) (pe_call (ok_check_word T) (hr.mono (by decide)) rfl (T.g_check_word) (T.k_check_word) (T.b_check_word) .nil pass0 (pa_cons (pe_fld (pv 0) rfl) (pa_cons (pv 1) pa_nil)))))
      (gys_one (gy_for (fun _ _ => (pi_list (pe_call (ok_voting_order T') (hr.mono (by decide)) rfl (T.g_voting_order) (T.k_voting_order) (T.b_voting_order) .nil pass0 (pa_cons (pv 0) pa_nil)))) (fun _ _ => (pg_name (i := 3) nd rfl (.inl rfl))) (gys_cons (gy_ps fun _ _ => (ps_set (i := 4) nd rfl (Or.inl rfl) (pe_call (ok_votes_for T) (hr.mono (by decide)) rfl (T.g_votes_for) (T.k_votes_for) (T.b_votes_for) .nil pass0 (pa_cons (pe_fld (pv 0) rfl) (pa_cons (pv 2) (pa_cons (pv 3) pa_nil))))))
      (gys_cons (gy_ps fun _ _ => (ps_set (i := 5) nd rfl (Or.inl rfl) (pe_callB (GX.cr_sumT rfl) (by rfl) (T.n_sum) (by decide +kernel) (pa_cons (pv 4) pa_nil))))
      (gys_cons (gy_if (fun _ _ => (pt_cmpR o_eq (pe_op o_mul (pe_n 2) (pv 5)) (pe_callB (call_len) (by rfl) (T.n_len) (by decide +kernel) (pa_cons (pv 4) pa_nil)) (nomark _))) (gys_cons (gy_yield ok fun _ _ => (pe_make (T.mk_Voted) (ok_Voted T) (hr.mono (by decide)) rfl (T.g_Voted) (T.b_Voted) .nil pass0 (pa_cons (pv 3) (pa_cons (pv 4) (pa_cons pe_non (pa_cons (pv 2) pa_nil))))))
      (gys_one (gy_ps fun _ _ => ps_retN))) (gys_pss fun _ _ => pss_nil))
      (gys_cons (gy_ps fun _ _ => (ps_set (i := 6) nd rfl (Or.inl rfl) (pe_ifExp (pt_cmpR o_gt (pe_op o_mul (pe_n 2) (pv 5)) (pe_callB (call_len) (by rfl) (T.n_len) (by decide +kernel) (pa_cons (pv 4) pa_nil)) (nomark _)) (pe_n 1) (pe_n 0))))
      (gys_cons (gy_ps fun _ _ => (ps_if (pt_cmpR o_eq (pv 6) (pe_n 1) (nomark _)) (pss_one (ps_set (i := 2) nd rfl (Or.inl rfl) (pe_op o_xor (pv 2) (pe_call (ok_heap_word T) (hr.mono (by decide)) rfl (T.g_heap_word) (T.k_heap_word) (T.b_heap_word) .nil pass0 (pa_cons (pe_fld (pv 0) rfl) (pa_cons (pv 3) pa_nil)))))) pss_nil))
      (gys_one (gy_yield ok fun _ _ => (pe_make (T.mk_Voted) (ok_Voted T) (hr.mono (by decide)) rfl (T.g_Voted) (T.b_Voted) .nil pass0 (pa_cons (pv 3) (pa_cons (pv 4) (pa_cons (pv 6) (pa_cons (pv 2) pa_nil))))))))))))))), ?_⟩
    obtain ⟨c, m, hs, u, x0, l0, rfl, hc, hu, ht, hx0, rfl, hit, rfl⟩ := h
    subst hit
    have h1 := hc.ch.m1
    have h5 := hc.ch.m5
    walk_at "ry"
    refine rd_letters T hc ?_
    walk_at "ry"
    refine ⟨m, u, rfl, h1, h5, hu, ?_⟩
    walk_at "ry"
    refine ⟨c, m, hs, rfl, hc, ht, fun ord H1 g1 t1 n1 e1 => ?_⟩
    have y1 := hold_start (n := (stepsF m (ordOf hs) u).length) g1 t1 hc n1 e1 hx0
    refine ⟨ord, rfl, ⟨_, sqL_of e1⟩, ?_⟩
    refine Exists.intro (fun i m' u' σ' H' => m' = (ordOf hs).length - i ∧ StepI K c m hs ord u i u' σ' H') (And.intro ⟨_, rfl, Nat.zero_le _, rfl, y1, u, none, none, none, none, rfl, hu, rfl, Nat.zero_le _, rfl⟩ ?_)
    rintro i m' u' σ' H' ⟨rfl, hi, hui, yo, r, v1, v2, v3, v4, rfl, hr', hst, hil, hur⟩
    have eo := yo.hold.2.2
    by_cases hlt : i < (ordOf hs).length
    · right
      refine ⟨⟨_, nv (ordOf hs)[i], sqL_of eo, by rw [List.getElem?_map, List.getElem?_eq_getElem hlt]; rfl⟩, StepI K c m hs ord u (i + 1), fun u2 σ2 H2 n2 => ⟨_, by omega, rfl, n2⟩, fun x H2 y => ?_⟩
      · obtain ⟨rfl, hx⟩ := y
        have hx2 := hx _ (sqL_of eo)
        rw [List.getElem?_map, List.getElem?_eq_getElem hlt] at hx2
        have ex : x = nv (ordOf hs)[i] := (Option.some.inj hx2).symm
        subst ex
        intro s0 H0
        clear ok hr
        have hg2 : (ordOf hs)[i] < 2 ^ m := hc.ch.lt _ (ordOf_mem.mp (List.getElem_mem hlt))
        rw [List.drop_eq_getElem_cons hlt] at hst
        generalize (ordOf hs)[i] = g at hst hg2
        generalize hL : stepsF m (ordOf hs) u = L at hst hil hur
        walk_at "ry"
        refine rd_letters T yo.hold.2.1 ?_
        walk_at "ry"
        refine ⟨m, r, g, rfl, h1, h5, hr', hg2, fun tv H3 s3 e3 => ?_⟩
        have e4 := e3
        rw [nvs_int] at e4
        have y3 := yo.mono s3
        walk_at "ry"
        refine ⟨tv, _, rfl, sqT_of e4, ?_⟩
        rw [sum_cast]
        walk_at "ry"
        refine rd_n (by decide) ?_
        walk_at "ry"
        refine ⟨_, _, rfl, .inr ⟨_, sqT_of e3, rfl⟩, ?_⟩
        walk_at "ry"
        rw [List.length_map]
        have hT : ∀ H, Hold K c m hs ord H → Tabs (tabl K) H := fun _ h => h.1
        refine tdec (fun z => ?_) fun z => ?_
        · by_cases z2 : (votes m r g).length < 2 * (votes m r g).sum
          · have hb : bitOf (votes m r g) = some 1 := by unfold bitOf; rw [if_neg z, if_pos z2]
            rw [steps_some hb, if_pos rfl] at hst
            obtain ⟨hi1, hst2, hil2⟩ := split_step hil hst
            walk_at "ry"
            refine rd_n (by decide) ?_
            walk_at "ry"
            refine ⟨_, _, rfl, .inr ⟨_, sqT_of e3, rfl⟩, ?_⟩
            walk_at "ry"
            rw [List.length_map]
            refine tdec (fun z3 => absurd z2 z3) fun _ => ?_
            walk_at "ry"
            refine tdec (fun z3 => absurd rfl z3) fun _ => ?_
            walk_at "ry"
            refine rd_letters T y3.hold.2.1 ?_
            walk_at "ry"
            refine ⟨m, g, rfl, h1, h5, hg2, ?_⟩
            walk_at "ry"
            refine yield_voted (b := some 1) y3 hT hui hur hil2 hi1 e3 fun r' H2 G' y5 er => ?_
            refine ⟨by omega, by rw [hui], ?_, r ^^^ heapW m g, _, _, _, _, rfl, full_xor hr' (heapW_le hg2), ?_, ?_, ?_⟩
            · rw [hui]; exact y5
            · rw [hL]; exact hst2
            · rw [hL]; exact hil2
            · rw [hL]; exact er
          · have hb : bitOf (votes m r g) = some 0 := by unfold bitOf; rw [if_neg z, if_neg z2]
            rw [steps_some hb, if_neg (by decide)] at hst
            obtain ⟨hi1, hst2, hil2⟩ := split_step hil hst
            walk_at "ry"
            refine rd_n (by decide) ?_
            walk_at "ry"
            refine ⟨_, _, rfl, .inr ⟨_, sqT_of e3, rfl⟩, ?_⟩
            walk_at "ry"
            rw [List.length_map]
            refine tdec (fun _ => ?_) fun z3 => absurd z3 z2
            walk_at "ry"
            refine tdec (fun _ => ?_) fun z3 => absurd z3 (by decide)
            walk_at "ry"
            refine yield_voted (b := some 0) y3 hT hui hur hil2 hi1 e3 fun r' H2 G' y5 er => ?_
            refine ⟨by omega, by rw [hui], ?_, r, _, _, _, _, rfl, hr', ?_, ?_, ?_⟩
            · rw [hui]; exact y5
            · rw [hL]; exact hst2
            · rw [hL]; exact hil2
            · rw [hL]; exact er
        · have hb : bitOf (votes m r g) = none := by unfold bitOf; rw [if_pos z]
          rw [steps_none hb] at hst
          obtain ⟨hi1, hst2, hil2⟩ := split_step hil hst
          have hl3 : L.length = i + 1 := by
            have := congrArg List.length hst
            rw [List.length_append, List.length_take, List.length_singleton] at this
            omega
          walk_at "ry"
          refine yield_voted (b := none) y3 hT hui hur hil2 hi1 e3 fun r' H2 G' y5 er => ?_
          walk_at "ry"
          refine ⟨rfl, by show r' = 0; omega, fun _ _ e _ _ => e, hT _ y5.hold, fun h' vs' b' rr' e => ?_⟩
          rw [hui] at e
          have e2 : L[i + 1]? = some (h', vs', b', rr') := e
          rw [List.getElem?_eq_none (by omega)] at e2
          cases e2
    · left
      have ei : i = (ordOf hs).length := by omega
      have hd : (ordOf hs).drop i = [] := List.drop_eq_nil_of_le (by omega)
      rw [hd] at hst
      have hl3 : (stepsF m (ordOf hs) u).length = i := by
        have := congrArg List.length hst
        rw [List.length_append, List.length_take] at this
        have z : (stepsF m [] r).length = 0 := rfl
        omega
      refine ⟨⟨_, sqL_of eo, by rw [List.length_map]; omega⟩, by rw [hur]; omega, yo.1, yo.hold.1, fun h' vs' b' rr' e => ?_⟩
      rw [hui, List.getElem?_eq_none (by omega)] at e
      cases e
  case len =>
    obtain ⟨c, m, hs, u, x0, l0, rfl, hc, _⟩ := h
    rfl
end
end G
set_option maxHeartbeats 4000000
-- text D14
namespace M
abbrev StepT : Type := Nat × List Nat × Option Nat × Nat
def builtF (m : Nat) (L : List StepT) : Nat := L.foldl (fun b s => if s.2.2.1 = some 1 then b ^^^ heapW m s.1 else b) 0
inductive RRes where
  | tie (h : Nat)
  | far (b : Nat) (ws : List Nat)
  | read (b : Nat) (ws : List Nat)
/-- read_votes -/
def readF (m : Nat) (hs : List Nat) (ord : List Nat) (u : Nat) : RRes :=
  match (stepsF m ord u).find? fun s => decide (s.2.2.1 = none) with
  | some s => .tie s.1
  | none => if sure m hs < (onesOf m (u ^^^ builtF m (stepsF m ord u))).length then .far (builtF m (stepsF m ord u)) (onesOf m (u ^^^ builtF m (stepsF m ord u))) else .read (builtF m (stepsF m ord u)) (onesOf m (u ^^^ builtF m (stepsF m ord u)))
end M
namespace G
open PySem PySem.Spec PyProof.Rows L2 M GG
section
variable {P : Program} {w : World} {K : PySem.W.Frag} {mg : Str → Option Value} {base : Heap}
theorem pe_fldK {X : Cx} {K : PySem.W.Frag} {e : Expr} {f : Str} {pos : Pos} {ta : TE} (hK : X.K = K) (he : PE X e ta) (hb : attributeBase e f X.env (eval e X.env) = eval e X.env) : PE X (.Attribute e f pos) (tFld K ta f) := by
  subst hK
  exact pe_fld he hb
def RdAt (H : Hp) (v : V) : RRes → Prop
  | .tie h => ∃ a dx, v = .ref a ∧ H a = some (.ins c_Tie dx [("heap", nv h)])
  | .far b ws => ∃ a dx t g, v = .ref a ∧ H a = some (.ins c_Far dx [("word", nv b), ("wrong", .ref t), ("against", g)]) ∧ H t = some (.tup (nvs ws))
  | .read b ws => ∃ a dx t g, v = .ref a ∧ H a = some (.ins c_Read dx [("word", nv b), ("wrong", .ref t), ("against", g)]) ∧ H t = some (.tup (nvs ws))
theorem rd_forY {sp : SpY} {dvs : List V} {ta : TA} {gg : TG} {tb : TS} {D : Ends} {σ : L2.St} {H : Hp} (h : ta σ H fun vs H1 => ∃ (n : Nat) (item : Nat → V → Hp → Prop) (G0 : Addr → Prop), sp (vs ++ dvs) H1 n item G0 ∧
  (∀ i x H H', (∀ b o, H b = some o → H' b = some o) → item i x H → item i x H') ∧ ∃ W : Nat → (Addr → Prop) → L2.St → Hp → Prop, W 0 G0 σ H1 ∧ ∀ i G σ H, W i G σ H →
    (i = n → ∀ H', Kp H H' → item i .non H' → D.nx σ H') ∧ (i < n → ∀ x H' G', Kp H H' → (∀ b, G' b → H' b ≠ none ∧ (G b ∨ H b = none ∨ ∃ o, H' b = some o ∧ PL b o)) → item i x H' → gg x σ H' fun σ2 H2 =>
      tb { D with nx := fun σ3 H3 => W (i + 1) G' σ3 H3 ∧ ∀ b, G' b → H3 b = H' b, ct := fun σ3 H3 => W (i + 1) G' σ3 H3 ∧ ∀ b, G' b → H3 b = H' b, bk := D.nx } σ2 H2)) : tForY sp dvs ta gg tb D σ H := h
theorem steps_len (m : Nat) : ∀ (ord : List Nat) (u : Nat), (stepsF m ord u).length ≤ ord.length
  | [], _ => Nat.le_refl _
  | h :: t, u => by
    cases e : bitOf (votes m u h) with
    | none => rw [steps_none e]; simp
    | some b =>
      rw [steps_some e, List.length_cons, List.length_cons]
      have := steps_len m t (if b = 1 then u ^^^ heapW m h else u)
      omega
theorem steps_mem (m : Nat) : ∀ (ord : List Nat) (u : Nat), ∀ s ∈ stepsF m ord u, s.1 ∈ ord
  | [], _, s, hs => by cases hs
  | h :: t, u, s, hs => by
    cases e : bitOf (votes m u h) with
    | none =>
      rw [steps_none e] at hs
      rw [List.mem_singleton.mp hs]; exact List.mem_cons_self
    | some b =>
      rw [steps_some e] at hs
      rcases List.mem_cons.mp hs with rfl | hs
      · exact List.mem_cons_self
      · exact List.mem_cons_of_mem _ (steps_mem m t _ s hs)
theorem votes_len {m u h : Nat} (h5 : m ≤ 5) : (votes m u h).length ≤ 4096 := by
  unfold votes
  rw [List.length_map]
  have := firstPl_len (g := h) h5
  omega
theorem built_snoc {m : Nat} {L : List StepT} {s : StepT} : builtF m (L ++ [s]) = if s.2.2.1 = some 1 then builtF m L ^^^ heapW m s.1 else builtF m L := by
  unfold builtF
  rw [List.foldl_append]
  rfl
theorem steps_votes {m : Nat} (h5 : m ≤ 5) : ∀ (ord : List Nat) (u : Nat), ∀ s ∈ stepsF m ord u, s.2.1.length ≤ 4096
  | [], _, s, hs => by cases hs
  | h :: t, u, s, hs => by
    cases e : bitOf (votes m u h) with
    | none =>
      rw [steps_none e] at hs
      rw [List.mem_singleton.mp hs]; exact votes_len h5
    | some b =>
      rw [steps_some e] at hs
      rcases List.mem_cons.mp hs with rfl | hs
      · exact votes_len h5
      · exact steps_votes h5 t _ s hs
theorem rd_bm {c : String} {r : V → List V → Hp → VK → Prop} {to : TE} {t : TA} {σ : L2.St} {H : Hp} {Q : VK} (h : to σ H fun x H1 => tyV K c x H1 ∧ t σ H1 fun xs H2 => r x xs H2 Q) : tBM K c r to t σ H Q := h
/-- tables do not see a list that changes -/
theorem tabs_upd {H : Hp} {a : Addr} {xs : List V} {o : HO} (t : Tabs (tabl K) H) (e : H a = some (.lst xs)) : Tabs (tabl K) (upd H a o) := fun p hp => by
  obtain ⟨ps, h1, h2, h3⟩ := t p hp
  refine ⟨ps, by rw [upd_ne fun z => by rw [z, e] at h1; cases h1]; exact h1, h2, fun pos cv hcv => ?_⟩
  obtain ⟨c, e1, e2⟩ := h3 pos cv hcv
  exact ⟨c, e1, by rw [upd_ne fun z => by rw [z, e] at e2; unfold LamX.CodeO at e2; cases e2]; exact e2⟩
theorem built_le {m : Nat} : ∀ (L : List StepT) (a : Nat), a ≤ full m → (∀ s ∈ L, s.1 < 2 ^ m) → L.foldl (fun b s => if s.2.2.1 = some 1 then b ^^^ heapW m s.1 else b) a ≤ full m
  | [], a, h, _ => h
  | s :: L, a, h, hl => by
    refine built_le L _ ?_ fun x hx => hl x (List.mem_cons_of_mem _ hx)
    show (if _ then _ else _) ≤ _
    split
    · exact full_xor h (heapW_le (hl s List.mem_cons_self))
    · exact h
theorem rd_tupL2 {H : Hp} {l : Addr} {ys : List V} {q q2 : Addr → List V → Prop} (e : H l = some (.lst ys)) (h : ∀ t, H t = none → q t ys) : ∃ p ys, [V.ref l] = [V.ref p] ∧ ((SqL K H p ys ∧ ∀ l, H l = none → q l ys) ∨ (SqT K H p ys ∧ q2 p ys)) := ⟨l, ys, rfl, .inl ⟨sqL_of e, h⟩⟩
/-- a record is made -/
theorem rd_rec {C : Addr} {fs : List Str} {args : List V} {H : Hp} {Q : Addr → Hp → Prop} {E : XK} (hl : args.length = fs.length) (q : ∀ x dx H2, Sm H H2 → H2 x = some (.ins C dx (fs.zip args)) → Q x H2) :
    ∀ x dx, H x = none → H dx = none → dx ≠ x → spRec C fs (.ref x :: args) (upd (upd H dx (.own x)) x (.ins C dx [])) (fun v H2 => v = .non ∧ Q x H2) E := by
  intro x dx hx hdx hne
  refine ⟨x, dx, args, rfl, hl, upd_same, rfl, ?_⟩
  rw [upd_upd]
  exact q x dx _ ((Sm.new hdx).upd hx) upd_same
/-- a field of a record -/
theorem rd_of {C : Addr} {f : Str} {H : Hp} {dx : Addr} {fs : List (Str × V)} {a : Addr} {v : V} {q : V → Prop} (e : H a = some (.ins C dx fs)) (hc : Cls K C) (hn : NoAttr K C f) (hl : fs.lookup f = some v) (h : q v) : ∃ a' C dx fs v, V.ref a = .ref a' ∧ H a' = some (.ins C dx fs) ∧ Cls K C ∧ NoAttr K C f ∧ fs.lookup f = some v ∧ q v := ⟨a, C, dx, fs, v, rfl, e, hc, hn, hl, h⟩
def VotI (K : PySem.W.Frag) (c : Addr) (m : Nat) (hs : List Nat) (u : Nat) (ag : Addr) (H0 : Hp) (L : List StepT) (i : Nat) (G : Addr → Prop) (σ : L2.St) (H : Hp) : Prop :=
  Gr K H0 H ∧ ¬ G ag ∧ (∃ acc, H ag = some (.lst acc) ∧ acc.length = i) ∧ (∀ s ∈ L.take i, s.2.2.1 ≠ none) ∧ ∃ v5 v6 v7, σ = [some (.ref c), some (nv u), some (nv (sure m hs)), some (nv (builtF m (L.take i))), some (.ref ag), v5, v6, v7]
def spVotesR (K : PySem.W.Frag) : Sp := fun vs H Q _ => ∃ (c : Addr) (m : Nat) (hs : List Nat) (u : Nat), vs = [.ref c, nv u, .non] ∧ ChAt H c m hs ∧ u ≤ full m ∧ Tabs (tabl K) H ∧ ∀ v H', Gr K H H' → RdAt H' v (readF m hs (ordOf hs) u) → Q v H'
theorem sc_read_votes : FnScope ["choice", "word", "most", "built", "against", "voted", "wrong", "vote"] ["choice", "word", "most"] (defScope (top 61)) := ⟨rfl, rfl, rfl, by decide +kernel, rfl, by decide +kernel, by decide +kernel⟩
theorem ok_read_votes (T' : TxB K mg base) : FnOk P w K mg base CX0 8 a_read_votes (fdOf K a_read_votes) ["choice", "word", "most"] (spVotesR K) := by
  have T := T'.toTxt
  refine T.f_read_votes.ok sc_read_votes (fun vs H Q E h => ?len) (fun cdv A outer s H vs Q E hr h => ?body)
  case body =>
    have nd := sc_read_votes.nd
    refine ⟨_, PSs.nox (pss_cons (ps_expr (pe_call (ok_check_word T) (hr.mono (by decide)) rfl (T.g_check_word) (T.k_check_word) (T.b_check_word) .nil pass0 (pa_cons (pe_fld (pv 0) rfl) (pa_cons (pv 1) pa_nil))))
      (pss_cons (ps_set (i := 2) nd rfl (Or.inl rfl) (pe_call (ok_checked_most T) (hr.mono (by decide)) rfl (T.g_checked_most) (T.k_checked_most) (T.b_checked_most) .nil pass0 (pa_cons (pv 0) (pa_cons (pv 2) pa_nil))))
      (pss_cons (ps_set (i := 3) nd rfl (Or.inl rfl) (pe_n 0))
      (pss_cons (ps_set (i := 4) nd rfl (Or.inl rfl) (pe_lst pa_nil))
      (pss_cons (GG.ps_forY PassesOwn.never rfl rfl (fun _ _ h => h) (ok_read_steps T') (hr.mono (by decide)) rfl (T.g_read_steps) (T.k_read_steps) (T.b_read_steps) .nil (pa_cons (pv 0) (pa_cons (pv 1) pa_nil)) (pg_name (i := 5) nd rfl (.inr rfl)) (pss_cons (ps_if (pt_cmpR op_isN (pe_fld (pv 5) rfl) pe_non (nomark _)) (pss_one (ps_ret (pe_make (T.mk_Tie) (ok_Tie T) (hr.mono (by decide)) rfl (T.g_Tie) (T.b_Tie) .nil pass0 (pa_cons (pe_fld (pv 5) rfl) pa_nil)))) pss_nil)
      (pss_cons (ps_if (pt_cmpR o_eq (pe_fld (pv 5) rfl) (pe_n 1) (nomark _)) (pss_one (ps_set (i := 3) nd rfl (Or.inl rfl) (pe_op o_xor (pv 3) (pe_call (ok_heap_word T) (hr.mono (by decide)) rfl (T.g_heap_word) (T.k_heap_word) (T.b_heap_word) .nil pass0 (pa_cons (pe_fld (pv 0) rfl) (pa_cons (pe_fld (pv 5) rfl) pa_nil)))))) pss_nil)
      (pss_one (ps_expr (pe_bm PySem.F.plainAttrs_list PySem.F.slot_list_append PySem.F.type_list_append mt_append (pv 4) (pa_cons (pe_callB (call_len) (by rfl) (T.n_len) (by decide +kernel) (pa_cons (pe_lc (own := [("vote", 7)]) rfl nd (pi_tup (pe_fld (pv 5) rfl)) (blkOk_by (N := ["choice", "word", "most", "built", "against", "voted", "wrong", "vote"]) (sc := defScope (top 61)) (by decide +kernel)) (fun _ _ _ _ _ => (pg_name (i := 7) nd rfl (.inl rfl))) (fun _ _ _ _ _ => (pts_one (pt_cmpR o_ne (pv 7) (pe_fldK (K := K) (by rfl) (pv 5) rfl) (nomark _)))) (fun _ _ _ _ _ => (pv 7))) pa_nil)) pa_nil)))))) (by intro _ _; rfl))
      (pss_cons (ps_set (i := 6) nd rfl (Or.inl rfl) (pe_call (ok_places_of T) (hr.mono (by decide)) rfl (T.g_places_of) (T.k_places_of) (T.b_places_of) .nil pass0 (pa_cons (pe_fld (pv 0) rfl) (pa_cons (pe_op o_xor (pv 1) (pv 3)) pa_nil))))
      (pss_cons (ps_if (pt_cmpR o_gt (pe_callB (call_len) (by rfl) (T.n_len) (by decide +kernel) (pa_cons (pv 6) pa_nil)) (pv 2) (nomark _)) (pss_one (ps_ret (pe_make (T.mk_Far) (ok_Far T) (hr.mono (by decide)) rfl (T.g_Far) (T.b_Far) .nil pass0 (pa_cons (pv 3) (pa_cons (pv 6) (pa_cons (pe_callTy (call_tuple_of) (by rfl) (T.n_tuple) (by decide +kernel) (pa_cons (pv 4) pa_nil)) pa_nil)))))) pss_nil)
      (pss_one (ps_ret (pe_make (T.mk_Read) (ok_Read T) (hr.mono (by decide)) rfl (T.g_Read) (T.b_Read) .nil pass0 (pa_cons (pv 3) (pa_cons (pv 6) (pa_cons (pe_callTy (call_tuple_of) (by rfl) (T.n_tuple) (by decide +kernel) (pa_cons (pv 4) pa_nil)) pa_nil))))))))))))), ?_⟩
    obtain ⟨c, m, hs, u, rfl, hc, hu, ht, q⟩ := h
    have h1 := hc.ch.m1
    have h5 := hc.ch.m5
    walk_at "rd"
    refine rd_letters T hc ?_
    walk_at "rd"
    refine ⟨m, u, rfl, h1, h5, hu, ?_⟩
    walk_at "rd"
    refine ⟨c, m, hs, rfl, hc, fun H1 s1 => ?_⟩
    walk_at "rd"
    refine ⟨by rw [sizeLine_eq]; decide, fun ag hag => ?_⟩
    walk_at "rd"
    refine rd_forY ?_
    walk_at "rd"
    have s2 : Sm H1 (upd H1 ag (.lst [])) := Sm.new hag
    have hn0 : H ag = none := s1.none hag
    have g2 : Gr K H (upd H1 ag (.lst [])) := (s1.trans s2).gr
    have hlen : (stepsF m (ordOf hs) u).length ≤ 32 := by
      have := steps_len m (ordOf hs) u
      have e : (ordOf hs).length = hs.length := List.length_mergeSort hs
      have := hc.len
      omega
    refine ⟨_, _, _, ⟨c, m, hs, u, ag, [], rfl, (hc.mono s1).mono s2, hu, g2.2 ht, upd_same, rfl, rfl, rfl⟩, fun i x H H' s h => h.mono s, VotI K c m hs u ag H (stepsF m (ordOf hs) u), ⟨g2, fun z => z.2 rfl, ⟨[], upd_same, rfl⟩, (by simp), _, _, _, rfl⟩, ?_⟩
    have hmem : ∀ s ∈ stepsF m (ordOf hs) u, s.1 < 2 ^ m := fun s hs' => hc.ch.lt _ (ordOf_mem.mp (steps_mem m _ _ s hs'))
    have hvs : ∀ s ∈ stepsF m (ordOf hs) u, s.2.1.length ≤ 4096 := fun s hs' => steps_votes h5 _ _ s hs'
    unfold readF at q
    generalize stepsF m (ordOf hs) u = L at q hlen hmem hvs
    rintro i G σ' H3 ⟨g3, hnG, ⟨acc, hac, hal⟩, hnn, v5, v6, v7, rfl⟩
    refine ⟨fun hi H4 k4 it4 => ?_, fun hi x H4 G4 k4 hG4 it4 => ?_⟩
    · subst hi
      rw [List.take_length] at hnn
      have hcq := hc.gr g3
      have hc4 : ChAt H4 c m hs := hcq.gr ⟨k4, fun _ => it4.1⟩
      have g4 : Gr K H H4 := g3.trans ⟨k4, fun _ => it4.1⟩
      have ha4 : H4 ag = some (.lst acc) := Gr.lst (K := K) (H := H3) ⟨k4, fun _ => it4.1⟩ hac
      have hb := built_le L 0 (Nat.zero_le _) hmem
      have hfn : L.find? (fun s => decide (s.2.2.1 = none)) = none := List.find?_eq_none.mpr fun s hs' => by simpa using hnn s hs'
      rw [hfn] at q
      dsimp only at q
      rw [List.take_length]
      walk_at "rd"
      refine rd_letters T hc4 ?_
      walk_at "rd"
      refine ⟨m, u ^^^ builtF m L, rfl, h1, h5, full_xor hu hb, fun wt H5 s5 e5 => ?_⟩
      walk_at "rd"
      refine ⟨_, _, rfl, .inr ⟨_, sqT_of e5, rfl⟩, ?_⟩
      rw [List.length_map]
      walk_at "rd"
      refine tdec (fun z => ?_) fun z => ?_
      · rw [if_neg z] at q
        walk_at "rd"
        refine rd_tupL2 (s5 _ _ ha4) fun t h6 => ?_
        walk_at "rd"
        refine rd_rec rfl fun x dx H7 s7 e7 => ?_
        have s6 := (Sm.new (o := .tup acc) h6).trans s7
        exact q _ _ (g4.trans (s5.trans s6).gr) ⟨x, dx, wt, _, rfl, e7, s6 _ _ e5⟩
      · rw [if_pos z] at q
        walk_at "rd"
        refine rd_tupL2 (s5 _ _ ha4) fun t h6 => ?_
        walk_at "rd"
        refine rd_rec rfl fun x dx H7 s7 e7 => ?_
        have s6 := (Sm.new (o := .tup acc) h6).trans s7
        exact q _ _ (g4.trans (s5.trans s6).gr) ⟨x, dx, wt, _, rfl, e7, s6 _ _ e5⟩
    · obtain ⟨⟨h, vs, b, r⟩, hLi⟩ : ∃ s, L[i]? = some s := ⟨_, List.getElem?_eq_getElem hi⟩
      obtain ⟨v, dv, tv, rfl, ev, etv⟩ := it4.2 h vs b r hLi
      have gk : Gr K H3 H4 := ⟨k4, fun _ => it4.1⟩
      have g4 : Gr K H H4 := g3.trans gk
      have hc4 : ChAt H4 c m hs := hc.gr g4
      have ha4 : H4 ag = some (.lst acc) := gk.lst hac
      have hh : h < 2 ^ m := hmem _ (List.mem_of_getElem? hLi)
      have htk : L.take (i + 1) = L.take i ++ [(h, vs, b, r)] := by rw [List.take_add_one, hLi]; rfl
      walk_at "rd"
      refine rd_of ev T.cl_Voted T.no_Voted_bit rfl ?_
      walk_at "rd"
      refine ⟨rfl, rd_bl ?_⟩
      cases b with
      | none =>
        refine tdec (fun z => absurd rfl z) fun _ => ?_
        walk_at "rd"
        refine rd_of ev T.cl_Voted T.no_Voted_heap rfl ?_
        walk_at "rd"
        refine rd_rec rfl fun x dx H7 s7 e7 => ?_
        have hfs : L.find? (fun s => decide (s.2.2.1 = none)) = some (h, vs, none, r) := by
          rw [List.find?_eq_some_iff_append]
          refine ⟨rfl, L.take i, L.drop (i + 1), ?_, fun a ha => by simpa using hnn a ha⟩
          have h1 := List.take_append_drop (i + 1) L
          rw [htk, List.append_assoc] at h1
          exact h1.symm
        rw [hfs] at q
        exact q _ _ (g4.trans s7.gr) ⟨x, dx, rfl, e7⟩
      | some b =>
        refine tdec (fun _ => ?_) fun z => absurd z (by intro z; cases z)
        walk_at "rd"
        refine rd_of ev T.cl_Voted T.no_Voted_bit rfl ?_
        walk_at "rd"
        refine (show rN0 _ (nv b) (nv 1) _ _ from rd_n0 ?_)
        walk_at "rd"
        have hvl : vs.length ≤ 4096 := hvs _ (List.mem_of_getElem? hLi)
        have hG4n : ¬ G4 ag := fun z => by
          rcases (hG4 ag z).2 with y | y | ⟨o, y, ⟨ob, y2⟩⟩
          · exact hnG y
          · rw [hac] at y; cases y
          · rw [ha4] at y; cases y; cases y2
        refine tdec (fun z => ?_) fun z => ?_
        · walk_at "rd"
          refine rd_bm ?_
          walk_at "rd"
          refine ⟨.inl ⟨rfl, _, sqL_of ha4⟩, ?_⟩
          walk_at "rd"
          refine rd_of ev T.cl_Voted T.no_Voted_votes rfl ?_
          refine lc_tupJ (sqT_of etv) (line32 hvl) (fun y => !decide (y = b)) nv (fun y hy H5 D5 s5 Nx gn gy => ?_) (fun H5 D5 s5 hD5 e5 => ?_)
          · walk_at "rd"
            refine rd_of (s5 _ _ ev) T.cl_Voted T.no_Voted_bit rfl ?_
            refine (show rN0 _ (nv y) (nv b) _ _ from rd_n0 ?_)
            walk_at "rd"
            by_cases z : y = b
            · rw [decide_eq_true z]
              exact gn _ Sm.refl (by rw [decide_eq_true z]; rfl)
            · rw [decide_eq_false z]
              walk_at "rd"
              exact gy _ Sm.refl (by rw [decide_eq_false z]; rfl)
          · walk_at "rd"
            refine ⟨_, _, rfl, .inl ⟨_, sqL_of e5, rfl⟩, ?_⟩
            walk_at "rd"
            have ha5 := s5 _ _ ha4
            refine ⟨ag, acc, _, rfl, rfl, ha5, by rw [sizeLine_eq]; omega, ?_⟩
            refine ⟨⟨⟨fun b' o e n1 n2 => ?_, fun _ => ?_⟩, fun z => ?_, ⟨_, upd_same, by rw [List.length_append, hal]; rfl⟩, fun s hs' => ?_, some (.ref v), v6, v7, ?_⟩, fun b' hb' => ?_⟩
            · rw [upd_ne (ne_of_none e hn0)]
              exact (g4.trans s5.gr).1 b' o e n1 n2
            · exact tabs_upd (it4.1.ext s5) ha5
            · exact hG4n z
            · rw [htk] at hs'
              rcases List.mem_append.mp hs' with z | z
              · exact hnn s z
              · rw [List.mem_singleton.mp z]; intro z2; cases z2
            · rw [htk, built_snoc]
              first
                | rw [if_pos (by rw [z])]; rfl
                | rw [if_neg (fun z2 => z (Option.some.inj z2))]; rfl
            · have nb : b' ≠ ag := fun z => hG4n (z ▸ hb')
              rw [upd_ne nb]
              cases e : H4 b' with
              | none => exact absurd e (hG4 b' hb').1
              | some o => exact s5 _ _ e
        · walk_at "rd"
          refine rd_letters T hc4 ?_
          walk_at "rd"
          refine rd_of ev T.cl_Voted T.no_Voted_heap rfl ?_
          walk_at "rd"
          refine ⟨m, h, rfl, h1, h5, hh, ?_⟩
          walk_at "rd"
          refine rd_bm ?_
          walk_at "rd"
          refine ⟨.inl ⟨rfl, _, sqL_of ha4⟩, ?_⟩
          walk_at "rd"
          refine rd_of ev T.cl_Voted T.no_Voted_votes rfl ?_
          refine lc_tupJ (sqT_of etv) (line32 hvl) (fun y => !decide (y = b)) nv (fun y hy H5 D5 s5 Nx gn gy => ?_) (fun H5 D5 s5 hD5 e5 => ?_)
          · walk_at "rd"
            refine rd_of (s5 _ _ ev) T.cl_Voted T.no_Voted_bit rfl ?_
            refine (show rN0 _ (nv y) (nv b) _ _ from rd_n0 ?_)
            walk_at "rd"
            by_cases z : y = b
            · rw [decide_eq_true z]
              exact gn _ Sm.refl (by rw [decide_eq_true z]; rfl)
            · rw [decide_eq_false z]
              walk_at "rd"
              exact gy _ Sm.refl (by rw [decide_eq_false z]; rfl)
          · walk_at "rd"
            refine ⟨_, _, rfl, .inl ⟨_, sqL_of e5, rfl⟩, ?_⟩
            walk_at "rd"
            have ha5 := s5 _ _ ha4
            refine ⟨ag, acc, _, rfl, rfl, ha5, by rw [sizeLine_eq]; omega, ?_⟩
            refine ⟨⟨⟨fun b' o e n1 n2 => ?_, fun _ => ?_⟩, fun z => ?_, ⟨_, upd_same, by rw [List.length_append, hal]; rfl⟩, fun s hs' => ?_, some (.ref v), v6, v7, ?_⟩, fun b' hb' => ?_⟩
            · rw [upd_ne (ne_of_none e hn0)]
              exact (g4.trans s5.gr).1 b' o e n1 n2
            · exact tabs_upd (it4.1.ext s5) ha5
            · exact hG4n z
            · rw [htk] at hs'
              rcases List.mem_append.mp hs' with z | z
              · exact hnn s z
              · rw [List.mem_singleton.mp z]; intro z2; cases z2
            · rw [htk, built_snoc]
              first
                | rw [if_pos (by rw [z])]; rfl
                | rw [if_neg (fun z2 => z (Option.some.inj z2))]; rfl
            · have nb : b' ≠ ag := fun z => hG4n (z ▸ hb')
              rw [upd_ne nb]
              cases e : H4 b' with
              | none => exact absurd e (hG4 b' hb').1
              | some o => exact s5 _ _ e
  case len =>
    obtain ⟨c, m, hs, u, rfl, hc, _⟩ := h
    rfl
end
end G
set_option maxHeartbeats 4000000
-- text M1
/-! # bits -/
namespace M
theorem shl_one (m : Nat) : 1 <<< m = 2 ^ m := by rw [Nat.shiftLeft_eq, Nat.one_mul]
theorem full_pow (m : Nat) : full m = 2 ^ 2 ^ m - 1 := by unfold full; rw [shl_one, shl_one]
theorem le_full {m u : Nat} : u ≤ full m ↔ u < 2 ^ 2 ^ m := by
  rw [full_pow]
  have : 0 < 2 ^ 2 ^ m := Nat.two_pow_pos _
  omega
theorem bit_tb (y i : Nat) : (y >>> i &&& 1) = if y.testBit i then 1 else 0 := by
  rw [Nat.and_one_is_mod, Nat.testBit_eq_decide_div_mod_eq, Nat.shiftRight_eq_div_pow]
  have := Nat.mod_two_eq_zero_or_one (y / 2 ^ i)
  rcases this with h | h <;> rw [h] <;> rfl
theorem bit_ne (y i : Nat) : decide ((y >>> i &&& 1) ≠ 0) = y.testBit i := by
  rw [bit_tb]
  cases y.testBit i <;> rfl
theorem mem_onesOf {m y i : Nat} : i ∈ onesOf m y ↔ i < 2 ^ m ∧ y.testBit i = true := by
  unfold onesOf
  rw [List.mem_filter, List.mem_range, bit_ne, shl_one]
theorem mark_tb (ps : List Nat) (i : Nat) : (mark ps).testBit i = decide (i ∈ ps) := by
  have key : ∀ (ps : List Nat) (a : Nat), (ps.foldl (fun w p => w ||| 1 <<< p) a).testBit i = (a.testBit i || decide (i ∈ ps)) := by
    intro ps
    induction ps with
    | nil => intro a; simp
    | cons p r ih =>
      intro a
      rw [List.foldl_cons, ih, Nat.testBit_or, shl_one, Nat.testBit_two_pow]
      by_cases h : i = p
      · subst h; simp
      · have h2 : ¬ p = i := fun z => h z.symm
        simp [h, h2]
  unfold mark
  rw [key]; simp
theorem mark_onesOf {m y : Nat} (h : y ≤ full m) : mark (onesOf m y) = y := by
  apply Nat.eq_of_testBit_eq
  intro i
  rw [mark_tb]
  by_cases hi : i < 2 ^ m
  · cases e : y.testBit i with
    | true => exact decide_eq_true (mem_onesOf.mpr ⟨hi, e⟩)
    | false => exact decide_eq_false fun z => by rw [(mem_onesOf.mp z).2] at e; cases e
  · have : y.testBit i = false := Nat.testBit_lt_two_pow (Nat.lt_of_lt_of_le (le_full.mp h) (Nat.pow_le_pow_right (by decide) (by omega)))
    rw [this]
    exact decide_eq_false fun z => hi (mem_onesOf.mp z).1
theorem onesOf_asc (m y : Nat) : Asc (onesOf m y) := List.Pairwise.filter _ List.pairwise_lt_range
theorem mark_le {m : Nat} {ps : List Nat} (h : ∀ p ∈ ps, p < 2 ^ m) : mark ps ≤ full m := by
  rw [le_full]
  apply Nat.lt_pow_two_of_testBit
  intro i hi
  rw [mark_tb]
  exact decide_eq_false fun z => by have := h i z; omega
/-- what told_fault says -/
def faultB (m : Nat) (hs : List Nat) (ord : List Nat) (u x : Nat) : Bool := !((heapsOf m x).all fun g => decide (g ∈ hs)) || ord.any fun h => decide (1 <<< (m - ones h) ≤ 2 * spoilt m (u ^^^ x) h)
end M
set_option maxHeartbeats 4000000
-- text D15
namespace G
open PySem PySem.Spec PyProof.Rows L2 M
section
variable {P : Program} {w : World} {K : PySem.W.Frag} {mg : Str → Option Value} {base : Heap}
theorem Gr.sm {H H1 H2 : Hp} (g : Gr K H H1) (s : Sm H1 H2) : Gr K H H2 := g.trans s.gr
/-- asked only whether it is None -/
def NonIs (v : V) (b : Bool) : Prop := decide (v = .non) = b
def spFault (K : PySem.W.Frag) : Sp := fun vs H Q _ => ∃ (c : Addr) (m : Nat) (hs : List Nat) (u x : Nat), vs = [.ref c, nv u, nv x] ∧ ChAt H c m hs ∧ u ≤ full m ∧ x ≤ full m ∧ Tabs (tabl K) H ∧ ∀ v H', Gr K H H' → NonIs v (!faultB m hs (ordOf hs) u x) → Q v H'
theorem sc_told_fault : FnScope ["choice", "word", "claimed", "wrong", "heap", "spoilt"] ["choice", "word", "claimed"] (defScope (top 62)) := ⟨rfl, rfl, rfl, by decide +kernel, rfl, by decide +kernel, by decide +kernel⟩
theorem ok_told_fault (T' : TxB K mg base) : FnOk P w K mg base CX0 8 a_told_fault (fdOf K a_told_fault) ["choice", "word", "claimed"] (spFault K) := by
  have T := T'.toTxt
  refine T.f_told_fault.ok sc_told_fault (fun vs H Q E h => ?len) (fun cdv A outer s H vs Q E hr h => ?body)
  case body =>
    have nd := sc_told_fault.nd
    refine ⟨_, PSs.nox (pss_cons (ps_expr (pe_call (ok_check_word T) (hr.mono (by decide)) rfl (T.g_check_word) (T.k_check_word) (T.b_check_word) .nil pass0 (pa_cons (pe_fld (pv 0) rfl) (pa_cons (pv 1) pa_nil))))
      (pss_cons (ps_expr (pe_call (ok_check_word T) (hr.mono (by decide)) rfl (T.g_check_word) (T.k_check_word) (T.b_check_word) .nil pass0 (pa_cons (pe_fld (pv 0) rfl) (pa_cons (pv 2) pa_nil))))
      (pss_cons (ps_if (pt_not (pt_val (pe_call (ok_holds T) (hr.mono (by decide)) rfl (T.g_holds) (T.k_holds) (T.b_holds) .nil pass0 (pa_cons (pv 0) (pa_cons (pv 2) pa_nil))))) (pss_one (ps_ret pe_str)) pss_nil)
      (pss_cons (ps_set (i := 3) nd rfl (Or.inl rfl) (pe_call (ok_places_of T) (hr.mono (by decide)) rfl (T.g_places_of) (T.k_places_of) (T.b_places_of) .nil pass0 (pa_cons (pe_fld (pv 0) rfl) (pa_cons (pe_op o_xor (pv 1) (pv 2)) pa_nil))))
      (pss_cons (ps_for PassesOwn.never rfl (pi_list (pe_call (ok_voting_order T') (hr.mono (by decide)) rfl (T.g_voting_order) (T.k_voting_order) (T.b_voting_order) .nil pass0 (pa_cons (pv 0) pa_nil))) (pg_name (i := 4) nd rfl (.inl rfl)) (pss_cons (ps_set (i := 5) nd rfl (Or.inl rfl) (pe_call (ok_spoilt_votes T) (hr.mono (by decide)) rfl (T.g_spoilt_votes) (T.k_spoilt_votes) (T.b_spoilt_votes) .nil pass0 (pa_cons (pe_fld (pv 0) rfl) (pa_cons (pv 3) (pa_cons (pv 4) pa_nil)))))
      (pss_one (ps_if (pt_cmpR o_ge (pe_op o_mul (pe_n 2) (pv 5)) (pe_op o_shl (pe_n 1) (pe_op o_sub (pe_fld (pv 0) rfl) (pe_call (ok_count_ones T) (hr.mono (by decide)) rfl (T.g_count_ones) (T.k_count_ones) (T.b_count_ones) .nil pass0 (pa_cons (pv 4) pa_nil)))) (nomark _)) (pss_one (ps_ret (pe_make (T.mk_Outvoted) (ok_Outvoted T) (hr.mono (by decide)) rfl (T.g_Outvoted) (T.b_Outvoted) .nil pass0 (pa_cons (pv 4) (pa_cons (pv 5) pa_nil))))) pss_nil))))
      (pss_one (ps_ret pe_non))))))), ?_⟩
    obtain ⟨c, m, hs, u, x, rfl, hc, hu, hx, ht, q⟩ := h
    have h1 := hc.ch.m1
    have h5 := hc.ch.m5
    have hux := full_xor hu hx
    walk_at "rd"
    refine rd_letters T hc ?_
    walk_at "rd"
    refine ⟨m, u, rfl, h1, h5, hu, ?_⟩
    walk_at "rd"
    refine rd_letters T hc ?_
    walk_at "rd"
    refine ⟨m, x, rfl, h1, h5, hx, ?_⟩
    walk_at "rd"
    refine ⟨c, m, hs, x, rfl, hc, hx, fun H1 s1 => ?_⟩
    walk_at "rd"
    have hc1 := hc.mono s1
    unfold faultB at q
    have hB : ((heapsOf m x).all fun g => decide (g ∈ hs)) = holdsB m hs x := rfl
    rw [hB] at q
    cases eb : holdsB m hs x with
    | false =>
      rw [eb] at q
      walk_at "rd"
      exact q _ _ s1.gr rfl
    | true =>
      rw [eb] at q
      walk_at "rd"
      refine rd_letters T hc1 ?_
      walk_at "rd"
      refine ⟨m, u ^^^ x, rfl, h1, h5, hux, fun wt H2 s2 e2 => ?_⟩
      walk_at "rd"
      have hc2 := hc1.mono s2
      refine ⟨c, m, hs, rfl, hc2, (ht.ext s1).ext s2, fun ord H3 g3 t3 n3 e3 => ?_⟩
      have hc3 := hc2.gr g3
      have e23 := g3.tup e2
      have g03 : Gr K H H3 := (s1.gr.trans s2.gr).trans g3
      refine ⟨ord, rfl, ⟨_, sqL_of e3⟩, for_list (fun i σ' H' => Sm H3 H' ∧ (∃ v1 v2, σ' = [some (.ref c), some (nv u), some (nv x), some (.ref wt), v1, v2]) ∧ ∀ h ∈ (ordOf hs).take i, ¬ 1 <<< (m - ones h) ≤ 2 * spoilt m (u ^^^ x) h) ⟨Sm.refl, ⟨_, _, rfl⟩, by simp⟩ (fun i σ' H' _ p => p.1.sqL (sqL_of e3)) (fun i y σ' H' hxi p => ?_) (fun σ' H' p => ?_)⟩
      · obtain ⟨s4, ⟨v1, v2, rfl⟩, hall⟩ := p
        obtain ⟨h, hk, rfl⟩ := mem_nvs hxi
        have hh : h < 2 ^ m := hc.ch.lt _ (ordOf_mem.mp (List.mem_of_getElem? hk))
        have hc4 := hc3.mono s4
        walk_at "rd"
        refine rd_letters T hc4 ?_
        walk_at "rd"
        refine ⟨m, h, wt, onesOf m (u ^^^ x), rfl, h1, h5, s4 _ _ e23, fun y hy => (mem_onesOf.mp hy).1, onesOf_asc _ _, by rw [mark_onesOf hux]; exact hux, hh, fun H5 s5 => ?_⟩
        rw [mark_onesOf hux]
        walk_at "rd"
        refine rd_n (by decide) ?_
        walk_at "rd"
        refine rd_letters T (hc4.mono s5) ?_
        walk_at "rd"
        refine ⟨h, rfl, ?_⟩
        refine rd_n (ones_le m h hh) ?_
        refine rd_n ⟨by omega, by omega⟩ ?_
        walk_at "rd"
        refine tdec (fun z => ?_) fun z => ?_
        · walk_at "rd"
          refine ⟨s4.trans s5, ⟨_, _, rfl⟩, fun h' hh' => ?_⟩
          rw [take_at hk] at hh'
          rcases List.mem_append.mp hh' with e | e
          · exact hall _ e
          · rw [List.mem_singleton.mp e]; exact z
        · walk_at "rd"
          refine rd_rec rfl fun a dx H7 s7 e7 => ?_
          refine q _ _ ((g03.sm s4).sm (s5.trans s7)) ?_
          have : ((ordOf hs).any fun h => decide (1 <<< (m - ones h) ≤ 2 * spoilt m (u ^^^ x) h)) = true := List.any_eq_true.mpr ⟨h, List.mem_of_getElem? hk, decide_eq_true z⟩
          rw [this]
          rfl
      · obtain ⟨s4, ⟨v1, v2, rfl⟩, hall⟩ := p
        rw [List.length_map, List.take_length] at hall
        walk_at "rd"
        refine q _ _ (g03.sm s4) ?_
        have : ((ordOf hs).any fun h => decide (1 <<< (m - ones h) ≤ 2 * spoilt m (u ^^^ x) h)) = false := List.any_eq_false.mpr fun h hh => by simpa using hall h hh
        rw [this]
        rfl
  case len =>
    obtain ⟨c, m, hs, u, x, rfl, hc, _⟩ := h
    rfl
end
end G
set_option maxHeartbeats 4000000
-- text D16
namespace M
/-- the sum of the rows that n's bits name -/
def sumAt (rows : List Nat) (n : Nat) : Nat := rows.zipIdx.foldl (fun w p => if (n >>> p.2 &&& 1) ≠ 0 then w ^^^ p.1 else w) 0
end M
namespace G
open PySem PySem.Spec PyProof.Rows L2 M GG
local macro_rules | `(tactic| walk_at "ry1") => `(tactic| first | walk_at "rd1" | with_reducible first | refine rd_atnx ?_ | refine rd_atrt ?_ | refine rd_yThen ?_ | (refine rd_yP ?_; intro _ _) | (refine rd_yIf ?_; intro _ _) | (refine rd_yY ?_; intro _ _) | (refine rd_yFor ?_; intro _ _))
local macro_rules | `(tactic| walk_at "ry") => `(tactic| repeat walk_at "ry1")
section
variable {P : Program} {w : World} {K : PySem.W.Frag} {mg : Str → Option Value} {base : Heap}
theorem tabs_but {H H2 : Hp} {x0 : Addr} {l0 : List V} (t : Tabs (tabl K) H) (hx : H x0 = some (.lst l0)) (key : ∀ b o, H b = some o → b ≠ x0 → H2 b = some o) : Tabs (tabl K) H2 := fun p hp => by
  obtain ⟨ps, h1, h2, h3⟩ := t p hp
  refine ⟨ps, key _ _ h1 (fun z => by rw [z, hx] at h1; cases h1), h2, fun pos cv hcv => ?_⟩
  obtain ⟨c', e1, e2⟩ := h3 pos cv hcv
  exact ⟨c', e1, key _ _ e2 (fun z => by rw [z, hx] at e2; unfold LamX.CodeO at e2; cases e2)⟩
theorem yok_start {Ho : Hp → Prop} {H0 H : Hp} {x0 : Addr} {n : Nat} (k : Kp H0 H) (hh : ∀ H2, (∀ b o, H b = some o → b ≠ x0 → H2 b = some o) → Ho H2) : YOk Ho ⟨n, 0, H0, fun b => H0 b ≠ none ∧ b ≠ x0⟩ H := by
  refine ⟨k, fun H2 a => hh H2 fun b o eb nb => ?_⟩
  rw [a b (by rw [eb]; simp) ?_, eb]
  by_cases z : H0 b = none
  · exact .inr z
  · exact .inl ⟨z, nb⟩
/-- the items: the words -/
def itemW (K : PySem.W.Frag) (rows : List Nat) (i : Nat) (x : V) (H : Hp) : Prop := Tabs (tabl K) H ∧ (i < 1 <<< rows.length → x = nv (sumAt rows i))
def spAllW (K : PySem.W.Frag) : SpY := fun vs H n it G => ∃ (c : Addr) (m : Nat) (hs : List Nat) (x0 : Addr) (l0 : List V), vs = [.ref c] ∧ ChAt H c m hs ∧ hs.length ≤ 12 ∧ Tabs (tabl K) H ∧ H x0 = some (.lst l0) ∧
  n = 1 <<< hs.length ∧ it = itemW K (hs.map (heapW m)) ∧ G = fun b => H b ≠ none ∧ b ≠ x0
def WordI (K : PySem.W.Frag) (c : Addr) (m : Nat) (hs : List Nat) (rl : Addr) (i : Nat) (u' : U) (σ' : L2.St) (H' : Hp) : Prop := i ≤ 1 <<< hs.length ∧ u'.i = i ∧ u'.r = 1 <<< hs.length - i ∧ YOk (fun H => Tabs (tabl K) H ∧ H rl = some (.lst (nvs (hs.map (heapW m))))) u' H' ∧ ∃ v1 v2 v3 v4 v5, σ' = [some (.ref c), some (.ref rl), v1, v2, v3, v4, v5]
theorem sc_all_words : GScope ["choice", "rows", "number", "word", "at", "row", "heap"] ["choice"] (defScope (top 44)) := ⟨rfl, rfl, rfl, by decide +kernel, rfl, by decide +kernel, by decide +kernel⟩
theorem ok_all_words (T : Txt K mg) : GenOk P w K mg base 6 a_all_words (fdOf K a_all_words) ["choice"] (spAllW K) := by
  refine genOk_of T.f_all_words sc_all_words (fun vs H n it G h => ?len) (fun cdv L eP ew eK emg ebase eN equal escope ef ecd ok hr H vs n G h => ?body)
  case body =>
    obtain ⟨t12, m12⟩ := T.v_MOST_SIZE
    have nd := sc_all_words.nd
    obtain ⟨LP, Lw, LK, Lmg, Lbase, LN, Lqual, Lscope, Lf, Lcd, LX, Lpins, La, Lg, Lgo, LA, Ln0, Litem⟩ := L
    dsimp only at eP ew eK emg ebase eN equal escope ef ecd
    replace eP := eP.symm
    replace ew := ew.symm
    replace eK := eK.symm
    replace emg := emg.symm
    replace ebase := ebase.symm
    subst eP ew eK emg ebase eN equal escope ef ecd
    refine ⟨_, (gys_cons (gy_ps fun _ _ => (ps_if (pt_cmpR o_gt (pe_prop (pv 0) T.cl_Choice (T.pro_size) (ok_size T) (hr.mono (by decide)) (T.b_size) .nil pass0 (by rfl)) (pe_glob (v := .int ((12 : Nat) : Int)) rfl m12 ⟨_, rfl⟩) (nomark _)) (pss_one ps_never) pss_nil))
      (gys_cons (gy_ps fun _ _ => (ps_setLc (i := 1) (own := [("heap", 6)]) rfl nd rfl rfl (sw_true rfl rfl rfl (by decide +kernel)) (pi_tup (pe_fld (pv 0) rfl)) (blkOk_by (N := ["choice", "rows", "number", "word", "at", "row", "heap"]) (sc := defScope (top 44)) (by decide +kernel)) (fun _ _ _ _ _ => (pg_name (i := 6) nd rfl (.inl rfl))) (fun _ _ _ _ _ => pts_nil) (fun _ _ _ _ _ => (pe_call (ok_heap_word T) (hr.mono (by decide)) rfl (T.g_heap_word) (T.k_heap_word) (T.b_heap_word) .nil pass0 (pa_cons (pe_fldK (K := K) (by rfl) (pv 0) rfl) (pa_cons (pv 6) pa_nil))))))
      (gys_one (gy_for (fun _ _ => (pi_range1 rfl (T.n_range) (pa_cons (pe_op o_shl (pe_n 1) (pe_prop (pv 0) T.cl_Choice (T.pro_size) (ok_size T) (hr.mono (by decide)) (T.b_size) .nil pass0 (by rfl))) pa_nil))) (fun _ _ => (pg_name (i := 2) nd rfl (.inl rfl))) (gys_cons (gy_ps fun _ _ => (ps_set (i := 3) nd rfl (Or.inl rfl) (pe_n 0)))
      (gys_cons (gy_ps fun _ _ => (ps_for PassesOwn.never rfl (GX.pi_enumA (by rfl) (T.n_enumerate) (pa_cons (pv 1) pa_nil)) (pg_tup rfl (pgs_cons (pg_name (i := 4) nd rfl (.inl rfl)) (pgs_cons (pg_name (i := 5) nd rfl (.inl rfl)) pgs_nil))) (pss_one (ps_if (pt_num (pe_op o_and (pe_op o_shr (pv 2) (pv 4)) (pe_n 1))) (pss_one (ps_set (i := 3) nd rfl (Or.inl rfl) (pe_op o_xor (pv 3) (pv 5)))) pss_nil))))
      (gys_one (gy_yield ok fun _ _ => (pv 3))))))))), ?_⟩
    obtain ⟨c, m, hs, x0, l0, rfl, hc, h12, ht, hx0, rfl, hit, rfl⟩ := h
    subst hit
    have h1 := hc.ch.m1
    have h5 := hc.ch.m5
    clear ok hr
    walk_at "ry"
    refine rd_size hc ?_
    walk_at "ry"
    refine tdec (fun z => ?_) fun z => absurd h12 (by omega)
    walk_at "ry"
    refine rd_heaps T hc fun t et => ?_
    refine lc_tupJ (sqT_of et) (line32 (by have := hc.len; omega)) (fun _ => true) (fun g => nv (heapW m g)) (fun g hg H2 D2 s2 Nx g1 g2 => ?_) (fun H2 rl s2 hD e => ?_)
    · walk_at "ry"
      refine rd_letters T (hc.mono s2) ?_
      walk_at "ry"
      refine ⟨m, g, rfl, h1, h5, hc.ch.lt g hg, ?_⟩
      exact g2 _ Sm.refl rfl
    · rw [List.filter_eq_self.mpr (fun _ _ => rfl), ← nvs_map] at e
      have hx2 := s2 _ _ hx0
      have nrl : rl ≠ x0 := fun z => by rw [z, hx0] at hD; cases hD
      have y2 : YOk (fun H => Tabs (tabl K) H ∧ H rl = some (.lst (nvs (hs.map (heapW m))))) ⟨1 <<< hs.length, 0, H, fun b => H b ≠ none ∧ b ≠ x0⟩ H2 := yok_start (fun b o e _ _ => s2 b o e) fun H3 key => ⟨tabs_but (ht.ext s2) hx2 key, key _ _ e nrl⟩
      have hlen : 1 <<< hs.length ≤ 4096 := by
        rw [shl_one]
        exact Nat.pow_le_pow_right (n := 2) (by decide) h12
      walk_at "ry"
      refine rd_size (hc.mono s2) ?_
      refine rd_n ⟨by omega, by omega⟩ ?_
      walk_at "ry"
      have b1 : ((1 <<< hs.length : Nat) : Int) ≤ (4096 : Nat) := Int.ofNat_le.mpr hlen
      refine ⟨((1 <<< hs.length : Nat) : Int), rfl, Int.le_trans (by decide) (Int.natCast_nonneg _), Int.lt_of_le_of_lt b1 (by decide), ?_⟩
      rw [Int.toNat_natCast]
      refine Exists.intro (fun i m' u' σ' H' => m' = 1 <<< hs.length - i ∧ WordI K c m hs rl i u' σ' H') (And.intro ⟨_, rfl, Nat.zero_le _, rfl, rfl, y2, _, _, _, _, _, rfl⟩ ?_)
      rintro i m' u' σ' H' ⟨rfl, hi, hui, hur, yo, v1, v2, v3, v4, v5, rfl⟩
      by_cases hlt : i < 1 <<< hs.length
      · right
        refine ⟨hlt, WordI K c m hs rl (i + 1), fun u2 σ2 H2 n2 => ⟨_, by omega, rfl, n2⟩, fun x H3 y => ?_⟩
        obtain ⟨rfl, rfl⟩ := y
        intro s0 H0
        rw [Int.zero_add]
        walk_at "ry"
        generalize hrows : hs.map (heapW m) = rows at yo
        have hrl : rows.length = hs.length := by rw [← hrows, List.length_map]
        refine for_enumA (.inl (sqL_of yo.hold.2)) (fun j σ' H' => Sm H3 H' ∧ ∃ v4 v5 v6, σ' = [some (.ref c), some (.ref rl), some (nv i), some (nv ((rows.zipIdx.take j).foldl (fun w p => if (i >>> p.2 &&& 1) ≠ 0 then w ^^^ p.1 else w) 0)), v4, v5, v6]) ⟨Sm.refl, _, _, _, rfl⟩ (fun j σ' H' p => p.1) (fun j x σ' H4 T2 hxj p hT => ?_) (fun σ' H4 p => ?_)
        · obtain ⟨s4, v4, v5, v6, rfl⟩ := p
          obtain ⟨r, hr, rfl⟩ := mem_nvs hxj
          walk_at "ry"
          refine rd_gtup upd_same rfl ?_
          walk_at "ry"
          have hz : rows.zipIdx[j]? = some (r, j) := by rw [List.getElem?_zipIdx, hr]; simp
          have hzt : rows.zipIdx.take (j + 1) = rows.zipIdx.take j ++ [(r, j)] := by rw [List.take_add_one, hz]; rfl
          refine tdec (fun z => ?_) fun z => ?_
          · walk_at "ry"
            refine ⟨s4.trans (Sm.new hT), some (nv j), some (nv r), v6, ?_⟩
            rw [hzt, List.foldl_append, List.foldl_cons, List.foldl_nil, if_neg z]
            rfl
          · walk_at "ry"
            refine ⟨s4.trans (Sm.new hT), some (nv j), some (nv r), v6, ?_⟩
            rw [hzt, List.foldl_append, List.foldl_cons, List.foldl_nil, if_pos z]
            rfl
        · obtain ⟨s4, v4, v5, v6, rfl⟩ := p
          have y4 := yo.mono s4
          have e5 : rows.zipIdx.take (nvs rows).length = rows.zipIdx := List.take_of_length_le (by rw [List.length_zipIdx, List.length_map]; exact Nat.le_refl _)
          rw [e5]
          walk_at "ry"
          refine ⟨1 <<< hs.length - (i + 1), by omega, fun b => H4 b ≠ none ∧ (u'.G b ∨ u'.Hr b = none), fun _ h => h, ⟨y4.hold.1, fun _ => by rw [hui]; rfl⟩, y4.1, fun H5 a => ?_⟩
          refine ⟨by omega, by rw [hui], rfl, ?_, _, _, _, _, _, rfl⟩
          rw [hrows]
          exact y4.next a
      · left
        have ei : i = 1 <<< hs.length := by omega
        refine ⟨by show 1 <<< hs.length ≤ i; omega, by rw [hur]; omega, yo.1, yo.hold.1, fun z => ?_⟩
        rw [hui, List.length_map] at z
        omega
  case len =>
    obtain ⟨c, m, hs, x0, l0, rfl, hc, _⟩ := h
    rfl
end
end G
set_option maxHeartbeats 4000000
-- text D17
namespace M
/-- nearest_words, a turn -/
def nearStep (u : Nat) (s : Nat × List Nat) (x : Nat) : Nat × List Nat := if ones (u ^^^ x) < s.1 then (ones (u ^^^ x), [x]) else if ones (u ^^^ x) = s.1 then (s.1, s.2 ++ [x]) else s
def allW (m : Nat) (hs : List Nat) : List Nat := (List.range (1 <<< hs.length)).map (sumAt (hs.map (heapW m)))
def nearF (m : Nat) (hs : List Nat) (u : Nat) : Nat × List Nat := (allW m hs).foldl (nearStep u) (1 <<< m + 1, [])
theorem sumAt_le {m : Nat} {rows : List Nat} (h : ∀ r ∈ rows, r ≤ full m) (n : Nat) : sumAt rows n ≤ full m := by
  have key : ∀ (l : List (Nat × Nat)) (a : Nat), a < 2 ^ 2 ^ m → (∀ p ∈ l, p.1 < 2 ^ 2 ^ m) → l.foldl (fun w p => if (n >>> p.2 &&& 1) ≠ 0 then w ^^^ p.1 else w) a < 2 ^ 2 ^ m := by
    intro l
    induction l with
    | nil => intro a h _; exact h
    | cons p l ih =>
      intro a ha hl
      rw [List.foldl_cons]
      refine ih _ ?_ fun q hq => hl q (List.mem_cons_of_mem _ hq)
      split
      · exact Nat.xor_lt_two_pow ha (hl p List.mem_cons_self)
      · exact ha
  rw [le_full]
  unfold sumAt
  refine key _ _ (Nat.two_pow_pos _) fun p hp => ?_
  exact le_full.mp (h _ (List.fst_mem_of_mem_zipIdx hp))
end M
namespace G
open PySem PySem.Spec PyProof.Rows L2 M GG
section
variable {P : Program} {w : World} {K : PySem.W.Frag} {mg : Str → Option Value} {base : Heap}
/-- a list that the heap H0 does not know may change -/
theorem Gr.lset {H0 H : Hp} {a : Addr} {xs ys : List V} (g : Gr K H0 H) (e : H a = some (.lst xs)) (n : ∀ o, H0 a = some o → PL a o ∨ ∃ ps, o = .tbl ps) : Gr K H0 (upd H a (.lst ys)) :=
  ⟨fun b o eb n1 n2 => by
    by_cases z : b = a
    · subst z
      rcases n o eb with h | ⟨ps, h⟩
      · exact absurd h n1
      · exact absurd h (n2 ps)
    · rw [upd_ne z]; exact g.1 b o eb n1 n2, fun t => tabs_upd (g.2 t) e⟩
theorem nl_of_new {H0 H : Hp} {a : Addr} (g : Gr K H0 H) (n : H a = none) : ∀ o, H0 a = some o → PL a o ∨ ∃ ps, o = .tbl ps := fun o e => by
  by_cases z : PL a o
  · exact .inl z
  · by_cases y : ∃ ps, o = .tbl ps
    · exact .inr y
    · have := g.1 a o e z fun ps q => y ⟨ps, q⟩
      rw [n] at this; cases this
theorem perm_cast {ns : List Int} {xs : List Nat} (h : ns.Perm (xs.map fun n : Nat => (n : Int))) (hs : ns.Pairwise (· ≤ ·)) : ∃ ys : List Nat, ns = (ys.map fun n : Nat => (n : Int)) ∧ ys.Perm xs ∧ ys.Pairwise (· ≤ ·) := by
  have e : ns = ((ns.map Int.toNat).map fun n : Nat => (n : Int)) := by
    rw [List.map_map]
    refine (List.map_id _).symm.trans (List.map_congr_left fun z hz => ?_)
    obtain ⟨n, _, rfl⟩ := List.mem_map.mp (h.mem_iff.mp hz)
    rfl
  refine ⟨ns.map Int.toNat, e, ?_, ?_⟩
  · have := h.map Int.toNat
    rw [List.map_map] at this
    have e2 : xs.map (Int.toNat ∘ fun n : Nat => (n : Int)) = xs := (List.map_congr_left fun _ _ => rfl).trans (List.map_id _)
    rw [e2] at this
    exact this
  · rw [List.pairwise_map]
    exact hs.imp fun hab => by omega
def NearI (K : PySem.W.Frag) (c : Addr) (m : Nat) (hs : List Nat) (u : Nat) (H0 : Hp) (i : Nat) (G : Addr → Prop) (σ : L2.St) (H : Hp) : Prop :=
  Gr K H0 H ∧ ∃ fa, ¬ G fa ∧ (∀ o, H0 fa = some o → PL fa o ∨ ∃ ps, o = .tbl ps) ∧ ((allW m hs).take i).length = i ∧ H fa = some (.lst (nvs (((allW m hs).take i).foldl (nearStep u) (1 <<< m + 1, [])).2)) ∧ (((allW m hs).take i).foldl (nearStep u) (1 <<< m + 1, [])).2.length ≤ i ∧
   ∃ v1 v2, σ = [some (.ref c), some (nv u), some (nv (((allW m hs).take i).foldl (nearStep u) (1 <<< m + 1, [])).1), some (.ref fa), v1, v2]
def spNear (K : PySem.W.Frag) : Sp := fun vs H Q _ => ∃ (c : Addr) (m : Nat) (hs : List Nat) (u : Nat), vs = [.ref c, nv u] ∧ ChAt H c m hs ∧ hs.length ≤ 12 ∧ u ≤ full m ∧ Tabs (tabl K) H ∧
  ∀ a dx t ys H', Gr K H H' → H' a = some (.ins c_Nearest dx [("distance", nv (nearF m hs u).1), ("words", .ref t)]) → H' t = some (.tup (nvs ys)) → ys.Perm (nearF m hs u).2 → ys.Pairwise (· ≤ ·) → Q (.ref a) H'
theorem sc_nearest_words : FnScope ["choice", "word", "least", "found", "near", "distance"] ["choice", "word"] (defScope (top 63)) := ⟨rfl, rfl, rfl, by decide +kernel, rfl, by decide +kernel, by decide +kernel⟩
theorem ok_nearest_words (T : Txt K mg) : FnOk P w K mg base CX0 8 a_nearest_words (fdOf K a_nearest_words) ["choice", "word"] (spNear K) := by
  refine T.f_nearest_words.ok sc_nearest_words (fun vs H Q E h => ?len) (fun cdv A outer s H vs Q E hr h => ?body)
  case body =>
    have nd := sc_nearest_words.nd
    refine ⟨_, PSs.nox (pss_cons (ps_if (pt_cmpR o_gt (pe_prop (pv 0) T.cl_Choice (T.pro_size) (ok_size T) (hr.mono (by decide)) (T.b_size) .nil pass0 (by rfl)) (pe_n 12) (nomark _)) (pss_one ps_never) pss_nil)
      (pss_cons (ps_expr (pe_call (ok_check_word T) (hr.mono (by decide)) rfl (T.g_check_word) (T.k_check_word) (T.b_check_word) .nil pass0 (pa_cons (pe_fld (pv 0) rfl) (pa_cons (pv 1) pa_nil))))
      (pss_cons (ps_set (i := 2) nd rfl (Or.inl rfl) (pe_op o_add (pe_op o_shl (pe_n 1) (pe_fld (pv 0) rfl)) (pe_n 1)))
      (pss_cons (ps_set (i := 3) nd rfl (Or.inl rfl) (pe_lst pa_nil))
      (pss_cons (GG.ps_forY PassesOwn.never rfl rfl (fun _ _ h => h) (ok_all_words T) (hr.mono (by decide)) rfl (T.g_all_words) (T.k_all_words) (T.b_all_words) .nil (pa_cons (pv 0) pa_nil) (pg_name (i := 4) nd rfl (.inl rfl)) (pss_cons (ps_set (i := 5) nd rfl (Or.inl rfl) (pe_call (ok_weight_of T) (hr.mono (by decide)) rfl (T.g_weight_of) (T.k_weight_of) (T.b_weight_of) .nil pass0 (pa_cons (pe_fld (pv 0) rfl) (pa_cons (pe_op o_xor (pv 1) (pv 4)) pa_nil))))
      (pss_cons (ps_if (pt_cmpR o_lt (pv 5) (pv 2) (nomark _)) (pss_cons (ps_set (i := 2) nd rfl (Or.inl rfl) (pv 5))
      (pss_one (ps_set (i := 3) nd rfl (Or.inl rfl) (pe_lst pa_nil)))) pss_nil)
      (pss_one (ps_if (pt_cmpR o_eq (pv 5) (pv 2) (nomark _)) (pss_one (ps_expr (pe_bm PySem.F.plainAttrs_list PySem.F.slot_list_append PySem.F.type_list_append mt_append (pv 3) (pa_cons (pv 4) pa_nil)))) pss_nil)))) (by intro _ _; rfl))
      (pss_one (ps_ret (pe_make (T.mk_Nearest) (ok_Nearest T) (hr.mono (by decide)) rfl (T.g_Nearest) (T.b_Nearest) .nil pass0 (pa_cons (pv 2) (pa_cons (pe_callTy (call_tuple_of) (by rfl) (T.n_tuple) (by decide +kernel) (pa_cons (pe_callB (cr_sortedI) (by rfl) (T.n_sorted) (by decide +kernel) (pa_cons (pv 3) pa_nil)) pa_nil)) pa_nil)))))))))), ?_⟩
    obtain ⟨c, m, hs, u, rfl, hc, h12, hu, ht, q⟩ := h
    have h1 := hc.ch.m1
    have h5 := hc.ch.m5
    walk_at "rd"
    refine rd_size hc ?_
    walk_at "rd"
    refine tdec (fun z => ?_) fun z => absurd h12 (by omega)
    walk_at "rd"
    refine rd_letters T hc ?_
    walk_at "rd"
    refine ⟨m, u, rfl, h1, h5, hu, ?_⟩
    walk_at "rd"
    refine rd_letters T hc ?_
    walk_at "rd"
    refine rd_n ⟨by omega, by omega⟩ ?_
    walk_at "rd"
    refine ⟨by rw [sizeLine_eq]; decide, fun fa hfa => ?_⟩
    walk_at "rd"
    refine rd_forY ?_
    walk_at "rd"
    have s2 : Sm H (upd H fa (.lst [])) := Sm.new hfa
    have hal : (allW m hs).length = 1 <<< hs.length := by unfold allW; rw [List.length_map, List.length_range]
    have hlen : 1 <<< hs.length ≤ 4096 := by
      rw [shl_one]
      exact Nat.pow_le_pow_right (n := 2) (by decide) h12
    have hwle : ∀ x ∈ allW m hs, x ≤ full m := fun x hx => by
      obtain ⟨n, _, rfl⟩ := List.mem_map.mp hx
      exact sumAt_le (fun r hr => by
        obtain ⟨g, hg, rfl⟩ := List.mem_map.mp hr
        exact heapW_le (hc.ch.lt g hg)) n
    refine ⟨_, _, _, ⟨c, m, hs, fa, [], rfl, hc.mono s2, h12, ht.ext s2, upd_same, rfl, rfl, rfl⟩, fun i x H H' s h => ⟨h.1.ext s, h.2⟩, NearI K c m hs u H, ⟨s2.gr, fa, fun z => z.2 rfl, (fun o e => by rw [hfa] at e; cases e), by simp, upd_same, Nat.le_refl _, _, _, rfl⟩, ?_⟩
    rintro i G σ' H3 ⟨g3, fa, hnG, hnl, hti, hfl, hll, v1, v2, rfl⟩
    refine ⟨fun hi H4 k4 it4 => ?_, fun hi x H4 G4 k4 hG4 it4 => ?_⟩
    · subst hi
      have gk : Gr K H3 H4 := ⟨k4, fun _ => it4.1⟩
      have g4 : Gr K H H4 := g3.trans gk
      have e4 := gk.lst hfl
      have tke : (allW m hs).take (1 <<< hs.length) = allW m hs := by rw [← hal]; exact List.take_length
      rw [tke] at e4 ⊢
      have e5 := e4
      rw [nvs_int] at e5
      walk_at "rd"
      refine ⟨fa, _, rfl, sqL_of e5, fun ns p hp hs' hn => ?_⟩
      obtain ⟨ys, rfl, hp1, hp2⟩ := perm_cast hp hs'
      rw [← nvs_int]
      walk_at "rd"
      refine rd_tupL2 upd_same fun t h6 => ?_
      walk_at "rd"
      refine rd_rec rfl fun x dx H7 s7 e7 => ?_
      exact q x dx t ys H7 (((g4.sm (Sm.new hn)).sm (Sm.new h6)).sm s7) e7 (s7 _ _ upd_same) hp1 hp2
    · have gk : Gr K H3 H4 := ⟨k4, fun _ => it4.1⟩
      have g4 : Gr K H H4 := g3.trans gk
      have hc4 : ChAt H4 c m hs := hc.gr g4
      have e4 := gk.lst hfl
      have hx := it4.2 (by rw [List.length_map]; exact hi)
      subst hx
      have hai : (allW m hs)[i]? = some (sumAt (hs.map (heapW m)) i) := by
        unfold allW
        rw [List.getElem?_map, List.getElem?_range hi]; rfl
      generalize sumAt (hs.map (heapW m)) i = y at hai
      have hyl : y ≤ full m := hwle y (List.mem_of_getElem? hai)
      have htk : (allW m hs).take (i + 1) = (allW m hs).take i ++ [y] := by rw [List.take_add_one, hai]; rfl
      have hG4n : ¬ G4 fa := fun z => by
        rcases (hG4 fa z).2 with y | y | ⟨o, y, ⟨ob, y2⟩⟩
        · exact hnG y
        · rw [hfl] at y; cases y
        · rw [e4] at y; cases y; cases y2
      have hti2 : ((allW m hs).take (i + 1)).length = i + 1 := by rw [htk, List.length_append, hti]; rfl
      have hst : ((allW m hs).take (i + 1)).foldl (nearStep u) (1 <<< m + 1, []) = nearStep u (((allW m hs).take i).foldl (nearStep u) (1 <<< m + 1, [])) y := by rw [htk, List.foldl_append]; rfl
      unfold NearI
      rw [hti2, hst]
      generalize ((allW m hs).take i).foldl (nearStep u) (1 <<< m + 1, []) = st at e4 hll
      walk_at "rd"
      refine rd_letters T hc4 ?_
      walk_at "rd"
      refine ⟨m, u ^^^ y, rfl, h1, h5, full_xor hu hyl, ?_⟩
      walk_at "rd"
      unfold nearStep
      have keep : ∀ {H5 H6 : Hp} {fb : Addr} {o : HO}, Sm H4 H5 → (¬ G4 fb) → ∀ b, G4 b → upd H5 fb o b = H4 b := fun {H5 H6 fb o} s5 hb b hb' => by
        have nb : b ≠ fb := fun z => hb (z ▸ hb')
        rw [upd_ne nb]
        cases e : H4 b with
        | none => exact absurd e (hG4 b hb').1
        | some o => exact s5 _ _ e
      refine tdec (fun z => ?_) fun z => ?_
      · rw [if_neg z]
        walk_at "rd"
        refine tdec (fun z2 => ?_) fun z2 => ?_
        · rw [if_neg z2]
          walk_at "rd"
          exact ⟨⟨g4, fa, hG4n, hnl, rfl, e4, by omega, _, _, rfl⟩, fun _ _ => rfl⟩
        · rw [if_pos z2]
          walk_at "rd"
          refine rd_bm ?_
          walk_at "rd"
          refine ⟨.inl ⟨rfl, _, sqL_of e4⟩, ?_⟩
          walk_at "rd"
          refine ⟨fa, _, _, rfl, rfl, e4, by rw [List.length_map, sizeLine_eq]; omega, ?_⟩
          refine ⟨⟨g4.lset e4 hnl, fa, hG4n, hnl, rfl, ?_, ?_, _, _, rfl⟩, keep (H6 := H4) Sm.refl hG4n⟩
          · rw [upd_same]; exact congrArg (fun l => some (HO.lst l)) (List.map_append (f := nv) (l₁ := st.2) (l₂ := [y])).symm
          · rw [List.length_append, List.length_singleton]; omega
      · rw [if_pos z]
        walk_at "rd"
        refine ⟨by rw [sizeLine_eq]; decide, fun fb hfb => ?_⟩
        walk_at "rd"
        refine tdec (fun z2 => absurd rfl z2) fun _ => ?_
        walk_at "rd"
        refine rd_bm ?_
        walk_at "rd"
        refine ⟨.inl ⟨rfl, _, sqL_of upd_same⟩, ?_⟩
        walk_at "rd"
        refine ⟨fb, [], _, rfl, rfl, upd_same, by rw [sizeLine_eq]; decide, ?_⟩
        have hG4b : ¬ G4 fb := fun z => (hG4 fb z).1 hfb
        refine ⟨⟨(g4.sm (Sm.new hfb)).lset upd_same (nl_of_new g4 hfb), fb, hG4b, nl_of_new g4 hfb, rfl, upd_same, by simp, _, _, rfl⟩, keep (H6 := H4) (Sm.new hfb) hG4b⟩
  case len =>
    obtain ⟨c, m, hs, u, rfl, hc, _⟩ := h
    rfl
end
end G
set_option maxHeartbeats 4000000
-- text D18
namespace M
/-- xs[lo:hi] -/
def cutN (xs : List Nat) (lo hi : Nat) : List Nat := (xs.drop lo).take (hi - lo)
theorem cut_mem {xs : List Nat} {lo hi x : Nat} (h : x ∈ cutN xs lo hi) : x ∈ xs := List.mem_of_mem_drop (List.mem_of_mem_take h)
theorem cut_asc {xs : List Nat} {lo hi : Nat} (h : Asc xs) : Asc (cutN xs lo hi) := (List.Pairwise.drop h).take
theorem cut_len {xs : List Nat} {lo hi : Nat} : (cutN xs lo hi).length ≤ xs.length := by
  unfold cutN
  rw [List.length_take, List.length_drop]; omega
/-- two_near -/
def otherW (m : Nat) (hs : List Nat) : Nat := heapW m ((topH hs).headD 0)
def halfW (m : Nat) (hs : List Nat) (k : Nat) : List Nat := cutN (onesOf m (otherW m hs)) k (k + (leastW m hs - k) / 2)
theorem tops_mem {hs : List Nat} (h : hs ≠ []) : ∃ x ∈ hs, ones x = tops hs := by
  have key : ∀ (l : List Nat) (a : Nat), l.foldl max a = a ∨ l.foldl max a ∈ l := by
    intro l
    induction l with
    | nil => intro a; exact .inl rfl
    | cons b l ih =>
      intro a
      rw [List.foldl_cons]
      rcases ih (max a b) with e | e
      · rw [e]
        by_cases z : a ≤ b
        · right; rw [Nat.max_eq_right z]; exact List.mem_cons_self
        · left; exact Nat.max_eq_left (by omega)
      · exact .inr (List.mem_cons_of_mem _ e)
  cases hs with
  | nil => exact absurd rfl h
  | cons a l =>
    unfold tops
    rw [List.map_cons, List.foldl_cons, Nat.zero_max]
    rcases key (l.map ones) (ones a) with e | e
    · exact ⟨a, List.mem_cons_self, e.symm⟩
    · obtain ⟨x, hx, e2⟩ := List.mem_map.mp e
      exact ⟨x, List.mem_cons_of_mem _ hx, e2⟩
theorem topH_ne {hs : List Nat} (h : hs ≠ []) : topH hs ≠ [] := by
  obtain ⟨x, hx, e⟩ := tops_mem h
  intro z
  have : x ∈ topH hs := List.mem_filter.mpr ⟨hx, decide_eq_true e⟩
  rw [z] at this; cases this
theorem topH_mem {hs : List Nat} {x : Nat} : x ∈ topH hs ↔ x ∈ hs ∧ ones x = tops hs := by
  unfold topH
  rw [List.mem_filter, decide_eq_true_iff]
end M
namespace G
open PySem PySem.Spec PyProof.Rows L2 M GG
section
variable {P : Program} {w : World} {K : PySem.W.Frag} {mg : Str → Option Value} {base : Heap}
section
variable {σ : L2.St} {H : Hp} {Q : VK}
theorem rd_sl {r : V → Option Int → Option Int → Hp → VK → Prop} {te : TE} {tl th : TO} (h : te σ H fun x H1 => tl σ H1 fun l H2 => th σ H2 fun u H3 => r x l u H3 Q) : tSl r te tl th σ H Q := h
theorem rd_nopart {q : Option Int → Hp → Prop} (h : q none H) : tNoPart σ H q := h
theorem rd_part {t : TE} {q : Option Int → Hp → Prop} (h : t σ H fun x H1 => ∃ i, x = .int i ∧ q (some i) H1) : tPart t σ H q := h
end
theorem sIx_min (n d k : Nat) : HT.sIx n d (some (k : Int)) = min k n := HT.sIx_nat n d k
theorem cutV_nvs (xs : List Nat) (lo hi : Nat) : cutV (nvs xs) (some (lo : Int)) (some (hi : Int)) = nvs (cutN xs lo hi) := by
  unfold cutV cutN nvs
  rw [sIx_min, sIx_min, List.length_map, ← List.map_drop, ← List.map_take]
  congr 1
  by_cases z : lo ≤ xs.length
  · rw [Nat.min_eq_left z]
    apply List.take_eq_take_iff.mpr
    rw [List.length_drop]
    omega
  · have z2 : xs.length ≤ lo := by omega
    rw [Nat.min_eq_right z2, List.drop_eq_nil_of_le (Nat.le_refl _), List.drop_eq_nil_of_le z2, List.take_nil, List.take_nil]
theorem cutV_pre (xs : List Nat) (hi : Nat) : cutV (nvs xs) none (some (hi : Int)) = nvs (xs.take hi) := by
  unfold cutV nvs
  rw [HT.sIx_none, sIx_min, List.length_map, List.drop_zero, Nat.sub_zero, ← List.map_take]
  congr 1
  apply List.take_eq_take_iff.mpr
  omega
/-- t[lo:hi] of a tuple -/
theorem rd_slA {H : Hp} {Q : VK} {t : Addr} {xs : List Nat} {lo hi : Nat} (e : H t = some (.tup (nvs xs))) (q : ∀ p H', Sm H H' → H' p = some (.tup (nvs (cutN xs lo hi))) → Q (.ref p) H') : rSlA K (.ref t) (some (lo : Int)) (some (hi : Int)) H Q := by
  refine ⟨t, nvs xs, rfl, sqT_of e, fun hw => ?_, fun _ p hp => ?_⟩
  · refine q t H Sm.refl ?_
    rw [← cutV_nvs]
    unfold cutV
    rw [hw.1, hw.2, List.drop_zero, Nat.sub_zero, List.take_length]
    exact e
  · exact q p _ (Sm.new hp) (by rw [upd_same, cutV_nvs])
theorem rd_slA0 {H : Hp} {Q : VK} {t : Addr} {xs : List Nat} {hi : Nat} (e : H t = some (.tup (nvs xs))) (q : ∀ p H', Sm H H' → H' p = some (.tup (nvs (xs.take hi))) → Q (.ref p) H') : rSlA K (.ref t) none (some (hi : Int)) H Q := by
  refine ⟨t, nvs xs, rfl, sqT_of e, fun hw => ?_, fun _ p hp => ?_⟩
  · refine q t H Sm.refl ?_
    rw [← cutV_pre]
    unfold cutV
    rw [hw.1, hw.2, List.drop_zero, Nat.sub_zero, List.take_length]
    exact e
  · exact q p _ (Sm.new hp) (by rw [upd_same, cutV_pre])
def spTwo : Sp := fun vs H Q _ => ∃ (c : Addr) (m : Nat) (hs : List Nat) (k : Nat), vs = [.ref c, nv k] ∧ ChAt H c m hs ∧ hs ≠ [] ∧ k ≤ leastW m hs ∧ (leastW m hs - k) % 2 = 0 ∧
  ∀ a dx tl H', Sm H H' → H' a = some (.ins c_TwoNear dx [("word", nv (mark (halfW m hs k))), ("lost", .ref tl), ("one", nv 0), ("other", nv (otherW m hs))]) → H' tl = some (.tup (nvs ((onesOf m (otherW m hs)).take k))) → Q (.ref a) H'
theorem sc_two_near : FnScope ["choice", "many", "letters", "least", "tops", "other", "marked", "half", "heap"] ["choice", "many"] (defScope (top 64)) := ⟨rfl, rfl, rfl, by decide +kernel, rfl, by decide +kernel, by decide +kernel⟩
theorem ok_two_near (T : Txt K mg) : FnOk P w K mg base CX0 6 a_two_near (fdOf K a_two_near) ["choice", "many"] spTwo := by
  refine T.f_two_near.ok sc_two_near (fun vs H Q E h => ?len) (fun cdv A outer s H vs Q E hr h => ?body)
  case body =>
    have nd := sc_two_near.nd
    refine ⟨_, PSs.nox (pss_cons (ps_expr (pe_call (ok_check_some T) (hr.mono (by decide)) rfl (T.g_check_some) (T.k_check_some) (T.b_check_some) .nil pass0 (pa_cons (pv 0) pa_nil)))
      (pss_cons (ps_set (i := 2) nd rfl (Or.inl rfl) (pe_fld (pv 0) rfl))
      (pss_cons (ps_set (i := 3) nd rfl (Or.inl rfl) (pe_op o_shl (pe_n 1) (pe_op o_sub (pv 2) (pe_prop (pv 0) T.cl_Choice (T.pro_top_size) (ok_top_size T) (hr.mono (by decide)) (T.b_top_size) .nil pass0 (by rfl)))))
      (pss_cons (ps_expr (pe_call (ok_check_number T) (hr.mono (by decide)) rfl (T.g_check_number) (T.k_check_number) (T.b_check_number) .nil pass0 (pa_cons (pv 1) (pa_cons (pv 3) pa_nil))))
      (pss_cons (ps_if (pt_num (pe_op o_and (pe_op o_sub (pv 3) (pv 1)) (pe_n 1))) (pss_one ps_never) pss_nil)
      (pss_cons (ps_setLc (i := 4) (own := [("heap", 8)]) rfl nd rfl rfl (sw_true rfl rfl rfl (by decide +kernel)) (pi_tup (pe_fld (pv 0) rfl)) (blkOk_by (N := ["choice", "many", "letters", "least", "tops", "other", "marked", "half", "heap"]) (sc := defScope (top 64)) (by decide +kernel)) (fun _ _ _ _ _ => (pg_name (i := 8) nd rfl (.inl rfl))) (fun _ _ _ _ _ => (pts_one (pt_cmpR o_eq (pe_call (ok_count_ones T) (hr.mono (by decide)) rfl (T.g_count_ones) (T.k_count_ones) (T.b_count_ones) .nil pass0 (pa_cons (pv 8) pa_nil)) (pe_prop (pv 0) T.cl_Choice (T.pro_top_size) (ok_top_size T) (hr.mono (by decide)) (T.b_top_size) .nil pass0 (by rfl)) (nomark _)))) (fun _ _ _ _ _ => (pv 8)))
      (pss_cons (ps_set (i := 5) nd rfl (Or.inl rfl) (pe_call (ok_heap_word T) (hr.mono (by decide)) rfl (T.g_heap_word) (T.k_heap_word) (T.b_heap_word) .nil pass0 (pa_cons (pv 2) (pa_cons (pe_ix ix_list (pv 4) (pe_n 0) (fun _ _ => rfl)) pa_nil))))
      (pss_cons (ps_set (i := 6) nd rfl (Or.inl rfl) (pe_call (ok_places_of T) (hr.mono (by decide)) rfl (T.g_places_of) (T.k_places_of) (T.b_places_of) .nil pass0 (pa_cons (pv 2) (pa_cons (pv 5) pa_nil))))
      (pss_cons (ps_set (i := 7) nd rfl (Or.inl rfl) (pe_op o_div (pe_op o_sub (pv 3) (pv 1)) (pe_n 2)))
      (pss_one (ps_ret (pe_make (T.mk_TwoNear) (ok_TwoNear T) (hr.mono (by decide)) rfl (T.g_TwoNear) (T.b_TwoNear) .nil pass0 (pa_cons (pe_call (ok_marked_word T) (hr.mono (by decide)) rfl (T.g_marked_word) (T.k_marked_word) (T.b_marked_word) .nil pass0 (pa_cons (pv 2) (pa_cons (pe_slice sl_tupA (pv 6) (po_some (pv 1)) (po_some (pe_op o_add (pv 1) (pv 7)))) pa_nil))) (pa_cons (pe_slice sl_tupA (pv 6) po_none (po_some (pv 1))) (pa_cons (pe_n 0) (pa_cons (pv 5) pa_nil)))))))))))))))), ?_⟩
    obtain ⟨c, m, hs, k, rfl, hc, hne, hk, hk2, q⟩ := h
    have h1 := hc.ch.m1
    have h5 := hc.ch.m5
    walk_at "rd"
    refine ⟨c, m, hs, rfl, hc, hne, ?_⟩
    walk_at "rd"
    refine rd_letters T hc ?_
    walk_at "rd"
    refine rd_top hc hne fun H1 s1 => ?_
    have hc1 := hc.mono s1
    refine rd_n hc.tl ?_
    refine rd_n ⟨by omega, by omega⟩ ?_
    walk_at "rd"
    refine ⟨k, _, rfl, hk, ?_⟩
    walk_at "rd"
    have hL : 1 <<< (m - tops hs) = leastW m hs := rfl
    rw [hL]
    refine rd_n hk ?_
    walk_at "rd"
    rw [Nat.and_one_is_mod, hk2]
    refine tdec (fun _ => ?_) fun z => absurd rfl z
    walk_at "rd"
    refine rd_heaps T hc1 fun t et => ?_
    refine lc_tupJ (sqT_of et) (line32 (by have := hc.len; omega)) (fun g => decide (ones g = tops hs)) nv (fun g hg H2 D2 s2 Nx g1 g2 => ?_) (fun H2 D2 s2 hD e => ?_)
    · walk_at "rd"
      refine ⟨g, rfl, ?_⟩
      walk_at "rd"
      refine rd_top (hc1.mono s2) hne fun H3 s3 => ?_
      walk_at "rd"
      refine tdec (fun z => ?_) fun z => ?_
      · exact g1 _ s3 (decide_eq_false z)
      · walk_at "rd"
        exact g2 _ s3 (decide_eq_true z)
    · have e0 : H2 D2 = some (.lst (nvs (topH hs))) := e
      have hc2 := hc1.mono s2
      obtain ⟨x, r, htp⟩ : ∃ x r, topH hs = x :: r := List.exists_cons_of_ne_nil (topH_ne hne)
      have hxm : x ∈ topH hs := by rw [htp]; exact List.mem_cons_self
      have hx2 : x < 2 ^ m := hc.ch.lt x (topH_mem.mp hxm).1
      have hot : otherW m hs = heapW m x := by unfold otherW; rw [htp]; rfl
      have hol := heapW_le hx2
      rw [← hot] at hol
      walk_at "rd"
      refine ⟨D2, nvs (topH hs), ((0 : Nat) : Int), nv x, rfl, rfl, sqL_of e0, atI_nat (by rw [htp]; rfl), ?_⟩
      walk_at "rd"
      refine ⟨m, x, rfl, h1, h5, hx2, ?_⟩
      rw [← hot]
      walk_at "rd"
      refine ⟨m, otherW m hs, rfl, h1, h5, hol, fun wt H3 s3 e3 => ?_⟩
      walk_at "rd"
      refine rd_n hk ?_
      walk_at "rd"
      refine rd_n ⟨by omega, by omega⟩ ?_
      walk_at "rd"
      refine rd_sl ?_
      walk_at "rd"
      refine rd_part ?_
      walk_at "rd"
      refine ⟨_, rfl, rd_part ?_⟩
      walk_at "rd"
      refine ⟨_, rfl, rd_slA e3 fun p H4 s4 e4 => ?_⟩
      walk_at "rd"
      refine ⟨m, p, halfW m hs k, halfW m hs k, rfl, h1, h5, .inr e4, fun y hy => (mem_onesOf.mp (cut_mem hy)).1, ?_, cut_asc (onesOf_asc _ _), fun _ => Iff.rfl, fun H5 s5 => ?_⟩
      · have := cut_len (xs := onesOf m (otherW m hs)) (lo := k) (hi := k + (leastW m hs - k) / 2)
        have z := asc_len (onesOf m (otherW m hs)) 0 (2 ^ m) (onesOf_asc _ _) fun x hx => ⟨Nat.zero_le _, (mem_onesOf.mp hx).1⟩
        have := pow32 h5
        unfold halfW
        omega
      walk_at "rd"
      refine rd_sl ?_
      walk_at "rd"
      refine rd_nopart ?_
      refine rd_part ?_
      walk_at "rd"
      refine ⟨_, rfl, rd_slA0 (s5 _ _ (s4 _ _ e3)) fun p2 H6 s6 e6 => ?_⟩
      walk_at "rd"
      refine rd_rec rfl fun a dx H7 s7 e7 => ?_
      exact q a dx p2 H7 (s1.trans (s2.trans (s3.trans (s4.trans (s5.trans (s6.trans s7)))))) e7 (s7 _ _ e6)
  case len =>
    obtain ⟨c, m, hs, k, rfl, _⟩ := h
    rfl
end
end G
set_option maxHeartbeats 4000000
-- text D19
namespace M
/-- the letters below that h leaves out -/
def freeL (h l : Nat) : List Nat := (List.range l).filter fun o => decide ((h >>> o &&& 1) = 0)
/-- descents_of, not sorted -/
def descOf (h l : Nat) : List Nat := (h ^^^ 1 <<< l) :: (freeL h l).map fun o => (h ^^^ 1 <<< l) ||| 1 <<< o
def descF (h : Nat) : List Nat := (lettersOf h).flatMap (descOf h)
def freeB (h : Nat) : Nat := ((lettersOf h).map fun l => 1 + (freeL h l).length).sum
def leastC (hs : List Nat) : Nat := ((topH hs).map fun h => 1 <<< freeB h).sum
def ClosedC (hs : List Nat) : Prop := ∀ h ∈ hs, ∀ l ∈ lettersOf h, h ^^^ 1 <<< l ∈ hs
def FallC (hs : List Nat) : Prop := ∀ h ∈ hs, ∀ g ∈ descF h, g ∈ hs
theorem lets_lt {h l : Nat} (e : l ∈ lettersOf h) : l < 5 := List.mem_range.mp (List.mem_filter.mp e).1
theorem lets_len (h : Nat) : (lettersOf h).length ≤ 5 := by
  unfold lettersOf
  refine Nat.le_trans (List.length_filter_le _ _) ?_
  rw [List.length_range]
  exact Nat.le_refl _
theorem freeL_len (h l : Nat) : (freeL h l).length ≤ l := by
  unfold freeL
  refine Nat.le_trans (List.length_filter_le _ _) ?_
  rw [List.length_range]
  exact Nat.le_refl _
theorem descOf_len {h l : Nat} (e : l < 5) : (descOf h l).length ≤ 5 := by
  unfold descOf
  rw [List.length_cons, List.length_map]
  have := freeL_len h l
  omega
theorem sum_le {l : List Nat} {b : Nat} (h : ∀ x ∈ l, x ≤ b) : l.sum ≤ l.length * b := by
  induction l with
  | nil => simp
  | cons a r ih =>
    rw [List.sum_cons, List.length_cons, Nat.succ_mul]
    have h1 := h a List.mem_cons_self
    have h2 := ih fun x hx => h x (List.mem_cons_of_mem _ hx)
    omega
theorem freeB_le (h : Nat) : freeB h ≤ 25 := by
  unfold freeB
  have := sum_le (l := (lettersOf h).map fun l => 1 + (freeL h l).length) (b := 5) fun x hx => by
    obtain ⟨l, hl, rfl⟩ := List.mem_map.mp hx
    have := freeL_len h l
    have := lets_lt hl
    omega
  rw [List.length_map] at this
  have := lets_len h
  omega
end M
namespace G
open PySem PySem.Spec PyProof.Rows L2 M GG
section
variable {P : Program} {w : World} {K : PySem.W.Frag} {mg : Str → Option Value} {base : Heap}
theorem call_lenK {X : Cx} (hK : X.K = K) : CallR X (.builtin "len") (fun xs H Q => ∃ x n, xs = [x] ∧ LenV K x H n ∧ Q (.int n) H) := by
  subst hK
  exact call_len
theorem op_inK {X : Cx} (hK : X.K = K) : OpR X (compareOp .In) (rIn K false) := by
  subst hK
  exact op_in_seq
theorem op_notInK {X : Cx} (hK : X.K = K) : OpR X (compareOp .NotIn) (rIn K true) := by
  subst hK
  exact op_notIn_seq
theorem nvs_append (a b : List Nat) : nvs (a ++ b) = nvs a ++ nvs b := List.map_append
theorem ch32 {H : Hp} {c : Addr} {m : Nat} {hs : List Nat} (hc : ChAt H c m hs) {h : Nat} (e : h ∈ hs) : h < 32 := Nat.lt_of_lt_of_le (hc.ch.lt h e) (pow32 hc.ch.m5)
def spFreeL : Sp := fun vs H Q _ => ∃ h l : Nat, vs = [nv h, nv l] ∧ l < 5 ∧ NewL H (freeL h l) Q
theorem sc_free_letters : FnScope ["heap", "letter", "lower"] ["heap", "letter"] (defScope (top 80)) := ⟨rfl, rfl, rfl, by decide +kernel, rfl, by decide +kernel, by decide +kernel⟩
theorem ok_free_letters (T : Txt K mg) : FnOk P w K mg base CX0 1 a_free_letters (fdOf K a_free_letters) ["heap", "letter"] spFreeL := by
  refine T.f_free_letters.ok sc_free_letters (fun vs H Q E h => ?len) (fun cdv A outer s H vs Q E hr h => ?body)
  case body =>
    have nd := sc_free_letters.nd
    refine ⟨_, PSs.nox (pss_one (ps_ret (pe_lc (own := [("lower", 2)]) rfl nd (pi_range1 rfl (T.n_range) (pa_cons (pv 1) pa_nil)) (blkOk_by (N := ["heap", "letter", "lower"]) (sc := defScope (top 80)) (by decide +kernel)) (fun _ _ _ _ _ => (pg_name (i := 2) nd rfl (.inl rfl))) (fun _ _ _ _ _ => (pts_one (pt_not (pt_num (pe_op o_and (pe_op o_shr (pv 0) (pv 2)) (pe_n 1)))))) (fun _ _ _ _ _ => (pv 2))))), ?_⟩
    obtain ⟨h, l, rfl, hl, q⟩ := h
    walk_at "rd"
    refine lc_rngJ (n := l) (line32 (by omega)) (fun o => decide ((h >>> o &&& 1) = 0)) nv (fun o ho H2 D2 s2 Nx g1 g2 => ?_) (fun H2 D2 s2 hD e => ?_)
    · walk_at "rd"
      by_cases z : (h >>> o &&& 1) = 0
      · rw [decide_eq_false (by simpa using z)]
        walk_at "rd"
        exact g2 _ Sm.refl (decide_eq_true z)
      · rw [decide_eq_true (by simpa using z)]
        exact g1 _ Sm.refl (decide_eq_false z)
    · exact q _ _ s2 e
  case len =>
    obtain ⟨h, l, rfl, _⟩ := h
    rfl
def spFreeB : Sp := fun vs H Q _ => ∃ h : Nat, vs = [nv h] ∧ h < 32 ∧ ∀ H', Sm H H' → Q (nv (freeB h)) H'
theorem sc_free_bits : FnScope ["heap", "letter"] ["heap"] (defScope (top 81)) := ⟨rfl, rfl, rfl, by decide +kernel, rfl, by decide +kernel, by decide +kernel⟩
theorem ok_free_bits (T : Txt K mg) : FnOk P w K mg base CX0 5 a_free_bits (fdOf K a_free_bits) ["heap"] spFreeB := by
  refine T.f_free_bits.ok sc_free_bits (fun vs H Q E h => ?len) (fun cdv A outer s H vs Q E hr h => ?body)
  case body =>
    have nd := sc_free_bits.nd
    refine ⟨_, PSs.nox (pss_one (ps_ret (pe_callB (cr_sum rfl) (by rfl) (T.n_sum) (by decide +kernel) (pa_cons (pe_lc (own := [("letter", 1)]) rfl nd (pi_tup (pe_call (ok_letters_of T) (hr.mono (by decide)) rfl (T.g_letters_of) (T.k_letters_of) (T.b_letters_of) .nil pass0 (pa_cons (pv 0) pa_nil))) (blkOk_by (N := ["heap", "letter"]) (sc := defScope (top 81)) (by decide +kernel)) (fun _ _ _ _ _ => (pg_name (i := 1) nd rfl (.inl rfl))) (fun _ _ _ _ _ => pts_nil) (fun _ _ _ _ _ => (pe_op o_add (pe_n 1) (pe_callB (call_lenK (K := K) (by rfl)) (by rfl) (T.n_len) (by decide +kernel) (pa_cons (pe_call (ok_free_letters T) (hr.mono (by decide)) rfl (T.g_free_letters) (T.k_free_letters) (T.b_free_letters) .nil pass0 (pa_cons (pv 0) (pa_cons (pv 1) pa_nil))) pa_nil))))) pa_nil)))), ?_⟩
    obtain ⟨h, rfl, h32, q⟩ := h
    walk_at "rd"
    refine ⟨h, rfl, h32, fun t H2 s2 et => ?_⟩
    refine lc_tupJ (sqT_of et) (line32 (by have := lets_len h; omega)) (fun _ => true) (fun l => nv (1 + (freeL h l).length)) (fun l hl H3 D2 s3 Nx g1 g2 => ?_) (fun H3 D2 s3 hD e => ?_)
    · walk_at "rd"
      refine ⟨h, l, rfl, lets_lt hl, fun fl H4 s4 e4 => ?_⟩
      walk_at "rd"
      refine ⟨_, _, rfl, .inl ⟨_, sqL_of e4, rfl⟩, ?_⟩
      rw [List.length_map]
      walk_at "rd"
      exact g2 _ s4 rfl
    · walk_at "rd"
      rw [List.filter_eq_self.mpr (fun _ _ => rfl), ← nvs_map, nvs_int] at e
      refine ⟨D2, _, rfl, sqL_of e, ?_⟩
      rw [sum_cast]
      exact q _ (s2.trans s3)
  case len =>
    obtain ⟨h, rfl, _⟩ := h
    rfl
def spDesc : Sp := fun vs H Q _ => ∃ h : Nat, vs = [nv h] ∧ h < 32 ∧ ∀ t ys H', Sm H H' → List.Perm ys (descF h) → H' t = some (.tup (nvs ys)) → Q (.ref t) H'
theorem sc_descents_of : FnScope ["heap", "found", "letter", "others", "lower"] ["heap"] (defScope (top 66)) := ⟨rfl, rfl, rfl, by decide +kernel, rfl, by decide +kernel, by decide +kernel⟩
theorem ok_descents_of (T : Txt K mg) : FnOk P w K mg base CX0 5 a_descents_of (fdOf K a_descents_of) ["heap"] spDesc := by
  refine T.f_descents_of.ok sc_descents_of (fun vs H Q E h => ?len) (fun cdv A outer s H vs Q E hr h => ?body)
  case body =>
    have nd := sc_descents_of.nd
    refine ⟨_, PSs.nox (pss_cons (ps_set (i := 1) nd rfl (Or.inl rfl) (pe_lst pa_nil))
      (pss_cons (ps_for PassesOwn.never rfl (pi_tup (pe_call (ok_letters_of T) (hr.mono (by decide)) rfl (T.g_letters_of) (T.k_letters_of) (T.b_letters_of) .nil pass0 (pa_cons (pv 0) pa_nil))) (pg_name (i := 2) nd rfl (.inl rfl)) (pss_cons (ps_set (i := 3) nd rfl (Or.inl rfl) (pe_op o_xor (pv 0) (pe_op o_shl (pe_n 1) (pv 2))))
      (pss_cons (ps_expr (pe_bm PySem.F.plainAttrs_list PySem.F.slot_list_append PySem.F.type_list_append mt_append (pv 1) (pa_cons (pv 3) pa_nil)))
      (pss_one (ps_for PassesOwn.never rfl (pi_range1 rfl (T.n_range) (pa_cons (pv 2) pa_nil)) (pg_name (i := 4) nd rfl (.inl rfl)) (pss_one (ps_if (pt_cmpR o_eq (pe_op o_and (pe_op o_shr (pv 0) (pv 4)) (pe_n 1)) (pe_n 0) (nomark _)) (pss_one (ps_expr (pe_bm PySem.F.plainAttrs_list PySem.F.slot_list_append PySem.F.type_list_append mt_append (pv 1) (pa_cons (pe_op o_or (pv 3) (pe_op o_shl (pe_n 1) (pv 4))) pa_nil)))) pss_nil)))))))
      (pss_one (ps_ret (pe_callTy (call_tuple_of) (by rfl) (T.n_tuple) (by decide +kernel) (pa_cons (pe_callB (cr_sortedI) (by rfl) (T.n_sorted) (by decide +kernel) (pa_cons (pv 1) pa_nil)) pa_nil)))))), ?_⟩
    obtain ⟨h, rfl, h32, q⟩ := h
    walk_at "rd"
    refine ⟨by rw [sizeLine_eq]; decide, fun fa hfa => ?_⟩
    walk_at "rd"
    refine ⟨h, rfl, h32, fun t H2 s2 et => ?_⟩
    have hflat : ∀ i l, (lettersOf h)[i]? = some l → ((lettersOf h).take (i + 1)).flatMap (descOf h) = ((lettersOf h).take i).flatMap (descOf h) ++ descOf h l := fun i l e => by
      rw [take_at e, List.flatMap_append]; simp
    have hfl2 : ∀ i, (((lettersOf h).take i).flatMap (descOf h)).length ≤ 25 := fun i => by
      rw [List.length_flatMap]
      have := sum_le (l := ((lettersOf h).take i).map fun x => (descOf h x).length) (b := 5) fun x hx => by
        obtain ⟨l, hl, rfl⟩ := List.mem_map.mp hx
        exact descOf_len (lets_lt (List.mem_of_mem_take hl))
      rw [List.length_map, List.length_take] at this
      have := lets_len h
      omega
    have hfa2 : H2 fa = some (.lst []) := s2 _ _ upd_same
    have sm0 : ∀ {H3 : Hp}, (∀ b o, b ≠ fa → H2 b = some o → H3 b = some o) → Sm H H3 := fun {H3} k b o e => by
      have nb : b ≠ fa := fun z => by rw [z, hfa] at e; cases e
      exact k b o nb (s2 b o (by rw [upd_ne nb]; exact e))
    have ntf : t ≠ fa := fun z => by rw [z, hfa2] at et; cases et
    refine ⟨t, rfl, ⟨_, sqT_of et⟩, for_tup (fun i σ' H' => (∀ b o, b ≠ fa → H2 b = some o → H' b = some o) ∧ H' fa = some (.lst (nvs (((lettersOf h).take i).flatMap (descOf h)))) ∧ ∃ v1 v2 v3, σ' = [some (nv h), some (.ref fa), v1, v2, v3]) ⟨fun _ _ _ e => e, hfa2, _, _, _, rfl⟩ (fun i σ' H' _ p => sqT_of (p.1 _ _ ntf et)) (fun i x σ' H' hxi p => ?_) (fun σ' H' p => ?_)⟩
    · obtain ⟨k3, e3, v1, v2, v3, rfl⟩ := p
      obtain ⟨l, hl, rfl⟩ := mem_nvs hxi
      have hl5 := lets_lt (List.mem_of_getElem? hl)
      rw [hflat i l hl]
      have hb3 := hfl2 i
      generalize ((lettersOf h).take i).flatMap (descOf h) = acc at e3 hb3
      walk_at "rd"
      refine rd_n ⟨by omega, by omega⟩ ?_
      walk_at "rd"
      refine rd_bm ?_
      walk_at "rd"
      refine ⟨.inl ⟨rfl, _, sqL_of e3⟩, ?_⟩
      walk_at "rd"
      refine ⟨fa, _, _, rfl, rfl, e3, by rw [List.length_map, sizeLine_eq]; omega, ?_⟩
      walk_at "rd"
      refine for_rngJ (n := l) (by omega) (fun o σ' H' => (∀ b o, b ≠ fa → H2 b = some o → H' b = some o) ∧ H' fa = some (.lst (nvs (acc ++ ((h ^^^ 1 <<< l) :: (freeL h o).map fun o => (h ^^^ 1 <<< l) ||| 1 <<< o)))) ∧ ∃ v3, σ' = [some (nv h), some (.ref fa), some (nv l), some (nv (h ^^^ 1 <<< l)), v3]) ⟨fun b o' nb e => by rw [upd_ne nb]; exact k3 b o' nb e, ?_, v3, rfl⟩ (fun o σ' H' ho p => ?_) (fun σ' H' p => ?_)
      · rw [upd_same, nvs_append]; rfl
      · obtain ⟨k4, e4, v5, rfl⟩ := p
        have hfo := freeL_len h o
        have hst : freeL h (o + 1) = freeL h o ++ if (h >>> o &&& 1) = 0 then [o] else [] := by
          unfold freeL
          rw [List.range_succ, List.filter_append]
          by_cases z : (h >>> o &&& 1) = 0
          · rw [if_pos z, List.filter_cons, if_pos (decide_eq_true z)]; rfl
          · rw [if_neg z, List.filter_cons, if_neg (fun y => z (of_decide_eq_true y))]; rfl
        walk_at "rd"
        refine tdec (fun z => ?_) fun z => ?_
        · rw [hst, if_neg z, List.append_nil]
          walk_at "rd"
          exact ⟨k4, e4, _, rfl⟩
        · rw [hst, if_pos z]
          walk_at "rd"
          refine rd_bm ?_
          walk_at "rd"
          refine ⟨.inl ⟨rfl, _, sqL_of e4⟩, ?_⟩
          walk_at "rd"
          refine rd_n ⟨by omega, by omega⟩ ?_
          walk_at "rd"
          refine ⟨fa, _, _, rfl, rfl, e4, by rw [List.length_map, List.length_append, List.length_cons, List.length_map, sizeLine_eq]; omega, ?_⟩
          refine ⟨fun b o' nb e => by rw [upd_ne nb]; exact k4 b o' nb e, ?_, _, rfl⟩
          rw [upd_same, List.map_append, ← List.cons_append, ← List.append_assoc, nvs_append (acc ++ _)]
          rfl
      · obtain ⟨k4, e4, v5, rfl⟩ := p
        exact ⟨k4, e4, _, _, _, rfl⟩
    · obtain ⟨k3, e3, v1, v2, v3, rfl⟩ := p
      rw [List.length_map, List.take_length] at e3
      have e5 := e3
      rw [nvs_int] at e5
      walk_at "rd"
      refine ⟨fa, _, rfl, sqL_of e5, fun ns p hp hs' hn => ?_⟩
      obtain ⟨ys, rfl, hp1, hp2⟩ := perm_cast hp hs'
      rw [← nvs_int]
      walk_at "rd"
      refine rd_tupL2 upd_same fun t h6 => ?_
      exact q t ys _ ((sm0 k3).trans ((Sm.new hn).trans (Sm.new h6))) hp1 upd_same
  case len =>
    obtain ⟨h, rfl, _⟩ := h
    rfl
/-! ### the checks -/
def spGapC : Sp := fun vs H Q _ => ∃ (c : Addr) (m : Nat) (hs : List Nat), vs = [.ref c] ∧ ChAt H c m hs ∧ ClosedC hs ∧ ∀ H', Sm H H' → Q .non H'
theorem sc_closed_gap : FnScope ["choice", "heap", "missing", "letter"] ["choice"] (defScope (top 68)) := ⟨rfl, rfl, rfl, by decide +kernel, rfl, by decide +kernel, by decide +kernel⟩
theorem ok_closed_gap (T : Txt K mg) : FnOk P w K mg base CX0 5 a_closed_gap (fdOf K a_closed_gap) ["choice"] spGapC := by
  refine T.f_closed_gap.ok sc_closed_gap (fun vs H Q E h => ?len) (fun cdv A outer s H vs Q E hr h => ?body)
  case body =>
    have nd := sc_closed_gap.nd
    refine ⟨_, PSs.nox (pss_cons (ps_for PassesOwn.never rfl (pi_tup (pe_fld (pv 0) rfl)) (pg_name (i := 1) nd rfl (.inr rfl)) (pss_one (ps_for PassesOwn.never rfl (pi_list (pe_callB (cr_sortedI) (by rfl) (T.n_sorted) (by decide +kernel) (pa_cons (pe_lc (own := [("letter", 3)]) rfl nd (pi_tup (pe_call (ok_letters_of T) (hr.mono (by decide)) rfl (T.g_letters_of) (T.k_letters_of) (T.b_letters_of) .nil pass0 (pa_cons (pv 1) pa_nil))) (blkOk_by (N := ["choice", "heap", "missing", "letter"]) (sc := defScope (top 68)) (by decide +kernel)) (fun _ _ _ _ _ => (pg_name (i := 3) nd rfl (.inl rfl))) (fun _ _ _ _ _ => pts_nil) (fun _ _ _ _ _ => (pe_op o_xor (pv 1) (pe_op o_shl (pe_n 1) (pv 3))))) pa_nil))) (pg_name (i := 2) nd rfl (.inl rfl)) (pss_one (ps_if (pt_cmpR op_notIn_seq (pv 2) (pe_fld (pv 0) rfl) rfl) (pss_one (ps_ret (pe_tup (pa_cons (pv 1) (pa_cons (pv 2) pa_nil))))) pss_nil)))))
      (pss_one (ps_ret pe_non))), ?_⟩
    obtain ⟨c, m, hs, rfl, hc, hcl, q⟩ := h
    walk_at "rd"
    refine rd_heaps T hc fun t et => ?_
    refine ⟨t, rfl, ⟨_, sqT_of et⟩, for_tup (fun i σ' H' => Sm H H' ∧ ∃ v1 v2 v3, σ' = [some (.ref c), v1, v2, v3]) ⟨Sm.refl, _, _, _, rfl⟩ (fun i σ' H' _ p => p.1.sqT (sqT_of et)) (fun i x σ' H' hxi p => ?_) (fun σ' H' p => ?_)⟩
    · obtain ⟨s2, v1, v2, v3, rfl⟩ := p
      obtain ⟨g, hg, rfl⟩ := mem_nvs hxi
      have hgm := List.mem_of_getElem? hg
      walk_at "rd"
      refine ⟨g, rfl, ch32 hc hgm, fun tl H3 s3 e3 => ?_⟩
      refine lc_tupJ (sqT_of e3) (line32 (by have := lets_len g; omega)) (fun _ => true) (fun l => nv (g ^^^ 1 <<< l)) (fun l hl H4 D4 s4 Nx g1 g2 => ?_) (fun H4 D4 s4 hD e => ?_)
      · have := lets_lt hl
        walk_at "rd"
        refine rd_n ⟨by omega, by omega⟩ ?_
        walk_at "rd"
        exact g2 _ Sm.refl rfl
      · rw [List.filter_eq_self.mpr (fun _ _ => rfl), ← nvs_map, nvs_int] at e
        walk_at "rd"
        refine ⟨D4, _, rfl, sqL_of e, fun ns p hp hs' hn => ?_⟩
        obtain ⟨ys, rfl, hp1, hp2⟩ := perm_cast hp hs'
        rw [← nvs_int]
        have sA := (s2.trans (s3.trans s4)).trans (Sm.new (o := .lst (nvs ys)) hn)
        refine ⟨p, rfl, ⟨_, sqL_of upd_same⟩, for_list (fun i σ' H' => Sm (upd H4 p (.lst (nvs ys))) H' ∧ ∃ v2 v3, σ' = [some (.ref c), some (nv g), v2, v3]) ⟨Sm.refl, _, _, rfl⟩ (fun i σ' H' _ p => p.1.sqL (sqL_of upd_same)) (fun i x σ' H' hxi p => ?_) (fun σ' H' p => ?_)⟩
        · obtain ⟨s5, v2, v3, rfl⟩ := p
          obtain ⟨y, hy, rfl⟩ := mem_nvs hxi
          have hym : y ∈ hs := by
            obtain ⟨l, hl, rfl⟩ := List.mem_map.mp (hp1.mem_iff.mp (List.mem_of_getElem? hy))
            exact hcl g hgm l hl
          walk_at "rd"
          refine rd_heaps T (hc.mono (sA.trans s5)) fun t2 e2 => ?_
          walk_at "rd"
          refine rd_notin (.inr (sqT_of e2)) ?_
          walk_at "rd"
          refine tndec (fun z => ?_) fun z => absurd hym z
          walk_at "rd"
          exact ⟨s5, _, _, rfl⟩
        · obtain ⟨s5, v2, v3, rfl⟩ := p
          exact ⟨sA.trans s5, _, _, _, rfl⟩
    · obtain ⟨s2, v1, v2, v3, rfl⟩ := p
      walk_at "rd"
      exact q _ s2
  case len =>
    obtain ⟨c, m, hs, rfl, _⟩ := h
    rfl
def spGapF : Sp := fun vs H Q _ => ∃ (c : Addr) (m : Nat) (hs : List Nat), vs = [.ref c] ∧ ChAt H c m hs ∧ FallC hs ∧ ∀ H', Sm H H' → Q .non H'
theorem sc_first_gap : FnScope ["choice", "heap", "missing"] ["choice"] (defScope (top 69)) := ⟨rfl, rfl, rfl, by decide +kernel, rfl, by decide +kernel, by decide +kernel⟩
theorem ok_first_gap (T : Txt K mg) : FnOk P w K mg base CX0 6 a_first_gap (fdOf K a_first_gap) ["choice"] spGapF := by
  refine T.f_first_gap.ok sc_first_gap (fun vs H Q E h => ?len) (fun cdv A outer s H vs Q E hr h => ?body)
  case body =>
    have nd := sc_first_gap.nd
    refine ⟨_, PSs.nox (pss_cons (ps_for PassesOwn.never rfl (pi_tup (pe_fld (pv 0) rfl)) (pg_name (i := 1) nd rfl (.inl rfl)) (pss_one (ps_for PassesOwn.never rfl (pi_tup (pe_call (ok_descents_of T) (hr.mono (by decide)) rfl (T.g_descents_of) (T.k_descents_of) (T.b_descents_of) .nil pass0 (pa_cons (pv 1) pa_nil))) (pg_name (i := 2) nd rfl (.inl rfl)) (pss_one (ps_if (pt_cmpR op_notIn_seq (pv 2) (pe_fld (pv 0) rfl) rfl) (pss_one (ps_ret (pe_tup (pa_cons (pv 1) (pa_cons (pv 2) pa_nil))))) pss_nil)))))
      (pss_one (ps_ret pe_non))), ?_⟩
    obtain ⟨c, m, hs, rfl, hc, hcl, q⟩ := h
    walk_at "rd"
    refine rd_heaps T hc fun t et => ?_
    refine ⟨t, rfl, ⟨_, sqT_of et⟩, for_tup (fun i σ' H' => Sm H H' ∧ ∃ v1 v2, σ' = [some (.ref c), v1, v2]) ⟨Sm.refl, _, _, rfl⟩ (fun i σ' H' _ p => p.1.sqT (sqT_of et)) (fun i x σ' H' hxi p => ?_) (fun σ' H' p => ?_)⟩
    · obtain ⟨s2, v1, v2, rfl⟩ := p
      obtain ⟨g, hg, rfl⟩ := mem_nvs hxi
      have hgm := List.mem_of_getElem? hg
      walk_at "rd"
      refine ⟨g, rfl, ch32 hc hgm, fun tl ys H3 s3 hp e3 => ?_⟩
      refine ⟨tl, rfl, ⟨_, sqT_of e3⟩, for_tup (fun i σ' H' => Sm H3 H' ∧ ∃ v2, σ' = [some (.ref c), some (nv g), v2]) ⟨Sm.refl, _, rfl⟩ (fun i σ' H' _ p => p.1.sqT (sqT_of e3)) (fun i x σ' H' hxi p => ?_) (fun σ' H' p => ?_)⟩
      · obtain ⟨s5, v2, rfl⟩ := p
        obtain ⟨y, hy, rfl⟩ := mem_nvs hxi
        have hym : y ∈ hs := hcl g hgm y (hp.mem_iff.mp (List.mem_of_getElem? hy))
        walk_at "rd"
        refine rd_heaps T (hc.mono (s2.trans (s3.trans s5))) fun t2 e2 => ?_
        walk_at "rd"
        refine rd_notin (.inr (sqT_of e2)) ?_
        walk_at "rd"
        refine tndec (fun z => ?_) fun z => absurd hym z
        walk_at "rd"
        exact ⟨s5, _, rfl⟩
      · obtain ⟨s5, v2, rfl⟩ := p
        exact ⟨s2.trans (s3.trans s5), _, _, rfl⟩
    · obtain ⟨s2, v1, v2, rfl⟩ := p
      walk_at "rd"
      exact q _ s2
  case len =>
    obtain ⟨c, m, hs, rfl, _⟩ := h
    rfl
def spChkC : Sp := fun vs H Q _ => ∃ (c : Addr) (m : Nat) (hs : List Nat), vs = [.ref c] ∧ ChAt H c m hs ∧ ClosedC hs ∧ ∀ H', Sm H H' → Q (.ref c) H'
theorem sc_check_closed : FnScope ["choice", "gap"] ["choice"] (defScope (top 70)) := ⟨rfl, rfl, rfl, by decide +kernel, rfl, by decide +kernel, by decide +kernel⟩
theorem ok_check_closed (T : Txt K mg) : FnOk P w K mg base CX0 6 a_check_closed (fdOf K a_check_closed) ["choice"] spChkC := by
  refine T.f_check_closed.ok sc_check_closed (fun vs H Q E h => ?len) (fun cdv A outer s H vs Q E hr h => ?body)
  case body =>
    have nd := sc_check_closed.nd
    refine ⟨_, PSs.nox (pss_cons (ps_set (i := 1) nd rfl (Or.inl rfl) (pe_call (ok_closed_gap T) (hr.mono (by decide)) rfl (T.g_closed_gap) (T.k_closed_gap) (T.b_closed_gap) .nil pass0 (pa_cons (pv 0) pa_nil)))
      (pss_cons (ps_if (pt_cmpR op_notN (pv 1) pe_non (nomark _)) (pss_one ps_never) pss_nil)
      (pss_one (ps_ret (pv 0))))), ?_⟩
    obtain ⟨c, m, hs, rfl, hc, hcl, q⟩ := h
    walk_at "rd"
    refine ⟨c, m, hs, rfl, hc, hcl, fun H2 s2 => ?_⟩
    walk_at "rd"
    refine ⟨rfl, rd_bl ?_⟩
    refine tndec (fun _ => ?_) fun z => absurd rfl z
    walk_at "rd"
    exact q _ s2
  case len =>
    obtain ⟨c, m, hs, rfl, _⟩ := h
    rfl
def spChkF : Sp := fun vs H Q _ => ∃ (c : Addr) (m : Nat) (hs : List Nat), vs = [.ref c] ∧ ChAt H c m hs ∧ ClosedC hs ∧ FallC hs ∧ ∀ H', Sm H H' → Q (.ref c) H'
theorem sc_check_falling : FnScope ["choice", "gap"] ["choice"] (defScope (top 71)) := ⟨rfl, rfl, rfl, by decide +kernel, rfl, by decide +kernel, by decide +kernel⟩
theorem ok_check_falling (T : Txt K mg) : FnOk P w K mg base CX0 7 a_check_falling (fdOf K a_check_falling) ["choice"] spChkF := by
  refine T.f_check_falling.ok sc_check_falling (fun vs H Q E h => ?len) (fun cdv A outer s H vs Q E hr h => ?body)
  case body =>
    have nd := sc_check_falling.nd
    refine ⟨_, PSs.nox (pss_cons (ps_expr (pe_call (ok_check_closed T) (hr.mono (by decide)) rfl (T.g_check_closed) (T.k_check_closed) (T.b_check_closed) .nil pass0 (pa_cons (pv 0) pa_nil)))
      (pss_cons (ps_set (i := 1) nd rfl (Or.inl rfl) (pe_call (ok_first_gap T) (hr.mono (by decide)) rfl (T.g_first_gap) (T.k_first_gap) (T.b_first_gap) .nil pass0 (pa_cons (pv 0) pa_nil)))
      (pss_cons (ps_if (pt_cmpR op_notN (pv 1) pe_non (nomark _)) (pss_one ps_never) pss_nil)
      (pss_one (ps_ret (pv 0)))))), ?_⟩
    obtain ⟨c, m, hs, rfl, hc, hcl, hfa, q⟩ := h
    walk_at "rd"
    refine ⟨c, m, hs, rfl, hc, hcl, fun H2 s2 => ?_⟩
    walk_at "rd"
    refine ⟨c, m, hs, rfl, hc.mono s2, hfa, fun H3 s3 => ?_⟩
    walk_at "rd"
    refine ⟨rfl, rd_bl ?_⟩
    refine tndec (fun _ => ?_) fun z => absurd rfl z
    walk_at "rd"
    exact q _ (s2.trans s3)
  case len =>
    obtain ⟨c, m, hs, rfl, _⟩ := h
    rfl
def spGround : Sp := fun vs H Q _ => ∃ (c : Addr) (m : Nat) (hs : List Nat), vs = [.ref c] ∧ ChAt H c m hs ∧ hs ≠ [] ∧ ClosedC hs ∧ FallC hs ∧ ∀ H', Sm H H' → Q (.ref c) H'
theorem sc_check_ground : FnScope ["choice"] ["choice"] (defScope (top 82)) := ⟨rfl, rfl, rfl, by decide +kernel, rfl, by decide +kernel, by decide +kernel⟩
theorem ok_check_ground (T : Txt K mg) : FnOk P w K mg base CX0 8 a_check_ground (fdOf K a_check_ground) ["choice"] spGround := by
  refine T.f_check_ground.ok sc_check_ground (fun vs H Q E h => ?len) (fun cdv A outer s H vs Q E hr h => ?body)
  case body =>
    have nd := sc_check_ground.nd
    refine ⟨_, PSs.nox (pss_cons (ps_expr (pe_call (ok_check_some T) (hr.mono (by decide)) rfl (T.g_check_some) (T.k_check_some) (T.b_check_some) .nil pass0 (pa_cons (pv 0) pa_nil)))
      (pss_one (ps_ret (pe_call (ok_check_falling T) (hr.mono (by decide)) rfl (T.g_check_falling) (T.k_check_falling) (T.b_check_falling) .nil pass0 (pa_cons (pv 0) pa_nil))))), ?_⟩
    obtain ⟨c, m, hs, rfl, hc, hne, hcl, hfa, q⟩ := h
    walk_at "rd"
    refine ⟨c, m, hs, rfl, hc, hne, ?_⟩
    walk_at "rd"
    exact ⟨c, m, hs, rfl, hc, hcl, hfa, q⟩
  case len =>
    obtain ⟨c, m, hs, rfl, _⟩ := h
    rfl
def spCount : Sp := fun vs H Q _ => ∃ (c : Addr) (m : Nat) (hs : List Nat), vs = [.ref c] ∧ ChAt H c m hs ∧ hs ≠ [] ∧ ClosedC hs ∧ FallC hs ∧ ∀ H', Sm H H' → Q (nv (leastC hs)) H'
theorem sc_least_count : FnScope ["choice", "heap"] ["choice"] (defScope (top 84)) := ⟨rfl, rfl, rfl, by decide +kernel, rfl, by decide +kernel, by decide +kernel⟩
theorem ok_least_count (T : Txt K mg) : FnOk P w K mg base CX0 9 a_least_count (fdOf K a_least_count) ["choice"] spCount := by
  refine T.f_least_count.ok sc_least_count (fun vs H Q E h => ?len) (fun cdv A outer s H vs Q E hr h => ?body)
  case body =>
    have nd := sc_least_count.nd
    refine ⟨_, PSs.nox (pss_cons (ps_expr (pe_call (ok_check_ground T) (hr.mono (by decide)) rfl (T.g_check_ground) (T.k_check_ground) (T.b_check_ground) .nil pass0 (pa_cons (pv 0) pa_nil)))
      (pss_one (ps_ret (pe_callB (cr_sum rfl) (by rfl) (T.n_sum) (by decide +kernel) (pa_cons (pe_lc (own := [("heap", 1)]) rfl nd (pi_list (pe_call (ok_top_heaps T) (hr.mono (by decide)) rfl (T.g_top_heaps) (T.k_top_heaps) (T.b_top_heaps) .nil pass0 (pa_cons (pv 0) pa_nil))) (blkOk_by (N := ["choice", "heap"]) (sc := defScope (top 84)) (by decide +kernel)) (fun _ _ _ _ _ => (pg_name (i := 1) nd rfl (.inl rfl))) (fun _ _ _ _ _ => pts_nil) (fun _ _ _ _ _ => (pe_op o_shl (pe_n 1) (pe_call (ok_free_bits T) (hr.mono (by decide)) rfl (T.g_free_bits) (T.k_free_bits) (T.b_free_bits) .nil pass0 (pa_cons (pv 1) pa_nil))))) pa_nil))))), ?_⟩
    obtain ⟨c, m, hs, rfl, hc, hne, hcl, hfa, q⟩ := h
    walk_at "rd"
    refine ⟨c, m, hs, rfl, hc, hne, hcl, hfa, fun H2 s2 => ?_⟩
    walk_at "rd"
    refine ⟨c, m, hs, rfl, hc.mono s2, hne, fun tl H3 s3 e3 => ?_⟩
    have htl : (topH hs).length ≤ 4096 := by
      unfold topH
      have := List.length_filter_le (fun h => decide (ones h = tops hs)) hs
      have := hc.len
      omega
    refine lc_lstJ (sqL_of e3) (line32 htl) (fun _ => true) (fun g => nv (1 <<< freeB g)) (fun g hg H4 D4 s4 Nx g1 g2 => ?_) (fun H4 D4 s4 hD e => ?_)
    · walk_at "rd"
      refine ⟨g, rfl, ch32 hc (topH_mem.mp hg).1, fun H5 s5 => ?_⟩
      have := freeB_le g
      refine rd_n ⟨by omega, by omega⟩ ?_
      exact g2 _ s5 rfl
    · rw [List.filter_eq_self.mpr (fun _ _ => rfl), ← nvs_map, nvs_int] at e
      walk_at "rd"
      refine ⟨D4, _, rfl, sqL_of e, ?_⟩
      rw [sum_cast]
      exact q _ (s2.trans (s3.trans s4))
  case len =>
    obtain ⟨c, m, hs, rfl, _⟩ := h
    rfl
end
end G
set_option maxHeartbeats 4000000
-- text D20
namespace M
def lotSums (lots : List Nat) : List Nat := lots.foldl (fun t l => t ++ t.map fun o => l ^^^ o) [0]
theorem lotSums_len (lots : List Nat) : (lotSums lots).length = 2 ^ lots.length := by
  have key : ∀ (lots t : List Nat), (lots.foldl (fun t l => t ++ t.map fun o => l ^^^ o) t).length = t.length * 2 ^ lots.length := by
    intro lots
    induction lots with
    | nil => intro t; simp
    | cons l r ih =>
      intro t
      rw [List.foldl_cons, ih, List.length_append, List.length_map, List.length_cons, Nat.pow_succ, ← Nat.two_mul, Nat.mul_assoc 2, Nat.mul_comm 2, Nat.mul_assoc]
  unfold lotSums
  rw [key]; simp
end M
namespace G
open PySem PySem.Spec PyProof.Rows L2 M GG
section
variable {P : Program} {w : World} {K : PySem.W.Frag} {mg : Str → Option Value} {base : Heap}
def spLotS : Sp := fun vs H Q _ => ∃ (l : Addr) (lots : List Nat), vs = [.ref l] ∧ H l = some (.lst (nvs lots)) ∧ lots.length ≤ 5 ∧ NewL H (lotSums lots) Q
theorem sc_lots_sums : FnScope ["lots", "told", "lot", "other"] ["lots"] (defScope (top 74)) := ⟨rfl, rfl, rfl, by decide +kernel, rfl, by decide +kernel, by decide +kernel⟩
theorem ok_lots_sums (T : Txt K mg) : FnOk P w K mg base CX0 1 a_lots_sums (fdOf K a_lots_sums) ["lots"] spLotS := by
  refine T.f_lots_sums.ok sc_lots_sums (fun vs H Q E h => ?len) (fun cdv A outer s H vs Q E hr h => ?body)
  case body =>
    have nd := sc_lots_sums.nd
    refine ⟨_, PSs.nox (pss_cons (ps_set (i := 1) nd rfl (Or.inl rfl) (pe_lst (pa_cons (pe_n 0) pa_nil)))
      (pss_cons (ps_for PassesOwn.never rfl (pi_list (pv 0)) (pg_name (i := 2) nd rfl (.inr rfl)) (pss_one (ps_set (i := 1) nd rfl (Or.inl rfl) (pe_op op_cat (pv 1) (pe_lc (own := [("other", 3)]) rfl nd (pi_list (pv 1)) (blkOk_by (N := ["lots", "told", "lot", "other"]) (sc := defScope (top 74)) (by decide +kernel)) (fun _ _ _ _ _ => (pg_name (i := 3) nd rfl (.inl rfl))) (fun _ _ _ _ _ => pts_nil) (fun _ _ _ _ _ => (pe_op o_xor (pv 2) (pv 3))))))))
      (pss_one (ps_ret (pv 1))))), ?_⟩
    obtain ⟨l, lots, rfl, hl, h5, q⟩ := h
    walk_at "rd"
    refine ⟨by rw [sizeLine_eq]; decide, fun ta hta => ?_⟩
    walk_at "rd"
    refine ⟨l, rfl, ⟨_, sqL_of (Sm.new hta _ _ hl)⟩, for_list (fun i σ' H' => Sm H H' ∧ ∃ t v1 v2, H' t = some (.lst (nvs (lotSums (lots.take i)))) ∧ σ' = [some (.ref l), some (.ref t), v1, v2]) ⟨Sm.new hta, ta, _, _, upd_same, rfl⟩ (fun i σ' H' _ p => p.1.sqL (sqL_of hl)) (fun i x σ' H' hxi p => ?_) (fun σ' H' p => ?_)⟩
    · obtain ⟨s2, t, v1, v2, et, rfl⟩ := p
      obtain ⟨lot, hlot, rfl⟩ := mem_nvs hxi
      walk_at "rd"
      have hlen : (lotSums (lots.take i)).length ≤ 32 := by
        rw [lotSums_len]
        have h6 : (lots.take i).length ≤ 5 := by rw [List.length_take]; omega
        exact Nat.le_trans (Nat.pow_le_pow_right (n := 2) (by decide) h6) (by decide)
      refine lc_lstJ (sqL_of et) (line32 (by omega)) (fun _ => true) (fun o => nv (lot ^^^ o)) (fun o ho H4 D4 s4 Nx g1 g2 => ?_) (fun H4 D4 s4 hD e => ?_)
      · walk_at "rd"
        exact g2 _ Sm.refl rfl
      · rw [List.filter_eq_self.mpr (fun _ _ => rfl), ← nvs_map] at e
        have hs : lotSums (lots.take (i + 1)) = lotSums (lots.take i) ++ (lotSums (lots.take i)).map fun o => lot ^^^ o := by
          unfold lotSums
          rw [take_at hlot, List.foldl_append]
          rfl
        rw [hs]
        refine ⟨t, D4, _, _, rfl, rfl, s4 _ _ et, e, by rw [List.length_map, List.length_map, List.length_map, sizeLine_eq]; omega, fun p hp => ?_⟩
        walk_at "rd"
        refine ⟨(s2.trans s4).trans (Sm.new hp), p, _, _, ?_, rfl⟩
        rw [upd_same, nvs_append]
    · obtain ⟨s2, t, v1, v2, et, rfl⟩ := p
      rw [List.length_map, List.take_length] at et
      walk_at "rd"
      exact q _ _ s2 et
  case len =>
    obtain ⟨l, lots, rfl, _⟩ := h
    rfl
def spForm : Sp := fun vs H Q _ => ∃ (m : Nat) (t : Addr) (a b : Nat), vs = [nv m, .ref t] ∧ 1 ≤ m ∧ m ≤ 5 ∧ H t = some (.tup [nv a, nv b]) ∧ 1 ≤ a ∧ a < 2 ^ m ∧ b ≤ 1 ∧ ∀ H', Sm H H' → Q (.bl true) H'
theorem sc_is_form : FnScope ["letters", "thing"] ["letters", "thing"] (defScope (top 73)) := ⟨rfl, rfl, rfl, by decide +kernel, rfl, by decide +kernel, by decide +kernel⟩
theorem ok_is_form (T : Txt K mg) : FnOk P w K mg base CX0 2 a_is_form (fdOf K a_is_form) ["letters", "thing"] spForm := by
  refine T.f_is_form.ok sc_is_form (fun vs H Q E h => ?len) (fun cdv A outer s H vs Q E hr h => ?body)
  case body =>
    have nd := sc_is_form.nd
    refine ⟨_, PSs.nox (pss_cons (ps_if (PW.pt (pw_or (pt_not (pt_val (pe_callB (call_isiT) (by rfl) (T.n_isinstance) (by decide +kernel) (pa_cons (pv 1) (pa_cons (pe_tup (pa_cons (pe_bltn (v := .ty "list") rfl (T.n_list) (by decide +kernel) rfl) (pa_cons (pe_bltn (v := .ty "tuple") rfl (T.n_tuple) (by decide +kernel) rfl) pa_nil))) pa_nil))))) (pw_or1 (pt_cmpR o_ne (pe_callB (call_len) (by rfl) (T.n_len) (by decide +kernel) (pa_cons (pv 1) pa_nil)) (pe_n 2) (nomark _))))) (pss_one (ps_ret pe_bl)) pss_nil)
      (pss_one (ps_ret (pe_and (pe_call (ok_is_whole T) (hr.mono (by decide)) rfl (T.g_is_whole) (T.k_is_whole) (T.b_is_whole) .nil pass0 (pa_cons (pe_ix ix_tup (pv 1) (pe_n 0) (fun _ _ => rfl)) (pa_cons (pe_n 1) (pa_cons (pe_op o_sub (pe_op o_shl (pe_n 1) (pv 0)) (pe_n 1)) pa_nil)))) (pe_one (pe_call (ok_is_whole T) (hr.mono (by decide)) rfl (T.g_is_whole) (T.k_is_whole) (T.b_is_whole) .nil pass0 (pa_cons (pe_ix ix_tup (pv 1) (pe_n 1) (fun _ _ => rfl)) (pa_cons (pe_n 0) (pa_cons (pe_n 1) pa_nil))))))))), ?_⟩
    obtain ⟨m, t, a, b, rfl, h1, h5, et, ha, ha2, hb, q⟩ := h
    walk_at "rd"
    refine ⟨by rw [sizeLine_eq]; show 2 ≤ 16777216; omega, fun tp htp => ?_⟩
    walk_at "rd"
    have s1 : Sm H (upd H tp (.tup [.ty "list", .ty "tuple"])) := Sm.new htp
    refine rd_seqT (.inr (s1 _ _ et)) upd_same ?_
    walk_at "rd"
    refine ⟨_, _, rfl, .inr ⟨_, sqT_of (s1 _ _ et), rfl⟩, ?_⟩
    walk_at "rd"
    refine tndec (fun _ => ?_) fun z => absurd rfl z
    walk_at "rd"
    refine ⟨t, _, ((0 : Nat) : Int), nv a, rfl, rfl, sqT_of (s1 _ _ et), atI_nat rfl, ?_⟩
    walk_at "rd"
    refine rd_n ⟨by omega, by omega⟩ ?_
    walk_at "rd"
    refine rd_n (one_le_shl _) ?_
    walk_at "rd"
    refine rd_whole ha (by rw [shl1]; omega) ?_
    refine ⟨true, rfl, ?_⟩
    walk_at "rd"
    refine ⟨t, _, ((1 : Nat) : Int), nv b, rfl, rfl, sqT_of (s1 _ _ et), atI_nat rfl, ?_⟩
    walk_at "rd"
    refine rd_whole (Nat.zero_le _) hb ?_
    exact q _ s1
  case len =>
    obtain ⟨m, t, a, b, rfl, _⟩ := h
    rfl
/-! ### forms -/
def FormsAt (H : Hp) (t : Addr) (tup : Bool) (fs : List (Nat × Nat)) : Prop := ∃ ps : List Addr, H t = some (if tup then .tup (ps.map .ref) else .lst (ps.map .ref)) ∧ ps.length = fs.length ∧ ∀ (i : Nat) (p : Addr) (f : Nat × Nat), ps[i]? = some p → fs[i]? = some f → H p = some (.tup [nv f.1, nv f.2])
def GoodForms (m : Nat) (fs : List (Nat × Nat)) : Prop := fs.length ≤ 5 ∧ (∀ f ∈ fs, 1 ≤ f.1 ∧ f.1 < 2 ^ m ∧ f.2 ≤ 1) ∧ ∀ i f, fs[i]? = some f → f.1 ∉ lotSums ((fs.take i).map (·.1))
theorem FormsAt.mono {H H' : Hp} {t : Addr} {b : Bool} {fs : List (Nat × Nat)} (h : FormsAt H t b fs) (s : Sm H H') : FormsAt H' t b fs := by
  obtain ⟨ps, e1, e2, e3⟩ := h
  exact ⟨ps, s _ _ e1, e2, fun i p f h1 h2 => s _ _ (e3 i p f h1 h2)⟩
theorem FormsAt.nil {H : Hp} {t : Addr} (h : H t = some (.lst [])) : FormsAt H t false [] := ⟨[], h, rfl, fun i p f h1 => by cases h1⟩
theorem FormsAt.snoc {H : Hp} {t p : Addr} {fs : List (Nat × Nat)} {a b : Nat} (h : FormsAt H t false fs) (hp : H p = some (.tup [nv a, nv b])) : ∃ xs : List V, H t = some (.lst xs) ∧ xs.length = fs.length ∧ FormsAt (upd H t (.lst (xs ++ [.ref p]))) t false (fs ++ [(a, b)]) := by
  obtain ⟨ps, e1, e2, e3⟩ := h
  refine ⟨_, e1, by rw [List.length_map]; exact e2, ps ++ [p], ?_, by rw [List.length_append, List.length_append, e2]; rfl, fun i p' f h1 h2 => ?_⟩
  · rw [upd_same, List.map_append]; rfl
  · have key : H p' = some (.tup [nv f.1, nv f.2]) := by
      by_cases z : i < ps.length
      · rw [List.getElem?_append_left z] at h1
        rw [List.getElem?_append_left (by omega)] at h2
        exact e3 i p' f h1 h2
      · rw [List.getElem?_append_right (by omega)] at h1
        rw [List.getElem?_append_right (by omega), ← e2] at h2
        have zi : i - ps.length = 0 := by
          have := (List.getElem?_eq_some_iff.mp h1).1
          simpa using this
        rw [zi] at h1 h2
        cases h1
        cases h2
        exact hp
    have ne : p' ≠ t := fun z => by rw [z, e1] at key; cases key
    rw [upd_ne ne]; exact key
/-- over a tuple with the indices, by what it holds -/
theorem for_enumT {D : Ends} {σ : L2.St} {H : Hp} {gg : TG} {tb : TS} {a : Addr} {xs : List V} (h : SqT K H a xs) (Pv : Nat → L2.St → Hp → Prop) (h0 : Pv 0 σ H) (hS : ∀ i σ' H', Pv i σ' H' → SqT K H' a xs)
    (hs : ∀ i x σ' H' T, xs[i]? = some x → Pv i σ' H' → H' T = none → gg (.ref T) σ' (upd H' T (.tup [.int (i : Nat), x])) fun σ2 H2 => tb { D with nx := Pv (i + 1), ct := Pv (i + 1), bk := D.nx } σ2 H2) (hd : ∀ σ' H', Pv xs.length σ' H' → D.nx σ' H') :
    ∃ (a' : Addr) (xs' : List V), [V.ref a] = [V.ref a'] ∧ ((SqL K H a' xs' ∧ ∃ W : Nat → Nat → L2.St → Hp → Prop, (∃ m, W 0 m σ H) ∧ ∀ i m σ H, W i m σ H →
      ((Ite K a').stop i H ∧ D.nx σ H) ∨ ((Ite K a').go i H ∧ ∃ N : L2.St → Hp → Prop, (∀ σ' H', N σ' H' → ∃ m', m' < m ∧ W (i + 1) m' σ' H') ∧ ∀ x H', (Ite K a').yld i H x H' → gg x σ H' fun σ2 H2 => tb { D with nx := N, ct := N, bk := D.nx } σ2 H2)) ∨
      (SqT K H a' xs' ∧ ∃ W : Nat → Nat → L2.St → Hp → Prop, (∃ m, W 0 m σ H) ∧ ∀ i m σ H, W i m σ H →
      ((GX.IteT K a').stop i H ∧ D.nx σ H) ∨ ((GX.IteT K a').go i H ∧ ∃ N : L2.St → Hp → Prop, (∀ σ' H', N σ' H' → ∃ m', m' < m ∧ W (i + 1) m' σ' H') ∧ ∀ x H', (GX.IteT K a').yld i H x H' → gg x σ H' fun σ2 H2 => tb { D with nx := N, ct := N, bk := D.nx } σ2 H2))) := by
  refine ⟨a, xs, rfl, .inr ⟨h, fun i m σ' H' => m = xs.length - i ∧ i ≤ xs.length ∧ Pv i σ' H', ⟨_, rfl, Nat.zero_le _, h0⟩, ?_⟩⟩
  rintro i m σ' H' ⟨rfl, hi, p⟩
  have q := hS i σ' H' p
  by_cases hlt : i < xs.length
  · refine .inr ⟨⟨xs, xs[i], q, by simp [hlt]⟩, Pv (i + 1), fun σ2 H2 p2 => ⟨xs.length - (i + 1), by omega, rfl, hlt, p2⟩, fun x H2 y => ?_⟩
    obtain ⟨T, x', rfl, hT, rfl, hx⟩ := y
    exact hs i x' σ' H' T (hx xs q) p hT
  · have e : i = xs.length := by omega
    subst e
    exact .inl ⟨⟨xs, q, Nat.le_refl _⟩, hd σ' H' p⟩
theorem pg_tupK {X : Cx} {es : List Expr} {k : Nat} {pos : Pos} {t : TGs} {n : Nat} (hK : X.K = K) (hc : X.calm = true) (h : PGs X es t)
    (hn : (assignEach es X.env).length = n := by rfl) (hst : (assignEach es X.env).findIdx? (·.1) = none := by rfl) : PG X (.Tuple es k pos) (gTup K n t) := by
  subst hK
  exact pg_tup hc h hn hst
/-- a comprehension over anything, what it gathers told by F -/
theorem lc_acc {gg : TG} {tt : TT} {te : TE} {vs : List Nat} {σ : L2.St} {J : It} {n : Nat} {H1 : Hp} {Q : Addr → Hp → Prop} (hn : n ≤ sizeLine) (Wk : ∀ k H, Sm H1 H → (k < n → J.go k H) ∧ (k = n → J.stop k H)) (F : Nat → List V) (F0 : F 0 = [])
    (step : ∀ k, k < n → ∀ H D, Sm H1 H → H1 D = none → ∀ Nx : Hp → Prop, (∀ H3, Sm H H3 → F (k + 1) = F k → Nx H3) → (∀ y H4, Sm H H4 → F (k + 1) = F k ++ [y] → Elm D Nx y H4) → ∀ x H', J.yld k H x H' → gg x (wipe σ vs) H' fun σ2 H2 => wipe σ2 vs = wipe σ vs ∧ tt σ2 H2 fun b H3 => if b = true then te σ2 H3 (Elm D Nx) else Nx H3)
    (fin : ∀ H D, Sm H1 H → H1 D = none → H D = some (.lst (F n)) → Q D H) :
    ∀ D, H1 D = none → ∃ W : Nat → Nat → Hp → Prop, (∃ m, W 0 m (upd H1 D (.lst []))) ∧ ∀ i m H, W i m H →
      (J.stop i H ∧ Q D H) ∨ (J.go i H ∧ ∃ Nx : Hp → Prop, (∀ H', Nx H' → ∃ m', m' < m ∧ W (i + 1) m' H') ∧ ∀ x H', J.yld i H x H' → gg x (wipe σ vs) H' fun σ2 H2 => wipe σ2 vs = wipe σ vs ∧ tt σ2 H2 fun b H3 =>
        if b = true then te σ2 H3 fun y H4 => ∃ acc, H4 D = some (.lst acc) ∧ acc.length < sizeLine ∧ Nx (upd H4 D (.lst (acc ++ [y]))) else Nx H3) := by
  intro D hD
  refine ⟨fun k m H => m = n - k ∧ k ≤ n ∧ Sm H1 H ∧ H D = some (.lst (F k)) ∧ (F k).length ≤ k, ⟨_, rfl, Nat.zero_le _, Sm.new hD, by rw [F0]; exact upd_same, by rw [F0]; exact Nat.le_refl _⟩, ?_⟩
  rintro k m H ⟨rfl, hk, hS, hacc, hlen⟩
  by_cases hlt : k < n
  · right
    refine ⟨(Wk k H hS).1 hlt, fun H' => k + 1 ≤ n ∧ Sm H1 H' ∧ H' D = some (.lst (F (k + 1))) ∧ (F (k + 1)).length ≤ k + 1, fun H' ⟨a, b, c, d⟩ => ⟨n - (k + 1), by omega, rfl, hlt, b, c, d⟩, ?_⟩
    refine step k hlt H D hS hD _ (fun H3 s3 e => ⟨hlt, hS.trans s3, by rw [e]; exact s3 _ _ hacc, by rw [e]; omega⟩) fun y H4 s4 e => ⟨_, s4 _ _ hacc, by omega, hlt, (hS.trans s4).upd hD, by rw [e]; exact upd_same, by rw [e, List.length_append, List.length_singleton]; omega⟩
  · left
    have e : k = n := by omega
    subst e
    exact ⟨(Wk _ H hS).2 rfl, fin H D hS hD hacc⟩
def spForms : Sp := fun vs H Q _ => ∃ (m : Nat) (t : Addr) (fs : List (Nat × Nat)), vs = [nv m, .ref t] ∧ 1 ≤ m ∧ m ≤ 5 ∧ FormsAt H t true fs ∧ GoodForms m fs ∧ ∀ t' H', Sm H H' → FormsAt H' t' true fs → Q (.ref t') H'
theorem sc_check_forms : FnScope ["letters", "forms", "told", "index", "thing", "lot", "bit"] ["letters", "forms"] (defScope (top 75)) := ⟨rfl, rfl, rfl, by decide +kernel, rfl, by decide +kernel, by decide +kernel⟩
theorem ok_check_forms (T : Txt K mg) : FnOk P w K mg base CX0 3 a_check_forms (fdOf K a_check_forms) ["letters", "forms"] spForms := by
  refine T.f_check_forms.ok sc_check_forms (fun vs H Q E h => ?len) (fun cdv A outer s H vs Q E hr h => ?body)
  case body =>
    have nd := sc_check_forms.nd
    refine ⟨_, PSs.nox (pss_cons (ps_expr (pe_call (ok_check_letters T) (hr.mono (by decide)) rfl (T.g_check_letters) (T.k_check_letters) (T.b_check_letters) .nil pass0 (pa_cons (pv 0) pa_nil)))
      (pss_cons (ps_if (pt_not (pt_val (pe_callB (call_isiT) (by rfl) (T.n_isinstance) (by decide +kernel) (pa_cons (pv 1) (pa_cons (pe_tup (pa_cons (pe_bltn (v := .ty "list") rfl (T.n_list) (by decide +kernel) rfl) (pa_cons (pe_bltn (v := .ty "tuple") rfl (T.n_tuple) (by decide +kernel) rfl) pa_nil))) pa_nil))))) (pss_one ps_never) pss_nil)
      (pss_cons (ps_set (i := 2) nd rfl (Or.inl rfl) (pe_lst pa_nil))
      (pss_cons (ps_for PassesOwn.never rfl (GX.pi_enumA (by rfl) (T.n_enumerate) (pa_cons (pv 1) pa_nil)) (pg_tup rfl (pgs_cons (pg_name (i := 3) nd rfl (.inl rfl)) (pgs_cons (pg_name (i := 4) nd rfl (.inl rfl)) pgs_nil))) (pss_cons (ps_if (pt_not (pt_val (pe_call (ok_is_form T) (hr.mono (by decide)) rfl (T.g_is_form) (T.k_is_form) (T.b_is_form) .nil pass0 (pa_cons (pv 0) (pa_cons (pv 4) pa_nil))))) (pss_one ps_never) pss_nil)
      (pss_cons (ps_if (pt_cmpR op_in_seq (pe_ix ix_tup (pv 4) (pe_n 0) (fun _ _ => rfl)) (pe_call (ok_lots_sums T) (hr.mono (by decide)) rfl (T.g_lots_sums) (T.k_lots_sums) (T.b_lots_sums) .nil pass0 (pa_cons (pe_lc (own := [("lot", 5), ("bit", 6)]) rfl nd (pi_list (pv 2)) (blkOk_by (N := ["letters", "forms", "told", "index", "thing", "lot", "bit"]) (sc := defScope (top 75)) (by decide +kernel)) (fun _ _ _ _ _ => (pg_tupK (K := K) (n := 2) (by rfl) rfl (pgs_cons (pg_name (i := 5) nd rfl (.inl rfl)) (pgs_cons (pg_name (i := 6) nd rfl (.inl rfl)) pgs_nil)))) (fun _ _ _ _ _ => pts_nil) (fun _ _ _ _ _ => (pv 5))) pa_nil)) rfl) (pss_one ps_never) pss_nil)
      (pss_one (ps_expr (pe_bm PySem.F.plainAttrs_list PySem.F.slot_list_append PySem.F.type_list_append mt_append (pv 2) (pa_cons (pe_tup (pa_cons (pe_ix ix_tup (pv 4) (pe_n 0) (fun _ _ => rfl)) (pa_cons (pe_ix ix_tup (pv 4) (pe_n 1) (fun _ _ => rfl)) pa_nil))) pa_nil)))))))
      (pss_one (ps_ret (pe_callTy (call_tuple_of) (by rfl) (T.n_tuple) (by decide +kernel) (pa_cons (pv 2) pa_nil)))))))), ?_⟩
    obtain ⟨m, t, fs, rfl, h1, h5, ⟨ps, et, hpl, hps⟩, ⟨hl5, hgood, hlots⟩, q⟩ := h
    walk_at "rd"
    refine ⟨m, rfl, h1, h5, ?_⟩
    walk_at "rd"
    refine ⟨by rw [sizeLine_eq]; show 2 ≤ 16777216; omega, fun tp htp => ?_⟩
    walk_at "rd"
    have s1 : Sm H (upd H tp (.tup [.ty "list", .ty "tuple"])) := Sm.new htp
    refine rd_seqT (.inr (s1 _ _ et)) upd_same ?_
    walk_at "rd"
    refine ⟨by rw [sizeLine_eq]; decide, fun ta hta => ?_⟩
    walk_at "rd"
    have s2 := s1.trans (Sm.new (o := .lst []) hta)
    have ntt : t ≠ ta := fun z => by rw [z] at et; rw [Sm.none s1 hta] at et; cases et
    have hpa : ∀ p f i, ps[i]? = some p → fs[i]? = some f → p ≠ ta := fun p f i h1 h2 z => by
      have := hps i p f h1 h2
      rw [z, Sm.none s1 hta] at this
      cases this
    refine for_enumT (sqT_of (s2 _ _ et)) (fun i σ' H' => (∀ b o, H b = some o → H' b = some o) ∧ FormsAt H' ta false (fs.take i) ∧ ∃ v3 v4 v5 v6, σ' = [some (nv m), some (.ref t), some (.ref ta), v3, v4, v5, v6]) ⟨s2, FormsAt.nil upd_same, _, _, _, _, rfl⟩ (fun i σ' H' p => sqT_of (p.1 _ _ et)) (fun i x σ' H' T2 hxi p hT => ?_) (fun σ' H' p => ?_)
    · obtain ⟨s3, hf, v3, v4, v5, v6, rfl⟩ := p
      obtain ⟨p, hp, rfl⟩ : ∃ p, ps[i]? = some p ∧ x = .ref p := by
        rw [List.getElem?_map] at hxi
        cases e : ps[i]? with
        | none => rw [e] at hxi; cases hxi
        | some p => rw [e] at hxi; exact ⟨p, rfl, (Option.some.inj hxi).symm⟩
      have hil : i < fs.length := by rw [← hpl]; exact (List.getElem?_eq_some_iff.mp hp).1
      obtain ⟨f, hfi⟩ : ∃ f, fs[i]? = some f := ⟨_, List.getElem?_eq_getElem hil⟩
      have ep := hps i p f hp hfi
      obtain ⟨ga, ga2, gb⟩ := hgood f (List.mem_of_getElem? hfi)
      have s4 : Sm H' (upd H' T2 (.tup [.int (i : Nat), .ref p])) := Sm.new hT
      have ep4 := s4 _ _ (s3 _ _ ep)
      have hf4 := hf.mono s4
      have s34 : Sm H (upd H' T2 (.tup [.int (i : Nat), .ref p])) := Sm.trans s3 s4
      refine rd_gtup upd_same rfl ?_
      generalize upd H' T2 (.tup [.int (i : Nat), .ref p]) = H4 at ep4 hf4 s34
      walk_at "rd"
      refine ⟨m, p, f.1, f.2, rfl, h1, h5, ep4, ga, ga2, gb, fun H5 s5 => ?_⟩
      walk_at "rd"
      refine ⟨p, _, ((0 : Nat) : Int), nv f.1, rfl, rfl, sqT_of (s5 _ _ ep4), atI_nat rfl, ?_⟩
      walk_at "rd"
      obtain ⟨qs, eq1, eq2, eq3⟩ := hf4.mono s5
      have eq1' : H5 ta = some (.lst (qs.map .ref)) := eq1
      refine ⟨ta, rfl, ⟨_, sqL_of eq1'⟩, lc_acc (n := (fs.take i).length) (by rw [List.length_take, sizeLine_eq]; omega) (fun k H6 s6 => ⟨fun hk => ?_, fun hk => ?_⟩) (fun k => nvs (((fs.take i).take k).map (·.1))) rfl (fun k hk H6 D6 s6 hD6 Nx g1 g2 x H7 y => ?_) (fun H6 D6 s6 hD6 e6 => ?_)⟩
      · exact ((wk_lst (sqL_of eq1') k H6 s6).1 (by rw [List.length_map, eq2]; exact hk)).1
      · exact (wk_lst (sqL_of eq1') k H6 s6).2 (by rw [List.length_map, eq2]; exact hk)
      · obtain ⟨rfl, hx⟩ := ((wk_lst (sqL_of eq1') k H6 s6).1 (by rw [List.length_map, eq2]; exact hk)).2 x H7 y
        obtain ⟨q', hq', rfl⟩ : ∃ q', qs[k]? = some q' ∧ x = .ref q' := by
          rw [List.getElem?_map] at hx
          cases e : qs[k]? with
          | none => rw [e] at hx; cases hx
          | some q' => rw [e] at hx; exact ⟨q', rfl, (Option.some.inj hx).symm⟩
        obtain ⟨f', hf'⟩ : ∃ f', (fs.take i)[k]? = some f' := ⟨_, List.getElem?_eq_getElem hk⟩
        refine rd_gtup (s6 _ _ (eq3 k q' f' hq' hf')) rfl ?_
        walk_at "rd"
        refine ⟨rfl, ?_⟩
        walk_at "rd"
        refine g2 _ _ Sm.refl ?_
        rw [take_at hf', List.map_append, nvs_append]
        rfl
      · rw [List.take_length] at e6
        walk_at "rd"
        refine ⟨D6, _, rfl, e6, by rw [List.length_map, List.length_take]; omega, fun tl H7 s7 e7 => ?_⟩
        refine rd_isin (.inl (sqL_of e7)) ?_
        rw [decide_eq_false (hlots i f hfi)]
        walk_at "rd"
        have s57 := s6.trans s7
        have hfE : FormsAt H7 ta false (fs.take i) := (FormsAt.mono ⟨qs, eq1, eq2, eq3⟩ s57)
        have ep7 := s57 _ _ (s5 _ _ ep4)
        refine rd_bm ?_
        walk_at "rd"
        refine ⟨.inl ⟨rfl, _, sqL_of (s57 _ _ eq1')⟩, ?_⟩
        walk_at "rd"
        refine ⟨p, _, ((0 : Nat) : Int), nv f.1, rfl, rfl, sqT_of ep7, atI_nat rfl, ?_⟩
        walk_at "rd"
        refine ⟨p, _, ((1 : Nat) : Int), nv f.2, rfl, rfl, sqT_of ep7, atI_nat rfl, ?_⟩
        walk_at "rd"
        refine ⟨by rw [sizeLine_eq]; show 2 ≤ 16777216; omega, fun pt hpt => ?_⟩
        walk_at "rd"
        obtain ⟨xs, ex1, ex2, ex3⟩ := (hfE.mono (Sm.new hpt)).snoc (p := pt) (a := f.1) (b := f.2) upd_same
        refine ⟨ta, xs, _, rfl, rfl, ex1, by rw [ex2, List.length_take, sizeLine_eq]; omega, ?_⟩
        rw [take_at hfi]
        refine ⟨fun b o e => ?_, ex3, _, _, _, _, rfl⟩
        rw [upd_ne (fun z => by rw [z, Sm.none s1 hta] at e; cases e)]
        exact Sm.new hpt _ _ (s57 _ _ (s5 _ _ (s34 _ _ e)))
    · obtain ⟨s3, hf, v3, v4, v5, v6, rfl⟩ := p
      rw [List.length_map, hpl, List.take_length] at hf
      obtain ⟨qs, eq1, eq2, eq3⟩ := hf
      have eq1' : H' ta = some (.lst (qs.map .ref)) := eq1
      walk_at "rd"
      refine rd_tupL2 eq1' fun t2 ht2 => ?_
      refine q t2 _ (Sm.trans s3 (Sm.new ht2)) ⟨qs, by rw [upd_same]; rfl, eq2, fun i p f h1 h2 => Sm.new ht2 _ _ (eq3 i p f h1 h2)⟩
  case len =>
    obtain ⟨m, t, fs, rfl, _⟩ := h
    rfl
end
end G
set_option maxHeartbeats 4000000
-- text D21
namespace M
def valF (m : Nat) (f : Nat × Nat) : Nat := (lettersOf f.1).foldl (fun t l => t ^^^ heapW m (1 <<< l)) (if f.2 = 1 then full m else 0)
def flatF (m : Nat) (fs : List (Nat × Nat)) : Nat := fs.foldl (fun t f => t &&& valF m f) (full m)
def lotStep (s : Nat × Nat) (o : Nat) : Nat × Nat := (s.1 + (s.2 &&& 1) <<< o, s.2 >>> 1)
def formStep (h : Nat) (s : Nat × List (Nat × Nat)) (l : Nat) : Nat × List (Nat × Nat) :=
  (((freeL h l).foldl lotStep (1 <<< l, s.1)).2 >>> 1, s.2 ++ [(((freeL h l).foldl lotStep (1 <<< l, s.1)).1, ((freeL h l).foldl lotStep (1 <<< l, s.1)).2 &&& 1)])
def formsF (h bits : Nat) : List (Nat × Nat) := ((lettersOf h).foldl (formStep h) (bits, [])).2
/-- the heap and its bits -/
def pickF : List Nat → Nat → Option (Nat × Nat)
  | [], _ => none
  | h :: t, n => if n < 1 <<< freeB h then some (h, n) else pickF t (n - 1 <<< freeB h)
theorem lets_ltm {m g l : Nat} (h : g < 2 ^ m) (e : l ∈ lettersOf g) : l < m := by
  unfold lettersOf at e
  have := (List.mem_filter.mp e).2
  rw [bit_ne] at this
  have z := Nat.ge_two_pow_of_testBit this
  exact (Nat.pow_lt_pow_iff_right (by decide)).mp (Nat.lt_of_le_of_lt z h)
theorem shl_lt {l m : Nat} (h : l < m) : 1 <<< l < 2 ^ m := by
  rw [shl_one]
  exact Nat.pow_lt_pow_right (by decide) h
end M
namespace G
open PySem PySem.Spec PyProof.Rows L2 M GG
section
variable {P : Program} {w : World} {K : PySem.W.Frag} {mg : Str → Option Value} {base : Heap}
def spVal : Sp := fun vs H Q _ => ∃ (m : Nat) (t : Addr) (f : Nat × Nat), vs = [nv m, .ref t] ∧ 1 ≤ m ∧ m ≤ 5 ∧ H t = some (.tup [nv f.1, nv f.2]) ∧ f.1 < 2 ^ m ∧ ∀ H', Sm H H' → Q (nv (valF m f)) H'
theorem sc_values_of : FnScope ["letters", "form", "told", "letter"] ["letters", "form"] (defScope (top 76)) := ⟨rfl, rfl, rfl, by decide +kernel, rfl, by decide +kernel, by decide +kernel⟩
theorem ok_values_of (T : Txt K mg) : FnOk P w K mg base CX0 6 a_values_of (fdOf K a_values_of) ["letters", "form"] spVal := by
  refine T.f_values_of.ok sc_values_of (fun vs H Q E h => ?len) (fun cdv A outer s H vs Q E hr h => ?body)
  case body =>
    have nd := sc_values_of.nd
    refine ⟨_, PSs.nox (pss_cons (ps_set (i := 2) nd rfl (Or.inl rfl) (pe_ifExp (pt_cmpR o_eq (pe_ix ix_tup (pv 1) (pe_n 1) (fun _ _ => rfl)) (pe_n 1) (nomark _)) (pe_call (ok_full_word T) (hr.mono (by decide)) rfl (T.g_full_word) (T.k_full_word) (T.b_full_word) .nil pass0 (pa_cons (pv 0) pa_nil)) (pe_n 0)))
      (pss_cons (ps_for PassesOwn.never rfl (pi_tup (pe_call (ok_letters_of T) (hr.mono (by decide)) rfl (T.g_letters_of) (T.k_letters_of) (T.b_letters_of) .nil pass0 (pa_cons (pe_ix ix_tup (pv 1) (pe_n 0) (fun _ _ => rfl)) pa_nil))) (pg_name (i := 3) nd rfl (.inl rfl)) (pss_one (ps_set (i := 2) nd rfl (Or.inl rfl) (pe_op o_xor (pv 2) (pe_call (ok_heap_word T) (hr.mono (by decide)) rfl (T.g_heap_word) (T.k_heap_word) (T.b_heap_word) .nil pass0 (pa_cons (pv 0) (pa_cons (pe_op o_shl (pe_n 1) (pv 3)) pa_nil)))))))
      (pss_one (ps_ret (pv 2))))), ?_⟩
    obtain ⟨m, t, f, rfl, h1, h5, et, hf, q⟩ := h
    have h32 : f.1 < 32 := Nat.lt_of_lt_of_le hf (pow32 h5)
    unfold valF at q
    walk_at "rd"
    refine ⟨t, _, ((1 : Nat) : Int), nv f.2, rfl, rfl, sqT_of et, atI_nat rfl, ?_⟩
    walk_at "rd"
    refine tdec (fun z => ?_) fun z => ?_
    · rw [if_neg z] at q
      walk_at "rd"
      refine ⟨t, _, ((0 : Nat) : Int), nv f.1, rfl, rfl, sqT_of et, atI_nat rfl, ?_⟩
      walk_at "rd"
      refine ⟨f.1, rfl, h32, fun tl H2 s2 e2 => ?_⟩
      refine ⟨tl, rfl, ⟨_, sqT_of e2⟩, for_tup (fun i σ' H' => H' = H2 ∧ ∃ v, σ' = [some (nv m), some (.ref t), some (nv (((lettersOf f.1).take i).foldl (fun t l => t ^^^ heapW m (1 <<< l)) (0))), v]) ⟨rfl, _, rfl⟩ (fun i σ' H' _ p => by rw [p.1]; exact sqT_of e2) (fun i x σ' H' hxi p => ?_) (fun σ' H' p => ?_)⟩
      · obtain ⟨rfl, v, rfl⟩ := p
        obtain ⟨l, hl, rfl⟩ := mem_nvs hxi
        have hlm := lets_ltm hf (List.mem_of_getElem? hl)
        walk_at "rd"
        refine rd_n ⟨by omega, by omega⟩ ?_
        walk_at "rd"
        refine ⟨m, 1 <<< l, rfl, h1, h5, shl_lt hlm, ?_⟩
        walk_at "rd"
        refine ⟨rfl, some (nv l), ?_⟩
        rw [take_at hl, List.foldl_append]
        rfl
      · obtain ⟨rfl, v, rfl⟩ := p
        rw [List.length_map, List.take_length]
        walk_at "rd"
        exact q _ s2
    · rw [if_pos z] at q
      walk_at "rd"
      refine ⟨m, rfl, h1, h5, ?_⟩
      walk_at "rd"
      refine ⟨t, _, ((0 : Nat) : Int), nv f.1, rfl, rfl, sqT_of et, atI_nat rfl, ?_⟩
      walk_at "rd"
      refine ⟨f.1, rfl, h32, fun tl H2 s2 e2 => ?_⟩
      refine ⟨tl, rfl, ⟨_, sqT_of e2⟩, for_tup (fun i σ' H' => H' = H2 ∧ ∃ v, σ' = [some (nv m), some (.ref t), some (nv (((lettersOf f.1).take i).foldl (fun t l => t ^^^ heapW m (1 <<< l)) (full m))), v]) ⟨rfl, _, rfl⟩ (fun i σ' H' _ p => by rw [p.1]; exact sqT_of e2) (fun i x σ' H' hxi p => ?_) (fun σ' H' p => ?_)⟩
      · obtain ⟨rfl, v, rfl⟩ := p
        obtain ⟨l, hl, rfl⟩ := mem_nvs hxi
        have hlm := lets_ltm hf (List.mem_of_getElem? hl)
        walk_at "rd"
        refine rd_n ⟨by omega, by omega⟩ ?_
        walk_at "rd"
        refine ⟨m, 1 <<< l, rfl, h1, h5, shl_lt hlm, ?_⟩
        walk_at "rd"
        refine ⟨rfl, some (nv l), ?_⟩
        rw [take_at hl, List.foldl_append]
        rfl
      · obtain ⟨rfl, v, rfl⟩ := p
        rw [List.length_map, List.take_length]
        walk_at "rd"
        exact q _ s2
  case len =>
    obtain ⟨m, t, f, rfl, _⟩ := h
    rfl
def spFlat : Sp := fun vs H Q _ => ∃ (m : Nat) (t : Addr) (fs : List (Nat × Nat)), vs = [nv m, .ref t] ∧ 1 ≤ m ∧ m ≤ 5 ∧ FormsAt H t true fs ∧ GoodForms m fs ∧ ∀ H', Sm H H' → Q (nv (flatF m fs)) H'
theorem sc_flat_word : FnScope ["letters", "forms", "told", "form"] ["letters", "forms"] (defScope (top 77)) := ⟨rfl, rfl, rfl, by decide +kernel, rfl, by decide +kernel, by decide +kernel⟩
theorem ok_flat_word (T : Txt K mg) : FnOk P w K mg base CX0 7 a_flat_word (fdOf K a_flat_word) ["letters", "forms"] spFlat := by
  refine T.f_flat_word.ok sc_flat_word (fun vs H Q E h => ?len) (fun cdv A outer s H vs Q E hr h => ?body)
  case body =>
    have nd := sc_flat_word.nd
    refine ⟨_, PSs.nox (pss_cons (ps_set (i := 2) nd rfl (Or.inl rfl) (pe_call (ok_full_word T) (hr.mono (by decide)) rfl (T.g_full_word) (T.k_full_word) (T.b_full_word) .nil pass0 (pa_cons (pv 0) pa_nil)))
      (pss_cons (ps_for PassesOwn.never rfl (pi_tup (pe_call (ok_check_forms T) (hr.mono (by decide)) rfl (T.g_check_forms) (T.k_check_forms) (T.b_check_forms) .nil pass0 (pa_cons (pv 0) (pa_cons (pv 1) pa_nil)))) (pg_name (i := 3) nd rfl (.inl rfl)) (pss_one (ps_set (i := 2) nd rfl (Or.inl rfl) (pe_op o_and (pv 2) (pe_call (ok_values_of T) (hr.mono (by decide)) rfl (T.g_values_of) (T.k_values_of) (T.b_values_of) .nil pass0 (pa_cons (pv 0) (pa_cons (pv 3) pa_nil)))))))
      (pss_one (ps_ret (pv 2))))), ?_⟩
    obtain ⟨m, t, fs, rfl, h1, h5, hf, hg, q⟩ := h
    walk_at "rd"
    refine ⟨m, rfl, h1, h5, ?_⟩
    walk_at "rd"
    refine ⟨m, t, fs, rfl, h1, h5, hf, hg, fun t' H2 s2 hf2 => ?_⟩
    obtain ⟨ps, et, hpl, hps⟩ := hf2
    have et' : H2 t' = some (.tup (ps.map .ref)) := et
    refine ⟨t', rfl, ⟨_, sqT_of et'⟩, for_tup (fun i σ' H' => Sm H2 H' ∧ ∃ v, σ' = [some (nv m), some (.ref t), some (nv ((fs.take i).foldl (fun t f => t &&& valF m f) (full m))), v]) ⟨Sm.refl, _, rfl⟩ (fun i σ' H' _ p => p.1.sqT (sqT_of et')) (fun i x σ' H' hxi p => ?_) (fun σ' H' p => ?_)⟩
    · obtain ⟨s3, v, rfl⟩ := p
      obtain ⟨p, hp, rfl⟩ : ∃ p, ps[i]? = some p ∧ x = .ref p := by
        rw [List.getElem?_map] at hxi
        cases e : ps[i]? with
        | none => rw [e] at hxi; cases hxi
        | some p => rw [e] at hxi; exact ⟨p, rfl, (Option.some.inj hxi).symm⟩
      have hil : i < fs.length := by rw [← hpl]; exact (List.getElem?_eq_some_iff.mp hp).1
      obtain ⟨f, hfi⟩ : ∃ f, fs[i]? = some f := ⟨_, List.getElem?_eq_getElem hil⟩
      obtain ⟨_, ga2, _⟩ := hg.2.1 f (List.mem_of_getElem? hfi)
      walk_at "rd"
      refine ⟨m, p, f, rfl, h1, h5, s3 _ _ (hps i p f hp hfi), ga2, fun H4 s4 => ?_⟩
      walk_at "rd"
      refine ⟨s3.trans s4, some (.ref p), ?_⟩
      rw [take_at hfi, List.foldl_append]
      rfl
    · obtain ⟨s3, v, rfl⟩ := p
      rw [List.length_map, hpl, List.take_length]
      walk_at "rd"
      exact q _ (s2.trans s3)
  case len =>
    obtain ⟨m, t, fs, rfl, _⟩ := h
    rfl
theorem rd_aug {i : Nat} {te : TE} {ti : V → V → Hp → VK → Prop} {D : Ends} {σ : L2.St} {H : Hp} {x : V} (e : σ[i]? = some (some x)) (h : te σ H fun y H1 => ti x y H1 fun z H2 => D.nx (σ.set i (some z)) H2) : tAug i te ti D σ H := ⟨x, e, h⟩
theorem rd_ip {H : Hp} {Q : VK} {a b : Nat} (h : Q (nv (a + b)) H) : ipI (fun i j => i + j) (nv a) (nv b) H Q := ⟨a, b, rfl, rfl, h⟩
theorem rd_is {H : Hp} {Q : VK} {a b : Nat} (hb : b ≤ a) (h : Q (nv (a - b)) H) : ipI (fun i j => i - j) (nv a) (nv b) H Q := ⟨a, b, rfl, rfl, by
  have e : ((a : Int) - (b : Int)) = ((a - b : Nat) : Int) := by omega
  show Q (.int ((a : Int) - (b : Int))) H
  rw [e]; exact h⟩
def spByBits : Sp := fun vs H Q _ => ∃ h b : Nat, vs = [nv h, nv b] ∧ h < 32 ∧ ∀ t H', Sm H H' → FormsAt H' t true (formsF h b) → Q (.ref t) H'
theorem formsF_snoc {h : Nat} {L : List Nat} {l : Nat} {s : Nat × List (Nat × Nat)} : (L ++ [l]).foldl (formStep h) s = formStep h (L.foldl (formStep h) s) l := by rw [List.foldl_append]; rfl
theorem forms_len {h : Nat} : ∀ (L : List Nat) (s : Nat × List (Nat × Nat)), (L.foldl (formStep h) s).2.length = s.2.length + L.length
  | [], s => rfl
  | l :: L, s => by
    rw [List.foldl_cons, forms_len L, List.length_cons]
    show (s.2 ++ [_]).length + _ = _
    rw [List.length_append, List.length_singleton]; omega
theorem sc_forms_by_bits : FnScope ["heap", "bits", "told", "left", "letter", "lot", "lower"] ["heap", "bits"] (defScope (top 85)) := ⟨rfl, rfl, rfl, by decide +kernel, rfl, by decide +kernel, by decide +kernel⟩
theorem ok_forms_by_bits (T : Txt K mg) : FnOk P w K mg base CX0 5 a_forms_by_bits (fdOf K a_forms_by_bits) ["heap", "bits"] spByBits := by
  refine T.f_forms_by_bits.ok sc_forms_by_bits (fun vs H Q E h => ?len) (fun cdv A outer s H vs Q E hr h => ?body)
  case body =>
    have nd := sc_forms_by_bits.nd
    refine ⟨_, PSs.nox (pss_cons (ps_set (i := 2) nd rfl (Or.inl rfl) (pe_lst pa_nil))
      (pss_cons (ps_set (i := 3) nd rfl (Or.inl rfl) (pv 1))
      (pss_cons (ps_for PassesOwn.never rfl (pi_tup (pe_call (ok_letters_of T) (hr.mono (by decide)) rfl (T.g_letters_of) (T.k_letters_of) (T.b_letters_of) .nil pass0 (pa_cons (pv 0) pa_nil))) (pg_name (i := 4) nd rfl (.inl rfl)) (pss_cons (ps_set (i := 5) nd rfl (Or.inl rfl) (pe_op o_shl (pe_n 1) (pv 4)))
      (pss_cons (ps_for PassesOwn.never rfl (pi_list (pe_call (ok_free_letters T) (hr.mono (by decide)) rfl (T.g_free_letters) (T.k_free_letters) (T.b_free_letters) .nil pass0 (pa_cons (pv 0) (pa_cons (pv 4) pa_nil)))) (pg_name (i := 6) nd rfl (.inl rfl)) (pss_cons (ps_aug (i := 5) nd rfl (Or.inl rfl) (pe_op o_shl (pe_op o_and (pv 3) (pe_n 1)) (pv 6)) ip_add)
      (pss_one (ps_set (i := 3) nd rfl (Or.inl rfl) (pe_op o_shr (pv 3) (pe_n 1))))))
      (pss_cons (ps_expr (pe_bm PySem.F.plainAttrs_list PySem.F.slot_list_append PySem.F.type_list_append mt_append (pv 2) (pa_cons (pe_tup (pa_cons (pv 5) (pa_cons (pe_op o_and (pv 3) (pe_n 1)) pa_nil))) pa_nil)))
      (pss_one (ps_set (i := 3) nd rfl (Or.inl rfl) (pe_op o_shr (pv 3) (pe_n 1))))))))
      (pss_one (ps_ret (pe_callTy (call_tuple_of) (by rfl) (T.n_tuple) (by decide +kernel) (pa_cons (pv 2) pa_nil))))))), ?_⟩
    obtain ⟨h, b, rfl, h32, q⟩ := h
    walk_at "rd"
    refine ⟨by rw [sizeLine_eq]; decide, fun ta hta => ?_⟩
    walk_at "rd"
    refine ⟨h, rfl, h32, fun tl H2 s2 e2 => ?_⟩
    have hta2 : H2 ta = some (.lst []) := s2 _ _ upd_same
    refine ⟨tl, rfl, ⟨_, sqT_of e2⟩, for_tup (fun i σ' H' => (∀ b o, b ≠ ta → H2 b = some o → H' b = some o) ∧ FormsAt H' ta false (((lettersOf h).take i).foldl (formStep h) (b, [])).2 ∧ ∃ v4 v5 v6, σ' = [some (nv h), some (nv b), some (.ref ta), some (nv (((lettersOf h).take i).foldl (formStep h) (b, [])).1), v4, v5, v6]) ⟨fun _ _ _ e => e, FormsAt.nil hta2, _, _, _, rfl⟩ (fun i σ' H' _ p => sqT_of (p.1 _ _ (fun z => by rw [z, hta2] at e2; cases e2) e2)) (fun i x σ' H' hxi p => ?_) (fun σ' H' p => ?_)⟩
    · obtain ⟨k3, hf, v4, v5, v6, rfl⟩ := p
      obtain ⟨l, hl, rfl⟩ := mem_nvs hxi
      have hl5 := lets_lt (List.mem_of_getElem? hl)
      have hlen := forms_len (h := h) ((lettersOf h).take i) (b, [])
      rw [take_at hl, formsF_snoc]
      have hlen2 : ((lettersOf h).take i).length ≤ 5 := by have := lets_len h; rw [List.length_take]; omega
      generalize ((lettersOf h).take i).foldl (formStep h) (b, []) = st at hf hlen
      walk_at "rd"
      refine rd_n ⟨by omega, by omega⟩ ?_
      walk_at "rd"
      refine ⟨h, l, rfl, hl5, fun fl H4 s4 e4 => ?_⟩
      refine ⟨fl, rfl, ⟨_, sqL_of e4⟩, for_list (fun j σ' H' => H' = H4 ∧ ∃ v6, σ' = [some (nv h), some (nv b), some (.ref ta), some (nv (((freeL h l).take j).foldl lotStep (1 <<< l, st.1)).2), some (nv l), some (nv (((freeL h l).take j).foldl lotStep (1 <<< l, st.1)).1), v6]) ⟨rfl, _, rfl⟩ (fun i σ' H' _ p => by rw [p.1]; exact sqL_of e4) (fun j x σ' H' hxi p => ?_) (fun σ' H' p => ?_)⟩
      · obtain ⟨rfl, v6, rfl⟩ := p
        obtain ⟨o, ho, rfl⟩ := mem_nvs hxi
        have hfo := List.mem_range.mp (List.mem_filter.mp (List.mem_of_getElem? ho)).1
        walk_at "rd"
        refine rd_aug rfl ?_
        walk_at "rd"
        have hb2 : ∀ z : Nat, z &&& 1 ≤ 1 := fun z => by rw [Nat.and_one_is_mod]; omega
        refine rd_n ⟨by omega, Nat.lt_of_le_of_lt (hb2 _) (by decide)⟩ ?_
        refine rd_ip ?_
        walk_at "rd"
        refine ⟨rfl, some (nv o), ?_⟩
        rw [take_at ho, List.foldl_append]
        rfl
      · obtain ⟨rfl, v6, rfl⟩ := p
        rw [List.length_map, List.take_length]
        generalize hst2 : (freeL h l).foldl lotStep (1 <<< l, st.1) = s2' at *
        have hfs : formStep h st l = (s2'.2 >>> 1, st.2 ++ [(s2'.1, s2'.2 &&& 1)]) := by unfold formStep; rw [hst2]
        rw [hfs]
        walk_at "rd"
        refine rd_bm ?_
        walk_at "rd"
        have hf4 := hf.mono s4
        obtain ⟨xs0, ex0⟩ : ∃ xs, H' ta = some (.lst xs) := let ⟨qs, e, _⟩ := hf4; ⟨_, e⟩
        refine ⟨.inl ⟨rfl, _, sqL_of ex0⟩, ?_⟩
        walk_at "rd"
        refine ⟨by rw [sizeLine_eq]; show 2 ≤ 16777216; omega, fun pt hpt => ?_⟩
        walk_at "rd"
        obtain ⟨xs, ex1, ex2, ex3⟩ := (hf4.mono (Sm.new hpt)).snoc (p := pt) (a := s2'.1) (b := s2'.2 &&& 1) upd_same
        refine ⟨ta, xs, _, rfl, rfl, ex1, ?_, ?_⟩
        · rw [ex2, hlen, sizeLine_eq]
          show 0 + _ < _
          omega
        walk_at "rd"
        refine ⟨fun b o nb e => ?_, ex3, _, _, _, rfl⟩
        rw [upd_ne nb]
        exact Sm.new hpt _ _ (s4 _ _ (k3 b o nb e))
    · obtain ⟨k3, hf, v4, v5, v6, rfl⟩ := p
      rw [List.length_map, List.take_length] at hf
      obtain ⟨qs, eq1, eq2, eq3⟩ := hf
      have eq1' : H' ta = some (.lst (qs.map .ref)) := eq1
      walk_at "rd"
      refine rd_tupL2 eq1' fun t2 ht2 => ?_
      refine q t2 _ (Sm.trans (fun b o e => k3 b o (fun z => by rw [z, hta] at e; cases e) (s2 b o (Sm.new hta b o e))) (Sm.new ht2)) ⟨qs, by rw [upd_same]; rfl, eq2, fun i p f h1 h2 => Sm.new ht2 _ _ (eq3 i p f h1 h2)⟩
  case len =>
    obtain ⟨h, b, rfl, _⟩ := h
    rfl
/-- ()  -/
def spLForms : Sp := fun vs H Q _ => ∃ (c : Addr) (m : Nat) (hs : List Nat) (n h b : Nat), vs = [.ref c, nv n] ∧ ChAt H c m hs ∧ hs ≠ [] ∧ ClosedC hs ∧ FallC hs ∧ n ≤ leastC hs - 1 ∧ 1 ≤ leastC hs ∧ pickF (topH hs) n = some (h, b) ∧ ∀ t H', Sm H H' → FormsAt H' t true (formsF h b) → Q (.ref t) H'
theorem sc_least_forms : FnScope ["choice", "number", "left", "heap"] ["choice", "number"] (defScope (top 86)) := ⟨rfl, rfl, rfl, by decide +kernel, rfl, by decide +kernel, by decide +kernel⟩
theorem ok_least_forms (T : Txt K mg) : FnOk P w K mg base CX0 10 a_least_forms (fdOf K a_least_forms) ["choice", "number"] spLForms := by
  refine T.f_least_forms.ok sc_least_forms (fun vs H Q E h => ?len) (fun cdv A outer s H vs Q E hr h => ?body)
  case body =>
    have nd := sc_least_forms.nd
    refine ⟨_, PSs.nox (pss_cons (ps_set (i := 2) nd rfl (Or.inl rfl) (pe_call (ok_check_number T) (hr.mono (by decide)) rfl (T.g_check_number) (T.k_check_number) (T.b_check_number) .nil pass0 (pa_cons (pv 1) (pa_cons (pe_op o_sub (pe_call (ok_least_count T) (hr.mono (by decide)) rfl (T.g_least_count) (T.k_least_count) (T.b_least_count) .nil pass0 (pa_cons (pv 0) pa_nil)) (pe_n 1)) pa_nil))))
      (pss_cons (ps_for PassesOwn.never rfl (pi_list (pe_call (ok_top_heaps T) (hr.mono (by decide)) rfl (T.g_top_heaps) (T.k_top_heaps) (T.b_top_heaps) .nil pass0 (pa_cons (pv 0) pa_nil))) (pg_name (i := 3) nd rfl (.inl rfl)) (pss_cons (ps_if (pt_cmpR o_lt (pv 2) (pe_op o_shl (pe_n 1) (pe_call (ok_free_bits T) (hr.mono (by decide)) rfl (T.g_free_bits) (T.k_free_bits) (T.b_free_bits) .nil pass0 (pa_cons (pv 3) pa_nil))) (nomark _)) (pss_one (ps_ret (pe_call (ok_forms_by_bits T) (hr.mono (by decide)) rfl (T.g_forms_by_bits) (T.k_forms_by_bits) (T.b_forms_by_bits) .nil pass0 (pa_cons (pv 3) (pa_cons (pv 2) pa_nil))))) pss_nil)
      (pss_one (ps_aug (i := 2) nd rfl (Or.inl rfl) (pe_op o_shl (pe_n 1) (pe_call (ok_free_bits T) (hr.mono (by decide)) rfl (T.g_free_bits) (T.k_free_bits) (T.b_free_bits) .nil pass0 (pa_cons (pv 3) pa_nil))) ip_sub))))
      (pss_one (ps_ret (pe_tup pa_nil))))), ?_⟩
    obtain ⟨c, m, hs, n, h, b, rfl, hc, hne, hcl, hfa, hn, hn1, hp, q⟩ := h
    walk_at "rd"
    refine ⟨c, m, hs, rfl, hc, hne, hcl, hfa, fun H2 s2 => ?_⟩
    walk_at "rd"
    refine rd_n hn1 ?_
    walk_at "rd"
    refine ⟨n, _, rfl, hn, ?_⟩
    walk_at "rd"
    refine ⟨c, m, hs, rfl, hc.mono s2, hne, fun tl H3 s3 e3 => ?_⟩
    refine ⟨tl, rfl, ⟨_, sqL_of e3⟩, for_list (fun i σ' H' => Sm H3 H' ∧ ∃ k v, σ' = [some (.ref c), some (nv n), some (nv k), v] ∧ pickF ((topH hs).drop i) k = some (h, b)) ⟨Sm.refl, n, _, rfl, hp⟩ (fun i σ' H' _ p => p.1.sqL (sqL_of e3)) (fun i x σ' H' hxi p => ?_) (fun σ' H' p => ?_)⟩
    · obtain ⟨s4, k, v, rfl, hp⟩ := p
      obtain ⟨g, hg, rfl⟩ := mem_nvs hxi
      have hgm := (topH_mem.mp (List.mem_of_getElem? hg)).1
      have hg32 := ch32 hc hgm
      have hdr : (topH hs).drop i = g :: (topH hs).drop (i + 1) := by
        obtain ⟨hlt, e⟩ := List.getElem?_eq_some_iff.mp hg
        rw [List.drop_eq_getElem_cons hlt, e]
      rw [hdr] at hp
      have hp' : (if k < 1 <<< freeB g then some (g, k) else pickF ((topH hs).drop (i + 1)) (k - 1 <<< freeB g)) = some (h, b) := hp
      have hfb := freeB_le g
      walk_at "rd"
      refine ⟨g, rfl, hg32, fun H5 s5 => ?_⟩
      refine rd_n ⟨by omega, by omega⟩ ?_
      walk_at "rd"
      refine tdec (fun z => ?_) fun z => ?_
      · rw [if_neg z] at hp'
        walk_at "rd"
        refine rd_aug rfl ?_
        walk_at "rd"
        refine ⟨g, rfl, hg32, fun H6 s6 => ?_⟩
        refine rd_n ⟨by omega, by omega⟩ ?_
        refine rd_is (by omega) ?_
        exact ⟨s4.trans (s5.trans s6), _, _, rfl, hp'⟩
      · rw [if_pos z] at hp'
        obtain ⟨rfl, rfl⟩ := Prod.mk.inj (Option.some.inj hp')
        walk_at "rd"
        exact ⟨_, _, rfl, hg32, fun t H' s6 hf => q t H' (s2.trans (s3.trans (s4.trans (s5.trans s6)))) hf⟩
    · obtain ⟨s4, k, v, rfl, hp⟩ := p
      rw [List.length_map, List.drop_length] at hp
      cases hp
  case len =>
    obtain ⟨c, m, hs, n, h, b, rfl, hc, _⟩ := h
    rfl
def spLAt : Sp := fun vs H Q _ => ∃ (c : Addr) (m : Nat) (hs : List Nat) (n h b : Nat), vs = [.ref c, nv n] ∧ ChAt H c m hs ∧ hs ≠ [] ∧ ClosedC hs ∧ FallC hs ∧ n ≤ leastC hs - 1 ∧ 1 ≤ leastC hs ∧ pickF (topH hs) n = some (h, b) ∧ GoodForms m (formsF h b) ∧ ∀ H', Sm H H' → Q (nv (flatF m (formsF h b))) H'
theorem sc_least_at : FnScope ["choice", "number"] ["choice", "number"] (defScope (top 87)) := ⟨rfl, rfl, rfl, by decide +kernel, rfl, by decide +kernel, by decide +kernel⟩
theorem ok_least_at (T : Txt K mg) : FnOk P w K mg base CX0 11 a_least_at (fdOf K a_least_at) ["choice", "number"] spLAt := by
  refine T.f_least_at.ok sc_least_at (fun vs H Q E h => ?len) (fun cdv A outer s H vs Q E hr h => ?body)
  case body =>
    have nd := sc_least_at.nd
    refine ⟨_, PSs.nox (pss_one (ps_ret (pe_call (ok_flat_word T) (hr.mono (by decide)) rfl (T.g_flat_word) (T.k_flat_word) (T.b_flat_word) .nil pass0 (pa_cons (pe_fld (pv 0) rfl) (pa_cons (pe_call (ok_least_forms T) (hr.mono (by decide)) rfl (T.g_least_forms) (T.k_least_forms) (T.b_least_forms) .nil pass0 (pa_cons (pv 0) (pa_cons (pv 1) pa_nil))) pa_nil))))), ?_⟩
    obtain ⟨c, m, hs, n, h, b, rfl, hc, hne, hcl, hfa, hn, hn1, hp, hg, q⟩ := h
    walk_at "rd"
    refine rd_letters T hc ?_
    walk_at "rd"
    refine ⟨c, m, hs, n, h, b, rfl, hc, hne, hcl, hfa, hn, hn1, hp, fun t H2 s2 hf => ?_⟩
    walk_at "rd"
    exact ⟨m, t, formsF h b, rfl, hc.ch.m1, hc.ch.m5, hf, hg, fun H3 s3 => q _ (s2.trans s3)⟩
  case len =>
    obtain ⟨c, m, hs, n, h, b, rfl, hc, _⟩ := h
    rfl
end
end G
set_option maxHeartbeats 4000000
-- text D22
namespace G
open PySem PySem.Spec PyProof.Rows L2 M GG
section
variable {P : Program} {w : World} {K : PySem.W.Frag} {mg : Str → Option Value} {base : Heap}
theorem Txt.b1_two_near (T : Txt K mg) : ∃ ds, Vals [.int 0] ds ∧ Binds K (fdOf K a_two_near) ["choice", "many"] ds :=
  T.f_two_near.binds1 1 0 (by simp) rfl fun _ _ _ _ _ _ _ us its h1 h2 => match us, its, h1, h2 with
    | [_], [_], _, _ => ⟨_, rfl, rfl⟩
theorem Txt.b2_two_near (T : Txt K mg) : Binds K (fdOf K a_two_near) ["choice", "many"] [] := by
  obtain ⟨ds, rv, hb⟩ := T.f_two_near.binds1 (ps := ["choice", "many"]) 2 1 (by simp) rfl fun T0 kV doc pm an cdv ct us its h1 h2 => by
    match us, its, h1, h2 with
    | [a, b], [c], _, _ =>
      refine ⟨_, rfl, ?_⟩
      rfl
  cases rv
  exact hb
theorem Txt.b1_read_votes (T : Txt K mg) : ∃ ds, Vals [.non] ds ∧ Binds K (fdOf K a_read_votes) ["choice", "word", "most"] ds :=
  T.f_read_votes.binds0 2 (by simp) rfl fun _ _ _ _ _ _ us ks h1 h2 => match us, ks, h1, h2 with
    | [_, _], [_], _, _ => ⟨_, _, _, _, _, _, rfl, rfl, rfl⟩
theorem rd_callD {sp : Sp} {E : XK} {dvs : List V} {tl : TA} {σ : L2.St} {H : Hp} {Q : VK} (h : tl σ H fun vs H1 => sp (vs ++ dvs) H1 Q E) : tCall sp dvs E tl σ H Q := h
def lossyStep (m : Nat) (hs ord : List Nat) (mask : Nat) (n : Nat) (best : Option (Nat × List Nat × Bool)) (f : Nat) : Option (Nat × List Nat × Bool) := match readF m hs ord f with
  | .read b _ => match best with
    | none => some (b, onesOf m ((f ^^^ b) ^^^ ((f ^^^ b) &&& mask)), sureB m hs (onesOf m ((f ^^^ b) ^^^ ((f ^^^ b) &&& mask))).length n)
    | some z => if (onesOf m ((f ^^^ b) ^^^ ((f ^^^ b) &&& mask))).length < z.2.1.length then some (b, onesOf m ((f ^^^ b) ^^^ ((f ^^^ b) &&& mask)), sureB m hs (onesOf m ((f ^^^ b) ^^^ ((f ^^^ b) &&& mask))).length n) else best
  | _ => best
def lossyF (m : Nat) (hs ord : List Nat) (u : Nat) (ys : List Nat) : Option (Nat × List Nat × Bool) :=
  lossyStep m hs ord (mark ys) ys.length (lossyStep m hs ord (mark ys) ys.length none (u ^^^ (u &&& mark ys))) ((u ^^^ (u &&& mark ys)) ||| mark ys)
def LossyAt (H : Hp) (v : V) : Option (Nat × List Nat × Bool) → Prop
  | none => v = .non
  | some z => ∃ a dx t, v = .ref a ∧ H a = some (.ins c_Lossy dx [("word", nv z.1), ("wrong", .ref t), ("sure", .bl z.2.2)]) ∧ H t = some (.tup (nvs z.2.1))
theorem LossyAt.gr {H H' : Hp} {v : V} {z : Option (Nat × List Nat × Bool)} (h : LossyAt H v z) (g : Gr K H H') : LossyAt H' v z := by
  cases z with
  | none => exact h
  | some z =>
    obtain ⟨a, dx, t, e, e1, e2⟩ := h
    exact ⟨a, dx, t, e, g.ins e1, g.tup e2⟩
/-- isinstance(x, C), x a record -/
theorem rd_isrec {C D dx a : Addr} {fs : List (Str × V)} {H : Hp} {Q : VK} {b : Bool} (e : H a = some (.ins C dx fs)) (cl : Cls K C) (i : isiB C K = true) (k : PySem.W.kitOne K (.ref C) (.ref D) = some b) (q : Q (.bl b) H) : rIsi K [.ref a, .ref D] H Q := by
  obtain ⟨h1, h2⟩ := He.ba i
  obtain ⟨h3, h4⟩ := He.ba h2
  obtain ⟨h5, h6⟩ := He.ba h4
  exact ⟨_, _, _, _, b, rfl, .own D, .base (.ins e cl (He.eqO_ok h1) (He.eqO_ok h3) (of_decide_eq_true h5) (of_decide_eq_true h6)), k, q⟩
theorem read_le {m : Nat} {hs ord : List Nat} {f b : Nat} {ws : List Nat} (h : readF m hs ord f = .read b ws) (hm : ∀ g ∈ ord, g < 2 ^ m) : b ≤ full m := by
  have hb : builtF m (stepsF m ord f) ≤ full m := built_le _ 0 (Nat.zero_le _) fun s hs' => hm _ (steps_mem m _ _ s hs')
  unfold readF at h
  split at h
  · cases h
  · split at h
    · cases h
    · injection h with h1 h2
      rw [← h1]; exact hb
def spLossy (K : PySem.W.Frag) : Sp := fun vs H Q _ => ∃ (c : Addr) (m : Nat) (hs : List Nat) (u : Nat) (l : Addr) (xs ys : List Nat), vs = [.ref c, nv u, .ref l] ∧ ChAt H c m hs ∧ u ≤ full m ∧ Tabs (tabl K) H ∧ (H l = some (.lst (nvs xs)) ∨ H l = some (.tup (nvs xs))) ∧ (∀ x ∈ xs, x < 2 ^ m) ∧ xs.length ≤ 1000 ∧ Asc ys ∧ (∀ y, y ∈ ys ↔ y ∈ xs) ∧
  ∀ v H', Gr K H H' → LossyAt H' v (lossyF m hs (ordOf hs) u ys) → Q v H'
theorem sc_read_lossy : FnScope ["choice", "word", "lost", "letters", "gone", "mask", "kept", "best", "full", "told", "unlike", "wrong"] ["choice", "word", "lost"] (defScope (top 91)) := ⟨rfl, rfl, rfl, by decide +kernel, rfl, by decide +kernel, by decide +kernel⟩
theorem ok_read_lossy (T' : TxB K mg base) : FnOk P w K mg base CX0 9 a_read_lossy (fdOf K a_read_lossy) ["choice", "word", "lost"] (spLossy K) := by
  have T := T'.toTxt
  refine T.f_read_lossy.ok sc_read_lossy (fun vs H Q E h => ?len) (fun cdv A outer s H vs Q E hr h => ?body)
  case body =>
    obtain ⟨dsR, rvR, bR⟩ := T.b1_read_votes
    have nd := sc_read_lossy.nd
    refine ⟨_, PSs.nox (pss_cons (ps_set (i := 3) nd rfl (Or.inl rfl) (pe_fld (pv 0) rfl))
      (pss_cons (ps_expr (pe_call (ok_check_word T) (hr.mono (by decide)) rfl (T.g_check_word) (T.k_check_word) (T.b_check_word) .nil pass0 (pa_cons (pv 3) (pa_cons (pv 1) pa_nil))))
      (pss_cons (ps_set (i := 4) nd rfl (Or.inl rfl) (pe_call (ok_check_places T) (hr.mono (by decide)) rfl (T.g_check_places) (T.k_check_places) (T.b_check_places) .nil pass0 (pa_cons (pv 3) (pa_cons (pv 2) pa_nil))))
      (pss_cons (ps_set (i := 5) nd rfl (Or.inl rfl) (pe_call (ok_marked_word T) (hr.mono (by decide)) rfl (T.g_marked_word) (T.k_marked_word) (T.b_marked_word) .nil pass0 (pa_cons (pv 3) (pa_cons (pv 4) pa_nil))))
      (pss_cons (ps_set (i := 6) nd rfl (Or.inl rfl) (pe_op o_xor (pv 1) (pe_op o_and (pv 1) (pv 5))))
      (pss_cons (ps_set (i := 7) nd rfl (Or.inl rfl) pe_non)
      (pss_cons (ps_for PassesOwn.never rfl (pi_tup (pe_tup (pa_cons (pv 6) (pa_cons (pe_op o_or (pv 6) (pv 5)) pa_nil)))) (pg_name (i := 8) nd rfl (.inl rfl)) (pss_cons (ps_set (i := 9) nd rfl (Or.inl rfl) (pe_call (ok_read_votes T') (hr.mono (by decide)) rfl (T.g_read_votes) (T.k_read_votes) bR rvR pass0 (pa_cons (pv 0) (pa_cons (pv 8) pa_nil))))
      (pss_one (ps_if (pt_val (pe_callB (call_isi) (by rfl) (T.n_isinstance) (by decide +kernel) (pa_cons (pv 9) (pa_cons (pe_glob (v := .ref c_Read) rfl (T.g_Read) rfl) pa_nil)))) (pss_cons (ps_set (i := 10) nd rfl (Or.inl rfl) (pe_op o_xor (pv 8) (pe_fld (pv 9) rfl)))
      (pss_cons (ps_set (i := 11) nd rfl (Or.inl rfl) (pe_call (ok_places_of T) (hr.mono (by decide)) rfl (T.g_places_of) (T.k_places_of) (T.b_places_of) .nil pass0 (pa_cons (pv 3) (pa_cons (pe_op o_xor (pv 10) (pe_op o_and (pv 10) (pv 5))) pa_nil))))
      (pss_one (ps_if (PW.pt (pw_or (pt_cmpR op_isN (pv 7) pe_non (nomark _)) (pw_or1 (pt_cmpR o_lt (pe_callB (call_len) (by rfl) (T.n_len) (by decide +kernel) (pa_cons (pv 11) pa_nil)) (pe_callB (call_len) (by rfl) (T.n_len) (by decide +kernel) (pa_cons (pe_fld (pv 7) rfl) pa_nil)) (nomark _))))) (pss_one (ps_set (i := 7) nd rfl (Or.inl rfl) (pe_make (T.mk_Lossy) (ok_Lossy T) (hr.mono (by decide)) rfl (T.g_Lossy) (T.b_Lossy) .nil pass0 (pa_cons (pe_fld (pv 9) rfl) (pa_cons (pv 11) (pa_cons (pe_call (ok_is_sure T) (hr.mono (by decide)) rfl (T.g_is_sure) (T.k_is_sure) (T.b_is_sure) .nil pass0 (pa_cons (pv 0) (pa_cons (pe_callB (call_len) (by rfl) (T.n_len) (by decide +kernel) (pa_cons (pv 11) pa_nil)) (pa_cons (pe_callB (call_len) (by rfl) (T.n_len) (by decide +kernel) (pa_cons (pv 4) pa_nil)) pa_nil)))) pa_nil)))))) pss_nil)))) pss_nil))))
      (pss_one (ps_ret (pv 7)))))))))), ?_⟩
    obtain ⟨c, m, hs, u, l, xs, ys, rfl, hc, hu, ht, hl, hx, hn, hasc, hm, q⟩ := h
    have h1 := hc.ch.m1
    have h5 := hc.ch.m5
    walk_at "rd"
    refine rd_letters T hc ?_
    walk_at "rd"
    refine ⟨m, u, rfl, h1, h5, hu, ?_⟩
    walk_at "rd"
    refine ⟨m, l, xs, ys, rfl, h1, h5, hl, hx, hn, hasc, hm, fun gt H2 s2 e2 => ?_⟩
    have hy2 : ∀ y ∈ ys, y < 2 ^ m := fun y hy => hx y ((hm y).mp hy)
    have hyl : ys.length ≤ 1000 := by
      have := asc_len ys 0 (2 ^ m) hasc fun x hx => ⟨Nat.zero_le _, hy2 x hx⟩
      have := pow32 h5
      omega
    walk_at "rd"
    refine ⟨m, gt, ys, ys, rfl, h1, h5, .inr e2, hy2, hyl, hasc, fun _ => Iff.rfl, fun H3 s3 => ?_⟩
    walk_at "rd"
    refine ⟨by rw [sizeLine_eq]; show 2 ≤ 16777216; omega, fun tp htp => ?_⟩
    generalize hmk : mark ys = mask at *
    have hmask : mask ≤ full m := by rw [← hmk]; exact mark_le hy2
    have hf0 : u ^^^ (u &&& mask) ≤ full m := full_xor hu (Nat.le_trans Nat.and_le_left hu)
    have hf1 : (u ^^^ (u &&& mask)) ||| mask ≤ full m := le_full.mpr (Nat.or_lt_two_pow (le_full.mp hf0) (le_full.mp hmask))
    have q2 : ∀ v H', Gr K H H' → LossyAt H' v (([u ^^^ (u &&& mask), (u ^^^ (u &&& mask)) ||| mask] : List Nat).foldl (lossyStep m hs (ordOf hs) mask ys.length) none) → Q v H' := by
      intro v H' g z
      refine q v H' g ?_
      unfold lossyF
      rw [hmk]
      exact z
    generalize hfs : ([u ^^^ (u &&& mask), (u ^^^ (u &&& mask)) ||| mask] : List Nat) = fs at q2
    have hfle : ∀ f ∈ fs, f ≤ full m := by
      rw [← hfs]
      intro f hf
      rcases List.mem_cons.mp hf with rfl | hf
      · exact hf0
      · rw [List.mem_singleton.mp hf]; exact hf1
    have s4 : Sm H (upd H3 tp (.tup (nvs fs))) := (s2.trans s3).trans (Sm.new htp)
    have e4 : upd H3 tp (.tup [.int ((u ^^^ (u &&& mask) : Nat) : Int), .int (((u ^^^ (u &&& mask)) ||| mask : Nat) : Int)]) = upd H3 tp (.tup (nvs fs)) := by rw [← hfs]; rfl
    have eg4 : upd H3 tp (.tup (nvs fs)) gt = some (.tup (nvs ys)) := Sm.new htp _ _ (s3 _ _ e2)
    have etp : upd H3 tp (.tup (nvs fs)) tp = some (.tup (nvs fs)) := upd_same
    clear q
    walk_at "rd"
    rw [e4]
    generalize upd H3 tp (.tup (nvs fs)) = H4 at s4 eg4 etp
    refine ⟨tp, rfl, ⟨_, sqT_of etp⟩, for_tup (fun i σ' H' => Gr K H4 H' ∧ ∃ v, LossyAt H' v ((fs.take i).foldl (lossyStep m hs (ordOf hs) mask ys.length) none) ∧ ∃ v8 v9 v10 v11, σ' = [some (.ref c), some (nv u), some (.ref l), some (nv m), some (.ref gt), some (nv mask), some (nv (u ^^^ (u &&& mask))), some v, v8, v9, v10, v11]) ⟨Gr.refl, .non, rfl, none, none, none, none, rfl⟩ (fun i σ' H' _ p => p.1.sqT (sqT_of etp)) (fun i x σ' H' hxi p => ?_) (fun σ' H' p => ?_)⟩
    · obtain ⟨g4, v, hv, v8, v9, v10, v11, rfl⟩ := p
      obtain ⟨f, hf, rfl⟩ := mem_nvs hxi
      have hfl := hfle f (List.mem_of_getElem? hf)
      have g04 : Gr K H H' := s4.gr.trans g4
      have hc4 := hc.gr g04
      rw [take_at hf, List.foldl_append]
      generalize (fs.take i).foldl (lossyStep m hs (ordOf hs) mask ys.length) none = best at hv
      show _
      have hst : ∀ z, [f].foldl (lossyStep m hs (ordOf hs) mask ys.length) z = lossyStep m hs (ordOf hs) mask ys.length z f := fun _ => rfl
      rw [hst]
      walk_at "rd"
      refine rd_callD ?_
      walk_at "rd"
      refine ⟨c, m, hs, f, rfl, hc4, hfl, g04.2 ht, fun tv H5 g5 hr5 => ?_⟩
      unfold lossyStep
      have hv5 := hv.gr g5
      cases er : readF m hs (ordOf hs) f with
      | tie h =>
        rw [er] at hr5
        obtain ⟨a, dx, rfl, ea⟩ := hr5
        walk_at "rd"
        refine rd_isrec ea T.cl_Tie T.is_Tie T.kit_Tie_Read ?_
        walk_at "rd"
        exact ⟨g4.trans g5, v, hv5, _, _, _, _, rfl⟩
      | far b ws =>
        rw [er] at hr5
        obtain ⟨a, dx, t, g, rfl, ea, et⟩ := hr5
        walk_at "rd"
        refine rd_isrec ea T.cl_Far T.is_Far T.kit_Far_Read ?_
        walk_at "rd"
        exact ⟨g4.trans g5, v, hv5, _, _, _, _, rfl⟩
      | read b ws =>
        rw [er] at hr5
        obtain ⟨a, dx, t, g, rfl, ea, et⟩ := hr5
        have hb := read_le er fun g hg => hc.ch.lt g (ordOf_mem.mp hg)
        have hw : (f ^^^ b) ^^^ ((f ^^^ b) &&& mask) ≤ full m := full_xor (full_xor hfl hb) (Nat.le_trans Nat.and_le_left (full_xor hfl hb))
        have hc5 := hc4.gr g5
        walk_at "rd"
        refine rd_isrec ea T.cl_Read T.is_Read T.kit_Read_Read ?_
        walk_at "rd"
        refine rd_of ea T.cl_Read T.no_Read_word rfl ?_
        walk_at "rd"
        refine ⟨m, _, rfl, h1, h5, hw, fun wt H6 s6 e6 => ?_⟩
        walk_at "rd"
        refine ⟨rfl, rd_bl ?_⟩
        have g6 : Gr K H4 H6 := (g4.trans g5).sm s6
        cases best with
        | none =>
          have hvn : v = .non := hv5
          subst hvn
          refine tdec (fun z => absurd rfl z) fun _ => ?_
          walk_at "rd"
          refine rd_of (s6 _ _ ea) T.cl_Read T.no_Read_word rfl ?_
          walk_at "rd"
          refine ⟨_, _, rfl, .inr ⟨_, sqT_of e6, rfl⟩, ?_⟩
          walk_at "rd"
          refine ⟨_, _, rfl, .inr ⟨_, sqT_of (g6.tup eg4), rfl⟩, ?_⟩
          walk_at "rd"
          rw [List.length_map, List.length_map]
          refine ⟨c, m, hs, _, _, rfl, hc5.mono s6, fun H7 s7 => ?_⟩
          walk_at "rd"
          refine rd_rec rfl fun a dx H8 s8 e8 => ?_
          walk_at "rd"
          refine ⟨g6.sm (s7.trans s8), .ref a, ⟨a, dx, wt, rfl, e8, s8 _ _ (s7 _ _ e6)⟩, _, _, _, _, rfl⟩
        | some z =>
          obtain ⟨za, zdx, zt, rfl, ez1, ez2⟩ := hv5
          refine tdec (fun _ => ?_) fun y => absurd y (by intro y; cases y)
          walk_at "rd"
          refine ⟨_, _, rfl, .inr ⟨_, sqT_of e6, rfl⟩, ?_⟩
          walk_at "rd"
          refine rd_of (s6 _ _ ez1) T.cl_Lossy T.no_Lossy_wrong rfl ?_
          walk_at "rd"
          refine ⟨_, _, rfl, .inr ⟨_, sqT_of (s6 _ _ ez2), rfl⟩, ?_⟩
          walk_at "rd"
          rw [List.length_map, List.length_map]
          refine tdec (fun y => ?_) fun y => ?_
          · dsimp only
            rw [if_neg y]
            walk_at "rd"
            exact ⟨g6, .ref za, ⟨za, zdx, zt, rfl, s6 _ _ ez1, s6 _ _ ez2⟩, _, _, _, _, rfl⟩
          · dsimp only
            rw [if_pos y]
            walk_at "rd"
            refine rd_of (s6 _ _ ea) T.cl_Read T.no_Read_word rfl ?_
            walk_at "rd"
            refine ⟨_, _, rfl, .inr ⟨_, sqT_of e6, rfl⟩, ?_⟩
            walk_at "rd"
            refine ⟨_, _, rfl, .inr ⟨_, sqT_of (g6.tup eg4), rfl⟩, ?_⟩
            walk_at "rd"
            rw [List.length_map, List.length_map]
            refine ⟨c, m, hs, _, _, rfl, hc5.mono s6, fun H7 s7 => ?_⟩
            walk_at "rd"
            refine rd_rec rfl fun a dx H8 s8 e8 => ?_
            walk_at "rd"
            refine ⟨g6.sm (s7.trans s8), .ref a, ⟨a, dx, wt, rfl, e8, s8 _ _ (s7 _ _ e6)⟩, _, _, _, _, rfl⟩
    · obtain ⟨g4, v, hv, v8, v9, v10, v11, rfl⟩ := p
      rw [List.length_map, List.take_length] at hv
      walk_at "rd"
      exact q2 v H' (s4.gr.trans g4) hv
  case len =>
    obtain ⟨c, m, hs, u, l, xs, ys, rfl, hc, _⟩ := h
    rfl
end
end G
set_option maxHeartbeats 4000000
-- text D23
namespace G
open PySem PySem.Spec PyProof.Rows L2 M GG
section
variable {P : Program} {w : World} {K : PySem.W.Frag} {mg : Str → Option Value} {base : Heap}
theorem on_pow {X : Cx} : OpR X (binaryOp .Pow) (rN (fun a b => b ≤ 1000000 ∧ a < 2 ^ 64) fun a b => .int (a ^ b : Nat)) := by
  intro pins s σ H x y v u Q I rx ry h
  obtain ⟨a, b, rfl, rfl, ⟨hb, ha⟩, q⟩ := h
  refine op_pow pins s σ H _ _ v u Q I rx ry ⟨_, _, rfl, rfl, ⟨by omega, by omega, by rw [Int.natAbs_natCast]; exact ha⟩, ?_⟩
  dsimp only
  rw [Int.toNat_natCast]
  have e : ((a : Int) ^ b) = ((a ^ b : Nat) : Int) := by push_cast; rfl
  rw [e]; exact q
abbrev o_pow {X : Cx} := @on_pow X
theorem rd_intN {n : Int} {q : Int → Prop} {r : Bool → Prop} (h : q n) : (∃ i, [V.int n] = [.int i] ∧ q i) ∨ ∃ k, [V.int n] = [.bl k] ∧ r k := .inl ⟨_, rfl, h⟩
def spMix : Sp := fun vs H Q _ => ∃ n t : Nat, vs = [nv n, nv t] ∧ n < 2 ^ 62 ∧ t < 2 ^ 62 ∧ ∀ r : Nat, Q (nv r) H
theorem sc__law_mix : FnScope ["_law_number", "_law_turn", "_law_once", "_law_twice"] ["_law_number", "_law_turn"] (defScope (top 93)) := ⟨rfl, rfl, rfl, by decide +kernel, rfl, by decide +kernel, by decide +kernel⟩
theorem ok__law_mix (T : Txt K mg) : FnOk P w K mg base CX0 1 a_law_mix (fdOf K a_law_mix) ["_law_number", "_law_turn"] spMix := by
  refine T.f__law_mix.ok sc__law_mix (fun vs H Q E h => ?len) (fun cdv A outer s H vs Q E hr h => ?body)
  case body =>
    have nd := sc__law_mix.nd
    refine ⟨_, PSs.nox (pss_cons (ps_set (i := 2) nd rfl (Or.inl rfl) (pe_op o_mod (pe_callTy (call_int1) (by rfl) (T.n_int) (by decide +kernel) (pa_cons (pe_op o_add (pe_op o_add (pe_op o_mul (pv 0) (pe_n 48271)) (pe_op o_mul (pv 1) (pe_n 30269))) (pe_n 101)) pa_nil)) (pe_n 2147483647)))
      (pss_cons (ps_set (i := 3) nd rfl (Or.inl rfl) (pe_op o_mod (pe_callTy (call_int1) (by rfl) (T.n_int) (by decide +kernel) (pa_cons (pe_op o_add (pe_op o_add (pe_op o_mul (pv 2) (pv 2)) (pe_op o_mul (pe_op o_div (pv 2) (pe_n 211)) (pe_n 69621))) (pe_op o_mul (pv 1) (pe_n 7919))) pa_nil)) (pe_n 2147483629)))
      (pss_one (ps_ret (pe_op o_div (pe_op o_mod (pe_callTy (call_int1) (by rfl) (T.n_int) (by decide +kernel) (pa_cons (pe_op o_add (pe_op o_div (pe_op o_mul (pv 3) (pv 3)) (pe_n 2003)) (pv 2)) pa_nil)) (pe_n 2147483587)) (pe_n 8)))))), ?_⟩
    obtain ⟨n, t, rfl, hn, ht, q⟩ := h
    walk_at "rd"
    refine rd_n (by omega) ?_
    walk_at "rd"
    refine rd_n (by omega) ?_
    walk_at "rd"
    refine rd_intN ?_
    walk_at "rd"
    refine rd_n (by decide) ?_
    walk_at "rd"
    generalize ho : (n * 48271 + t * 30269 + 101) % 2147483647 = o
    have ho2 : o < 2147483647 := by rw [← ho]; exact Nat.mod_lt _ (by decide)
    refine rd_n (by omega) ?_
    walk_at "rd"
    refine rd_n ⟨by decide, by decide⟩ ?_
    walk_at "rd"
    have ho3 : o / 211 ≤ o := Nat.div_le_self _ _
    refine rd_n (by omega) ?_
    walk_at "rd"
    refine rd_n (by omega) ?_
    walk_at "rd"
    refine rd_intN ?_
    walk_at "rd"
    refine rd_n (by decide) ?_
    walk_at "rd"
    generalize hw : (o * o + o / 211 * 69621 + t * 7919) % 2147483629 = z
    have hz2 : z < 2147483629 := by rw [← hw]; exact Nat.mod_lt _ (by decide)
    refine rd_n (by omega) ?_
    walk_at "rd"
    refine rd_n ⟨by decide, by decide⟩ ?_
    walk_at "rd"
    refine rd_intN ?_
    walk_at "rd"
    refine rd_n (by decide) ?_
    walk_at "rd"
    refine rd_n ⟨by decide, by decide⟩ ?_
    exact q _
  case len =>
    obtain ⟨n, t, rfl, _⟩ := h
    rfl
/-! ### the hand -/
structure HandAt (H : Hp) (a p : Addr) : Prop where
  ex : ∃ (cs : List Nat) (i r t : Nat), H a = some (.lst [.ref p, nv i, nv r, nv t]) ∧ H p = some (.lst (nvs cs)) ∧ cs.length ≤ sizeLine ∧ i ≤ cs.length ∧ t < 2 ^ 60 ∧ p ≠ a
/-- what a def that draws keeps -/
def Hg (K : PySem.W.Frag) (a p : Addr) (H H' : Hp) : Prop := (∀ b o, b ≠ a → H b = some o → ¬ PL b o → (∀ ps, o ≠ .tbl ps) → H' b = some o) ∧ (Tabs (tabl K) H → Tabs (tabl K) H') ∧ (HandAt H a p → HandAt H' a p)
theorem Hg.refl {a p : Addr} {H : Hp} : Hg K a p H H := ⟨fun _ _ _ e _ _ => e, id, id⟩
theorem Hg.trans {a p : Addr} {A B C : Hp} (x : Hg K a p A B) (y : Hg K a p B C) : Hg K a p A C := ⟨fun b o n e n1 n2 => y.1 b o n (x.1 b o n e n1 n2) n1 n2, fun t => y.2.1 (x.2.1 t), fun t => y.2.2 (x.2.2 t)⟩
theorem HandAt.gr {H H' : Hp} {a p : Addr} (h : HandAt H a p) (g : Gr K H H') : HandAt H' a p := by
  obtain ⟨cs, i, r, t, e1, e2, h1, h2, h3, h4⟩ := h
  exact ⟨cs, i, r, t, g.lst e1, g.lst e2, h1, h2, h3, h4⟩
theorem Gr.hg {a p : Addr} {H H' : Hp} (g : Gr K H H') : Hg K a p H H' := ⟨fun b o _ e n1 n2 => g.1 b o e n1 n2, g.2, fun h => h.gr g⟩
theorem Sm.hg {a p : Addr} {H H' : Hp} (s : Sm H H') : Hg K a p H H' := s.gr.hg
/-- the hand's list is written -/
theorem HandAt.put {H : Hp} {a p : Addr} {cs : List Nat} {i r t : Nat} {xs : List V} (e1 : H a = some (.lst xs)) (e2 : H p = some (.lst (nvs cs))) (h1 : cs.length ≤ sizeLine) (h2 : i ≤ cs.length) (h3 : t < 2 ^ 60) (h4 : p ≠ a) : Hg K a p H (upd H a (.lst [.ref p, nv i, nv r, nv t])) ∧ HandAt (upd H a (.lst [.ref p, nv i, nv r, nv t])) a p := by
  have z : HandAt (upd H a (.lst [.ref p, nv i, nv r, nv t])) a p := ⟨cs, i, r, t, upd_same, by rw [upd_ne h4]; exact e2, h1, h2, h3, h4⟩
  exact ⟨⟨fun b o n e _ _ => by rw [upd_ne n]; exact e, fun tb => tabs_upd tb e1, fun _ => z⟩, z⟩
theorem rd_ixL {H : Hp} {Q : VK} {p : Addr} {xs : List V} {j : Nat} {v : V} (e : H p = some (.lst xs)) (h : xs[j]? = some v) (q : Q v H) : rIxL K (.ref p) (.int (j : Int)) H Q := ⟨p, xs, _, v, rfl, rfl, sqL_of e, atI_nat h, q⟩
theorem rd_gsub {to ti : TE} {t : TSet} {v : V} {σ : L2.St} {H : Hp} {q : L2.St → Hp → Prop} (h : to σ H fun o H1 => ti σ H1 fun i H2 => t o i v H2 fun H3 => q σ H3) : gSub to ti t v σ H q := h
theorem rd_setL {H : Hp} {q : Hp → Prop} {p : Addr} {xs : List V} {j : Nat} {v : V} (e : H p = some (.lst xs)) (hj : j < xs.length) (h : q (upd H p (.lst (xs.set j v)))) : rSetL (.ref p) (.int (j : Int)) v H q := ⟨p, xs, _, j, rfl, rfl, e, by unfold ixN; rw [if_pos (by omega), if_pos (by omega)]; rfl, h⟩
def spDraw (K : PySem.W.Frag) : Sp := fun vs H Q _ => ∃ (a p : Addr) (n : Nat), vs = [.ref a, nv n] ∧ 1 ≤ n ∧ n < 1073741824 ∧ HandAt H a p ∧ ∀ k H', k < n → Hg K a p H H' → Q (nv k) H'
theorem sc__law_draw : FnScope ["_law_hand_here", "_law_many", "_law_cell", "_law_rest"] ["_law_hand_here", "_law_many"] (defScope (top 95)) := ⟨rfl, rfl, rfl, by decide +kernel, rfl, by decide +kernel, by decide +kernel⟩
theorem ok__law_draw (T : Txt K mg) : FnOk P w K mg base CX0 2 a_law_draw (fdOf K a_law_draw) ["_law_hand_here", "_law_many"] (spDraw K) := by
  refine T.f__law_draw.ok sc__law_draw (fun vs H Q E h => ?len) (fun cdv A outer s H vs Q E hr h => ?body)
  case body =>
    have nd := sc__law_draw.nd
    refine ⟨_, PSs.nox (pss_cons (ps_if (PW.pt (pw_and (pt_cmpR o_eq (pe_ix ix_list (pv 0) (pe_n 2) (fun _ _ => rfl)) (pe_n 0) (nomark _)) (pw_and1 (pt_cmpR o_lt (pe_ix ix_list (pv 0) (pe_n 1) (fun _ _ => rfl)) (pe_callB (call_len) (by rfl) (T.n_len) (by decide +kernel) (pa_cons (pe_ix ix_list (pv 0) (pe_n 0) (fun _ _ => rfl)) pa_nil)) (nomark _))))) (pss_cons (ps_set (i := 2) nd rfl (Or.inl rfl) (pe_ix ix_list (pe_ix ix_list (pv 0) (pe_n 0) (fun _ _ => rfl)) (pe_ix ix_list (pv 0) (pe_n 1) (fun _ _ => rfl)) (fun _ _ => rfl)))
      (pss_cons (ps_asg (pe_op o_add (pe_ix ix_list (pv 0) (pe_n 1) (fun _ _ => rfl)) (pe_n 1)) (pg_sub (pv 0) (pe_n 1) set_list))
      (pss_cons (ps_if (pt_cmpR o_lt (pv 2) (pe_op o_pow (pe_n 10) (pe_n 18)) (nomark _)) (pss_one (ps_ret (pe_op o_mod (pe_callTy (call_int1) (by rfl) (T.n_int) (by decide +kernel) (pa_cons (pe_call (ok__law_mix T) (hr.mono (by decide)) rfl (T.g__law_mix) (T.k__law_mix) (T.b__law_mix) .nil pass0 (pa_cons (pe_op o_mod (pe_callTy (call_int1) (by rfl) (T.n_int) (by decide +kernel) (pa_cons (pv 2) pa_nil)) (pe_n 2147483647)) (pa_cons (pe_ix ix_list (pv 0) (pe_n 1) (fun _ _ => rfl)) pa_nil))) pa_nil)) (pv 1)))) pss_nil)
      (pss_one (ps_asg (pv 2) (pg_sub (pv 0) (pe_n 2) set_list)))))) pss_nil)
      (pss_cons (ps_if (pt_cmpR o_gt (pe_ix ix_list (pv 0) (pe_n 2) (fun _ _ => rfl)) (pe_n 0) (nomark _)) (pss_cons (ps_set (i := 3) nd rfl (Or.inl rfl) (pe_ix ix_list (pv 0) (pe_n 2) (fun _ _ => rfl)))
      (pss_cons (ps_asg (pe_op o_div (pv 3) (pv 1)) (pg_sub (pv 0) (pe_n 2) set_list))
      (pss_one (ps_ret (pe_op o_mod (pe_callTy (call_int1) (by rfl) (T.n_int) (by decide +kernel) (pa_cons (pv 3) pa_nil)) (pv 1)))))) pss_nil)
      (pss_cons (ps_asg (pe_op o_mod (pe_callTy (call_int1) (by rfl) (T.n_int) (by decide +kernel) (pa_cons (pe_op o_add (pe_ix ix_list (pv 0) (pe_n 3) (fun _ _ => rfl)) (pe_n 1)) pa_nil)) (pe_n 2147483629)) (pg_sub (pv 0) (pe_n 3) set_list))
      (pss_one (ps_ret (pe_op o_mod (pe_callTy (call_int1) (by rfl) (T.n_int) (by decide +kernel) (pa_cons (pe_call (ok__law_mix T) (hr.mono (by decide)) rfl (T.g__law_mix) (T.k__law_mix) (T.b__law_mix) .nil pass0 (pa_cons (pe_ix ix_list (pv 0) (pe_n 3) (fun _ _ => rfl)) (pa_cons (pe_ix ix_list (pv 0) (pe_n 1) (fun _ _ => rfl)) pa_nil))) pa_nil)) (pv 1))))))), ?_⟩
    obtain ⟨a, p, n, rfl, h1, h2, ⟨cs, i, r, t, e1, e2, hcs, hi, ht, hpa⟩, q⟩ := h
    walk_at "rd"
    refine rd_ixL e1 rfl ?_
    walk_at "rd"
    refine tdec (fun z => ?_) fun z => ?_
    · walk_at "rd"
      walk_at "rd"
      refine rd_ixL e1 rfl ?_
      walk_at "rd"
      refine tdec (fun z => ?_) fun z => ?_
      · walk_at "rd"
        refine rd_ixL e1 rfl ?_
        walk_at "rd"
        refine rd_intN ?_
        walk_at "rd"
        refine rd_n (by decide) ?_
        walk_at "rd"
        refine rd_gsub ?_
        walk_at "rd"
        refine rd_setL e1 (by show 3 < 4; decide) ?_
        have ht2 : (t + 1) % 2147483629 < 2147483629 := Nat.mod_lt _ (by decide)
        have hp := HandAt.put (K := K) (i := i) (r := r) (t := (t + 1) % 2147483629) e1 e2 hcs hi (by omega) hpa
        walk_at "rd"
        refine rd_ixL (j := 3) upd_same rfl ?_
        walk_at "rd"
        refine rd_ixL (j := 1) upd_same rfl ?_
        walk_at "rd"
        refine ⟨(t + 1) % 2147483629, i, rfl, by omega, by have := hcs; rw [sizeLine_eq] at this; omega, fun k => ?_⟩
        walk_at "rd"
        refine rd_intN ?_
        walk_at "rd"
        refine rd_n h1 ?_
        exact q _ _ (Nat.mod_lt _ h1) (Hg.refl.trans hp.1)
      · walk_at "rd"
        refine rd_ixL e1 rfl ?_
        walk_at "rd"
        refine rd_n ⟨h1, h2⟩ ?_
        walk_at "rd"
        refine rd_gsub ?_
        walk_at "rd"
        refine rd_setL e1 (by show 2 < 4; decide) ?_
        have hp := HandAt.put (K := K) (i := i) (r := r / n) (t := t) e1 e2 hcs hi ht hpa
        walk_at "rd"
        refine rd_intN ?_
        walk_at "rd"
        refine rd_n h1 ?_
        exact q _ _ (Nat.mod_lt _ h1) (Hg.refl.trans hp.1)
    · subst z
      walk_at "rd"
      refine rd_ixL e1 rfl ?_
      walk_at "rd"
      refine rd_ixL e1 rfl ?_
      walk_at "rd"
      refine ⟨_, _, rfl, .inl ⟨_, sqL_of e2, rfl⟩, ?_⟩
      walk_at "rd"
      rw [List.length_map]
      refine tdec (fun z => ?_) fun z => ?_
      · walk_at "rd"
        walk_at "rd"
        refine rd_ixL e1 rfl ?_
        walk_at "rd"
        refine tdec (fun z => ?_) fun z => ?_
        · walk_at "rd"
          refine rd_ixL e1 rfl ?_
          walk_at "rd"
          refine rd_intN ?_
          walk_at "rd"
          refine rd_n (by decide) ?_
          walk_at "rd"
          refine rd_gsub ?_
          walk_at "rd"
          refine rd_setL e1 (by show 3 < 4; decide) ?_
          have ht2 : (t + 1) % 2147483629 < 2147483629 := Nat.mod_lt _ (by decide)
          have hp := HandAt.put (K := K) (i := i) (r := 0) (t := (t + 1) % 2147483629) e1 e2 hcs hi (by omega) hpa
          walk_at "rd"
          refine rd_ixL (j := 3) upd_same rfl ?_
          walk_at "rd"
          refine rd_ixL (j := 1) upd_same rfl ?_
          walk_at "rd"
          refine ⟨(t + 1) % 2147483629, i, rfl, by omega, by have := hcs; rw [sizeLine_eq] at this; omega, fun k => ?_⟩
          walk_at "rd"
          refine rd_intN ?_
          walk_at "rd"
          refine rd_n h1 ?_
          exact q _ _ (Nat.mod_lt _ h1) (Hg.refl.trans hp.1)
        · walk_at "rd"
          refine rd_ixL e1 rfl ?_
          walk_at "rd"
          refine rd_n ⟨h1, h2⟩ ?_
          walk_at "rd"
          refine rd_gsub ?_
          walk_at "rd"
          refine rd_setL e1 (by show 2 < 4; decide) ?_
          have hp := HandAt.put (K := K) (i := i) (r := 0 / n) (t := t) e1 e2 hcs hi ht hpa
          walk_at "rd"
          refine rd_intN ?_
          walk_at "rd"
          refine rd_n h1 ?_
          exact q _ _ (Nat.mod_lt _ h1) (Hg.refl.trans hp.1)
      · have hz1 : i + 1 ≤ cs.length := z
        obtain ⟨x, hx⟩ : ∃ x, cs[i]? = some x := ⟨_, List.getElem?_eq_getElem z⟩
        have hx2 : (nvs cs)[i]? = some (nv x) := by rw [List.getElem?_map, hx]; rfl
        walk_at "rd"
        refine rd_ixL e1 rfl ?_
        walk_at "rd"
        refine rd_ixL e1 rfl ?_
        refine rd_ixL e2 hx2 ?_
        walk_at "rd"
        refine rd_ixL e1 rfl ?_
        walk_at "rd"
        refine rd_gsub ?_
        walk_at "rd"
        refine rd_setL e1 (by show 1 < 4; decide) ?_
        have hp := HandAt.put (K := K) (i := i + 1) (r := 0) (t := t) e1 e2 hcs z ht hpa
        walk_at "rd"
        refine rd_n ⟨by decide, by decide⟩ ?_
        walk_at "rd"
        refine tdec (fun z2 => ?_) fun z2 => ?_
        · walk_at "rd"
          refine rd_gsub ?_
          walk_at "rd"
          refine rd_setL upd_same (by show 2 < 4; decide) ?_
          rw [upd_upd]
          have hp := HandAt.put (K := K) (i := i + 1) (r := x) (t := t) e1 e2 hcs z ht hpa
          have e1b : upd H a (.lst [.ref p, nv (i + 1), nv x, nv t]) a = some (.lst [.ref p, nv (i + 1), nv x, nv t]) := upd_same
          have e2b : upd H a (.lst [.ref p, nv (i + 1), nv x, nv t]) p = some (.lst (nvs cs)) := by rw [upd_ne hpa]; exact e2
          have hgb := hp.1
          walk_at "rd"
          refine rd_ixL e1b rfl ?_
          walk_at "rd"
          refine tdec (fun z => ?_) fun z => ?_
          · walk_at "rd"
            refine rd_ixL e1b rfl ?_
            walk_at "rd"
            refine rd_intN ?_
            walk_at "rd"
            refine rd_n (by decide) ?_
            walk_at "rd"
            refine rd_gsub ?_
            walk_at "rd"
            refine rd_setL e1b (by show 3 < 4; decide) ?_
            have ht2 : (t + 1) % 2147483629 < 2147483629 := Nat.mod_lt _ (by decide)
            have hp := HandAt.put (K := K) (i := (i + 1)) (r := x) (t := (t + 1) % 2147483629) e1b e2b hcs hz1 (by omega) hpa
            walk_at "rd"
            refine rd_ixL (j := 3) upd_same rfl ?_
            walk_at "rd"
            refine rd_ixL (j := 1) upd_same rfl ?_
            walk_at "rd"
            refine ⟨(t + 1) % 2147483629, (i + 1), rfl, by omega, by have := hcs; rw [sizeLine_eq] at this; omega, fun k => ?_⟩
            walk_at "rd"
            refine rd_intN ?_
            walk_at "rd"
            refine rd_n h1 ?_
            exact q _ _ (Nat.mod_lt _ h1) (hgb.trans hp.1)
          · walk_at "rd"
            refine rd_ixL e1b rfl ?_
            walk_at "rd"
            refine rd_n ⟨h1, h2⟩ ?_
            walk_at "rd"
            refine rd_gsub ?_
            walk_at "rd"
            refine rd_setL e1b (by show 2 < 4; decide) ?_
            have hp := HandAt.put (K := K) (i := (i + 1)) (r := x / n) (t := t) e1b e2b hcs hz1 ht hpa
            walk_at "rd"
            refine rd_intN ?_
            walk_at "rd"
            refine rd_n h1 ?_
            exact q _ _ (Nat.mod_lt _ h1) (hgb.trans hp.1)
        · walk_at "rd"
          refine rd_intN ?_
          walk_at "rd"
          refine rd_n (by decide) ?_
          walk_at "rd"
          refine rd_ixL (j := 1) upd_same rfl ?_
          walk_at "rd"
          have hx3 : x % 2147483647 < 2147483647 := Nat.mod_lt _ (by decide)
          refine ⟨x % 2147483647, i + 1, rfl, by omega, by have := hcs; rw [sizeLine_eq] at this; omega, fun k => ?_⟩
          walk_at "rd"
          refine rd_intN ?_
          walk_at "rd"
          refine rd_n h1 ?_
          exact q _ _ (Nat.mod_lt _ h1) hp.1
  case len =>
    obtain ⟨a, p, n, rfl, _⟩ := h
    rfl
end
end G
set_option maxHeartbeats 4000000
-- text D24
namespace M
def lawHW (m g : Nat) : Nat := (List.range (1 <<< m)).foldl (fun w p => if (p &&& g) = g then w + 1 <<< p else w) 0
def below (f g : Nat) : Bool := (List.range 5).all fun l => decide (ones (f >>> l) ≤ ones (g >>> l))
end M
namespace G
open PySem PySem.Spec PyProof.Rows L2 M GG
section
variable {P : Program} {w : World} {K : PySem.W.Frag} {mg : Str → Option Value} {base : Heap}
def spHand (K : PySem.W.Frag) : Sp := fun vs H Q _ => ∃ (a : Addr) (ns : List Int), vs = [.ref a] ∧ SqL K H a (ns.map V.int) ∧ ns.length ≤ sizeLine ∧ ∀ h p H', H h = none → Sm H H' → HandAt H' h p → Q (.ref h) H'
theorem sc__law_hand : FnScope ["_law_script", "_law_total", "_law_at", "_law_cell"] ["_law_script"] (defScope (top 94)) := ⟨rfl, rfl, rfl, by decide +kernel, rfl, by decide +kernel, by decide +kernel⟩
theorem ok__law_hand (T : Txt K mg) : FnOk P w K mg base CX0 1 a_law_hand (fdOf K a_law_hand) ["_law_script"] (spHand K) := by
  refine T.f__law_hand.ok sc__law_hand (fun vs H Q E h => ?len) (fun cdv A outer s H vs Q E hr h => ?body)
  case body =>
    have nd := sc__law_hand.nd
    refine ⟨_, PSs.nox (pss_cons (ps_set (i := 1) nd rfl (Or.inl rfl) (pe_n 17))
      (pss_cons (ps_for PassesOwn.never rfl (GX.pi_enumA (by rfl) (T.n_enumerate) (pa_cons (pv 0) pa_nil)) (pg_tup rfl (pgs_cons (pg_name (i := 2) nd rfl (.inl rfl)) (pgs_cons (pg_name (i := 3) nd rfl (.inl rfl)) pgs_nil))) (pss_one (ps_set (i := 1) nd rfl (Or.inl rfl) (pe_op op_mod (pe_callTy (call_int1) (by rfl) (T.n_int) (by decide +kernel) (pa_cons (pe_op op_add (pe_op op_mul (pv 1) (pe_n 37)) (pe_op op_mul (pe_callTy (call_int1) (by rfl) (T.n_int) (by decide +kernel) (pa_cons (pv 3) pa_nil)) (pe_op op_add (pe_op op_mul (pe_n 2) (pv 2)) (pe_n 3)))) pa_nil)) (pe_n 2147483629)))))
      (pss_one (ps_ret (pe_lst (pa_cons (pe_lc (own := [("_law_cell", 3)]) rfl nd (pi_list (pv 0)) (blkOk_by (N := ["_law_script", "_law_total", "_law_at", "_law_cell"]) (sc := defScope (top 94)) (by decide +kernel)) (fun _ _ _ _ _ => (pg_name (i := 3) nd rfl (.inl rfl))) (fun _ _ _ _ _ => pts_nil) (fun _ _ _ _ _ => (pe_callB (call_abs) (by rfl) (T.n_abs) (by decide +kernel) (pa_cons (pe_callTy (call_int1) (by rfl) (T.n_int) (by decide +kernel) (pa_cons (pv 3) pa_nil)) pa_nil)))) (pa_cons (pe_n 0) (pa_cons (pe_n 0) (pa_cons (pv 1) pa_nil))))))))), ?_⟩
    obtain ⟨a, ns, rfl, ha, hn, q⟩ := h
    walk_at "rd"
    refine for_enumA (.inl ha) (fun i σ' H' => Sm H H' ∧ ∃ (t : Nat) (v2 v3 : Option V), t < 2147483629 ∧ σ' = [some (.ref a), some (nv t), v2, v3]) ⟨Sm.refl, 17, _, _, by decide, rfl⟩ (fun i σ' H' p => p.1) (fun i x σ' H' T2 hxi p hT => ?_) (fun σ' H' p => ?_)
    · obtain ⟨s2, t, v2, v3, ht, rfl⟩ := p
      obtain ⟨z, hz, rfl⟩ : ∃ z, ns[i]? = some z ∧ x = .int z := by
        rw [List.getElem?_map] at hxi
        cases e : ns[i]? with
        | none => rw [e] at hxi; cases hxi
        | some z => rw [e] at hxi; exact ⟨z, rfl, (Option.some.inj hxi).symm⟩
      have hil : i < ns.length := (List.getElem?_eq_some_iff.mp hz).1
      have hil2 : i < 16777216 := by rw [sizeLine_eq] at hn; omega
      refine rd_gtup upd_same rfl ?_
      walk_at "rd"
      refine rd_i (.inl ⟨by omega, by omega⟩) ?_
      walk_at "rd"
      refine rd_intN ?_
      walk_at "rd"
      refine rd_i (.inl ⟨by omega, by omega⟩) ?_
      walk_at "rd"
      refine rd_i (.inr ⟨by omega, by omega⟩) ?_
      walk_at "rd"
      refine rd_intN ?_
      walk_at "rd"
      refine rd_i (by decide) ?_
      walk_at "rd"
      have hp : (0 : Int) < ((2147483629 : Nat) : Int) := by decide
      obtain ⟨t', ht'⟩ := Int.eq_ofNat_of_zero_le (Int.emod_nonneg ((t : Int) * ((37 : Nat) : Int) + z * (((2 : Nat) : Int) * (i : Int) + ((3 : Nat) : Int))) (b := ((2147483629 : Nat) : Int)) (by decide))
      have ht2 := Int.emod_lt_of_pos ((t : Int) * ((37 : Nat) : Int) + z * (((2 : Nat) : Int) * (i : Int) + ((3 : Nat) : Int))) hp
      rw [ht'] at ht2
      rw [ht']
      exact ⟨s2.trans (Sm.new hT), t', _, _, by omega, rfl⟩
    · obtain ⟨s2, t, v2, v3, ht, rfl⟩ := p
      walk_at "rd"
      have ha2 := s2.sqL ha
      refine ⟨a, rfl, ⟨_, ha2⟩, lc_acc (n := ns.length) hn (fun k H6 s6 => ⟨fun hk => ?_, fun hk => ?_⟩) (fun k => nvs ((ns.take k).map Int.natAbs)) rfl (fun k hk H6 D6 s6 hD6 Nx g1 g2 x H7 y => ?_) (fun H6 D6 s6 hD6 e6 => ?_)⟩
      · exact ((wk_lst ha2 k H6 s6).1 (by rw [List.length_map]; exact hk)).1
      · exact (wk_lst ha2 k H6 s6).2 (by rw [List.length_map]; exact hk)
      · obtain ⟨rfl, hx⟩ := ((wk_lst ha2 k H6 s6).1 (by rw [List.length_map]; exact hk)).2 x H7 y
        obtain ⟨z, hz⟩ : ∃ z, ns[k]? = some z := ⟨_, List.getElem?_eq_getElem hk⟩
        rw [List.getElem?_map, hz] at hx
        have hx2 : V.int z = x := Option.some.inj hx
        subst hx2
        walk_at "rd"
        refine ⟨rfl, ?_⟩
        walk_at "rd"
        refine rd_intN ?_
        walk_at "rd"
        refine ⟨z, rfl, ?_⟩
        have e : (if z < 0 then -z else z) = (z.natAbs : Int) := by
          by_cases hz0 : z < 0
          · rw [if_pos hz0]; omega
          · rw [if_neg hz0]; omega
        rw [e]
        refine g2 _ _ Sm.refl ?_
        rw [take_at hz, List.map_append, nvs_append]
        rfl
      · rw [List.take_length] at e6
        walk_at "rd"
        refine ⟨by rw [sizeLine_eq]; show 4 ≤ 16777216; omega, fun hd hhd => ?_⟩
        have ne : D6 ≠ hd := fun z => by rw [z] at e6; rw [hhd] at e6; cases e6
        have s7 := (s2.trans s6).trans (Sm.new (o := .lst [.ref D6, nv 0, nv 0, nv t]) hhd)
        refine q hd D6 _ ((s2.trans s6).none hhd) s7 ⟨ns.map Int.natAbs, 0, 0, t, upd_same, by rw [upd_ne ne]; exact e6, by rw [List.length_map]; exact hn, Nat.zero_le _, by omega, ne⟩
  case len =>
    obtain ⟨a, ns, rfl, _⟩ := h
    rfl
def spWide (K : PySem.W.Frag) : Sp := fun vs H Q _ => ∃ (a p : Addr) (b : Nat), vs = [.ref a, nv b] ∧ b ≤ 32 ∧ HandAt H a p ∧ ∀ k H', k < 2 ^ b → Hg K a p H H' → Q (nv k) H'
theorem sc__law_wide : FnScope ["_law_hand_here", "_law_bits", "_law_number", "_law_k"] ["_law_hand_here", "_law_bits"] (defScope (top 96)) := ⟨rfl, rfl, rfl, by decide +kernel, rfl, by decide +kernel, by decide +kernel⟩
theorem ok__law_wide (T : Txt K mg) : FnOk P w K mg base CX0 3 a_law_wide (fdOf K a_law_wide) ["_law_hand_here", "_law_bits"] (spWide K) := by
  refine T.f__law_wide.ok sc__law_wide (fun vs H Q E h => ?len) (fun cdv A outer s H vs Q E hr h => ?body)
  case body =>
    have nd := sc__law_wide.nd
    refine ⟨_, PSs.nox (pss_cons (ps_set (i := 2) nd rfl (Or.inl rfl) (pe_n 0))
      (pss_cons (ps_for PassesOwn.never rfl (pi_range1 rfl (T.n_range) (pa_cons (pe_op o_div (pv 1) (pe_n 8)) pa_nil)) (pg_name (i := 3) nd rfl (.inl rfl)) (pss_one (ps_set (i := 2) nd rfl (Or.inl rfl) (pe_op o_add (pe_op o_mul (pv 2) (pe_n 256)) (pe_call (ok__law_draw T) (hr.mono (by decide)) rfl (T.g__law_draw) (T.k__law_draw) (T.b__law_draw) .nil pass0 (pa_cons (pv 0) (pa_cons (pe_n 256) pa_nil)))))))
      (pss_one (ps_ret (pe_op o_add (pe_op o_mul (pv 2) (pe_op o_shl (pe_n 1) (pe_op o_sub (pv 1) (pe_op o_mul (pe_op o_div (pv 1) (pe_n 8)) (pe_n 8))))) (pe_call (ok__law_draw T) (hr.mono (by decide)) rfl (T.g__law_draw) (T.k__law_draw) (T.b__law_draw) .nil pass0 (pa_cons (pv 0) (pa_cons (pe_op o_shl (pe_n 1) (pe_op o_sub (pv 1) (pe_op o_mul (pe_op o_div (pv 1) (pe_n 8)) (pe_n 8)))) pa_nil)))))))), ?_⟩
    obtain ⟨a, p0, b, rfl, hb, ha, q⟩ := h
    walk_at "rd"
    refine rd_n ⟨by decide, by decide⟩ ?_
    walk_at "rd"
    refine for_rngJ (n := b / 8) (by omega) (fun i σ' H' => Hg K a p0 H H' ∧ ∃ (n : Nat) (v : Option V), n < 256 ^ i ∧ σ' = [some (.ref a), some (nv b), some (nv n), v]) ⟨Hg.refl, 0, _, by decide, rfl⟩ (fun i σ' H' hi p => ?_) (fun σ' H' p => ?_)
    · obtain ⟨g, n, v, hn, rfl⟩ := p
      walk_at "rd"
      refine rd_n ?_ ?_
      · have : 256 ^ i ≤ 256 ^ 4 := Nat.pow_le_pow_right (by decide) (by omega)
        omega
      walk_at "rd"
      refine ⟨a, p0, 256, rfl, by decide, by decide, g.2.2 ha, fun k H2 hk g2 => ?_⟩
      walk_at "rd"
      exact ⟨g.trans g2, n * 256 + k, _, by rw [Nat.pow_succ]; omega, rfl⟩
    · obtain ⟨g, n, v, hn, rfl⟩ := p
      walk_at "rd"
      have hp4 : 256 ^ (b / 8) ≤ 256 ^ 4 := Nat.pow_le_pow_right (by decide) (by omega)
      have e1 : 256 ^ (b / 8) * 2 ^ (b - b / 8 * 8) = 2 ^ b := by
        rw [show (256 : Nat) = 2 ^ 8 from rfl, ← Nat.pow_mul, ← Nat.pow_add]
        congr 1; omega
      refine rd_n ⟨by decide, by decide⟩ ?_
      walk_at "rd"
      refine rd_n (by omega) ?_
      walk_at "rd"
      refine rd_n (by omega) ?_
      refine rd_n ⟨by omega, by omega⟩ ?_
      refine rd_n (by omega) ?_
      walk_at "rd"
      refine rd_n ⟨by decide, by decide⟩ ?_
      walk_at "rd"
      refine rd_n (by omega) ?_
      walk_at "rd"
      refine rd_n (by omega) ?_
      refine rd_n ⟨by omega, by omega⟩ ?_
      walk_at "rd"
      rw [shl_one]
      have h8 : 2 ^ (b - b / 8 * 8) ≤ 2 ^ 8 := Nat.pow_le_pow_right (by decide) (by omega)
      refine ⟨a, p0, 2 ^ (b - b / 8 * 8), rfl, Nat.two_pow_pos _, by omega, g.2.2 ha, fun k H2 hk g2 => ?_⟩
      walk_at "rd"
      refine q _ _ ?_ (g.trans g2)
      rw [← e1]
      calc n * 2 ^ (b - b / 8 * 8) + k < n * 2 ^ (b - b / 8 * 8) + 2 ^ (b - b / 8 * 8) := by omega
        _ = (n + 1) * 2 ^ (b - b / 8 * 8) := by rw [Nat.succ_mul]
        _ ≤ _ := Nat.mul_le_mul_right _ hn
  case len =>
    obtain ⟨a, p, b, rfl, _⟩ := h
    rfl
def spIsInt : Sp := fun vs H Q _ => ∃ n lo hi : Nat, vs = [nv n, nv lo, nv hi] ∧ Q (.bl (decide (lo ≤ n ∧ n ≤ hi))) H
theorem sc__law_is_int : FnScope ["_law_thing", "_law_low", "_law_high"] ["_law_thing", "_law_low", "_law_high"] (defScope (top 97)) := ⟨rfl, rfl, rfl, by decide +kernel, rfl, by decide +kernel, by decide +kernel⟩
theorem ok__law_is_int (T : Txt K mg) : FnOk P w K mg base CX0 1 a_law_is_int (fdOf K a_law_is_int) ["_law_thing", "_law_low", "_law_high"] spIsInt := by
  refine T.f__law_is_int.ok sc__law_is_int (fun vs H Q E h => ?len) (fun cdv A outer s H vs Q E hr h => ?body)
  case body =>
    have nd := sc__law_is_int.nd
    refine ⟨_, PSs.nox (pss_one (ps_ret (pe_and (pe_callB (call_isi) (by rfl) (T.n_isinstance) (by decide +kernel) (pa_cons (pv 0) (pa_cons (pe_bltn (v := .ty "int") rfl (T.n_int) (by decide +kernel) rfl) pa_nil))) (pe_and (pe_not (pe_callB (call_isi) (by rfl) (T.n_isinstance) (by decide +kernel) (pa_cons (pv 0) (pa_cons (pe_bltn (v := .ty "bool") rfl (T.n_bool) (by decide +kernel) rfl) pa_nil)))) (pe_one (pe_chain o_le o_le (pv 1) (pv 0) (pv 2))))))), ?_⟩
    obtain ⟨n, lo, hi, rfl, q⟩ := h
    walk_at "rd"
    refine isi_ty (.base (.int _)) kb_ii ?_
    refine ⟨true, rfl, ?_⟩
    walk_at "rd"
    refine isi_ty (.base (.int _)) kb_ib ?_
    refine ⟨false, rfl, ?_⟩
    refine ⟨true, rfl, ?_⟩
    walk_at "rd"
    refine tdec (fun z => ?_) fun z => ?_
    · rw [decide_eq_false (fun y => z y.1)] at q
      exact q
    · walk_at "rd"
      have e : decide (lo ≤ n ∧ n ≤ hi) = decide (n ≤ hi) := decide_eq_decide.mpr ⟨fun y => y.2, fun y => ⟨z, y⟩⟩
      rw [e] at q
      exact q
  case len =>
    obtain ⟨n, lo, hi, rfl, _⟩ := h
    rfl
theorem sc__law_ones : FnScope ["_law_number", "_law_many"] ["_law_number"] (defScope (top 98)) := ⟨rfl, rfl, rfl, by decide +kernel, rfl, by decide +kernel, by decide +kernel⟩
theorem ok__law_ones (T : Txt K mg) : FnOk P w K mg base CX0 1 a_law_ones (fdOf K a_law_ones) ["_law_number"] spOnes := by
  refine T.f__law_ones.ok sc__law_ones (fun vs H Q E h => ?len) (fun cdv A outer s H vs Q E hr h => ?body)
  case body =>
    have nd := sc__law_ones.nd
    refine ⟨_, PSs.nox (pss_cons (ps_set (i := 1) nd rfl (Or.inl rfl) (pe_n 0))
      (pss_cons (ps_while PassesOwn.never (pt_cmpR o_gt (pv 0) (pe_n 0) (nomark _)) (pss_cons (ps_set (i := 1) nd rfl (Or.inl rfl) (pe_op o_add (pv 1) (pe_op o_and (pv 0) (pe_n 1))))
      (pss_one (ps_set (i := 0) nd rfl (Or.inl rfl) (pe_op o_div (pv 0) (pe_n 2))))))
      (pss_one (ps_ret (pv 1))))), ?_⟩
    obtain ⟨n, rfl, q⟩ := h
    walk_at "rd"
    refine ⟨fun k σ' H' => H' = H ∧ ∃ a : Nat, σ' = [some (nv k), some (nv a)] ∧ a + ones k = ones n, ⟨n, rfl, 0, rfl, by omega⟩, ?_⟩
    rintro k σ' H' ⟨rfl, a, rfl, e⟩
    walk_at "rd"
    by_cases z : 0 < k
    · rw [decide_eq_true z]
      walk_at "rd"
      refine ⟨fun σ2 H2 => ∃ k', k' < k ∧ H2 = H' ∧ ∃ a : Nat, σ2 = [some (nv k'), some (nv a)] ∧ a + ones k' = ones n, fun _ _ h => h, ?_⟩
      walk_at "rd"
      refine rd_n ⟨by decide, by decide⟩ ?_
      walk_at "rd"
      refine ⟨k / 2, by omega, rfl, a + (k &&& 1), rfl, ?_⟩
      rw [Nat.and_one_is_mod, ← e, ones_eq k]
      simp [Nat.add_assoc]
    · rw [decide_eq_false z]
      walk_at "rd"
      have k0 : k = 0 := by omega
      subst k0
      have : a = ones n := by rw [← e]; rfl
      rw [this]; exact q
  case len =>
    obtain ⟨g, rfl, _⟩ := h
    rfl
def spLHW : Sp := fun vs H Q _ => ∃ m g : Nat, vs = [nv m, nv g] ∧ m ≤ 5 ∧ Q (nv (lawHW m g)) H
theorem sc__law_heap_word : FnScope ["_law_m", "_law_heap", "_law_word", "_law_place"] ["_law_m", "_law_heap"] (defScope (top 99)) := ⟨rfl, rfl, rfl, by decide +kernel, rfl, by decide +kernel, by decide +kernel⟩
theorem ok__law_heap_word (T : Txt K mg) : FnOk P w K mg base CX0 1 a_law_heap_word (fdOf K a_law_heap_word) ["_law_m", "_law_heap"] spLHW := by
  refine T.f__law_heap_word.ok sc__law_heap_word (fun vs H Q E h => ?len) (fun cdv A outer s H vs Q E hr h => ?body)
  case body =>
    have nd := sc__law_heap_word.nd
    refine ⟨_, PSs.nox (pss_cons (ps_set (i := 2) nd rfl (Or.inl rfl) (pe_n 0))
      (pss_cons (ps_for PassesOwn.never rfl (pi_range1 rfl (T.n_range) (pa_cons (pe_op o_shl (pe_n 1) (pv 0)) pa_nil)) (pg_name (i := 3) nd rfl (.inl rfl)) (pss_one (ps_if (pt_cmpR o_eq (pe_op o_and (pv 3) (pv 1)) (pv 1) (nomark _)) (pss_one (ps_set (i := 2) nd rfl (Or.inl rfl) (pe_op o_add (pv 2) (pe_op o_shl (pe_n 1) (pv 3))))) pss_nil)))
      (pss_one (ps_ret (pv 2))))), ?_⟩
    obtain ⟨m, g, rfl, h5, q⟩ := h
    have hm := le32 h5
    walk_at "rd"
    refine rd_n ⟨by omega, by omega⟩ ?_
    walk_at "rd"
    refine for_rngJ (n := 1 <<< m) (by omega) (fun i σ' H' => H' = H ∧ ∃ (v : Option V), σ' = [some (nv m), some (nv g), some (nv ((List.range i).foldl (fun w p => if (p &&& g) = g then w + 1 <<< p else w) 0)), v]) ⟨rfl, _, rfl⟩ (fun i σ' H' hi p => ?_) (fun σ' H' p => ?_)
    · obtain ⟨rfl, v, rfl⟩ := p
      rw [List.range_succ, List.foldl_append, List.foldl_cons, List.foldl_nil]
      walk_at "rd"
      refine tdec (fun z => ?_) fun z => ?_
      · rw [if_neg z]
        walk_at "rd"
        exact ⟨rfl, _, rfl⟩
      · rw [if_pos z]
        walk_at "rd"
        refine rd_n ⟨by omega, by omega⟩ ?_
        walk_at "rd"
        exact ⟨rfl, _, rfl⟩
    · obtain ⟨rfl, v, rfl⟩ := p
      walk_at "rd"
      exact q
  case len =>
    obtain ⟨m, g, rfl, _⟩ := h
    rfl
def spBelow : Sp := fun vs H Q _ => ∃ f g : Nat, vs = [nv f, nv g] ∧ Q (.bl (below f g)) H
theorem sc__law_is_below : FnScope ["_law_f", "_law_g", "_law_letter"] ["_law_f", "_law_g"] (defScope (top 100)) := ⟨rfl, rfl, rfl, by decide +kernel, rfl, by decide +kernel, by decide +kernel⟩
theorem ok__law_is_below (T : Txt K mg) : FnOk P w K mg base CX0 2 a_law_is_below (fdOf K a_law_is_below) ["_law_f", "_law_g"] spBelow := by
  refine T.f__law_is_below.ok sc__law_is_below (fun vs H Q E h => ?len) (fun cdv A outer s H vs Q E hr h => ?body)
  case body =>
    have nd := sc__law_is_below.nd
    refine ⟨_, PSs.nox (pss_cons (ps_for PassesOwn.never rfl (pi_range1 rfl (T.n_range) (pa_cons (pe_n 5) pa_nil)) (pg_name (i := 2) nd rfl (.inl rfl)) (pss_one (ps_if (pt_cmpR o_gt (pe_call (ok__law_ones T) (hr.mono (by decide)) rfl (T.g__law_ones) (T.k__law_ones) (T.b__law_ones) .nil pass0 (pa_cons (pe_op o_shr (pv 0) (pv 2)) pa_nil)) (pe_call (ok__law_ones T) (hr.mono (by decide)) rfl (T.g__law_ones) (T.k__law_ones) (T.b__law_ones) .nil pass0 (pa_cons (pe_op o_shr (pv 1) (pv 2)) pa_nil)) (nomark _)) (pss_one (ps_ret pe_bl)) pss_nil)))
      (pss_one (ps_ret pe_bl))), ?_⟩
    obtain ⟨f, g, rfl, q⟩ := h
    walk_at "rd"
    refine for_rngJ (n := 5) (by omega) (fun i σ' H' => H' = H ∧ (∃ (v : Option V), σ' = [some (nv f), some (nv g), v]) ∧ ∀ l, l < i → ones (f >>> l) ≤ ones (g >>> l)) ⟨rfl, ⟨_, rfl⟩, fun _ h => absurd h (Nat.not_lt_zero _)⟩ (fun i σ' H' hi p => ?_) (fun σ' H' p => ?_)
    · obtain ⟨rfl, ⟨v, rfl⟩, hall⟩ := p
      walk_at "rd"
      refine ⟨_, rfl, ?_⟩
      walk_at "rd"
      refine ⟨_, rfl, ?_⟩
      walk_at "rd"
      refine tdec (fun z => ?_) fun z => ?_
      · walk_at "rd"
        refine ⟨rfl, ⟨_, rfl⟩, fun l hl => ?_⟩
        by_cases e : l = i
        · subst e; omega
        · exact hall l (by omega)
      · walk_at "rd"
        have : below f g = false := by
          unfold below
          rw [List.all_eq_false]
          exact ⟨i, List.mem_range.mpr hi, by simpa using z⟩
        rw [this] at q
        exact q
    · obtain ⟨rfl, ⟨v, rfl⟩, hall⟩ := p
      walk_at "rd"
      have : below f g = true := by
        unfold below
        rw [List.all_eq_true]
        exact fun l hl => decide_eq_true (hall l (List.mem_range.mp hl))
      rw [this] at q
      exact q
  case len =>
    obtain ⟨f, g, rfl, _⟩ := h
    rfl
def spLMark : Sp := fun vs H Q _ => ∃ (l : Addr) (xs : List Nat), vs = [.ref l] ∧ (H l = some (.lst (nvs xs)) ∨ H l = some (.tup (nvs xs))) ∧ (∀ x ∈ xs, x < 32) ∧ ∀ H', Sm H H' → Q (nv (mark xs)) H'
def spLSpots : Sp := fun vs H Q _ => ∃ m u : Nat, vs = [nv m, nv u] ∧ m ≤ 5 ∧ NewT H (onesOf m u) Q
theorem sc__law_spots_of : FnScope ["_law_m", "_law_word", "_law_place"] ["_law_m", "_law_word"] (defScope (top 108)) := ⟨rfl, rfl, rfl, by decide +kernel, rfl, by decide +kernel, by decide +kernel⟩
theorem ok__law_spots_of (T : Txt K mg) : FnOk P w K mg base CX0 1 a_law_spots_of (fdOf K a_law_spots_of) ["_law_m", "_law_word"] spLSpots := by
  refine T.f__law_spots_of.ok sc__law_spots_of (fun vs H Q E h => ?len) (fun cdv A outer s H vs Q E hr h => ?body)
  case body =>
    have nd := sc__law_spots_of.nd
    refine ⟨_, PSs.nox (pss_one (ps_ret (pe_callTy (call_tuple_of) (by rfl) (T.n_tuple) (by decide +kernel) (pa_cons (pe_lc (own := [("_law_place", 2)]) rfl nd (pi_range1 rfl (T.n_range) (pa_cons (pe_op o_shl (pe_n 1) (pv 0)) pa_nil)) (blkOk_by (N := ["_law_m", "_law_word", "_law_place"]) (sc := defScope (top 108)) (by decide +kernel)) (fun _ _ _ _ _ => (pg_name (i := 2) nd rfl (.inl rfl))) (fun _ _ _ _ _ => (pts_one (pt_cmpR o_eq (pe_op o_and (pe_op o_shr (pv 1) (pv 2)) (pe_n 1)) (pe_n 1) (nomark _)))) (fun _ _ _ _ _ => (pv 2))) pa_nil)))), ?_⟩
    obtain ⟨m, u, rfl, h5, q⟩ := h
    have hm := le32 h5
    walk_at "rd"
    refine rd_n ⟨by omega, by omega⟩ ?_
    walk_at "rd"
    refine lc_rngJ (n := 1 <<< m) (line32 (by omega)) (fun p => decide ((u >>> p &&& 1) ≠ 0)) nv (fun l hl H2 D2 s2 Nx g1 g2 => ?_) (fun H2 D2 s2 hD e => ?_)
    · walk_at "rd"
      have hb : (u >>> l &&& 1) = 1 ↔ (u >>> l &&& 1) ≠ 0 := by rw [Nat.and_one_is_mod]; omega
      refine tdec (fun z => ?_) fun z => ?_
      · exact g1 _ Sm.refl (decide_eq_false fun y => z (hb.mpr y))
      · walk_at "rd"
        exact g2 _ Sm.refl (decide_eq_true (hb.mp z))
    · walk_at "rd"
      refine rd_tupL e fun t ht => ?_
      exact q t _ (s2.trans (Sm.new ht)) upd_same
  case len =>
    obtain ⟨m, u, rfl, _⟩ := h
    rfl
def spAnyW (K : PySem.W.Frag) : Sp := fun vs H Q _ => ∃ (a p : Addr) (m : Nat), vs = [.ref a, nv m] ∧ m ≤ 5 ∧ HandAt H a p ∧ ∀ k H', k ≤ full m → Hg K a p H H' → Q (nv k) H'
theorem sc__law_any_word : FnScope ["_law_hand_here", "_law_m"] ["_law_hand_here", "_law_m"] (defScope (top 105)) := ⟨rfl, rfl, rfl, by decide +kernel, rfl, by decide +kernel, by decide +kernel⟩
theorem ok__law_any_word (T : Txt K mg) : FnOk P w K mg base CX0 4 a_law_any_word (fdOf K a_law_any_word) ["_law_hand_here", "_law_m"] (spAnyW K) := by
  refine T.f__law_any_word.ok sc__law_any_word (fun vs H Q E h => ?len) (fun cdv A outer s H vs Q E hr h => ?body)
  case body =>
    have nd := sc__law_any_word.nd
    refine ⟨_, PSs.nox (pss_one (ps_ret (pe_call (ok__law_wide T) (hr.mono (by decide)) rfl (T.g__law_wide) (T.k__law_wide) (T.b__law_wide) .nil pass0 (pa_cons (pv 0) (pa_cons (pe_op o_shl (pe_n 1) (pv 1)) pa_nil))))), ?_⟩
    obtain ⟨a, p, m, rfl, h5, ha, q⟩ := h
    have hm := le32 h5
    walk_at "rd"
    refine rd_n ⟨by omega, by omega⟩ ?_
    walk_at "rd"
    refine ⟨a, p, 1 <<< m, rfl, hm, ha, fun k H' hk g => q k H' (le_full.mpr ?_) g⟩
    rw [shl_one] at hk
    exact hk
  case len =>
    obtain ⟨a, p, m, rfl, _⟩ := h
    rfl
end
end G
set_option maxHeartbeats 4000000
-- text D25
namespace G
open PySem PySem.Spec PyProof.Rows L2 M GG
section
variable {P : Program} {w : World} {K : PySem.W.Frag} {mg : Str → Option Value} {base : Heap}
theorem pi_listK {X : Cx} {tg e : Expr} {te : TE} (hK : X.K = K) (h : PE X e te) : PI X tg e (iList K te) := by
  subst hK
  exact pi_list h
theorem cr_anyK {X : Cx} (hK : X.K = K) (hc : X.calm = true) : CallR X (.builtin "any") (rAny K) := by
  subst hK
  exact cr_any hc
/-- the block of a comprehension that a def returns -/
def retSc (st : Stmt) : Scope := match defBody st with
  | [.Return (some (.ListComp _ _ sc _)) _] => sc
  | _ => default
def spFallL : Sp := fun vs H Q _ => ∃ (m : Nat) (l : Addr) (ss : List Nat), vs = [nv m, .ref l] ∧ m ≤ 5 ∧ H l = some (.lst (nvs ss)) ∧ ss.length ≤ 1000 ∧ NewL H ((List.range (1 <<< m)).filter fun f => ss.any (below f)) Q
theorem sc__law_falling : FnScope ["_law_m", "_law_seeds_here", "_law_f", "_law_g"] ["_law_m", "_law_seeds_here"] (defScope (top 101)) := ⟨rfl, rfl, rfl, by decide +kernel, rfl, by decide +kernel, by decide +kernel⟩
theorem ok__law_falling (T : Txt K mg) : FnOk P w K mg base CX0 3 a_law_falling (fdOf K a_law_falling) ["_law_m", "_law_seeds_here"] spFallL := by
  refine T.f__law_falling.ok sc__law_falling (fun vs H Q E h => ?len) (fun cdv A outer s H vs Q E hr h => ?body)
  case body =>
    have nd := sc__law_falling.nd
    refine ⟨_, PSs.nox (pss_one (ps_ret (pe_lc (own := [("_law_f", 2)]) rfl nd (pi_range1 rfl (T.n_range) (pa_cons (pe_op o_shl (pe_n 1) (pv 0)) pa_nil)) (blkOk_by (N := ["_law_m", "_law_seeds_here", "_law_f", "_law_g"]) (sc := defScope (top 101)) (by decide +kernel)) (fun _ _ _ _ _ => (pg_name (i := 2) nd rfl (.inr rfl))) (fun _ _ _ _ _ => (pts_one (pt_val (pe_callB (cr_anyK (K := K) (by rfl) rfl) (by rfl) (T.n_any) (by decide +kernel) (pa_cons (pe_lc (own := [("_law_g", 3)]) rfl nd (pi_listK (K := K) (by rfl) (pv 1)) (blkOk_by (N := ["_law_m", "_law_seeds_here", "_law_f", "_law_g"]) (sc := relS (retSc (top 101)) (defScope (top 101))) (by decide +kernel)) (fun _ _ _ _ _ => (pg_name (i := 3) nd rfl (.inl rfl))) (fun _ _ _ _ _ => pts_nil) (fun _ _ _ _ _ => (pe_call (ok__law_is_below T) (hr.mono (by decide)) rfl (T.g__law_is_below) (T.k__law_is_below) (T.b__law_is_below) .nil pass0 (pa_cons (pv 2) (pa_cons (pv 3) pa_nil))))) pa_nil))))) (fun _ _ _ _ _ => (pv 2))))), ?_⟩
    obtain ⟨m, l, ss, rfl, h5, hl, hn, q⟩ := h
    have hm := le32 h5
    walk_at "rd"
    refine rd_n ⟨by omega, by omega⟩ ?_
    walk_at "rd"
    refine lc_rngJ (n := 1 <<< m) (line32 (by omega)) (fun f => ss.any (below f)) nv (fun f hf H2 D2 s2 Nx g1 g2 => ?_) (fun H2 D2 s2 hD e => ?_)
    · walk_at "rd"
      refine ⟨l, rfl, ⟨_, sqL_of (s2 _ _ hl)⟩, lc_acc (n := ss.length) (by rw [sizeLine_eq]; omega) (fun k H6 s6 => ⟨fun hk => ?_, fun hk => ?_⟩) (fun k => (ss.take k).map fun g => V.bl (below f g)) rfl (fun k hk H6 D6 s6 hD6 Nx g1 g2 x H7 y => ?_) (fun H6 D6 s6 hD6 e6 => ?_)⟩
      · exact ((wk_lst (sqL_of (s2 _ _ hl)) k H6 s6).1 (by rw [List.length_map]; exact hk)).1
      · exact (wk_lst (sqL_of (s2 _ _ hl)) k H6 s6).2 (by rw [List.length_map]; exact hk)
      · obtain ⟨rfl, hx⟩ := ((wk_lst (sqL_of (s2 _ _ hl)) k H6 s6).1 (by rw [List.length_map]; exact hk)).2 x H7 y
        obtain ⟨g, hg, rfl⟩ := mem_nvs hx
        walk_at "rd"
        refine ⟨rfl, ?_⟩
        walk_at "rd"
        refine ⟨f, g, rfl, ?_⟩
        refine g2 _ _ Sm.refl ?_
        rw [take_at hg, List.map_append]
        rfl
      · rw [List.take_length] at e6
        have e7 : (ss.map fun g => V.bl (below f g)) = (ss.map (below f)).map V.bl := by rw [List.map_map]; rfl
        rw [e7] at e6
        walk_at "rd"
        refine ⟨D6, _, rfl, sqL_of e6, ?_⟩
        refine ⟨_, rfl, ?_⟩
        have e8 : (ss.map (below f)).any id = ss.any (below f) := by rw [List.any_map]; rfl
        rw [e8]
        cases eb : ss.any (below f) with
        | false => exact g1 _ s6 eb
        | true =>
          walk_at "rd"
          exact g2 _ s6 eb
    · exact q _ _ s2 e
  case len =>
    obtain ⟨m, l, ss, rfl, _⟩ := h
    rfl
def spClosL : Sp := fun vs H Q _ => ∃ (m : Nat) (l : Addr) (ss : List Nat), vs = [nv m, .ref l] ∧ m ≤ 5 ∧ H l = some (.lst (nvs ss)) ∧ ss.length ≤ 1000 ∧ NewL H ((List.range (1 <<< m)).filter fun f => ss.any fun g => decide ((f &&& g) = f)) Q
theorem sc__law_closed : FnScope ["_law_m", "_law_seeds_here", "_law_f", "_law_g"] ["_law_m", "_law_seeds_here"] (defScope (top 102)) := ⟨rfl, rfl, rfl, by decide +kernel, rfl, by decide +kernel, by decide +kernel⟩
theorem ok__law_closed (T : Txt K mg) : FnOk P w K mg base CX0 1 a_law_closed (fdOf K a_law_closed) ["_law_m", "_law_seeds_here"] spClosL := by
  refine T.f__law_closed.ok sc__law_closed (fun vs H Q E h => ?len) (fun cdv A outer s H vs Q E hr h => ?body)
  case body =>
    have nd := sc__law_closed.nd
    refine ⟨_, PSs.nox (pss_one (ps_ret (pe_lc (own := [("_law_f", 2)]) rfl nd (pi_range1 rfl (T.n_range) (pa_cons (pe_op o_shl (pe_n 1) (pv 0)) pa_nil)) (blkOk_by (N := ["_law_m", "_law_seeds_here", "_law_f", "_law_g"]) (sc := defScope (top 102)) (by decide +kernel)) (fun _ _ _ _ _ => (pg_name (i := 2) nd rfl (.inr rfl))) (fun _ _ _ _ _ => (pts_one (pt_val (pe_callB (cr_anyK (K := K) (by rfl) rfl) (by rfl) (T.n_any) (by decide +kernel) (pa_cons (pe_lc (own := [("_law_g", 3)]) rfl nd (pi_listK (K := K) (by rfl) (pv 1)) (blkOk_by (N := ["_law_m", "_law_seeds_here", "_law_f", "_law_g"]) (sc := relS (retSc (top 102)) (defScope (top 102))) (by decide +kernel)) (fun _ _ _ _ _ => (pg_name (i := 3) nd rfl (.inl rfl))) (fun _ _ _ _ _ => pts_nil) (fun _ _ _ _ _ => (pe_cmpR o_eq (pe_op o_and (pv 2) (pv 3)) (pv 2) (nomark _)))) pa_nil))))) (fun _ _ _ _ _ => (pv 2))))), ?_⟩
    obtain ⟨m, l, ss, rfl, h5, hl, hn, q⟩ := h
    have hm := le32 h5
    walk_at "rd"
    refine rd_n ⟨by omega, by omega⟩ ?_
    walk_at "rd"
    refine lc_rngJ (n := 1 <<< m) (line32 (by omega)) (fun f => ss.any (fun g => decide ((f &&& g) = f))) nv (fun f hf H2 D2 s2 Nx g1 g2 => ?_) (fun H2 D2 s2 hD e => ?_)
    · walk_at "rd"
      refine ⟨l, rfl, ⟨_, sqL_of (s2 _ _ hl)⟩, lc_acc (n := ss.length) (by rw [sizeLine_eq]; omega) (fun k H6 s6 => ⟨fun hk => ?_, fun hk => ?_⟩) (fun k => (ss.take k).map fun g => V.bl (decide ((f &&& g) = f))) rfl (fun k hk H6 D6 s6 hD6 Nx g1 g2 x H7 y => ?_) (fun H6 D6 s6 hD6 e6 => ?_)⟩
      · exact ((wk_lst (sqL_of (s2 _ _ hl)) k H6 s6).1 (by rw [List.length_map]; exact hk)).1
      · exact (wk_lst (sqL_of (s2 _ _ hl)) k H6 s6).2 (by rw [List.length_map]; exact hk)
      · obtain ⟨rfl, hx⟩ := ((wk_lst (sqL_of (s2 _ _ hl)) k H6 s6).1 (by rw [List.length_map]; exact hk)).2 x H7 y
        obtain ⟨g, hg, rfl⟩ := mem_nvs hx
        walk_at "rd"
        refine ⟨rfl, ?_⟩
        walk_at "rd"
        refine g2 _ _ Sm.refl ?_
        rw [take_at hg, List.map_append]
        rfl
      · rw [List.take_length] at e6
        have e7 : (ss.map fun g => V.bl (decide ((f &&& g) = f))) = (ss.map fun g => decide ((f &&& g) = f)).map V.bl := by rw [List.map_map]; rfl
        rw [e7] at e6
        walk_at "rd"
        refine ⟨D6, _, rfl, sqL_of e6, ?_⟩
        refine ⟨_, rfl, ?_⟩
        have e8 : (ss.map fun g => decide ((f &&& g) = f)).any id = ss.any (fun g => decide ((f &&& g) = f)) := by rw [List.any_map]; rfl
        rw [e8]
        cases eb : ss.any (fun g => decide ((f &&& g) = f)) with
        | false => exact g1 _ s6 eb
        | true =>
          walk_at "rd"
          exact g2 _ s6 eb
    · exact q _ _ s2 e
  case len =>
    obtain ⟨m, l, ss, rfl, _⟩ := h
    rfl
end
end G
set_option maxHeartbeats 4000000
-- text D26
namespace G
open PySem PySem.Spec PyProof.Rows L2 M GG
section
variable {P : Program} {w : World} {K : PySem.W.Frag} {mg : Str → Option Value} {base : Heap}
/-- a comprehension whose turns change the heap, by the invariant Pv -/
theorem lc_free {gg : TG} {tt : TT} {te : TE} {vs : List Nat} {σ : L2.St} {J : It} {n : Nat} {H1 : Hp} {Q : Addr → Hp → Prop} (hn : n ≤ sizeLine) (Pv : Nat → List V → Hp → Prop) (Wk : ∀ k acc H, Pv k acc H → (k < n → J.go k H) ∧ (k = n → J.stop k H))
    (p0 : ∀ D, H1 D = none → Pv 0 [] (upd H1 D (.lst [])))
    (step : ∀ k, k < n → ∀ H acc D, H1 D = none → H D = some (.lst acc) → Pv k acc H → ∀ Nx : Hp → Prop, (∀ H3, H3 D = some (.lst acc) → Pv (k + 1) acc H3 → Nx H3) → (∀ y H4, H4 D = some (.lst acc) → Pv (k + 1) (acc ++ [y]) (upd H4 D (.lst (acc ++ [y]))) → Elm D Nx y H4) →
      ∀ x H', J.yld k H x H' → gg x (wipe σ vs) H' fun σ2 H2 => wipe σ2 vs = wipe σ vs ∧ tt σ2 H2 fun b H3 => if b = true then te σ2 H3 (Elm D Nx) else Nx H3)
    (fin : ∀ H acc D, H1 D = none → H D = some (.lst acc) → Pv n acc H → Q D H) :
    ∀ D, H1 D = none → ∃ W : Nat → Nat → Hp → Prop, (∃ m, W 0 m (upd H1 D (.lst []))) ∧ ∀ i m H, W i m H →
      (J.stop i H ∧ Q D H) ∨ (J.go i H ∧ ∃ Nx : Hp → Prop, (∀ H', Nx H' → ∃ m', m' < m ∧ W (i + 1) m' H') ∧ ∀ x H', J.yld i H x H' → gg x (wipe σ vs) H' fun σ2 H2 => wipe σ2 vs = wipe σ vs ∧ tt σ2 H2 fun b H3 =>
        if b = true then te σ2 H3 fun y H4 => ∃ acc, H4 D = some (.lst acc) ∧ acc.length < sizeLine ∧ Nx (upd H4 D (.lst (acc ++ [y]))) else Nx H3) := by
  intro D hD
  refine ⟨fun k m H => m = n - k ∧ k ≤ n ∧ ∃ acc, H D = some (.lst acc) ∧ acc.length ≤ k ∧ Pv k acc H, ⟨_, rfl, Nat.zero_le _, [], upd_same, Nat.le_refl _, p0 D hD⟩, ?_⟩
  rintro k m H ⟨rfl, hk, acc, hacc, hlen, hP⟩
  by_cases hlt : k < n
  · right
    refine ⟨(Wk k acc H hP).1 hlt, fun H' => k + 1 ≤ n ∧ ∃ acc, H' D = some (.lst acc) ∧ acc.length ≤ k + 1 ∧ Pv (k + 1) acc H', fun H' ⟨a, b⟩ => ⟨n - (k + 1), by omega, rfl, hlt, b⟩, ?_⟩
    refine step k hlt H acc D hD hacc hP _ (fun H3 e p => ⟨hlt, acc, e, by omega, p⟩) fun y H4 e p => ⟨_, e, by omega, hlt, _, upd_same, by rw [List.length_append, List.length_singleton]; omega, p⟩
  · left
    have e : k = n := by omega
    subst e
    exact ⟨(Wk _ acc H hP).2 rfl, fin H acc D hD hacc hP⟩
/-- a new list changes nothing of the hand -/
theorem Hg.put {a p D : Addr} {H1 H : Hp} {xs ys : List V} (g : Hg K a p H1 H) (hD : H1 D = none) (ha : HandAt H1 a p) (e : H D = some (.lst xs)) : Hg K a p H1 (upd H D (.lst ys)) := by
  refine ⟨fun b o n q n1 n2 => ?_, fun t => tabs_upd (g.2.1 t) e, fun h => ?_⟩
  · rw [upd_ne (ne_of_none q hD)]
    exact g.1 b o n q n1 n2
  · obtain ⟨cs, i, r, t, e1, e2, h1, h2, h3, h4⟩ := g.2.2 h
    obtain ⟨cs', i', r', t', f1, f2, _⟩ := ha
    refine ⟨cs, i, r, t, ?_, ?_, h1, h2, h3, h4⟩
    · rw [upd_ne (ne_of_none f1 hD)]; exact e1
    · rw [upd_ne (ne_of_none f2 hD)]; exact e2
theorem Hg.sm {a p : Addr} {H H1 H2 : Hp} (g : Hg K a p H H1) (s : Sm H1 H2) : Hg K a p H H2 := g.trans s.hg
theorem HandAt.hg {a p : Addr} {H H' : Hp} (h : HandAt H a p) (g : Hg K a p H H') : HandAt H' a p := g.2.2 h
/-! ### _law_mark -/
def spLMarkL : Sp := fun vs H Q _ => ∃ (l : Addr) (xs : List Nat), vs = [.ref l] ∧ H l = some (.lst (nvs xs)) ∧ (∀ x ∈ xs, x < 32) ∧ Q (nv (mark xs)) H
def spLMarkT : Sp := fun vs H Q _ => ∃ (l : Addr) (xs : List Nat), vs = [.ref l] ∧ H l = some (.tup (nvs xs)) ∧ (∀ x ∈ xs, x < 32) ∧ Q (nv (mark xs)) H
theorem sc__law_mark : FnScope ["_law_places", "_law_word", "_law_place"] ["_law_places"] (defScope (top 107)) := ⟨rfl, rfl, rfl, by decide +kernel, rfl, by decide +kernel, by decide +kernel⟩
theorem ok__law_mark (T : Txt K mg) : FnOk P w K mg base CX0 1 a_law_mark (fdOf K a_law_mark) ["_law_places"] spLMarkL := by
  refine T.f__law_mark.ok sc__law_mark (fun vs H Q E h => ?len) (fun cdv A outer s H vs Q E hr h => ?body)
  case body =>
    have nd := sc__law_mark.nd
    refine ⟨_, PSs.nox (pss_cons (ps_set (i := 1) nd rfl (Or.inl rfl) (pe_n 0))
      (pss_cons (ps_for PassesOwn.never rfl (pi_list (pv 0)) (pg_name (i := 2) nd rfl (.inl rfl)) (pss_one (ps_set (i := 1) nd rfl (Or.inl rfl) (pe_op o_or (pv 1) (pe_op o_shl (pe_n 1) (pv 2))))))
      (pss_one (ps_ret (pv 1))))), ?_⟩
    obtain ⟨l, xs, rfl, hl, hx, q⟩ := h
    walk_at "rd"
    refine ⟨l, rfl, ⟨_, sqL_of hl⟩, for_list (fun i σ' H' => H' = H ∧ ∃ v, σ' = [some (.ref l), some (nv ((xs.take i).foldl (fun w p => w ||| 1 <<< p) 0)), v]) ⟨rfl, _, rfl⟩ (fun i σ' H' _ p => by rw [p.1]; exact sqL_of hl) (fun i x σ' H' hxi p => ?_) (fun σ' H' p => ?_)⟩
    · obtain ⟨rfl, v, rfl⟩ := p
      obtain ⟨k, hk, rfl⟩ := mem_nvs hxi
      have hk32 := hx k (List.mem_of_getElem? hk)
      walk_at "rd"
      refine rd_n ⟨by omega, by omega⟩ ?_
      walk_at "rd"
      refine ⟨rfl, some (nv k), ?_⟩
      rw [take_at hk, List.foldl_append]
      rfl
    · obtain ⟨rfl, v, rfl⟩ := p
      rw [List.length_map, List.take_length]
      walk_at "rd"
      exact q
  case len =>
    obtain ⟨l, xs, rfl, _⟩ := h
    rfl
theorem sc__law_markT : FnScope ["_law_places", "_law_word", "_law_place"] ["_law_places"] (defScope (top 107)) := ⟨rfl, rfl, rfl, by decide +kernel, rfl, by decide +kernel, by decide +kernel⟩
theorem ok__law_markT (T : Txt K mg) : FnOk P w K mg base CX0 1 a_law_mark (fdOf K a_law_mark) ["_law_places"] spLMarkT := by
  refine T.f__law_mark.ok sc__law_markT (fun vs H Q E h => ?len) (fun cdv A outer s H vs Q E hr h => ?body)
  case body =>
    have nd := sc__law_markT.nd
    refine ⟨_, PSs.nox (pss_cons (ps_set (i := 1) nd rfl (Or.inl rfl) (pe_n 0))
      (pss_cons (ps_for PassesOwn.never rfl (pi_tup (pv 0)) (pg_name (i := 2) nd rfl (.inl rfl)) (pss_one (ps_set (i := 1) nd rfl (Or.inl rfl) (pe_op o_or (pv 1) (pe_op o_shl (pe_n 1) (pv 2))))))
      (pss_one (ps_ret (pv 1))))), ?_⟩
    obtain ⟨l, xs, rfl, hl, hx, q⟩ := h
    walk_at "rd"
    refine ⟨l, rfl, ⟨_, sqT_of hl⟩, for_tup (fun i σ' H' => H' = H ∧ ∃ v, σ' = [some (.ref l), some (nv ((xs.take i).foldl (fun w p => w ||| 1 <<< p) 0)), v]) ⟨rfl, _, rfl⟩ (fun i σ' H' _ p => by rw [p.1]; exact sqT_of hl) (fun i x σ' H' hxi p => ?_) (fun σ' H' p => ?_)⟩
    · obtain ⟨rfl, v, rfl⟩ := p
      obtain ⟨k, hk, rfl⟩ := mem_nvs hxi
      have hk32 := hx k (List.mem_of_getElem? hk)
      walk_at "rd"
      refine rd_n ⟨by omega, by omega⟩ ?_
      walk_at "rd"
      refine ⟨rfl, some (nv k), ?_⟩
      rw [take_at hk, List.foldl_append]
      rfl
    · obtain ⟨rfl, v, rfl⟩ := p
      rw [List.length_map, List.take_length]
      walk_at "rd"
      exact q
  case len =>
    obtain ⟨l, xs, rfl, _⟩ := h
    rfl
/-! ### seeds, choices -/
def spSeeds (K : PySem.W.Frag) : Sp := fun vs H Q _ => ∃ (a p : Addr) (m : Nat), vs = [.ref a, nv m] ∧ m ≤ 5 ∧ HandAt H a p ∧ ∀ l xs H', Hg K a p H H' → H' l = some (.lst (nvs xs)) → (∀ x ∈ xs, x < 2 ^ m) → 1 ≤ xs.length → xs.length ≤ 3 → Q (.ref l) H'
theorem sc__law_seeds : FnScope ["_law_hand_here", "_law_m", "_law_k"] ["_law_hand_here", "_law_m"] (defScope (top 103)) := ⟨rfl, rfl, rfl, by decide +kernel, rfl, by decide +kernel, by decide +kernel⟩
theorem ok__law_seeds (T : Txt K mg) : FnOk P w K mg base CX0 3 a_law_seeds (fdOf K a_law_seeds) ["_law_hand_here", "_law_m"] (spSeeds K) := by
  refine T.f__law_seeds.ok sc__law_seeds (fun vs H Q E h => ?len) (fun cdv A outer s H vs Q E hr h => ?body)
  case body =>
    have nd := sc__law_seeds.nd
    refine ⟨_, PSs.nox (pss_one (ps_ret (pe_lc (own := [("_law_k", 2)]) rfl nd (pi_range1 rfl (T.n_range) (pa_cons (pe_op o_add (pe_n 1) (pe_call (ok__law_draw T) (hr.mono (by decide)) rfl (T.g__law_draw) (T.k__law_draw) (T.b__law_draw) .nil pass0 (pa_cons (pv 0) (pa_cons (pe_n 3) pa_nil)))) pa_nil)) (blkOk_by (N := ["_law_hand_here", "_law_m", "_law_k"]) (sc := defScope (top 103)) (by decide +kernel)) (fun _ _ _ _ _ => (pg_name (i := 2) nd rfl (.inl rfl))) (fun _ _ _ _ _ => pts_nil) (fun _ _ _ _ _ => (pe_call (ok__law_draw T) (hr.mono (by decide)) rfl (T.g__law_draw) (T.k__law_draw) (T.b__law_draw) .nil pass0 (pa_cons (pv 0) (pa_cons (pe_op o_shl (pe_n 1) (pv 1)) pa_nil))))))), ?_⟩
    obtain ⟨a, p, m, rfl, h5, ha, q⟩ := h
    have hm := le32 h5
    walk_at "rd"
    refine ⟨a, p, 3, rfl, by decide, by decide, ha, fun r H2 hr g2 => ?_⟩
    walk_at "rd"
    have ha2 := ha.hg g2
    refine ⟨((1 + r : Nat) : Int), rfl, by omega, by omega, ?_⟩
    rw [Int.toNat_natCast]
    refine lc_free (n := 1 + r) (by rw [sizeLine_eq]; omega) (fun k acc H3 => Hg K a p H2 H3 ∧ ∃ xs, acc = nvs xs ∧ xs.length = k ∧ ∀ x ∈ xs, x < 2 ^ m) (fun k acc H3 _ => ⟨fun hk => hk, fun hk => by show 1 + r ≤ k; omega⟩) (fun D hD => ⟨(Sm.new hD).hg, [], rfl, rfl, by simp⟩) (fun k hk H3 acc D hD hacc pk Nx g1 g2' x H4 y => ?_) (fun H3 acc D hD hacc pk => ?_)
    · obtain ⟨g3, xs, rfl, hxl, hxs⟩ := pk
      obtain ⟨rfl, rfl⟩ := y
      walk_at "rd"
      refine ⟨rfl, ?_⟩
      walk_at "rd"
      refine rd_n ⟨by omega, by omega⟩ ?_
      walk_at "rd"
      refine ⟨a, p, 1 <<< m, rfl, one_le_shl m, by omega, ha2.hg g3, fun j H5 hj g5 => ?_⟩
      have hD5 : H5 D = some (.lst (nvs xs)) := g5.1 D _ (fun z => by obtain ⟨cs, i, r, t, e1, _⟩ := ha2; rw [z, e1] at hD; cases hD) hacc (fun ⟨_, z⟩ => by cases z) fun _ z => by cases z
      refine g2' _ _ hD5 ⟨(g3.trans g5).put hD ha2 hD5, xs ++ [j], (nvs_append xs [j]).symm, by rw [List.length_append, hxl]; rfl, fun x hx => ?_⟩
      rcases List.mem_append.mp hx with z | z
      · exact hxs x z
      · rw [List.mem_singleton.mp z, ← shl_one]; exact hj
    · obtain ⟨g3, xs, rfl, hxl, hxs⟩ := pk
      exact q D xs H3 (g2.trans g3) hacc hxs (by omega) (by omega)
  case len =>
    obtain ⟨a, p, m, rfl, _⟩ := h
    rfl
end
end G
set_option maxHeartbeats 4000000
-- text D27
namespace G
open PySem PySem.Spec PyProof.Rows L2 M GG
section
variable {P : Program} {w : World} {K : PySem.W.Frag} {mg : Str → Option Value} {base : Heap}
theorem filt_asc {n : Nat} {p : Nat → Bool} : Asc ((List.range n).filter p) := List.Pairwise.filter _ List.pairwise_lt_range
theorem filt_lt {m : Nat} {p : Nat → Bool} : ∀ x ∈ (List.range (1 <<< m)).filter p, x < 2 ^ m := fun x hx => by
  have := List.mem_range.mp (List.mem_filter.mp hx).1
  rw [shl_one] at this
  exact this
def spAnyL (K : PySem.W.Frag) : Sp := fun vs H Q _ => ∃ (a p : Addr) (m : Nat), vs = [.ref a, nv m] ∧ m ≤ 5 ∧ HandAt H a p ∧ ∀ l ys H', Hg K a p H H' → H' l = some (.lst (nvs ys)) → Asc ys → (∀ y ∈ ys, y < 2 ^ m) → Q (.ref l) H'
theorem sc__law_choice : FnScope ["_law_hand_here", "_law_m", "_law_style", "_law_bits", "_law_heaps", "_law_turned", "_law_heap"] ["_law_hand_here", "_law_m"] (defScope (top 104)) := ⟨rfl, rfl, rfl, by decide +kernel, rfl, by decide +kernel, by decide +kernel⟩
theorem ok__law_choice (T : Txt K mg) : FnOk P w K mg base CX0 4 a_law_choice (fdOf K a_law_choice) ["_law_hand_here", "_law_m"] (spAnyL K) := by
  refine T.f__law_choice.ok sc__law_choice (fun vs H Q E h => ?len) (fun cdv A outer s H vs Q E hr h => ?body)
  case body =>
    have nd := sc__law_choice.nd
    refine ⟨_, PSs.nox (pss_cons (ps_set (i := 2) nd rfl (Or.inl rfl) (pe_call (ok__law_draw T) (hr.mono (by decide)) rfl (T.g__law_draw) (T.k__law_draw) (T.b__law_draw) .nil pass0 (pa_cons (pv 0) (pa_cons (pe_n 8) pa_nil))))
      (pss_cons (ps_if (pt_cmpR o_lt (pv 2) (pe_n 4) (nomark _)) (pss_one (ps_ret (pe_call (ok__law_falling T) (hr.mono (by decide)) rfl (T.g__law_falling) (T.k__law_falling) (T.b__law_falling) .nil pass0 (pa_cons (pv 1) (pa_cons (pe_call (ok__law_seeds T) (hr.mono (by decide)) rfl (T.g__law_seeds) (T.k__law_seeds) (T.b__law_seeds) .nil pass0 (pa_cons (pv 0) (pa_cons (pv 1) pa_nil))) pa_nil))))) pss_nil)
      (pss_cons (ps_if (pt_cmpR o_lt (pv 2) (pe_n 6) (nomark _)) (pss_one (ps_ret (pe_call (ok__law_closed T) (hr.mono (by decide)) rfl (T.g__law_closed) (T.k__law_closed) (T.b__law_closed) .nil pass0 (pa_cons (pv 1) (pa_cons (pe_call (ok__law_seeds T) (hr.mono (by decide)) rfl (T.g__law_seeds) (T.k__law_seeds) (T.b__law_seeds) .nil pass0 (pa_cons (pv 0) (pa_cons (pv 1) pa_nil))) pa_nil))))) pss_nil)
      (pss_cons (ps_if (pt_cmpR o_eq (pv 2) (pe_n 6) (nomark _)) (pss_cons (ps_set (i := 3) nd rfl (Or.inr rfl) (pe_call (ok__law_wide T) (hr.mono (by decide)) rfl (T.g__law_wide) (T.k__law_wide) (T.b__law_wide) .nil pass0 (pa_cons (pv 0) (pa_cons (pe_op o_shl (pe_n 1) (pv 1)) pa_nil))))
      (pss_one (ps_ret (pe_lc (own := [("_law_heap", 6)]) rfl nd (pi_range1 rfl (T.n_range) (pa_cons (pe_op o_shl (pe_n 1) (pv 1)) pa_nil)) (blkOk_by (N := ["_law_hand_here", "_law_m", "_law_style", "_law_bits", "_law_heaps", "_law_turned", "_law_heap"]) (sc := defScope (top 104)) (by decide +kernel)) (fun _ _ _ _ _ => (pg_name (i := 6) nd rfl (.inl rfl))) (fun _ _ _ _ _ => (pts_one (pt_cmpR o_eq (pe_op o_and (pe_op o_shr (pv 3) (pv 6)) (pe_n 1)) (pe_n 1) (nomark _)))) (fun _ _ _ _ _ => (pv 6)))))) pss_nil)
      (pss_cons (ps_set (i := 4) nd rfl (Or.inr rfl) (pe_call (ok__law_falling T) (hr.mono (by decide)) rfl (T.g__law_falling) (T.k__law_falling) (T.b__law_falling) .nil pass0 (pa_cons (pv 1) (pa_cons (pe_call (ok__law_seeds T) (hr.mono (by decide)) rfl (T.g__law_seeds) (T.k__law_seeds) (T.b__law_seeds) .nil pass0 (pa_cons (pv 0) (pa_cons (pv 1) pa_nil))) pa_nil))))
      (pss_cons (ps_set (i := 5) nd rfl (Or.inr rfl) (pe_call (ok__law_draw T) (hr.mono (by decide)) rfl (T.g__law_draw) (T.k__law_draw) (T.b__law_draw) .nil pass0 (pa_cons (pv 0) (pa_cons (pe_op o_shl (pe_n 1) (pv 1)) pa_nil))))
      (pss_one (ps_ret (pe_lc (own := [("_law_heap", 6)]) rfl nd (pi_range1 rfl (T.n_range) (pa_cons (pe_op o_shl (pe_n 1) (pv 1)) pa_nil)) (blkOk_by (N := ["_law_hand_here", "_law_m", "_law_style", "_law_bits", "_law_heaps", "_law_turned", "_law_heap"]) (sc := defScope (top 104)) (by decide +kernel)) (fun _ _ _ _ _ => (pg_name (i := 6) nd rfl (.inl rfl))) (fun _ _ _ _ _ => (pts_one (pt_cmpR op_ne (pe_cmpR (op_inK (K := K) (by rfl)) (pv 6) (pv 4) rfl) (pe_cmpR o_eq (pv 6) (pv 5) (nomark _)) (nomark _)))) (fun _ _ _ _ _ => (pv 6))))))))))), ?_⟩
    obtain ⟨a, p, m, rfl, h5, ha, q⟩ := h
    have hm := le32 h5
    walk_at "rd"
    refine ⟨a, p, 8, rfl, by decide, by decide, ha, fun k H2 hk g2 => ?_⟩
    have ha2 := ha.hg g2
    walk_at "rd"
    refine tdec (fun z => ?_) fun z => ?_
    · walk_at "rd"
      refine tdec (fun z => ?_) fun z => ?_
      · walk_at "rd"
        refine tdec (fun z => ?_) fun z => ?_
        · walk_at "rd"
          refine ⟨a, p, m, rfl, h5, ha2, fun l xs H3 g3 e3 hx hl1 hl3 => ?_⟩
          walk_at "rd"
          refine ⟨m, l, xs, rfl, h5, e3, by omega, fun l2 H4 s4 e4 => ?_⟩
          walk_at "rd"
          refine rd_n ⟨by omega, by omega⟩ ?_
          walk_at "rd"
          have ha4 := (ha2.hg g3).hg s4.hg (K := K)
          refine ⟨a, p, 1 <<< m, rfl, one_le_shl m, by omega, ha4, fun t H5 ht g5 => ?_⟩
          have nla : l2 ≠ a := fun z => by
            obtain ⟨cs, i, r, t', e1, _⟩ := ha4
            rw [z, e1] at e4
            have e5 := HO.lst.inj (Option.some.inj e4)
            generalize (List.range (1 <<< m)).filter (fun f => xs.any (below f)) = ys at e5
            cases ys with
            | nil => cases e5
            | cons y ys => cases e5
          have e5 := g5.1 l2 _ nla e4 (fun ⟨_, z⟩ => by cases z) fun _ z => by cases z
          walk_at "rd"
          refine rd_n ⟨by omega, by omega⟩ ?_
          walk_at "rd"
          generalize (List.range (1 <<< m)).filter (fun f => xs.any (below f)) = ys at e5
          refine lc_rngJ (n := 1 <<< m) (line32 (by omega)) (fun h => !decide (V.bl (decide (h ∈ ys)) = V.bl (decide (h = t)))) nv (fun h hl H6 D6 s6 Nx n1 n2 => ?_) (fun H6 D6 s6 hD e6 => ?_)
          · walk_at "rd"
            refine rd_isin (.inl (sqL_of (s6 _ _ e5))) ?_
            walk_at "rd"
            refine ⟨rfl, rd_bl ?_⟩
            by_cases z : V.bl (decide (h ∈ ys)) = V.bl (decide (h = t))
            · rw [decide_eq_true z]
              exact n1 _ Sm.refl (by rw [decide_eq_true z]; rfl)
            · rw [decide_eq_false z]
              walk_at "rd"
              exact n2 _ Sm.refl (by rw [decide_eq_false z]; rfl)
          · exact q _ _ _ (((g2.trans g3).sm s4).trans (g5.sm s6)) e6 filt_asc filt_lt
        · walk_at "rd"
          refine rd_n ⟨by omega, by omega⟩ ?_
          walk_at "rd"
          refine ⟨a, p, 1 <<< m, rfl, hm, ha2, fun b H3 hb g3 => ?_⟩
          walk_at "rd"
          refine rd_n ⟨by omega, by omega⟩ ?_
          walk_at "rd"
          refine lc_rngJ (n := 1 <<< m) (line32 (by omega)) (fun h => decide ((b >>> h &&& 1) = 1)) nv (fun h hl H6 D6 s6 Nx n1 n2 => ?_) (fun H6 D6 s6 hD e6 => ?_)
          · walk_at "rd"
            refine tdec (fun z => ?_) fun z => ?_
            · exact n1 _ Sm.refl (decide_eq_false z)
            · walk_at "rd"
              exact n2 _ Sm.refl (decide_eq_true z)
          · exact q _ _ _ ((g2.trans g3).sm s6) e6 filt_asc filt_lt
      · walk_at "rd"
        refine ⟨a, p, m, rfl, h5, ha2, fun l xs H3 g3 e3 hx hl1 hl3 => ?_⟩
        walk_at "rd"
        exact ⟨m, l, xs, rfl, h5, e3, by omega, fun l2 H4 s4 e4 => q _ _ _ ((g2.trans g3).sm s4) e4 filt_asc filt_lt⟩
    · walk_at "rd"
      refine ⟨a, p, m, rfl, h5, ha2, fun l xs H3 g3 e3 hx hl1 hl3 => ?_⟩
      walk_at "rd"
      exact ⟨m, l, xs, rfl, h5, e3, by omega, fun l2 H4 s4 e4 => q _ _ _ ((g2.trans g3).sm s4) e4 filt_asc filt_lt⟩
  case len =>
    obtain ⟨a, p, m, rfl, _⟩ := h
    rfl
theorem sc__law_low_choice : FnScope ["_law_hand_here", "_law_m", "_law_top", "_law_heaps", "_law_heap"] ["_law_hand_here", "_law_m"] (defScope (top 109)) := ⟨rfl, rfl, rfl, by decide +kernel, rfl, by decide +kernel, by decide +kernel⟩
theorem ok__law_low_choice (T : Txt K mg) : FnOk P w K mg base CX0 5 a_law_low_choice (fdOf K a_law_low_choice) ["_law_hand_here", "_law_m"] (spAnyL K) := by
  refine T.f__law_low_choice.ok sc__law_low_choice (fun vs H Q E h => ?len) (fun cdv A outer s H vs Q E hr h => ?body)
  case body =>
    have nd := sc__law_low_choice.nd
    refine ⟨_, PSs.nox (pss_cons (ps_set (i := 2) nd rfl (Or.inr rfl) (pe_ix ix_list (pe_lst (pa_cons (pe_n 0) (pa_cons (pe_n 1) (pa_cons (pe_n 1) (pa_cons (pe_n 2) (pa_cons (pe_n 1) (pa_cons (pe_n 2) (pa_cons (pe_n 3) (pa_cons (pe_n 5) pa_nil))))))))) (pe_call (ok__law_draw T) (hr.mono (by decide)) rfl (T.g__law_draw) (T.k__law_draw) (T.b__law_draw) .nil pass0 (pa_cons (pv 0) (pa_cons (pe_n 8) pa_nil))) (fun _ _ => rfl)))
      (pss_cons (ps_set (i := 3) nd rfl (Or.inl rfl) (pe_call (ok__law_choice T) (hr.mono (by decide)) rfl (T.g__law_choice) (T.k__law_choice) (T.b__law_choice) .nil pass0 (pa_cons (pv 0) (pa_cons (pv 1) pa_nil))))
      (pss_one (ps_ret (pe_lc (own := [("_law_heap", 4)]) rfl nd (pi_list (pv 3)) (blkOk_by (N := ["_law_hand_here", "_law_m", "_law_top", "_law_heaps", "_law_heap"]) (sc := defScope (top 109)) (by decide +kernel)) (fun _ _ _ _ _ => (pg_name (i := 4) nd rfl (.inl rfl))) (fun _ _ _ _ _ => (pts_one (pt_cmpR o_le (pe_call (ok__law_ones T) (hr.mono (by decide)) rfl (T.g__law_ones) (T.k__law_ones) (T.b__law_ones) .nil pass0 (pa_cons (pv 4) pa_nil)) (pe_callB (call_min2 rfl) (by rfl) (T.n_min) (by decide +kernel) (pa_cons (pv 2) (pa_cons (pv 1) pa_nil))) (nomark _)))) (fun _ _ _ _ _ => (pv 4))))))), ?_⟩
    obtain ⟨a, p, m, rfl, h5, ha, q⟩ := h
    have hm := le32 h5
    walk_at "rd"
    refine ⟨by rw [sizeLine_eq]; show 8 ≤ 16777216; omega, fun tl htl => ?_⟩
    walk_at "rd"
    have s1 : Sm H (upd H tl (.lst (nvs [0, 1, 1, 2, 1, 2, 3, 5]))) := Sm.new htl
    have e1 : upd H tl (.lst (nvs [0, 1, 1, 2, 1, 2, 3, 5])) tl = some (.lst (nvs [0, 1, 1, 2, 1, 2, 3, 5])) := upd_same
    refine ⟨a, p, 8, rfl, by decide, by decide, ha.hg (K := K) s1.hg, fun k H2 hk g2 => ?_⟩
    have nta : tl ≠ a := fun z => by
      obtain ⟨cs, i, r, t', e1, _⟩ := ha
      rw [z, e1] at htl; cases htl
    have e2 := g2.1 tl _ nta e1 (fun ⟨_, z⟩ => by cases z) fun _ z => by cases z
    obtain ⟨t, ht⟩ : ∃ t, [0, 1, 1, 2, 1, 2, 3, 5][k]? = some t := ⟨_, List.getElem?_eq_getElem hk⟩
    refine rd_ixL (j := k) (v := nv t) e2 (by rw [List.getElem?_map, ht]; rfl) ?_
    walk_at "rd"
    have g12 : Hg K a p H H2 := s1.hg.trans g2
    refine ⟨a, p, m, rfl, h5, ha.hg g12, fun l ys H3 g3 e3 hasc hlt => ?_⟩
    walk_at "rd"
    have hyl : ys.length ≤ 1000 := by
      have := asc_len ys 0 (2 ^ m) hasc fun x hx => ⟨Nat.zero_le _, hlt x hx⟩
      have := pow32 h5
      omega
    refine lc_lstJ (sqL_of e3) (line32 (by omega)) (fun h => decide (ones h ≤ if (m : Int) < (t : Int) then m else t)) nv (fun h hl H6 D6 s6 Nx n1 n2 => ?_) (fun H6 D6 s6 hD e6 => ?_)
    · walk_at "rd"
      refine ⟨h, rfl, ?_⟩
      walk_at "rd"
      refine ⟨_, _, rfl, ?_⟩
      have e : (if (m : Int) < (t : Int) then (m : Int) else (t : Int)) = ((if (m : Int) < (t : Int) then m else t : Nat) : Int) := by split <;> rfl
      rw [e]
      walk_at "rd"
      refine tdec (fun z => ?_) fun z => ?_
      · exact n1 _ Sm.refl (decide_eq_false z)
      · walk_at "rd"
        exact n2 _ Sm.refl (decide_eq_true z)
    · exact q _ _ _ (g12.trans (g3.sm s6)) e6 (List.Pairwise.filter _ hasc) fun y hy => hlt y (List.mem_filter.mp hy).1
  case len =>
    obtain ⟨a, p, m, rfl, _⟩ := h
    rfl
end
end G
set_option maxHeartbeats 4000000
-- text D28
namespace M
def dueW (m : Nat) (hs : List Nat) : Nat := if hs = [] then 0 else leastW m hs
def codeL (m : Nat) (hs : List Nat) : List Nat := hs.foldl (fun ws h => ws ++ ws.map fun w => w ^^^ lawHW m h) [0]
end M
namespace G
open PySem PySem.Spec PyProof.Rows L2 M GG
section
variable {P : Program} {w : World} {K : PySem.W.Frag} {mg : Str → Option Value} {base : Heap}
theorem dp_nvs {H : Hp} : ∀ xs : List Nat, DpAll K H (nvs xs) (xs.map fun n : Nat => PyData.int (n : Int))
  | [] => .nil
  | x :: xs => .cons (.int _) (dp_nvs xs)
theorem eqvAll_nvs : ∀ xs ys : List Nat, PyData.eqvAll (xs.map fun n : Nat => PyData.int (n : Int)) (ys.map fun n : Nat => PyData.int (n : Int)) = decide (xs = ys)
  | [], [] => rfl
  | [], _ :: _ => rfl
  | _ :: _, [] => rfl
  | x :: xs, y :: ys => by
    show (PyData.eqv (.int (x : Int)) (.int (y : Int)) && PyData.eqvAll _ _) = _
    rw [eqvAll_nvs xs ys]
    show ((x : Int) == (y : Int) && _) = _
    by_cases h : x = y
    · subst h
      simp
    · have h2 : ((x : Int) == (y : Int)) = false := by simpa using fun z : (x : Int) = y => h (by omega)
      rw [h2, Bool.false_and]
      exact (decide_eq_false fun z => h (List.cons.inj z).1).symm
theorem shaped_nvs (xs : List Nat) : PySem.SeqAt.shaped (.list (xs.map fun n : Nat => PyData.int (n : Int))) = true := by
  have := PySem.W.shaped_ints (xs.map fun n : Nat => (n : Int))
  rw [List.map_map] at this
  exact this
theorem rd_neD {l e : Addr} {xs ys : List Nat} {H : Hp} {Q : VK} (h1 : H l = some (.lst (nvs xs))) (h2 : H e = some (.lst (nvs ys))) (q : Q (.bl (!decide (xs = ys))) H) : rNeD K (.ref l) (.ref e) H Q :=
  ⟨_, _, .lst (sqL_of h1) (dp_nvs xs), .lst (sqL_of h2) (dp_nvs ys), shaped_nvs xs, shaped_nvs ys, by
    have : PyData.eqv (.list (xs.map fun n : Nat => PyData.int (n : Int))) (.list (ys.map fun n : Nat => PyData.int (n : Int))) = decide (xs = ys) := eqvAll_nvs xs ys
    rw [this]; exact q⟩
theorem rd_eqDn {l e : Addr} {xs ys : List Nat} {H : Hp} {Q : VK} (h1 : H l = some (.lst (nvs xs))) (h2 : H e = some (.lst (nvs ys))) (q : Q (.bl (decide (xs = ys))) H) : rEqD K (.ref l) (.ref e) H Q :=
  ⟨_, _, .lst (sqL_of h1) (dp_nvs xs), .lst (sqL_of h2) (dp_nvs ys), shaped_nvs xs, shaped_nvs ys, by
    have : PyData.eqv (.list (xs.map fun n : Nat => PyData.int (n : Int))) (.list (ys.map fun n : Nat => PyData.int (n : Int))) = decide (xs = ys) := eqvAll_nvs xs ys
    rw [this]; exact q⟩
def spDue : Sp := fun vs H Q _ => ∃ (m : Nat) (l : Addr) (hs : List Nat), vs = [nv m, .ref l] ∧ m ≤ 5 ∧ H l = some (.lst (nvs hs)) ∧ hs.length ≤ 1000 ∧ tops hs ≤ m ∧ ∀ H', Sm H H' → Q (nv (dueW m hs)) H'
theorem sc__law_weight_due : FnScope ["_law_m", "_law_heaps", "_law_heap"] ["_law_m", "_law_heaps"] (defScope (top 111)) := ⟨rfl, rfl, rfl, by decide +kernel, rfl, by decide +kernel, by decide +kernel⟩
theorem ok__law_weight_due (T : Txt K mg) : FnOk P w K mg base CX0 2 a_law_weight_due (fdOf K a_law_weight_due) ["_law_m", "_law_heaps"] spDue := by
  refine T.f__law_weight_due.ok sc__law_weight_due (fun vs H Q E h => ?len) (fun cdv A outer s H vs Q E hr h => ?body)
  case body =>
    have nd := sc__law_weight_due.nd
    refine ⟨_, PSs.nox (pss_one (ps_ret (pe_ifExp (pt_cmpR (op_neD (room64 hr)) (pv 1) (pe_lst pa_nil) (nomark _)) (pe_op o_shl (pe_n 1) (pe_op o_sub (pv 0) (pe_callB (cr_max rfl) (by rfl) (T.n_max) (by decide +kernel) (pa_cons (pe_lc (own := [("_law_heap", 2)]) rfl nd (pi_list (pv 1)) (blkOk_by (N := ["_law_m", "_law_heaps", "_law_heap"]) (sc := defScope (top 111)) (by decide +kernel)) (fun _ _ _ _ _ => (pg_name (i := 2) nd rfl (.inl rfl))) (fun _ _ _ _ _ => pts_nil) (fun _ _ _ _ _ => (pe_call (ok__law_ones T) (hr.mono (by decide)) rfl (T.g__law_ones) (T.k__law_ones) (T.b__law_ones) .nil pass0 (pa_cons (pv 2) pa_nil)))) pa_nil)))) (pe_n 0)))), ?_⟩
    obtain ⟨m, l, hs, rfl, h5, hl, hn, ht, q⟩ := h
    walk_at "rd"
    refine ⟨by rw [sizeLine_eq]; decide, fun e he => ?_⟩
    have s1 : Sm H (upd H e (.lst [])) := Sm.new he
    refine rd_neD (ys := []) (s1 _ _ hl) upd_same ?_
    walk_at "rd"
    refine tndec (fun z => ?_) fun z => ?_
    · walk_at "rd"
      have := q _ s1
      unfold dueW at this
      rw [if_pos z] at this
      exact this
    · walk_at "rd"
      refine lc_lstJ (sqL_of (s1 _ _ hl)) (line32 (by omega)) (fun _ => true) (fun g => nv (ones g)) (fun g hg H2 D2 s2 Nx g1 g2 => ?_) (fun H2 D2 s2 hD e2 => ?_)
      · walk_at "rd"
        refine ⟨g, rfl, ?_⟩
        exact g2 _ Sm.refl rfl
      · rw [List.filter_eq_self.mpr (fun _ _ => rfl), ← nvs_map, nvs_int] at e2
        walk_at "rd"
        refine ⟨D2, _, rfl, sqL_of e2, by rw [List.length_map, List.length_map]; exact List.length_pos_iff.mpr z, fun mx hm1 hm2 => ?_⟩
        have hmx : mx = ((tops hs : Nat) : Int) := by
          obtain ⟨x, hx, rfl⟩ := List.mem_map.mp hm1
          obtain ⟨g, hg, rfl⟩ := List.mem_map.mp hx
          obtain ⟨t, ht1, ht2⟩ := tops_mem z
          have h1 := hm2 (tops hs : Nat) (List.mem_map.mpr ⟨tops hs, List.mem_map.mpr ⟨t, ht1, ht2⟩, rfl⟩)
          have h2 := le_tops hg
          omega
        subst hmx
        refine rd_n ht ?_
        refine rd_n ⟨by omega, by omega⟩ ?_
        have := q _ (s1.trans s2)
        unfold dueW at this
        rw [if_neg z] at this
        exact this
  case len =>
    obtain ⟨m, l, hs, rfl, _⟩ := h
    rfl
theorem codeL_len (m : Nat) (hs : List Nat) : (codeL m hs).length = 2 ^ hs.length := by
  have key : ∀ (hs t : List Nat), (hs.foldl (fun ws h => ws ++ ws.map fun w => w ^^^ lawHW m h) t).length = t.length * 2 ^ hs.length := by
    intro hs
    induction hs with
    | nil => intro t; simp
    | cons l r ih =>
      intro t
      rw [List.foldl_cons, ih, List.length_append, List.length_map, List.length_cons, Nat.pow_succ, ← Nat.two_mul, Nat.mul_assoc 2, Nat.mul_comm 2, Nat.mul_assoc]
  unfold codeL
  rw [key]; simp
def spCode : Sp := fun vs H Q _ => ∃ (m : Nat) (l : Addr) (hs : List Nat), vs = [nv m, .ref l] ∧ m ≤ 5 ∧ H l = some (.lst (nvs hs)) ∧ hs.length ≤ 12 ∧ NewL H (codeL m hs) Q
theorem sc__law_code : FnScope ["_law_m", "_law_heaps", "_law_words", "_law_heap", "_law_one", "_law_word"] ["_law_m", "_law_heaps"] (defScope (top 112)) := ⟨rfl, rfl, rfl, by decide +kernel, rfl, by decide +kernel, by decide +kernel⟩
theorem ok__law_code (T : Txt K mg) : FnOk P w K mg base CX0 2 a_law_code (fdOf K a_law_code) ["_law_m", "_law_heaps"] spCode := by
  refine T.f__law_code.ok sc__law_code (fun vs H Q E h => ?len) (fun cdv A outer s H vs Q E hr h => ?body)
  case body =>
    have nd := sc__law_code.nd
    refine ⟨_, PSs.nox (pss_cons (ps_set (i := 2) nd rfl (Or.inl rfl) (pe_lst (pa_cons (pe_n 0) pa_nil)))
      (pss_cons (ps_for PassesOwn.never rfl (pi_list (pv 1)) (pg_name (i := 3) nd rfl (.inl rfl)) (pss_cons (ps_set (i := 4) nd rfl (Or.inr rfl) (pe_call (ok__law_heap_word T) (hr.mono (by decide)) rfl (T.g__law_heap_word) (T.k__law_heap_word) (T.b__law_heap_word) .nil pass0 (pa_cons (pv 0) (pa_cons (pv 3) pa_nil))))
      (pss_one (ps_set (i := 2) nd rfl (Or.inl rfl) (pe_op op_cat (pv 2) (pe_lc (own := [("_law_word", 5)]) rfl nd (pi_list (pv 2)) (blkOk_by (N := ["_law_m", "_law_heaps", "_law_words", "_law_heap", "_law_one", "_law_word"]) (sc := defScope (top 112)) (by decide +kernel)) (fun _ _ _ _ _ => (pg_name (i := 5) nd rfl (.inl rfl))) (fun _ _ _ _ _ => pts_nil) (fun _ _ _ _ _ => (pe_op o_xor (pv 5) (pv 4)))))))))
      (pss_one (ps_ret (pv 2))))), ?_⟩
    obtain ⟨m, l, hs, rfl, h5, hl, h12, q⟩ := h
    walk_at "rd"
    refine ⟨by rw [sizeLine_eq]; decide, fun ta hta => ?_⟩
    walk_at "rd"
    refine ⟨l, rfl, ⟨_, sqL_of (Sm.new hta _ _ hl)⟩, for_list (fun i σ' H' => Sm H H' ∧ ∃ t v1 v2 v3, H' t = some (.lst (nvs (codeL m (hs.take i)))) ∧ σ' = [some (nv m), some (.ref l), some (.ref t), v1, v2, v3]) ⟨Sm.new hta, ta, _, _, _, upd_same, rfl⟩ (fun i σ' H' _ p => p.1.sqL (sqL_of hl)) (fun i x σ' H' hxi p => ?_) (fun σ' H' p => ?_)⟩
    · obtain ⟨s2, t, v1, v2, v3, et, rfl⟩ := p
      obtain ⟨g, hg, rfl⟩ := mem_nvs hxi
      have hlen : (codeL m (hs.take i)).length ≤ 4096 := by
        rw [codeL_len]
        have h6 : (hs.take i).length ≤ 12 := by rw [List.length_take]; omega
        exact Nat.le_trans (Nat.pow_le_pow_right (n := 2) (by decide) h6) (by decide)
      walk_at "rd"
      refine ⟨m, g, rfl, h5, ?_⟩
      walk_at "rd"
      refine lc_lstJ (sqL_of et) (line32 (by omega)) (fun _ => true) (fun o => nv (o ^^^ lawHW m g)) (fun o ho H4 D4 s4 Nx g1 g2 => ?_) (fun H4 D4 s4 hD e => ?_)
      · walk_at "rd"
        exact g2 _ Sm.refl rfl
      · rw [List.filter_eq_self.mpr (fun _ _ => rfl), ← nvs_map] at e
        have hs' : codeL m (hs.take (i + 1)) = codeL m (hs.take i) ++ (codeL m (hs.take i)).map fun o => o ^^^ lawHW m g := by
          unfold codeL
          rw [take_at hg, List.foldl_append]
          rfl
        rw [hs']
        refine ⟨t, D4, _, _, rfl, rfl, s4 _ _ et, e, by rw [List.length_map, List.length_map, List.length_map, sizeLine_eq]; omega, fun p hp => ?_⟩
        walk_at "rd"
        refine ⟨(s2.trans s4).trans (Sm.new hp), p, _, _, _, ?_, rfl⟩
        rw [upd_same, nvs_append]
    · obtain ⟨s2, t, v1, v2, v3, et, rfl⟩ := p
      rw [List.length_map, List.take_length] at et
      walk_at "rd"
      exact q _ _ s2 et
  case len =>
    obtain ⟨m, l, hs, rfl, _⟩ := h
    rfl
end
end G
set_option maxHeartbeats 4000000
-- text D29
namespace G
open PySem PySem.Spec PyProof.Rows L2 M GG
section
variable {P : Program} {w : World} {K : PySem.W.Frag} {mg : Str → Option Value} {base : Heap}
theorem cutV_suf (xs : List Nat) (lo : Nat) : cutV (nvs xs) (some (lo : Int)) none = nvs (xs.drop lo) := by
  unfold cutV nvs
  rw [HT.sIx_none, sIx_min, List.length_map, ← List.map_drop, ← List.map_take]
  congr 1
  by_cases z : lo ≤ xs.length
  · rw [Nat.min_eq_left z]
    exact List.take_of_length_le (by rw [List.length_drop]; exact Nat.le_refl _)
  · have z2 : xs.length ≤ lo := by omega
    rw [Nat.min_eq_right z2, List.drop_eq_nil_of_le (Nat.le_refl _), List.drop_eq_nil_of_le z2, List.take_nil]
theorem rd_slLs {H : Hp} {Q : VK} {t : Addr} {xs : List Nat} {lo : Nat} (e : H t = some (.lst (nvs xs))) (q : ∀ p, H p = none → Q (.ref p) (upd H p (.lst (nvs (xs.drop lo))))) : rSlL K (.ref t) (some (lo : Int)) none H Q :=
  ⟨t, nvs xs, rfl, sqL_of e, fun p hp => by rw [cutV_suf]; exact q p hp⟩
theorem rd_slLp {H : Hp} {Q : VK} {t : Addr} {xs : List Nat} {hi : Nat} (e : H t = some (.lst (nvs xs))) (q : ∀ p, H p = none → Q (.ref p) (upd H p (.lst (nvs (xs.take hi))))) : rSlL K (.ref t) none (some (hi : Int)) H Q :=
  ⟨t, nvs xs, rfl, sqL_of e, fun p hp => by rw [cutV_pre]; exact q p hp⟩
/-- a list that stands keeps over a draw -/
theorem Hg.lst {a p l : Addr} {H H' : Hp} {xs : List V} (g : Hg K a p H H') (n : l ≠ a) (e : H l = some (.lst xs)) : H' l = some (.lst xs) := g.1 l _ n e (fun ⟨_, z⟩ => by cases z) fun _ z => by cases z
theorem Hg.tup {a p l : Addr} {H H' : Hp} {xs : List V} (ha : HandAt H a p) (g : Hg K a p H H') (e : H l = some (.tup xs)) : H' l = some (.tup xs) := g.1 l _ (fun z => by obtain ⟨cs, i, r, t, e1, _⟩ := ha; rw [z, e1] at e; cases e) e (fun ⟨_, z⟩ => by cases z) fun _ z => by cases z
theorem ne_hand {a p l : Addr} {H : Hp} {xs : List Nat} (ha : HandAt H a p) (e : H l = some (.lst (nvs xs))) : l ≠ a := fun z => by
  obtain ⟨cs, i, r, t', e1, _⟩ := ha
  rw [z, e1] at e
  have e5 := HO.lst.inj (Option.some.inj e)
  cases xs with
  | nil => cases e5
  | cons y ys => cases e5
theorem Hg.nl {a p l : Addr} {H H' : Hp} {xs : List Nat} (ha : HandAt H a p) (g : Hg K a p H H') (e : H l = some (.lst (nvs xs))) : H' l = some (.lst (nvs xs)) := g.lst (ne_hand ha e) e
theorem Hg.ch {a p c : Addr} {m : Nat} {hs : List Nat} {H H' : Hp} (ha : HandAt H a p) (g : Hg K a p H H') (hc : ChAt H c m hs) : ChAt H' c m hs := by
  obtain ⟨h0, dx, t, e1, e2⟩ := hc
  refine ⟨h0, dx, t, g.1 c _ (fun z => by obtain ⟨cs, i, r, t, e, _⟩ := ha; rw [z, e] at e1; cases e1) e1 (fun ⟨_, z⟩ => by cases z) (fun _ z => by cases z), g.tup ha e2⟩
/-- a list of its own changes: new since H1 -/
theorem Hg.put2 {a p D : Addr} {H0 H1 H : Hp} {xs ys : List V} (g : Hg K a p H0 H) (g1 : Hg K a p H0 H1) (hD : H1 D = none) (ha : HandAt H1 a p) (e : H D = some (.lst xs)) : Hg K a p H0 (upd H D (.lst ys)) := by
  obtain ⟨cs', i', r', t', f1, f2, _⟩ := ha
  have na : a ≠ D := ne_of_none f1 hD
  have np : p ≠ D := ne_of_none f2 hD
  refine ⟨fun b o n q n1 n2 => ?_, fun t => tabs_upd (g.2.1 t) e, fun h => ?_⟩
  · have nb : b ≠ D := fun z => by
      have := g1.1 b o n q n1 n2
      rw [z, hD] at this; cases this
    rw [upd_ne nb]
    exact g.1 b o n q n1 n2
  · obtain ⟨cs, i, r, t, e1, e2, h1, h2, h3, h4⟩ := g.2.2 h
    exact ⟨cs, i, r, t, by rw [upd_ne na]; exact e1, by rw [upd_ne np]; exact e2, h1, h2, h3, h4⟩
/-- a choice is made -/
theorem rd_mkCh {H : Hp} {Q : Addr → Hp → Prop} {E : XK} {l : Addr} {m : Nat} {xs ys : List Nat} (h1 : 1 ≤ m) (h5 : m ≤ 5) (hl : H l = some (.lst (nvs xs)) ∨ H l = some (.tup (nvs xs))) (hx : ∀ x ∈ xs, x < 2 ^ m) (hn : xs.length ≤ 1000) (hasc : Asc ys) (hm : ∀ y, y ∈ ys ↔ y ∈ xs)
    (q : ∀ x H2, Sm H H2 → ChAt H2 x m ys → Q x H2) : ∀ x dx, H x = none → H dx = none → dx ≠ x → spChoice [.ref x, nv m, .ref l] (upd (upd H dx (.own x)) x (.ins c_Choice dx [])) (fun v H2 => v = .non ∧ Q x H2) E := by
  intro x dx hx0 hdx hne
  have s1 : Sm H (upd (upd H dx (.own x)) x (.ins c_Choice dx [])) := (Sm.new hdx).upd hx0
  refine ⟨x, dx, l, m, xs, ys, rfl, upd_same, h1, h5, hl.imp (s1 _ _) (s1 _ _), hx, hn, hasc, hm, fun t H' k e1 e2 => ⟨rfl, q x H' (fun b o e => k b o (fun z => by rw [z, hx0] at e; cases e) (s1 b o e)) ⟨⟨h1, h5, hasc, fun y hy => hx y ((hm y).mp hy)⟩, dx, t, e1, e2⟩⟩⟩
def spMade (K : PySem.W.Frag) : Sp := fun vs H Q _ => ∃ (a p l : Addr) (m : Nat) (hs : List Nat), vs = [.ref a, nv m, .ref l] ∧ 1 ≤ m ∧ m ≤ 5 ∧ HandAt H a p ∧ H l = some (.lst (nvs hs)) ∧ Asc hs ∧ (∀ h ∈ hs, h < 2 ^ m) ∧ ∀ c H', Hg K a p H H' → ChAt H' c m hs → Q (.ref c) H'
theorem sc__law_made_choice : FnScope ["_law_hand_here", "_law_m", "_law_heaps", "_law_turned", "_law_row"] ["_law_hand_here", "_law_m", "_law_heaps"] (defScope (top 110)) := ⟨rfl, rfl, rfl, by decide +kernel, rfl, by decide +kernel, by decide +kernel⟩
theorem ok__law_made_choice (T : Txt K mg) : FnOk P w K mg base CX0 7 a_law_made_choice (fdOf K a_law_made_choice) ["_law_hand_here", "_law_m", "_law_heaps"] (spMade K) := by
  refine T.f__law_made_choice.ok sc__law_made_choice (fun vs H Q E h => ?len) (fun cdv A outer s H vs Q E hr h => ?body)
  case body =>
    have nd := sc__law_made_choice.nd
    refine ⟨_, PSs.nox (pss_cons (ps_set (i := 3) nd rfl (Or.inl rfl) (pe_call (ok__law_draw T) (hr.mono (by decide)) rfl (T.g__law_draw) (T.k__law_draw) (T.b__law_draw) .nil pass0 (pa_cons (pv 0) (pa_cons (pe_op o_add (pe_callB (call_len) (by rfl) (T.n_len) (by decide +kernel) (pa_cons (pv 2) pa_nil)) (pe_n 1)) pa_nil))))
      (pss_cons (ps_set (i := 4) nd rfl (Or.inl rfl) (pe_op op_cat (pe_slice sl_list (pv 2) (po_some (pv 3)) po_none) (pe_slice sl_list (pv 2) po_none (po_some (pv 3)))))
      (pss_cons (ps_if (PW.pt (pw_and (pt_cmpR (op_neD (room64 hr)) (pv 2) (pe_lst pa_nil) (nomark _)) (pw_and1 (pt_cmpR o_eq (pe_call (ok__law_draw T) (hr.mono (by decide)) rfl (T.g__law_draw) (T.k__law_draw) (T.b__law_draw) .nil pass0 (pa_cons (pv 0) (pa_cons (pe_n 2) pa_nil))) (pe_n 0) (nomark _))))) (pss_one (ps_expr (pe_bm PySem.F.plainAttrs_list PySem.F.slot_list_append PySem.F.type_list_append mt_append (pv 4) (pa_cons (pe_ix ix_list (pv 4) (pe_call (ok__law_draw T) (hr.mono (by decide)) rfl (T.g__law_draw) (T.k__law_draw) (T.b__law_draw) .nil pass0 (pa_cons (pv 0) (pa_cons (pe_callB (call_len) (by rfl) (T.n_len) (by decide +kernel) (pa_cons (pv 4) pa_nil)) pa_nil))) (fun _ _ => rfl)) pa_nil)))) pss_nil)
      (pss_one (ps_ret (pe_make (T.mk_Choice) (ok_Choice T) (hr.mono (by decide)) rfl (T.g_Choice) (T.b_Choice) .nil pass0 (pa_cons (pv 1) (pa_cons (pe_ifExp (pt_cmpR o_eq (pe_call (ok__law_draw T) (hr.mono (by decide)) rfl (T.g__law_draw) (T.k__law_draw) (T.b__law_draw) .nil pass0 (pa_cons (pv 0) (pa_cons (pe_n 2) pa_nil))) (pe_n 0) (nomark _)) (pv 4) (pe_callTy (call_tuple_of) (by rfl) (T.n_tuple) (by decide +kernel) (pa_cons (pv 4) pa_nil))) pa_nil)))))))), ?_⟩
    obtain ⟨a, p, l, m, hs, rfl, h1, h5, ha, hl, hasc, hlt, q⟩ := h
    have hlen : hs.length ≤ 32 := by
      have := asc_len hs 0 (2 ^ m) hasc fun x hx => ⟨Nat.zero_le _, hlt x hx⟩
      have := pow32 h5
      omega
    walk_at "rd"
    refine ⟨_, _, rfl, .inl ⟨_, sqL_of hl, rfl⟩, ?_⟩
    rw [List.length_map]
    walk_at "rd"
    refine ⟨a, p, hs.length + 1, rfl, by omega, by omega, ha, fun k H1 hk g1 => ?_⟩
    have ha1 := ha.hg g1
    have hl1 := g1.nl ha hl
    walk_at "rd"
    refine rd_sl ?_
    walk_at "rd"
    refine rd_part ?_
    walk_at "rd"
    refine ⟨_, rfl, ?_⟩
    refine rd_nopart ?_
    refine rd_slLs hl1 fun p1 hp1 => ?_
    refine rd_sl ?_
    walk_at "rd"
    refine rd_nopart ?_
    refine rd_part ?_
    walk_at "rd"
    refine ⟨_, rfl, ?_⟩
    have s2 : Sm H1 (upd H1 p1 (.lst (nvs (hs.drop k)))) := Sm.new hp1
    refine rd_slLp (s2 _ _ hl1) fun p2 hp2 => ?_
    have s3 := Sm.new (o := .lst (nvs (hs.take k))) hp2
    refine ⟨p1, p2, _, _, rfl, rfl, s3 _ _ upd_same, upd_same, by rw [List.length_map, List.length_map, List.length_drop, List.length_take, sizeLine_eq]; omega, fun p3 hp3 => ?_⟩
    rw [← nvs_append]
    have s4 := Sm.new (o := .lst (nvs (hs.drop k ++ hs.take k))) hp3
    have s14 := s2.trans (s3.trans s4)
    have e3 : ∀ {H H' : Hp}, True := trivial
    have er : upd (upd (upd H1 p1 (.lst (nvs (hs.drop k)))) p2 (.lst (nvs (hs.take k)))) p3 (.lst (nvs (hs.drop k ++ hs.take k))) p3 = some (.lst (nvs (hs.drop k ++ hs.take k))) := upd_same
    have g4 : Hg K a p H _ := g1.sm s14
    have hp31 : H1 p3 = none := (s2.trans s3).none hp3
    have hl4 := s14 _ _ hl1
    generalize upd (upd (upd H1 p1 (.lst (nvs (hs.drop k)))) p2 (.lst (nvs (hs.take k)))) p3 (.lst (nvs (hs.drop k ++ hs.take k))) = H4 at er g4 hl4
    have hmem : ∀ y, y ∈ hs ↔ y ∈ hs.drop k ++ hs.take k := fun y => by
      rw [List.mem_append]
      constructor
      · intro h
        rw [← List.take_append_drop k hs, List.mem_append] at h
        exact h.symm
      · rintro (h | h)
        · exact List.mem_of_mem_drop h
        · exact List.mem_of_mem_take h
    have hrl : (hs.drop k ++ hs.take k).length = hs.length := by rw [List.length_append, List.length_drop, List.length_take]; omega
    generalize hs.drop k ++ hs.take k = row at er hmem hrl
    have ha4 := ha.hg g4
    walk_at "rd"
    refine ⟨by rw [sizeLine_eq]; decide, fun e he => ?_⟩
    have s5 := Sm.new (o := .lst []) he
    refine rd_neD (ys := []) (s5 _ _ hl4) upd_same ?_
    have g5 := g4.sm s5
    have ha5 := ha.hg g5
    have er5 := s5 _ _ er
    generalize upd H4 e (.lst []) = H5 at er5 g5 ha5
    walk_at "rd"
    refine tndec (fun z0 => ?_) fun z0 => ?_
    · walk_at "rd"
      refine ⟨a, p, 2, rfl, by decide, by decide, ha5, fun k2 H6 hk2 g6 => ?_⟩
      have e6 := g6.nl ha5 er5
      walk_at "rd"
      refine tdec (fun z => ?_) fun z => ?_
      · walk_at "rd"
        refine rd_tupL2 e6 fun t ht => ?_
        walk_at "rd"
        refine rd_mkCh h1 h5 (.inr upd_same) (fun x hx => hlt x ((hmem x).mpr hx)) (by omega) hasc hmem fun c H8 s8 hc8 => ?_
        exact q c H8 (((g5).trans g6).sm ((Sm.new ht).trans s8)) hc8
      · walk_at "rd"
        refine rd_mkCh h1 h5 (.inl e6) (fun x hx => hlt x ((hmem x).mpr hx)) (by omega) hasc hmem fun c H8 s8 hc8 => ?_
        exact q c H8 (((g5).trans g6).sm s8) hc8
    · walk_at "rd"
      refine ⟨a, p, 2, rfl, by decide, by decide, ha5, fun k3 H7 hk3 g7 => ?_⟩
      have ha7 := ha5.hg g7
      have e7 := g7.nl ha5 er5
      have g57 := g5.trans g7
      walk_at "rd"
      refine tdec (fun z => ?_) fun z => ?_
      · walk_at "rd"
        refine ⟨a, p, 2, rfl, by decide, by decide, ha7, fun k2 H6 hk2 g6 => ?_⟩
        have e6 := g6.nl ha7 e7
        walk_at "rd"
        refine tdec (fun z => ?_) fun z => ?_
        · walk_at "rd"
          refine rd_tupL2 e6 fun t ht => ?_
          walk_at "rd"
          refine rd_mkCh h1 h5 (.inr upd_same) (fun x hx => hlt x ((hmem x).mpr hx)) (by omega) hasc hmem fun c H8 s8 hc8 => ?_
          exact q c H8 (((g57).trans g6).sm ((Sm.new ht).trans s8)) hc8
        · walk_at "rd"
          refine rd_mkCh h1 h5 (.inl e6) (fun x hx => hlt x ((hmem x).mpr hx)) (by omega) hasc hmem fun c H8 s8 hc8 => ?_
          exact q c H8 (((g57).trans g6).sm s8) hc8
      · walk_at "rd"
        refine rd_bm ?_
        walk_at "rd"
        refine ⟨.inl ⟨rfl, _, sqL_of e7⟩, ?_⟩
        walk_at "rd"
        refine ⟨_, _, rfl, .inl ⟨_, sqL_of e7, rfl⟩, ?_⟩
        rw [List.length_map]
        walk_at "rd"
        refine ⟨a, p, row.length, rfl, by have := List.length_pos_iff.mpr z0; omega, by omega, ha7, fun j H9 hj g9 => ?_⟩
        have ha9 := ha7.hg g9
        have e9 := g9.nl ha7 e7
        obtain ⟨x, hx⟩ : ∃ x, row[j]? = some x := ⟨_, List.getElem?_eq_getElem hj⟩
        refine rd_ixL (j := j) (v := nv x) e9 (by rw [List.getElem?_map, hx]; rfl) ?_
        walk_at "rd"
        refine ⟨p3, _, _, rfl, rfl, e9, by rw [List.length_map, sizeLine_eq]; omega, ?_⟩
        have g10 : Hg K a p H (upd H9 p3 (.lst (nvs row ++ [nv x]))) := (g57.trans g9).put2 g1 hp31 ha1 e9
        have hrow2 : (row ++ [x]).length ≤ 1000 := by rw [List.length_append, hrl]; show hs.length + 1 ≤ 1000; omega
        have hmem2 : ∀ y, y ∈ hs ↔ y ∈ row ++ [x] := fun y => by
          rw [List.mem_append, List.mem_singleton, hmem y]
          exact ⟨.inl, fun h => h.elim id fun h => h ▸ List.mem_of_getElem? hx⟩
        have er10 : upd H9 p3 (.lst (nvs row ++ [nv x])) p3 = some (.lst (nvs (row ++ [x]))) := by rw [upd_same, nvs_append]; rfl
        have ha10 := ha.hg g10
        walk_at "rd"
        refine ⟨a, p, 2, rfl, by decide, by decide, ha10, fun k2 H6 hk2 g6 => ?_⟩
        have e6 := g6.nl ha10 er10
        walk_at "rd"
        refine tdec (fun z => ?_) fun z => ?_
        · walk_at "rd"
          refine rd_tupL2 e6 fun t ht => ?_
          walk_at "rd"
          refine rd_mkCh h1 h5 (.inr upd_same) (fun x hx => hlt x ((hmem2 x).mpr hx)) (by omega) hasc hmem2 fun c H8 s8 hc8 => ?_
          exact q c H8 (((g10).trans g6).sm ((Sm.new ht).trans s8)) hc8
        · walk_at "rd"
          refine rd_mkCh h1 h5 (.inl e6) (fun x hx => hlt x ((hmem2 x).mpr hx)) (by omega) hasc hmem2 fun c H8 s8 hc8 => ?_
          exact q c H8 (((g10).trans g6).sm s8) hc8
  case len =>
    obtain ⟨a, p, l, m, hs, rfl, _⟩ := h
    rfl
end
end G
set_option maxHeartbeats 4000000
-- text D30
namespace G
open PySem PySem.Spec PyProof.Rows L2 M GG
section
variable {P : Program} {w : World} {K : PySem.W.Frag} {mg : Str → Option Value} {base : Heap}
theorem seqIx {n k : Nat} (h : k < n) : seqIndex? (k : Int) n = some k :=
  (ixN_seq (n := n) (i := (k : Int)) (j := k) (by unfold ixN; rw [if_pos (by omega), if_pos (by omega)]; rfl)).1
theorem map_erase {α β : Type} (f : α → β) : ∀ (l : List α) (k : Nat), (l.map f).eraseIdx k = (l.eraseIdx k).map f
  | [], _ => rfl
  | _ :: _, 0 => rfl
  | x :: l, k + 1 => by
    show f x :: (l.map f).eraseIdx k = f x :: (l.eraseIdx k).map f
    rw [map_erase f l k]
theorem erase_perm {α : Type} : ∀ (l : List α) (k : Nat) (x : α), l[k]? = some x → (x :: l.eraseIdx k).Perm l
  | [], _, _, h => by cases h
  | y :: l, 0, x, h => by
    cases h
    exact List.Perm.refl _
  | y :: l, k + 1, x, h => by
    have ih := erase_perm l k x h
    exact (List.Perm.swap y x (l.eraseIdx k)).trans (ih.cons y)
def spSpots (K : PySem.W.Frag) : Sp := fun vs H Q _ => ∃ (a p : Addr) (m n : Nat), vs = [.ref a, nv m, nv n] ∧ m ≤ 5 ∧ n ≤ 1 <<< m ∧ HandAt H a p ∧ ∀ l ys H', Hg K a p H H' → H' l = some (.lst (nvs ys)) → Asc ys → (∀ y ∈ ys, y < 2 ^ m) → ys.length = n → Q (.ref l) H'
theorem sc__law_spots : FnScope ["_law_hand_here", "_law_m", "_law_many", "_law_left", "_law_found", "_law_k", "_law_place"] ["_law_hand_here", "_law_m", "_law_many"] (defScope (top 106)) := ⟨rfl, rfl, rfl, by decide +kernel, rfl, by decide +kernel, by decide +kernel⟩
theorem ok__law_spots (T : Txt K mg) : FnOk P w K mg base CX0 3 a_law_spots (fdOf K a_law_spots) ["_law_hand_here", "_law_m", "_law_many"] (spSpots K) := by
  refine T.f__law_spots.ok sc__law_spots (fun vs H Q E h => ?len) (fun cdv A outer s H vs Q E hr h => ?body)
  case body =>
    have nd := sc__law_spots.nd
    refine ⟨_, PSs.nox (pss_cons (ps_setLc (i := 3) (own := [("_law_place", 6)]) rfl nd rfl rfl (sw_true rfl rfl rfl (by decide +kernel)) (pi_range1 rfl (T.n_range) (pa_cons (pe_op o_shl (pe_n 1) (pv 1)) pa_nil)) (blkOk_by (N := ["_law_hand_here", "_law_m", "_law_many", "_law_left", "_law_found", "_law_k", "_law_place"]) (sc := defScope (top 106)) (by decide +kernel)) (fun _ _ _ _ _ => (pg_name (i := 6) nd rfl (.inl rfl))) (fun _ _ _ _ _ => pts_nil) (fun _ _ _ _ _ => (pv 6)))
      (pss_cons (ps_set (i := 4) nd rfl (Or.inl rfl) (pe_lst pa_nil))
      (pss_cons (ps_for PassesOwn.never rfl (pi_range1 rfl (T.n_range) (pa_cons (pv 2) pa_nil)) (pg_name (i := 5) nd rfl (.inl rfl)) (pss_one (ps_expr (pe_bm PySem.F.plainAttrs_list PySem.F.slot_list_append PySem.F.type_list_append mt_append (pv 4) (pa_cons (pe_bm PySem.F.plainAttrs_list PySem.F.slot_list_pop PySem.F.type_list_pop mt_popAt (pv 3) (pa_cons (pe_call (ok__law_draw T) (hr.mono (by decide)) rfl (T.g__law_draw) (T.k__law_draw) (T.b__law_draw) .nil pass0 (pa_cons (pv 0) (pa_cons (pe_callB (call_len) (by rfl) (T.n_len) (by decide +kernel) (pa_cons (pv 3) pa_nil)) pa_nil))) pa_nil)) pa_nil)))))
      (pss_one (ps_ret (pe_callB (cr_sortedI) (by rfl) (T.n_sorted) (by decide +kernel) (pa_cons (pv 4) pa_nil))))))), ?_⟩
    obtain ⟨a, p, m, n, rfl, h5, hn, ha, q⟩ := h
    have hm := le32 h5
    walk_at "rd"
    refine rd_n ⟨by omega, by omega⟩ ?_
    walk_at "rd"
    refine lc_rngJ (n := 1 <<< m) (line32 (by omega)) (fun _ => true) nv (fun f hf H2 D2 s2 Nx g1 g2 => ?_) (fun H2 lf s2 hD e => ?_)
    · walk_at "rd"
      exact g2 _ Sm.refl rfl
    · rw [List.filter_eq_self.mpr (fun _ _ => rfl)] at e
      walk_at "rd"
      refine ⟨by rw [sizeLine_eq]; decide, fun fo hfo => ?_⟩
      have nlf : lf ≠ fo := fun z => by rw [z, hfo] at e; cases e
      have hfoH : H fo = none := s2.none hfo
      walk_at "rd"
      refine for_rngJ (n := n) (by omega) (fun i σ' H' => Hg K a p H H' ∧ (∃ ls fs : List Nat, H' lf = some (.lst (nvs ls)) ∧ H' fo = some (.lst (nvs fs)) ∧ fs.length = i ∧ ls.length + i = 1 <<< m ∧ (fs ++ ls).Perm (List.range (1 <<< m))) ∧ ∃ v6 v7, σ' = [some (.ref a), some (nv m), some (nv n), some (.ref lf), some (.ref fo), v6, v7]) ⟨(s2.trans (Sm.new hfo)).hg, ⟨List.range (1 <<< m), [], by rw [upd_ne nlf]; exact e, upd_same, rfl, by rw [List.length_range]; rfl, List.Perm.refl _⟩, _, _, rfl⟩ (fun i σ' H' hi p => ?_) (fun σ' H' p => ?_)
      · obtain ⟨g3, ⟨ls, fs, el, ef, hfl, hll, hperm⟩, v6, v7, rfl⟩ := p
        have ha3 := ha.hg g3
        walk_at "rd"
        refine rd_bm ?_
        walk_at "rd"
        refine ⟨.inl ⟨rfl, _, sqL_of ef⟩, ?_⟩
        walk_at "rd"
        refine rd_bm ?_
        walk_at "rd"
        refine ⟨.inl ⟨rfl, _, sqL_of el⟩, ?_⟩
        walk_at "rd"
        refine ⟨_, _, rfl, .inl ⟨_, sqL_of el, rfl⟩, ?_⟩
        rw [List.length_map]
        walk_at "rd"
        refine ⟨a, p, ls.length, rfl, by omega, by omega, ha3, fun k H5 hk g5 => ?_⟩
        have ha5 := ha3.hg g5
        have el5 := g5.nl ha3 el
        have ef5 := g5.nl ha3 ef
        obtain ⟨x, hx⟩ : ∃ x, ls[k]? = some x := ⟨_, List.getElem?_eq_getElem hk⟩
        walk_at "rd"
        refine ⟨lf, _, _, k, nv x, rfl, rfl, el5, by omega, by omega, (by rw [List.length_map]; exact seqIx hk), by rw [List.getElem?_map, hx]; rfl, ?_⟩
        have e1 : (nvs ls).eraseIdx k = nvs (ls.eraseIdx k) := map_erase _ _ _
        rw [e1]
        walk_at "rd"
        have ef6 : upd H5 lf (.lst (nvs (ls.eraseIdx k))) fo = some (.lst (nvs fs)) := by rw [upd_ne (Ne.symm nlf)]; exact ef5
        refine ⟨fo, _, _, rfl, rfl, ef6, by rw [List.length_map, sizeLine_eq]; omega, ?_⟩
        have g35 := g3.trans g5
        have g6 : Hg K a p H (upd H5 lf (.lst (nvs (ls.eraseIdx k)))) := g35.put hD ha el5
        have g7 : Hg K a p H (upd (upd H5 lf (.lst (nvs (ls.eraseIdx k)))) fo (.lst (nvs fs ++ [nv x]))) := g6.put hfoH ha ef6
        refine ⟨g7, ⟨ls.eraseIdx k, fs ++ [x], by rw [upd_ne nlf, upd_same], by rw [upd_same, nvs_append]; rfl, by rw [List.length_append, hfl]; rfl, ?_, ?_⟩, _, _, rfl⟩
        · rw [List.length_eraseIdx_of_lt hk]; omega
        · refine List.Perm.trans ?_ hperm
          rw [List.append_assoc]
          refine List.Perm.append_left _ ?_
          exact erase_perm ls k x hx
      · obtain ⟨g3, ⟨ls, fs, el, ef, hfl, hll, hperm⟩, v6, v7, rfl⟩ := p
        have ef5 := ef
        rw [nvs_int] at ef5
        walk_at "rd"
        refine ⟨fo, _, rfl, sqL_of ef5, fun ns p hp hs' hn => ?_⟩
        obtain ⟨ys, rfl, hp1, hp2⟩ := perm_cast hp hs'
        rw [← nvs_int]
        have hmem : ∀ y ∈ fs, y < 2 ^ m := fun y hy => by
          have := List.mem_range.mp (hperm.mem_iff.mp (List.mem_append_left _ hy))
          rw [shl_one] at this; exact this
        have hnd : fs.Nodup := ((hperm.nodup_iff.mpr List.nodup_range).sublist (List.sublist_append_left _ _))
        have hnd2 : ys.Nodup := hp1.nodup_iff.mpr hnd
        refine q p ys _ (g3.sm (Sm.new hn)) upd_same ?_ (fun y hy => hmem y (hp1.mem_iff.mp hy)) (by rw [hp1.length_eq]; exact hfl)
        exact (hp2.and hnd2).imp fun ⟨h1, h2⟩ => by omega
  case len =>
    obtain ⟨a, p, m, n, rfl, _⟩ := h
    rfl
end
end G
set_option maxHeartbeats 4000000
-- text G1
namespace G
open PySem PySem.Spec PyProof.Rows L2 M GG
/-! ### defs that show lists: the guards are told -/
structure FnOkG (P : Program) (w : World) (K : PySem.W.Frag) (mg : Str → Option Value) (base : Heap) (CX : CXT) (k : Nat) (f : Addr) (fd : FuncData) (ps : List Str) (sp : Sp) : Prop where
  len : ∀ vs H Q E, sp vs H Q E → vs.length = ps.length
  run : ∀ (A : Around) (outer : List Env) (s : Shared) (H : Hp) (args : Args) (us : List Value) (vs : List V) (Q : VK) (E : XK), Room k A → A.guards = some [] → Env0 P w K mg base A outer s H → BindsTo s fd args (ps.zip us) → Vals vs us → sp vs H Q E →
    codeAny (model P w) A (.call (.ref f) args) (CR CX outer P w H s Q E) s
section
variable {P : Program} {w : World} {K : PySem.W.Frag} {mg : Str → Option Value} {base : Heap}
theorem funD_okG {CX : CXT} {x qual : Str} {params : Arguments} {body : List Stmt} {scope : Scope} {dvs : List V} {kws : List (Str × V)} {f : Addr} {fd : FuncData} {N ps : List Str} {k : Nat} {sp : Sp} (F : FunD K x qual params body scope dvs kws f fd) (S : FnScope N ps scope) (len : ∀ vs H Q E, sp vs H Q E → vs.length = ps.length)
    (hbody : ∀ (c : Addr), (∀ p : He.Defn, He.fAd K p = f → (He.cT K p).1 = c) → ∀ (A : Around) (outer : List Env) (s : Shared) (H : Hp) (vs : List V) (Q : VK) (E : XK), Room k (A.deeper (envOfC qual scope s.heap.objs.size f (.ref c))) → A.guards = some [] → sp vs H Q E →
      ∃ t, PSs (cxOf CX P w K mg base N qual scope f (.ref c) A outer s H E) body t ∧ t { nx := fun _ H' => Q .non H', rt := Q } (start N vs) H) : FnOkG P w K mg base CX (k + 1) f fd ps sp := by
  obtain ⟨oc, od, dV, kV, doc, pm, an, cdv, ct, osl, rfl, lk, hcd, _, _⟩ := F.ex
  obtain ⟨c, rfl⟩ := He.codeIn_ref hcd
  refine ⟨len, fun A outer s H args us vs Q E hr hg e0 hb r h => ?_⟩
  exact LamX.run_ofS lk hcd S hr e0 hb r (len _ _ _ _ h) fun hr2 => hbody c (fun p e => He.codeOf_eq (by rw [e]; exact lk) rfl) A outer s H vs Q E hr2 hg h
end
section
variable {X : Cx} {CX : CXT} {k : Nat} {f : Addr} {fd : FuncData} {ps : List Str} {sp : Sp} {E : XK} {x : Str} {p pos : Pos} {e : Expr} {es : List Expr} {ta : TE} {t : TA} {ds : List Value} {dvs : List V}
theorem run_fnG {pins : List (Addr × Obj)} {σ : L2.St} {H : Hp} {s : Shared} {Q : VK} {us : List Value} {vs : List V} (F : FnOkG X.prog X.w X.K X.mg X.base CX k f fd ps sp) (hr : Room k X.A) (hgu : X.A.guards = some []) (hb : Binds X.K fd ps ds) (hd : Vals dvs ds) (hx : Passes CX X E)
    (I : Inv X pins σ H s) (r : Vals vs us) (h : sp (vs ++ dvs) H Q E) : wpAny (model X.prog X.w) X.A (call (.ref f) us) (EP X pins σ Q) X.xe s := by
  have r2 : Vals (vs ++ dvs) (us ++ ds) := r.append hd
  have hl : (us ++ ds).length = ps.length := by rw [← r2.length]; exact F.len _ _ _ _ h
  refine wpAny_call (codeAny_mono (F.run X.A X.stack s H ⟨us, []⟩ (us ++ ds) (vs ++ dvs) Q E hr hgu I.env0 (hb s us I.kIn hl) r2 h) fun r s' hq => ?_)
  cases r with
  | error e => exact hx pins σ H s e s' I hq
  | ok fl =>
    cases fl with
    | ret u => exact I.after hq
    | next => exact False.elim hq
    | brk => exact False.elim hq
    | cont => exact False.elim hq
theorem pe_callG (F : FnOkG X.prog X.w X.K X.mg X.base CX k f fd ps sp) (hr : Room k X.A) (hgu : X.A.guards = some []) (hg : Gl X x) (hm : X.mg x = some (.ref f)) (hk : PySem.W.keepIn X.K (.ref f) = true) (hb : Binds X.K fd ps ds) (hd : Vals dvs ds) (hx : Passes CX X E)
    (ha : PA X (e :: es) t) (hdb : (x == ("__debug__" : Str)) = false := by decide) (he : starEach (e :: es) X.env = (false, eval e X.env) :: starEach es X.env := by rfl) (hpl : (backTo pos (starEach es X.env)).any (·.1) = false := by rfl) :
    PE X (.Call (.Name x p) (e :: es) [] pos) (tCall sp dvs E t) := by
  refine ⟨fun pins s σ H Q I h => ?_⟩
  refine wpAny_Call_Name_kw (ld_glob I hg hm ?_ hdb)
  refine PySem.W.callWith_K (h₀ := X.base) I.ok.mod.kin hk (thn (ha.run pos pins s σ H _ I h) fun us s1 ⟨vs, H1, I1, r, q⟩ => ⟨I1.kIn, ?_⟩) he hpl
  exact run_fnG F hr hgu hb hd hx I1 r q
/-- repr(a), a list or a tuple -/
def rReprD (K : PySem.W.Frag) : List V → Hp → VK → Prop := fun vs H Q => ∃ (a : Addr) (d : PyData), vs = [.ref a] ∧ Dp K H (.ref a) d ∧ d.showable = true ∧ d.hasDict = false ∧ d.depth ≤ 60 ∧ d.shown.length ≤ sizeLine ∧ Q (.str d.shown) H
theorem cr_reprD (hgu : X.A.guards = some []) (hu : X.A.units + 64 < cLine) : CallR X (.builtin "repr") (rReprD X.K) := by
  intro pins s σ H vs us Q I r h
  obtain ⟨a, d, rfl, hd, hs, hn, hdp, hsz, q⟩ := h
  rw [Vals.ref1 r]
  obtain ⟨as, hr⟩ := Dp.reads I d _ (.ref a) hd rfl
  refine repr_of_reads' hr hs (fun z => by rw [hn] at z; cases z) hgu (by omega) (fun _ _ e => e) (fun h' u tk hk => ?_) hsz
  exact ⟨.str d.shown, H, I.call' (ch := []) rfl (Un.kept hk) (I.hok.kept hk) I.bare (fun b z => by simp at z), ⟨u, rfl⟩, q⟩
end
end G
set_option maxHeartbeats 4000000
-- text G2
namespace G
open PySem PySem.Spec PyProof.Rows L2 M GG
/-! ### what may be shown -/
structure Shw (b : Nat) (d : PyData) : Prop where
  ok : d.showable = true
  nd : d.hasDict = false
  dp : d.depth ≤ 60
  sz : d.shown.length ≤ b
abbrev numD (xs : List Nat) : List PyData := xs.map fun n : Nat => PyData.int (n : Int)
theorem Shw.int {n : Nat} (h : n < 2 ^ 33) : Shw 13 (.int (n : Int)) := by
  refine ⟨?_, rfl, Nat.zero_le _, PyData.shown_int_le (by rw [Int.natAbs_natCast]; omega)⟩
  show decide ((n : Int).natAbs.log2 < 1920) = true
  rw [Int.natAbs_natCast]
  refine decide_eq_true (Nat.lt_of_le_of_lt (Nat.log2_le_self n |> fun _ => ?_) (by decide : 33 < 1920))
  by_cases z : n = 0
  · subst z; exact Nat.zero_le _
  · have := (Nat.log2_lt z).mpr h
    omega
theorem shw_all {xs : List Nat} (h : ∀ x ∈ xs, x < 2 ^ 33) : PyData.showableAll (numD xs) = true ∧ PyData.hasDictAll (numD xs) = false ∧ PyData.depthAll (numD xs) = 0 ∧ ((PyData.shownAll (numD xs)).map (·.length)).sum ≤ 13 * xs.length ∧ (PyData.shownAll (numD xs)).length = xs.length := by
  induction xs with
  | nil => exact ⟨rfl, rfl, rfl, Nat.le_refl _, rfl⟩
  | cons x r ih =>
    obtain ⟨h1, h2, h3, h4, h5⟩ := ih fun y hy => h y (List.mem_cons_of_mem _ hy)
    have hx := Shw.int (h x List.mem_cons_self)
    refine ⟨?_, ?_, ?_, ?_, ?_⟩
    · show (PyData.showable (.int (x : Int)) && PyData.showableAll (numD r)) = true
      rw [hx.ok, h1]; rfl
    · show (PyData.hasDict (.int (x : Int)) || PyData.hasDictAll (numD r)) = false
      rw [hx.nd, h2]; rfl
    · show max (PyData.depth (.int (x : Int))) (PyData.depthAll (numD r)) = 0
      rw [h3]; rfl
    · show (PyData.shown (.int (x : Int))).length + ((PyData.shownAll (numD r)).map (·.length)).sum ≤ _
      have := hx.sz
      rw [List.length_cons]
      omega
    · show (PyData.shownAll (numD r)).length + 1 = _
      rw [h5]; rfl
theorem Shw.tup {xs : List Nat} (h : ∀ x ∈ xs, x < 2 ^ 33) (hn : xs.length ≤ 4096) : Shw 70000 (.tuple (numD xs)) := by
  obtain ⟨h1, h2, h3, h4, h5⟩ := shw_all h
  refine ⟨h1, h2, ?_, ?_⟩
  · show PyData.depthAll (numD xs) + 1 ≤ 60
    omega
  · show (tupleText (PyData.shownAll (numD xs))).length ≤ _
    have := tupleText_len_le (PyData.shownAll (numD xs))
    omega
theorem Shw.list {ds : List PyData} (h : ∀ d ∈ ds, Shw 70000 d ∧ d.depth ≤ 10) (hn : ds.length ≤ 10) : Shw 16777216 (.list ds) ∧ (PyData.list ds).depth ≤ 11 := by
  have key : ∀ ds : List PyData, (∀ d ∈ ds, Shw 70000 d ∧ d.depth ≤ 10) → PyData.showableAll ds = true ∧ PyData.hasDictAll ds = false ∧ PyData.depthAll ds ≤ 10 ∧ ((PyData.shownAll ds).map (·.length)).sum ≤ 70000 * ds.length ∧ (PyData.shownAll ds).length = ds.length := by
    intro ds
    induction ds with
    | nil => intro _; exact ⟨rfl, rfl, Nat.zero_le _, Nat.le_refl _, rfl⟩
    | cons x r ih =>
      intro h
      obtain ⟨h1, h2, h3, h4, h5⟩ := ih fun y hy => h y (List.mem_cons_of_mem _ hy)
      obtain ⟨hx, hxd⟩ := h x List.mem_cons_self
      refine ⟨?_, ?_, ?_, ?_, ?_⟩
      · show (PyData.showable x && PyData.showableAll r) = true
        rw [hx.ok, h1]; rfl
      · show (PyData.hasDict x || PyData.hasDictAll r) = false
        rw [hx.nd, h2]; rfl
      · show max (PyData.depth x) (PyData.depthAll r) ≤ 10
        omega
      · show (PyData.shown x).length + ((PyData.shownAll r).map (·.length)).sum ≤ _
        have := hx.sz
        rw [List.length_cons]
        omega
      · show (PyData.shownAll r).length + 1 = _
        rw [h5]; rfl
  obtain ⟨h1, h2, h3, h4, h5⟩ := key ds h
  have hd : (PyData.list ds).depth ≤ 11 := by
    show PyData.depthAll ds + 1 ≤ 11
    omega
  refine ⟨⟨h1, h2, by omega, ?_⟩, hd⟩
  show (listText (PyData.shownAll ds)).length ≤ _
  have := listText_len_le (PyData.shownAll ds)
  omega
/-- repr of a tuple of numbers; of a list of numbers and tuples -/
theorem rd_reprT {K : PySem.W.Frag} {H : Hp} {Q : VK} {t : Addr} {xs : List Nat} (e : H t = some (.tup (nvs xs))) (h : ∀ x ∈ xs, x < 2 ^ 33) (hn : xs.length ≤ 4096) (q : Q (.str (PyData.shown (.tuple (numD xs)))) H) : rReprD K [.ref t] H Q := by
  obtain ⟨h1, h2, h3, h4⟩ := Shw.tup h hn
  exact ⟨t, .tuple (numD xs), rfl, .tup (sqT_of e) (dp_nvs xs), h1, h2, h3, Nat.le_trans h4 (by rw [sizeLine_eq]; decide), q⟩
theorem rd_reprL {K : PySem.W.Frag} {H : Hp} {Q : VK} {t : Addr} {vs : List V} {ds : List PyData} (e : H t = some (.lst vs)) (hd : DpAll K H vs ds) (h : ∀ d ∈ ds, Shw 70000 d ∧ d.depth ≤ 10) (hn : ds.length ≤ 10) (q : Q (.str (PyData.shown (.list ds))) H) : rReprD K [.ref t] H Q := by
  obtain ⟨⟨h1, h2, h3, h4⟩, _⟩ := Shw.list h hn
  exact ⟨t, _, rfl, .lst (sqL_of e) hd, h1, h2, h3, by rw [sizeLine_eq]; exact h4, q⟩
theorem Shw.int' {n : Nat} (h : n < 2 ^ 33) : Shw 70000 (.int (n : Int)) ∧ (PyData.int (n : Int)).depth ≤ 10 := ⟨⟨(Shw.int h).ok, rfl, Nat.zero_le _, Nat.le_trans (Shw.int h).sz (by decide)⟩, Nat.zero_le _⟩
theorem Shw.tup' {xs : List Nat} (h : ∀ x ∈ xs, x < 2 ^ 33) (hn : xs.length ≤ 4096) : Shw 70000 (.tuple (numD xs)) ∧ (PyData.tuple (numD xs)).depth ≤ 10 := by
  refine ⟨Shw.tup h hn, ?_⟩
  obtain ⟨_, _, h3, _⟩ := shw_all h
  show PyData.depthAll (numD xs) + 1 ≤ 10
  omega
end G
set_option maxHeartbeats 4000000
-- text M2
namespace M
def NearAt (u b : Nat) (P : List Nat) (st : Nat × List Nat) : Prop := (P = [] ∧ st = (b, [])) ∨ (st.2 = P.filter (fun x => decide (ones (u ^^^ x) = st.1)) ∧ (∃ x ∈ P, ones (u ^^^ x) = st.1) ∧ ∀ x ∈ P, st.1 ≤ ones (u ^^^ x))
theorem near_step {u b x : Nat} {P : List Nat} {st : Nat × List Nat} (h : NearAt u b P st) (hb : ones (u ^^^ x) < b) : NearAt u b (P ++ [x]) (nearStep u st x) := by
  rcases h with ⟨rfl, rfl⟩ | ⟨h1, ⟨z, hz, hz2⟩, h3⟩
  · right
    have e : nearStep u (b, []) x = (ones (u ^^^ x), [x]) := by unfold nearStep; rw [if_pos hb]
    rw [e]
    refine ⟨by simp, ⟨x, by simp, rfl⟩, fun y hy => ?_⟩
    have : y = x := by simpa using hy
    rw [this]; exact Nat.le_refl _
  · right
    obtain ⟨mn, F⟩ := st
    dsimp only at h1 hz2 h3
    unfold nearStep
    dsimp only
    by_cases c1 : ones (u ^^^ x) < mn
    · rw [if_pos c1]
      refine ⟨?_, ⟨x, by simp, rfl⟩, fun y hy => ?_⟩
      · dsimp only
        rw [List.filter_append]
        have : (P.filter fun y => decide (ones (u ^^^ y) = ones (u ^^^ x))) = [] := List.filter_eq_nil_iff.mpr fun y hy => by
          have := h3 y hy
          simp; omega
        rw [this]
        simp
      · dsimp only
        rcases List.mem_append.mp hy with e | e
        · have := h3 y e; omega
        · have : y = x := by simpa using e
          rw [this]; exact Nat.le_refl _
    · rw [if_neg c1]
      by_cases c2 : ones (u ^^^ x) = mn
      · rw [if_pos c2]
        refine ⟨?_, ⟨z, List.mem_append_left _ hz, hz2⟩, fun y hy => ?_⟩
        · dsimp only
          rw [List.filter_append, ← h1, List.filter_cons, if_pos (decide_eq_true c2)]; rfl
        · rcases List.mem_append.mp hy with e | e
          · exact h3 y e
          · have : y = x := by simpa using e
            dsimp only; rw [this]; omega
      · rw [if_neg c2]
        refine ⟨?_, ⟨z, List.mem_append_left _ hz, hz2⟩, fun y hy => ?_⟩
        · dsimp only
          rw [List.filter_append, ← h1, List.filter_cons, if_neg (by simpa using c2)]; simp
        · rcases List.mem_append.mp hy with e | e
          · exact h3 y e
          · have : y = x := by simpa using e
            dsimp only; rw [this]; omega
theorem near_fold {u b : Nat} : ∀ (W P : List Nat) (st : Nat × List Nat), NearAt u b P st → (∀ x ∈ W, ones (u ^^^ x) < b) → NearAt u b (P ++ W) (W.foldl (nearStep u) st)
  | [], P, st, h, _ => by rw [List.append_nil]; exact h
  | x :: W, P, st, h, hb => by
    have := near_fold W (P ++ [x]) (nearStep u st x) (near_step h (hb x List.mem_cons_self)) fun y hy => hb y (List.mem_cons_of_mem _ hy)
    rw [List.append_assoc] at this
    exact this
/-- the nearest: the least distance, those that have it -/
theorem near_all {u b : Nat} {W : List Nat} (hb : ∀ x ∈ W, ones (u ^^^ x) < b) (hW : W ≠ []) : (W.foldl (nearStep u) (b, [])).2 = W.filter (fun x => decide (ones (u ^^^ x) = (W.foldl (nearStep u) (b, [])).1)) ∧ (∃ x ∈ W, ones (u ^^^ x) = (W.foldl (nearStep u) (b, [])).1) ∧ ∀ x ∈ W, (W.foldl (nearStep u) (b, [])).1 ≤ ones (u ^^^ x) := by
  rcases near_fold W [] (b, []) (.inl ⟨rfl, rfl⟩) hb with ⟨h, _⟩ | h
  · exact absurd h hW
  · exact h
end M
set_option maxHeartbeats 4000000
-- text D31
namespace G
open PySem PySem.Spec PyProof.Rows L2 M GG
section
variable {P : Program} {w : World} {K : PySem.W.Frag} {mg : Str → Option Value} {base : Heap}
theorem rd_revL {te : TE} {σ : L2.St} {H : Hp} {Q : VK} (h : te σ H fun x H1 => ∃ a xs, x = .ref a ∧ SqL K H1 a xs ∧ ∀ p, H1 p = none → Q (.ref p) (upd H1 p (.lst xs.reverse))) : tRevL K te σ H Q := h
theorem rd_izip {ta : TA} {σ : L2.St} {H : Hp} {R : It → Hp → Prop} (h : ta σ H fun vs H1 => ∃ a b xs ys, vs = [.ref a, .ref b] ∧ SqL K H1 a xs ∧ SqL K H1 b ys ∧ R (Itz K a b) H1) : iZip K ta σ H R := h
def spGreat (K : PySem.W.Frag) : Sp := fun vs H Q _ => ∃ (a p : Addr), vs = [.ref a] ∧ HandAt H a p ∧ Tabs (tabl K) H ∧ (∀ hs, Asc hs → (∀ h ∈ hs, h < 2 ^ 4) → hs.length ≤ 12 → (codeL 4 hs).Perm (allW 4 hs)) ∧ ∀ H', Hg K a p H H' → Q (.bl true) H'
theorem sc__law_great_code_nearest : FnScope ["_law_hand_here", "_law_heaps", "_law_word", "_law_codes", "_law_distances", "_law_least", "_law_told", "_law_near", "_law_one", "_law_distance"] ["_law_hand_here"] (defScope (top 118)) := ⟨rfl, rfl, rfl, by decide +kernel, rfl, by decide +kernel, by decide +kernel⟩
theorem ok__law_great_code_nearest (T' : TxB K mg base) : FnOkG P w K mg base CX0 9 a_law_great_code_nearest (fdOf K a_law_great_code_nearest) ["_law_hand_here"] (spGreat K) := by
  have T := T'.toTxt
  refine funD_okG T.f__law_great_code_nearest sc__law_great_code_nearest (fun vs H Q E h => ?len) (fun c hc A outer s H vs Q E hr hgu h => ?body)
  case body =>
    have nd := sc__law_great_code_nearest.nd
    refine ⟨_, PSs.nox (pss_cons (ps_set (i := 1) nd rfl (Or.inl rfl) (pe_call (ok__law_spots T) (hr.mono (by decide)) rfl (T.g__law_spots) (T.k__law_spots) (T.b__law_spots) .nil pass0 (pa_cons (pv 0) (pa_cons (pe_n 4) (pa_cons (pe_ix ix_list (pe_lst (pa_cons (pe_n 9) (pa_cons (pe_n 9) (pa_cons (pe_n 9) (pa_cons (pe_n 10) (pa_cons (pe_n 9) (pa_cons (pe_n 9) (pa_cons (pe_n 9) (pa_cons (pe_n 10) (pa_cons (pe_n 9) (pa_cons (pe_n 11) (pa_cons (pe_n 9) (pa_cons (pe_n 10) (pa_cons (pe_n 9) (pa_cons (pe_n 9) (pa_cons (pe_n 9) (pa_cons (pe_n 12) pa_nil))))))))))))))))) (pe_call (ok__law_draw T) (hr.mono (by decide)) rfl (T.g__law_draw) (T.k__law_draw) (T.b__law_draw) .nil pass0 (pa_cons (pv 0) (pa_cons (pe_n 16) pa_nil))) (fun _ _ => rfl)) pa_nil)))))
      (pss_cons (ps_set (i := 2) nd rfl (Or.inr rfl) (pe_call (ok__law_any_word T) (hr.mono (by decide)) rfl (T.g__law_any_word) (T.k__law_any_word) (T.b__law_any_word) .nil pass0 (pa_cons (pv 0) (pa_cons (pe_n 4) pa_nil))))
      (pss_cons (ps_set (i := 3) nd rfl (Or.inl rfl) (pe_call (ok__law_code T) (hr.mono (by decide)) rfl (T.g__law_code) (T.k__law_code) (T.b__law_code) .nil pass0 (pa_cons (pe_n 4) (pa_cons (pv 1) pa_nil))))
      (pss_cons (ps_setLc (i := 4) (own := [("_law_one", 8)]) rfl nd rfl rfl (sw_true rfl rfl rfl (by decide +kernel)) (pi_list (pv 3)) (blkOk_by (N := ["_law_hand_here", "_law_heaps", "_law_word", "_law_codes", "_law_distances", "_law_least", "_law_told", "_law_near", "_law_one", "_law_distance"]) (sc := defScope (top 118)) (by decide +kernel)) (fun _ _ _ _ _ => (pg_name (i := 8) nd rfl (.inl rfl))) (fun _ _ _ _ _ => pts_nil) (fun _ _ _ _ _ => (pe_call (ok__law_ones T) (hr.mono (by decide)) rfl (T.g__law_ones) (T.k__law_ones) (T.b__law_ones) .nil pass0 (pa_cons (pe_op o_xor (pv 2) (pv 8)) pa_nil))))
      (pss_cons (ps_set (i := 5) nd rfl (Or.inr rfl) (pe_callB (cr_min rfl) (by rfl) (T.n_min) (by decide +kernel) (pa_cons (pv 4) pa_nil)))
      (pss_cons (ps_set (i := 6) nd rfl (Or.inl rfl) (pe_call (ok_nearest_words T) (hr.mono (by decide)) rfl (T.g_nearest_words) (T.k_nearest_words) (T.b_nearest_words) .nil pass0 (pa_cons (pe_make (T.mk_Choice) (ok_Choice T) (hr.mono (by decide)) rfl (T.g_Choice) (T.b_Choice) .nil pass0 (pa_cons (pe_n 4) (pa_cons (pe_revL (pv 1)) pa_nil))) (pa_cons (pv 2) pa_nil))))
      (pss_cons (ps_if (pt_not (pt_val (pe_callB (call_isi) (by rfl) (T.n_isinstance) (by decide +kernel) (pa_cons (pv 6) (pa_cons (pe_glob (v := .ref c_Nearest) rfl (T.g_Nearest) rfl) pa_nil))))) (pss_one (ps_ret pe_bl)) pss_nil)
      (pss_cons (ps_set (i := 7) nd rfl (Or.inl rfl) (pe_callB (cr_sortedI) (by rfl) (T.n_sorted) (by decide +kernel) (pa_cons (pe_lc (own := [("_law_one", 8), ("_law_distance", 9)]) rfl nd (pi_zip (by rfl) (T.n_zip) (pa_cons (pv 3) (pa_cons (pv 4) pa_nil))) (blkOk_by (N := ["_law_hand_here", "_law_heaps", "_law_word", "_law_codes", "_law_distances", "_law_least", "_law_told", "_law_near", "_law_one", "_law_distance"]) (sc := defScope (top 118)) (by decide +kernel)) (fun _ _ _ _ _ => (pg_tupK (K := K) (n := 2) (by rfl) rfl (pgs_cons (pg_name (i := 8) nd rfl (.inl rfl)) (pgs_cons (pg_name (i := 9) nd rfl (.inl rfl)) pgs_nil)))) (fun _ _ _ _ _ => (pts_one (pt_cmpR o_eq (pv 9) (pv 5) (nomark _)))) (fun _ _ _ _ _ => (pv 8))) pa_nil)))
      (pss_one (ps_ret (pe_cmpR op_eq (pe_callB (cr_reprD hgu (room64 hr)) (by rfl) (T.n_repr) (by decide +kernel) (pa_cons (pe_lst (pa_cons (pe_fld (pv 6) rfl) (pa_cons (pe_fld (pv 6) rfl) pa_nil))) pa_nil)) (pe_callB (cr_reprD hgu (room64 hr)) (by rfl) (T.n_repr) (by decide +kernel) (pa_cons (pe_lst (pa_cons (pv 5) (pa_cons (pe_callTy (call_tuple_of) (by rfl) (T.n_tuple) (by decide +kernel) (pa_cons (pv 7) pa_nil)) pa_nil))) pa_nil)) (nomark _)))))))))))), ?_⟩
    obtain ⟨a, p, rfl, ha, ht, hall, q⟩ := h
    walk_at "rd"
    refine ⟨by rw [sizeLine_eq]; show 16 ≤ 16777216; omega, fun tl htl => ?_⟩
    have s1 : Sm H (upd H tl (.lst (nvs [9, 9, 9, 10, 9, 9, 9, 10, 9, 11, 9, 10, 9, 9, 9, 12]))) := Sm.new htl
    have e1 : upd H tl (.lst (nvs [9, 9, 9, 10, 9, 9, 9, 10, 9, 11, 9, 10, 9, 9, 9, 12])) tl = some (.lst (nvs [9, 9, 9, 10, 9, 9, 9, 10, 9, 11, 9, 10, 9, 9, 9, 12])) := upd_same
    have ha1 : HandAt _ a p := ha.hg (K := K) s1.hg
    walk_at "rd"
    refine ⟨a, p, 16, rfl, by decide, by decide, ha1, fun k H2 hk g2 => ?_⟩
    have e2 := g2.nl ha1 e1
    have g12 : Hg K a p H H2 := s1.hg.trans g2
    obtain ⟨n, hn⟩ : ∃ n, [9, 9, 9, 10, 9, 9, 9, 10, 9, 11, 9, 10, 9, 9, 9, 12][k]? = some n := ⟨_, List.getElem?_eq_getElem hk⟩
    have hn12 : n ≤ 12 := (by decide : ∀ x ∈ [9, 9, 9, 10, 9, 9, 9, 10, 9, 11, 9, 10, 9, 9, 9, 12], x ≤ 12) n (List.mem_of_getElem? hn)
    refine rd_ixL (j := k) (v := nv n) e2 (by rw [List.getElem?_map, hn]; rfl) ?_
    walk_at "rd"
    refine ⟨a, p, 4, n, rfl, by decide, by rw [shl_one]; omega, ha.hg g12, fun l ys H3 g3 e3 hasc hlt hlen => ?_⟩
    have g13 := g12.trans g3
    walk_at "rd"
    refine ⟨a, p, 4, rfl, by decide, ha.hg g13, fun u H4 hu g4 => ?_⟩
    have g14 := g13.trans g4
    have e4 := g4.nl (ha.hg g13) e3
    walk_at "rd"
    refine ⟨4, l, ys, rfl, by decide, e4, by omega, fun cl H5 s5 e5 => ?_⟩
    walk_at "rd"
    have hcl : (codeL 4 ys).length ≤ 4096 := by
      rw [codeL_len]
      exact Nat.le_trans (Nat.pow_le_pow_right (n := 2) (by decide) (by omega : ys.length ≤ 12)) (by decide)
    refine lc_lstJ (sqL_of e5) (line32 hcl) (fun _ => true) (fun x => nv (ones (u ^^^ x))) (fun x hx H6 D6 s6 Nx n1 n2 => ?_) (fun H6 D6 s6 hD e6 => ?_)
    · walk_at "rd"
      refine ⟨_, rfl, ?_⟩
      exact n2 _ Sm.refl rfl
    · rw [List.filter_eq_self.mpr (fun _ _ => rfl), ← nvs_map] at e6
      have e6i := e6
      rw [nvs_int] at e6i
      have hperm := hall ys hasc hlt (by omega)
      have hne : codeL 4 ys ≠ [] := fun z => by
        have := codeL_len 4 ys
        rw [z] at this
        have h2 : 0 < 2 ^ ys.length := Nat.two_pow_pos _
        simp at this
        omega
      walk_at "rd"
      refine ⟨D6, _, rfl, sqL_of e6i, by rw [List.length_map, List.length_map]; exact List.length_pos_iff.mpr hne, fun mi hm1 hm2 => ?_⟩
      obtain ⟨x0, hx0, rfl⟩ := List.mem_map.mp hm1
      obtain ⟨w0, hw0, rfl⟩ := List.mem_map.mp hx0
      have hmin : ∀ x ∈ codeL 4 ys, ones (u ^^^ w0) ≤ ones (u ^^^ x) := fun x hx => by
        have := hm2 (ones (u ^^^ x) : Nat) (List.mem_map.mpr ⟨_, List.mem_map.mpr ⟨x, hx, rfl⟩, rfl⟩)
        omega
      have e46 := s6 _ _ (s5 _ _ e4)
      walk_at "rd"
      refine rd_revL ?_
      walk_at "rd"
      refine ⟨l, _, rfl, sqL_of e46, fun rl hrl => ?_⟩
      have hrev : (nvs ys).reverse = nvs ys.reverse := List.map_reverse.symm
      rw [hrev]
      have s7 := Sm.new (o := .lst (nvs ys.reverse)) hrl
      walk_at "rd"
      refine rd_mkCh (ys := ys) (by decide) (by decide) (.inl upd_same) (fun x hx => hlt x (List.mem_reverse.mp hx)) (by rw [List.length_reverse]; omega) hasc (fun y => List.mem_reverse.symm) fun ch H8 s8 hc8 => ?_
      walk_at "rd"
      have g18 : Hg K a p H H8 := g14.sm (s5.trans (s6.trans (s7.trans s8)))
      refine ⟨ch, 4, ys, u, rfl, hc8, by omega, hu, g18.2.1 ht, fun na ndx nt zs H9 g9 en et hp9 hs9 => ?_⟩
      walk_at "rd"
      refine rd_isrec en T.cl_Nearest T.is_Nearest T.kit_Nearest_Nearest ?_
      walk_at "rd"
      refine rd_izip ?_
      walk_at "rd"
      have e59 : H9 cl = some (.lst (nvs (codeL 4 ys))) := g9.lst (s8 _ _ (s7 _ _ (s6 _ _ e5)))
      have e69 : H9 D6 = some (.lst (nvs ((codeL 4 ys).map fun x => ones (u ^^^ x)))) := g9.lst (s8 _ _ (s7 _ _ e6))
      have g19 : Hg K a p H H9 := g18.trans g9.hg
      have hcode4 : ∀ x ∈ codeL 4 ys, x ≤ full 4 := fun x hx => by
        obtain ⟨n, _, rfl⟩ := List.mem_map.mp (hperm.mem_iff.mp hx)
        exact sumAt_le (fun r hr => by
          obtain ⟨g, hg, rfl⟩ := List.mem_map.mp hr
          exact heapW_le (hlt g hg)) n
      generalize hcodes : codeL 4 ys = codes at *
      have hlenD : (codes.map fun x => ones (u ^^^ x)).length = codes.length := List.length_map _
      refine ⟨cl, D6, _, _, rfl, sqL_of e59, sqL_of e69, lc_acc (n := codes.length) (line32 hcl) (fun k H6 s6 => ⟨fun hk => ?_, fun hk => ?_⟩) (fun k => nvs ((codes.take k).filter fun x => decide (ones (u ^^^ x) = ones (u ^^^ w0)))) rfl (fun k hk H10 D10 s10 hD10 Nx n1 n2 x H11 y => ?_) (fun H10 D10 s10 hD10 e10 => ?_)⟩
      · exact ⟨_, _, nv (codes[k]), nv (ones (u ^^^ codes[k])), sqL_of (s6 _ _ e59), sqL_of (s6 _ _ e69), by rw [List.getElem?_map, List.getElem?_eq_getElem hk]; rfl, by rw [List.getElem?_map, List.getElem?_map, List.getElem?_eq_getElem hk]; rfl⟩
      · exact ⟨_, _, sqL_of (s6 _ _ e59), sqL_of (s6 _ _ e69), .inl (by rw [List.length_map, hk]; exact Nat.le_refl _)⟩
      · obtain ⟨T2, x1, y1, rfl, hT2, rfl, hx1, hy1⟩ := y
        have hx2 := hx1 _ (sqL_of (s10 _ _ e59))
        have hy2 := hy1 _ (sqL_of (s10 _ _ e69))
        obtain ⟨xk, hxk⟩ : ∃ xk, codes[k]? = some xk := ⟨_, List.getElem?_eq_getElem hk⟩
        rw [List.getElem?_map, hxk] at hx2
        rw [List.getElem?_map, List.getElem?_map, hxk] at hy2
        have ex1 : nv xk = x1 := Option.some.inj hx2
        have ey1 : nv (ones (u ^^^ xk)) = y1 := Option.some.inj hy2
        subst ex1 ey1
        refine rd_gtup upd_same rfl ?_
        walk_at "rd"
        refine ⟨rfl, ?_⟩
        walk_at "rd"
        have htk := take_at hxk
        refine tdec (fun z => ?_) fun z => ?_
        · refine n1 _ (Sm.new hT2) ?_
          rw [htk, List.filter_append, List.filter_cons, if_neg (fun y => z (of_decide_eq_true y))]
          simp
        · walk_at "rd"
          refine n2 _ _ (Sm.new hT2) ?_
          rw [htk, List.filter_append, List.filter_cons, if_pos (decide_eq_true z), nvs_append]
          rfl
      · rw [List.take_length] at e10
        have e10i := e10
        rw [nvs_int] at e10i
        walk_at "rd"
        refine ⟨D10, _, rfl, sqL_of e10i, fun ns p hp hs' hn => ?_⟩
        obtain ⟨qs, rfl, hq1, hq2⟩ := perm_cast hp hs'
        rw [← nvs_int]
        walk_at "rd"
        have s11 : Sm H9 (upd H10 p (.lst (nvs qs))) := s10.trans (Sm.new hn)
        have g111 := g19.sm s11
        have en11 := s11 _ _ en
        have et11 := s11 _ _ et
        have ep11 : upd H10 p (.lst (nvs qs)) p = some (.lst (nvs qs)) := upd_same
        generalize upd H10 p (.lst (nvs qs)) = H11 at g111 en11 et11 ep11
        refine rd_of en11 T.cl_Nearest T.no_Nearest_distance rfl ?_
        walk_at "rd"
        refine rd_of en11 T.cl_Nearest T.no_Nearest_words rfl ?_
        walk_at "rd"
        refine ⟨by rw [sizeLine_eq]; show 2 ≤ 16777216; omega, fun l1 hl1 => ?_⟩
        have s12 := Sm.new (o := .lst [nv (nearF 4 ys u).1, .ref nt]) hl1
        -- the mathematics
        have hW : ∀ x ∈ allW 4 ys, ones (u ^^^ x) < 17 := fun x hx => by
          have h1 : x ≤ full 4 := hcode4 x (hperm.mem_iff.mpr hx)
          have := ones_le 16 (u ^^^ x) (Nat.lt_of_le_of_lt (full_xor hu h1) (by decide))
          omega
        have hWne : allW 4 ys ≠ [] := fun z => hne (by rw [z] at hperm; exact hperm.eq_nil)
        obtain ⟨m1, ⟨x1, hx1, hd1⟩, m3⟩ := near_all hW hWne
        have hnF : (allW 4 ys).foldl (nearStep u) (17, []) = nearF 4 ys u := rfl
        rw [hnF] at m1 hd1 m3
        have hdist : (nearF 4 ys u).1 = ones (u ^^^ w0) := Nat.le_antisymm (m3 w0 (hperm.mem_iff.mp hw0)) (by rw [← hd1]; exact hmin x1 (hperm.mem_iff.mpr hx1))
        have hzq : zs = qs := by
          have h1 : zs.Perm qs := (hp9.trans (by rw [m1, hdist]; exact hperm.symm.filter _)).trans hq1.symm
          exact List.Perm.eq_of_pairwise (fun a b _ _ h1 h2 => Nat.le_antisymm h1 h2) hs9 hq2 h1
        have hzs : ∀ z ∈ zs, z < 2 ^ 33 := fun z hz => by
          have h1 := hp9.mem_iff.mp hz
          rw [m1] at h1
          have h2 := hcode4 z (hperm.mem_iff.mpr (List.mem_filter.mp h1).1)
          exact Nat.lt_of_le_of_lt h2 (by decide)
        have hzl : zs.length ≤ 4096 := by
          rw [hp9.length_eq, m1]
          refine Nat.le_trans (List.length_filter_le _ _) ?_
          rw [← hperm.length_eq]
          exact hcl
        have hd16 : (nearF 4 ys u).1 < 2 ^ 33 := by
          have := hW x1 hx1
          omega
        walk_at "rd"
        refine rd_reprL upd_same (.cons (.int _) (.cons (.tup (sqT_of (s12 _ _ et11)) (dp_nvs zs)) .nil)) (fun d hd => ?_) (by show 2 ≤ 10; omega) ?_
        · rcases List.mem_cons.mp hd with rfl | hd
          · exact Shw.int' hd16
          · rw [List.mem_singleton.mp hd]; exact Shw.tup' hzs hzl
        walk_at "rd"
        refine rd_tupL2 (s12 _ _ ep11) fun t2 ht2 => ?_
        have s13 := Sm.new (o := .tup (nvs qs)) ht2
        walk_at "rd"
        refine ⟨by rw [sizeLine_eq]; show 2 ≤ 16777216; omega, fun l3 hl3 => ?_⟩
        have s14 := Sm.new (o := .lst [nv (ones (u ^^^ w0)), .ref t2]) hl3
        walk_at "rd"
        refine rd_reprL upd_same (.cons (.int _) (.cons (.tup (sqT_of (s14 _ _ upd_same)) (dp_nvs qs)) .nil)) (fun d hd => ?_) (by show 2 ≤ 10; omega) ?_
        · rcases List.mem_cons.mp hd with rfl | hd
          · rw [← hdist]; exact Shw.int' hd16
          · rw [List.mem_singleton.mp hd, ← hzq]; exact Shw.tup' hzs hzl
        refine ⟨rfl, ?_⟩
        rw [decide_eq_true (by rw [hdist, hzq])]
        exact q _ (g111.sm (s12.trans (s13.trans s14)))
  case len =>
    obtain ⟨a, p, rfl, _⟩ := h
    rfl
end
end G
set_option maxHeartbeats 4000000
-- text D32
namespace M
def isRead : RRes → Bool
  | .read _ _ => true
  | _ => false
/-- the plain law of _law_none_nearer -/
structure PlainNone (m : Nat) (hs ord : List Nat) : Prop where
  even : leastW m hs % 2 = 0
  far : isRead (readF m hs ord (mark (halfW m hs 0))) = false
  near : hs.length ≤ 7 → (nearF m hs (mark (halfW m hs 0))).1 = leastW m hs / 2 ∧ 0 ∈ (nearF m hs (mark (halfW m hs 0))).2 ∧ otherW m hs ∈ (nearF m hs (mark (halfW m hs 0))).2 ∧ (codeL m hs).Perm (allW m hs)
end M
namespace G
open PySem PySem.Spec PyProof.Rows L2 M GG
section
variable {P : Program} {w : World} {K : PySem.W.Frag} {mg : Str → Option Value} {base : Heap}
/-- isinstance(x, (C1, C2)), x a record -/
theorem rd_isrec2 {C D1 D2 dx a tp : Addr} {fs : List (Str × V)} {H : Hp} {Q : VK} {b1 b2 : Bool} (e : H a = some (.ins C dx fs)) (cl : Cls K C) (i : isiB C K = true) (k1 : PySem.W.kitOne K (.ref C) (.ref D1) = some b1) (k2 : PySem.W.kitOne K (.ref C) (.ref D2) = some b2)
    (ht : H tp = some (.tup [.ref D1, .ref D2])) (q : Q (.bl (b1 || b2)) H) : rIsiT K [.ref a, .ref tp] H Q := by
  obtain ⟨h1, h2⟩ := He.ba i
  obtain ⟨h3, h4⟩ := He.ba h2
  obtain ⟨h5, h6⟩ := He.ba h4
  refine ⟨_, _, _, _, _, b1 || b2, rfl, ht, .cons (.own D1) (.cons (.own D2) .nil), .base (.ins e cl (He.eqO_ok h1) (He.eqO_ok h3) (of_decide_eq_true h5) (of_decide_eq_true h6)), ?_, q⟩
  refine kitAny_cons k1 (fun z => ?_) fun z => by rw [z]; rfl
  rw [z, Bool.false_or]
  refine kitAny_cons k2 (fun z2 => ?_) fun z2 => z2
  rw [z2]; rfl
theorem half_le {m : Nat} {hs : List Nat} {k : Nat} : mark (halfW m hs k) ≤ full m := mark_le fun x hx => (mem_onesOf.mp (cut_mem hx)).1
def spNone (K : PySem.W.Frag) : Sp := fun vs H Q _ => ∃ (c l : Addr) (m : Nat) (hs : List Nat), vs = [.ref c, nv m, .ref l, nv (leastW m hs)] ∧ ChAt H c m hs ∧ hs ≠ [] ∧ H l = some (.lst (nvs hs)) ∧ Tabs (tabl K) H ∧ PlainNone m hs (ordOf hs) ∧ ∀ H', Gr K H H' → Q (.bl true) H'
theorem sc__law_none_nearer : FnScope ["_law_choice_here", "_law_m", "_law_heaps", "_law_weight", "_law_told", "_law_least", "_law_codes", "_law_near", "_law_word"] ["_law_choice_here", "_law_m", "_law_heaps", "_law_weight"] (defScope (top 116)) := ⟨rfl, rfl, rfl, by decide +kernel, rfl, by decide +kernel, by decide +kernel⟩
theorem ok__law_none_nearer (T' : TxB K mg base) : FnOkG P w K mg base CX0 9 a_law_none_nearer (fdOf K a_law_none_nearer) ["_law_choice_here", "_law_m", "_law_heaps", "_law_weight"] (spNone K) := by
  have T := T'.toTxt
  refine funD_okG T.f__law_none_nearer sc__law_none_nearer (fun vs H Q E h => ?len) (fun c hc A outer s H vs Q E hr hgu h => ?body)
  case body =>
    obtain ⟨dsR, rvR, bR⟩ := T.b1_read_votes
    obtain ⟨dsT, rvT, bT⟩ := T.b1_two_near
    have nd := sc__law_none_nearer.nd
    refine ⟨_, PSs.nox (pss_cons (ps_set (i := 4) nd rfl (Or.inr rfl) (pe_call (ok_two_near T) (hr.mono (by decide)) rfl (T.g_two_near) (T.k_two_near) bT rvT pass0 (pa_cons (pv 0) pa_nil)))
      (pss_cons (ps_if (pt_not (pt_val (pe_callB (call_isiT) (by rfl) (T.n_isinstance) (by decide +kernel) (pa_cons (pe_call (ok_read_votes T') (hr.mono (by decide)) rfl (T.g_read_votes) (T.k_read_votes) bR rvR pass0 (pa_cons (pv 0) (pa_cons (pe_fld (pv 4) rfl) pa_nil))) (pa_cons (pe_tup (pa_cons (pe_glob (v := .ref c_Far) rfl (T.g_Far) rfl) (pa_cons (pe_glob (v := .ref c_Tie) rfl (T.g_Tie) rfl) pa_nil))) pa_nil))))) (pss_one (ps_ret pe_bl)) pss_nil)
      (pss_cons (ps_if (pt_cmpR o_gt (pe_callB (call_len) (by rfl) (T.n_len) (by decide +kernel) (pa_cons (pv 2) pa_nil)) (pe_n 7) (nomark _)) (pss_one (ps_ret pe_bl)) pss_nil)
      (pss_cons (ps_set (i := 5) nd rfl (Or.inl rfl) (pe_call (ok_nearest_words T) (hr.mono (by decide)) rfl (T.g_nearest_words) (T.k_nearest_words) (T.b_nearest_words) .nil pass0 (pa_cons (pv 0) (pa_cons (pe_fld (pv 4) rfl) pa_nil))))
      (pss_cons (ps_if (PW.pt (pw_or (pt_cmpR o_ne (pe_fld (pv 5) rfl) (pe_op o_div (pv 3) (pe_n 2)) (nomark _)) (pw_or (pt_cmpR op_notIn_seq (pe_fld (pv 4) rfl) (pe_fld (pv 5) rfl) rfl) (pw_or1 (pt_cmpR op_notIn_seq (pe_fld (pv 4) rfl) (pe_fld (pv 5) rfl) rfl))))) (pss_one (ps_ret pe_bl)) pss_nil)
      (pss_cons (ps_set (i := 6) nd rfl (Or.inl rfl) (pe_call (ok__law_code T) (hr.mono (by decide)) rfl (T.g__law_code) (T.k__law_code) (T.b__law_code) .nil pass0 (pa_cons (pv 1) (pa_cons (pv 2) pa_nil))))
      (pss_cons (ps_setLc (i := 7) (own := [("_law_word", 8)]) rfl nd rfl rfl (sw_true rfl rfl rfl (by decide +kernel)) (pi_list (pv 6)) (blkOk_by (N := ["_law_choice_here", "_law_m", "_law_heaps", "_law_weight", "_law_told", "_law_least", "_law_codes", "_law_near", "_law_word"]) (sc := defScope (top 116)) (by decide +kernel)) (fun _ _ _ _ _ => (pg_name (i := 8) nd rfl (.inl rfl))) (fun _ _ _ _ _ => (pts_one (pt_cmpR o_eq (pe_call (ok__law_ones T) (hr.mono (by decide)) rfl (T.g__law_ones) (T.k__law_ones) (T.b__law_ones) .nil pass0 (pa_cons (pe_op o_xor (pv 8) (pe_fldK (K := K) (by rfl) (pv 4) rfl)) pa_nil)) (pe_op o_div (pv 3) (pe_n 2)) (nomark _)))) (fun _ _ _ _ _ => (pv 8)))
      (pss_one (ps_ret (pe_cmpR op_eq (pe_callB (cr_reprD hgu (room64 hr)) (by rfl) (T.n_repr) (by decide +kernel) (pa_cons (pe_fld (pv 5) rfl) pa_nil)) (pe_callB (cr_reprD hgu (room64 hr)) (by rfl) (T.n_repr) (by decide +kernel) (pa_cons (pe_callTy (call_tuple_of) (by rfl) (T.n_tuple) (by decide +kernel) (pa_cons (pe_callB (cr_sortedI) (by rfl) (T.n_sorted) (by decide +kernel) (pa_cons (pv 7) pa_nil)) pa_nil)) pa_nil)) (nomark _))))))))))), ?_⟩
    obtain ⟨c, l, m, hs, rfl, hc, hne, hl, ht, hp, q⟩ := h
    have h1 := hc.ch.m1
    have h5 := hc.ch.m5
    walk_at "rd"
    refine rd_callD ?_
    walk_at "rd"
    refine ⟨c, m, hs, 0, rfl, hc, hne, Nat.zero_le _, by rw [Nat.sub_zero]; exact hp.even, fun a dx tl H1 s1 e1 et => ?_⟩
    walk_at "rd"
    refine rd_callD ?_
    walk_at "rd"
    refine rd_of e1 T.cl_TwoNear T.no_TwoNear_word rfl ?_
    walk_at "rd"
    refine ⟨c, m, hs, mark (halfW m hs 0), rfl, hc.mono s1, half_le, ht.ext s1, fun v H2 g2 hr => ?_⟩
    walk_at "rd"
    refine ⟨by rw [sizeLine_eq]; show 2 ≤ 16777216; omega, fun tp htp => ?_⟩
    have s3 : Sm H2 (upd H2 tp (.tup [.ref c_Far, .ref c_Tie])) := Sm.new htp
    have etp : upd H2 tp (.tup [.ref c_Far, .ref c_Tie]) tp = some (.tup [.ref c_Far, .ref c_Tie]) := upd_same
    have g3 : Gr K H (upd H2 tp (.tup [.ref c_Far, .ref c_Tie])) := (s1.gr.trans g2).sm s3
    have e13 := s3 _ _ (g2.ins e1)
    walk_at "rd"
    have hfar := hp.far
    have key : rIsiT K [v, .ref tp] (upd H2 tp (.tup [.ref c_Far, .ref c_Tie])) = rIsiT K [v, .ref tp] (upd H2 tp (.tup [.ref c_Far, .ref c_Tie])) := rfl
    have isr : ∀ Q' : VK, Q' (.bl true) (upd H2 tp (.tup [.ref c_Far, .ref c_Tie])) → rIsiT K [v, .ref tp] (upd H2 tp (.tup [.ref c_Far, .ref c_Tie])) Q' := fun Q' hq => by
      cases er : readF m hs (ordOf hs) (mark (halfW m hs 0)) with
      | tie h =>
        rw [er] at hr
        obtain ⟨a', dx', rfl, ea⟩ := hr
        exact rd_isrec2 (s3 _ _ ea) T.cl_Tie T.is_Tie T.kit_Tie_Far T.kit_Tie_Tie etp hq
      | far b ws =>
        rw [er] at hr
        obtain ⟨a', dx', t', g', rfl, ea, _⟩ := hr
        exact rd_isrec2 (s3 _ _ ea) T.cl_Far T.is_Far T.kit_Far_Far T.kit_Far_Tie etp hq
      | read b ws => rw [er] at hfar; cases hfar
    generalize upd H2 tp (.tup [.ref c_Far, .ref c_Tie]) = H3 at g3 e13 isr
    refine isr _ ?_
    walk_at "rd"
    refine ⟨_, _, rfl, .inl ⟨_, sqL_of (g3.lst hl), rfl⟩, ?_⟩
    rw [List.length_map]
    walk_at "rd"
    refine tdec (fun z => ?_) fun z => ?_
    · obtain ⟨hd, h0, hot, hpm⟩ := hp.near (by omega)
      walk_at "rd"
      refine rd_of e13 T.cl_TwoNear T.no_TwoNear_word rfl ?_
      walk_at "rd"
      have hc3 := hc.gr g3
      refine ⟨c, m, hs, mark (halfW m hs 0), rfl, hc3, by omega, half_le, g3.2 ht, fun na ndx nt zs H4 g4 en ent hp9 hs9 => ?_⟩
      walk_at "rd"
      refine rd_of en T.cl_Nearest T.no_Nearest_distance rfl ?_
      walk_at "rd"
      refine rd_n ⟨by decide, by decide⟩ ?_
      walk_at "rd"
      have e14 := g4.ins e13
      refine tndec (fun _ => ?_) fun z => absurd hd z
      walk_at "rd"
      refine rd_of e14 T.cl_TwoNear T.no_TwoNear_one rfl ?_
      walk_at "rd"
      refine rd_of en T.cl_Nearest T.no_Nearest_words rfl ?_
      walk_at "rd"
      refine rd_notin (.inr (sqT_of ent)) ?_
      walk_at "rd"
      refine tndec (fun _ => ?_) fun z => absurd (hp9.mem_iff.mpr h0) z
      walk_at "rd"
      refine rd_of e14 T.cl_TwoNear T.no_TwoNear_other rfl ?_
      walk_at "rd"
      refine rd_of en T.cl_Nearest T.no_Nearest_words rfl ?_
      walk_at "rd"
      refine rd_notin (.inr (sqT_of ent)) ?_
      walk_at "rd"
      refine tndec (fun _ => ?_) fun z => absurd (hp9.mem_iff.mpr hot) z
      walk_at "rd"
      have g34 := g3.trans g4
      refine ⟨m, l, hs, rfl, h5, g34.lst hl, by omega, fun cl H5 s5 e5 => ?_⟩
      walk_at "rd"
      have hcl : (codeL m hs).length ≤ 4096 := by
        rw [codeL_len]
        exact Nat.le_trans (Nat.pow_le_pow_right (n := 2) (by decide) (by omega : hs.length ≤ 12)) (by decide)
      refine lc_lstJ (sqL_of e5) (line32 hcl) (fun x => decide (ones (x ^^^ mark (halfW m hs 0)) = leastW m hs / 2)) nv (fun x hx H6 D6 s6 Nx n1 n2 => ?_) (fun H6 D6 s6 hD e6 => ?_)
      · walk_at "rd"
        refine rd_of (s6 _ _ (s5 _ _ e14)) T.cl_TwoNear T.no_TwoNear_word rfl ?_
        walk_at "rd"
        refine ⟨_, rfl, ?_⟩
        walk_at "rd"
        refine rd_n ⟨by decide, by decide⟩ ?_
        walk_at "rd"
        refine tdec (fun z => ?_) fun z => ?_
        · exact n1 _ Sm.refl (decide_eq_false z)
        · walk_at "rd"
          exact n2 _ Sm.refl (decide_eq_true z)
      · have e6i : H6 D6 = some (.lst ((((codeL m hs).filter fun x => decide (ones (x ^^^ mark (halfW m hs 0)) = leastW m hs / 2)).map fun n : Nat => (n : Int)).map V.int)) := by rw [← nvs_int]; exact e6
        have en6 := s6 _ _ (s5 _ _ en)
        have et6 := s6 _ _ (s5 _ _ ent)
        -- the mathematics
        have hcode : ∀ x ∈ allW m hs, x ≤ full m := fun x hx => by
          obtain ⟨n, _, rfl⟩ := List.mem_map.mp hx
          exact sumAt_le (fun r hr => by
            obtain ⟨g, hg, rfl⟩ := List.mem_map.mp hr
            exact heapW_le (hc.ch.lt g hg)) n
        have hW : ∀ x ∈ allW m hs, ones (mark (halfW m hs 0) ^^^ x) < 1 <<< m + 1 := fun x hx => by
          have := ones_le (2 ^ m) (mark (halfW m hs 0) ^^^ x) (le_full.mp (full_xor half_le (hcode x hx)))
          rw [shl_one]; omega
        have hWne : allW m hs ≠ [] := fun z => by
          have : (allW m hs).length = 1 <<< hs.length := by unfold allW; rw [List.length_map, List.length_range]
          rw [z, shl_one] at this
          have := Nat.two_pow_pos hs.length
          simp at *
          omega
        obtain ⟨m1, _, _⟩ := near_all hW hWne
        have hnF : (allW m hs).foldl (nearStep (mark (halfW m hs 0))) (1 <<< m + 1, []) = nearF m hs (mark (halfW m hs 0)) := rfl
        rw [hnF, hd] at m1
        have hfil : (codeL m hs).filter (fun x => decide (ones (x ^^^ mark (halfW m hs 0)) = leastW m hs / 2)) = (codeL m hs).filter (fun x => decide (ones (mark (halfW m hs 0) ^^^ x) = leastW m hs / 2)) := List.filter_congr fun x _ => by rw [Nat.xor_comm]
        have hzs : ∀ z ∈ zs, z < 2 ^ 33 := fun z hz => by
          have h1 := hp9.mem_iff.mp hz
          rw [m1] at h1
          have h2 := le_full.mp (hcode z (List.mem_filter.mp h1).1)
          have := full_lt h5
          omega
        have hzl : zs.length ≤ 4096 := by
          rw [hp9.length_eq, m1]
          refine Nat.le_trans (List.length_filter_le _ _) ?_
          rw [← hpm.length_eq]
          exact hcl
        walk_at "rd"
        refine rd_of en6 T.cl_Nearest T.no_Nearest_words rfl ?_
        walk_at "rd"
        refine rd_reprT et6 hzs hzl ?_
        walk_at "rd"
        refine ⟨D6, _, rfl, sqL_of e6i, fun ns p hp hs' hn => ?_⟩
        obtain ⟨qs, rfl, hq1, hq2⟩ := perm_cast hp hs'
        rw [← nvs_int]
        have s7 := Sm.new (o := .lst (nvs qs)) hn
        have hzq : zs = qs := by
          have h1 : zs.Perm qs := (hp9.trans (by rw [m1, hfil] at *; exact hpm.symm.filter _)).trans hq1.symm
          exact List.Perm.eq_of_pairwise (fun a b _ _ h1 h2 => Nat.le_antisymm h1 h2) hs9 hq2 h1
        walk_at "rd"
        refine rd_tupL2 upd_same fun t2 ht2 => ?_
        have s8 := Sm.new (o := .tup (nvs qs)) ht2
        walk_at "rd"
        refine rd_reprT upd_same (by rw [← hzq]; exact hzs) (by rw [← hzq]; exact hzl) ?_
        refine ⟨rfl, ?_⟩
        rw [decide_eq_true (by rw [hzq])]
        exact q _ (g34.sm (s5.trans (s6.trans (s7.trans s8))))
    · walk_at "rd"
      exact q _ g3
  case len =>
    obtain ⟨c, l, m, hs, rfl, _⟩ := h
    rfl
end
end G
set_option maxHeartbeats 4000000
-- text D33
namespace G
open PySem PySem.Spec PyProof.Rows L2 M GG
section
variable {P : Program} {w : World} {K : PySem.W.Frag} {mg : Str → Option Value} {base : Heap}
def spSomeX : Sp := fun vs H _ E => ∃ (c : Addr) (m : Nat), vs = [.ref c] ∧ ChAt H c m [] ∧ E (.ref c_EmptyChoice) none H
theorem sc_check_someX : FnScope ["choice"] ["choice"] (defScope (top 41)) := ⟨rfl, rfl, rfl, by decide +kernel, rfl, by decide +kernel, by decide +kernel⟩
theorem ok_check_someX (T'' : TxX P K mg base) : FnOk P w K mg base (L2.CX P w) 4 a_check_some (fdOf K a_check_some) ["choice"] spSomeX := by
  have T' := T''.toTxB
  have T := T'.toTxt
  refine T.f_check_some.ok sc_check_someX (fun vs H Q E h => ?len) (fun cdv A outer s H vs Q E hr h => ?body)
  case body =>
    have nd := sc_check_someX.nd
    refine ⟨_, (pss_cons (ps_if (pt_cmpR o_eq (pe_prop (pv 0) T.cl_Choice (T.pro_size) (ok_size T) (hr.mono (by decide)) (T.b_size) .nil pass0 (by rfl)) (pe_n 0) (nomark _)) (pss_one (ps_raise rfl (takes_of rfl rfl rfl rfl) (pmk_Empty (k := 0) T'' (hr.mono (by decide)) rfl))) pss_nil)
      (pss_one (ps_ret (pv 0)))), ?_⟩
    obtain ⟨c, m, rfl, hc, q⟩ := h
    walk_at "rd"
    refine rd_size hc ?_
    walk_at "rd"
    exact q
  case len =>
    obtain ⟨c, m, rfl, _⟩ := h
    rfl
def spNumberX : Sp := fun vs H _ E => ∃ (x : V) (n : Nat), vs = [x, nv n] ∧ okV H x ∧ wholeV 0 n x = false ∧ ∀ d, H d = none → E (.ref c_BadNumber) (some d) (upd H d (.xd [("most", nv n)]))
theorem sc_check_numberX : FnScope ["number", "most"] ["number", "most"] (defScope (top 19)) := ⟨rfl, rfl, rfl, by decide +kernel, rfl, by decide +kernel, by decide +kernel⟩
theorem ok_check_numberX (T'' : TxX P K mg base) : FnOk P w K mg base (L2.CX P w) 2 a_check_number (fdOf K a_check_number) ["number", "most"] spNumberX := by
  have T' := T''.toTxB
  have T := T'.toTxt
  refine T.f_check_number.ok sc_check_numberX (fun vs H Q E h => ?len) (fun cdv A outer s H vs Q E hr h => ?body)
  case body =>
    have nd := sc_check_numberX.nd
    refine ⟨_, (pss_cons (ps_if (pt_not (pt_val (pe_call (ok_is_whole T) (hr.mono (by decide)) rfl (T.g_is_whole) (T.k_is_whole) (T.b_is_whole) .nil pass0 (pa_cons (pv 0) (pa_cons (pe_n 0) (pa_cons (pv 1) pa_nil)))))) (pss_one (ps_raise rfl (takes_of rfl rfl rfl rfl) (by exact (pmk_Bad (k := 0) T'' (hr.mono (by decide)) (by rfl) (by exact (pa_cons (pv 1) pa_nil)))))) pss_nil)
      (pss_one (ps_ret (pv 0)))), ?_⟩
    obtain ⟨x, n, rfl, ok, hx, q⟩ := h
    walk_at "rd"
    refine ⟨x, 0, n, rfl, ok, ?_⟩
    have e : wholeV 0 (n : Int) x = false := hx
    rw [e]
    walk_at "rd"
    exact ⟨_, rfl, q⟩
  case len =>
    obtain ⟨x, n, rfl, _⟩ := h
    rfl
end
end G
set_option maxHeartbeats 4000000
-- text D34
namespace G
open PySem PySem.Spec PyProof.Rows L2 M GG
section
variable {P : Program} {w : World} {K : PySem.W.Frag} {mg : Str → Option Value} {base : Heap}
def spTwoE : Sp := fun vs H _ E => ∃ (c : Addr) (m : Nat) (x : V), vs = [.ref c, x] ∧ ChAt H c m [] ∧ E (.ref c_EmptyChoice) none H
theorem sc_two_nearE : FnScope ["choice", "many", "letters", "least", "tops", "other", "marked", "half", "heap"] ["choice", "many"] (defScope (top 64)) := ⟨rfl, rfl, rfl, by decide +kernel, rfl, by decide +kernel, by decide +kernel⟩
theorem ok_two_nearE (T'' : TxX P K mg base) : FnOk P w K mg base (L2.CX P w) 8 a_two_near (fdOf K a_two_near) ["choice", "many"] spTwoE := by
  have T' := T''.toTxB
  have T := T'.toTxt
  refine T.f_two_near.ok sc_two_nearE (fun vs H Q E h => ?len) (fun cdv A outer s H vs Q E hr h => ?body)
  case body =>
    have nd := sc_two_nearE.nd
    refine ⟨_, (pss_cons (ps_expr (pe_call (ok_check_someX T'') (hr.mono (by decide)) rfl (T.g_check_some) (T.k_check_some) (T.b_check_some) .nil (passes_call (takes_of rfl rfl rfl rfl) fun _ _ _ _ h => h) (pa_cons (pv 0) pa_nil)))
      (pss_cons (ps_set (i := 2) nd rfl (Or.inl rfl) (pe_fld (pv 0) rfl))
      (pss_cons (ps_set (i := 3) nd rfl (Or.inl rfl) (pe_op o_shl (pe_n 1) (pe_op o_sub (pv 2) (pe_prop (pv 0) T.cl_Choice (T.pro_top_size) (ok_top_size T) (hr.mono (by decide)) (T.b_top_size) .nil pass0 (by rfl)))))
      (pss_cons (ps_expr (pe_call (ok_check_number T) (hr.mono (by decide)) rfl (T.g_check_number) (T.k_check_number) (T.b_check_number) .nil pass0 (pa_cons (pv 1) (pa_cons (pv 3) pa_nil))))
      (pss_cons (ps_if (pt_num (pe_op o_and (pe_op o_sub (pv 3) (pv 1)) (pe_n 1))) (pss_one (ps_raise rfl (takes_of rfl rfl rfl rfl) (pmk_None (k := 0) T'' (hr.mono (by decide)) rfl))) pss_nil)
      (pss_cons (ps_setLc (i := 4) (own := [("heap", 8)]) rfl nd rfl rfl (sw_true rfl rfl rfl (by decide +kernel)) (pi_tup (pe_fld (pv 0) rfl)) (blkOk_by (N := ["choice", "many", "letters", "least", "tops", "other", "marked", "half", "heap"]) (sc := defScope (top 64)) (by decide +kernel)) (fun _ _ _ _ _ => (pg_name (i := 8) nd rfl (.inl rfl))) (fun _ _ _ _ _ => (pts_one (pt_cmpR o_eq (pe_call (ok_count_ones T) (hr.mono (by decide)) rfl (T.g_count_ones) (T.k_count_ones) (T.b_count_ones) .nil pass0 (pa_cons (pv 8) pa_nil)) (pe_prop (pv 0) T.cl_Choice (T.pro_top_size) (ok_top_size T) (hr.mono (by decide)) (T.b_top_size) .nil pass0 (by rfl)) (nomark _)))) (fun _ _ _ _ _ => (pv 8)))
      (pss_cons (ps_set (i := 5) nd rfl (Or.inl rfl) (pe_call (ok_heap_word T) (hr.mono (by decide)) rfl (T.g_heap_word) (T.k_heap_word) (T.b_heap_word) .nil pass0 (pa_cons (pv 2) (pa_cons (pe_ix ix_list (pv 4) (pe_n 0) (fun _ _ => rfl)) pa_nil))))
      (pss_cons (ps_set (i := 6) nd rfl (Or.inl rfl) (pe_call (ok_places_of T) (hr.mono (by decide)) rfl (T.g_places_of) (T.k_places_of) (T.b_places_of) .nil pass0 (pa_cons (pv 2) (pa_cons (pv 5) pa_nil))))
      (pss_cons (ps_set (i := 7) nd rfl (Or.inl rfl) (pe_op o_div (pe_op o_sub (pv 3) (pv 1)) (pe_n 2)))
      (pss_one (ps_ret (pe_make (T.mk_TwoNear) (ok_TwoNear T) (hr.mono (by decide)) rfl (T.g_TwoNear) (T.b_TwoNear) .nil pass0 (pa_cons (pe_call (ok_marked_word T) (hr.mono (by decide)) rfl (T.g_marked_word) (T.k_marked_word) (T.b_marked_word) .nil pass0 (pa_cons (pv 2) (pa_cons (pe_slice sl_tupA (pv 6) (po_some (pv 1)) (po_some (pe_op o_add (pv 1) (pv 7)))) pa_nil))) (pa_cons (pe_slice sl_tupA (pv 6) po_none (po_some (pv 1))) (pa_cons (pe_n 0) (pa_cons (pv 5) pa_nil)))))))))))))))), ?_⟩
    obtain ⟨c, m, x, rfl, hc, q⟩ := h
    walk_at "rd"
    exact ⟨c, m, rfl, hc, q⟩
  case len =>
    obtain ⟨c, m, x, rfl, _⟩ := h
    rfl
def spTwoB : Sp := fun vs H _ E => ∃ (c : Addr) (m : Nat) (hs : List Nat) (x : V), vs = [.ref c, x] ∧ ChAt H c m hs ∧ hs ≠ [] ∧ okV H x ∧ wholeV 0 (leastW m hs : Nat) x = false ∧ ∀ d H', Sm H H' → H' d = some (.xd [("most", nv (leastW m hs))]) → E (.ref c_BadNumber) (some d) H'
theorem okV.mono {H H' : Hp} {x : V} (h : okV H x) (s : Sm H H') : okV H' x := by
  cases x with
  | ref a =>
    obtain ⟨xs, e⟩ := h
    exact ⟨xs, s _ _ e⟩
  | non => trivial
  | bl _ => trivial
  | int _ => trivial
  | str _ => trivial
  | byt _ => exact h
  | flt _ => exact h
  | ty _ => exact h
theorem sc_two_nearB : FnScope ["choice", "many", "letters", "least", "tops", "other", "marked", "half", "heap"] ["choice", "many"] (defScope (top 64)) := ⟨rfl, rfl, rfl, by decide +kernel, rfl, by decide +kernel, by decide +kernel⟩
theorem ok_two_nearB (T'' : TxX P K mg base) : FnOk P w K mg base (L2.CX P w) 8 a_two_near (fdOf K a_two_near) ["choice", "many"] spTwoB := by
  have T' := T''.toTxB
  have T := T'.toTxt
  refine T.f_two_near.ok sc_two_nearB (fun vs H Q E h => ?len) (fun cdv A outer s H vs Q E hr h => ?body)
  case body =>
    have nd := sc_two_nearB.nd
    refine ⟨_, (pss_cons (ps_expr (pe_call (ok_check_some T) (hr.mono (by decide)) rfl (T.g_check_some) (T.k_check_some) (T.b_check_some) .nil pass0 (pa_cons (pv 0) pa_nil)))
      (pss_cons (ps_set (i := 2) nd rfl (Or.inl rfl) (pe_fld (pv 0) rfl))
      (pss_cons (ps_set (i := 3) nd rfl (Or.inl rfl) (pe_op o_shl (pe_n 1) (pe_op o_sub (pv 2) (pe_prop (pv 0) T.cl_Choice (T.pro_top_size) (ok_top_size T) (hr.mono (by decide)) (T.b_top_size) .nil pass0 (by rfl)))))
      (pss_cons (ps_expr (pe_call (ok_check_numberX T'') (hr.mono (by decide)) rfl (T.g_check_number) (T.k_check_number) (T.b_check_number) .nil (passes_call (takes_of rfl rfl rfl rfl) fun _ _ _ _ h => h) (pa_cons (pv 1) (pa_cons (pv 3) pa_nil))))
      (pss_cons (ps_if (pt_num (pe_op o_and (pe_op o_sub (pv 3) (pv 1)) (pe_n 1))) (pss_one (ps_raise rfl (takes_of rfl rfl rfl rfl) (pmk_None (k := 0) T'' (hr.mono (by decide)) rfl))) pss_nil)
      (pss_cons (ps_setLc (i := 4) (own := [("heap", 8)]) rfl nd rfl rfl (sw_true rfl rfl rfl (by decide +kernel)) (pi_tup (pe_fld (pv 0) rfl)) (blkOk_by (N := ["choice", "many", "letters", "least", "tops", "other", "marked", "half", "heap"]) (sc := defScope (top 64)) (by decide +kernel)) (fun _ _ _ _ _ => (pg_name (i := 8) nd rfl (.inl rfl))) (fun _ _ _ _ _ => (pts_one (pt_cmpR o_eq (pe_call (ok_count_ones T) (hr.mono (by decide)) rfl (T.g_count_ones) (T.k_count_ones) (T.b_count_ones) .nil pass0 (pa_cons (pv 8) pa_nil)) (pe_prop (pv 0) T.cl_Choice (T.pro_top_size) (ok_top_size T) (hr.mono (by decide)) (T.b_top_size) .nil pass0 (by rfl)) (nomark _)))) (fun _ _ _ _ _ => (pv 8)))
      (pss_cons (ps_set (i := 5) nd rfl (Or.inl rfl) (pe_call (ok_heap_word T) (hr.mono (by decide)) rfl (T.g_heap_word) (T.k_heap_word) (T.b_heap_word) .nil pass0 (pa_cons (pv 2) (pa_cons (pe_ix ix_list (pv 4) (pe_n 0) (fun _ _ => rfl)) pa_nil))))
      (pss_cons (ps_set (i := 6) nd rfl (Or.inl rfl) (pe_call (ok_places_of T) (hr.mono (by decide)) rfl (T.g_places_of) (T.k_places_of) (T.b_places_of) .nil pass0 (pa_cons (pv 2) (pa_cons (pv 5) pa_nil))))
      (pss_cons (ps_set (i := 7) nd rfl (Or.inl rfl) (pe_op o_div (pe_op o_sub (pv 3) (pv 1)) (pe_n 2)))
      (pss_one (ps_ret (pe_make (T.mk_TwoNear) (ok_TwoNear T) (hr.mono (by decide)) rfl (T.g_TwoNear) (T.b_TwoNear) .nil pass0 (pa_cons (pe_call (ok_marked_word T) (hr.mono (by decide)) rfl (T.g_marked_word) (T.k_marked_word) (T.b_marked_word) .nil pass0 (pa_cons (pv 2) (pa_cons (pe_slice sl_tupA (pv 6) (po_some (pv 1)) (po_some (pe_op o_add (pv 1) (pv 7)))) pa_nil))) (pa_cons (pe_slice sl_tupA (pv 6) po_none (po_some (pv 1))) (pa_cons (pe_n 0) (pa_cons (pv 5) pa_nil)))))))))))))))), ?_⟩
    obtain ⟨c, m, hs, x, rfl, hc, hne, hx, hw, q⟩ := h
    have h1 := hc.ch.m1
    have h5 := hc.ch.m5
    walk_at "rd"
    refine ⟨c, m, hs, rfl, hc, hne, ?_⟩
    walk_at "rd"
    refine rd_letters T hc ?_
    walk_at "rd"
    refine rd_top hc hne fun H1 s1 => ?_
    refine rd_n hc.tl ?_
    refine rd_n ⟨by omega, by omega⟩ ?_
    walk_at "rd"
    exact ⟨x, _, rfl, hx.mono s1, hw, fun d hd => q d _ (s1.trans (Sm.new hd)) upd_same⟩
  case len =>
    obtain ⟨c, m, hs, x, rfl, _⟩ := h
    rfl
def spTwoN : Sp := fun vs H _ E => ∃ (c : Addr) (m : Nat) (hs : List Nat) (k : Nat), vs = [.ref c, nv k] ∧ ChAt H c m hs ∧ hs ≠ [] ∧ k ≤ leastW m hs ∧ (leastW m hs - k) % 2 = 1 ∧ ∀ H', Sm H H' → E (.ref c_NoneNear) none H'
theorem sc_two_nearN : FnScope ["choice", "many", "letters", "least", "tops", "other", "marked", "half", "heap"] ["choice", "many"] (defScope (top 64)) := ⟨rfl, rfl, rfl, by decide +kernel, rfl, by decide +kernel, by decide +kernel⟩
theorem ok_two_nearN (T'' : TxX P K mg base) : FnOk P w K mg base (L2.CX P w) 8 a_two_near (fdOf K a_two_near) ["choice", "many"] spTwoN := by
  have T' := T''.toTxB
  have T := T'.toTxt
  refine T.f_two_near.ok sc_two_nearN (fun vs H Q E h => ?len) (fun cdv A outer s H vs Q E hr h => ?body)
  case body =>
    have nd := sc_two_nearN.nd
    refine ⟨_, (pss_cons (ps_expr (pe_call (ok_check_some T) (hr.mono (by decide)) rfl (T.g_check_some) (T.k_check_some) (T.b_check_some) .nil pass0 (pa_cons (pv 0) pa_nil)))
      (pss_cons (ps_set (i := 2) nd rfl (Or.inl rfl) (pe_fld (pv 0) rfl))
      (pss_cons (ps_set (i := 3) nd rfl (Or.inl rfl) (pe_op o_shl (pe_n 1) (pe_op o_sub (pv 2) (pe_prop (pv 0) T.cl_Choice (T.pro_top_size) (ok_top_size T) (hr.mono (by decide)) (T.b_top_size) .nil pass0 (by rfl)))))
      (pss_cons (ps_expr (pe_call (ok_check_number T) (hr.mono (by decide)) rfl (T.g_check_number) (T.k_check_number) (T.b_check_number) .nil pass0 (pa_cons (pv 1) (pa_cons (pv 3) pa_nil))))
      (pss_cons (ps_if (pt_num (pe_op o_and (pe_op o_sub (pv 3) (pv 1)) (pe_n 1))) (pss_one (ps_raise rfl (takes_of rfl rfl rfl rfl) (pmk_None (k := 0) T'' (hr.mono (by decide)) rfl))) pss_nil)
      (pss_cons (ps_setLc (i := 4) (own := [("heap", 8)]) rfl nd rfl rfl (sw_true rfl rfl rfl (by decide +kernel)) (pi_tup (pe_fld (pv 0) rfl)) (blkOk_by (N := ["choice", "many", "letters", "least", "tops", "other", "marked", "half", "heap"]) (sc := defScope (top 64)) (by decide +kernel)) (fun _ _ _ _ _ => (pg_name (i := 8) nd rfl (.inl rfl))) (fun _ _ _ _ _ => (pts_one (pt_cmpR o_eq (pe_call (ok_count_ones T) (hr.mono (by decide)) rfl (T.g_count_ones) (T.k_count_ones) (T.b_count_ones) .nil pass0 (pa_cons (pv 8) pa_nil)) (pe_prop (pv 0) T.cl_Choice (T.pro_top_size) (ok_top_size T) (hr.mono (by decide)) (T.b_top_size) .nil pass0 (by rfl)) (nomark _)))) (fun _ _ _ _ _ => (pv 8)))
      (pss_cons (ps_set (i := 5) nd rfl (Or.inl rfl) (pe_call (ok_heap_word T) (hr.mono (by decide)) rfl (T.g_heap_word) (T.k_heap_word) (T.b_heap_word) .nil pass0 (pa_cons (pv 2) (pa_cons (pe_ix ix_list (pv 4) (pe_n 0) (fun _ _ => rfl)) pa_nil))))
      (pss_cons (ps_set (i := 6) nd rfl (Or.inl rfl) (pe_call (ok_places_of T) (hr.mono (by decide)) rfl (T.g_places_of) (T.k_places_of) (T.b_places_of) .nil pass0 (pa_cons (pv 2) (pa_cons (pv 5) pa_nil))))
      (pss_cons (ps_set (i := 7) nd rfl (Or.inl rfl) (pe_op o_div (pe_op o_sub (pv 3) (pv 1)) (pe_n 2)))
      (pss_one (ps_ret (pe_make (T.mk_TwoNear) (ok_TwoNear T) (hr.mono (by decide)) rfl (T.g_TwoNear) (T.b_TwoNear) .nil pass0 (pa_cons (pe_call (ok_marked_word T) (hr.mono (by decide)) rfl (T.g_marked_word) (T.k_marked_word) (T.b_marked_word) .nil pass0 (pa_cons (pv 2) (pa_cons (pe_slice sl_tupA (pv 6) (po_some (pv 1)) (po_some (pe_op o_add (pv 1) (pv 7)))) pa_nil))) (pa_cons (pe_slice sl_tupA (pv 6) po_none (po_some (pv 1))) (pa_cons (pe_n 0) (pa_cons (pv 5) pa_nil)))))))))))))))), ?_⟩
    obtain ⟨c, m, hs, k, rfl, hc, hne, hk, hk2, q⟩ := h
    have h1 := hc.ch.m1
    have h5 := hc.ch.m5
    walk_at "rd"
    refine ⟨c, m, hs, rfl, hc, hne, ?_⟩
    walk_at "rd"
    refine rd_letters T hc ?_
    walk_at "rd"
    refine rd_top hc hne fun H1 s1 => ?_
    refine rd_n hc.tl ?_
    refine rd_n ⟨by omega, by omega⟩ ?_
    walk_at "rd"
    refine ⟨k, _, rfl, hk, ?_⟩
    walk_at "rd"
    have hL : 1 <<< (m - tops hs) = leastW m hs := rfl
    rw [hL]
    refine rd_n hk ?_
    walk_at "rd"
    rw [Nat.and_one_is_mod, hk2]
    refine tdec (fun z => absurd z (by decide)) fun _ => ?_
    walk_at "rd"
    exact q _ s1
  case len =>
    obtain ⟨c, m, hs, k, rfl, _⟩ := h
    rfl
end
end G
set_option maxHeartbeats 4000000
-- text D35
namespace G
open PySem PySem.Spec PyProof.Rows L2 M GG LamX
/-- what _law_caught makes of an exception -/
def ECaught (Q : VK) : XK := fun cls d H' => (cls = .ref c_EmptyChoice ∧ ∀ l, H' l = none → Q (.ref l) (upd H' l (.lst [.str "EmptyChoice"]))) ∨ (cls = .ref c_NoneNear ∧ ∀ l, H' l = none → Q (.ref l) (upd H' l (.lst [.str "NoneNear"]))) ∨
  (cls = .ref c_BadNumber ∧ ∃ dd v, d = some dd ∧ H' dd = some (.xd [("most", v)]) ∧ ∀ l, H' l = none → Q (.ref l) (upd H' l (.lst [.str "BadNumber", v])))
def TTc : (XK → Hp → VK → Prop) → Hp → VK → Prop := fun tl H Q => tl (ECaught Q) H fun _ H' => Q .non H'
theorem sc__law_caught : FnScope ["_law_call", "e"] ["_law_call"] (defScope (top 113)) := ⟨rfl, rfl, rfl, by decide +kernel, rfl, by decide +kernel, by decide +kernel⟩
section
variable {X : Cx}
theorem xf_of {K : PySem.W.Frag} {C i : Addr} (e : ExOk K C i) : XfC K C := ⟨e.ga, e.gt, e.ox.exC, e.hd⟩
theorem gs_never {X : Cx} {st : List Stmt} : PSs X st (fun _ _ _ => False) := ⟨fun _ _ _ _ _ _ h => h.elim⟩
theorem caught_gives (T'' : TxX X.prog X.K X.mg X.base) {q : Str} {cdg : Value} : GivesTo X ["_law_call", "e"] "_law_caught" (defScope (top 113)) a_law_caught cdg (defBody (top 113)) "_law_call" q TTc := by
  have T := T''.toTxB.toTxt
  intro f c' s H Q tl act hc h
  refine ⟨_, pss_cons (GX.ps_try_mix (X := (cxOf C8.CX0 X.prog X.w X.K X.mg X.base ["_law_call", "e"] "_law_caught" (defScope (top 113)) a_law_caught cdg X.A X.stack s H C8.E0).nox)
      (tb := fun W D σ H => ∃ Ech : XK, (∀ cls d σ' H', Ech cls d H' → W cls d σ' H') ∧ σ[0]? = some (some (.ref f)) ∧ H c' = some (CodeO c' q) ∧ tl Ech H fun _ H' => D.nx σ H')
      rfl rfl sc__law_caught.nd takes0 (fun W pn xe tk _ => ?body)
      (.cons (c := .ref c_BadLetters) .no ⟨rfl, by decide, .inl T.g_BadLetters⟩ (fun a oe cls d pn _ _ => gs_never)
      (.cons (c := .ref c_BadWord) (.yes (i := 1) rfl rfl) ⟨rfl, by decide, .inl T.g_BadWord⟩ (fun a oe cls d pn _ _ => gs_never)
      (.cons (c := .ref c_BadHeap) (.yes (i := 1) rfl rfl) ⟨rfl, by decide, .inl T.g_BadHeap⟩ (fun a oe cls d pn _ _ => gs_never)
      (.cons (c := .ref c_BadPlaces) (.yes (i := 1) rfl rfl) ⟨rfl, by decide, .inl T.g_BadPlaces⟩ (fun a oe cls d pn _ _ => gs_never)
      (.cons (c := .ref c_BadNumber) (.yes (i := 1) rfl rfl) ⟨rfl, by decide, .inl T.g_BadNumber⟩ (fun a oe cls d pn hz hf => pss_one (ps_ret (pe_lst (pa_cons pe_str (pa_cons (pe_xf (xf_of (excB_ok T.ex_BadNumber)) T.no_BadNumber_most hz hf (pv 1)) pa_nil)))))
      (.cons (c := .ref c_TooMany) (.yes (i := 1) rfl rfl) ⟨rfl, by decide, .inl T.g_TooMany⟩ (fun a oe cls d pn _ _ => gs_never)
      (.cons (c := .ref c_EmptyChoice) .no ⟨rfl, by decide, .inl T.g_EmptyChoice⟩ (fun a oe cls d pn _ _ => pss_one (ps_ret (pe_lst (pa_cons pe_str pa_nil))))
      (.cons (c := .ref c_NoneNear) .no ⟨rfl, by decide, .inl T.g_NoneNear⟩ (fun a oe cls d pn _ _ => pss_one (ps_ret (pe_lst (pa_cons pe_str pa_nil)))) .nil)))))))))
    (pss_one (ps_ret pe_non)), ?_⟩
  case body =>
    refine ⟨fun pins s' σ H' D I h' => ?_⟩
    obtain ⟨Ech, hW, h1, h2, h3⟩ := h'
    exact PSs.run (pss_one (ps_expr (act W pn xe Ech _ _ tk hW))) pins s' σ H' D I ⟨h1, h2, h3⟩
  refine ⟨ECaught Q, fun cls d σ' H' he => ?_, rfl, hc, h⟩
  have fl : ∀ {p : Prop}, (false = true → p) := fun z => nomatch z
  have tr : ∀ {p : Prop}, (true = false → p) := fun z => nomatch z
  rcases he with ⟨rfl, he⟩ | ⟨rfl, he⟩ | ⟨rfl, dd, v, rfl, hd, he⟩
  · refine ⟨_, T.exm_EmptyChoice_BadLetters, fl, fun _ => ⟨_, T.exm_EmptyChoice_BadWord, fl, fun _ => ⟨_, T.exm_EmptyChoice_BadHeap, fl, fun _ => ⟨_, T.exm_EmptyChoice_BadPlaces, fl, fun _ => ⟨_, T.exm_EmptyChoice_BadNumber, fl, fun _ => ⟨_, T.exm_EmptyChoice_TooMany, fl, fun _ => ⟨_, T.exm_EmptyChoice_EmptyChoice, fun _ a ha => ?_, tr⟩⟩⟩⟩⟩⟩⟩
    exact ⟨by rw [sizeLine_eq]; show 1 ≤ 16777216; omega, fun l hl => he l hl⟩
  · refine ⟨_, T.exm_NoneNear_BadLetters, fl, fun _ => ⟨_, T.exm_NoneNear_BadWord, fl, fun _ => ⟨_, T.exm_NoneNear_BadHeap, fl, fun _ => ⟨_, T.exm_NoneNear_BadPlaces, fl, fun _ => ⟨_, T.exm_NoneNear_BadNumber, fl, fun _ => ⟨_, T.exm_NoneNear_TooMany, fl, fun _ => ⟨_, T.exm_NoneNear_EmptyChoice, fl, fun _ => ⟨_, T.exm_NoneNear_NoneNear, fun _ a ha => ?_, tr⟩⟩⟩⟩⟩⟩⟩⟩
    exact ⟨by rw [sizeLine_eq]; show 1 ≤ 16777216; omega, fun l hl => he l hl⟩
  · refine ⟨_, T.exm_BadNumber_BadLetters, fl, fun _ => ⟨_, T.exm_BadNumber_BadWord, fl, fun _ => ⟨_, T.exm_BadNumber_BadHeap, fl, fun _ => ⟨_, T.exm_BadNumber_BadPlaces, fl, fun _ => ⟨_, T.exm_BadNumber_BadNumber, fun _ a ha hlen => ?_, tr⟩⟩⟩⟩⟩
    refine ⟨.ref a, ?_, rfl, rfl, dd, _, v, rfl, hd, rfl, by rw [sizeLine_eq]; show 2 ≤ 16777216; omega, fun l hl => he l hl⟩
    rw [List.getElem?_set_self (by rw [hlen]; show 1 < 2; omega)]
end
end G
set_option maxHeartbeats 4000000
-- text D36
namespace G
open PySem PySem.Spec PyProof.Rows L2 M GG
section
variable {P : Program} {w : World} {K : PySem.W.Frag} {mg : Str → Option Value} {base : Heap}
def spBadN (K : PySem.W.Frag) : Sp := fun vs H Q _ => ∃ (a p : Addr) (n : Nat), vs = [.ref a, nv n] ∧ HandAt H a p ∧ ∀ x H', okV H' x → wholeV 0 (n : Nat) x = false → Hg K a p H H' → Q x H'
theorem sc__law_bad_number : FnScope ["_law_hand_here", "_law_most"] ["_law_hand_here", "_law_most"] (defScope (top 114)) := ⟨rfl, rfl, rfl, by decide +kernel, rfl, by decide +kernel, by decide +kernel⟩
theorem ok__law_bad_number (T : Txt K mg) : FnOk P w K mg base CX0 3 a_law_bad_number (fdOf K a_law_bad_number) ["_law_hand_here", "_law_most"] (spBadN K) := by
  refine T.f__law_bad_number.ok sc__law_bad_number (fun vs H Q E h => ?len) (fun cdv A outer s H vs Q E hr h => ?body)
  case body =>
    have nd := sc__law_bad_number.nd
    refine ⟨_, PSs.nox (pss_one (ps_ret (pe_ix ix_list (pe_lst (pa_cons (pe_un un_neg (pe_n 1)) (pa_cons (pe_op o_add (pv 1) (pe_n 1)) (pa_cons pe_bl (pa_cons pe_str (pa_cons (pe_tup (pa_cons (pe_n 0) pa_nil)) (pa_cons (pe_op o_add (pe_op o_add (pv 1) (pe_n 1)) (pe_call (ok__law_draw T) (hr.mono (by decide)) rfl (T.g__law_draw) (T.k__law_draw) (T.b__law_draw) .nil pass0 (pa_cons (pv 0) (pa_cons (pe_op o_pow (pe_n 10) (pe_n 9)) pa_nil)))) pa_nil))))))) (pe_call (ok__law_draw T) (hr.mono (by decide)) rfl (T.g__law_draw) (T.k__law_draw) (T.b__law_draw) .nil pass0 (pa_cons (pv 0) (pa_cons (pe_n 6) pa_nil))) (fun _ _ => rfl)))), ?_⟩
    obtain ⟨a, p, n, rfl, ha, q⟩ := h
    walk_at "rd"
    refine ⟨by rw [sizeLine_eq]; show 1 ≤ 16777216; omega, fun tp htp => ?_⟩
    have s1 : Sm H (upd H tp (.tup [V.int ((0 : Nat) : Int)])) := Sm.new htp
    have e1 : upd H tp (.tup [V.int ((0 : Nat) : Int)]) tp = some (.tup [V.int ((0 : Nat) : Int)]) := upd_same
    have ha1 : HandAt _ a p := ha.hg (K := K) s1.hg
    walk_at "rd"
    refine rd_n ⟨by decide, by decide⟩ ?_
    refine ⟨a, p, 10 ^ 9, rfl, by decide, by decide, ha1, fun k H2 hk g2 => ?_⟩
    have g12 : Hg K a p H H2 := s1.hg.trans g2
    have ha2 := ha1.hg g2
    have e2 := g2.tup ha1 e1
    walk_at "rd"
    refine ⟨by rw [sizeLine_eq]; show 6 ≤ 16777216; omega, fun lp hlp => ?_⟩
    have s3 := Sm.new (o := .lst [V.int (-((1 : Nat) : Int)), nv (n + 1), .bl true, .str "0", .ref tp, nv (n + 1 + k)]) hlp
    have e3 : upd H2 lp (.lst [V.int (-((1 : Nat) : Int)), nv (n + 1), .bl true, .str "0", .ref tp, nv (n + 1 + k)]) lp = some (.lst [V.int (-((1 : Nat) : Int)), nv (n + 1), .bl true, .str "0", .ref tp, nv (n + 1 + k)]) := upd_same
    have ha3 : HandAt _ a p := ha2.hg (K := K) s3.hg
    have n3 : lp ≠ a := fun z => by
      obtain ⟨cs, i, r, t, e, _⟩ := ha2
      rw [z, e] at hlp; cases hlp
    walk_at "rd"
    refine ⟨a, p, 6, rfl, by decide, by decide, ha3, fun j H4 hj g4 => ?_⟩
    have g14 : Hg K a p H H4 := (g12.trans s3.hg).trans g4
    have e4 := g4.lst n3 e3
    have et4 := g4.tup ha3 (s3 _ _ e2)
    have big : ∀ i : Nat, n < i → wholeV 0 (n : Nat) (nv i) = false := fun i hi => by
      show (decide ((0 : Int) ≤ (i : Int)) && decide ((i : Int) ≤ (n : Int))) = false
      rw [decide_eq_false (by omega : ¬ ((i : Int) ≤ (n : Int))), Bool.and_false]
    have hj2 : j = 0 ∨ j = 1 ∨ j = 2 ∨ j = 3 ∨ j = 4 ∨ j = 5 := by omega
    rcases hj2 with rfl | rfl | rfl | rfl | rfl | rfl
    · refine rd_ixL e4 rfl ?_
      exact q _ _ trivial rfl g14
    · refine rd_ixL e4 rfl ?_
      exact q _ _ trivial (big _ (by omega)) g14
    · refine rd_ixL e4 rfl ?_
      exact q _ _ trivial rfl g14
    · refine rd_ixL e4 rfl ?_
      exact q _ _ trivial rfl g14
    · refine rd_ixL e4 rfl ?_
      exact q _ _ ⟨_, et4⟩ rfl g14
    · refine rd_ixL e4 rfl ?_
      exact q _ _ trivial (big _ (by omega)) g14
  case len =>
    obtain ⟨a, p, n, rfl, _⟩ := h
    rfl
end
end G
set_option maxHeartbeats 4000000
-- text D37
namespace G
open PySem PySem.Spec PyProof.Rows L2 M GG
section
variable {P : Program} {w : World} {K : PySem.W.Frag} {mg : Str → Option Value} {base : Heap}
theorem Txt.bk_two_near (T : Txt K mg) : KBn K (fdOf K a_two_near) ["choice", "many"] 1 ["many"] (fun us ws => us ++ ws) (fun vs zs => vs ++ zs) := by
  obtain ⟨oc, od, dV, kV, doc, pm, an, cdv, ct, osl, e, lk, hcd, hD, hK⟩ := T.f_two_near.ex
  rw [e]
  rcases hD with ⟨z, _⟩ | ⟨_, Ta, o, its, m, rfl, lT, oT, rT⟩
  · cases z
  · refine ⟨fun s us ws X l1 l2 => ?_, fun r1 r2 => r1.append r2⟩
    obtain ⟨i, rfl⟩ : ∃ i, its = [i] := by
      have := rT.length
      match its, this with
      | [i], _ => exact ⟨i, rfl⟩
    match us, ws, l1, l2 with
    | [a], [b], _, _ => exact BindsTo.of_defaults (s := s) (o := o) (items := [i].toArray) (n := m) (T := Ta) rfl (X _ _ lT) oT rfl rfl
/-- _law_caught(lambda: body) -/
theorem pe_caught {X : Cx} {TT : List (Addr × Str)} {c Pt : Addr} {k : Nat} {params : Arguments} {body : Expr} {scope : Scope} {t : XK → TE} {p lpos pos : Pos} (T'' : TxX X.prog X.K X.mg X.base) (hg : Gl X "_law_caught")
    (TB : TabB X.base X.mg c Pt) (hcode : X.env.code = .ref c) (hmT : (Pt, X.env.qual ++ "<lambda>") ∈ TT) (hu : ∀ p ∈ TT, p.1 = Pt → p.2 = X.env.qual ++ "<lambda>") (hr : Room (k + 2) X.A) (L : LamX.LamS X.env.scope scope) (hdef : defaultsOf params X.env = ([], []))
    (hbind : ∀ (q : Str) (cl : List (Str × Addr)) (pm cv ctv : Value), bindArgs (PySem.W.kla_fn "<lambda>" q params body scope cl pm cv ctv) ⟨[], []⟩ = pure [])
    (hbody : ∀ (A : Around) (outer : List Env) (s : Shared) (H : Hp) (E : XK) (f c' : Addr), Room k (A.deeper (LamX.lamEnv X scope s.heap.objs.size f c')) → PE (LamX.lamCx X A outer s H E scope f c') body (t E)) :
    PE X (.Call (.Name "_law_caught" p) [.Lambda params body scope lpos] [] pos) (LamX.tLam TT TTc t) := by
  have T := T''.toTxB.toTxt
  obtain ⟨oc, od, dV, kV, doc, pm, an, cdv, ct, osl, e, lk, hcd, hD, hK⟩ := T.f__law_caught.ex
  have hb := T.b__law_caught
  rw [e] at hb lk
  exact LamX.pe_lamcall (x := "_law_caught") (a := "_law_call") hg T.g__law_caught T.k__law_caught lk hcd hb sc__law_caught rfl (.inl (by decide +kernel)) (caught_gives T'') TB hcode hmT hu hr L hdef hbind hbody
end
end G
set_option maxHeartbeats 4000000
-- text M3
/-! # by trying all: heaps, their words, flats of at most five letters -/
namespace M
open G
abbrev mms : List Nat := [1, 2, 3, 4, 5]
theorem mem_mms {m : Nat} (h1 : 1 ≤ m) (h5 : m ≤ 5) : m ∈ mms := by
  have : m = 1 ∨ m = 2 ∨ m = 3 ∨ m = 4 ∨ m = 5 := by omega
  rcases this with rfl | rfl | rfl | rfl | rfl <;> decide
theorem b_step : ∀ m ∈ mms, ∀ p ∈ List.range (2 ^ m), stepped m (stepped m (1 <<< p)) = 1 <<< p := by decide +kernel
theorem b_votes : ∀ m ∈ mms, ∀ g ∈ List.range (2 ^ m), ∀ h ∈ List.range (2 ^ m), ones g ≤ ones h → ∀ p ∈ firstPl m h, (folded h (heapW m g) >>> p &&& 1) = if g = h then 1 else 0 := by decide +kernel
theorem b_spoil : ∀ m ∈ mms, ∀ p ∈ List.range (2 ^ m), ∀ h ∈ List.range (2 ^ m), spoilt m (1 <<< p) h ≤ 1 := by decide +kernel
theorem b_first : ∀ m ∈ mms, ∀ h ∈ List.range (2 ^ m), (firstPl m h).length = 2 ^ (m - ones h) := by decide +kernel
theorem b_law : ∀ m ∈ mms, ∀ h ∈ List.range (2 ^ m), lawHW m h = heapW m h := by decide +kernel
theorem b_ones : ∀ m ∈ mms, ∀ h ∈ List.range (2 ^ m), ones (heapW m h) = 2 ^ (m - ones h) := by decide +kernel
theorem b_free : ∀ h ∈ List.range 32, freeB h ≤ 9 := by decide +kernel
theorem b_desc : ∀ m ∈ mms, ∀ h ∈ List.range (2 ^ m), ∀ g ∈ descF h, below g h = true ∧ g < 2 ^ m := by decide +kernel
theorem b_clos : ∀ m ∈ mms, ∀ h ∈ List.range (2 ^ m), ∀ l ∈ lettersOf h, below (h ^^^ 1 <<< l) h = true ∧ h ^^^ 1 <<< l < 2 ^ m := by decide +kernel
theorem b_top : ∀ m ∈ mms, ∀ h ∈ List.range (2 ^ m), ones h = m → ∀ f ∈ List.range (2 ^ m), below f h = true := by decide +kernel
theorem b_zero : ∀ h ∈ List.range 32, below 0 h = true := by decide +kernel
theorem b_flat : ∀ m ∈ mms, ∀ h ∈ List.range (2 ^ m), ∀ b ∈ List.range (1 <<< freeB h), ones (flatF m (formsF h b)) = 2 ^ (m - ones h) ∧ flatF m (formsF h b) ≤ full m := by decide +kernel
theorem b_good : ∀ m ∈ mms, ∀ h ∈ List.range (2 ^ m), ∀ b ∈ List.range (1 <<< freeB h), (formsF h b).length ≤ 5 ∧ (∀ f ∈ formsF h b, 1 ≤ f.1 ∧ f.1 < 2 ^ m ∧ f.2 ≤ 1) ∧ ∀ i ∈ List.range 5, ((formsF h b)[i]?.all fun f => !(lotSums (((formsF h b).take i).map (·.1))).contains f.1) = true := by decide +kernel
end M
set_option maxHeartbeats 4000000
-- text M4
/-! # words are sums: counting, linearity -/
namespace M
open G
/-! ### counting ones -/
def cnt (n u : Nat) : Nat := (List.range n).countP fun i => u.testBit i
theorem cnt_succ (n u : Nat) : cnt (n + 1) u = u % 2 + cnt n (u / 2) := by
  unfold cnt
  rw [List.range_succ_eq_map, List.countP_cons, List.countP_map]
  have e : (List.range n).countP ((fun i => u.testBit i) ∘ Nat.succ) = (List.range n).countP fun i => (u / 2).testBit i := by
    apply List.countP_congr
    intro i _
    show u.testBit (i + 1) = true ↔ _
    rw [Nat.testBit_succ]
  rw [e, Nat.testBit_zero]
  rcases Nat.mod_two_eq_zero_or_one u with h | h
  · rw [h]; simp
  · rw [h]; simp; omega
theorem ones_cnt : ∀ (n u : Nat), u < 2 ^ n → ones u = cnt n u := by
  intro n
  induction n with
  | zero =>
    intro u h
    have : u = 0 := by simpa using h
    subst this; rfl
  | succ n ih =>
    intro u h
    rw [ones_eq, cnt_succ, ih (u / 2) (by rw [Nat.pow_succ] at h; omega)]
theorem bound2 (a b : Nat) : ∃ n, a < 2 ^ n ∧ b < 2 ^ n :=
  ⟨max a b, Nat.lt_of_le_of_lt (Nat.le_max_left a b) Nat.lt_two_pow_self, Nat.lt_of_le_of_lt (Nat.le_max_right a b) Nat.lt_two_pow_self⟩
theorem ones_xor (a b : Nat) : ones (a ^^^ b) ≤ ones a + ones b := by
  obtain ⟨n, ha, hb⟩ := bound2 a b
  rw [ones_cnt n _ (Nat.xor_lt_two_pow ha hb), ones_cnt n a ha, ones_cnt n b hb]
  unfold cnt
  generalize List.range n = L
  induction L with
  | nil => simp
  | cons i r ih =>
    rw [List.countP_cons, List.countP_cons, List.countP_cons]
    generalize List.countP (fun i => (a ^^^ b).testBit i) r = x at *
    generalize List.countP (fun i => a.testBit i) r = y at *
    generalize List.countP (fun i => b.testBit i) r = z at *
    rw [Nat.testBit_xor]
    cases a.testBit i <;> cases b.testBit i <;> simp <;> omega
theorem ones_mono {a b : Nat} (h : ∀ i, a.testBit i = true → b.testBit i = true) : ones a ≤ ones b := by
  obtain ⟨n, ha, hb⟩ := bound2 a b
  rw [ones_cnt n a ha, ones_cnt n b hb]
  exact List.countP_mono_left fun i _ e => h i e
theorem ones_and (a b : Nat) : ones (a &&& b) ≤ ones b := ones_mono fun i e => by
  rw [Nat.testBit_and] at e
  exact (Bool.and_eq_true _ _ ▸ e).2
theorem onesOf_len {m u : Nat} (h : u ≤ full m) : (onesOf m u).length = ones u := by
  rw [ones_cnt (2 ^ m) u (le_full.mp h)]
  unfold onesOf cnt
  rw [List.countP_eq_length_filter, shl_one]
  congr 1
  exact List.filter_congr fun i _ => bit_ne u i
theorem ones_pos {u : Nat} (h : u ≠ 0) : 1 ≤ ones u := by
  obtain ⟨n, ha, _⟩ := bound2 u u
  rw [ones_cnt n u ha]
  have : ∃ i, u.testBit i = true := by
    apply Classical.byContradiction
    intro z
    apply h
    apply Nat.eq_of_testBit_eq
    intro i
    rw [Nat.zero_testBit]
    cases e : u.testBit i with
    | false => rfl
    | true => exact absurd ⟨i, e⟩ z
  obtain ⟨i, hi⟩ := this
  refine List.countP_pos_iff.mpr ⟨i, List.mem_range.mpr ?_, hi⟩
  apply Classical.byContradiction
  intro z
  have := Nat.testBit_lt_two_pow (Nat.lt_of_lt_of_le ha (Nat.pow_le_pow_right (n := 2) (by decide) (by omega : n ≤ i)))
  rw [hi] at this; cases this
/-! ### linearity -/
theorem stp_xor (m a b l : Nat) : stp m (a ^^^ b) l = stp m a l ^^^ stp m b l := by
  apply Nat.eq_of_testBit_eq
  intro i
  unfold stp
  simp only [Nat.testBit_xor, Nat.testBit_and, Nat.testBit_shiftLeft]
  cases a.testBit i <;> cases b.testBit i <;> cases a.testBit (i - 1 <<< l) <;> cases b.testBit (i - 1 <<< l) <;> cases (without l).testBit (i - 1 <<< l) <;> cases decide (i ≥ 1 <<< l) <;> cases (full m).testBit i <;> rfl
theorem fold_xor {F : Nat → Nat → Nat} (hF : ∀ a b l, F (a ^^^ b) l = F a l ^^^ F b l) : ∀ (L : List Nat) (a b : Nat), L.foldl F (a ^^^ b) = L.foldl F a ^^^ L.foldl F b
  | [], a, b => rfl
  | l :: L, a, b => by rw [List.foldl_cons, List.foldl_cons, List.foldl_cons, hF, fold_xor hF L]
theorem stepped_xor (m a b : Nat) : stepped m (a ^^^ b) = stepped m a ^^^ stepped m b := fold_xor (fun a b l => stp_xor m a b l) _ a b
theorem folded_xor (h a b : Nat) : folded h (a ^^^ b) = folded h a ^^^ folded h b := by
  unfold folded
  refine fold_xor (F := fun f l => f ^^^ f >>> (1 <<< l)) (fun a b l => ?_) _ a b
  apply Nat.eq_of_testBit_eq
  intro i
  simp only [Nat.testBit_xor, Nat.testBit_shiftRight]
  cases a.testBit i <;> cases b.testBit i <;> cases a.testBit (1 <<< l + i) <;> cases b.testBit (1 <<< l + i) <;> rfl
theorem lin_zero {F : Nat → Nat} (hF : ∀ a b, F (a ^^^ b) = F a ^^^ F b) : F 0 = 0 := by
  have := hF 0 0
  rw [Nat.xor_self] at this
  rw [Nat.xor_self] at this
  exact this
theorem lin_all {F : Nat → Nat} (hF : ∀ a b, F (a ^^^ b) = F a ^^^ F b) : ∀ ws : List Nat, F (xorAll ws) = xorAll (ws.map F)
  | [] => lin_zero hF
  | w :: ws => by
    show F (w ^^^ xorAll ws) = F w ^^^ xorAll (ws.map F)
    rw [hF, lin_all hF ws]
theorem xorAll_cons (a : Nat) (l : List Nat) : xorAll (a :: l) = a ^^^ xorAll l := rfl
theorem xorAll_append (a b : List Nat) : xorAll (a ++ b) = xorAll a ^^^ xorAll b := by
  induction a with
  | nil => rw [List.nil_append]; show _ = 0 ^^^ _; rw [Nat.zero_xor]
  | cons x r ih => rw [List.cons_append, xorAll_cons, xorAll_cons, ih, Nat.xor_assoc]
theorem xorAll_perm {a b : List Nat} (p : a.Perm b) : xorAll a = xorAll b := by
  induction p with
  | nil => rfl
  | cons x _ ih => rw [xorAll_cons, xorAll_cons, ih]
  | swap x y l => rw [xorAll_cons, xorAll_cons, xorAll_cons, xorAll_cons, ← Nat.xor_assoc, ← Nat.xor_assoc, Nat.xor_comm x y]
  | trans _ _ h1 h2 => exact h1.trans h2
theorem xorAll_le {m : Nat} : ∀ {ws : List Nat}, (∀ w ∈ ws, w ≤ full m) → xorAll ws ≤ full m
  | [], _ => Nat.zero_le _
  | w :: ws, h => by
    have h1 := le_full.mp (h w List.mem_cons_self)
    have h2 := le_full.mp (xorAll_le fun x hx => h x (List.mem_cons_of_mem _ hx))
    exact le_full.mpr (Nat.xor_lt_two_pow h1 h2)
theorem bits_tb : ∀ {L : List Nat}, L.Nodup → ∀ i, (xorAll (L.map (1 <<< ·))).testBit i = decide (i ∈ L)
  | [], _, i => by show (0 : Nat).testBit i = _; rw [Nat.zero_testBit]; simp
  | a :: L, h, i => by
    obtain ⟨h1, h2⟩ := List.nodup_cons.mp h
    rw [List.map_cons, xorAll_cons, Nat.testBit_xor, bits_tb h2, shl_one, Nat.testBit_two_pow]
    by_cases z : i = a
    · subst z; simp [h1]
    · have z2 : ¬ a = i := fun e => z e.symm
      simp [z, z2]
theorem word_bits {m u : Nat} (h : u ≤ full m) : u = xorAll ((onesOf m u).map (1 <<< ·)) := by
  apply Nat.eq_of_testBit_eq
  intro i
  have nd : (onesOf m u).Nodup := (onesOf_asc m u).imp fun h => Nat.ne_of_lt h
  rw [bits_tb nd]
  by_cases hi : i < 2 ^ m
  · cases e : u.testBit i with
    | true => exact (decide_eq_true (mem_onesOf.mpr ⟨hi, e⟩)).symm
    | false => exact (decide_eq_false fun z => by rw [(mem_onesOf.mp z).2] at e; cases e).symm
  · rw [Nat.testBit_lt_two_pow (Nat.lt_of_lt_of_le (le_full.mp h) (Nat.pow_le_pow_right (by decide) (by omega)))]
    exact (decide_eq_false fun z => hi (mem_onesOf.mp z).1).symm
theorem ones_mark {m : Nat} {ys : List Nat} (h : ∀ y ∈ ys, y < 2 ^ m) (nd : ys.Nodup) : ones (mark ys) = ys.length := by
  have hf := mark_le h
  rw [← onesOf_len hf]
  have p : (onesOf m (mark ys)).Perm ys := by
    refine (List.perm_ext_iff_of_nodup ((onesOf_asc _ _).imp fun h => Nat.ne_of_lt h) nd).mpr fun i => ?_
    rw [mem_onesOf, mark_tb]
    exact ⟨fun z => of_decide_eq_true z.2, fun z => ⟨h i z, decide_eq_true z⟩⟩
  exact p.length_eq
theorem stepped_two {m u : Nat} (h1 : 1 ≤ m) (h5 : m ≤ 5) (h : u ≤ full m) : stepped m (stepped m u) = u := by
  have e := word_bits h
  have L1 := lin_all (F := fun w => stepped m (stepped m w)) (fun a b => by rw [stepped_xor, stepped_xor]) ((onesOf m u).map (1 <<< ·))
  rw [← e, List.map_map] at L1
  have : (onesOf m u).map ((fun w => stepped m (stepped m w)) ∘ (1 <<< ·)) = (onesOf m u).map (1 <<< ·) := List.map_congr_left fun p hp =>
    b_step m (mem_mms h1 h5) p (List.mem_range.mpr (mem_onesOf.mp hp).1)
  rw [this, ← e] at L1
  exact L1
/-! ### words of a code -/
/-- a word of the code -/
def CodeW (m : Nat) (hs : List Nat) (c : Nat) : Prop := ∃ S : List Nat, S.Nodup ∧ (∀ h ∈ S, h ∈ hs) ∧ c = xorAll (S.map (heapW m))
theorem heapsOf_sum {m u : Nat} (h1 : 1 ≤ m) (h5 : m ≤ 5) (h : u ≤ full m) (hst : stepped m u ≤ full m) : u = xorAll ((heapsOf m u).map (heapW m)) := by
  have e := word_bits hst
  have L1 := lin_all (F := stepped m) (fun a b => stepped_xor m a b) ((onesOf m (stepped m u)).map (1 <<< ·))
  rw [← e, stepped_two h1 h5 h, List.map_map] at L1
  exact L1
theorem votes_bit {m : Nat} (h1 : 1 ≤ m) (h5 : m ≤ 5) {h p : Nat} (hh : h < 2 ^ m) (hp : p ∈ firstPl m h) : ∀ {S : List Nat}, S.Nodup → (∀ g ∈ S, g < 2 ^ m ∧ ones g ≤ ones h) → (folded h (xorAll (S.map (heapW m)))).testBit p = decide (h ∈ S)
  | [], _, _ => by
    show (folded h 0).testBit p = _
    rw [lin_zero (fun a b => folded_xor h a b), Nat.zero_testBit]; simp
  | g :: S, nd, hS => by
    obtain ⟨n1, n2⟩ := List.nodup_cons.mp nd
    obtain ⟨hg, ho⟩ := hS g List.mem_cons_self
    have ih := votes_bit h1 h5 hh hp n2 fun x hx => hS x (List.mem_cons_of_mem _ hx)
    have b := b_votes m (mem_mms h1 h5) g (List.mem_range.mpr hg) h (List.mem_range.mpr hh) ho p hp
    rw [bit_tb] at b
    rw [List.map_cons, xorAll_cons, folded_xor, Nat.testBit_xor, ih]
    by_cases z : g = h
    · subst z
      rw [if_pos rfl] at b
      have : (folded g (heapW m g)).testBit p = true := by
        cases e : (folded g (heapW m g)).testBit p with
        | true => rfl
        | false => rw [e] at b; simp at b
      rw [this]; simp [n1]
    · rw [if_neg z] at b
      have : (folded h (heapW m g)).testBit p = false := by
        cases e : (folded h (heapW m g)).testBit p with
        | false => rfl
        | true => rw [e] at b; simp at b
      have z2 : ¬ h = g := fun e => z e.symm
      rw [this]; simp [z2]
theorem votes_all {m : Nat} (h1 : 1 ≤ m) (h5 : m ≤ 5) {h : Nat} (hh : h < 2 ^ m) {S : List Nat} (nd : S.Nodup) (hS : ∀ g ∈ S, g < 2 ^ m ∧ ones g ≤ ones h) :
    votes m (xorAll (S.map (heapW m))) h = (firstPl m h).map fun _ => if h ∈ S then 1 else 0 := by
  unfold votes
  refine List.map_congr_left fun p hp => ?_
  rw [bit_tb, votes_bit h1 h5 hh hp nd hS]
  by_cases z : h ∈ S <;> simp [z]
theorem sum_const {α : Type} (c : Nat) : ∀ l : List α, (l.map fun _ => c).sum = l.length * c
  | [] => by simp
  | _ :: l => by rw [List.map_cons, List.sum_cons, sum_const c l, List.length_cons, Nat.succ_mul, Nat.add_comm]
theorem spoilt_full {m : Nat} (h1 : 1 ≤ m) (h5 : m ≤ 5) {h : Nat} (hh : h < 2 ^ m) {S : List Nat} (nd : S.Nodup) (hS : ∀ g ∈ S, g < 2 ^ m ∧ ones g ≤ ones h) (e : h ∈ S) : spoilt m (xorAll (S.map (heapW m))) h = 2 ^ (m - ones h) := by
  unfold spoilt
  rw [votes_all h1 h5 hh nd hS, if_pos e, sum_const, Nat.mul_one]
  exact b_first m (mem_mms h1 h5) h (List.mem_range.mpr hh)
theorem spoilt_add (m a b h : Nat) : spoilt m (a ^^^ b) h ≤ spoilt m a h + spoilt m b h := by
  unfold spoilt votes
  rw [folded_xor]
  generalize firstPl m h = L
  induction L with
  | nil => simp
  | cons p r ih =>
    rw [List.map_cons, List.map_cons, List.map_cons, List.sum_cons, List.sum_cons, List.sum_cons, bit_tb, bit_tb, bit_tb, Nat.testBit_xor]
    generalize (r.map fun p => (folded h a ^^^ folded h b) >>> p &&& 1).sum = x at *
    generalize (r.map fun p => folded h a >>> p &&& 1).sum = y at *
    generalize (r.map fun p => folded h b >>> p &&& 1).sum = z at *
    cases (folded h a).testBit p <;> cases (folded h b).testBit p <;> simp <;> omega
/-- complements: if all votes of a ^^^ b are 1 -/
theorem spoilt_co {m a b h : Nat} (hf : spoilt m b h = (firstPl m h).length) : spoilt m a h + spoilt m (a ^^^ b) h = (firstPl m h).length := by
  unfold spoilt votes at *
  rw [folded_xor]
  have key : ∀ L : List Nat, (L.map fun p => folded h b >>> p &&& 1).sum ≤ L.length := by
    intro L
    induction L with
    | nil => simp
    | cons p r ih =>
      rw [List.map_cons, List.sum_cons, List.length_cons, bit_tb]
      generalize (r.map fun p => folded h b >>> p &&& 1).sum = z at *
      cases (folded h b).testBit p <;> simp <;> omega
  generalize firstPl m h = L at *
  induction L with
  | nil => simp
  | cons p r ih =>
    have k := key r
    rw [List.map_cons, List.sum_cons, List.length_cons, bit_tb] at hf
    rw [List.map_cons, List.map_cons, List.sum_cons, List.sum_cons, List.length_cons, bit_tb, bit_tb, Nat.testBit_xor]
    generalize (r.map fun p => (folded h a ^^^ folded h b) >>> p &&& 1).sum = x at *
    generalize (r.map fun p => folded h a >>> p &&& 1).sum = y at *
    generalize (r.map fun p => folded h b >>> p &&& 1).sum = z at *
    cases e : (folded h b).testBit p with
    | false => rw [e] at hf; simp at hf; omega
    | true =>
      rw [e] at hf
      have := ih (by simp at hf; omega)
      cases (folded h a).testBit p <;> simp <;> omega
theorem spoilt_le {m u h : Nat} (h1 : 1 ≤ m) (h5 : m ≤ 5) (hh : h < 2 ^ m) (hu : u ≤ full m) : spoilt m u h ≤ ones u := by
  rw [← onesOf_len hu]
  have e := word_bits hu
  have key : ∀ L : List Nat, (∀ p ∈ L, p < 2 ^ m) → spoilt m (xorAll (L.map (1 <<< ·))) h ≤ L.length := by
    intro L
    induction L with
    | nil =>
      intro _
      show spoilt m 0 h ≤ 0
      unfold spoilt votes
      rw [lin_zero (fun a b => folded_xor h a b)]
      have : ((firstPl m h).map fun p => (0 >>> p &&& 1 : Nat)) = (firstPl m h).map fun _ => 0 := List.map_congr_left fun p _ => by simp
      rw [this, sum_const]; simp
    | cons p r ih =>
      intro hL
      rw [List.map_cons, xorAll_cons, List.length_cons]
      have a1 := spoilt_add m (1 <<< p) (xorAll (r.map (1 <<< ·))) h
      have a2 := b_spoil m (mem_mms h1 h5) p (List.mem_range.mpr (hL p List.mem_cons_self)) h (List.mem_range.mpr hh)
      have a3 := ih fun x hx => hL x (List.mem_cons_of_mem _ hx)
      omega
  have := key (onesOf m u) fun p hp => (mem_onesOf.mp hp).1
  rw [← e] at this
  exact this
/-- a heap of most letters -/
theorem top_of : ∀ {S : List Nat}, S ≠ [] → ∃ h ∈ S, ∀ g ∈ S, ones g ≤ ones h
  | [], h => absurd rfl h
  | [a], _ => ⟨a, List.mem_cons_self, fun g hg => by rw [List.mem_singleton.mp hg]; exact Nat.le_refl _⟩
  | a :: b :: S, _ => by
    obtain ⟨h, hm, hh⟩ := top_of (S := b :: S) (by simp)
    by_cases z : ones a ≤ ones h
    · exact ⟨h, List.mem_cons_of_mem _ hm, fun g hg => by
        rcases List.mem_cons.mp hg with rfl | hg
        · exact z
        · exact hh g hg⟩
    · exact ⟨a, List.mem_cons_self, fun g hg => by
        rcases List.mem_cons.mp hg with rfl | hg
        · exact Nat.le_refl _
        · have := hh g hg; omega⟩
theorem heapW_full {m h : Nat} (hh : h < 2 ^ m) (hst : ∀ u, u ≤ full m → stepped m u ≤ full m) : heapW m h ≤ full m := hst _ (le_full.mpr (by rw [shl_one]; exact Nat.pow_lt_pow_right (by decide) hh))
theorem stp_full {m u l : Nat} (h : u ≤ full m) : stp m u l ≤ full m := by
  have h1 := le_full.mp h
  have h2 : (u &&& without l) <<< (1 <<< l) &&& full m ≤ full m := Nat.and_le_right
  exact le_full.mpr (Nat.xor_lt_two_pow h1 (le_full.mp h2))
theorem stepped_full {m u : Nat} (h : u ≤ full m) : stepped m u ≤ full m := by
  unfold stepped
  have key : ∀ (L : List Nat) (u : Nat), u ≤ full m → L.foldl (stp m) u ≤ full m := by
    intro L
    induction L with
    | nil => intro u h; exact h
    | cons a r ih => intro u h; exact ih _ (stp_full h)
  exact key _ _ h
theorem heapW_fu {m h : Nat} (hh : h < 2 ^ m) : heapW m h ≤ full m := heapW_full hh fun _ => stepped_full
theorem CodeW.le {m : Nat} {hs : List Nat} {c : Nat} (hc : CodeW m hs c) (hl : ∀ h ∈ hs, h < 2 ^ m) : c ≤ full m := by
  obtain ⟨S, _, hS, rfl⟩ := hc
  exact xorAll_le fun w hw => by
    obtain ⟨g, hg, rfl⟩ := List.mem_map.mp hw
    exact heapW_fu (hl g (hS g hg))
/-- the least distance -/
theorem code_min {m : Nat} (h1 : 1 ≤ m) (h5 : m ≤ 5) {hs : List Nat} (hl : ∀ h ∈ hs, h < 2 ^ m) {c : Nat} (hc : CodeW m hs c) (h0 : c ≠ 0) : leastW m hs ≤ ones c := by
  have hle := hc.le hl
  obtain ⟨S, nd, hS, rfl⟩ := hc
  have hne : S ≠ [] := fun z => h0 (by rw [z]; rfl)
  obtain ⟨h, hm, ht⟩ := top_of hne
  have hh := hl h (hS h hm)
  have e := spoilt_full h1 h5 hh nd (fun g hg => ⟨hl g (hS g hg), ht g hg⟩) hm
  have l1 := spoilt_le h1 h5 hh hle
  rw [e] at l1
  refine Nat.le_trans ?_ l1
  unfold leastW
  rw [shl_one]
  exact Nat.pow_le_pow_right (by decide) (by have := le_tops (hS h hm); omega)
end M
set_option maxHeartbeats 4000000
-- text M5
/-! # what the readings tell -/
namespace M
open G
/-! ### the word that the votes build is in the code -/
theorem steps_fst (m : Nat) : ∀ (ord : List Nat) (r : Nat), ((stepsF m ord r).map (·.1)).Sublist ord
  | [], r => List.Sublist.slnil
  | h :: t, r => by
    unfold stepsF
    split
    · exact (List.nil_sublist t).cons_cons h
    · exact (steps_fst m t _).cons_cons h
theorem built_sum (m : Nat) : ∀ (L : List StepT) (b : Nat), ∃ S : List Nat, S.Sublist (L.map (·.1)) ∧ L.foldl (fun b s => if s.2.2.1 = some 1 then b ^^^ heapW m s.1 else b) b = b ^^^ xorAll (S.map (heapW m))
  | [], b => ⟨[], List.Sublist.slnil, by show b = b ^^^ 0; rw [Nat.xor_zero]⟩
  | s :: L, b => by
    rw [List.foldl_cons]
    obtain ⟨S, h1, h2⟩ := built_sum m L (if s.2.2.1 = some 1 then b ^^^ heapW m s.1 else b)
    rw [h2]
    by_cases z : s.2.2.1 = some 1
    · refine ⟨s.1 :: S, h1.cons_cons _, ?_⟩
      rw [if_pos z, List.map_cons, xorAll_cons, Nat.xor_assoc]
    · refine ⟨S, h1.cons _, ?_⟩
      rw [if_neg z]
theorem built_code {m : Nat} {ord hs : List Nat} (nd : ord.Nodup) (hm : ∀ g ∈ ord, g ∈ hs) (u : Nat) : CodeW m hs (builtF m (stepsF m ord u)) := by
  obtain ⟨S, h1, h2⟩ := built_sum m (stepsF m ord u) 0
  have h3 := h1.trans (steps_fst m ord u)
  refine ⟨S, nd.sublist h3, fun h hh => hm h (h3.subset hh), ?_⟩
  unfold builtF
  rw [h2, Nat.zero_xor]
theorem readF_read {m : Nat} {hs ord : List Nat} {u b : Nat} {ws : List Nat} (h : readF m hs ord u = .read b ws) : b = builtF m (stepsF m ord u) ∧ ws = onesOf m (u ^^^ b) ∧ ws.length ≤ sure m hs := by
  unfold readF at h
  split at h
  · cases h
  · split at h
    · cases h
    · rename_i z
      injection h with h1 h2
      subst h1 h2
      exact ⟨rfl, rfl, by omega⟩
theorem ordOf_perm (hs : List Nat) : (ordOf hs).Perm hs := List.mergeSort_perm hs ordR
theorem ordOf_mem' {hs : List Nat} {g : Nat} : g ∈ ordOf hs ↔ g ∈ hs := (ordOf_perm hs).mem_iff
theorem ordOf_nodup {hs : List Nat} (h : Asc hs) : (ordOf hs).Nodup := (ordOf_perm hs).nodup_iff.mpr (h.imp fun h => Nat.ne_of_lt h)
theorem xor_full {m a b : Nat} (ha : a ≤ full m) (hb : b ≤ full m) : a ^^^ b ≤ full m := le_full.mpr (Nat.xor_lt_two_pow (le_full.mp ha) (le_full.mp hb))
theorem leastW_pow (m : Nat) (hs : List Nat) : leastW m hs = 2 ^ (m - tops hs) := shl_one _
theorem sure_eq {m : Nat} {hs : List Nat} (h : hs ≠ []) : sure m hs = (leastW m hs - 1) / 2 := by unfold sure leastW; rw [if_neg h]
theorem tri (a b : Nat) : ones b ≤ ones (a ^^^ b) + ones a := by
  have := ones_xor (a ^^^ b) a
  rw [Nat.xor_comm a b, Nat.xor_assoc, Nat.xor_self, Nat.xor_zero] at this
  rw [Nat.xor_comm a b]
  exact this
/-- a word of half the least weight is not read -/
theorem half_unread {m : Nat} {hs : List Nat} (C : Ch m hs) (hne : hs ≠ []) {u : Nat} (hu : u ≤ full m) (hw : 2 * ones u = leastW m hs) : ∀ b ws, readF m hs (ordOf hs) u ≠ .read b ws := by
  intro b ws h
  obtain ⟨hb, hws, hl⟩ := readF_read h
  have hc : CodeW m hs b := by rw [hb]; exact built_code (ordOf_nodup C.asc) (fun g hg => ordOf_mem'.mp hg) u
  have hle := hc.le C.lt
  rw [hws, onesOf_len (xor_full hu hle), sure_eq hne] at hl
  have hp : 1 ≤ leastW m hs := by rw [leastW_pow]; exact Nat.one_le_two_pow
  by_cases z : b = 0
  · rw [z, Nat.xor_zero] at hl
    omega
  · have h1 := code_min C.m1 C.m5 C.lt hc z
    have h2 := tri u b
    omega
/-! ### some places lost -/
theorem split_mask (x k : Nat) : ones x ≤ ones (x ^^^ (x &&& k)) + ones (x &&& k) := by
  have := ones_xor (x ^^^ (x &&& k)) (x &&& k)
  rw [Nat.xor_assoc, Nat.xor_self, Nat.xor_zero] at this
  exact this
theorem off_xor (a b k : Nat) : (a ^^^ b) ^^^ ((a ^^^ b) &&& k) = (a ^^^ (a &&& k)) ^^^ (b ^^^ (b &&& k)) := by
  apply Nat.eq_of_testBit_eq
  intro i
  simp only [Nat.testBit_xor, Nat.testBit_and]
  cases a.testBit i <;> cases b.testBit i <;> cases k.testBit i <;> rfl
theorem off_off (a k : Nat) : (a ^^^ (a &&& k)) ^^^ ((a ^^^ (a &&& k)) &&& k) = a ^^^ (a &&& k) := by
  apply Nat.eq_of_testBit_eq
  intro i
  simp only [Nat.testBit_xor, Nat.testBit_and]
  cases a.testBit i <;> cases k.testBit i <;> rfl
theorem off_or (a k : Nat) : (a ||| k) ^^^ ((a ||| k) &&& k) = a ^^^ (a &&& k) := by
  apply Nat.eq_of_testBit_eq
  intro i
  simp only [Nat.testBit_xor, Nat.testBit_and, Nat.testBit_or]
  cases a.testBit i <;> cases k.testBit i <;> rfl
theorem off_le (a k : Nat) : ones (a ^^^ (a &&& k)) ≤ ones a := ones_mono fun i e => by
  rw [Nat.testBit_xor, Nat.testBit_and] at e
  cases h : a.testBit i with
  | true => rfl
  | false => rw [h] at e; simp at e
theorem off_full {m a k : Nat} (h : a ≤ full m) : a ^^^ (a &&& k) ≤ full m := xor_full h (Nat.le_trans Nat.and_le_left h)
/-- the best reading, if it is not sure stays so -/
theorem lossy_step {m : Nat} {hs ord : List Nat} {mask n : Nat} {best : Option (Nat × List Nat × Bool)} {f : Nat} (hb : ∀ z, best = some z → z.2.2 = false)
    (h : ∀ b ws, readF m hs ord f = .read b ws → sureB m hs (onesOf m ((f ^^^ b) ^^^ ((f ^^^ b) &&& mask))).length n = false) : ∀ z, lossyStep m hs ord mask n best f = some z → z.2.2 = false := by
  intro z e
  unfold lossyStep at e
  split at e
  · rename_i b ws hr
    have hs' := h b ws hr
    split at e
    · cases e; exact hs'
    · rename_i z0
      split at e
      · cases e; exact hs'
      · exact hb z (by rw [← e])
  · exact hb z e
theorem unsure {m : Nat} {hs : List Nat} (C : Ch m hs) (hne : hs ≠ []) {u f k n : Nat} (hu : u ≤ full m) (hf : f ≤ full m) (hk : ones k ≤ n) (hw : 2 * ones (u ^^^ (u &&& k)) + n = leastW m hs) (hfu : f ^^^ (f &&& k) = u ^^^ (u &&& k)) :
    ∀ b ws, readF m hs (ordOf hs) f = .read b ws → sureB m hs (onesOf m ((f ^^^ b) ^^^ ((f ^^^ b) &&& k))).length n = false := by
  intro b ws h
  obtain ⟨hb, _, _⟩ := readF_read h
  have hc : CodeW m hs b := by rw [hb]; exact built_code (ordOf_nodup C.asc) (fun g hg => ordOf_mem'.mp hg) f
  have hle := hc.le C.lt
  unfold sureB
  rw [decide_eq_false hne, Bool.false_or, onesOf_len (off_full (xor_full hf hle)), off_xor, hfu]
  apply decide_eq_false
  intro hlt
  by_cases z : b = 0
  · rw [z, Nat.zero_and, Nat.xor_self, Nat.xor_zero] at hlt
    omega
  · have h1 := code_min C.m1 C.m5 C.lt hc z
    have h2 := split_mask b k
    have h3 := tri (u ^^^ (u &&& k)) (b ^^^ (b &&& k))
    have h4 := ones_and b k
    omega
theorem lossy_unsure {m : Nat} {hs : List Nat} (C : Ch m hs) (hne : hs ≠ []) {u : Nat} {ys : List Nat} (hu : u ≤ full m) (hy : ∀ y ∈ ys, y < 2 ^ m) (nd : ys.Nodup) (hw : 2 * ones (u ^^^ (u &&& mark ys)) + ys.length = leastW m hs) :
    ∀ z, lossyF m hs (ordOf hs) u ys = some z → z.2.2 = false := by
  have hmk := mark_le hy
  have hmo : ones (mark ys) ≤ ys.length := Nat.le_of_eq (ones_mark hy nd)
  unfold lossyF
  refine lossy_step (lossy_step (fun z e => by cases e) ?_) ?_
  · exact unsure C hne hu (off_full hu) hmo hw (off_off _ _)
  · refine unsure C hne hu ?_ hmo hw ((off_or _ _).trans (off_off _ _))
    exact le_full.mpr (Nat.or_lt_two_pow (le_full.mp (off_full hu)) (le_full.mp hmk))
/-! ### told faults -/
theorem code_of_heaps {m : Nat} {hs : List Nat} {x : Nat} (h1 : 1 ≤ m) (h5 : m ≤ 5) (hx : x ≤ full m) (h : (heapsOf m x).all (fun g => decide (g ∈ hs)) = true) : CodeW m hs x :=
  ⟨heapsOf m x, (onesOf_asc m _).imp fun h => Nat.ne_of_lt h, fun g hg => of_decide_eq_true (List.all_eq_true.mp h g hg), heapsOf_sum h1 h5 hx (stepped_full hx)⟩
/-- the votes of a word of the code: for a heap of it that has the most letters they are all 1 -/
theorem code_spoilt {m : Nat} {hs : List Nat} (C : Ch m hs) {x : Nat} (hc : CodeW m hs x) (h0 : x ≠ 0) : ∃ h ∈ hs, spoilt m x h = 2 ^ (m - ones h) ∧ (firstPl m h).length = 2 ^ (m - ones h) := by
  obtain ⟨S, nd, hS, rfl⟩ := hc
  have hne : S ≠ [] := fun z => h0 (by rw [z]; rfl)
  obtain ⟨h, hm, ht⟩ := top_of hne
  have hh := C.lt h (hS h hm)
  exact ⟨h, hS h hm, spoilt_full C.m1 C.m5 hh nd (fun g hg => ⟨C.lt g (hS g hg), ht g hg⟩) hm, b_first m (mem_mms C.m1 C.m5) h (List.mem_range.mpr hh)⟩
theorem fault_zero {m : Nat} {hs : List Nat} (C : Ch m hs) {x : Nat} (hx : x ≤ full m) (h0 : x ≠ 0) : faultB m hs (ordOf hs) 0 x = true := by
  unfold faultB
  cases e : (heapsOf m x).all fun g => decide (g ∈ hs) with
  | false => rfl
  | true =>
    obtain ⟨h, hm, hsp, _⟩ := code_spoilt C (code_of_heaps C.m1 C.m5 hx e) h0
    rw [Bool.not_true, Bool.false_or]
    refine List.any_eq_true.mpr ⟨h, ordOf_mem'.mpr hm, decide_eq_true ?_⟩
    rw [Nat.zero_xor, hsp, shl_one]; omega
theorem heapsOf_zero (m : Nat) : heapsOf m 0 = [] := by
  unfold heapsOf
  rw [lin_zero (fun a b => stepped_xor m a b)]
  refine List.filter_eq_nil_iff.mpr fun p _ => ?_
  simp
theorem fault_two {m : Nat} {hs : List Nat} (C : Ch m hs) {x : Nat} (hx : x ≤ full m) (h0 : x ≠ 0) (u : Nat) : faultB m hs (ordOf hs) u 0 = true ∨ faultB m hs (ordOf hs) u x = true := by
  cases e : (heapsOf m x).all fun g => decide (g ∈ hs) with
  | false =>
    right
    unfold faultB
    rw [e]; rfl
  | true =>
    obtain ⟨h, hm, hsp, hl⟩ := code_spoilt C (code_of_heaps C.m1 C.m5 hx e) h0
    have co := spoilt_co (m := m) (a := u) (b := x) (h := h) (by rw [hsp, hl])
    rw [hl] at co
    by_cases z : 2 ^ (m - ones h) ≤ 2 * spoilt m u h
    · left
      unfold faultB
      rw [heapsOf_zero, Nat.xor_zero]
      show (!true || _) = true
      rw [Bool.not_true, Bool.false_or]
      exact List.any_eq_true.mpr ⟨h, ordOf_mem'.mpr hm, decide_eq_true (by rw [shl_one]; exact z)⟩
    · right
      unfold faultB
      rw [e, Bool.not_true, Bool.false_or]
      exact List.any_eq_true.mpr ⟨h, ordOf_mem'.mpr hm, decide_eq_true (by rw [shl_one]; omega)⟩
/-! ### a word of the code is read as it is -/
theorem ordR_trans (a b c : Nat) (h1 : ordR a b = true) (h2 : ordR b c = true) : ordR a c = true := by
  unfold ordR at *
  have h1 := of_decide_eq_true h1
  have h2 := of_decide_eq_true h2
  apply decide_eq_true
  omega
theorem ordR_total (a b : Nat) : (ordR a b || ordR b a) = true := by
  unfold ordR
  rw [Bool.or_eq_true, decide_eq_true_iff, decide_eq_true_iff]
  omega
theorem ordOf_down (hs : List Nat) : (ordOf hs).Pairwise fun a b => ones b ≤ ones a :=
  (List.pairwise_mergeSort ordR_trans ordR_total hs).imp fun {a b} h => by
    unfold ordR at h
    have := of_decide_eq_true h
    omega
theorem sum_erase {m h : Nat} {S : List Nat} (e : h ∈ S) : xorAll (S.map (heapW m)) ^^^ heapW m h = xorAll ((S.erase h).map (heapW m)) := by
  have p := xorAll_perm ((List.perm_cons_erase e).map (heapW m))
  rw [p, List.map_cons, xorAll_cons, Nat.xor_comm, ← Nat.xor_assoc, Nat.xor_self, Nat.zero_xor]
theorem first_pos {m h : Nat} (h1 : 1 ≤ m) (h5 : m ≤ 5) (hh : h < 2 ^ m) : 0 < (firstPl m h).length := by
  rw [b_first m (mem_mms h1 h5) h (List.mem_range.mpr hh)]; exact Nat.two_pow_pos _
theorem steps_code {m : Nat} (h1 : 1 ≤ m) (h5 : m ≤ 5) : ∀ (ord S : List Nat) (b : Nat), ord.Pairwise (fun a b => ones b ≤ ones a) → (∀ h ∈ ord, h < 2 ^ m) → S.Nodup → (∀ g ∈ S, g ∈ ord) →
    (∀ s ∈ stepsF m ord (xorAll (S.map (heapW m))), s.2.2.1 ≠ none) ∧ (stepsF m ord (xorAll (S.map (heapW m)))).foldl (fun b s => if s.2.2.1 = some 1 then b ^^^ heapW m s.1 else b) b = b ^^^ xorAll (S.map (heapW m)) := by
  intro ord
  induction ord with
  | nil =>
    intro S b _ _ _ hS
    have : S = [] := List.eq_nil_iff_forall_not_mem.mpr fun g hg => by have := hS g hg; cases this
    subst this
    refine ⟨fun s hs => ?_, ?_⟩
    · have hs' : s ∈ ([] : List StepT) := hs
      cases hs'
    · show b = b ^^^ 0
      rw [Nat.xor_zero]
  | cons h t ih =>
    intro S b hp hl nd hS
    have hh := hl h List.mem_cons_self
    have hle : ∀ g ∈ S, g < 2 ^ m ∧ ones g ≤ ones h := fun g hg => ⟨hl g (hS g hg), by
      rcases List.mem_cons.mp (hS g hg) with rfl | z
      · exact Nat.le_refl _
      · exact List.rel_of_pairwise_cons hp z⟩
    have hv := votes_all h1 h5 hh nd hle
    have hpos := first_pos h1 h5 hh
    have hbit : bitOf (votes m (xorAll (S.map (heapW m))) h) = some (if h ∈ S then 1 else 0) := by
      rw [hv]
      unfold bitOf
      rw [sum_const, List.length_map]
      by_cases z : h ∈ S
      · rw [if_pos z, if_neg (by omega), if_pos (by omega)]
      · rw [if_neg z, if_neg (by omega), if_neg (by omega)]
    have hstep : stepsF m (h :: t) (xorAll (S.map (heapW m))) = (h, votes m (xorAll (S.map (heapW m))) h, some (if h ∈ S then 1 else 0), if (if h ∈ S then 1 else 0) = 1 then xorAll (S.map (heapW m)) ^^^ heapW m h else xorAll (S.map (heapW m))) :: stepsF m t (if (if h ∈ S then 1 else 0) = 1 then xorAll (S.map (heapW m)) ^^^ heapW m h else xorAll (S.map (heapW m))) := by
      show (match bitOf (votes m (xorAll (S.map (heapW m))) h) with | none => _ | some b => _) = _
      rw [hbit]
    rw [hstep]
    by_cases z : h ∈ S
    · simp only [if_pos z, if_true]
      rw [sum_erase z]
      obtain ⟨i1, i2⟩ := ih (S.erase h) (b ^^^ heapW m h) hp.of_cons (fun g hg => hl g (List.mem_cons_of_mem _ hg)) (nd.erase h) fun g hg => by
        obtain ⟨n1, n2⟩ := (nd.mem_erase_iff).mp hg
        rcases List.mem_cons.mp (hS g n2) with e | e
        · exact absurd e n1
        · exact e
      refine ⟨fun s hs => ?_, ?_⟩
      · rcases List.mem_cons.mp hs with rfl | hs
        · simp
        · exact i1 s hs
      · rw [List.foldl_cons, if_pos rfl, i2, ← sum_erase z, Nat.xor_comm (xorAll (S.map (heapW m))), Nat.xor_assoc, ← Nat.xor_assoc (heapW m h), Nat.xor_self, Nat.zero_xor]
    · simp only [if_neg z]
      rw [if_neg (by decide)]
      obtain ⟨i1, i2⟩ := ih S b hp.of_cons (fun g hg => hl g (List.mem_cons_of_mem _ hg)) nd fun g hg => by
        rcases List.mem_cons.mp (hS g hg) with e | e
        · exact absurd (e ▸ hg) z
        · exact e
      refine ⟨fun s hs => ?_, ?_⟩
      · rcases List.mem_cons.mp hs with rfl | hs
        · simp
        · exact i1 s hs
      · rw [List.foldl_cons, if_neg (by simp), i2]
theorem read_code {m : Nat} {hs : List Nat} (C : Ch m hs) {x : Nat} (hc : CodeW m hs x) : ∃ ws, readF m hs (ordOf hs) x = .read x ws := by
  obtain ⟨S, nd, hS, rfl⟩ := hc
  obtain ⟨i1, i2⟩ := steps_code C.m1 C.m5 (ordOf hs) S 0 (ordOf_down hs) (fun h hh => C.lt h (ordOf_mem'.mp hh)) nd fun g hg => ordOf_mem'.mpr (hS g hg)
  rw [Nat.zero_xor] at i2
  have i3 : builtF m (stepsF m (ordOf hs) (xorAll (S.map (heapW m)))) = xorAll (S.map (heapW m)) := i2
  have hf : (stepsF m (ordOf hs) (xorAll (S.map (heapW m)))).find? (fun s => decide (s.2.2.1 = none)) = none := List.find?_eq_none.mpr fun s hs' => by
    have := i1 s hs'
    simpa using this
  refine ⟨onesOf m 0, ?_⟩
  unfold readF
  rw [hf]
  dsimp only
  rw [i3, Nat.xor_self]
  have : (onesOf m 0).length = 0 := by rw [onesOf_len (Nat.zero_le _)]; rfl
  rw [this, if_neg (by omega)]
end M
set_option maxHeartbeats 4000000
-- text M6
/-! # the rule of two_near; the nearest words; falling choices -/
namespace M
open G
/-! ### all words, twice -/
theorem foldl_congr' {α β : Type} {f g : β → α → β} : ∀ (l : List α) (b : β), (∀ x ∈ l, ∀ b, f b x = g b x) → l.foldl f b = l.foldl g b
  | [], _, _ => rfl
  | x :: l, b, h => by
    rw [List.foldl_cons, List.foldl_cons, h x List.mem_cons_self]
    exact foldl_congr' l _ fun y hy => h y (List.mem_cons_of_mem _ hy)
theorem codeL_eq {m : Nat} (h1 : 1 ≤ m) (h5 : m ≤ 5) {hs : List Nat} (hl : ∀ h ∈ hs, h < 2 ^ m) : codeL m hs = sums (hs.map (heapW m)) := by
  unfold codeL sums
  rw [List.foldl_map]
  exact foldl_congr' hs _ fun h hh ws => by rw [b_law m (mem_mms h1 h5) h (List.mem_range.mpr (hl h hh))]
theorem sumAt_snoc (rows : List Nat) (r n : Nat) : sumAt (rows ++ [r]) n = if n.testBit rows.length then sumAt rows n ^^^ r else sumAt rows n := by
  unfold sumAt
  rw [List.zipIdx_append, List.foldl_append]
  show (if (n >>> (0 + rows.length) &&& 1) ≠ 0 then _ else _) = _
  rw [Nat.zero_add, bit_tb]
  cases n.testBit rows.length <;> simp
theorem sumAt_mod (rows : List Nat) (a b : Nat) (h : ∀ i, i < rows.length → a.testBit i = b.testBit i) : sumAt rows a = sumAt rows b := by
  unfold sumAt
  refine foldl_congr' _ _ fun p hp w => ?_
  have hi : p.2 < rows.length := by
    have := List.snd_lt_of_mem_zipIdx hp
    omega
  rw [bit_tb, bit_tb, h p.2 hi]
theorem sums_snoc (rows : List Nat) (r : Nat) : sums (rows ++ [r]) = sums rows ++ (sums rows).map fun w => w ^^^ r := by
  unfold sums
  rw [List.foldl_append]; rfl
theorem sums_range : ∀ (n : Nat) (rows : List Nat), rows.length = n → sums rows = (List.range (2 ^ n)).map (sumAt rows) := by
  intro n
  induction n with
  | zero =>
    intro rows h
    have : rows = [] := List.length_eq_zero_iff.mp h
    subst this
    rfl
  | succ n ih =>
    intro rows h
    obtain ⟨q, r, rfl⟩ : ∃ q r, rows = q ++ [r] := by
      have hne : rows ≠ [] := fun z => by rw [z] at h; cases h
      exact ⟨rows.dropLast, rows.getLast hne, (List.dropLast_concat_getLast hne).symm⟩
    have hq : q.length = n := by rw [List.length_append, List.length_singleton] at h; omega
    rw [sums_snoc, ih q hq, Nat.pow_succ, Nat.mul_two, List.range_add, List.map_append, List.map_map, List.map_map]
    congr 1
    · refine List.map_congr_left fun k hk => ?_
      have hk := List.mem_range.mp hk
      rw [sumAt_snoc, hq, Nat.testBit_lt_two_pow hk]
      rfl
    · refine List.map_congr_left fun k hk => ?_
      have hk := List.mem_range.mp hk
      show sumAt q k ^^^ r = sumAt (q ++ [r]) (2 ^ n + k)
      rw [sumAt_snoc, hq]
      have t1 : (2 ^ n + k).testBit n = true := by rw [Nat.testBit_two_pow_add_eq, Nat.testBit_lt_two_pow hk]; rfl
      rw [t1, if_pos rfl]
      congr 1
      refine sumAt_mod q _ _ fun i hi => ?_
      rw [Nat.testBit_two_pow_add_gt (by omega)]
theorem code_all {m : Nat} (h1 : 1 ≤ m) (h5 : m ≤ 5) {hs : List Nat} (hl : ∀ h ∈ hs, h < 2 ^ m) : codeL m hs = allW m hs := by
  rw [codeL_eq h1 h5 hl, sums_range hs.length _ (List.length_map _)]
  unfold allW
  rw [shl_one]
theorem sumAt_code {m : Nat} : ∀ (hs : List Nat), hs.Nodup → ∀ n, ∃ S : List Nat, S.Nodup ∧ (∀ h ∈ S, h ∈ hs) ∧ sumAt (hs.map (heapW m)) n = xorAll (S.map (heapW m)) := by
  have key : ∀ (k : Nat) (hs : List Nat), hs.length = k → hs.Nodup → ∀ n, ∃ S : List Nat, S.Nodup ∧ (∀ h ∈ S, h ∈ hs) ∧ sumAt (hs.map (heapW m)) n = xorAll (S.map (heapW m)) := by
    intro k
    induction k with
    | zero =>
      intro hs h _ n
      have : hs = [] := List.length_eq_zero_iff.mp h
      subst this
      exact ⟨[], List.nodup_nil, fun h hh => hh, rfl⟩
    | succ k ih =>
      intro hs h nd n
      obtain ⟨q, r, rfl⟩ : ∃ q r, hs = q ++ [r] := by
        have hne : hs ≠ [] := fun z => by rw [z] at h; cases h
        exact ⟨hs.dropLast, hs.getLast hne, (List.dropLast_concat_getLast hne).symm⟩
      have hq : q.length = k := by rw [List.length_append, List.length_singleton] at h; omega
      have ndq : q.Nodup := nd.sublist (List.sublist_append_left _ _)
      have hrq : r ∉ q := fun z => by
        have := (List.nodup_append.mp nd).2.2 r z r (by simp)
        exact this rfl
      obtain ⟨S, s1, s2, s3⟩ := ih q hq ndq n
      rw [List.map_append, List.map_cons, List.map_nil, sumAt_snoc, s3]
      by_cases z : n.testBit (q.map (heapW m)).length = true
      · rw [if_pos z]
        refine ⟨r :: S, List.nodup_cons.mpr ⟨fun z => hrq (s2 r z), s1⟩, fun h hh => ?_, ?_⟩
        · rcases List.mem_cons.mp hh with rfl | hh
          · simp
          · exact List.mem_append_left _ (s2 h hh)
        · rw [List.map_cons, xorAll_cons, Nat.xor_comm]
      · rw [if_neg z]
        exact ⟨S, s1, fun h hh => List.mem_append_left _ (s2 h hh), rfl⟩
  exact fun hs nd n => key hs.length hs rfl nd n
theorem allW_code {m : Nat} {hs : List Nat} (nd : hs.Nodup) {x : Nat} (h : x ∈ allW m hs) : CodeW m hs x := by
  obtain ⟨n, _, rfl⟩ := List.mem_map.mp h
  exact sumAt_code hs nd n
theorem sums_zero : ∀ rows : List Nat, 0 ∈ sums rows ∧ ∀ r ∈ rows, r ∈ sums rows := by
  have key : ∀ (k : Nat) (rows : List Nat), rows.length = k → 0 ∈ sums rows ∧ ∀ r ∈ rows, r ∈ sums rows := by
    intro k
    induction k with
    | zero =>
      intro rows h
      have : rows = [] := List.length_eq_zero_iff.mp h
      subst this
      exact ⟨by decide, fun r hr => by cases hr⟩
    | succ k ih =>
      intro rows h
      obtain ⟨q, r, rfl⟩ : ∃ q r, rows = q ++ [r] := by
        have hne : rows ≠ [] := fun z => by rw [z] at h; cases h
        exact ⟨rows.dropLast, rows.getLast hne, (List.dropLast_concat_getLast hne).symm⟩
      obtain ⟨i1, i2⟩ := ih q (by rw [List.length_append, List.length_singleton] at h; omega)
      rw [sums_snoc]
      refine ⟨List.mem_append_left _ i1, fun x hx => ?_⟩
      rcases List.mem_append.mp hx with hx | hx
      · exact List.mem_append_left _ (i2 x hx)
      · rw [List.mem_singleton.mp hx]
        exact List.mem_append_right _ (List.mem_map.mpr ⟨0, i1, Nat.zero_xor r⟩)
  exact fun rows => key rows.length rows rfl
/-! ### the word of the first heap of most letters -/
theorem head_mem {hs : List Nat} (hne : hs ≠ []) : (topH hs).headD 0 ∈ topH hs := by
  obtain ⟨x, r, e⟩ := List.exists_cons_of_ne_nil (topH_ne hne)
  rw [e]; exact List.mem_cons_self
theorem other_ones {m : Nat} {hs : List Nat} (C : Ch m hs) (hne : hs ≠ []) : ones (otherW m hs) = leastW m hs ∧ otherW m hs ≤ full m := by
  have hm := topH_mem.mp (head_mem hne)
  have hl := C.lt _ hm.1
  unfold otherW
  rw [b_ones m (mem_mms C.m1 C.m5) _ (List.mem_range.mpr hl), hm.2, leastW_pow]
  exact ⟨rfl, heapW_fu hl⟩
theorem other_len {m : Nat} {hs : List Nat} (C : Ch m hs) (hne : hs ≠ []) : (onesOf m (otherW m hs)).length = leastW m hs := by
  obtain ⟨h1, h2⟩ := other_ones C hne
  rw [onesOf_len h2, h1]
theorem onesOf_nodup (m u : Nat) : (onesOf m u).Nodup := (onesOf_asc m u).imp fun h => Nat.ne_of_lt h
theorem half_len {m : Nat} {hs : List Nat} (C : Ch m hs) (hne : hs ≠ []) {k : Nat} (hk : k ≤ leastW m hs) : (halfW m hs k).length = (leastW m hs - k) / 2 := by
  unfold halfW cutN
  rw [List.length_take, List.length_drop, other_len C hne]
  omega
theorem half_sub {m : Nat} {hs : List Nat} {k : Nat} : (halfW m hs k).Sublist ((onesOf m (otherW m hs)).drop k) := List.take_sublist _ _
theorem half_ones {m : Nat} {hs : List Nat} (C : Ch m hs) (hne : hs ≠ []) {k : Nat} (hk : k ≤ leastW m hs) : ones (mark (halfW m hs k)) = (leastW m hs - k) / 2 := by
  have e := ones_mark (m := m) (ys := halfW m hs k) (fun y hy => (mem_onesOf.mp (cut_mem hy)).1) (((onesOf_nodup _ _).sublist (List.drop_sublist _ _)).sublist half_sub)
  rw [e, half_len C hne hk]
theorem half_full {m : Nat} {hs : List Nat} {k : Nat} : mark (halfW m hs k) ≤ full m := mark_le fun y hy => (mem_onesOf.mp (cut_mem hy)).1
theorem mark_off {us ys : List Nat} (h : ∀ x ∈ us, x ∉ ys) : mark us ^^^ (mark us &&& mark ys) = mark us := by
  apply Nat.eq_of_testBit_eq
  intro i
  rw [Nat.testBit_xor, Nat.testBit_and, mark_tb, mark_tb]
  by_cases z : i ∈ us
  · simp [z, h i z]
  · simp [z]
/-- the plain law of _law_two_told -/
theorem two_unsure {m : Nat} {hs : List Nat} (C : Ch m hs) (hne : hs ≠ []) {k : Nat} (hk : k ≤ leastW m hs) (hk2 : (leastW m hs - k) % 2 = 0) :
    ∀ z, lossyF m hs (ordOf hs) (mark (halfW m hs k)) ((onesOf m (otherW m hs)).take k) = some z → z.2.2 = false := by
  have nd := onesOf_nodup m (otherW m hs)
  have hsp := List.take_append_drop k (onesOf m (otherW m hs))
  have nd2 := nd
  rw [← hsp] at nd2
  obtain ⟨n1, n2, n3⟩ := List.nodup_append.mp nd2
  refine lossy_unsure C hne half_full (fun y hy => (mem_onesOf.mp (List.mem_of_mem_take hy)).1) n1 ?_
  rw [mark_off (fun x hx hy => n3 x hy x (half_sub.subset hx) rfl), half_ones C hne hk, List.length_take, other_len C hne]
  omega
/-! ### the nearest words -/
theorem code_zero {m : Nat} {hs : List Nat} (h1 : 1 ≤ m) (h5 : m ≤ 5) (hl : ∀ h ∈ hs, h < 2 ^ m) : 0 ∈ allW m hs ∧ ∀ h ∈ hs, heapW m h ∈ allW m hs := by
  rw [← code_all h1 h5 hl, codeL_eq h1 h5 hl]
  obtain ⟨i1, i2⟩ := sums_zero (hs.map (heapW m))
  exact ⟨i1, fun h hh => i2 _ (List.mem_map.mpr ⟨h, hh, rfl⟩)⟩
end M
set_option maxHeartbeats 4000000
-- text M7
/-! # no word is nearer; falling choices and their least words -/
namespace M
open G
theorem ones_in {a b : Nat} (h : ∀ i, a.testBit i = true → b.testBit i = true) : ones (a ^^^ b) + ones a = ones b := by
  obtain ⟨n, ha, hb⟩ := bound2 a b
  rw [ones_cnt n _ (Nat.xor_lt_two_pow ha hb), ones_cnt n a ha, ones_cnt n b hb]
  unfold cnt
  generalize List.range n = L
  induction L with
  | nil => rfl
  | cons i r ih =>
    rw [List.countP_cons, List.countP_cons, List.countP_cons]
    generalize List.countP (fun i => (a ^^^ b).testBit i) r = x at *
    generalize List.countP (fun i => a.testBit i) r = y at *
    generalize List.countP (fun i => b.testBit i) r = z at *
    rw [Nat.testBit_xor]
    have := h i
    cases e1 : a.testBit i with
    | false => cases b.testBit i <;> simp <;> omega
    | true =>
      rw [this e1]; simp; omega
theorem half_in {m : Nat} {hs : List Nat} {k : Nat} (i : Nat) (h : (mark (halfW m hs k)).testBit i = true) : (otherW m hs).testBit i = true := by
  rw [mark_tb] at h
  exact (mem_onesOf.mp (cut_mem (of_decide_eq_true h))).2
theorem pow_even {m : Nat} {hs : List Nat} (h : 1 < leastW m hs) : leastW m hs % 2 = 0 := by
  rw [leastW_pow] at *
  cases e : m - tops hs with
  | zero => rw [e] at h; simp at h
  | succ k => rw [Nat.pow_succ]; omega
theorem plain_none {m : Nat} {hs : List Nat} (C : Ch m hs) (hne : hs ≠ []) (hw : 1 < leastW m hs) : PlainNone m hs (ordOf hs) := by
  have he := pow_even hw
  have ho := half_ones C hne (k := 0) (Nat.zero_le _)
  rw [Nat.sub_zero] at ho
  have hu : mark (halfW m hs 0) ≤ full m := half_full
  refine ⟨he, ?_, fun _ => ?_⟩
  · cases e : readF m hs (ordOf hs) (mark (halfW m hs 0)) with
    | read b ws => exact absurd e (half_unread C hne hu (by omega) b ws)
    | tie h => rfl
    | far b ws => rfl
  · have nd : hs.Nodup := C.asc.imp fun h => Nat.ne_of_lt h
    obtain ⟨z0, zh⟩ := code_zero C.m1 C.m5 C.lt
    have hW : ∀ x ∈ allW m hs, ones (mark (halfW m hs 0) ^^^ x) < 1 <<< m + 1 := fun x hx => by
      have h1 := le_full.mp (xor_full hu ((allW_code nd hx).le C.lt))
      have := ones_le (2 ^ m) _ h1
      rw [shl_one]; omega
    have hWne : allW m hs ≠ [] := fun z => by rw [z] at z0; cases z0
    obtain ⟨m1, ⟨x1, hx1, hd1⟩, m3⟩ := near_all hW hWne
    have hnF : (allW m hs).foldl (nearStep (mark (halfW m hs 0))) (1 <<< m + 1, []) = nearF m hs (mark (halfW m hs 0)) := rfl
    rw [hnF] at m1 hd1 m3
    have l0 := m3 0 z0
    rw [Nat.xor_zero, ho] at l0
    have hd : (nearF m hs (mark (halfW m hs 0))).1 = leastW m hs / 2 := by
      refine Nat.le_antisymm l0 ?_
      rw [← hd1]
      by_cases z : x1 = 0
      · rw [z, Nat.xor_zero, ho]; exact Nat.le_refl _
      · have h1 := code_min C.m1 C.m5 C.lt (allW_code nd hx1) z
        have h2 := tri (mark (halfW m hs 0)) x1
        omega
    have hot : otherW m hs ∈ allW m hs := zh _ (topH_mem.mp (head_mem hne)).1
    refine ⟨hd, ?_, ?_, ?_⟩
    · rw [m1, hd]
      exact List.mem_filter.mpr ⟨z0, decide_eq_true (by rw [Nat.xor_zero, ho])⟩
    · rw [m1, hd]
      refine List.mem_filter.mpr ⟨hot, decide_eq_true ?_⟩
      have := ones_in (a := mark (halfW m hs 0)) (b := otherW m hs) half_in
      rw [(other_ones C hne).1, ho] at this
      omega
    · rw [code_all C.m1 C.m5 C.lt]
/-! ### falling choices -/
def DownC (m : Nat) (hs : List Nat) : Prop := ∀ h ∈ hs, ∀ f, f < 2 ^ m → below f h = true → f ∈ hs
theorem below_le {f g : Nat} (h : below f g = true) : ones f ≤ ones g := by
  have := of_decide_eq_true (List.all_eq_true.mp h 0 (by decide))
  exact this
theorem below_trans {f g h : Nat} (h1 : below f g = true) (h2 : below g h = true) : below f h = true := by
  refine List.all_eq_true.mpr fun l hl => decide_eq_true ?_
  have a := of_decide_eq_true (List.all_eq_true.mp h1 l hl)
  have b := of_decide_eq_true (List.all_eq_true.mp h2 l hl)
  omega
theorem below_self (f : Nat) : below f f = true := List.all_eq_true.mpr fun l _ => decide_eq_true (Nat.le_refl _)
theorem pow5 {m : Nat} (h : m ≤ 5) : 2 ^ m ≤ 32 := Nat.le_trans (Nat.pow_le_pow_right (n := 2) (by decide) h) (by decide)
theorem down_of {m : Nat} {ss : List Nat} (top : Nat) (h5 : m ≤ 5) : DownC m (((List.range (1 <<< m)).filter fun f => ss.any (below f)).filter fun f => decide (ones f ≤ top)) := by
  intro h hh f hf hb
  obtain ⟨h1, h2⟩ := List.mem_filter.mp hh
  obtain ⟨h3, h4⟩ := List.mem_filter.mp h1
  obtain ⟨s, hs, hsb⟩ := List.any_eq_true.mp h4
  refine List.mem_filter.mpr ⟨List.mem_filter.mpr ⟨List.mem_range.mpr (by rw [shl_one]; exact hf), List.any_eq_true.mpr ⟨s, hs, below_trans hb hsb⟩⟩, decide_eq_true ?_⟩
  have := of_decide_eq_true h2
  have := below_le hb
  omega
theorem fall_zero {m : Nat} {ss : List Nat} (top : Nat) (h5 : m ≤ 5) (hs : ∀ s ∈ ss, s < 2 ^ m) (hne : ss ≠ []) : 0 ∈ ((List.range (1 <<< m)).filter fun f => ss.any (below f)).filter fun f => decide (ones f ≤ top) := by
  obtain ⟨s, r, e⟩ := List.exists_cons_of_ne_nil hne
  have hsm : s ∈ ss := by rw [e]; exact List.mem_cons_self
  have := pow5 h5
  have := hs s hsm
  refine List.mem_filter.mpr ⟨List.mem_filter.mpr ⟨List.mem_range.mpr (by rw [shl_one]; exact Nat.two_pow_pos _), List.any_eq_true.mpr ⟨s, hsm, b_zero s (List.mem_range.mpr (by omega))⟩⟩, decide_eq_true (Nat.zero_le _)⟩
section
variable {m : Nat} {hs : List Nat}
theorem down_closed (C : Ch m hs) (D : DownC m hs) : ClosedC hs := fun h hh l hl => by
  obtain ⟨b1, b2⟩ := b_clos m (mem_mms C.m1 C.m5) h (List.mem_range.mpr (C.lt h hh)) l hl
  exact D h hh _ b2 b1
theorem down_fall (C : Ch m hs) (D : DownC m hs) : FallC hs := fun h hh g hg => by
  obtain ⟨b1, b2⟩ := b_desc m (mem_mms C.m1 C.m5) h (List.mem_range.mpr (C.lt h hh)) g hg
  exact D h hh _ b2 b1
theorem sum_bound {l : List Nat} {b : Nat} (h : ∀ x ∈ l, x ≤ b) : l.sum ≤ l.length * b := by
  induction l with
  | nil => simp
  | cons a r ih =>
    have := h a List.mem_cons_self
    have := ih fun x hx => h x (List.mem_cons_of_mem _ hx)
    rw [List.sum_cons, List.length_cons, Nat.succ_mul]; omega
theorem leastC_bound (C : Ch m hs) (hne : hs ≠ []) : 1 ≤ leastC hs ∧ leastC hs ≤ 1 <<< 24 := by
  unfold leastC
  constructor
  · obtain ⟨x, r, e⟩ := List.exists_cons_of_ne_nil (topH_ne hne)
    rw [e, List.map_cons, List.sum_cons, shl_one]
    have := Nat.two_pow_pos (freeB x)
    omega
  · have h1 := sum_bound (l := (topH hs).map fun h => 1 <<< freeB h) (b := 512) fun x hx => by
      obtain ⟨h, hh, rfl⟩ := List.mem_map.mp hx
      have := pow5 C.m5
      have := C.lt h (topH_mem.mp hh).1
      have := b_free h (List.mem_range.mpr (by omega))
      rw [shl_one]
      exact Nat.pow_le_pow_right (n := 2) (by decide) this
    rw [List.length_map] at h1
    have h2 : (topH hs).length ≤ hs.length := List.length_filter_le _ _
    have h3 := asc_len hs 0 (2 ^ m) C.asc fun x hx => ⟨Nat.zero_le _, C.lt x hx⟩
    have := pow5 C.m5
    have h4 : (topH hs).length * 512 ≤ 32 * 512 := Nat.mul_le_mul_right _ (by omega)
    have h5 : 32 * 512 ≤ 1 <<< 24 := by decide
    omega
theorem pick_some : ∀ (l : List Nat) (n : Nat), n < (l.map fun h => 1 <<< freeB h).sum → ∃ h b, pickF l n = some (h, b) ∧ h ∈ l ∧ b < 1 <<< freeB h
  | [], n, h => by simp at h
  | x :: l, n, h => by
    rw [List.map_cons, List.sum_cons] at h
    unfold pickF
    by_cases z : n < 1 <<< freeB x
    · rw [if_pos z]
      exact ⟨x, n, rfl, List.mem_cons_self, z⟩
    · rw [if_neg z]
      obtain ⟨h', b, h1, h2, h3⟩ := pick_some l (n - 1 <<< freeB x) (by omega)
      exact ⟨h', b, h1, List.mem_cons_of_mem _ h2, h3⟩
theorem good_flat (C : Ch m hs) {h b : Nat} (hh : h ∈ topH hs) (hb : b < 1 <<< freeB h) : GoodForms m (formsF h b) ∧ ones (flatF m (formsF h b)) = leastW m hs ∧ flatF m (formsF h b) ≤ full m := by
  obtain ⟨hm, ht⟩ := topH_mem.mp hh
  have hl := C.lt h hm
  obtain ⟨f1, f2⟩ := b_flat m (mem_mms C.m1 C.m5) h (List.mem_range.mpr hl) b (List.mem_range.mpr hb)
  obtain ⟨g1, g2, g3⟩ := b_good m (mem_mms C.m1 C.m5) h (List.mem_range.mpr hl) b (List.mem_range.mpr hb)
  refine ⟨⟨g1, g2, fun i f hf hmem => ?_⟩, by rw [f1, ht, leastW_pow], f2⟩
  have hi := (List.getElem?_eq_some_iff.mp hf).1
  have := g3 i (List.mem_range.mpr (by omega))
  rw [hf] at this
  have t2 : (!(lotSums (((formsF h b).take i).map (·.1))).contains f.1) = true := this
  rw [List.contains_iff_mem.mpr hmem] at t2
  cases t2
theorem one_all (C : Ch m hs) (D : DownC m hs) (hne : hs ≠ []) (hw : leastW m hs = 1) {x : Nat} (hx : x ≤ full m) : CodeW m hs x := by
  have ht : tops hs = m := by
    rw [leastW_pow] at hw
    have h1 : m - tops hs = 0 := by
      apply Classical.byContradiction
      intro z
      have : 2 ^ 1 ≤ 2 ^ (m - tops hs) := Nat.pow_le_pow_right (by decide) (by omega)
      omega
    have := tops_le C.lt
    omega
  obtain ⟨h, hm, he⟩ := tops_mem hne
  have hall : ∀ f, f < 2 ^ m → f ∈ hs := fun f hf => D h hm f hf (b_top m (mem_mms C.m1 C.m5) h (List.mem_range.mpr (C.lt h hm)) (by rw [he, ht]) f (List.mem_range.mpr hf))
  refine code_of_heaps C.m1 C.m5 hx (List.all_eq_true.mpr fun g hg => decide_eq_true (hall g ?_))
  exact (mem_onesOf.mp hg).1
end
end M
set_option maxHeartbeats 4000000
-- text D38
namespace G
open PySem PySem.Spec PyProof.Rows L2 M GG
section
variable {P : Program} {w : World} {K : PySem.W.Frag} {mg : Str → Option Value} {base : Heap}
theorem rd_callN {n m : Nat} {sp : Sp} {gV : List V → List V → List V} {E : XK} {t tk : TA} {σ : L2.St} {H : Hp} {Q : VK} (h : t σ H fun vs H1 => tk σ H1 fun zs H2 => vs.length = n ∧ zs.length = m ∧ sp (gV vs zs) H2 Q E) : tCallN n m sp gV E t tk σ H Q := h
theorem top_filter {m : Nat} {hs : List Nat} (C : Ch m hs) : hs.filter (fun g => decide (1 <<< (m - ones g) = leastW m hs)) = topH hs := by
  unfold topH leastW
  refine List.filter_congr fun g hg => decide_eq_decide.mpr ?_
  rw [shl_one, shl_one]
  have h1 := ones_le m g (C.lt g hg)
  have h2 := tops_le C.lt
  constructor
  · intro h
    rcases Nat.lt_trichotomy (m - ones g) (m - tops hs) with z | z | z
    · have := Nat.pow_lt_pow_right (a := 2) (by decide) z
      omega
    · omega
    · have := Nat.pow_lt_pow_right (a := 2) (by decide) z
      omega
  · intro h
    rw [h]
def spTold (K : PySem.W.Frag) : Sp := fun vs H Q _ => ∃ (c l : Addr) (m : Nat) (hs : List Nat) (k : Nat), vs = [.ref c, nv m, .ref l, nv (leastW m hs), nv k] ∧ ChAt H c m hs ∧ hs ≠ [] ∧ H l = some (.lst (nvs hs)) ∧ Tabs (tabl K) H ∧ k ≤ leastW m hs ∧ ∀ H', Gr K H H' → Q (.bl true) H'
theorem sc__law_two_told : FnScope ["_law_choice_here", "_law_m", "_law_heaps", "_law_weight", "_law_many", "_law_top", "_law_other", "_law_spots_here", "_law_word", "_law_told", "_law_lossy", "_law_heap"] ["_law_choice_here", "_law_m", "_law_heaps", "_law_weight", "_law_many"] (defScope (top 115)) := ⟨rfl, rfl, rfl, by decide +kernel, rfl, by decide +kernel, by decide +kernel⟩
theorem ok__law_two_told (T'' : TxX P K mg base) : FnOkG P w K mg base CX0 14 a_law_two_told (fdOf K a_law_two_told) ["_law_choice_here", "_law_m", "_law_heaps", "_law_weight", "_law_many"] (spTold K) := by
  have T' := T''.toTxB
  have T := T'.toTxt
  refine funD_okG T.f__law_two_told sc__law_two_told (fun vs H Q E h => ?len) (fun c hc A outer s H vs Q E hr hgu h => ?body)
  case body =>
    have TB : LamX.TabB base mg c (He.cT K ("_law_two_told", none)).2 := by
      have := T'.tb ("_law_two_told", none) (by simp [tfs, tf0])
      rw [hc _ (fAds T).2.1] at this
      exact this
    have hmT : ((He.cT K ("_law_two_told", none)).2, ("_law_two_told.<locals>.<lambda>" : Str)) ∈ tabl K := by simp [tabl]
    have nd := sc__law_two_told.nd
    refine ⟨_, PSs.nox (pss_cons (ps_if (pt_cmpR o_eq (pe_op o_mod (pe_callTy (call_int1) (by rfl) (T.n_int) (by decide +kernel) (pa_cons (pe_op o_sub (pv 3) (pv 4)) pa_nil)) (pe_n 2)) (pe_n 1) (nomark _)) (pss_one (ps_ret (pe_cmpR (op_eqD (room64 hr)) (pe_caught (TT := tabl K) (k := 8) T'' rfl TB rfl hmT (fun p hp e => tabl_uniq T p hp _ hmT e) (hr.mono (by decide)) (LamX.lamS_by (sc := defScope (top 115)) (by decide +kernel)) rfl (fun _ _ _ _ _ => rfl) (fun A outer s H E f c' hr2 => pe_call (ok_two_nearN T'') hr2 rfl (T.g_two_near) (T.k_two_near) (T.b2_two_near) .nil (passes_call (takes_of rfl rfl rfl rfl) fun _ _ _ _ h => h) (pa_cons (pv 0) (pa_cons (pv 4) pa_nil)))) (pe_lst (pa_cons pe_str pa_nil)) (nomark _)))) pss_nil)
      (pss_cons (ps_set (i := 5) nd rfl (Or.inl rfl) (pe_ix ix_list (pe_lc (own := [("_law_heap", 11)]) rfl nd (pi_list (pe_callB (cr_sortedI) (by rfl) (T.n_sorted) (by decide +kernel) (pa_cons (pv 2) pa_nil))) (blkOk_by (N := ["_law_choice_here", "_law_m", "_law_heaps", "_law_weight", "_law_many", "_law_top", "_law_other", "_law_spots_here", "_law_word", "_law_told", "_law_lossy", "_law_heap"]) (sc := defScope (top 115)) (by decide +kernel)) (fun _ _ _ _ _ => (pg_name (i := 11) nd rfl (.inl rfl))) (fun _ _ _ _ _ => (pts_one (pt_cmpR o_eq (pe_op o_shl (pe_n 1) (pe_op o_sub (pv 1) (pe_call (ok__law_ones T) (hr.mono (by decide)) rfl (T.g__law_ones) (T.k__law_ones) (T.b__law_ones) .nil pass0 (pa_cons (pv 11) pa_nil)))) (pv 3) (nomark _)))) (fun _ _ _ _ _ => (pv 11))) (pe_n 0) (fun _ _ => rfl)))
      (pss_cons (ps_set (i := 6) nd rfl (Or.inl rfl) (pe_call (ok__law_heap_word T) (hr.mono (by decide)) rfl (T.g__law_heap_word) (T.k__law_heap_word) (T.b__law_heap_word) .nil pass0 (pa_cons (pv 1) (pa_cons (pv 5) pa_nil))))
      (pss_cons (ps_set (i := 7) nd rfl (Or.inl rfl) (pe_call (ok__law_spots_of T) (hr.mono (by decide)) rfl (T.g__law_spots_of) (T.k__law_spots_of) (T.b__law_spots_of) .nil pass0 (pa_cons (pv 1) (pa_cons (pv 6) pa_nil))))
      (pss_cons (ps_set (i := 8) nd rfl (Or.inl rfl) (pe_call (ok__law_markT T) (hr.mono (by decide)) rfl (T.g__law_mark) (T.k__law_mark) (T.b__law_mark) .nil pass0 (pa_cons (pe_slice sl_tupA (pv 7) (po_some (pv 4)) (po_some (pe_op o_div (pe_op o_add (pv 3) (pv 4)) (pe_n 2)))) pa_nil)))
      (pss_cons (ps_set (i := 9) nd rfl (Or.inl rfl) (pe_callN (ok_two_near T) (hr.mono (by decide)) rfl (T.g_two_near) (T.k_two_near) (T.bk_two_near) pass0 (pa_cons (pv 0) pa_nil) (pk_cons (pv 4) pk_nil)))
      (pss_cons (ps_if (pt_not (pt_val (pe_callB (call_isi) (by rfl) (T.n_isinstance) (by decide +kernel) (pa_cons (pv 9) (pa_cons (pe_glob (v := .ref c_TwoNear) rfl (T.g_TwoNear) rfl) pa_nil))))) (pss_one (ps_ret pe_bl)) pss_nil)
      (pss_cons (ps_if (pt_cmpR op_ne (pe_callB (cr_reprD hgu (room64 hr)) (by rfl) (T.n_repr) (by decide +kernel) (pa_cons (pe_lst (pa_cons (pe_fld (pv 9) rfl) (pa_cons (pe_fld (pv 9) rfl) (pa_cons (pe_fld (pv 9) rfl) (pa_cons (pe_fld (pv 9) rfl) pa_nil))))) pa_nil)) (pe_callB (cr_reprD hgu (room64 hr)) (by rfl) (T.n_repr) (by decide +kernel) (pa_cons (pe_lst (pa_cons (pv 8) (pa_cons (pe_slice sl_tupA (pv 7) po_none (po_some (pv 4))) (pa_cons (pe_n 0) (pa_cons (pv 6) pa_nil))))) pa_nil)) (nomark _)) (pss_one (ps_ret pe_bl)) pss_nil)
      (pss_cons (ps_set (i := 10) nd rfl (Or.inl rfl) (pe_call (ok_read_lossy T') (hr.mono (by decide)) rfl (T.g_read_lossy) (T.k_read_lossy) (T.b_read_lossy) .nil pass0 (pa_cons (pv 0) (pa_cons (pv 8) (pa_cons (pe_fld (pv 9) rfl) pa_nil)))))
      (pss_one (ps_ret (pe_or (pe_cmpR op_isN (pv 10) pe_non (nomark _)) (pe_one (pe_cmpR op_is_bl (pe_fld (pv 10) rfl) pe_bl (nomark _))))))))))))))), ?_⟩
    obtain ⟨c0, l, m, hs, k, rfl, hc0, hne, hl, ht, hk, q⟩ := h
    walk_at "rd"
    refine rd_n hk ?_
    walk_at "rd"
    refine rd_intN ?_
    walk_at "rd"
    refine rd_n (by decide) ?_
    walk_at "rd"
    have h1 := hc0.ch.m1
    have h5 := hc0.ch.m5
    have hpw := pow32 h5
    refine tdec (fun z => ?_) fun z => ?_
    · have hk2 : (leastW m hs - k) % 2 = 0 := by omega
      have hli := hl
      rw [nvs_int] at hli
      walk_at "rd"
      refine ⟨l, _, rfl, sqL_of hli, fun ns p hp hs' hn => ?_⟩
      obtain ⟨qs, rfl, hq1, hq2⟩ := perm_cast hp hs'
      rw [← nvs_int]
      have eqs : qs = hs := List.Perm.eq_of_pairwise (fun a b _ _ h1 h2 => Nat.le_antisymm h1 h2) hq2 (hc0.ch.asc.imp fun h => Nat.le_of_lt h) hq1
      subst eqs
      have s1 := Sm.new (o := .lst (nvs qs)) hn
      have ep : upd H p (.lst (nvs qs)) p = some (.lst (nvs qs)) := upd_same
      generalize upd H p (.lst (nvs qs)) = H1 at s1 ep
      refine lc_lstJ (sqL_of ep) (line32 (by have := hc0.len; omega)) (fun g => decide (1 <<< (m - ones g) = leastW m qs)) nv (fun g hg H2 D2 s2 Nx n1 n2 => ?_) (fun H2 D2 s2 hD e2 => ?_)
      · have hgm := ones_le m g (hc0.ch.lt g hg)
        walk_at "rd"
        refine ⟨g, rfl, ?_⟩
        walk_at "rd"
        refine rd_n hgm ?_
        refine rd_n ⟨by omega, by omega⟩ ?_
        walk_at "rd"
        refine tdec (fun z => ?_) fun z => ?_
        · exact n1 _ Sm.refl (decide_eq_false z)
        · walk_at "rd"
          exact n2 _ Sm.refl (decide_eq_true z)
      · have e0 : H2 D2 = some (.lst (nvs (topH qs))) := by rw [← top_filter hc0.ch]; exact e2
        obtain ⟨x, r, htp⟩ : ∃ x r, topH qs = x :: r := List.exists_cons_of_ne_nil (topH_ne hne)
        have hxm : x ∈ topH qs := by rw [htp]; exact List.mem_cons_self
        have hx2 : x < 2 ^ m := hc0.ch.lt x (topH_mem.mp hxm).1
        have hot : lawHW m x = otherW m qs := by
          unfold otherW
          rw [htp]
          exact b_law m (mem_mms h1 h5) x (List.mem_range.mpr hx2)
        obtain ⟨ho1, ho2⟩ := other_ones hc0.ch hne
        have hlen := other_len hc0.ch hne
        have hLp : leastW m qs ≤ 32 := by
          rw [leastW_pow]
          exact Nat.le_trans (Nat.pow_le_pow_right (n := 2) (by decide) (by omega : m - tops qs ≤ 5)) (by decide)
        walk_at "rd"
        refine rd_ixL (j := 0) e0 (by rw [htp]; rfl) ?_
        walk_at "rd"
        refine ⟨m, x, rfl, h5, ?_⟩
        rw [hot]
        walk_at "rd"
        refine ⟨m, otherW m qs, rfl, h5, fun st H3 s3 e3 => ?_⟩
        walk_at "rd"
        refine rd_sl ?_
        walk_at "rd"
        refine rd_part ?_
        walk_at "rd"
        refine ⟨_, rfl, rd_part ?_⟩
        walk_at "rd"
        refine rd_n (by decide) ?_
        refine ⟨_, rfl, rd_slA e3 fun hp H4 s4 e4 => ?_⟩
        have hhi : (leastW m qs + k) / 2 = k + (leastW m qs - k) / 2 := by omega
        rw [hhi] at e4
        have e4' : H4 hp = some (.tup (nvs (halfW m qs k))) := e4
        walk_at "rd"
        refine ⟨hp, halfW m qs k, rfl, e4', fun y hy => ?_, ?_⟩
        · have := (mem_onesOf.mp (cut_mem hy)).1
          omega
        walk_at "rd"
        refine rd_callN ?_
        walk_at "rd"
        have hc4 : ChAt H4 c0 m qs := hc0.mono (s1.trans (s2.trans (s3.trans s4)))
        refine ⟨rfl, rfl, c0, m, qs, k, rfl, hc4, hne, hk, hk2, fun a dx tl H5 s5 e5 et => ?_⟩
        have s05 := s1.trans (s2.trans (s3.trans (s4.trans s5)))
        walk_at "rd"
        refine rd_isrec e5 T.cl_TwoNear T.is_TwoNear T.kit_TwoNear_TwoNear ?_
        walk_at "rd"
        refine rd_of e5 T.cl_TwoNear T.no_TwoNear_word rfl ?_
        walk_at "rd"
        refine rd_of e5 T.cl_TwoNear T.no_TwoNear_lost rfl ?_
        walk_at "rd"
        refine rd_of e5 T.cl_TwoNear T.no_TwoNear_one rfl ?_
        walk_at "rd"
        refine rd_of e5 T.cl_TwoNear T.no_TwoNear_other rfl ?_
        walk_at "rd"
        have hfl := full_lt h5
        have hw1 : mark (halfW m qs k) < 2 ^ 33 := by have := le_full.mp (half_full (m := m) (hs := qs) (k := k)); omega
        have hw2 : otherW m qs < 2 ^ 33 := by have := le_full.mp ho2; omega
        have hts : ∀ y ∈ (onesOf m (otherW m qs)).take k, y < 2 ^ m := fun y hy => (mem_onesOf.mp (List.mem_of_mem_take hy)).1
        have hts2 : ∀ y ∈ (onesOf m (otherW m qs)).take k, y < 2 ^ 33 := fun y hy => by have := hts y hy; omega
        have htl : ((onesOf m (otherW m qs)).take k).length ≤ 32 := by rw [List.length_take]; omega
        refine ⟨by rw [sizeLine_eq]; show 4 ≤ 16777216; omega, fun l1 hl1 => ?_⟩
        have s6 := Sm.new (o := .lst [nv (mark (halfW m qs k)), .ref tl, nv 0, nv (otherW m qs)]) hl1
        have e6 : upd H5 l1 (.lst [nv (mark (halfW m qs k)), .ref tl, nv 0, nv (otherW m qs)]) l1 = some (.lst [nv (mark (halfW m qs k)), .ref tl, nv 0, nv (otherW m qs)]) := upd_same
        generalize upd H5 l1 (.lst [nv (mark (halfW m qs k)), .ref tl, nv 0, nv (otherW m qs)]) = H6 at s6 e6
        walk_at "rd"
        have shw : ∀ d ∈ [PyData.int ((mark (halfW m qs k) : Nat) : Int), .tuple (numD ((onesOf m (otherW m qs)).take k)), .int ((0 : Nat) : Int), .int ((otherW m qs : Nat) : Int)], Shw 70000 d ∧ d.depth ≤ 10 := fun d hd => by
          simp only [List.mem_cons, List.not_mem_nil, or_false] at hd
          rcases hd with rfl | rfl | rfl | rfl
          · exact Shw.int' hw1
          · exact Shw.tup' hts2 (by omega)
          · exact Shw.int' (by decide)
          · exact Shw.int' hw2
        refine rd_reprL e6 (.cons (.int _) (.cons (.tup (sqT_of (s6 _ _ et)) (dp_nvs _)) (.cons (.int _) (.cons (.int _) .nil)))) shw (by show 4 ≤ 10; omega) ?_
        walk_at "rd"
        refine rd_sl ?_
        walk_at "rd"
        refine rd_nopart ?_
        refine rd_part ?_
        walk_at "rd"
        refine ⟨_, rfl, rd_slA0 (s6 _ _ (s5 _ _ (s4 _ _ e3))) fun p2 H7 s7 e7 => ?_⟩
        walk_at "rd"
        refine ⟨by rw [sizeLine_eq]; show 4 ≤ 16777216; omega, fun l2 hl2 => ?_⟩
        have s8 := Sm.new (o := .lst [nv (mark (halfW m qs k)), .ref p2, nv 0, nv (otherW m qs)]) hl2
        have e8 : upd H7 l2 (.lst [nv (mark (halfW m qs k)), .ref p2, nv 0, nv (otherW m qs)]) l2 = some (.lst [nv (mark (halfW m qs k)), .ref p2, nv 0, nv (otherW m qs)]) := upd_same
        generalize upd H7 l2 (.lst [nv (mark (halfW m qs k)), .ref p2, nv 0, nv (otherW m qs)]) = H8 at s8 e8
        walk_at "rd"
        refine rd_reprL e8 (.cons (.int _) (.cons (.tup (sqT_of (s8 _ _ e7)) (dp_nvs _)) (.cons (.int _) (.cons (.int _) .nil)))) shw (by show 4 ≤ 10; omega) ?_
        refine ⟨rfl, ?_⟩
        rw [decide_eq_true rfl]
        walk_at "rd"
        have s08 := s05.trans (s6.trans (s7.trans s8))
        have e58 := s8 _ _ (s7 _ _ (s6 _ _ e5))
        refine rd_of e58 T.cl_TwoNear T.no_TwoNear_lost rfl ?_
        walk_at "rd"
        have hasc : Asc ((onesOf m (otherW m qs)).take k) := (onesOf_asc _ _).take
        refine ⟨c0, m, qs, mark (halfW m qs k), tl, _, _, rfl, hc0.mono s08, half_full, ht.ext s08, .inr (s8 _ _ (s7 _ _ (s6 _ _ et))), hts, by omega, hasc, fun _ => Iff.rfl, fun v H9 g9 hv => ?_⟩
        have hun := two_unsure hc0.ch hne hk hk2
        walk_at "rd"
        cases ez : lossyF m qs (ordOf qs) (mark (halfW m qs k)) ((onesOf m (otherW m qs)).take k) with
        | none =>
          rw [ez] at hv
          have hv' : v = .non := hv
          subst hv'
          refine ⟨rfl, rd_bl ?_⟩
          refine iteT ?_
          exact q _ (s08.gr.trans g9)
        | some z =>
          rw [ez] at hv
          obtain ⟨b, dx2, t2, rfl, eb, et2⟩ := hv
          have hz := hun z ez
          refine ⟨rfl, rd_bl ?_⟩
          refine iteF ?_
          walk_at "rd"
          refine rd_of eb T.cl_Lossy T.no_Lossy_sure rfl ?_
          walk_at "rd"
          refine ⟨_, _, rfl, rfl, ?_⟩
          rw [decide_eq_true hz]
          exact q _ (s08.gr.trans g9)
    · walk_at "rd"
      refine ⟨ht, fun H1 eN t1 => ?_⟩
      have g1 : Gr K H H1 := Gr.of eN t1
      unfold TTc
      walk_at "rd"
      refine ⟨c0, m, hs, k, rfl, hc0.gr g1, hne, hk, z, fun H2 s2 => .inr (.inl ⟨rfl, fun p hp => ?_⟩)⟩
      walk_at "rd"
      refine ⟨by rw [sizeLine_eq]; show 1 ≤ 16777216; omega, fun p2 hp2 => ?_⟩
      walk_at "rd"
      refine ⟨.list [.str "NoneNear"], .list [.str "NoneNear"], .lst (sqL_of (Sm.new hp2 _ _ upd_same)) (.cons (.str _) .nil), .lst (sqL_of upd_same) (.cons (.str _) .nil), by decide +kernel, by decide +kernel, ?_⟩
      have e : PyData.eqv (.list [.str "NoneNear"]) (.list [.str "NoneNear"]) = true := by decide +kernel
      rw [e]
      exact q _ (g1.sm (s2.trans ((Sm.new hp).trans (Sm.new hp2))))
  case len =>
    obtain ⟨c, l, m, hs, k, rfl, _⟩ := h
    rfl
end
end G
set_option maxHeartbeats 4000000
-- text D39
namespace G
open PySem PySem.Spec PyProof.Rows L2 M GG
section
variable {P : Program} {w : World} {K : PySem.W.Frag} {mg : Str → Option Value} {base : Heap}
theorem pe_bmK {X : Cx} {K : PySem.W.Frag} {T : String} {id : String} {name : Str} {r : V → List V → Hp → VK → Prop} {o e : Expr} {es : List Expr} {to : TE} {t : TA} {apos cpos : Pos} (hK : X.K = K) (pa : PlainAttrs T) (slot : Slot T name id) (hty : typeOf (.builtin id) = pure (.type "method_descriptor")) (hm : MtR X id r) (ho : PE X o to) (ha : PA X (e :: es) t)
    (hbase : attributeBase o name X.env (eval o X.env) = eval o X.env := by rfl)
    (hfew : ((backTo cpos (starEach (e :: es) X.env)).all (fun x => !x.1) && (backToKw cpos (keywordEach [] X.env)).all (fun x => x.1.isSome)
      && decide ((e :: es).length + ([] : List Keyword).length + (if ([] : List Keyword).isEmpty then 0 else 1) < 30)) = true := by rfl)
    (hline : (apos.endLine == cpos.line) = true := by rfl) (hs : starEach (e :: es) X.env = (false, eval e X.env) :: starEach es X.env := by rfl) (hplain : (backTo cpos (starEach es X.env)).any (·.1) = false := by rfl) :
    PE X (.Call (.Attribute o name apos) (e :: es) [] cpos) (tBM K T r to t) := by
  subst hK
  exact pe_bm pa slot hty hm ho ha hbase hfew hline hs hplain
theorem on_subZ {X : Cx} : OpR X (binaryOp .Sub) (rN0 fun a b => .int ((a : Int) - (b : Int))) := by
  intro pins s σ H x y v u Q I rx ry h
  obtain ⟨a, b, rfl, rfl, q⟩ := h
  exact op_sub pins s σ H _ _ v u Q I rx ry ⟨_, _, rfl, rfl, q⟩
theorem ite_both {c : Prop} [Decidable c] {A B : Prop} (hB : B) (hA : c → B → A) : if c then A else B := by
  by_cases h : c
  · rw [if_pos h]; exact hA h hB
  · rw [if_neg h]; exact hB
def spHalved (K : PySem.W.Frag) : Sp := fun vs H Q _ => ∃ (a p c : Addr) (m : Nat) (hs : List Nat), vs = [.ref a, .ref c, nv m, nv (leastW m hs)] ∧ HandAt H a p ∧ ChAt H c m hs ∧ hs ≠ [] ∧ DownC m hs ∧ Tabs (tabl K) H ∧ ∀ H', Hg K a p H H' → Q (.bl true) H'
theorem sc__law_least_halved : FnScope ["_law_hand_here", "_law_choice_here", "_law_m", "_law_weight", "_law_number", "_law_many", "_law_word", "_law_spots_here", "_law_gone", "_law_lost", "_law_half", "_law_told", "_law_places", "_law_turned", "_law_near", "_law_place", "_law_k"] ["_law_hand_here", "_law_choice_here", "_law_m", "_law_weight"] (defScope (top 117)) := ⟨rfl, rfl, rfl, by decide +kernel, rfl, by decide +kernel, by decide +kernel⟩
theorem ok__law_least_halved (T' : TxB K mg base) : FnOk P w K mg base CX0 14 a_law_least_halved (fdOf K a_law_least_halved) ["_law_hand_here", "_law_choice_here", "_law_m", "_law_weight"] (spHalved K) := by
  have T := T'.toTxt
  refine T.f__law_least_halved.ok sc__law_least_halved (fun vs H Q E h => ?len) (fun cdv A outer s H vs Q E hr h => ?body)
  case body =>
    obtain ⟨dsR, rvR, bR⟩ := T.b1_read_votes
    have nd := sc__law_least_halved.nd
    refine ⟨_, PSs.nox (pss_cons (ps_set (i := 4) nd rfl (Or.inl rfl) (pe_call (ok__law_wide T) (hr.mono (by decide)) rfl (T.g__law_wide) (T.k__law_wide) (T.b__law_wide) .nil pass0 (pa_cons (pv 0) (pa_cons (pe_n 24) pa_nil))))
      (pss_cons (ps_set (i := 5) nd rfl (Or.inl rfl) (pe_call (ok_least_count T) (hr.mono (by decide)) rfl (T.g_least_count) (T.k_least_count) (T.b_least_count) .nil pass0 (pa_cons (pv 1) pa_nil)))
      (pss_cons (ps_if (pt_not (pt_val (pe_call (ok__law_is_int T) (hr.mono (by decide)) rfl (T.g__law_is_int) (T.k__law_is_int) (T.b__law_is_int) .nil pass0 (pa_cons (pv 5) (pa_cons (pe_n 1) (pa_cons (pe_op o_shl (pe_n 1) (pe_n 24)) pa_nil)))))) (pss_one (ps_ret pe_bl)) pss_nil)
      (pss_cons (ps_set (i := 6) nd rfl (Or.inl rfl) (pe_call (ok_least_at T) (hr.mono (by decide)) rfl (T.g_least_at) (T.k_least_at) (T.b_least_at) .nil pass0 (pa_cons (pv 1) (pa_cons (pe_op o_mod (pe_callTy (call_int1) (by rfl) (T.n_int) (by decide +kernel) (pa_cons (pv 4) pa_nil)) (pv 5)) pa_nil))))
      (pss_cons (ps_if (PW.pt (pw_or (pt_not (pt_val (pe_call (ok__law_is_int T) (hr.mono (by decide)) rfl (T.g__law_is_int) (T.k__law_is_int) (T.b__law_is_int) .nil pass0 (pa_cons (pv 6) (pa_cons (pe_n 1) (pa_cons (pe_op o_sub (pe_op o_shl (pe_n 1) (pe_op o_shl (pe_n 1) (pv 2))) (pe_n 1)) pa_nil)))))) (pw_or (pt_cmpR o_ne (pe_call (ok__law_ones T) (hr.mono (by decide)) rfl (T.g__law_ones) (T.k__law_ones) (T.b__law_ones) .nil pass0 (pa_cons (pv 6) pa_nil)) (pv 3) (nomark _)) (pw_or1 (pt_cmpR op_isN (pe_call (ok_told_fault T') (hr.mono (by decide)) rfl (T.g_told_fault) (T.k_told_fault) (T.b_told_fault) .nil pass0 (pa_cons (pv 1) (pa_cons (pe_n 0) (pa_cons (pv 6) pa_nil)))) pe_non (nomark _)))))) (pss_one (ps_ret pe_bl)) pss_nil)
      (pss_cons (ps_set (i := 7) nd rfl (Or.inr rfl) (pe_callTy (call_list_of) (by rfl) (T.n_list) (by decide +kernel) (pa_cons (pe_call (ok__law_spots_of T) (hr.mono (by decide)) rfl (T.g__law_spots_of) (T.k__law_spots_of) (T.b__law_spots_of) .nil pass0 (pa_cons (pv 2) (pa_cons (pv 6) pa_nil))) pa_nil)))
      (pss_cons (ps_set (i := 8) nd rfl (Or.inl rfl) (pe_call (ok__law_draw T) (hr.mono (by decide)) rfl (T.g__law_draw) (T.k__law_draw) (T.b__law_draw) .nil pass0 (pa_cons (pv 0) (pa_cons (pe_op o_add (pv 3) (pe_n 1)) pa_nil))))
      (pss_cons (ps_set (i := 8) nd rfl (Or.inl rfl) (pe_op on_subZ (pv 8) (pe_op o_mod (pe_callTy (call_int1) (by rfl) (T.n_int) (by decide +kernel) (pa_cons (pe_op o_sub (pv 3) (pv 8)) pa_nil)) (pe_n 2))))
      (pss_cons (ps_set (i := 9) nd rfl (Or.inr rfl) (pe_lst pa_nil))
      (pss_cons (ps_set (i := 10) nd rfl (Or.inr rfl) (pe_lst pa_nil))
      (pss_cons (ps_if (pt_cmpR op_ge (pv 8) pe_int (nomark _)) (pss_cons (ps_set (i := 9) nd rfl (Or.inr rfl) (pe_lc (own := [("_law_k", 16)]) rfl nd (pi_range1 rfl (T.n_range) (pa_cons (pv 8) pa_nil)) (blkOk_by (N := ["_law_hand_here", "_law_choice_here", "_law_m", "_law_weight", "_law_number", "_law_many", "_law_word", "_law_spots_here", "_law_gone", "_law_lost", "_law_half", "_law_told", "_law_places", "_law_turned", "_law_near", "_law_place", "_law_k"]) (sc := defScope (top 117)) (by decide +kernel)) (fun _ _ _ _ _ => (pg_name (i := 16) nd rfl (.inl rfl))) (fun _ _ _ _ _ => pts_nil) (fun _ _ _ _ _ => (pe_bmK (K := K) (by rfl) PySem.F.plainAttrs_list PySem.F.slot_list_pop PySem.F.type_list_pop mt_popAt (pv 7) (pa_cons (pe_call (ok__law_draw T) (hr.mono (by decide)) rfl (T.g__law_draw) (T.k__law_draw) (T.b__law_draw) .nil pass0 (pa_cons (pv 0) (pa_cons (pe_callB (call_lenK (K := K) (by rfl)) (by rfl) (T.n_len) (by decide +kernel) (pa_cons (pv 7) pa_nil)) pa_nil))) pa_nil)))))
      (pss_cons (ps_set (i := 10) nd rfl (Or.inr rfl) (pe_lc (own := [("_law_k", 16)]) rfl nd (pi_range1 rfl (T.n_range) (pa_cons (pe_op o_div (pe_op o_sub (pv 3) (pv 8)) (pe_n 2)) pa_nil)) (blkOk_by (N := ["_law_hand_here", "_law_choice_here", "_law_m", "_law_weight", "_law_number", "_law_many", "_law_word", "_law_spots_here", "_law_gone", "_law_lost", "_law_half", "_law_told", "_law_places", "_law_turned", "_law_near", "_law_place", "_law_k"]) (sc := defScope (top 117)) (by decide +kernel)) (fun _ _ _ _ _ => (pg_name (i := 16) nd rfl (.inl rfl))) (fun _ _ _ _ _ => pts_nil) (fun _ _ _ _ _ => (pe_bmK (K := K) (by rfl) PySem.F.plainAttrs_list PySem.F.slot_list_pop PySem.F.type_list_pop mt_popAt (pv 7) (pa_cons (pe_call (ok__law_draw T) (hr.mono (by decide)) rfl (T.g__law_draw) (T.k__law_draw) (T.b__law_draw) .nil pass0 (pa_cons (pv 0) (pa_cons (pe_callB (call_lenK (K := K) (by rfl)) (by rfl) (T.n_len) (by decide +kernel) (pa_cons (pv 7) pa_nil)) pa_nil))) pa_nil)))))
      (pss_cons (ps_set (i := 11) nd rfl (Or.inl rfl) (pe_call (ok_read_lossy T') (hr.mono (by decide)) rfl (T.g_read_lossy) (T.k_read_lossy) (T.b_read_lossy) .nil pass0 (pa_cons (pv 1) (pa_cons (pe_call (ok__law_mark T) (hr.mono (by decide)) rfl (T.g__law_mark) (T.k__law_mark) (T.b__law_mark) .nil pass0 (pa_cons (pv 10) pa_nil)) (pa_cons (pv 9) pa_nil)))))
      (pss_one (ps_if (PW.pt (pw_and (pt_cmpR op_notN (pv 11) pe_non (nomark _)) (pw_and1 (PW.pt (pw_or (pt_not (pt_val (pe_callB (call_isi) (by rfl) (T.n_isinstance) (by decide +kernel) (pa_cons (pv 11) (pa_cons (pe_glob (v := .ref c_Lossy) rfl (T.g_Lossy) rfl) pa_nil))))) (pw_or1 (pt_cmpR op_isnot_bl (pe_fld (pv 11) rfl) pe_bl (nomark _)))))))) (pss_one (ps_ret pe_bl)) pss_nil))))) pss_nil)
      (pss_cons (ps_if (pt_cmpR o_eq (pv 3) (pe_n 1) (nomark _)) (pss_cons (ps_set (i := 11) nd rfl (Or.inl rfl) (pe_call (ok_read_votes T') (hr.mono (by decide)) rfl (T.g_read_votes) (T.k_read_votes) bR rvR pass0 (pa_cons (pv 1) (pa_cons (pv 6) pa_nil))))
      (pss_one (ps_ret (pe_and (pe_callB (call_isi) (by rfl) (T.n_isinstance) (by decide +kernel) (pa_cons (pv 11) (pa_cons (pe_glob (v := .ref c_Read) rfl (T.g_Read) rfl) pa_nil))) (pe_one (pe_cmpR o_eq (pe_fld (pv 11) rfl) (pv 6) (nomark _))))))) pss_nil)
      (pss_cons (ps_set (i := 12) nd rfl (Or.inl rfl) (pe_call (ok__law_spots_of T) (hr.mono (by decide)) rfl (T.g__law_spots_of) (T.k__law_spots_of) (T.b__law_spots_of) .nil pass0 (pa_cons (pv 2) (pa_cons (pv 6) pa_nil))))
      (pss_cons (ps_setLc (i := 13) (own := [("_law_place", 15)]) rfl nd rfl rfl (sw_true rfl rfl rfl (by decide +kernel)) (pi_tup (pv 12)) (blkOk_by (N := ["_law_hand_here", "_law_choice_here", "_law_m", "_law_weight", "_law_number", "_law_many", "_law_word", "_law_spots_here", "_law_gone", "_law_lost", "_law_half", "_law_told", "_law_places", "_law_turned", "_law_near", "_law_place", "_law_k"]) (sc := defScope (top 117)) (by decide +kernel)) (fun _ _ _ _ _ => (pg_name (i := 15) nd rfl (.inl rfl))) (fun _ _ _ _ _ => (pts_one (PW.pt (pw_and (pt_cmpR (op_notInK (K := K) (by rfl)) (pv 15) (pv 10) rfl) (pw_and1 (pt_cmpR (op_notInK (K := K) (by rfl)) (pv 15) (pv 9) rfl)))))) (fun _ _ _ _ _ => (pv 15)))
      (pss_cons (ps_set (i := 14) nd rfl (Or.inl rfl) (pe_call (ok__law_mark T) (hr.mono (by decide)) rfl (T.g__law_mark) (T.k__law_mark) (T.b__law_mark) .nil pass0 (pa_cons (pe_slice sl_list (pe_op op_cat (pe_op op_cat (pv 10) (pv 13)) (pv 9)) po_none (po_some (pe_op o_div (pv 3) (pe_n 2)))) pa_nil)))
      (pss_cons (ps_if (pt_not (pt_val (pe_callB (call_isiT) (by rfl) (T.n_isinstance) (by decide +kernel) (pa_cons (pe_call (ok_read_votes T') (hr.mono (by decide)) rfl (T.g_read_votes) (T.k_read_votes) bR rvR pass0 (pa_cons (pv 1) (pa_cons (pv 14) pa_nil))) (pa_cons (pe_tup (pa_cons (pe_glob (v := .ref c_Far) rfl (T.g_Far) rfl) (pa_cons (pe_glob (v := .ref c_Tie) rfl (T.g_Tie) rfl) pa_nil))) pa_nil))))) (pss_one (ps_ret pe_bl)) pss_nil)
      (pss_one (ps_ret (pe_or (pe_cmpR op_notN (pe_call (ok_told_fault T') (hr.mono (by decide)) rfl (T.g_told_fault) (T.k_told_fault) (T.b_told_fault) .nil pass0 (pa_cons (pv 1) (pa_cons (pv 14) (pa_cons (pe_n 0) pa_nil)))) pe_non (nomark _)) (pe_one (pe_cmpR op_notN (pe_call (ok_told_fault T') (hr.mono (by decide)) rfl (T.g_told_fault) (T.k_told_fault) (T.b_told_fault) .nil pass0 (pa_cons (pv 1) (pa_cons (pv 14) (pa_cons (pv 6) pa_nil)))) pe_non (nomark _)))))))))))))))))))))), ?_⟩
    obtain ⟨a, p, c, m, hs, rfl, ha, hc, hne, hdn, ht, q⟩ := h
    have h1 := hc.ch.m1
    have h5 := hc.ch.m5
    have hpw := pow32 h5
    walk_at "rd"
    have hcl := down_closed hc.ch hdn
    have hfa := down_fall hc.ch hdn
    obtain ⟨hb1, hb2⟩ := leastC_bound hc.ch hne
    refine ⟨a, p, 24, rfl, by decide, ha, fun nb H1 hnb g1 => ?_⟩
    have ha1 := ha.hg g1
    have hc1 := g1.ch ha hc
    walk_at "rd"
    refine ⟨c, m, hs, rfl, hc1, hne, hcl, hfa, fun H2 s2 => ?_⟩
    have g2 := g1.sm s2
    have hc2 := hc1.mono s2
    walk_at "rd"
    refine rd_n ⟨by decide, by decide⟩ ?_
    refine ⟨leastC hs, 1, 1 <<< 24, rfl, ?_⟩
    rw [decide_eq_true (⟨hb1, hb2⟩ : 1 ≤ leastC hs ∧ leastC hs ≤ 1 <<< 24)]
    walk_at "rd"
    refine rd_intN ?_
    walk_at "rd"
    refine rd_n (by omega) ?_
    have hnl : nb % leastC hs < leastC hs := Nat.mod_lt _ (by omega)
    obtain ⟨h, b, hpk, hht, hbt⟩ := pick_some (topH hs) (nb % leastC hs) hnl
    obtain ⟨hgood, hones, hfull⟩ := good_flat hc.ch hht hbt
    refine ⟨c, m, hs, nb % leastC hs, h, b, rfl, hc2, hne, hcl, hfa, by omega, hb1, hpk, hgood, fun H3 s3 => ?_⟩
    generalize hx : flatF m (formsF h b) = x at hones hfull
    have hLp : 1 ≤ leastW m hs := by rw [leastW_pow]; exact Nat.one_le_two_pow
    have hL32 : leastW m hs ≤ 32 := by
      rw [leastW_pow]
      exact Nat.le_trans (Nat.pow_le_pow_right (n := 2) (by decide) (by omega : m - tops hs ≤ 5)) (by decide)
    have hx0 : x ≠ 0 := fun z => by
      rw [z] at hones
      have : ones 0 = 0 := rfl
      omega
    walk_at "rd"
    have hm32 := le32 h5
    refine rd_n ⟨by omega, by decide⟩ ?_
    refine rd_n ⟨by omega, by decide⟩ ?_
    walk_at "rd"
    refine rd_n (one_le_shl _) ?_
    refine ⟨x, 1, full m, rfl, ?_⟩
    rw [decide_eq_true (⟨by omega, hfull⟩ : 1 ≤ x ∧ x ≤ full m)]
    walk_at "rd"
    refine ⟨x, rfl, ?_⟩
    rw [hones]
    walk_at "rd"
    refine tndec (fun _ => ?_) fun z => absurd rfl z
    walk_at "rd"
    refine ⟨c, m, hs, 0, x, rfl, hc2.mono s3, Nat.zero_le _, hfull, (g2.sm s3).2.1 ht, fun v H4 g4 hv => ?_⟩
    rw [fault_zero hc.ch hfull hx0] at hv
    have hv' : decide (v = V.non) = false := hv
    have g4' : Hg K a p H H4 := (g2.sm s3).trans g4.hg
    walk_at "rd"
    refine ⟨rfl, rd_bl ?_⟩
    rw [hv']
    walk_at "rd"
    refine ⟨m, x, rfl, h5, fun st H5 s5 e5 => ?_⟩
    walk_at "rd"
    refine ⟨st, _, rfl, .inr (sqT_of e5), fun sp hsp => ?_⟩
    have g5 : Hg K a p H H5 := g4'.sm s5
    have ha5 : HandAt H5 a p := ha.hg g5
    have hc5 : ChAt H5 c m hs := g5.ch ha hc
    have ht5 : Tabs (tabl K) H5 := g5.2.1 ht
    have gB6 : Hg K a p H5 (upd H5 sp (.lst (nvs (onesOf m x)))) := (Sm.new hsp).hg
    have e6 : upd H5 sp (.lst (nvs (onesOf m x))) sp = some (.lst (nvs (onesOf m x))) := upd_same
    generalize upd H5 sp (.lst (nvs (onesOf m x))) = H6 at gB6 e6
    have hlx : (onesOf m x).length = leastW m hs := by rw [onesOf_len hfull, hones]
    have ndx := onesOf_nodup m x
    walk_at "rd"
    refine ⟨a, p, leastW m hs + 1, rfl, by omega, by omega, ha5.hg gB6, fun gn H7 hgn g7 => ?_⟩
    have gB7 : Hg K a p H5 H7 := gB6.trans g7
    have e7 : H7 sp = some (.lst (nvs (onesOf m x))) := g7.nl (ha5.hg gB6) e6
    walk_at "rd"
    refine rd_n (by omega) ?_
    walk_at "rd"
    refine rd_intN ?_
    walk_at "rd"
    refine rd_n (by decide) ?_
    walk_at "rd"
    by_cases hlow : (leastW m hs - gn) % 2 ≤ gn
    · obtain ⟨n, hn⟩ : ∃ n, n = gn - (leastW m hs - gn) % 2 := ⟨_, rfl⟩
      have en : ((gn : Nat) : Int) - (((leastW m hs - gn) % 2 : Nat) : Int) = ((n : Nat) : Int) := by omega
      have hn1 : n ≤ leastW m hs := by omega
      have hn2 : (leastW m hs - n) % 2 = 0 := by omega
      rw [en]
      walk_at "sg"
      refine ⟨by rw [sizeLine_eq]; exact Nat.zero_le _, fun la hla => ?_⟩
      have sA : Sm H7 (upd H7 la (.lst [])) := Sm.new hla
      generalize upd H7 la (.lst []) = H8 at sA
      walk_at "rd"
      refine ⟨by rw [sizeLine_eq]; exact Nat.zero_le _, fun lb hlb => ?_⟩
      have sB : Sm H8 (upd H8 lb (.lst [])) := Sm.new hlb
      generalize upd H8 lb (.lst []) = H9 at sB
      have gB9 : Hg K a p H5 H9 := gB7.sm (sA.trans sB)
      have e9 : H9 sp = some (.lst (nvs (onesOf m x))) := sB _ _ (sA _ _ e7)
      walk_at "rd"
      rw [decide_eq_true (by omega : (0 : Int) ≤ ((n : Nat) : Int))]
      walk_at "rd"
      refine ⟨((n : Nat) : Int), rfl, by omega, by omega, ?_⟩
      rw [Int.toNat_natCast]
      refine lc_free (n := n) (by rw [sizeLine_eq]; omega) (fun k acc H3 => Hg K a p H5 H3 ∧ ∃ fs ls : List Nat, acc = nvs fs ∧ H3 sp = some (.lst (nvs ls)) ∧ fs.length = k ∧ ls.length + k = leastW m hs ∧ (fs ++ ls).Perm (onesOf m x)) (fun k acc H3 _ => ⟨fun hk => hk, fun hk => by show n ≤ k; omega⟩) (fun D hD => ⟨gB9.sm (Sm.new hD), [], onesOf m x, rfl, Sm.new hD _ _ e9, rfl, hlx, List.Perm.refl _⟩) (fun k hk H3 acc D hD hacc pk Nx n1 n2 y H4 yy => ?_) (fun H10 acc lo hlo hacc pk => ?_)
      · obtain ⟨g3, fs, ls, rfl, el, hfl, hll, hpm⟩ := pk
        obtain ⟨rfl, rfl⟩ := yy
        have ha3 := ha5.hg g3
        have nD : sp ≠ D := fun z => by rw [← z, e9] at hD; cases hD
        walk_at "rd"
        refine ⟨rfl, ?_⟩
        walk_at "rd"
        refine rd_bm ?_
        walk_at "rd"
        refine ⟨.inl ⟨rfl, _, sqL_of el⟩, ?_⟩
        walk_at "rd"
        refine ⟨_, _, rfl, .inl ⟨_, sqL_of el, rfl⟩, ?_⟩
        rw [List.length_map]
        walk_at "rd"
        refine ⟨a, p, ls.length, rfl, by omega, by omega, ha3, fun j H11 hj g11 => ?_⟩
        have ha11 := ha3.hg g11
        have el11 := g11.nl ha3 el
        have eD11 : H11 D = some (.lst (nvs fs)) := g11.nl ha3 hacc
        obtain ⟨xj, hxj⟩ : ∃ xj, ls[j]? = some xj := ⟨_, List.getElem?_eq_getElem hj⟩
        walk_at "rd"
        refine ⟨sp, _, _, j, nv xj, rfl, rfl, el11, by omega, by omega, (by rw [List.length_map]; exact seqIx hj), by rw [List.getElem?_map, hxj]; rfl, ?_⟩
        have e1 : (nvs ls).eraseIdx j = nvs (ls.eraseIdx j) := map_erase _ _ _
        rw [e1]
        have g12 : Hg K a p H5 (upd H11 sp (.lst (nvs (ls.eraseIdx j)))) := (g3.trans g11).put hsp ha5 el11
        have eD12 : upd H11 sp (.lst (nvs (ls.eraseIdx j))) D = some (.lst (nvs fs)) := by rw [upd_ne (Ne.symm nD)]; exact eD11
        have el12 : upd H11 sp (.lst (nvs (ls.eraseIdx j))) sp = some (.lst (nvs (ls.eraseIdx j))) := upd_same
        generalize upd H11 sp (.lst (nvs (ls.eraseIdx j))) = H12 at g12 eD12 el12
        refine n2 _ _ eD12 ⟨g12.put2 gB9 hD (ha5.hg gB9) eD12, fs ++ [xj], ls.eraseIdx j, (nvs_append fs [xj]).symm, by rw [upd_ne nD]; exact el12, by rw [List.length_append, hfl]; rfl, ?_, ?_⟩
        · rw [List.length_eraseIdx_of_lt hj]; omega
        · refine List.Perm.trans ?_ hpm
          rw [List.append_assoc]
          exact List.Perm.append_left _ (erase_perm ls j xj hxj)
      · obtain ⟨gB10, lost, ls0, rfl, e10, hlol, hls0, hpm0⟩ := pk
        have ha10 := ha5.hg gB10
        have nlo : sp ≠ lo := fun z => by rw [← z, e9] at hlo; cases hlo
        walk_at "sg"
        walk_at "rd"
        refine rd_n hn1 ?_
        walk_at "rd"
        refine rd_n ⟨by decide, by decide⟩ ?_
        refine ⟨(((leastW m hs - n) / 2 : Nat) : Int), rfl, by omega, by omega, ?_⟩
        rw [Int.toNat_natCast]
        refine lc_free (n := (leastW m hs - n) / 2) (by rw [sizeLine_eq]; omega) (fun k acc H3 => Hg K a p H5 H3 ∧ H3 lo = some (.lst (nvs lost)) ∧ ∃ fs ls : List Nat, acc = nvs fs ∧ H3 sp = some (.lst (nvs ls)) ∧ fs.length = k ∧ ls.length + k + n = leastW m hs ∧ (fs ++ ls).Perm ls0) (fun k acc H3 _ => ⟨fun hk => hk, fun hk => by show (leastW m hs - n) / 2 ≤ k; omega⟩) (fun D hD => ⟨gB10.sm (Sm.new hD), Sm.new hD _ _ hacc, [], ls0, rfl, Sm.new hD _ _ e10, rfl, by omega, List.Perm.refl _⟩) (fun k hk H3 acc D hD hacc2 pk Nx n1 n2 y H4 yy => ?_) (fun H13 acc ho hho hacc2 pk => ?_)
        · obtain ⟨g3, elo, fs, ls, rfl, el, hfl, hll, hpm⟩ := pk
          obtain ⟨rfl, rfl⟩ := yy
          have ha3 := ha5.hg g3
          have nD : sp ≠ D := fun z => by rw [← z, e10] at hD; cases hD
          have nD2 : lo ≠ D := fun z => by rw [← z, hacc] at hD; cases hD
          walk_at "rd"
          refine ⟨rfl, ?_⟩
          walk_at "rd"
          refine rd_bm ?_
          walk_at "rd"
          refine ⟨.inl ⟨rfl, _, sqL_of el⟩, ?_⟩
          walk_at "rd"
          refine ⟨_, _, rfl, .inl ⟨_, sqL_of el, rfl⟩, ?_⟩
          rw [List.length_map]
          walk_at "rd"
          refine ⟨a, p, ls.length, rfl, by omega, by omega, ha3, fun j H11 hj g11 => ?_⟩
          have ha11 := ha3.hg g11
          have el11 := g11.nl ha3 el
          have elo11 := g11.nl ha3 elo
          have eD11 : H11 D = some (.lst (nvs fs)) := g11.nl ha3 hacc2
          obtain ⟨xj, hxj⟩ : ∃ xj, ls[j]? = some xj := ⟨_, List.getElem?_eq_getElem hj⟩
          walk_at "rd"
          refine ⟨sp, _, _, j, nv xj, rfl, rfl, el11, by omega, by omega, (by rw [List.length_map]; exact seqIx hj), by rw [List.getElem?_map, hxj]; rfl, ?_⟩
          have e1 : (nvs ls).eraseIdx j = nvs (ls.eraseIdx j) := map_erase _ _ _
          rw [e1]
          have g12 : Hg K a p H5 (upd H11 sp (.lst (nvs (ls.eraseIdx j)))) := (g3.trans g11).put hsp ha5 el11
          have eD12 : upd H11 sp (.lst (nvs (ls.eraseIdx j))) D = some (.lst (nvs fs)) := by rw [upd_ne (Ne.symm nD)]; exact eD11
          have elo12 : upd H11 sp (.lst (nvs (ls.eraseIdx j))) lo = some (.lst (nvs lost)) := by rw [upd_ne (Ne.symm nlo)]; exact elo11
          have el12 : upd H11 sp (.lst (nvs (ls.eraseIdx j))) sp = some (.lst (nvs (ls.eraseIdx j))) := upd_same
          generalize upd H11 sp (.lst (nvs (ls.eraseIdx j))) = H12 at g12 eD12 el12 elo12
          refine n2 _ _ eD12 ⟨g12.put2 gB10 hD (ha5.hg gB10) eD12, by rw [upd_ne nD2]; exact elo12, fs ++ [xj], ls.eraseIdx j, (nvs_append fs [xj]).symm, by rw [upd_ne nD]; exact el12, by rw [List.length_append, hfl]; rfl, ?_, ?_⟩
          · rw [List.length_eraseIdx_of_lt hj]; omega
          · refine List.Perm.trans ?_ hpm
            rw [List.append_assoc]
            exact List.Perm.append_left _ (erase_perm ls j xj hxj)
        · obtain ⟨gB13, elo, half, ls1, rfl, e13, hhl, hls1, hpm1⟩ := pk
          have ha13 := ha5.hg gB13
          have hall : (lost ++ (half ++ ls1)).Perm (onesOf m x) := (List.Perm.append_left _ hpm1).trans hpm0
          have hmem : ∀ y ∈ onesOf m x, y < 2 ^ m := fun y hy => (mem_onesOf.mp hy).1
          have hndA := hall.nodup_iff.mpr ndx
          have hlostm : ∀ y ∈ lost, y < 2 ^ m := fun y hy => hmem y (hall.mem_iff.mp (List.mem_append_left _ hy))
          have hhalfm : ∀ y ∈ half, y < 2 ^ m := fun y hy => hmem y (hall.mem_iff.mp (List.mem_append_right _ (List.mem_append_left _ hy)))
          obtain ⟨hnl, hnh, hdis⟩ := List.nodup_append.mp hndA
          have hnh' : half.Nodup := hnh.sublist (List.sublist_append_left _ _)
          have hdhl : ∀ y ∈ half, y ∉ lost := fun y hy z => hdis y z y (List.mem_append_left _ hy) rfl
          walk_at "sg"
          walk_at "rd"
          refine ⟨ho, half, rfl, hacc2, fun y hy => by have := hhalfm y hy; omega, ?_⟩
          walk_at "rd"
          have hys : ∀ y, y ∈ onesOf m (mark lost) ↔ y ∈ lost := fun y => by
            rw [mem_onesOf, mark_tb]
            exact ⟨fun z => of_decide_eq_true z.2, fun z => ⟨hlostm y z, decide_eq_true z⟩⟩
          have hperm : (onesOf m (mark lost)).Perm lost := (List.perm_ext_iff_of_nodup (onesOf_nodup _ _) hnl).mpr hys
          have hmk : mark (onesOf m (mark lost)) = mark lost := mark_onesOf (mark_le hlostm)
          have hlos : ∀ z, lossyF m hs (ordOf hs) (mark half) (onesOf m (mark lost)) = some z → z.2.2 = false := by
            refine lossy_unsure hc.ch hne (mark_le hhalfm) (fun y hy => (mem_onesOf.mp hy).1) (onesOf_nodup _ _) ?_
            rw [hmk, mark_off hdhl, ones_mark hhalfm hnh', hperm.length_eq]
            omega
          refine ⟨c, m, hs, mark half, lo, lost, onesOf m (mark lost), rfl, gB13.ch ha5 hc5, mark_le hhalfm, gB13.2.1 ht5, .inl elo, hlostm, by omega, onesOf_asc _ _, hys, fun v H14 g14 hv => ?_⟩
          have gB14 : Hg K a p H5 H14 := gB13.trans g14.hg
          walk_at "rd"
          refine ⟨rfl, rd_bl ?_⟩
          refine ite_both ?contA (fun hv2 hB => ?notnone)
          case notnone =>
            cases ez : lossyF m hs (ordOf hs) (mark half) (onesOf m (mark lost)) with
            | none =>
              rw [ez] at hv
              have hv' : v = .non := hv
              subst hv'
              cases hv2
            | some z =>
              rw [ez] at hv
              obtain ⟨b2, dx2, t2, rfl, eb, et2⟩ := hv
              have hz := hlos z ez
              walk_at "rd"
              refine rd_isrec eb T.cl_Lossy T.is_Lossy T.kit_Lossy_Lossy ?_
              walk_at "rd"
              refine rd_of eb T.cl_Lossy T.no_Lossy_sure rfl ?_
              walk_at "rd"
              refine ⟨_, _, rfl, rfl, ?_⟩
              rw [decide_eq_true hz]
              exact rd_bl hB
          case contA =>
            walk_at "sg"
            walk_at "rd"
            refine tdec (fun z => ?_) fun z => ?_
            · have hL2 : 1 < leastW m hs := by omega
              have hev := pow_even hL2
              walk_at "rd"
              refine ⟨m, x, rfl, h5, fun pt H15 s15 e15 => ?_⟩
              have gB15 := gB14.sm s15
              have elo15 := s15 _ _ (g14.lst elo)
              have eho15 := s15 _ _ (g14.lst hacc2)
              walk_at "rd"
              refine lc_tupJ (sqT_of e15) (line32 (by omega)) (fun y => decide (y ∉ half) && decide (y ∉ lost)) nv (fun y hy H16 D16 s16 Nx n1 n2 => ?_) (fun H16 D16 s16 hD16 e16 => ?_)
              · walk_at "rd"
                refine rd_notin (.inl (sqL_of (s16 _ _ eho15))) ?_
                walk_at "rd"
                refine tndec (fun z1 => ?_) fun z1 => ?_
                · exact n1 _ Sm.refl (by rw [decide_eq_false (fun z2 => z2 z1)]; rfl)
                · walk_at "rd"
                  refine rd_notin (.inl (sqL_of (s16 _ _ elo15))) ?_
                  walk_at "rd"
                  refine tndec (fun z2 => ?_) fun z2 => ?_
                  · exact n1 _ Sm.refl (by rw [decide_eq_false (show ¬ (y ∉ lost) from fun z3 => z3 z2), Bool.and_false])
                  · walk_at "rd"
                    exact n2 _ Sm.refl (by rw [decide_eq_true z1, decide_eq_true z2]; rfl)
              · walk_at "rd"
                have elo16 := s16 _ _ elo15
                have eho16 := s16 _ _ eho15
                have gB16 := gB15.sm s16
                refine rd_sl ?_
                walk_at "rd"
                obtain ⟨trn, htrn⟩ : ∃ t, t = (onesOf m x).filter fun y => decide (y ∉ half) && decide (y ∉ lost) := ⟨_, rfl⟩
                rw [← htrn] at e16
                have htl : trn.length ≤ 32 := by
                  rw [htrn]
                  have := List.length_filter_le (fun y => decide (y ∉ half) && decide (y ∉ lost)) (onesOf m x)
                  omega
                have htm : ∀ y ∈ trn, y < 2 ^ m ∧ y ∉ half ∧ y ∉ lost := fun y hy => by
                  rw [htrn] at hy
                  obtain ⟨y1, y2⟩ := List.mem_filter.mp hy
                  rw [Bool.and_eq_true, decide_eq_true_iff, decide_eq_true_iff] at y2
                  exact ⟨hmem y y1, y2.1, y2.2⟩
                have htn : trn.Nodup := by rw [htrn]; exact ndx.filter _
                refine ⟨ho, D16, _, _, rfl, rfl, eho16, e16, by rw [List.length_map, List.length_map, sizeLine_eq]; omega, fun c1 hc1' => ?_⟩
                have s17 := Sm.new (o := .lst (nvs half ++ nvs trn)) hc1'
                have e17 : upd H16 c1 (.lst (nvs half ++ nvs trn)) c1 = some (.lst (nvs (half ++ trn))) := by rw [upd_same, nvs_append]
                generalize upd H16 c1 (.lst (nvs half ++ nvs trn)) = H17 at s17 e17
                walk_at "rd"
                refine ⟨c1, lo, _, _, rfl, rfl, e17, s17 _ _ elo16, by rw [List.length_map, List.length_map, List.length_append, sizeLine_eq]; omega, fun c2 hc2' => ?_⟩
                have s18 := Sm.new (o := .lst (nvs (half ++ trn) ++ nvs lost)) hc2'
                have e18 : upd H17 c2 (.lst (nvs (half ++ trn) ++ nvs lost)) c2 = some (.lst (nvs ((half ++ trn) ++ lost))) := by rw [upd_same, nvs_append (half ++ trn) lost]
                generalize upd H17 c2 (.lst (nvs (half ++ trn) ++ nvs lost)) = H18 at s18 e18
                have hZm : ∀ y ∈ (half ++ trn) ++ lost, y < 2 ^ m := fun y hy => by
                  rcases List.mem_append.mp hy with hy | hy
                  · rcases List.mem_append.mp hy with hy | hy
                    · exact hhalfm y hy
                    · exact (htm y hy).1
                  · exact hlostm y hy
                have hZn : ((half ++ trn) ++ lost).Nodup := by
                  refine List.nodup_append.mpr ⟨List.nodup_append.mpr ⟨hnh', htn, fun u hu v hv e => (htm v hv).2.1 (e ▸ hu)⟩, hnl, fun u hu v hv e => ?_⟩
                  rcases List.mem_append.mp hu with hu | hu
                  · exact hdhl u hu (e ▸ hv)
                  · exact (htm u hu).2.2 (e ▸ hv)
                have hZl : leastW m hs / 2 ≤ ((half ++ trn) ++ lost).length := by
                  rw [List.length_append, List.length_append]
                  omega
                generalize (half ++ trn) ++ lost = Z at e18 hZm hZn hZl
                walk_at "rd"
                refine rd_nopart ?_
                refine rd_part ?_
                walk_at "rd"
                refine rd_n ⟨by decide, by decide⟩ ?_
                refine ⟨_, rfl, rd_slLp e18 fun pz hpz => ?_⟩
                have s19 := Sm.new (o := .lst (nvs (Z.take (leastW m hs / 2)))) hpz
                have e19 : upd H18 pz (.lst (nvs (Z.take (leastW m hs / 2)))) pz = some (.lst (nvs (Z.take (leastW m hs / 2)))) := upd_same
                generalize upd H18 pz (.lst (nvs (Z.take (leastW m hs / 2)))) = H19 at s19 e19
                have gB19 := gB16.sm (s17.trans (s18.trans s19))
                have hTm : ∀ y ∈ Z.take (leastW m hs / 2), y < 2 ^ m := fun y hy => hZm y (List.mem_of_mem_take hy)
                have hTn : (Z.take (leastW m hs / 2)).Nodup := hZn.sublist (List.take_sublist _ _)
                have hTl : (Z.take (leastW m hs / 2)).length = leastW m hs / 2 := by rw [List.length_take]; omega
                walk_at "rd"
                refine ⟨pz, _, rfl, e19, fun y hy => by have := hTm y hy; omega, ?_⟩
                have hum : mark (Z.take (leastW m hs / 2)) ≤ full m := mark_le hTm
                have huo : 2 * ones (mark (Z.take (leastW m hs / 2))) = leastW m hs := by rw [ones_mark hTm hTn, hTl]; omega
                generalize mark (Z.take (leastW m hs / 2)) = u at hum huo
                walk_at "sg"
                walk_at "rd"
                refine rd_callD ?_
                walk_at "rd"
                refine ⟨c, m, hs, u, rfl, gB19.ch ha5 hc5, hum, gB19.2.1 ht5, fun v3 H20 g20 hr => ?_⟩
                have gB20 := gB19.trans g20.hg
                walk_at "rd"
                refine ⟨by rw [sizeLine_eq]; show 2 ≤ 16777216; omega, fun tp htp => ?_⟩
                have s21 : Sm H20 (upd H20 tp (.tup [.ref c_Far, .ref c_Tie])) := Sm.new htp
                have e21 : upd H20 tp (.tup [.ref c_Far, .ref c_Tie]) tp = some (.tup [.ref c_Far, .ref c_Tie]) := upd_same
                have isr : ∀ Q' : VK, Q' (.bl true) (upd H20 tp (.tup [.ref c_Far, .ref c_Tie])) → rIsiT K [v3, .ref tp] (upd H20 tp (.tup [.ref c_Far, .ref c_Tie])) Q' := fun Q' hq => by
                  cases er : readF m hs (ordOf hs) u with
                  | tie h =>
                    rw [er] at hr
                    obtain ⟨a', dx', rfl, ea⟩ := hr
                    exact rd_isrec2 (s21 _ _ ea) T.cl_Tie T.is_Tie T.kit_Tie_Far T.kit_Tie_Tie e21 hq
                  | far b ws =>
                    rw [er] at hr
                    obtain ⟨a', dx', t', g', rfl, ea, _⟩ := hr
                    exact rd_isrec2 (s21 _ _ ea) T.cl_Far T.is_Far T.kit_Far_Far T.kit_Far_Tie e21 hq
                  | read b ws => exact absurd er (half_unread hc.ch hne hum huo b ws)
                have gB21 := gB20.sm s21
                generalize upd H20 tp (.tup [.ref c_Far, .ref c_Tie]) = H21 at gB21 isr
                walk_at "rd"
                refine isr _ ?_
                walk_at "rd"
                refine ⟨c, m, hs, u, 0, rfl, gB21.ch ha5 hc5, hum, Nat.zero_le _, gB21.2.1 ht5, fun v4 H22 g22 hv4 => ?_⟩
                have gB22 := gB21.trans g22.hg
                walk_at "rd"
                refine ⟨rfl, rd_bl ?_⟩
                have hv4' : decide (v4 = V.non) = !faultB m hs (ordOf hs) u 0 := hv4
                rw [hv4', Bool.not_not]
                cases ef : faultB m hs (ordOf hs) u 0 with
                | true => exact q _ (g5.trans gB22)
                | false =>
                  refine iteF ?_
                  walk_at "rd"
                  refine ⟨c, m, hs, u, x, rfl, gB22.ch ha5 hc5, hum, hfull, gB22.2.1 ht5, fun v5 H23 g23 hv5 => ?_⟩
                  have hf2 : faultB m hs (ordOf hs) u x = true := by
                    rcases fault_two hc.ch hfull hx0 u with e | e
                    · rw [ef] at e; cases e
                    · exact e
                  rw [hf2] at hv5
                  have hv5' : decide (v5 = V.non) = false := hv5
                  walk_at "rd"
                  refine ⟨rfl, ?_⟩
                  rw [hv5']
                  exact q _ ((g5.trans gB22).trans g23.hg)
            · walk_at "rd"
              obtain ⟨ws, hrd⟩ := read_code hc.ch (one_all hc.ch hdn hne z hfull)
              refine rd_callD ?_
              walk_at "rd"
              refine ⟨c, m, hs, x, rfl, gB14.ch ha5 hc5, hfull, gB14.2.1 ht5, fun v2 H15 g15 hr => ?_⟩
              rw [hrd] at hr
              obtain ⟨a2, dx2, t2, gg2, rfl, er, et2⟩ := hr
              walk_at "rd"
              refine rd_isrec er T.cl_Read T.is_Read T.kit_Read_Read ?_
              walk_at "rd"
              refine rd_of er T.cl_Read T.no_Read_word rfl ?_
              walk_at "rd"
              rw [decide_eq_true rfl]
              exact q _ ((g5.trans gB14).trans g15.hg)
    · have hgn0 : gn = 0 := by omega
      have hL1 : leastW m hs = 1 := by
        apply Classical.byContradiction
        intro z
        have := pow_even (m := m) (hs := hs) (by omega)
        omega
      have en : ((gn : Nat) : Int) - (((leastW m hs - gn) % 2 : Nat) : Int) = -1 := by omega
      rw [en]
      walk_at "sg"
      refine ⟨by rw [sizeLine_eq]; exact Nat.zero_le _, fun la hla => ?_⟩
      have sA : Sm H7 (upd H7 la (.lst [])) := Sm.new hla
      generalize upd H7 la (.lst []) = H8 at sA
      walk_at "rd"
      refine ⟨by rw [sizeLine_eq]; exact Nat.zero_le _, fun lb hlb => ?_⟩
      have sB : Sm H8 (upd H8 lb (.lst [])) := Sm.new hlb
      generalize upd H8 lb (.lst []) = H9 at sB
      have gB14 : Hg K a p H5 H9 := gB7.sm (sA.trans sB)
      walk_at "rd"
      refine iteF ?_
      walk_at "rd"
      refine tdec (fun z => absurd hL1 z) fun z => ?_
      walk_at "sg"
      walk_at "rd"
      obtain ⟨ws, hrd⟩ := read_code hc.ch (one_all hc.ch hdn hne z hfull)
      refine rd_callD ?_
      walk_at "rd"
      refine ⟨c, m, hs, x, rfl, gB14.ch ha5 hc5, hfull, gB14.2.1 ht5, fun v2 H15 g15 hr => ?_⟩
      rw [hrd] at hr
      obtain ⟨a2, dx2, t2, gg2, rfl, er, et2⟩ := hr
      walk_at "rd"
      refine rd_isrec er T.cl_Read T.is_Read T.kit_Read_Read ?_
      walk_at "rd"
      refine rd_of er T.cl_Read T.no_Read_word rfl ?_
      walk_at "rd"
      rw [decide_eq_true rfl]
      exact q _ ((g5.trans gB14).trans g15.hg)
  case len =>
    obtain ⟨a, p, c, m, hs, rfl, _⟩ := h
    rfl
end
end G
set_option maxHeartbeats 4000000
-- text D40
namespace G
open PySem PySem.Spec PyProof.Rows L2 M GG
section
variable {P : Program} {w : World} {K : PySem.W.Frag} {mg : Str → Option Value} {base : Heap}
theorem okV.gr {H H' : Hp} {x : V} (h : okV H x) (s : Gr K H H') : okV H' x := by
  cases x with
  | ref a =>
    obtain ⟨xs, e⟩ := h
    exact ⟨xs, s.tup e⟩
  | non => trivial
  | bl _ => trivial
  | int _ => trivial
  | str _ => trivial
  | byt _ => exact h
  | flt _ => exact h
  | ty _ => exact h
theorem okV.hg {a p : Addr} {H H' : Hp} {x : V} (ha : HandAt H a p) (h : okV H x) (s : Hg K a p H H') : okV H' x := by
  cases x with
  | ref a =>
    obtain ⟨xs, e⟩ := h
    exact ⟨xs, s.tup ha e⟩
  | non => trivial
  | bl _ => trivial
  | int _ => trivial
  | str _ => trivial
  | byt _ => exact h
  | flt _ => exact h
  | ty _ => exact h
theorem shp_bad (L : Nat) : PySem.SeqAt.shaped (.list [.str "BadNumber", .int (L : Int)]) = true := by
  have h : PyData.strOk (Str.ofString "BadNumber") = true := by decide +kernel
  simp [PySem.SeqAt.shaped, PyData.canLay0, PyData.canLayAll0, PyData.depth, PyData.depthAll, h]
theorem eqv_bad (L : Nat) : PyData.eqv (.list [.str "BadNumber", .int (L : Int)]) (.list [.str "BadNumber", .int (L : Int)]) = true := by simp [PyData.eqv, PyData.eqvAll]
theorem rd_neE {p q : Addr} {H : Hp} {Q : VK} (h1 : H p = some (.lst [.str "EmptyChoice"])) (h2 : H q = some (.lst [.str "EmptyChoice"])) (h : Q (.bl false) H) : rNeD K (.ref p) (.ref q) H Q := by
  refine ⟨.list [.str "EmptyChoice"], .list [.str "EmptyChoice"], .lst (sqL_of h1) (.cons (.str _) .nil), .lst (sqL_of h2) (.cons (.str _) .nil), by decide +kernel, by decide +kernel, ?_⟩
  have e : PyData.eqv (.list [.str "EmptyChoice"]) (.list [.str "EmptyChoice"]) = true := by decide +kernel
  rw [e]; exact h
theorem rd_neB {p q : Addr} {H : Hp} {Q : VK} {L : Nat} (h1 : H p = some (.lst [.str "BadNumber", nv L])) (h2 : H q = some (.lst [.str "BadNumber", nv L])) (h : Q (.bl false) H) : rNeD K (.ref p) (.ref q) H Q := by
  refine ⟨.list [.str "BadNumber", .int (L : Int)], .list [.str "BadNumber", .int (L : Int)], .lst (sqL_of h1) (.cons (.str _) (.cons (.int _) .nil)), .lst (sqL_of h2) (.cons (.str _) (.cons (.int _) .nil)), shp_bad L, shp_bad L, ?_⟩
  rw [eqv_bad]; exact h
theorem rd_eqB {p q : Addr} {H : Hp} {Q : VK} {L : Nat} (h1 : H p = some (.lst [.str "BadNumber", nv L])) (h2 : H q = some (.lst [.str "BadNumber", nv L])) (h : Q (.bl true) H) : rEqD K (.ref p) (.ref q) H Q := by
  refine ⟨.list [.str "BadNumber", .int (L : Int)], .list [.str "BadNumber", .int (L : Int)], .lst (sqL_of h1) (.cons (.str _) (.cons (.int _) .nil)), .lst (sqL_of h2) (.cons (.str _) (.cons (.int _) .nil)), shp_bad L, shp_bad L, ?_⟩
  rw [eqv_bad]; exact h
def spErr (K : PySem.W.Frag) : Sp := fun vs H Q _ => ∃ (a p c : Addr) (m : Nat) (hs : List Nat), vs = [.ref a, .ref c, nv m, nv (leastW m hs)] ∧ HandAt H a p ∧ ChAt H c m hs ∧ hs ≠ [] ∧ Tabs (tabl K) H ∧ ∀ H', Hg K a p H H' → Q (.bl true) H'
theorem sc__law_errors_told : FnScope ["_law_hand_here", "_law_choice_here", "_law_m", "_law_weight", "_law_bad"] ["_law_hand_here", "_law_choice_here", "_law_m", "_law_weight"] (defScope (top 119)) := ⟨rfl, rfl, rfl, by decide +kernel, rfl, by decide +kernel, by decide +kernel⟩
theorem ok__law_errors_told (T'' : TxX P K mg base) : FnOkG P w K mg base CX0 14 a_law_errors_told (fdOf K a_law_errors_told) ["_law_hand_here", "_law_choice_here", "_law_m", "_law_weight"] (spErr K) := by
  have T' := T''.toTxB
  have T := T'.toTxt
  refine funD_okG T.f__law_errors_told sc__law_errors_told (fun vs H Q E h => ?len) (fun c hc A outer s H vs Q E hr hgu h => ?body)
  case body =>
    have TB : LamX.TabB base mg c (He.cT K ("_law_errors_told", none)).2 := by
      have := T'.tb ("_law_errors_told", none) (by simp [tfs, tf0])
      rw [hc _ (fAds T).2.2] at this
      exact this
    have hmT : ((He.cT K ("_law_errors_told", none)).2, ("_law_errors_told.<locals>.<lambda>" : Str)) ∈ tabl K := by simp [tabl]
    obtain ⟨dsT, rvT, bT⟩ := T.b1_two_near
    have nd := sc__law_errors_told.nd
    refine ⟨_, PSs.nox (pss_cons (ps_set (i := 4) nd rfl (Or.inr rfl) (pe_call (ok__law_bad_number T) (hr.mono (by decide)) rfl (T.g__law_bad_number) (T.k__law_bad_number) (T.b__law_bad_number) .nil pass0 (pa_cons (pv 0) (pa_cons (pv 3) pa_nil))))
      (pss_cons (ps_if (pt_cmpR (op_neD (room64 hr)) (pe_caught (TT := tabl K) (k := 9) T'' rfl TB rfl hmT (fun p hp e => tabl_uniq T p hp _ hmT e) (hr.mono (by decide)) (LamX.lamS_by (sc := defScope (top 119)) (by decide +kernel)) rfl (fun _ _ _ _ _ => rfl) (fun A outer s H E f c' hr2 => pe_call (ok_two_nearE T'') (hr2.mono (by decide)) rfl (T.g_two_near) (T.k_two_near) (T.b2_two_near) .nil (passes_call (takes_of rfl rfl rfl rfl) fun _ _ _ _ h => h) (pa_cons (pe_make (T.mk_Choice) (ok_Choice T) (hr2.mono (by decide)) rfl (T.g_Choice) (T.b_Choice) .nil pass0 (pa_cons (pv 2) (pa_cons (pe_lst pa_nil) pa_nil))) (pa_cons (pv 4) pa_nil)))) (pe_lst (pa_cons pe_str pa_nil)) (nomark _)) (pss_one (ps_ret pe_bl)) pss_nil)
      (pss_cons (ps_if (pt_cmpR (op_neD (room64 hr)) (pe_caught (TT := tabl K) (k := 9) T'' rfl TB rfl hmT (fun p hp e => tabl_uniq T p hp _ hmT e) (hr.mono (by decide)) (LamX.lamS_by (sc := defScope (top 119)) (by decide +kernel)) rfl (fun _ _ _ _ _ => rfl) (fun A outer s H E f c' hr2 => pe_call (ok_two_nearE T'') (hr2.mono (by decide)) rfl (T.g_two_near) (T.k_two_near) bT rvT (passes_call (takes_of rfl rfl rfl rfl) fun _ _ _ _ h => h) (pa_cons (pe_make (T.mk_Choice) (ok_Choice T) (hr2.mono (by decide)) rfl (T.g_Choice) (T.b_Choice) .nil pass0 (pa_cons (pv 2) (pa_cons (pe_tup pa_nil) pa_nil))) pa_nil))) (pe_lst (pa_cons pe_str pa_nil)) (nomark _)) (pss_one (ps_ret pe_bl)) pss_nil)
      (pss_cons (ps_if (pt_cmpR (op_neD (room64 hr)) (pe_caught (TT := tabl K) (k := 9) T'' rfl TB rfl hmT (fun p hp e => tabl_uniq T p hp _ hmT e) (hr.mono (by decide)) (LamX.lamS_by (sc := defScope (top 119)) (by decide +kernel)) rfl (fun _ _ _ _ _ => rfl) (fun A outer s H E f c' hr2 => pe_call (ok_two_nearB T'') (hr2.mono (by decide)) rfl (T.g_two_near) (T.k_two_near) (T.b2_two_near) .nil (passes_call (takes_of rfl rfl rfl rfl) fun _ _ _ _ h => h) (pa_cons (pv 1) (pa_cons (pv 4) pa_nil)))) (pe_lst (pa_cons pe_str (pa_cons (pv 3) pa_nil))) (nomark _)) (pss_one (ps_ret pe_bl)) pss_nil)
      (pss_one (ps_ret (pe_cmpR (op_eqD (room64 hr)) (pe_caught (TT := tabl K) (k := 9) T'' rfl TB rfl hmT (fun p hp e => tabl_uniq T p hp _ hmT e) (hr.mono (by decide)) (LamX.lamS_by (sc := defScope (top 119)) (by decide +kernel)) rfl (fun _ _ _ _ _ => rfl) (fun A outer s H E f c' hr2 => pe_call (ok_two_nearB T'') (hr2.mono (by decide)) rfl (T.g_two_near) (T.k_two_near) (T.b2_two_near) .nil (passes_call (takes_of rfl rfl rfl rfl) fun _ _ _ _ h => h) (pa_cons (pv 1) (pa_cons pe_non pa_nil)))) (pe_lst (pa_cons pe_str (pa_cons (pv 3) pa_nil))) (nomark _)))))))), ?_⟩
    obtain ⟨a, p, c0, m, hs, rfl, ha, hc, hne, ht, q⟩ := h
    have h1 := hc.ch.m1
    have h5 := hc.ch.m5
    walk_at "rd"
    refine ⟨a, p, leastW m hs, rfl, ha, fun x H1 hx hw g1 => ?_⟩
    have ha1 := ha.hg g1
    have hc1 := g1.ch ha hc
    have ht1 := g1.2.1 ht
    walk_at "sg"
    walk_at "rd"
    refine ⟨ht1, fun H2 eN t2 => ?_⟩
    have g2 : Gr K H1 H2 := Gr.of eN t2
    unfold TTc
    walk_at "rd"
    refine ⟨by rw [sizeLine_eq]; exact Nat.zero_le _, fun le hle => ?_⟩
    have s3 : Sm H2 (upd H2 le (.lst [])) := Sm.new hle
    have e3 : upd H2 le (.lst []) le = some (.lst (nvs [])) := upd_same
    generalize upd H2 le (.lst []) = H3 at s3 e3
    walk_at "rd"
    refine rd_mkCh (xs := []) (ys := []) h1 h5 (.inl e3) (fun _ h => by cases h) (Nat.zero_le _) List.Pairwise.nil (fun _ => Iff.rfl) fun ch H4 s4 hc4 => ?_
    walk_at "rd"
    refine ⟨ch, m, x, rfl, hc4, .inl ⟨rfl, fun p1 hp1 => ?_⟩⟩
    have s5 := Sm.new (o := .lst [.str "EmptyChoice"]) hp1
    have e5 : upd H4 p1 (.lst [.str "EmptyChoice"]) p1 = some (.lst [.str "EmptyChoice"]) := upd_same
    generalize upd H4 p1 (.lst [.str "EmptyChoice"]) = H5 at s5 e5
    walk_at "rd"
    refine ⟨by rw [sizeLine_eq]; show 1 ≤ 16777216; omega, fun p2 hp2 => ?_⟩
    have s6 := Sm.new (o := .lst [.str "EmptyChoice"]) hp2
    have e6 : upd H5 p2 (.lst [.str "EmptyChoice"]) p2 = some (.lst [.str "EmptyChoice"]) := upd_same
    generalize upd H5 p2 (.lst [.str "EmptyChoice"]) = H6 at s6 e6
    walk_at "rd"
    refine rd_neE (s6 _ _ e5) e6 ?_
    have g16 : Hg K a p H1 H6 := (g2.sm (s3.trans (s4.trans (s5.trans s6)))).hg
    walk_at "rd"
    refine ⟨(g16.2.1 ht1), fun H7 eN7 t7 => ?_⟩
    have g7 : Gr K H6 H7 := Gr.of eN7 t7
    try dsimp only
    walk_at "rd"
    refine rd_callD ?_
    walk_at "rd"
    refine ⟨by rw [sizeLine_eq]; exact Nat.zero_le _, fun te hte => ?_⟩
    have s8 : Sm H7 (upd H7 te (.tup [])) := Sm.new hte
    have e8 : upd H7 te (.tup []) te = some (.tup (nvs [])) := upd_same
    generalize upd H7 te (.tup []) = H8 at s8 e8
    walk_at "rd"
    refine rd_mkCh (xs := []) (ys := []) h1 h5 (.inr e8) (fun _ h => by cases h) (Nat.zero_le _) List.Pairwise.nil (fun _ => Iff.rfl) fun ch2 H9 s9 hc9 => ?_
    walk_at "rd"
    refine ⟨ch2, m, _, rfl, hc9, .inl ⟨rfl, fun p3 hp3 => ?_⟩⟩
    have s10 := Sm.new (o := .lst [.str "EmptyChoice"]) hp3
    have e10 : upd H9 p3 (.lst [.str "EmptyChoice"]) p3 = some (.lst [.str "EmptyChoice"]) := upd_same
    generalize upd H9 p3 (.lst [.str "EmptyChoice"]) = H10 at s10 e10
    walk_at "rd"
    refine ⟨by rw [sizeLine_eq]; show 1 ≤ 16777216; omega, fun p4 hp4 => ?_⟩
    have s11 := Sm.new (o := .lst [.str "EmptyChoice"]) hp4
    have e11 : upd H10 p4 (.lst [.str "EmptyChoice"]) p4 = some (.lst [.str "EmptyChoice"]) := upd_same
    generalize upd H10 p4 (.lst [.str "EmptyChoice"]) = H11 at s11 e11
    walk_at "rd"
    refine rd_neE (s11 _ _ e10) e11 ?_
    have g111 : Hg K a p H1 H11 := g16.trans (g7.sm (s8.trans (s9.trans (s10.trans s11)))).hg
    walk_at "rd"
    refine ⟨(g111.2.1 ht1), fun H12 eN12 t12 => ?_⟩
    have g12 : Hg K a p H1 H12 := g111.trans (Gr.of (K := K) eN12 t12).hg
    try dsimp only
    walk_at "rd"
    refine ⟨c0, m, hs, x, rfl, g12.ch ha1 hc1, hne, hx.hg ha1 g12, hw, fun d H13 s13 hd => .inr (.inr ⟨rfl, d, _, rfl, hd, fun p5 hp5 => ?_⟩)⟩
    have s14 := Sm.new (o := .lst [.str "BadNumber", nv (leastW m hs)]) hp5
    have e14 : upd H13 p5 (.lst [.str "BadNumber", nv (leastW m hs)]) p5 = some (.lst [.str "BadNumber", nv (leastW m hs)]) := upd_same
    generalize upd H13 p5 (.lst [.str "BadNumber", nv (leastW m hs)]) = H14 at s14 e14
    walk_at "rd"
    refine ⟨by rw [sizeLine_eq]; show 2 ≤ 16777216; omega, fun p6 hp6 => ?_⟩
    have s15 := Sm.new (o := .lst [.str "BadNumber", nv (leastW m hs)]) hp6
    have e15 : upd H14 p6 (.lst [.str "BadNumber", nv (leastW m hs)]) p6 = some (.lst [.str "BadNumber", nv (leastW m hs)]) := upd_same
    generalize upd H14 p6 (.lst [.str "BadNumber", nv (leastW m hs)]) = H15 at s15 e15
    walk_at "rd"
    refine rd_neB (s15 _ _ e14) e15 ?_
    have g15 : Hg K a p H1 H15 := g12.sm (s13.trans (s14.trans s15))
    walk_at "rd"
    refine ⟨(g15.2.1 ht1), fun H16 eN16 t16 => ?_⟩
    have g16' : Hg K a p H1 H16 := g15.trans (Gr.of (K := K) eN16 t16).hg
    try dsimp only
    walk_at "rd"
    refine ⟨c0, m, hs, .non, rfl, g16'.ch ha1 hc1, hne, trivial, rfl, fun d2 H17 s17 hd2 => .inr (.inr ⟨rfl, d2, _, rfl, hd2, fun p7 hp7 => ?_⟩)⟩
    have s18 := Sm.new (o := .lst [.str "BadNumber", nv (leastW m hs)]) hp7
    have e18 : upd H17 p7 (.lst [.str "BadNumber", nv (leastW m hs)]) p7 = some (.lst [.str "BadNumber", nv (leastW m hs)]) := upd_same
    generalize upd H17 p7 (.lst [.str "BadNumber", nv (leastW m hs)]) = H18 at s18 e18
    walk_at "rd"
    refine ⟨by rw [sizeLine_eq]; show 2 ≤ 16777216; omega, fun p8 hp8 => ?_⟩
    have s19 := Sm.new (o := .lst [.str "BadNumber", nv (leastW m hs)]) hp8
    have e19 : upd H18 p8 (.lst [.str "BadNumber", nv (leastW m hs)]) p8 = some (.lst [.str "BadNumber", nv (leastW m hs)]) := upd_same
    generalize upd H18 p8 (.lst [.str "BadNumber", nv (leastW m hs)]) = H19 at s19 e19
    walk_at "rd"
    refine rd_eqB (s19 _ _ e18) e19 ?_
    exact q _ (g1.trans (g16'.sm (s17.trans (s18.trans s19))))
  case len =>
    obtain ⟨a, p, c, m, hs, rfl, _⟩ := h
    rfl
end
end G
set_option maxHeartbeats 4000000
-- text D41
namespace G
open PySem PySem.Spec PyProof.Rows L2 M GG
section
variable {P : Program} {w : World} {K : PySem.W.Frag} {mg : Str → Option Value} {base : Heap}
theorem split_if {b : Bool} {A B : TS} {D : Ends} {σ : L2.St} {H : Hp} {Pv : L2.St → Hp → Prop} (h1 : (∀ σ' H', Pv σ' H' → D.nx σ' H') → if b = true then A D σ H else B D σ H) (h2 : ∀ σ' H', Pv σ' H' → D.nx σ' H') : if b = true then A D σ H else B D σ H := h1 h2
theorem dueW_of {m : Nat} {hs : List Nat} (h : hs ≠ []) : dueW m hs = leastW m hs := by unfold dueW; rw [if_neg h]
theorem and_join {b : Bool} {TK : L2.St → Hp → (Bool → Hp → Prop) → Prop} {k : Bool → Hp → Prop} {σ : L2.St} {H : Hp} {Pv : Hp → Prop} (h1 : (∀ H', Pv H' → k false H') → if b = true then TK σ H k else k false H) (h2 : ∀ H', Pv H' → k false H') : if b = true then TK σ H k else k false H := h1 h2
def spLaw (K : PySem.W.Frag) : Sp := fun vs H Q _ => ∃ (a : Addr) (ns : List Int), vs = [.ref a] ∧ SqL K H a (ns.map V.int) ∧ ns.length ≤ sizeLine ∧ Tabs (tabl K) H ∧ ∀ H', Q (.bl true) H'
theorem sc_law : FnScope ["_law_script", "_law_hand_here", "_law_m", "_law_heaps", "_law_choice_here", "_law_weight", "_law_many", "_law_top", "_law_falling_here", "_law_other", "_law_turn", "_law_heap"] ["_law_script"] (defScope (top 120)) := ⟨rfl, rfl, rfl, by decide +kernel, rfl, by decide +kernel, by decide +kernel⟩
theorem ok_law (T'' : TxX P K mg base) : FnOkG P w K mg base CX0 16 a_law (fdOf K a_law) ["_law_script"] (spLaw K) := by
  have T' := T''.toTxB
  have T := T'.toTxt
  refine funD_okG T.f_law sc_law (fun vs H Q E h => ?len) (fun c hc A outer s H vs Q E hr hgu h => ?body)
  case body =>
    have nd := sc_law.nd
    refine ⟨_, PSs.nox (pss_cons (ps_set (i := 1) nd rfl (Or.inl rfl) (pe_call (ok__law_hand T) (hr.mono (by decide)) rfl (T.g__law_hand) (T.k__law_hand) (T.b__law_hand) .nil pass0 (pa_cons (pv 0) pa_nil)))
      (pss_cons (ps_set (i := 2) nd rfl (Or.inl rfl) (pe_ix ix_list (pe_lst (pa_cons (pe_n 3) (pa_cons (pe_n 4) (pa_cons (pe_n 3) (pa_cons (pe_n 4) (pa_cons (pe_n 4) (pa_cons (pe_n 5) (pa_cons (pe_n 2) (pa_cons (pe_n 3) pa_nil))))))))) (pe_call (ok__law_draw T) (hr.mono (by decide)) rfl (T.g__law_draw) (T.k__law_draw) (T.b__law_draw) .nil pass0 (pa_cons (pv 1) (pa_cons (pe_n 8) pa_nil))) (fun _ _ => rfl)))
      (pss_cons (ps_set (i := 3) nd rfl (Or.inl rfl) (pe_call (ok__law_low_choice T) (hr.mono (by decide)) rfl (T.g__law_low_choice) (T.k__law_low_choice) (T.b__law_low_choice) .nil pass0 (pa_cons (pv 1) (pa_cons (pv 2) pa_nil))))
      (pss_cons (ps_if (pt_cmpR (op_eqD (room64 hr)) (pv 3) (pe_lst pa_nil) (nomark _)) (pss_one (ps_set (i := 3) nd rfl (Or.inl rfl) (pe_lst (pa_cons (pe_call (ok__law_draw T) (hr.mono (by decide)) rfl (T.g__law_draw) (T.k__law_draw) (T.b__law_draw) .nil pass0 (pa_cons (pv 1) (pa_cons (pe_op o_shl (pe_n 1) (pv 2)) pa_nil))) pa_nil)))) pss_nil)
      (pss_cons (ps_set (i := 4) nd rfl (Or.inl rfl) (pe_call (ok__law_made_choice T) (hr.mono (by decide)) rfl (T.g__law_made_choice) (T.k__law_made_choice) (T.b__law_made_choice) .nil pass0 (pa_cons (pv 1) (pa_cons (pv 2) (pa_cons (pv 3) pa_nil)))))
      (pss_cons (ps_set (i := 5) nd rfl (Or.inl rfl) (pe_call (ok__law_weight_due T) (hr.mono (by decide)) rfl (T.g__law_weight_due) (T.k__law_weight_due) (T.b__law_weight_due) .nil pass0 (pa_cons (pv 2) (pa_cons (pv 3) pa_nil))))
      (pss_cons (ps_if (pt_cmpR op_ne (pe_callB SkE.call_repr_int (by rfl) (T.n_repr) (by decide +kernel) (pa_cons (pe_call (ok_least_weight T) (hr.mono (by decide)) rfl (T.g_least_weight) (T.k_least_weight) (T.b_least_weight) .nil pass0 (pa_cons (pv 4) pa_nil)) pa_nil)) (pe_callB SkE.call_repr_int (by rfl) (T.n_repr) (by decide +kernel) (pa_cons (pv 5) pa_nil)) (nomark _)) (pss_one (ps_ret pe_bl)) pss_nil)
      (pss_cons (ps_for PassesOwn.never rfl (pi_list (pe_lst (pa_cons (pe_n 0) (pa_cons (pv 5) (pa_cons (pe_call (ok__law_draw T) (hr.mono (by decide)) rfl (T.g__law_draw) (T.k__law_draw) (T.b__law_draw) .nil pass0 (pa_cons (pv 1) (pa_cons (pe_op o_add (pv 5) (pe_n 1)) pa_nil))) (pa_cons (pe_call (ok__law_draw T) (hr.mono (by decide)) rfl (T.g__law_draw) (T.k__law_draw) (T.b__law_draw) .nil pass0 (pa_cons (pv 1) (pa_cons (pe_op o_add (pv 5) (pe_n 1)) pa_nil))) pa_nil)))))) (pg_name (i := 6) nd rfl (.inl rfl)) (pss_one (ps_if (pt_not (pt_val (pe_callG (ok__law_two_told T'') (hr.mono (by decide)) hgu rfl (T.g__law_two_told) (T.k__law_two_told) (T.b__law_two_told) .nil pass0 (pa_cons (pv 4) (pa_cons (pv 2) (pa_cons (pv 3) (pa_cons (pv 5) (pa_cons (pv 6) pa_nil)))))))) (pss_one (ps_ret pe_bl)) pss_nil)))
      (pss_cons (ps_if (PW.pt (pw_and (pt_cmpR o_gt (pv 5) (pe_n 1) (nomark _)) (pw_and1 (pt_not (pt_val (pe_callG (ok__law_none_nearer T') (hr.mono (by decide)) hgu rfl (T.g__law_none_nearer) (T.k__law_none_nearer) (T.b__law_none_nearer) .nil pass0 (pa_cons (pv 4) (pa_cons (pv 2) (pa_cons (pv 3) (pa_cons (pv 5) pa_nil)))))))))) (pss_one (ps_ret pe_bl)) pss_nil)
      (pss_cons (ps_set (i := 7) nd rfl (Or.inr rfl) (pe_ix ix_list (pe_lst (pa_cons (pe_n 1) (pa_cons (pe_n 2) (pa_cons (pe_n 1) (pa_cons (pe_n 2) (pa_cons (pe_n 3) (pa_cons (pe_n 0) (pa_cons (pe_n 4) (pa_cons (pe_n 5) pa_nil))))))))) (pe_call (ok__law_draw T) (hr.mono (by decide)) rfl (T.g__law_draw) (T.k__law_draw) (T.b__law_draw) .nil pass0 (pa_cons (pv 1) (pa_cons (pe_n 8) pa_nil))) (fun _ _ => rfl)))
      (pss_cons (ps_setLc (i := 8) (own := [("_law_heap", 11)]) rfl nd rfl rfl (sw_true rfl rfl rfl (by decide +kernel)) (pi_list (pe_call (ok__law_falling T) (hr.mono (by decide)) rfl (T.g__law_falling) (T.k__law_falling) (T.b__law_falling) .nil pass0 (pa_cons (pv 2) (pa_cons (pe_call (ok__law_seeds T) (hr.mono (by decide)) rfl (T.g__law_seeds) (T.k__law_seeds) (T.b__law_seeds) .nil pass0 (pa_cons (pv 1) (pa_cons (pv 2) pa_nil))) pa_nil)))) (blkOk_by (N := ["_law_script", "_law_hand_here", "_law_m", "_law_heaps", "_law_choice_here", "_law_weight", "_law_many", "_law_top", "_law_falling_here", "_law_other", "_law_turn", "_law_heap"]) (sc := defScope (top 120)) (by decide +kernel)) (fun _ _ _ _ _ => (pg_name (i := 11) nd rfl (.inl rfl))) (fun _ _ _ _ _ => (pts_one (pt_cmpR o_le (pe_call (ok__law_ones T) (hr.mono (by decide)) rfl (T.g__law_ones) (T.k__law_ones) (T.b__law_ones) .nil pass0 (pa_cons (pv 11) pa_nil)) (pv 7) (nomark _)))) (fun _ _ _ _ _ => (pv 11)))
      (pss_cons (ps_set (i := 9) nd rfl (Or.inl rfl) (pe_call (ok__law_made_choice T) (hr.mono (by decide)) rfl (T.g__law_made_choice) (T.k__law_made_choice) (T.b__law_made_choice) .nil pass0 (pa_cons (pv 1) (pa_cons (pv 2) (pa_cons (pv 8) pa_nil)))))
      (pss_cons (ps_for PassesOwn.never rfl (pi_range1 rfl (T.n_range) (pa_cons (pe_n 3) pa_nil)) (pg_name (i := 10) nd rfl (.inl rfl)) (pss_one (ps_if (pt_not (pt_val (pe_call (ok__law_least_halved T') (hr.mono (by decide)) rfl (T.g__law_least_halved) (T.k__law_least_halved) (T.b__law_least_halved) .nil pass0 (pa_cons (pv 1) (pa_cons (pv 9) (pa_cons (pv 2) (pa_cons (pe_call (ok__law_weight_due T) (hr.mono (by decide)) rfl (T.g__law_weight_due) (T.k__law_weight_due) (T.b__law_weight_due) .nil pass0 (pa_cons (pv 2) (pa_cons (pv 8) pa_nil))) pa_nil))))))) (pss_one (ps_ret pe_bl)) pss_nil)))
      (pss_cons (ps_if (PW.pt (pw_and (pt_cmpR o_eq (pe_call (ok__law_draw T) (hr.mono (by decide)) rfl (T.g__law_draw) (T.k__law_draw) (T.b__law_draw) .nil pass0 (pa_cons (pv 1) (pa_cons (pe_n 16) pa_nil))) (pe_n 0) (nomark _)) (pw_and1 (pt_not (pt_val (pe_callG (ok__law_great_code_nearest T') (hr.mono (by decide)) hgu rfl (T.g__law_great_code_nearest) (T.k__law_great_code_nearest) (T.b__law_great_code_nearest) .nil pass0 (pa_cons (pv 1) pa_nil))))))) (pss_one (ps_ret pe_bl)) pss_nil)
      (pss_one (ps_ret (pe_callG (ok__law_errors_told T'') (hr.mono (by decide)) hgu rfl (T.g__law_errors_told) (T.k__law_errors_told) (T.b__law_errors_told) .nil pass0 (pa_cons (pv 1) (pa_cons (pv 4) (pa_cons (pv 2) (pa_cons (pv 5) pa_nil))))))))))))))))))))), ?_⟩
    obtain ⟨a, ns, rfl, hl, hn, ht, q⟩ := h
    walk_at "rd"
    refine ⟨a, ns, rfl, hl, hn, fun h p H1 hh0 s1 ha => ?_⟩
    have ht1 : Tabs (tabl K) H1 := ht.ext s1
    have hh : Hg K h p H1 H1 := Hg.refl
    walk_at "sg"
    walk_at "rd"
    refine ⟨by rw [sizeLine_eq]; show 8 ≤ 16777216; omega, fun l1 hl1 => ?_⟩
    have s2 : Sm H1 (upd H1 l1 (.lst (nvs [3, 4, 3, 4, 4, 5, 2, 3]))) := Sm.new hl1
    have e2 : upd H1 l1 (.lst (nvs [3, 4, 3, 4, 4, 5, 2, 3])) l1 = some (.lst (nvs [3, 4, 3, 4, 4, 5, 2, 3])) := upd_same
    have ha2 : HandAt _ h p := ha.hg (K := K) s2.hg
    walk_at "rd"
    refine ⟨h, p, 8, rfl, by decide, by decide, ha2, fun k H3 hk g3 => ?_⟩
    have g13 : Hg K h p H1 H3 := s2.hg.trans g3
    have e3 := g3.nl ha2 e2
    obtain ⟨m, hm⟩ : ∃ m, [3, 4, 3, 4, 4, 5, 2, 3][k]? = some m := ⟨_, List.getElem?_eq_getElem hk⟩
    have hmb := (by decide : ∀ x ∈ [3, 4, 3, 4, 4, 5, 2, 3], 1 ≤ x ∧ x ≤ 5) m (List.mem_of_getElem? hm)
    obtain ⟨h1, h5⟩ := hmb
    have hpw := pow32 h5
    have hm32 := le32 h5
    refine rd_ixL (j := k) (v := nv m) e3 (by rw [List.getElem?_map, hm]; rfl) ?_
    walk_at "rd"
    refine ⟨h, p, m, rfl, h5, ha.hg g13, fun l0 ys0 H4 g4 e4 hasc0 hlt0 => ?_⟩
    have g14 : Hg K h p H1 H4 := g13.trans g4
    walk_at "sg"
    walk_at "rd"
    refine ⟨by rw [sizeLine_eq]; exact Nat.zero_le _, fun l5 hl5 => ?_⟩
    have s5 : Sm H4 (upd H4 l5 (.lst [])) := Sm.new hl5
    have e5 : upd H4 l5 (.lst []) l5 = some (.lst (nvs [])) := upd_same
    generalize upd H4 l5 (.lst []) = H5 at s5 e5
    have g15 := g14.sm s5
    have e45 := s5 _ _ e4
    walk_at "rd"
    refine rd_eqDn e45 e5 ?_
    walk_at "rd"
    refine split_if (Pv := fun σ' H' => ∃ (l : Addr) (ys : List Nat), Hg K h p H1 H' ∧ H' l = some (.lst (nvs ys)) ∧ Asc ys ∧ (∀ y ∈ ys, y < 2 ^ m) ∧ ys ≠ [] ∧ σ' = [some (.ref a), some (.ref h), some (nv m), some (.ref l), none, none, none, none, none, none, none, none]) (fun hN => ?_) (fun σ' H6 hp => ?_)
    · refine tdec (fun z => hN _ _ ⟨l0, ys0, g15, e45, hasc0, hlt0, z, rfl⟩) fun z => ?_
      walk_at "rd"
      refine rd_n ⟨by omega, by decide⟩ ?_
      refine ⟨h, p, 1 <<< m, rfl, one_le_shl m, by omega, ha.hg g15, fun k7 H7 hk7 g7 => ?_⟩
      walk_at "rd"
      refine ⟨by rw [sizeLine_eq]; show 1 ≤ 16777216; omega, fun l8 hl8 => ?_⟩
      have s8 : Sm H7 (upd H7 l8 (.lst (nvs [k7]))) := Sm.new hl8
      have g17 : Hg K h p H1 H7 := g15.trans g7
      refine hN _ _ ⟨l8, [k7], g17.sm s8, upd_same, List.pairwise_singleton _ _, fun y hy => ?_, by simp, rfl⟩
      rw [List.mem_singleton.mp hy, ← shl_one]; exact hk7
    · obtain ⟨l, ys, g6, e6, hasc, hlt, hne, rfl⟩ := hp
      have C : Ch m ys := ⟨h1, h5, hasc, hlt⟩
      have ha6 := ha.hg g6
      have hyl : ys.length ≤ 32 := by
        have := asc_len ys 0 (2 ^ m) hasc fun x hx => ⟨Nat.zero_le _, hlt x hx⟩
        omega
      walk_at "rd"
      refine ⟨h, p, l, m, ys, rfl, h1, h5, ha6, e6, hasc, hlt, fun ch H7 g7 hc7 => ?_⟩
      have g17 : Hg K h p H1 H7 := g6.trans g7
      have e7 := g7.nl ha6 e6
      walk_at "sg"
      walk_at "rd"
      refine ⟨m, l, ys, rfl, h5, e7, by omega, tops_le hlt, fun H8 s8 => ?_⟩
      rw [dueW_of hne]
      have g18 := g17.sm s8
      have hc8 := hc7.mono s8
      have e8 := s8 _ _ e7
      have hLp : 1 ≤ leastW m ys := by rw [leastW_pow]; exact Nat.one_le_two_pow
      have hL32 : leastW m ys ≤ 32 := by
        rw [leastW_pow]
        exact Nat.le_trans (Nat.pow_le_pow_right (n := 2) (by decide) (by omega : m - tops ys ≤ 5)) (by decide)
      have hlog : ((leastW m ys : Nat) : Int).natAbs.log2 < 1920 := by
        rw [Int.natAbs_natCast]
        have : (leastW m ys).log2 ≤ leastW m ys := Nat.log2_le_self _
        omega
      walk_at "sg"
      walk_at "rd"
      refine ⟨ch, m, ys, rfl, hc8, hne, fun H9 s9 => ?_⟩
      have g19 := g18.sm s9
      have hc9 := hc8.mono s9
      have e9 := s9 _ _ e8
      walk_at "rd"
      refine ⟨_, rfl, hlog, ?_⟩
      walk_at "rd"
      refine ⟨_, rfl, hlog, ?_⟩
      walk_at "rd"
      refine ⟨rfl, ?_⟩
      rw [decide_eq_true rfl]
      walk_at "sg"
      walk_at "rd"
      have ha9 := ha.hg g19
      refine ⟨h, p, leastW m ys + 1, rfl, by omega, by omega, ha9, fun k1 H10 hk1 g10 => ?_⟩
      have g110 := g19.trans g10
      walk_at "rd"
      refine ⟨h, p, leastW m ys + 1, rfl, by omega, by omega, ha.hg g110, fun k2 H11 hk2 g11 => ?_⟩
      have g111 := g110.trans g11
      walk_at "rd"
      refine ⟨by rw [sizeLine_eq]; show 4 ≤ 16777216; omega, fun lm hlm => ?_⟩
      have s12 : Sm H11 (upd H11 lm (.lst [V.int ((0 : Nat) : Int), nv (leastW m ys), nv k1, nv k2])) := Sm.new hlm
      have e12 : upd H11 lm (.lst [V.int ((0 : Nat) : Int), nv (leastW m ys), nv k1, nv k2]) lm = some (.lst (nvs [0, leastW m ys, k1, k2])) := upd_same
      generalize upd H11 lm (.lst [V.int ((0 : Nat) : Int), nv (leastW m ys), nv k1, nv k2]) = H12 at s12 e12
      have hc12 : ChAt H12 ch m ys := ((g10.trans g11).ch ha9 hc9).mono s12
      have el12 : H12 l = some (.lst (nvs ys)) := s12 _ _ ((g10.trans g11).nl ha9 e9)
      have g112 : Hg K h p H1 H12 := g111.sm s12
      have ha12 := ha.hg g112
      have ht12 := g112.2.1 ht1
      refine ⟨lm, rfl, ⟨_, sqL_of e12⟩, ?_⟩
      refine for_list (xs := nvs [0, leastW m ys, k1, k2]) (fun i σ' H' => Hg K h p H12 H' ∧ ∃ v, σ' = [some (.ref a), some (.ref h), some (nv m), some (.ref l), some (.ref ch), some (nv (leastW m ys)), v, none, none, none, none, none]) ⟨Hg.refl, _, rfl⟩ (fun i σ' H' _ pp => sqL_of (pp.1.nl ha12 e12)) (fun i x σ' H' hxi pp => ?_) (fun σ' H' pp => ?_)
      · obtain ⟨g13', v, rfl⟩ := pp
        obtain ⟨k, hk', rfl⟩ := mem_nvs hxi
        have hkL : k ≤ leastW m ys := by
          have := List.mem_of_getElem? hk'
          simp only [List.mem_cons, List.not_mem_nil, or_false] at this
          omega
        walk_at "sg"
        walk_at "rd"
        refine ⟨ch, l, m, ys, k, rfl, g13'.ch ha12 hc12, hne, g13'.nl ha12 el12, g13'.2.1 ht12, hkL, fun H14 g14' => ?_⟩
        walk_at "rd"
        exact ⟨g13'.trans g14'.hg, _, rfl⟩
      · obtain ⟨g13', v, rfl⟩ := pp
        have hc13 := g13'.ch ha12 hc12
        have el13 := g13'.nl ha12 el12
        have g113 := g112.trans g13'
        walk_at "rd"
        refine and_join (Pv := fun H'' => Hg K h p H12 H'') (fun hN => ?_) (fun H14 g12_14 => ?_)
        · refine tdec (fun z => hN _ g13') fun z => ?_
          walk_at "rd"
          refine ⟨ch, l, m, ys, rfl, hc13, hne, el13, g13'.2.1 ht12, plain_none C hne z, fun H15 g15' => ?_⟩
          exact rd_bl (hN _ (g13'.trans g15'.hg))
        · have ha14 := ha12.hg g12_14
          have hc14 := g12_14.ch ha12 hc12
          have g114 := g112.trans g12_14
          walk_at "rd"
          refine ⟨by rw [sizeLine_eq]; show 8 ≤ 16777216; omega, fun l15 hl15 => ?_⟩
          have s15 : Sm H14 (upd H14 l15 (.lst (nvs [1, 2, 1, 2, 3, 0, 4, 5]))) := Sm.new hl15
          have e15 : upd H14 l15 (.lst (nvs [1, 2, 1, 2, 3, 0, 4, 5])) l15 = some (.lst (nvs [1, 2, 1, 2, 3, 0, 4, 5])) := upd_same
          have ha15 : HandAt _ h p := ha14.hg (K := K) s15.hg
          walk_at "rd"
          refine ⟨h, p, 8, rfl, by decide, by decide, ha15, fun kt H16 hkt g16 => ?_⟩
          have g12_16 : Hg K h p H12 H16 := (g12_14.sm s15).trans g16
          have e16 := g16.nl ha15 e15
          obtain ⟨tp, htp⟩ : ∃ tp, [1, 2, 1, 2, 3, 0, 4, 5][kt]? = some tp := ⟨_, List.getElem?_eq_getElem hkt⟩
          refine rd_ixL (j := kt) (v := nv tp) e16 (by rw [List.getElem?_map, htp]; rfl) ?_
          walk_at "sg"
          walk_at "rd"
          refine ⟨h, p, m, rfl, h5, ha12.hg g12_16, fun sl xs H17 g17 e17 hxlt hx1 hx3 => ?_⟩
          have g12_17 := g12_16.trans g17
          walk_at "rd"
          refine ⟨m, sl, xs, rfl, h5, e17, by omega, fun fl H18 s18 e18 => ?_⟩
          have g12_18 := g12_17.sm s18
          have hfl : (((List.range (1 <<< m)).filter fun f => xs.any (below f))).length ≤ 32 := by
            have := List.length_filter_le (fun f => xs.any (below f)) (List.range (1 <<< m))
            rw [List.length_range] at this
            omega
          walk_at "rd"
          refine lc_lstJ (sqL_of e18) (line32 (by omega)) (fun f => decide (ones f ≤ tp)) nv (fun f hf H19 D19 s19 Nx n1 n2 => ?_) (fun H19 fl2 s19 hD19 e19 => ?_)
          · walk_at "rd"
            refine ⟨f, rfl, ?_⟩
            walk_at "rd"
            refine tdec (fun z => n1 _ Sm.refl (decide_eq_false z)) fun z => ?_
            walk_at "rd"
            exact n2 _ Sm.refl (decide_eq_true z)
          · obtain ⟨fs, hfs⟩ : ∃ fs, fs = ((List.range (1 <<< m)).filter fun f => xs.any (below f)).filter fun f => decide (ones f ≤ tp) := ⟨_, rfl⟩
            rw [← hfs] at e19
            have hfa : Asc fs := by rw [hfs]; exact (List.pairwise_lt_range.filter _).filter _
            have hflt : ∀ f ∈ fs, f < 2 ^ m := fun f hf => by
              rw [hfs] at hf
              have := List.mem_range.mp (List.mem_filter.mp (List.mem_filter.mp hf).1).1
              rw [shl_one] at this
              exact this
            have hfd : DownC m fs := by rw [hfs]; exact down_of tp h5
            have hfz : 0 ∈ fs := by rw [hfs]; exact fall_zero tp h5 hxlt (fun z => by rw [z] at hx1; cases hx1)
            have hfne : fs ≠ [] := fun z => by rw [z] at hfz; cases hfz
            have Cf : Ch m fs := ⟨h1, h5, hfa, hflt⟩
            have g12_19 := g12_18.sm s19
            have ha19 := ha12.hg g12_19
            walk_at "sg"
            walk_at "rd"
            refine ⟨h, p, fl2, m, fs, rfl, h1, h5, ha19, e19, hfa, hflt, fun co H20 g20 hco => ?_⟩
            have g12_20 := g12_19.trans g20
            have e20 := g20.nl ha19 e19
            have ha20 := ha12.hg g12_20
            walk_at "sg"
            walk_at "rd"
            have ht20 := g12_20.2.1 ht12
            refine for_rngJ (n := 3) (by decide) (fun i σ' H' => Hg K h p H20 H' ∧ ∃ w1, σ' = [some (.ref a), some (.ref h), some (nv m), some (.ref l), some (.ref ch), some (nv (leastW m ys)), v, some (nv tp), some (.ref fl2), some (.ref co), w1, none]) ⟨Hg.refl, _, rfl⟩ (fun i σ' H' hi pp => ?_) (fun σ' H' pp => ?_)
            · obtain ⟨g21, w1, rfl⟩ := pp
              walk_at "sg"
              walk_at "rd"
              refine ⟨m, fl2, fs, rfl, h5, g21.nl ha20 e20, by rw [hfs]; have := List.length_filter_le (fun f => decide (ones f ≤ tp)) ((List.range (1 <<< m)).filter fun f => xs.any (below f)); omega, tops_le hflt, fun H22 s22 => ?_⟩
              rw [dueW_of hfne]
              have g22 := g21.sm s22
              walk_at "rd"
              refine ⟨h, p, co, m, fs, rfl, ha20.hg g22, g22.ch ha20 hco, hfne, hfd, g22.2.1 ht20, fun H23 g23 => ?_⟩
              walk_at "rd"
              exact ⟨g22.trans g23, _, rfl⟩
            · obtain ⟨g21, w1, rfl⟩ := pp
              walk_at "rd"
              refine ⟨h, p, 16, rfl, by decide, by decide, ha20.hg g21, fun k24 H24 hk24 g24 => ?_⟩
              have g20_24 := g21.trans g24
              walk_at "rd"
              refine and_join (Pv := fun H'' => Hg K h p H20 H'') (fun hN => ?_) (fun H25 g25 => ?_)
              · refine tdec (fun z => hN _ g20_24) fun z => ?_
                walk_at "rd"
                refine ⟨h, p, rfl, ha20.hg g20_24, g20_24.2.1 ht20, fun hs4 ha4 hl4 hn4 => by rw [code_all (by decide) (by decide) hl4], fun H26 g26 => ?_⟩
                exact rd_bl (hN _ (g20_24.trans g26))
              · walk_at "rd"
                have g12_25 := g12_20.trans g25
                exact ⟨h, p, ch, m, ys, rfl, ha12.hg g12_25, g12_25.ch ha12 hc12, hne, g12_25.2.1 ht12, fun H27 g27 => q _⟩
  case len =>
    obtain ⟨a, ns, rfl, _⟩ := h
    rfl
end
end G
set_option maxHeartbeats 4000000
-- text L1
/-! # the law's call, the guards told -/
namespace G
open PySem PySem.Spec PyProof.Rows L2
/-- what is tracked at the start: the tables, and the script if the written part does not bear it -/
def hp0 (tb : List Addr) (z : Addr) (lo : Obj) (xs : List V) (t : Bool) : Hp := fun b => if b ∈ tb then some (.tbl #[]) else if b = z ∧ t = true then some (.frz lo (.lst xs)) else none
section
variable {tb : List Addr} {z : Addr} {lo : Obj} {xs : List V} {t : Bool} {b : Addr} {u : HO}
theorem hp0_tb (h : b ∈ tb) : hp0 tb z lo xs t b = some (.tbl #[]) := if_pos h
theorem hp0_z (h : z ∉ tb) : hp0 tb z lo xs true z = some (.frz lo (.lst xs)) := (if_neg h).trans (if_pos ⟨rfl, rfl⟩)
theorem hp0_no (h : b ∉ tb) (h2 : b ≠ z ∨ t = false) : hp0 tb z lo xs t b = none := (if_neg h).trans (if_neg fun y => by
  rcases h2 with h2 | h2
  · exact h2 y.1
  · rw [h2] at y; cases y.2)
theorem hp0_of (h : hp0 tb z lo xs t b = some u) : (b ∈ tb ∧ u = .tbl #[]) ∨ (b ∉ tb ∧ b = z ∧ t = true ∧ u = .frz lo (.lst xs)) := by
  unfold hp0 at h
  by_cases h1 : b ∈ tb
  · rw [if_pos h1] at h
    exact .inl ⟨h1, (Option.some.inj h).symm⟩
  · rw [if_neg h1] at h
    by_cases h2 : b = z ∧ t = true
    · rw [if_pos h2] at h
      exact .inr ⟨h1, h2.1, h2.2, (Option.some.inj h).symm⟩
    · rw [if_neg h2] at h; cases h
end
abbrev tabO : Obj := { cls := .none, data := .fields #[] }
abbrev lstO (us : List Value) : Obj := { cls := .type "list", data := .seq us.toArray }
theorem call_lawG {P : Program} {w : World} {K : PySem.W.Frag} {mg mb : Str → Option Value} {k : Nat} {fl z : Addr} {cs : List (Addr × Addr)} {fd : FuncData} {x : Str} {sp : Sp} {st : Shared} {us : List Value} {ns : List Int}
    (inK : K.In st.heap) (gNs : st.heap.Ns mainGlobals mg) (bNs : st.heap.Ns builtinsNs mb) (bOk : ∀ y : Str, y ≠ "__name__" → mb y = bootBuiltins y) (noL : st.heap.NoLimit) (noG : st.gens = #[])
    (tabs : ∀ q ∈ cs, st.heap.get? q.2 = some tabO) (outK : ∀ q ∈ cs, K.lookup q.2 = none) (codes : ∀ q ∈ cs, PySem.W.CodeHd st.heap q.1 q.2)
    (bMod : ∃ (bm : Addr) (ob : Obj), mg "__builtins__" = some (.ref bm) ∧ bm ≠ builtinsNs ∧ st.heap.get? bm = some ob ∧ ob.cls = .type "module" ∧ ob.dict = some builtinsNs ∧ ob.data = .plain)
    (scr : st.heap.get? z = some (lstO us)) (inum : IntsAre us ns) (few : ns.length ≤ sizeLine) (room : Room k callerA)
    (law : ∀ bs : Heap, K.In bs → bs.Ns mainGlobals mg → (∀ q ∈ cs, LamX.TabB bs mg q.1 q.2) → FnOkG P w K mg bs CX0 k fl fd [x] sp) (bind1 : ∀ (s : Shared) (u : Value), BindsTo s fd ⟨[u], []⟩ [(x, u)])
    (asks : ∀ H : Hp, (∀ q ∈ cs, H q.2 = some (.tbl #[])) → SqL K H z (ns.map V.int) → sp [.ref z] H (fun v _ => v = .bl true) fun _ _ _ => False) :
    codeAny (model P w) callerA (.call (.ref fl) ⟨[.ref z], []⟩) (fun r s' => r = .ok (.ret (.bool true)) ∧ OldK st.heap s'.heap ∧ s'.os = st.os ∧ AllBare s'.gens) st := by
  obtain ⟨tb, htb⟩ : ∃ tb, tb = cs.map (·.2) := ⟨_, rfl⟩
  have inT : ∀ q ∈ cs, q.2 ∈ tb := fun q hq => by rw [htb]; exact List.mem_map.mpr ⟨q, hq, rfl⟩
  have ofT : ∀ y ∈ tb, ∃ q ∈ cs, q.2 = y := fun y hy => by rw [htb] at hy; exact List.mem_map.mp hy
  have tabT : ∀ y ∈ tb, st.heap.get? y = some tabO := fun y hy => by
    obtain ⟨q, hq, rfl⟩ := ofT y hy
    exact tabs q hq
  have zT : z ∉ tb := fun hz => by
    have e := (tabT z hz).symm.trans scr
    have e2 : Data.fields #[] = Data.seq us.toArray := congrArg Obj.data (Option.some.inj e)
    cases e2
  obtain ⟨t, ht⟩ : ∃ t, t = (K.lookup z).isNone := ⟨_, rfl⟩
  obtain ⟨H, hH⟩ : ∃ H, H = hp0 tb z (lstO us) (ns.map V.int) t := ⟨_, rfl⟩
  have vals := vals_ints inum
  have nlen := inum.length
  have hok : HOk P w H st.heap := fun y u e => by
    rw [hH] at e
    rcases hp0_of e with ⟨h1, rfl⟩ | ⟨_, rfl, _, rfl⟩
    · exact tabT y h1
    · exact ⟨scr, by rw [List.length_map]; exact few, us, _, vals, scr⟩
  have hsq : SqL K H z (ns.map V.int) := by
    cases e : K.lookup z with
    | none =>
      refine .inl (.inr ⟨lstO us, ?_⟩)
      have : t = true := by rw [ht, e]; rfl
      rw [hH, this]
      exact hp0_z zT
    | some o =>
      have e2 := inK z o e
      rw [scr] at e2
      cases e2
      exact .inr ⟨_, us.toArray, _, e, rfl, rfl, rfl, by rw [List.size_toArray, nlen]; exact few, by simpa using vals⟩
  -- what is no table and not the script is not tracked
  have free : ∀ y, y ∉ tb → (y ≠ z ∨ t = false) → H y = none := fun y h1 h2 => by rw [hH]; exact hp0_no h1 h2
  have away : ∀ {y : Addr} {o : Obj}, st.heap.get? y = some o → o.data ≠ .fields #[] → (∀ v n, o.data ≠ .seq v n) → H y = none := fun {y o} e n1 n2 => by
    refine free y (fun hy => ?_) (.inl fun hz => ?_)
    · rw [tabT y hy] at e
      cases e
      exact n1 rfl
    · rw [hz, scr] at e
      cases e
      exact n2 _ _ rfl
  have hid : ∀ {y : Addr} {o : Obj}, st.heap.get? y = some o → o.data ≠ .fields #[] → (∀ v n, o.data ≠ .seq v n) → (hidT st.heap H).get? y = some o := fun e n1 n2 => hidT_get e (away e n1 n2)
  have nsB : ∀ {y : Addr} {m : Str → Option Value}, st.heap.Ns y m → (hidT st.heap H).Ns y m := fun {y m} ⟨o, es, ep, e, d, r⟩ =>
    ⟨o, es, ep, hid e (by rw [d]; intro q; cases q) (by rw [d]; intro v n q; cases q), d, r⟩
  have kB : K.In (hidT st.heap H) := fun y o e => by
    refine hidT_get (inK y o e) (free y (fun hy => ?_) ?_)
    · obtain ⟨q, hq, rfl⟩ := ofT y hy
      rw [outK q hq] at e; cases e
    · by_cases hz : y = z
      · right
        rw [ht, ← hz, e]; rfl
      · exact .inl hz
  have tB : ∀ q ∈ cs, LamX.TabB (hidT st.heap H) mg q.1 q.2 := fun q hq => by
    refine ⟨?_, ?_, fun e => ?_⟩
    · obtain ⟨o, ws, file, tf, flags, tg, inF, text, tt, e1, r1, r2, r3, r⟩ := codes q hq
      refine ⟨o, ws, file, tf, flags, tg, inF, text, tt, hid e1 (fun y => ?_) (fun v n y => ?_), r1, r2, r3, r⟩
      · rw [r2] at y
        cases y
        simp at r3
      · rw [r2] at y; cases y
    · obtain ⟨bm, ob, b1, b2, b3, b4, b5, b6⟩ := bMod
      refine ⟨bm, ob, b1, b2, fun y => ?_, fun y => ?_, hid b3 (fun y => ?_) (fun v n y => ?_), b4, b5, b6⟩
      · obtain ⟨o, es, ep, e, d, _⟩ := gNs
        rw [y, e] at b3
        cases b3
        rw [d] at b6; cases b6
      · rw [y, tabs q hq] at b3
        cases b3
        cases b6
      · rw [b6] at y; cases y
      · rw [b6] at y; cases y
    · obtain ⟨o, es, ep, e1, d, _⟩ := gNs
      rw [e, tabs q hq] at e1
      cases e1
      cases d
  have env : Env0 P w K mg (hidT st.heap H) callerA [] st H := by
    refine ⟨rfl, ⟨kB, nsB gNs, ⟨mb, nsB bNs, bOk⟩, ?_⟩, fun y o e => of_hidT e, Nat.le_of_eq (hidT_size _ _), trivial, fun y hy => (by cases hy), hok, .of_eq noG⟩
    obtain ⟨mc, c1, c2⟩ := noL
    exact ⟨mc, nsB c1, c2⟩
  have run := (law _ kB (nsB gNs) tB).run callerA [] st H ⟨[.ref z], []⟩ [.ref z] [.ref z] (fun v _ => v = .bl true) (fun _ _ _ => False) room rfl env (bind1 st (.ref z)) (.cons rfl .nil) (asks H (fun q hq => by rw [hH]; exact hp0_tb (inT q hq)) hsq)
  refine codeAny_mono run fun r s' h => ?_
  match r, h with
  | .ok (.ret u), h =>
    obtain ⟨v, H', hos, hbare, un, hok', rv, rfl⟩ := h
    obtain rfl : u = Value.bool true := rv
    have same : ∀ y o, y ∉ tb → st.heap.get? y = some o → s'.heap.get? y = some o := fun y o n e => by
      cases e2 : H y with
      | none => exact un.keep y o e e2 (fun q => by cases q) (fun q => by cases q)
      | some u =>
        have e3 := e2
        rw [hH] at e3
        rcases hp0_of e3 with ⟨h1, _⟩ | ⟨_, rfl, _, rfl⟩
        · exact absurd h1 n
        · have e4 := (hok' _ _ (un.frzs _ _ _ e2)).1
          rw [scr] at e
          cases e
          exact e4
    have more : ∀ y ∈ tb, ∃ m : Array Value, s'.heap.get? y = some { cls := .none, data := .fields m } := fun y hy => by
      obtain ⟨m, e⟩ := un.tbls y #[] (by rw [hH]; exact hp0_tb hy)
      exact ⟨_, hok' _ _ e⟩
    refine ⟨rfl, ⟨fun y o e => ?_, fun y o e => ?_⟩, hos, hbare⟩
    · by_cases hy : y ∈ tb
      · obtain ⟨m, em⟩ := more y hy
        obtain ⟨q, hq, rfl⟩ := ofT y hy
        rw [tabs q hq] at e
        cases e
        exact .inr (.inl ⟨((codes q hq).tab (tabs q hq)).isCodeTable, rfl, #[], m, rfl, by rw [Array.empty_append]; exact em⟩)
      · exact .inl (same y o hy e)
    · by_cases hy : y ∈ tb
      · obtain ⟨m, em⟩ := more y hy
        exact ⟨_, em⟩
      · exact ⟨o, same y o hy e⟩
  | .error e, h => exact (show False from h).elim
  | .ok .next, h => exact (show False from h).elim
  | .ok .brk, h => exact (show False from h).elim
  | .ok .cont, h => exact (show False from h).elim
end G
set_option maxHeartbeats 0
-- text F1
namespace G
open PySem PySem.Spec PyProof.Rows L2 M
theorem runEq (w : World) : HandSHeadRun.RunEq Rw (PySem.W.view Rw.prog [120]) hookA obA 9000 names w := by
  intro os
  have a := runA w os
  have b := runB w os
  have c := runC w os
  cases e : HandSHeadRun.endF (HandSHeadRun.stepQ (HandSHeadRun.denQ HandSHeadRun.tabQ) Rw.prog w) 9000 Rw.prog w os with
  | none => rw [e] at a; cases a
  | some s =>
    rw [e] at a b c
    exact congrArg some (Prod.ext (Option.some.inj a) (Prod.ext (Option.some.inj b) (Option.some.inj c)))
/-- the code objects with lambdas, and their tables -/
def csL (K : PySem.W.Frag) : List (Addr × Addr) := tfs.map fun q => ((He.cT K q).1, (He.cT K q).2)
theorem mem_cs {K : PySem.W.Frag} {q : Addr × Addr} (h : q ∈ csL K) : ∃ t ∈ tfs, q = ((He.cT K t).1, (He.cT K t).2) := by
  obtain ⟨t, ht, e⟩ := List.mem_map.mp h
  exact ⟨t, ht, e.symm⟩
theorem tabl_cs {K : PySem.W.Frag} {H : Hp} (h : ∀ q ∈ csL K, H q.2 = some (.tbl #[])) : LamX.Tabs (tabl K) H := fun q hq => by
  have key : ∀ t ∈ tfs, H (He.cT K t).2 = some (.tbl #[]) := fun t ht => h ((He.cT K t).1, (He.cT K t).2) (List.mem_map.mpr ⟨t, ht, rfl⟩)
  simp only [tabl, List.mem_cons, List.not_mem_nil, or_false] at hq
  rcases hq with rfl | rfl | rfl
  · exact LamX.TabS.nil (key _ (by simp [tfs, tf0]))
  · exact LamX.TabS.nil (key _ (by simp [tfs, tf0]))
  · exact LamX.TabS.nil (key _ (by simp [tfs, tf0]))
end G
namespace G
open PySem PySem.Spec PyProof.Rows L2 M
section
variable {K : PySem.W.Frag} {mg : Str → Option Value} {h : Heap}
theorem txx_of (c : SaysA h K) (X : K.In h) (N : h.Ns mainGlobals mg) {bs : Heap} (kin : K.In bs) (ns : bs.Ns mainGlobals mg) (tb : ∀ q ∈ csL K, LamX.TabB bs mg q.1 q.2) : TxX Rw.prog K mg bs := by
  have T : Txt K mg := Txt.of c X N
  exact { toTxt := T, tb := fun t ht => tb ((He.cT K t).1, (He.cT K t).2) (List.mem_map.mpr ⟨t, ht, rfl⟩), xok := c.xok, xfn := c.xfn, hP := rfl }
end
end G
open PySem PySem.W PySem.Calls PyProof.Rows in
theorem final_walk (w : PySem.World) (s₁ : PySem.Shared) (mg mb : PySem.Str → Option PySem.Value) (K : PySem.W.Frag) (KX : K.In s₁.heap) (c : G.SaysA s₁.heap K)
    (gNs : s₁.heap.Ns PySem.mainGlobals mg) (bNs : s₁.heap.Ns PySem.builtinsNs mb) (bOk : ∀ y : PySem.Str, y ≠ "__name__" → mb y = PySem.bootBuiltins y) (noL : s₁.heap.NoLimit) (noG : s₁.gens = #[])
    (bMod : ∃ (bm : PySem.Addr) (ob : PySem.Obj), mg "__builtins__" = some (.ref bm) ∧ bm ≠ PySem.builtinsNs ∧ s₁.heap.get? bm = some ob ∧ ob.cls = .type "module" ∧ ob.dict = some PySem.builtinsNs ∧ ob.data = .plain)
    (fa a : PySem.Addr) (vs : List PySem.Value) (ns : List Int) (hmg : mg "law" = some (.ref fa)) (scr : s₁.heap.get? a = some { cls := .type "list", data := .seq vs.toArray }) (nums : IntsAre vs ns) (few : ns.length ≤ 63) :
    PySem.codeAny (PySem.model G.Rw.prog w) PySem.callerA (.call (.ref fa) ⟨[.ref a], []⟩) (fun r s' => r = .ok (.ret (.bool true)) ∧ PySem.OldK s₁.heap s'.heap ∧ s'.os = s₁.os ∧ AllBare s'.gens) s₁ := by
  have T : G.Txt K mg := G.Txt.of c KX gNs
  have e := hmg.symm.trans T.g_law
  cases e
  have few2 : ns.length ≤ PySem.sizeLine := Nat.le_trans few (by decide)
  refine G.call_lawG (k := 16) (cs := G.csL K) (fd := G.fdOf K G.a_law) (x := "_law_script") (sp := G.spLaw K) KX gNs bNs bOk noL noG (fun q hq => ?_) (fun q hq => ?_) (fun q hq => ?_) bMod scr nums few2 ⟨rfl, by decide, by decide⟩ (fun bs kin nsb tb => ?_) (fun s u => ?_) (fun H hH hS => ?_)
  · obtain ⟨t, ht, rfl⟩ := G.mem_cs hq
    exact c.empty t ht
  · obtain ⟨t, ht, rfl⟩ := G.mem_cs hq
    exact c.out t ht
  · obtain ⟨t, ht, rfl⟩ := G.mem_cs hq
    exact PySem.W.codeHd_of_K KX (c.hd t ht)
  · exact G.ok_law (G.txx_of c KX gNs kin nsb tb)
  · exact L2.FunD.bindsA (ps := ["_law_script"]) T.f_law (fun _ _ _ _ _ _ us hl => match us, hl with | [_], _ => rfl) s [u] rfl
  · exact ⟨a, ns, rfl, hS, few2, G.tabl_cs hH, fun _ => rfl⟩
open PySem PySem.W PySem.Calls PyProof.Rows in
theorem PySem.Challenge.cw_lowerwords_k56_whole_halves_of_least_wor_holds : PySem.Challenge.rw_lowerwords_k56_whole_halves_of_least_wor.Holds := by
  w_on; o_law
  refine HandSHeadRun.head_any (r := OpenLaw.row PySem.Challenge.rw_lowerwords_k56_whole_halves_of_least_wor) (q := view (OpenLaw.row PySem.Challenge.rw_lowerwords_k56_whole_halves_of_least_wor).prog [120]) (H := G.hookA) (ob := G.obA) (M := 9000) (loose := G.names) (d := HandSHeadRun.topDef (OpenLaw.row PySem.Challenge.rw_lowerwords_k56_whole_halves_of_least_wor).prog 120) (kwd := []) G.obA_eq
    (by kernel_rfl) (fun s => by kernel_rfl) G.runEq (by kernel_rfl) (by kernel_rfl) (by kernel_rfl) (by rfl) (by first | assumption | decide +kernel) (by decide +kernel) ⟨rfl, rfl, rfl, rfl, rfl, by decide +kernel⟩ ?hw ?hc
  case hw => w_witness2
  case hc =>
    refine Att.attach_callB (n := 63) rfl (by kernel_rfl) fun w s₀ s₁ mg mb fa o pm cd doc a vs ns Gr Y ho hd hcd hmg hobj hints hlen hbits hg => ?_
    obtain ⟨K, KX, c⟩ := Y
    have hmg2 : mg ("law" : PySem.Str) = some (.ref fa) := by
      have e : (HandSHeadRun.topDef (OpenLaw.row PySem.Challenge.rw_lowerwords_k56_whole_halves_of_least_wor).prog 120).name = ("law" : PySem.Str) := by kernel_rfl
      rw [← e]
      exact hmg
    exact final_walk w s₁ mg mb K KX c Gr.T.g Gr.T.b Gr.T.builtins Gr.T.nolimit hg Gr.T.bmain fa a vs ns hmg2 hobj hints hlen
