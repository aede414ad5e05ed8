import PyProof.Rows.All
import Wide.All
import OpenK.AllK
import Wide.FinOn
import KE.KStateDown
import HandS.Base
import HandS.Call
import HandS.Ends
import HandS.More
import HandS.Words
import HandS.WordsExc
import HandS.Defaults
import HandS.Head0
import HandS.Head1
import HandS.Head2
import HandS.Head3
import HandS.HeadEnd
import HandS.Property
import HandS.Codes
import HandS.ExcIs
import HandS.HeadHook1
import HandS.HeadHook2
import PySem.Challenge.RW_truebooks_k36_whole_couples_are_the_leas
import HandS.ForMost
import HandS.Evl
import HandS.Deep
import HandS.IsInst
import HandS.SortInts
import HandS.SortRule
import HandS.Gcd
import HandS.Conv
import HandS.Style
import PyProof.MaxThree
import KE.KMathG
import KE.KDictDisplayH
import HandS.Dict
import HandS.Exc
import HandS.Comp
import HandS.Nested
import HandS.ExcOwn
import HandS.RaiseMore
import HandS.TryOnly
section
set_option Elab.async false
set_option linter.all false
set_option maxRecDepth 100000
set_option maxHeartbeats 0
namespace HT
open PySem PySem.Spec PyProof.Rows L2
def top (i : Nat) : Stmt := PySem.Challenge.pw_truebooks_k36_whole_couples_are_the_leas.main.body.getD i (.Pass ⟨0, 0, 0, 0⟩)
abbrev sLaw : Stmt := top 127
def dD (i : Nat) (x : PySem.Str) : He.DefD := ⟨(x, none), x, x, defArgs (top i), defBody (top i), defScope (top i), [], []⟩
def fn0 : List He.DefD := [dD 17 "least_period", dD 18 "flag_row", dD 19 "shape_lot", dD 20 "told_by", dD 21 "rim_numbers", dD 22 "empty_lot", dD 23 "just_lot", dD 24 "truth_row", dD 25 "common_modulus", dD 26 "within", dD 28 "whole_within", dD 29 "check_letter"]
def fn1 : List He.DefD := [dD 30 "check_test", dD 54 "is_word", dD 55 "is_word_row", dD 56 "row_rises", dD 57 "checked_letters", dD 58 "checked_tests", dD 59 "checked_joins", dD 60 "checked_meanings", dD 61 "checked_rows", dD 64 "join_two", dD 65 "letter_place", dD 66 "test_place"]
def fn2 : List He.DefD := [dD 67 "deed_word", dD 68 "test_word", dD 69 "step_word", dD 72 "check_same_alphabet", dD 73 "steps_of_book", dD 75 "put_line", dD 76 "put_killed", dD 77 "lead_line", dD 78 "couple_lines", dD 79 "couples_told", dD 84 "couple_program", dD 88 "finer"]
def fn3 : List He.DefD := [dD 89 "alike", dD 93 "told_match", dD 95 "_law_digits", dD 96 "_law_cell", dD 97 "_law_letter", dD 98 "_law_test", dD 99 "_law_alphabet", dD 100 "_law_join_all", dD 101 "_law_below", dD 102 "_law_led_up", dD 103 "_law_told", dD 104 "_law_whole"]
def fn4 : List He.DefD := [dD 105 "_law_steps", dD 106 "_law_words", dD 107 "_law_half", dD 108 "_law_doubled_row", dD 109 "_law_doubled", dD 110 "_law_renamed", dD 111 "_law_with_rows", dD 112 "_law_lifted", dD 113 "_law_led_anew", dD 114 "_law_untold_lowered", dD 115 "_law_strange", dD 116 "_law_twin"]
def fn5 : List He.DefD := [dD 117 "_law_couples", dD 118 "_law_small_rows", dD 119 "_law_small_book", dD 120 "_law_small_made", dD 121 "_law_refused", dD 122 "_law_more_letters", dD 123 "_law_turned_letters", dD 124 "_law_more_tests", dD 125 "_law_turned_tests", dD 126 "_law_couples_in_form", dD 127 "law"]
def fnM : List He.DefD := [⟨("Lot", some "__init__"), "__init__", "Lot.__init__", defArgs (inClass (top 15) 0), defBody (inClass (top 15) 0), defScope (inClass (top 15) 0), [], []⟩, ⟨("Book", some "__init__"), "__init__", "Book.__init__", defArgs (inClass (top 62) 0), defBody (inClass (top 62) 0), defScope (inClass (top 62) 0), [], []⟩]
def fn : List He.DefD := fn0 ++ fn1 ++ fn2 ++ fn3 ++ fn4 ++ fn5 ++ fnM
def faF : List He.Fa := [.free "len", .free "range", .free "isinstance", .free "int", .free "list", .free "tuple", .free "sorted", .free "sum", .free "max", .free "min", .free "abs", .free "all", .free "bool", .free "str", .free "ValueError"]
def fag0 : List He.Fa := [.glo "least_period", .glo "flag_row", .glo "shape_lot", .glo "told_by", .glo "rim_numbers", .glo "empty_lot", .glo "just_lot", .glo "truth_row", .glo "common_modulus", .glo "within", .glo "whole_within", .glo "check_letter"]
def fag1 : List He.Fa := [.glo "check_test", .glo "is_word", .glo "is_word_row", .glo "row_rises", .glo "checked_letters", .glo "checked_tests", .glo "checked_joins", .glo "checked_meanings", .glo "checked_rows", .glo "join_two", .glo "letter_place", .glo "test_place"]
def fag2 : List He.Fa := [.glo "deed_word", .glo "test_word", .glo "step_word", .glo "check_same_alphabet", .glo "steps_of_book", .glo "put_line", .glo "put_killed", .glo "lead_line", .glo "couple_lines", .glo "couples_told", .glo "couple_program", .glo "finer"]
def fag3 : List He.Fa := [.glo "alike", .glo "told_match", .glo "_law_digits", .glo "_law_cell", .glo "_law_letter", .glo "_law_test", .glo "_law_alphabet", .glo "_law_join_all", .glo "_law_below", .glo "_law_led_up", .glo "_law_told", .glo "_law_whole"]
def fag4 : List He.Fa := [.glo "_law_steps", .glo "_law_words", .glo "_law_half", .glo "_law_doubled_row", .glo "_law_doubled", .glo "_law_renamed", .glo "_law_with_rows", .glo "_law_lifted", .glo "_law_led_anew", .glo "_law_untold_lowered", .glo "_law_strange", .glo "_law_twin"]
def fag5 : List He.Fa := [.glo "_law_couples", .glo "_law_small_rows", .glo "_law_small_book", .glo "_law_small_made", .glo "_law_refused", .glo "_law_more_letters", .glo "_law_turned_letters", .glo "_law_more_tests", .glo "_law_turned_tests", .glo "_law_couples_in_form", .glo "law"]
def faC : List He.Fa := [.glo "Lot", .glo "Book", .glo "OtherAlphabet", .glo "BookError", .cls "Lot", .cls "Book", .mkr "Lot", .mkr "Book", .exc "OtherAlphabet", .exm "OtherAlphabet" "OtherAlphabet" true, .int "MOST_CORE" 20000, .int "MOST_MODULUS" 10080, .keep "Lot", .keep "Book"]
def faL : List He.Fa := [.noat "Lot" "low", .noat "Lot" "high", .noat "Lot" "inside", .noat "Lot" "modulus", .noat "Lot" "ups", .noat "Lot" "downs"]
def faB : List He.Fa := [.noat "Book" "letters", .noat "Book" "tests", .noat "Book" "joins", .noat "Book" "meanings", .noat "Book" "deeds", .noat "Book" "so", .noat "Book" "not_so", .noat "Book" "first"]
def fa : List He.Fa := faC ++ faL ++ faB ++ faF ++ fag0 ++ fag1 ++ fag2 ++ fag3 ++ fag4 ++ fag5
def as0 : List Addr := [3, 239, 238, 214, 213, 221, 220, 228, 227, 236, 235, 234, 237, 240, 241, 544, 543, 518, 517, 525, 524, 533, 532, 531, 541]
def as1 : List Addr := [540, 539, 542, 545, 546, 186, 185, 184, 52, 51, 50, 53, 255, 254, 262, 261, 267, 266, 274, 273, 279, 278, 286, 285, 293]
def as2 : List Addr := [292, 300, 299, 307, 306, 314, 313, 321, 320, 328, 327, 335, 334, 461, 460, 466, 465, 473, 472, 480, 479, 487, 486, 492, 491]
def as3 : List Addr := [499, 498, 504, 503, 555, 554, 562, 561, 569, 568, 576, 575, 583, 582, 590, 589, 604, 603, 609, 608, 623, 622, 630, 629, 637]
def as4 : List Addr := [636, 644, 643, 649, 648, 684, 683, 726, 725, 733, 732, 752, 751, 759, 758, 766, 765, 773, 772, 780, 779, 787, 786, 794, 793]
def as5 : List Addr := [799, 798, 804, 803, 809, 808, 816, 815, 821, 820, 826, 825, 833, 832, 840, 839, 845, 844, 850, 849, 857, 856, 862, 861, 867]
def as6 : List Addr := [866, 872, 871, 877, 876, 884, 883, 889, 888, 896, 895, 901, 900, 906, 905, 913, 912, 920, 919, 927, 926, 934, 933, 941, 940]
def as7 : List Addr := [948, 947, 953, 952]
def aS : List Addr := as0 ++ as1 ++ as2 ++ as3 ++ as4 ++ as5 ++ as6 ++ as7
/-! ### what the kit's list of facts has no case for -/
def pB (K : PySem.W.Frag) : Addr := He.ma K (He.ga K "Lot") "bare"
def gB (K : PySem.W.Frag) : Addr := match PySem.W.recIn K (pB K) "property" with
  | some (.ref g :: _) => g
  | _ => 0
def eqV (a b : Option (Option Value)) : Bool := decide (a = b)
def eqT (a : Option Bool) : Bool := decide (a = some true)
def xProp (K : PySem.W.Frag) : Bool :=
  eqV (PySem.W.findIn K (.ref (He.ga K "Lot")) "bare") (some (some (.ref (pB K)))) &&
  (eqV (PySem.W.specialIn K (.ref (pB K)) "__get__") (some (some (.builtin "property.__get__"))) &&
  (eqT (PySem.W.takesIn K (.ref (pB K))) && (match PySem.W.recIn K (pB K) "property" with
    | some (.ref _ :: _) => true
    | _ => false)))
abbrev FV : Type := Option (Str × Str × Arguments × FuncBody × Scope × Addr × List (Str × Addr) × Addr × Value)
def fvG (K : PySem.W.Frag) : FV := match K.lookup (gB K) with
  | some ⟨_, _, .func fd, _⟩ => some (fd.name, fd.qualname, fd.params, fd.body, fd.scope, fd.globals, fd.closure, fd.builtins, fd.defaults)
  | _ => none
def fvV : FV := some ("bare", "Lot.bare", defArgs (inClass (top 15) 3), .stmts (defBody (inClass (top 15) 3)), defScope (inClass (top 15) 3), mainGlobals, [], builtinsNs, .none)
def xCode (K : PySem.W.Frag) : Bool := PySem.W.keepIn K (.ref (gB K)) && (match K.lookup (gB K) with
  | some ⟨_, _, .func fd, _⟩ => PySem.W.codeIn K fd.code "Lot.bare"
  | _ => false)
def xIns (K : PySem.W.Frag) : Bool :=
  eqV (PySem.W.findIn K (.ref (He.ga K "Lot")) "__class__") (some (some (.builtin "object.__class__"))) &&
  (eqV (PySem.W.specialIn K (.builtin "object.__class__") "__get__") (some (some (.builtin "getset_descriptor.__get__"))) &&
  (eqT (PySem.W.takesIn K (.builtin "object.__class__")) && (eqT (PySem.W.mroIn K (He.ga K "Lot") (.type "object")) && eqT (PySem.W.kitOne K (.ref (He.ga K "Lot")) (.ref (He.ga K "Lot"))))))
def xExc (K : PySem.W.Frag) : Bool :=
  eqV (PySem.W.findIn K (.ref (He.ga K "OtherAlphabet")) "__getattribute__") (some (some (.builtin "BaseException.__getattribute__"))) &&
  (eqV (PySem.W.findIn K (.ref (He.ga K "OtherAlphabet")) "__getattr__") (some none) &&
  (eqT (PySem.W.subIn K (.ref (He.ga K "OtherAlphabet")) (.type "BaseException")) && (PySem.W.hasDictIn K (He.ga K "OtherAlphabet") &&
  (eqV (PySem.W.findIn K (.ref (He.ga K "OtherAlphabet")) "__class__") (some (some (.builtin "object.__class__"))) && (eqT (PySem.W.mroIn K (He.ga K "OtherAlphabet") (.type "object")) &&
  (eqT (PySem.W.kitOne K (.ref (He.ga K "OtherAlphabet")) (.ref (He.ga K "BookError"))) && eqT (PySem.W.kitOne K (.ref (He.ga K "OtherAlphabet")) (.type "ValueError"))))))))
def xLcm (K : PySem.W.Frag) : Bool := eqV (PySem.W.nsIn K mainGlobals "lcm") (some (some (.builtin "math.lcm")))
def xB (K : PySem.W.Frag) : Bool := xLcm K && (xProp K && (xCode K && (xIns K && xExc K)))
theorem ba2 {a b : Bool} (h : (a && b) = true) : a = true ∧ b = true := Bool.and_eq_true_iff.mp h
theorem xFun {K : PySem.W.Frag} (e : fvG K = fvV) (c : xCode K = true) : ∃ fd, FunD K "bare" "Lot.bare" (defArgs (inClass (top 15) 3)) (defBody (inClass (top 15) 3)) (defScope (inClass (top 15) 3)) [] [] (gB K) fd := by
  obtain ⟨kp, c2⟩ := ba2 c
  unfold fvG at e
  split at e
  · rename_i oc od fd osl lk
    rw [lk] at c2
    obtain ⟨n1, n2, n3, n4, n5, n6, n7, n8, n9, n10, n11, n12, n13, n14, n15⟩ := fd
    unfold fvV at e
    have e := Option.some.inj e
    simp only [Prod.mk.injEq] at e
    obtain ⟨h1, h2, h3, h4, h5, h6, h7, h8, h9⟩ := e
    subst h1 h2 h3 h4 h5 h6 h7 h8 h9
    exact ⟨_, ⟨oc, od, .none, n9, n10, n11, n12, n13, n14, osl, rfl, lk, c2, .inl ⟨rfl, rfl⟩, .inl rfl⟩, kp⟩
  · cases e
theorem xPropOf {K : PySem.W.Frag} (c : xProp K = true) : PropOf K (He.ga K "Lot") "bare" (pB K) (gB K) := by
  obtain ⟨c1, c⟩ := ba2 c
  obtain ⟨c2, c⟩ := ba2 c
  obtain ⟨c3, c4⟩ := ba2 c
  refine ⟨of_decide_eq_true c1, of_decide_eq_true c2, of_decide_eq_true c3, ?_⟩
  unfold gB
  split at c4
  · rename_i g rest e
    rw [e]
    exact ⟨_, rfl⟩
  · cases c4
theorem xInsC {K : PySem.W.Frag} (cl : Cls K (He.ga K "Lot")) (c : xIns K = true) : C8.InsC K (He.ga K "Lot") := by
  obtain ⟨c1, c⟩ := ba2 c
  obtain ⟨c2, c⟩ := ba2 c
  obtain ⟨c3, c⟩ := ba2 c
  obtain ⟨c4, c5⟩ := ba2 c
  exact ⟨cl, of_decide_eq_true c1, of_decide_eq_true c2, of_decide_eq_true c3, of_decide_eq_true c4, of_decide_eq_true c5⟩
theorem xExcC {K : PySem.W.Frag} (ci : xIns K = true) (c : xExc K = true) : ExcC K (He.ga K "OtherAlphabet") ∧ PySem.W.kitOne K (.ref (He.ga K "OtherAlphabet")) (.ref (He.ga K "BookError")) = some true ∧ PySem.W.kitOne K (.ref (He.ga K "OtherAlphabet")) (.type "ValueError") = some true := by
  obtain ⟨_, ci⟩ := ba2 ci
  obtain ⟨i2, ci⟩ := ba2 ci
  obtain ⟨i3, _⟩ := ba2 ci
  obtain ⟨c1, c⟩ := ba2 c
  obtain ⟨c2, c⟩ := ba2 c
  obtain ⟨c3, c⟩ := ba2 c
  obtain ⟨c4, c⟩ := ba2 c
  obtain ⟨c5, c⟩ := ba2 c
  obtain ⟨c6, c⟩ := ba2 c
  obtain ⟨c7, c8⟩ := ba2 c
  exact ⟨⟨of_decide_eq_true c1, of_decide_eq_true c2, of_decide_eq_true c3, c4, of_decide_eq_true c5, of_decide_eq_true i2, of_decide_eq_true i3, of_decide_eq_true c6⟩, of_decide_eq_true c7, of_decide_eq_true c8⟩
abbrev AX : Type := He.AlD × Bool × FV
def obK (K : PySem.W.Frag) : AX := (He.obsD fa fn K, xB K, fvG K)
def vlK : AX := (He.valD fn, true, fvV)
def obX (g : Addr → Option Obj) : AX := obK (He.frG g aS)
def hk : PySem.W.Hook where
  α := AX
  obs := fun s => obX s.heap.get?
  val := fun _ => vlK
  says := fun _ h => ∃ K : PySem.W.Frag, K.In h ∧ obK K = vlK
  of := fun _ _ e => ⟨_, He.frG_in, e⟩
  keeps := fun _ _ _ ⟨K, hK, c⟩ k => ⟨K, PySem.W.Frag.In.keeps hK k, c⟩
abbrev R : PySem.W.OpenRow := PySem.W.OpenLaw.row PySem.Challenge.rw_truebooks_k36_whole_couples_are_the_leas
def ob (s : PySem.W.SharedT) : AX := obX (HandSHeadRun.getT s)
theorem ob_eq (s : PySem.W.SharedT) : ob s = hk.obs s.abs := congrArg obX (funext (HandSHeadRun.getT_eq s))
def nm0 : List PySem.Str := ["BookError", "TooLong", "BadLetter", "BadTest", "BadBook", "NoLetter", "NoTest", "BadProgram", "OtherAlphabet", "NoCouple", "MOST_MODULUS", "MOST_CORE", "Lot", "is_whole", "least_period", "flag_row", "shape_lot", "told_by", "rim_numbers"]
def nm1 : List PySem.Str := ["empty_lot", "just_lot", "truth_row", "common_modulus", "within", "whole_within", "check_letter", "check_test", "SMALL", "SIGNS", "ROW_SIZES", "MOST_PROCEDURES", "MOST_VARIABLES", "MOST_ROWS", "MOST_DEPTH", "is_sequence", "is_name", "is_variable", "is_letter", "is_test"]
def nm2 : List PySem.Str := ["blocks_of", "form_fault", "call_fault", "row_fault", "rows_fault", "kept_row", "kept_rows", "check_heads", "Program", "is_word", "is_word_row", "row_rises", "checked_letters", "checked_tests", "checked_joins", "checked_meanings", "checked_rows", "Book", "join_two", "letter_place"]
def nm3 : List PySem.Str := ["test_place", "deed_word", "test_word", "step_word", "alarms_at", "check_same_alphabet", "steps_of_book", "rows_of_step", "put_line", "put_killed", "lead_line", "couple_lines", "couples_told", "name_of_line", "call_of_line", "procedure_of_line", "line_program", "couple_program", "Parts", "need_behind"]
def nm4 : List PySem.Str := ["finer", "alike", "match_word", "match_behind", "told_match", "_law_digits", "_law_cell", "_law_letter", "_law_test", "_law_alphabet", "_law_join_all", "_law_below", "_law_led_up", "_law_told", "_law_whole", "_law_steps", "_law_words", "_law_half", "_law_doubled_row", "_law_doubled"]
def nm5 : List PySem.Str := ["_law_renamed", "_law_with_rows", "_law_lifted", "_law_led_anew", "_law_untold_lowered", "_law_strange", "_law_twin", "_law_couples", "_law_small_rows", "_law_small_book", "_law_small_made", "_law_refused", "_law_more_letters", "_law_turned_letters", "_law_more_tests", "_law_turned_tests", "_law_couples_in_form"]
def loose : List PySem.Str := nm0 ++ nm1 ++ nm2 ++ nm3 ++ nm4 ++ nm5
end HT
end

section
set_option maxRecDepth 100000
set_option maxHeartbeats 0
set_option Elab.async false
open PySem PySem.Spec PyProof.Rows L2
namespace HT
noncomputable def whole (w : World) := HandSHeadRun.wholeF (fun p => HandSHeadRun.stepQ (HandSHeadRun.denQ HandSHeadRun.tabQ) p w) HandSHeadRun.fenceQ 7000 R.prog
abbrev qv : Program := PySem.W.view R.prog [0, 127]
def rw_ : String := "special-get-raises"
theorem a1 (w : World) : (HandSHeadRun.wholeF (fun p => HandSHeadRun.stepQ (HandSHeadRun.denQ HandSHeadRun.tabQ) p (w.withFollow "special-get-raises" false)) HandSHeadRun.fenceQ 7000 R.prog).map (fun x => ob x.2) = some (hk.val w) := by kernel_rfl
theorem a2 (w : World) : (HandSHeadRun.wholeF (fun p => HandSHeadRun.stepQ (HandSHeadRun.denQ HandSHeadRun.tabQ) p (w.withFollow "special-get-raises" true)) HandSHeadRun.fenceQ 7000 R.prog).map (fun x => ob x.2) = some (hk.val w) := by kernel_rfl
open HandSHeadRun PySem.W in
theorem b1 (w : World) : (wholeF (fun p => stepQ (denQ tabQ) p (w.withFollow "special-get-raises" false)) fenceQ 7000 R.prog).map (fun x => (looksF R.prog x.1.heap x.2.abs, seenQ qv loose (importedModules R.prog.main.body) (fun s => xlAt qv [] s && recOk R.toRowW.records s) x.2.abs)) = some (true, openGood qv loose) := by kernel_rfl
open HandSHeadRun PySem.W in
theorem b2 (w : World) : (wholeF (fun p => stepQ (denQ tabQ) p (w.withFollow "special-get-raises" true)) fenceQ 7000 R.prog).map (fun x => (looksF R.prog x.1.heap x.2.abs, seenQ qv loose (importedModules R.prog.main.body) (fun s => xlAt qv [] s && recOk R.toRowW.records s) x.2.abs)) = some (true, openGood qv loose) := by kernel_rfl
theorem comb {α β γ δ : Type} {o : Option α} {f : α → β} {g : α → γ × δ} {a : β} {b : γ} {c : δ} (h1 : o.map f = some a) (h2 : o.map g = some (b, c)) : o.map (fun x => ((g x).1, (g x).2, f x)) = some (b, c, a) := by
  cases o with
  | none => cases h1
  | some x =>
    have e1 : f x = a := Option.some.inj h1
    have e2 : g x = (b, c) := Option.some.inj h2
    show some ((g x).1, (g x).2, f x) = _
    rw [e1, e2]
theorem run (w : World) : HandSHeadRun.RunEqI R qv hk ob 7000 loose w := by
  refine PySem.W.byRow2 "special-get-raises" (P := fun w => HandSHeadRun.RunEqI R qv hk ob 7000 loose w) (fun w => ?_) (fun w => ?_) w
  · have h1 := a1 w
    have h2 := b1 w
    show HandSHeadRun.RunEqI R qv hk ob 7000 loose (w.withFollow "special-get-raises" false)
    unfold HandSHeadRun.RunEqI
    generalize HandSHeadRun.wholeF (fun p => HandSHeadRun.stepQ (HandSHeadRun.denQ HandSHeadRun.tabQ) p (w.withFollow "special-get-raises" false)) HandSHeadRun.fenceQ 7000 R.prog = o at h1 h2 ⊢
    exact comb h1 h2
  · have h1 := a2 w
    have h2 := b2 w
    show HandSHeadRun.RunEqI R qv hk ob 7000 loose (w.withFollow "special-get-raises" true)
    unfold HandSHeadRun.RunEqI
    generalize HandSHeadRun.wholeF (fun p => HandSHeadRun.stepQ (HandSHeadRun.denQ HandSHeadRun.tabQ) p (w.withFollow "special-get-raises" true)) HandSHeadRun.fenceQ 7000 R.prog = o at h1 h2 ⊢
    exact comb h1 h2
end HT
end

section
set_option Elab.async false
set_option linter.all false
set_option maxRecDepth 100000
set_option maxHeartbeats 4000000
/-! values as pure data; a state is what is settled (Hs) and all (H) -/
namespace DL
open PySem L2
abbrev Ex := Evl.Ex
inductive DV where
  | non | bl (b : Bool) | int (i : Int) | str (s : Str) | lst (l : List DV) | tup (l : List DV) | rng (lo hi : Int) | ins (C : Addr) (ns : List Str) (l : List DV) | ty (n : String) | cls (C : Addr)
instance : Inhabited DV := ⟨.non⟩
mutual
inductive Rp (H : Hp) : V → DV → Prop
  | non : Rp H .non .non
  | bl (b : Bool) : Rp H (.bl b) (.bl b)
  | int (i : Int) : Rp H (.int i) (.int i)
  | str (x : Str) : Rp H (.str x) (.str x)
  | ty (n : String) : Rp H (.ty n) (.ty n)
  | cls (C : Addr) : Rp H (.ref C) (.cls C)
  | lst {a : Addr} {vs : List V} {ds : List DV} (h : H a = some (.lst vs)) (r : RpA H vs ds) : Rp H (.ref a) (.lst ds)
  | tup {a : Addr} {vs : List V} {ds : List DV} (h : H a = some (.tup vs)) (r : RpA H vs ds) : Rp H (.ref a) (.tup ds)
  | rng {a : Addr} {lo hi : Int} (h : H a = some (.rng lo hi)) : Rp H (.ref a) (.rng lo hi)
  | ins {a C dx : Addr} {fs : List (Str × V)} {ns : List Str} {ds : List DV} (h : H a = some (.ins C dx fs)) (hn : fs.map Prod.fst = ns) (r : RpA H (fs.map Prod.snd) ds) : Rp H (.ref a) (.ins C ns ds)
inductive RpA (H : Hp) : List V → List DV → Prop
  | nil : RpA H [] []
  | cons {v : V} {d : DV} {vs : List V} {ds : List DV} : Rp H v d → RpA H vs ds → RpA H (v :: vs) (d :: ds)
end
mutual
theorem Rp.mono {H H' : Hp} (e : Ex H H') : ∀ {v : V} {d : DV}, Rp H v d → Rp H' v d
  | _, _, .non => .non
  | _, _, .bl b => .bl b
  | _, _, .int i => .int i
  | _, _, .str x => .str x
  | _, _, .ty n => .ty n
  | _, _, .cls C => .cls C
  | _, _, .lst h r => .lst (e _ _ h) (RpA.mono e r)
  | _, _, .tup h r => .tup (e _ _ h) (RpA.mono e r)
  | _, _, .rng h => .rng (e _ _ h)
  | _, _, .ins h hn r => .ins (e _ _ h) hn (RpA.mono e r)
theorem RpA.mono {H H' : Hp} (e : Ex H H') : ∀ {vs : List V} {ds : List DV}, RpA H vs ds → RpA H' vs ds
  | _, _, .nil => .nil
  | _, _, .cons h r => .cons (Rp.mono e h) (RpA.mono e r)
end
section
variable {H : Hp} {v : V} {vs ws : List V} {ds es : List DV}
theorem Rp.int_inv {i : Int} (h : Rp H v (.int i)) : v = .int i := by cases h; rfl
theorem Rp.bl_inv {b : Bool} (h : Rp H v (.bl b)) : v = .bl b := by cases h; rfl
theorem Rp.str_inv {b : Str} (h : Rp H v (.str b)) : v = .str b := by cases h; rfl
theorem Rp.ty_inv {b : String} (h : Rp H v (.ty b)) : v = .ty b := by cases h; rfl
theorem Rp.cls_inv {b : Addr} (h : Rp H v (.cls b)) : v = .ref b := by cases h; rfl
theorem Rp.non_inv (h : Rp H v .non) : v = .non := by cases h; rfl
theorem Rp.lst_inv (h : Rp H v (.lst ds)) : ∃ a vs, v = .ref a ∧ H a = some (.lst vs) ∧ RpA H vs ds := by cases h with | lst h r => exact ⟨_, _, rfl, h, r⟩
theorem Rp.tup_inv (h : Rp H v (.tup ds)) : ∃ a vs, v = .ref a ∧ H a = some (.tup vs) ∧ RpA H vs ds := by cases h with | tup h r => exact ⟨_, _, rfl, h, r⟩
theorem Rp.rng_inv {lo hi : Int} (h : Rp H v (.rng lo hi)) : ∃ a, v = .ref a ∧ H a = some (.rng lo hi) := by cases h with | rng h => exact ⟨_, rfl, h⟩
theorem Rp.ins_inv {C : Addr} {ns : List Str} (h : Rp H v (.ins C ns ds)) : ∃ a dx fs, v = .ref a ∧ H a = some (.ins C dx fs) ∧ fs.map Prod.fst = ns ∧ RpA H (fs.map Prod.snd) ds := by
  cases h with | ins h hn r => exact ⟨_, _, _, rfl, h, hn, r⟩
theorem RpA.len (h : RpA H vs ds) : vs.length = ds.length := by
  induction ds generalizing vs with
  | nil => cases h; rfl
  | cons d ds ih => cases h with | cons h r => rw [List.length_cons, List.length_cons, ih r]
theorem RpA.get {i : Nat} {d : DV} : ∀ {vs : List V} {ds : List DV}, RpA H vs ds → ds[i]? = some d → ∃ v, vs[i]? = some v ∧ Rp H v d := by
  induction i with
  | zero =>
    intro vs ds h e
    cases h with
    | nil => cases e
    | cons h r => cases e; exact ⟨_, rfl, h⟩
  | succ i ih =>
    intro vs ds h e
    cases h with
    | nil => cases e
    | cons h r => exact ih r (by simpa using e)
theorem RpA.getv {i : Nat} {v : V} : ∀ {vs : List V} {ds : List DV}, RpA H vs ds → vs[i]? = some v → ∃ d, ds[i]? = some d ∧ Rp H v d := by
  induction i with
  | zero =>
    intro vs ds h e
    cases h with
    | nil => cases e
    | cons h r => cases e; exact ⟨_, rfl, h⟩
  | succ i ih =>
    intro vs ds h e
    cases h with
    | nil => cases e
    | cons h r => exact ih r (by simpa using e)
theorem RpA.app (h : RpA H vs ds) (k : RpA H ws es) : RpA H (vs ++ ws) (ds ++ es) := by
  induction ds generalizing vs with
  | nil => cases h; exact k
  | cons d ds ih => cases h with | cons h r => exact .cons h (ih r)
theorem RpA.one {d : DV} (h : Rp H v d) : RpA H [v] [d] := .cons h .nil
theorem RpA.take (n : Nat) (h : RpA H vs ds) : RpA H (vs.take n) (ds.take n) := by
  induction n generalizing vs ds with
  | zero => exact .nil
  | succ n ih =>
    cases h with
    | nil => exact .nil
    | cons h r => exact .cons h (ih r)
theorem RpA.drop (n : Nat) (h : RpA H vs ds) : RpA H (vs.drop n) (ds.drop n) := by
  induction n generalizing vs ds with
  | zero => exact h
  | succ n ih =>
    cases h with
    | nil => exact .nil
    | cons h r => exact ih r
theorem RpA.set {d : DV} (hv : Rp H v d) (n : Nat) (h : RpA H vs ds) : RpA H (vs.set n v) (ds.set n d) := by
  induction n generalizing vs ds with
  | zero =>
    cases h with
    | nil => exact .nil
    | cons h r => exact .cons hv r
  | succ n ih =>
    cases h with
    | nil => exact .nil
    | cons h r => exact .cons h (ih r)
theorem RpA.del (n : Nat) (h : RpA H vs ds) : RpA H (vs.eraseIdx n) (ds.eraseIdx n) := by
  induction n generalizing vs ds with
  | zero =>
    cases h with
    | nil => exact .nil
    | cons h r => exact r
  | succ n ih =>
    cases h with
    | nil => exact .nil
    | cons h r => exact .cons h (ih r)
theorem RpA.rev (h : RpA H vs ds) : RpA H vs.reverse ds.reverse := by
  induction ds generalizing vs with
  | nil => cases h; exact .nil
  | cons d ds ih =>
    cases h with
    | cons h r =>
      rw [List.reverse_cons, List.reverse_cons]
      exact (ih r).app (.one h)
theorem RpA.rep (n : Nat) (h : RpA H vs ds) : RpA H (List.replicate n vs).flatten (List.replicate n ds).flatten := by
  induction n with
  | zero => exact .nil
  | succ n ih =>
    rw [List.replicate_succ, List.replicate_succ, List.flatten_cons, List.flatten_cons]
    exact h.app ih
theorem RpA.int_inv : ∀ {xs : List Int} {vs : List V}, RpA H vs (xs.map DV.int) → vs = xs.map V.int
  | [], _, h => by cases h; rfl
  | x :: xs, _, h => by
    cases h with
    | cons h r => rw [Rp.int_inv h, RpA.int_inv r]; rfl
theorem RpA.ints : ∀ xs : List Int, RpA H (xs.map V.int) (xs.map DV.int)
  | [] => .nil
  | x :: xs => .cons (.int x) (RpA.ints xs)
theorem RpA.bl_inv : ∀ {xs : List Bool} {vs : List V}, RpA H vs (xs.map DV.bl) → vs = xs.map V.bl
  | [], _, h => by cases h; rfl
  | x :: xs, _, h => by
    cases h with
    | cons h r => rw [Rp.bl_inv h, RpA.bl_inv r]; rfl
end
/-! ### the state: settled, all -/
structure Go (Hs H Hs' H' : Hp) : Prop where
  h : Ex H H'
  s : Ex Hs Hs'
  i : Ex Hs' H'
  n : ∀ a, H a ≠ none → Hs' a = Hs a
section
variable {Hs H Hs1 H1 Hs2 H2 : Hp}
theorem Go.refl (e : Ex Hs H) : Go Hs H Hs H := ⟨Evl.Ex.refl _, Evl.Ex.refl _, e, fun _ _ => rfl⟩
theorem Go.trans (a : Go Hs H Hs1 H1) (b : Go Hs1 H1 Hs2 H2) : Go Hs H Hs2 H2 :=
  ⟨a.h.trans b.h, a.s.trans b.s, b.i, fun c hc => by
    have h1 : H1 c ≠ none := by
      cases q : H c with
      | none => exact absurd q hc
      | some o => rw [a.h c o q]; simp
    rw [b.n c h1, a.n c hc]⟩
theorem Ex.put (e : Ex Hs H) {p : Addr} {o : HO} (h : H p = none) : Ex Hs (upd H p o) := fun a u q => by
  have := e a u q
  rw [upd_ne (ne_of_none this h)]; exact this
theorem Ex.both (e : Ex Hs H) {p : Addr} {o : HO} : Ex (upd Hs p o) (upd H p o) := fun a u q => by
  by_cases hp : a = p
  · subst hp; rw [upd_same] at q ⊢; exact q
  · rw [upd_ne hp] at q ⊢; exact e a u q
/-- a new object, settled -/
theorem Go.new (e : Ex Hs H) {p : Addr} {o : HO} (h : H p = none) : Go Hs H (upd Hs p o) (upd H p o) :=
  ⟨Evl.Ex.new h, Evl.Ex.new (Evl.fresh_back e h), Ex.both e, fun a ha => by
    have : a ≠ p := fun z => ha (by rw [z]; exact h)
    rw [upd_ne this]⟩
/-- a new object, one's own -/
theorem Go.own (e : Ex Hs H) {p : Addr} {o : HO} (h : H p = none) : Go Hs H Hs (upd H p o) := ⟨Evl.Ex.new h, Evl.Ex.refl _, Ex.put e h, fun _ _ => rfl⟩
theorem Go.free (a : Go Hs H Hs1 H1) {p : Addr} (h : H1 p = none) : H p = none := Evl.fresh_back a.h h
theorem Go.kept (a : Go Hs H Hs1 H1) {p : Addr} {o : HO} (h : H p = some o) (h0 : Hs p = none) : Hs1 p = none := by
  rw [a.n p (by rw [h]; simp)]; exact h0
end
/-! ### slots -/
inductive Mu where
  | lst (ds : List DV) | dic (ks : List (List Key)) | dci (ks : List Int) | obj (C : Addr) (ns : List Str) (ds : List DV)
inductive Sl where
  | any | val (d : DV) | mu (o : Option Addr) (m : Mu)
abbrev Sl.own (ds : List DV) : Sl := .mu none (.lst ds)
abbrev Sl.i (n : Int) : Sl := .val (.int n)
inductive MuOk (Hs : Hp) : HO → Mu → Prop
  | lst {vs : List V} {ds : List DV} (r : RpA Hs vs ds) : MuOk Hs (.lst vs) (.lst ds)
  | dic {ks : List (List Key)} : MuOk Hs (.dT (ks.map fun k => (k, V.bl true))) (.dic ks)
  | dci {ks : List Int} : MuOk Hs (.dK (ks.map fun k => (Sum.inl k, V.bl true))) (.dci ks)
  | obj {C dx : Addr} {fs : List (Str × V)} {ns : List Str} {ds : List DV} (hn : fs.map Prod.fst = ns) (r : RpA Hs (fs.map Prod.snd) ds) : MuOk Hs (.ins C dx fs) (.obj C ns ds)
theorem MuOk.mono {H H' : Hp} (e : Ex H H') {o : HO} {m : Mu} (h : MuOk H o m) : MuOk H' o m := by
  cases h with
  | lst r => exact .lst (r.mono e)
  | dic => exact .dic
  | dci => exact .dci
  | obj hn r => exact .obj hn (r.mono e)
def SlOk (Hi Hs H : Hp) (o : Option (Option V)) : Sl → Prop
  | .any => True
  | .val d => ∃ v, o = some (some v) ∧ Rp Hs v d
  | .mu b m => ∃ a u, o = some (some (.ref a)) ∧ Hi a = none ∧ Hs a = none ∧ H a = some u ∧ MuOk Hs u m ∧ ∀ c, b = some c → c = a
structure Ok (Hj Hi Hs H : Hp) (σ : L2.St) (ρ : List Sl) : Prop where
  go : Go Hj Hi Hs H
  sl : ∀ (i : Nat) (s : Sl), ρ[i]? = some s → SlOk Hi Hs H σ[i]? s
  ap : ∀ (i j : Nat) (b b' : Option Addr) (m m' : Mu) (a : Addr), ρ[i]? = some (.mu b m) → ρ[j]? = some (.mu b' m') → σ[i]? = some (some (.ref a)) → σ[j]? = some (some (.ref a)) → i = j
  len : σ.length = ρ.length
section
variable {Hj Hi Hs H Hs1 H1 : Hp} {σ : L2.St} {ρ : List Sl}
theorem Ok.up (k : Ok Hj Hi Hs H σ ρ) (g : Go Hs H Hs1 H1) : Ok Hj Hi Hs1 H1 σ ρ where
  go := k.go.trans g
  sl := fun i s e => by
    have q := k.sl i s e
    cases s with
    | any => trivial
    | val d => obtain ⟨v, e, r⟩ := q; exact ⟨v, e, r.mono g.s⟩
    | mu b m => obtain ⟨a, u, e, h1, h2, h3, h4, h5⟩ := q; exact ⟨a, u, e, h1, g.kept h3 h2, g.h a u h3, h4.mono g.s, h5⟩
  ap := k.ap
  len := k.len
theorem Ok.put (k : Ok Hj Hi Hs H σ ρ) (i : Nat) {v : V} {d : DV} (r : Rp Hs v d) : Ok Hj Hi Hs H (σ.set i (some v)) (ρ.set i (.val d)) where
  go := k.go
  sl := fun j s e => by
    by_cases hj : i = j
    · subst hj
      have hl : i < ρ.length := by
        have := (List.getElem?_eq_some_iff.mp e).1
        rwa [List.length_set] at this
      rw [List.getElem?_set_self hl] at e
      cases e
      exact ⟨v, List.getElem?_set_self (by rw [k.len]; exact hl), r⟩
    · rw [List.getElem?_set_ne hj] at e ⊢
      exact k.sl j s e
  ap := fun a b z1 z2 m m' p ea eb sa sb => by
    have na : i ≠ a := fun z => by
      subst z
      have hl : i < ρ.length := by
        have := (List.getElem?_eq_some_iff.mp ea).1
        rwa [List.length_set] at this
      rw [List.getElem?_set_self hl] at ea
      cases ea
    have nb : i ≠ b := fun z => by
      subst z
      have hl : i < ρ.length := by
        have := (List.getElem?_eq_some_iff.mp eb).1
        rwa [List.length_set] at this
      rw [List.getElem?_set_self hl] at eb
      cases eb
    rw [List.getElem?_set_ne na] at ea sa
    rw [List.getElem?_set_ne nb] at eb sb
    exact k.ap a b z1 z2 m m' p ea eb sa sb
  len := by rw [List.length_set, List.length_set, k.len]
theorem Ok.drop (k : Ok Hj Hi Hs H σ ρ) (i : Nat) (x : Option V) : Ok Hj Hi Hs H (σ.set i x) (ρ.set i .any) where
  go := k.go
  sl := fun j s e => by
    by_cases hj : i = j
    · subst hj
      have hl : i < ρ.length := by
        have := (List.getElem?_eq_some_iff.mp e).1
        rwa [List.length_set] at this
      rw [List.getElem?_set_self hl] at e
      cases e
      trivial
    · rw [List.getElem?_set_ne hj] at e ⊢
      exact k.sl j s e
  ap := fun a b z1 z2 m m' p ea eb sa sb => by
    have na : i ≠ a := fun z => by
      subst z
      have hl : i < ρ.length := by
        have := (List.getElem?_eq_some_iff.mp ea).1
        rwa [List.length_set] at this
      rw [List.getElem?_set_self hl] at ea
      cases ea
    have nb : i ≠ b := fun z => by
      subst z
      have hl : i < ρ.length := by
        have := (List.getElem?_eq_some_iff.mp eb).1
        rwa [List.length_set] at this
      rw [List.getElem?_set_self hl] at eb
      cases eb
    rw [List.getElem?_set_ne na] at ea sa
    rw [List.getElem?_set_ne nb] at eb sb
    exact k.ap a b z1 z2 m m' p ea eb sa sb
  len := by rw [List.length_set, List.length_set, k.len]
/-- a new object at a name, one's own -/
theorem Ok.putM (k : Ok Hj Hi Hs H σ ρ) (i : Nat) {p : Addr} {u : HO} {m : Mu} (hn : Hs p = none) (hh : H p = some u) (hi : Hi p = none) (r : MuOk Hs u m)
    (hap : ∀ (j : Nat) (b : Option Addr) (m' : Mu), ρ[j]? = some (.mu b m') → σ[j]? = some (some (.ref p)) → j = i) : Ok Hj Hi Hs H (σ.set i (some (.ref p))) (ρ.set i (.mu none m)) where
  go := k.go
  sl := fun j s e => by
    by_cases hj : i = j
    · subst hj
      have hl : i < ρ.length := by
        have := (List.getElem?_eq_some_iff.mp e).1
        rwa [List.length_set] at this
      rw [List.getElem?_set_self hl] at e
      cases e
      exact ⟨p, u, List.getElem?_set_self (by rw [k.len]; exact hl), hi, hn, hh, r, fun c z => by cases z⟩
    · rw [List.getElem?_set_ne hj] at e ⊢
      exact k.sl j s e
  ap := fun a b z1 z2 m1 m2 q ea eb sa sb => by
    by_cases ha : i = a
    · by_cases hb : i = b
      · exact ha.symm.trans hb
      · rw [List.getElem?_set_ne hb] at eb sb
        subst ha
        have hl : i < ρ.length := by
          have := (List.getElem?_eq_some_iff.mp ea).1
          rwa [List.length_set] at this
        rw [List.getElem?_set_self (by rw [k.len]; exact hl)] at sa
        cases sa
        exact (hap b z2 m2 eb sb).symm
    · rw [List.getElem?_set_ne ha] at ea sa
      by_cases hb : i = b
      · subst hb
        have hl : i < ρ.length := by
          have := (List.getElem?_eq_some_iff.mp eb).1
          rwa [List.length_set] at this
        rw [List.getElem?_set_self (by rw [k.len]; exact hl)] at sb
        cases sb
        exact hap a z1 m1 ea sa
      · rw [List.getElem?_set_ne hb] at eb sb
        exact k.ap a b z1 z2 m1 m2 q ea eb sa sb
  len := by rw [List.length_set, List.length_set, k.len]
/-- one's own object is changed -/
theorem Ok.chg (k : Ok Hj Hi Hs H σ ρ) {i : Nat} {b : Option Addr} {m m' : Mu} {u : HO} {a : Addr} (e : ρ[i]? = some (.mu b m)) (ea : σ[i]? = some (some (.ref a))) (r : MuOk Hs u m') : Ok Hj Hi Hs (upd H a u) σ (ρ.set i (.mu b m')) := by
  obtain ⟨a', u0, ea', h1, h2, h3, h4, h5⟩ := k.sl i _ e
  rw [ea] at ea'
  cases ea'
  have hl : i < ρ.length := (List.getElem?_eq_some_iff.mp e).1
  refine ⟨⟨Evl.Ex.mut k.go.h h1, k.go.s, fun b o q => ?_, k.go.n⟩, fun j s ej => ?_, fun x y z1 z2 m1 m2 p ex ey sx sy => ?_, by rw [List.length_set]; exact k.len⟩
  · have nb : b ≠ a := fun z => by rw [z, h2] at q; cases q
    rw [upd_ne nb]; exact k.go.i b o q
  · by_cases hj : i = j
    · subst hj
      rw [List.getElem?_set_self hl] at ej
      cases ej
      exact ⟨a, u, ea, h1, h2, upd_same, r, h5⟩
    · rw [List.getElem?_set_ne hj] at ej
      have q := k.sl j s ej
      cases s with
      | any => trivial
      | val d => exact q
      | mu b2 m2 =>
        obtain ⟨c, u2, eb, g1, g2, g3, g4, g5⟩ := q
        have nb : c ≠ a := fun z => by
          subst z
          exact hj (k.ap i j _ _ m m2 c e ej ea eb)
        exact ⟨c, u2, eb, g1, g2, by rw [upd_ne nb]; exact g3, g4, g5⟩
  · by_cases hx : i = x
    · by_cases hy : i = y
      · exact hx.symm.trans hy
      · rw [List.getElem?_set_ne hy] at ey
        subst hx
        exact k.ap i y _ _ m m2 p e ey sx sy
    · rw [List.getElem?_set_ne hx] at ex
      by_cases hy : i = y
      · subst hy
        exact k.ap x i _ _ m1 m p ex e sx sy
      · rw [List.getElem?_set_ne hy] at ey
        exact k.ap x y z1 z2 m1 m2 p ex ey sx sy
/-- what a thing of one's own becomes when it is settled -/
inductive Frz : Mu → DV → Prop
  | lst (ds : List DV) : Frz (.lst ds) (.lst ds)
  | obj (C : Addr) (ns : List Str) (ds : List DV) : Frz (.obj C ns ds) (.ins C ns ds)
theorem frz_ok {a : Addr} {u : HO} {m : Mu} {d : DV} (f : Frz m d) (r : MuOk Hs u m) (h2 : Hs a = none) : Rp (upd Hs a u) (.ref a) d := by
  have e : Ex Hs (upd Hs a u) := Evl.Ex.new h2
  cases f with
  | lst ds => cases r with | lst r => exact .lst upd_same (r.mono e)
  | obj C ns ds => cases r with | obj hn r => exact .ins upd_same hn (r.mono e)
theorem Ok.frz (k : Ok Hj Hi Hs H σ ρ) {i : Nat} {b : Option Addr} {m : Mu} {d : DV} (e : ρ[i]? = some (.mu b m)) (f : Frz m d) : ∃ Hs', Ok Hj Hi Hs' H σ (ρ.set i (.val d)) := by
  obtain ⟨a, u, ea, h1, h2, h3, h4, _⟩ := k.sl i _ e
  have ee : Ex Hs (upd Hs a u) := Evl.Ex.new h2
  have hl : i < ρ.length := (List.getElem?_eq_some_iff.mp e).1
  refine ⟨upd Hs a u, ⟨k.go.h, k.go.s.trans ee, fun b o q => ?_, fun b hb => ?_⟩, fun j s ej => ?_, fun x y z1 z2 m1 m2 p ex ey sx sy => ?_, by rw [List.length_set]; exact k.len⟩
  · by_cases hb : b = a
    · subst hb; rw [upd_same] at q; cases q; exact h3
    · rw [upd_ne hb] at q; exact k.go.i b o q
  · have nb : b ≠ a := fun z => hb (by rw [z]; exact h1)
    rw [upd_ne nb]; exact k.go.n b hb
  · by_cases hj : i = j
    · subst hj
      rw [List.getElem?_set_self hl] at ej
      cases ej
      exact ⟨.ref a, ea, frz_ok f h4 h2⟩
    · rw [List.getElem?_set_ne hj] at ej
      have q := k.sl j s ej
      cases s with
      | any => trivial
      | val d => obtain ⟨v, e, r⟩ := q; exact ⟨v, e, r.mono ee⟩
      | mu b2 m2 =>
        obtain ⟨c, u2, eb, g1, g2, g3, g4, g5⟩ := q
        have nb : c ≠ a := fun z => by
          subst z
          exact hj (k.ap i j _ _ m m2 c e ej ea eb)
        exact ⟨c, u2, eb, g1, by rw [upd_ne nb]; exact g2, g3, g4.mono ee, g5⟩
  · have nx : i ≠ x := fun z => by
      subst z
      rw [List.getElem?_set_self hl] at ex
      cases ex
    have ny : i ≠ y := fun z => by
      subst z
      rw [List.getElem?_set_self hl] at ey
      cases ey
    rw [List.getElem?_set_ne nx] at ex
    rw [List.getElem?_set_ne ny] at ey
    exact k.ap x y z1 z2 m1 m2 p ex ey sx sy
theorem Ok.any (k : Ok Hj Hi Hs H σ ρ) (i : Nat) : Ok Hj Hi Hs H σ (ρ.set i .any) where
  go := k.go
  sl := fun j s e => by
    by_cases hj : i = j
    · subst hj
      have hl : i < ρ.length := by
        have := (List.getElem?_eq_some_iff.mp e).1
        rwa [List.length_set] at this
      rw [List.getElem?_set_self hl] at e
      cases e
      trivial
    · rw [List.getElem?_set_ne hj] at e
      exact k.sl j s e
  ap := fun a b z1 z2 m m' p ea eb sa sb => by
    have na : i ≠ a := fun z => by
      subst z
      have hl : i < ρ.length := by
        have := (List.getElem?_eq_some_iff.mp ea).1
        rwa [List.length_set] at this
      rw [List.getElem?_set_self hl] at ea
      cases ea
    have nb : i ≠ b := fun z => by
      subst z
      have hl : i < ρ.length := by
        have := (List.getElem?_eq_some_iff.mp eb).1
        rwa [List.length_set] at this
      rw [List.getElem?_set_self hl] at eb
      cases eb
    rw [List.getElem?_set_ne na] at ea
    rw [List.getElem?_set_ne nb] at eb
    exact k.ap a b z1 z2 m m' p ea eb sa sb
  len := by rw [List.length_set, k.len]
end
/-- less is known -/
inductive Wk : List Sl → List Sl → Prop
  | nil : Wk [] []
  | same {s : Sl} {ρ ρ' : List Sl} : Wk ρ ρ' → Wk (s :: ρ) (s :: ρ')
  | drop {s : Sl} {ρ ρ' : List Sl} : Wk ρ ρ' → Wk (s :: ρ) (.any :: ρ')
  | frz {b : Option Addr} {ds : List DV} {ρ ρ' : List Sl} : Wk ρ ρ' → Wk (.mu b (.lst ds) :: ρ) (.val (.lst ds) :: ρ')
theorem Wk.refl : ∀ ρ, Wk ρ ρ
  | [] => .nil
  | _ :: r => .same (Wk.refl r)
theorem mid_set {α : Type} (p : List α) (s t : α) (r : List α) : (p ++ s :: r).set p.length t = p ++ t :: r := by
  induction p with
  | nil => rfl
  | cons a p ih => rw [List.length_cons, List.cons_append, List.set_cons_succ, ih]; rfl
theorem mid_get {α : Type} (p : List α) (s : α) (r : List α) : (p ++ s :: r)[p.length]? = some s := by simp
theorem wk_ok {Hj Hi H : Hp} {σ : L2.St} {ρ ρ' : List Sl} (w : Wk ρ ρ') : ∀ (p : List Sl) (Hs : Hp), Ok Hj Hi Hs H σ (p ++ ρ) → ∃ Hs', Ok Hj Hi Hs' H σ (p ++ ρ') := by
  induction w with
  | nil => exact fun p Hs k => ⟨Hs, k⟩
  | @same s ρ ρ' w ih =>
    intro p Hs k
    have := ih (p ++ [s]) Hs (by rw [List.append_assoc]; exact k)
    rw [List.append_assoc] at this
    exact this
  | @drop s ρ ρ' w ih =>
    intro p Hs k
    have k2 := k.any p.length
    rw [mid_set] at k2
    have := ih (p ++ [.any]) Hs (by rw [List.append_assoc]; exact k2)
    rw [List.append_assoc] at this
    exact this
  | @frz b ds ρ ρ' w ih =>
    intro p Hs k
    obtain ⟨Hs', k2⟩ := k.frz (mid_get p _ _) (.lst ds)
    rw [mid_set] at k2
    have := ih (p ++ [.val (.lst ds)]) Hs' (by rw [List.append_assoc]; exact k2)
    rw [List.append_assoc] at this
    exact this
theorem Ok.wk {Hj Hi Hs H : Hp} {σ : L2.St} {ρ ρ' : List Sl} (k : Ok Hj Hi Hs H σ ρ) (w : Wk ρ ρ') : ∃ Hs', Ok Hj Hi Hs' H σ ρ' := wk_ok w [] Hs k
end DL
end

section
set_option Elab.async false
set_option linter.all false
set_option maxRecDepth 100000
set_option maxHeartbeats 4000000
namespace DL
open PySem L2
/-! ### what an expression is worth -/
def Rv (Hs H : Hp) (v : V) (d : DV) : Prop := Rp Hs v d ∨ ∃ a vs ds, v = .ref a ∧ d = .lst ds ∧ H a = some (.lst vs) ∧ RpA Hs vs ds
inductive RvA (Hs H : Hp) : List V → List DV → Prop
  | nil : RvA Hs H [] []
  | cons {v : V} {d : DV} {vs : List V} {ds : List DV} : Rv Hs H v d → RvA Hs H vs ds → RvA Hs H (v :: vs) (d :: ds)
section
variable {Hs H Hs1 H1 : Hp} {v : V} {d : DV} {vs : List V} {ds : List DV}
theorem Rv.up (g : Go Hs H Hs1 H1) (h : Rv Hs H v d) : Rv Hs1 H1 v d := by
  rcases h with h | ⟨a, vs, ds, e, e2, h, r⟩
  · exact .inl (h.mono g.s)
  · exact .inr ⟨a, vs, ds, e, e2, g.h a _ h, r.mono g.s⟩
theorem RvA.up (g : Go Hs H Hs1 H1) (h : RvA Hs H vs ds) : RvA Hs1 H1 vs ds := by
  induction h with
  | nil => exact .nil
  | cons h _ ih => exact .cons (h.up g) ih
theorem Rv.lst (e : Ex Hs H) (h : Rv Hs H v (.lst ds)) : ∃ a vs, v = .ref a ∧ H a = some (.lst vs) ∧ RpA Hs vs ds := by
  rcases h with h | ⟨a, vs, ds', e1, e2, h, r⟩
  · obtain ⟨a, vs, e1, h, r⟩ := h.lst_inv
    exact ⟨a, vs, e1, e a _ h, r⟩
  · cases e2
    exact ⟨a, vs, e1, h, r⟩
theorem Rv.tup (e : Ex Hs H) (h : Rv Hs H v (.tup ds)) : ∃ a vs, v = .ref a ∧ H a = some (.tup vs) ∧ RpA Hs vs ds := by
  rcases h with h | ⟨a, vs, ds', e1, e2, h, r⟩
  · obtain ⟨a, vs, e1, h, r⟩ := h.tup_inv
    exact ⟨a, vs, e1, e a _ h, r⟩
  · cases e2
theorem Rv.int {i : Int} (h : Rv Hs H v (.int i)) : v = .int i := by
  rcases h with h | ⟨a, vs, ds', e1, e2, h, r⟩
  · exact h.int_inv
  · cases e2
theorem Rv.bl {i : Bool} (h : Rv Hs H v (.bl i)) : v = .bl i := by
  rcases h with h | ⟨a, vs, ds', e1, e2, h, r⟩
  · exact h.bl_inv
  · cases e2
theorem Rv.str {i : Str} (h : Rv Hs H v (.str i)) : v = .str i := by
  rcases h with h | ⟨a, vs, ds', e1, e2, h, r⟩
  · exact h.str_inv
  · cases e2
theorem Rv.ty {i : String} (h : Rv Hs H v (.ty i)) : v = .ty i := by
  rcases h with h | ⟨a, vs, ds', e1, e2, h, r⟩
  · exact h.ty_inv
  · cases e2
theorem Rv.cls {i : Addr} (h : Rv Hs H v (.cls i)) : v = .ref i := by
  rcases h with h | ⟨a, vs, ds', e1, e2, h, r⟩
  · exact h.cls_inv
  · cases e2
theorem Rv.non (h : Rv Hs H v .non) : v = .non := by
  rcases h with h | ⟨a, vs, ds', e1, e2, h, r⟩
  · exact h.non_inv
  · cases e2
theorem Rv.ins {C : Addr} {ns : List Str} (h : Rv Hs H v (.ins C ns ds)) : Rp Hs v (.ins C ns ds) := by
  rcases h with h | ⟨a, vs, ds', e1, e2, h, r⟩
  · exact h
  · cases e2
theorem Rv.rng {lo hi : Int} (h : Rv Hs H v (.rng lo hi)) : Rp Hs v (.rng lo hi) := by
  rcases h with h | ⟨a, vs, ds', e1, e2, h, r⟩
  · exact h
  · cases e2
end
def DE (te : TE) (ρ : List Sl) (d : DV) : Prop := ∀ Hj Hi Hs H σ, Ok Hj Hi Hs H σ ρ → ∀ Q : VK, (∀ v Hs' H', Go Hs H Hs' H' → Rp Hs' v d → Q v H') → te σ H Q
def DQ (te : TE) (ρ : List Sl) (d : DV) : Prop := ∀ Hj Hi Hs H σ, Ok Hj Hi Hs H σ ρ → ∀ Q : VK, (∀ v Hs' H', Go Hs H Hs' H' → Rv Hs' H' v d → Q v H') → te σ H Q
/-- a new list -/
def DN (te : TE) (ρ : List Sl) (ds : List DV) : Prop := ∀ Hj Hi Hs H σ, Ok Hj Hi Hs H σ ρ → ∀ Q : VK, (∀ p vs Hs' H', Go Hs H Hs' H' → H p = none → Hs' p = none → H' p = some (.lst vs) → RpA Hs' vs ds → Q (.ref p) H') → te σ H Q
def DT (tt : TT) (ρ : List Sl) (b : Bool) : Prop := ∀ Hj Hi Hs H σ, Ok Hj Hi Hs H σ ρ → ∀ Q : Bool → Hp → Prop, (∀ Hs' H', Go Hs H Hs' H' → Q b H') → tt σ H Q
def DA (ta : TA) (ρ : List Sl) (ds : List DV) : Prop := ∀ Hj Hi Hs H σ, Ok Hj Hi Hs H σ ρ → ∀ Q : List V → Hp → Prop, (∀ vs Hs' H', Go Hs H Hs' H' → RpA Hs' vs ds → Q vs H') → ta σ H Q
def DB (ta : TA) (ρ : List Sl) (ds : List DV) : Prop := ∀ Hj Hi Hs H σ, Ok Hj Hi Hs H σ ρ → ∀ Q : List V → Hp → Prop, (∀ vs Hs' H', Go Hs H Hs' H' → RvA Hs' H' vs ds → Q vs H') → ta σ H Q
def DO (to : TO) (ρ : List Sl) (o : Option Int) : Prop := ∀ Hj Hi Hs H σ, Ok Hj Hi Hs H σ ρ → ∀ Q : Option Int → Hp → Prop, (∀ Hs' H', Go Hs H Hs' H' → Q o H') → to σ H Q
def RO (r : R2) (x y z : DV) : Prop := ∀ Hs H vx vy, Ex Hs H → Rv Hs H vx x → Rv Hs H vy y → ∀ Q : VK, (∀ v Hs' H', Go Hs H Hs' H' → Rp Hs' v z → Q v H') → r vx vy H Q
def RN (r : R2) (x y : DV) (ds : List DV) : Prop := ∀ Hs H vx vy, Ex Hs H → Rv Hs H vx x → Rv Hs H vy y → ∀ Q : VK, (∀ p vs Hs' H', Go Hs H Hs' H' → H p = none → Hs' p = none → H' p = some (.lst vs) → RpA Hs' vs ds → Q (.ref p) H') → r vx vy H Q
def RU (r : V → Hp → VK → Prop) (x z : DV) : Prop := ∀ Hs H vx, Ex Hs H → Rv Hs H vx x → ∀ Q : VK, (∀ v Hs' H', Go Hs H Hs' H' → Rp Hs' v z → Q v H') → r vx H Q
def RC (r : List V → Hp → VK → Prop) (xs : List DV) (z : DV) : Prop := ∀ Hs H vs, Ex Hs H → RvA Hs H vs xs → ∀ Q : VK, (∀ v Hs' H', Go Hs H Hs' H' → Rp Hs' v z → Q v H') → r vs H Q
def RCN (r : List V → Hp → VK → Prop) (xs : List DV) (ds : List DV) : Prop := ∀ Hs H vs, Ex Hs H → RvA Hs H vs xs → ∀ Q : VK, (∀ p vs Hs' H', Go Hs H Hs' H' → H p = none → Hs' p = none → H' p = some (.lst vs) → RpA Hs' vs ds → Q (.ref p) H') → r vs H Q
def RM (r : V → List V → Hp → VK → Prop) (x : DV) (xs : List DV) (z : DV) : Prop := ∀ Hs H v vs, Ex Hs H → Rv Hs H v x → RvA Hs H vs xs → ∀ Q : VK, (∀ v Hs' H', Go Hs H Hs' H' → Rp Hs' v z → Q v H') → r v vs H Q
section
variable {K : PySem.W.Frag} {ρ : List Sl} {ta tb tc te : TE} {x y z d : DV} {xs ds es : List DV} {r r' : R2} {t u : TT} {a b : Bool} {i : Nat}
theorem de_var (h : ρ[i]? = some (.val d)) : DE (tVar i) ρ d := fun _ _ _ _ _ k _ q => by
  obtain ⟨v, e, r⟩ := k.sl i _ h
  exact ⟨v, e, q v _ _ (Go.refl k.go.i) r⟩
theorem dq_own {ob : Option Addr} (h : ρ[i]? = some (.mu ob (.lst ds))) : DQ (tVar i) ρ (.lst ds) := fun _ _ _ _ _ k _ q => by
  obtain ⟨p, u, e, h1, h2, h3, r, _⟩ := k.sl i _ h
  cases r with
  | lst r => exact ⟨.ref p, e, q _ _ _ (Go.refl k.go.i) (.inr ⟨p, _, _, rfl, rfl, h3, r⟩)⟩
theorem dq_of (h : DE te ρ d) : DQ te ρ d := fun _ _ _ _ _ k _ q => h _ _ _ _ _ k _ fun v _ _ g r => q v _ _ g (.inl r)
theorem dn_dq (h : DN te ρ ds) : DQ te ρ (.lst ds) := fun _ _ _ _ _ k _ q => h _ _ _ _ _ k _ fun p vs _ _ g _ _ hp r => q _ _ _ g (.inr ⟨p, vs, ds, rfl, rfl, hp, r⟩)
theorem settle {Hs H Hs' H' : Hp} {p : Addr} {o : HO} (g : Go Hs H Hs' H') (h0 : H p = none) (h1 : Hs' p = none) (h2 : H' p = some o) : Go Hs H (upd Hs' p o) H' := by
  refine ⟨g.h, g.s.trans (Evl.Ex.new h1), fun a u q => ?_, fun a ha => ?_⟩
  · by_cases e : a = p
    · subst e; rw [upd_same] at q; cases q; exact h2
    · rw [upd_ne e] at q; exact g.i a u q
  · have : a ≠ p := fun e => ha (by rw [e]; exact h0)
    rw [upd_ne this]; exact g.n a ha
theorem dn_de (h : DN te ρ ds) : DE te ρ (.lst ds) := fun _ _ _ _ _ k _ q => h _ _ _ _ _ k _ fun p vs Hs' H' g h0 h1 h2 r =>
  q _ _ _ (settle g h0 h1 h2) (.lst upd_same (r.mono (Evl.Ex.new h1)))
theorem de_int {n : Int} : DE (tC (.int n)) ρ (.int n) := fun _ _ _ _ _ k _ q => q _ _ _ (Go.refl k.go.i) (.int n)
theorem de_bl {n : Bool} : DE (tC (.bl n)) ρ (.bl n) := fun _ _ _ _ _ k _ q => q _ _ _ (Go.refl k.go.i) (.bl n)
theorem de_str {n : Str} : DE (tC (.str n)) ρ (.str n) := fun _ _ _ _ _ k _ q => q _ _ _ (Go.refl k.go.i) (.str n)
theorem de_ty {n : String} : DE (tC (.ty n)) ρ (.ty n) := fun _ _ _ _ _ k _ q => q _ _ _ (Go.refl k.go.i) (.ty n)
theorem de_cls {n : Addr} : DE (tC (.ref n)) ρ (.cls n) := fun _ _ _ _ _ k _ q => q _ _ _ (Go.refl k.go.i) (.cls n)
theorem de_non : DE (tC .non) ρ .non := fun _ _ _ _ _ k _ q => q _ _ _ (Go.refl k.go.i) .non
theorem de_is (h : DE te ρ x) (e : x = y) : DE te ρ y := e ▸ h
theorem dq_is (h : DQ te ρ x) (e : x = y) : DQ te ρ y := e ▸ h
theorem dn_is (h : DN te ρ ds) (e : ds = es) : DN te ρ es := e ▸ h
theorem dt_is (h : DT t ρ a) (e : a = b) : DT t ρ b := e ▸ h
theorem de_op (ha : DQ ta ρ x) (hb : DQ tb ρ y) (hr : RO r x y z) : DE (tOp r ta tb) ρ z := fun _ _ _ _ _ k _ q =>
  ha _ _ _ _ _ k _ fun vx _ _ g1 rx => hb _ _ _ _ _ (k.up g1) _ fun vy _ _ g2 ry => hr _ _ vx vy g2.i (rx.up g2) ry _ fun v _ _ g3 rz => q v _ _ ((g1.trans g2).trans g3) rz
theorem dn_op (ha : DQ ta ρ x) (hb : DQ tb ρ y) (hr : RN r x y ds) : DN (tOp r ta tb) ρ ds := fun _ _ _ _ _ k _ q =>
  ha _ _ _ _ _ k _ fun vx _ _ g1 rx => hb _ _ _ _ _ (k.up g1) _ fun vy _ _ g2 ry => hr _ _ vx vy g2.i (rx.up g2) ry _ fun p vs _ _ g3 h0 h1 h2 rz => q p vs _ _ ((g1.trans g2).trans g3) ((g1.trans g2).free h0) h1 h2 rz
theorem de_un {r : V → Hp → VK → Prop} (ha : DQ ta ρ x) (hr : RU r x z) : DE (tUn r ta) ρ z := fun _ _ _ _ _ k _ q =>
  ha _ _ _ _ _ k _ fun vx _ _ g1 rx => hr _ _ vx g1.i rx _ fun v _ _ g3 rz => q v _ _ (g1.trans g3) rz
theorem ro_l (h : RO r x y z) : RO (fun x y H Q => r x y H Q ∨ r' x y H Q) x y z := fun _ _ _ _ e a b _ q => .inl (h _ _ _ _ e a b _ q)
theorem ro_r (h : RO r' x y z) : RO (fun x y H Q => r x y H Q ∨ r' x y H Q) x y z := fun _ _ _ _ e a b _ q => .inr (h _ _ _ _ e a b _ q)
theorem rn_l (h : RN r x y ds) : RN (fun x y H Q => r x y H Q ∨ r' x y H Q) x y ds := fun _ _ _ _ e a b _ q => .inl (h _ _ _ _ e a b _ q)
theorem rn_r (h : RN r' x y ds) : RN (fun x y H Q => r x y H Q ∨ r' x y H Q) x y ds := fun _ _ _ _ e a b _ q => .inr (h _ _ _ _ e a b _ q)
theorem ro_i0 {h : Int → Int → Int} {i j : Int} : RO (rI0 fun i j => .int (h i j)) (.int i) (.int j) (.int (h i j)) := fun _ _ _ _ e a b _ q => ⟨i, j, a.int, b.int, q _ _ _ (Go.refl e) (.int _)⟩
theorem ro_b0 {h : Int → Int → Bool} {i j : Int} : RO (rI0 fun i j => .bl (h i j)) (.int i) (.int j) (.bl (h i j)) := fun _ _ _ _ e a b _ q => ⟨i, j, a.int, b.int, q _ _ _ (Go.refl e) (.bl _)⟩
theorem ro_i {C : Int → Int → Prop} {h : Int → Int → Int} {i j : Int} (hc : C i j) : RO (rI C fun i j => .int (h i j)) (.int i) (.int j) (.int (h i j)) := fun _ _ _ _ e a b _ q => ⟨i, j, a.int, b.int, hc, q _ _ _ (Go.refl e) (.int _)⟩
theorem ru_i {g : Int → Int} {i : Int} : RU (rU fun i => .int (g i)) (.int i) (.int (g i)) := fun _ _ _ e a _ q => ⟨i, a.int, q _ _ _ (Go.refl e) (.int _)⟩
theorem dec_int {i j : Int} : decide (V.int i = V.int j) = decide (i = j) := decide_eq_decide.mpr ⟨fun h => by injection h, fun h => by rw [h]⟩
theorem dec_bl {i j : Bool} : decide (V.bl i = V.bl j) = decide (i = j) := decide_eq_decide.mpr ⟨fun h => by injection h, fun h => by rw [h]⟩
theorem dec_str {i j : Str} : decide (V.str i = V.str j) = decide (i = j) := decide_eq_decide.mpr ⟨fun h => by injection h, fun h => by rw [h]⟩
theorem ro_eqI {i j : Int} : RO rEq (.int i) (.int j) (.bl (decide (i = j))) := fun _ _ _ _ e a b _ q => by
  rw [a.int, b.int]; exact ⟨rfl, q _ _ _ (Go.refl e) (by rw [dec_int]; exact .bl _)⟩
theorem ro_neI {i j : Int} : RO rNe (.int i) (.int j) (.bl (!decide (i = j))) := fun _ _ _ _ e a b _ q => by
  rw [a.int, b.int]; exact ⟨rfl, q _ _ _ (Go.refl e) (by rw [dec_int]; exact .bl _)⟩
theorem ro_eqB {i j : Bool} : RO rEq (.bl i) (.bl j) (.bl (decide (i = j))) := fun _ _ _ _ e a b _ q => by
  rw [a.bl, b.bl]; exact ⟨rfl, q _ _ _ (Go.refl e) (by rw [dec_bl]; exact .bl _)⟩
theorem ro_neB {i j : Bool} : RO rNe (.bl i) (.bl j) (.bl (!decide (i = j))) := fun _ _ _ _ e a b _ q => by
  rw [a.bl, b.bl]; exact ⟨rfl, q _ _ _ (Go.refl e) (by rw [dec_bl]; exact .bl _)⟩
theorem ro_eqS {i j : Str} : RO rEq (.str i) (.str j) (.bl (decide (i = j))) := fun _ _ _ _ e a b _ q => by
  rw [a.str, b.str]; exact ⟨rfl, q _ _ _ (Go.refl e) (by rw [dec_str]; exact .bl _)⟩
theorem ro_neS {i j : Str} : RO rNe (.str i) (.str j) (.bl (!decide (i = j))) := fun _ _ _ _ e a b _ q => by
  rw [a.str, b.str]; exact ⟨rfl, q _ _ _ (Go.refl e) (by rw [dec_str]; exact .bl _)⟩
/-! subscripts -/
theorem atI_rp {H : Hp} {vs : List V} {ds : List DV} {i : Int} {d : DV} (r : RpA H vs ds) (h0 : 0 ≤ i) (h : ds[i.toNat]? = some d) : ∃ v, atI vs i = some v ∧ Rp H v d := by
  obtain ⟨v, e, rv⟩ := r.get h
  refine ⟨v, ?_, rv⟩
  have := atI_nat e
  rwa [Int.toNat_of_nonneg h0] at this
theorem ro_ixL {i : Int} (h0 : 0 ≤ i) (h : ds[i.toNat]? = some d) : RO (rIxL K) (.lst ds) (.int i) d := fun _ _ _ _ e a b _ q => by
  obtain ⟨p, vs, ea, hp, r⟩ := a.lst e
  obtain ⟨v, ev, rv⟩ := atI_rp r h0 h
  exact ⟨p, vs, i, v, ea, b.int, .inl (.inl hp), ev, q _ _ _ (Go.refl e) rv⟩
theorem ro_ixT {i : Int} (h0 : 0 ≤ i) (h : ds[i.toNat]? = some d) : RO (rIxT K) (.tup ds) (.int i) d := fun _ _ _ _ e a b _ q => by
  obtain ⟨p, vs, ea, hp, r⟩ := a.tup e
  obtain ⟨v, ev, rv⟩ := atI_rp r h0 h
  exact ⟨p, vs, i, v, ea, b.int, .inl (.inl hp), ev, q _ _ _ (Go.refl e) rv⟩
theorem ro_xL {i : Int} (h0 : 0 ≤ i) (h : ds[i.toNat]? = some d) : RO (rIx K) (.lst ds) (.int i) d := fun _ _ _ _ e a b _ q => .inl (ro_ixL h0 h _ _ _ _ e a b _ q)
theorem ro_xT {i : Int} (h0 : 0 ≤ i) (h : ds[i.toNat]? = some d) : RO (rIx K) (.tup ds) (.int i) d := fun _ _ _ _ e a b _ q => .inr (.inl (ro_ixT h0 h _ _ _ _ e a b _ q))
/-- an item of a list made by a map -/
theorem get_map {α : Type} [Inhabited α] {f : α → DV} {l : List α} {n : Nat} (h : n < l.length) : (l.map f)[n]? = some (f (l.getD n default)) := by
  rw [List.getElem?_map, List.getElem?_eq_getElem h, Option.map_some, List.getD_eq_getElem?_getD, List.getElem?_eq_getElem h]; rfl
theorem ro_xM {α : Type} [Inhabited α] {f : α → DV} {l : List α} {i : Int} (h0 : 0 ≤ i) (h : i.toNat < l.length) : RO (rIx K) (.lst (l.map f)) (.int i) (f (l.getD i.toNat default)) := ro_xL h0 (get_map h)
theorem ro_xTM {α : Type} [Inhabited α] {f : α → DV} {l : List α} {i : Int} (h0 : 0 ≤ i) (h : i.toNat < l.length) : RO (rIx K) (.tup (l.map f)) (.int i) (f (l.getD i.toNat default)) := ro_xT h0 (get_map h)
/-! slices, sums, copies of lists -/
def cutD {α : Type} (xs : List α) (lo hi : Option Int) : List α := (xs.drop (HT.sIx xs.length 0 lo)).take (HT.sIx xs.length xs.length hi - HT.sIx xs.length 0 lo)
theorem cut_rp {H : Hp} {vs : List V} {ds : List DV} (r : RpA H vs ds) (lo hi : Option Int) : RpA H (cutV vs lo hi) (cutD ds lo hi) := by
  unfold cutV cutD
  rw [r.len]
  exact (r.drop _).take _
theorem do_none : DO tNoPart ρ none := fun _ _ _ _ _ k _ q => q _ _ (Go.refl k.go.i)
theorem do_some {n : Int} (h : DE te ρ (.int n)) : DO (tPart te) ρ (some n) := fun _ _ _ _ _ k _ q => h _ _ _ _ _ k _ fun v _ _ g r => ⟨n, r.int_inv, q _ _ g⟩
theorem dn_sl {tl th : TO} {lo hi : Option Int} (h : DQ te ρ (.lst ds)) (hl : DO tl ρ lo) (hh : DO th ρ hi) : DN (tSl (rSlL K) te tl th) ρ (cutD ds lo hi) := fun _ _ _ _ _ k _ q =>
  h _ _ _ _ _ k _ fun v _ _ g r => hl _ _ _ _ _ (k.up g) _ fun _ _ g2 => hh _ _ _ _ _ ((k.up g).up g2) _ fun _ _ g3 => by
    obtain ⟨p, vs, ea, hp, rr⟩ := (r.up (g2.trans g3)).lst g3.i
    refine ⟨p, vs, ea, .inl (.inl hp), fun n hn => ?_⟩
    exact q n _ _ _ (((g.trans g2).trans g3).trans (Go.own g3.i hn)) (((g.trans g2).trans g3).free hn) (Evl.fresh_back g3.i hn) upd_same (cut_rp rr lo hi)
theorem rn_cat (hz : ds.length + es.length ≤ 100000) : RN rCat (.lst ds) (.lst es) (ds ++ es) := fun _ _ _ _ e a b _ q => by
  obtain ⟨p, vs, ea, hp, r⟩ := a.lst e
  obtain ⟨p2, vs2, eb, hp2, r2⟩ := b.lst e
  exact ⟨p, p2, vs, vs2, ea, eb, hp, hp2, Evl.sz_of (by rw [r.len, r2.len]; exact hz), fun n hn => q n _ _ _ (Go.own e hn) hn (Evl.fresh_back e hn) upd_same (r.app r2)⟩
theorem rn_rep {n : Int} (h0 : 0 ≤ n) (hz : ds.length * n.toNat ≤ 100000) (hb : n < 100000) : RN rRep (.lst ds) (.int n) (List.replicate n.toNat ds).flatten := fun _ _ _ _ e a b _ q => by
  obtain ⟨p, vs, ea, hp, r⟩ := a.lst e
  exact ⟨p, n, vs, ea, b.int, hp, by omega, by omega, Evl.sz_of (by rw [r.len]; exact hz), fun m hm => q m _ _ _ (Go.own e hm) hm (Evl.fresh_back e hm) upd_same (r.rep _)⟩
/-! displays, arguments -/
theorem da_nil : DA tNil ρ [] := fun _ _ _ _ _ k _ q => q _ _ _ (Go.refl k.go.i) .nil
theorem da_cons {tr : TA} (h : DE te ρ d) (hr : DA tr ρ ds) : DA (tCons te tr) ρ (d :: ds) := fun _ _ _ _ _ k _ q =>
  h _ _ _ _ _ k _ fun v _ _ g1 r1 => hr _ _ _ _ _ (k.up g1) _ fun vs _ _ g2 r2 => q _ _ _ (g1.trans g2) (.cons (r1.mono g2.s) r2)
theorem db_nil : DB tNil ρ [] := fun _ _ _ _ _ k _ q => q _ _ _ (Go.refl k.go.i) .nil
theorem db_cons {tr : TA} (h : DQ te ρ d) (hr : DB tr ρ ds) : DB (tCons te tr) ρ (d :: ds) := fun _ _ _ _ _ k _ q =>
  h _ _ _ _ _ k _ fun v _ _ g1 r1 => hr _ _ _ _ _ (k.up g1) _ fun vs _ _ g2 r2 => q _ _ _ (g1.trans g2) (.cons (r1.up g2) r2)
theorem de_tup {t : TA} (h : DA t ρ ds) (hz : ds.length ≤ 100000) : DE (tTup t) ρ (.tup ds) := fun _ _ _ _ _ k _ q => h _ _ _ _ _ k _ fun vs Hs' H' g r =>
  ⟨Evl.sz_of (by rw [r.len]; exact hz), fun p hp => q _ _ _ (g.trans (Go.new g.i hp)) (.tup upd_same (r.mono (Evl.Ex.new (Evl.fresh_back g.i hp))))⟩
theorem dn_lst {t : TA} (h : DA t ρ ds) (hz : ds.length ≤ 100000) : DN (tLst t) ρ ds := fun _ _ _ _ _ k _ q => h _ _ _ _ _ k _ fun vs Hs' H' g r =>
  ⟨Evl.sz_of (by rw [r.len]; exact hz), fun p hp => q p _ _ _ (g.trans (Go.own g.i hp)) (g.free hp) (Evl.fresh_back g.i hp) upd_same r⟩
/-! tests -/
theorem dt_test (h : DE te ρ (.bl b)) : DT (tTest te) ρ b := fun _ _ _ _ _ k _ q => h _ _ _ _ _ k _ fun v _ _ g r => ⟨b, r.bl_inv, q _ _ g⟩
theorem dt_B (h : DE te ρ (.bl b)) : DT (tB te) ρ b := fun _ _ _ _ _ k _ q => h _ _ _ _ _ k _ fun v _ _ g r => ⟨b, r.bl_inv, q _ _ g⟩
theorem dt_and (h1 : DT t ρ a) (h2 : a = true → DT u ρ b) : DT (tAnd t u) ρ (a && b) := fun _ _ _ _ _ k Q q => h1 _ _ _ _ _ k _ fun _ _ g => by
  cases a with
  | true => exact iteT (h2 rfl _ _ _ _ _ (k.up g) _ fun _ _ g2 => q _ _ (g.trans g2))
  | false => exact iteF (q _ _ g)
theorem dt_or (h1 : DT t ρ a) (h2 : a = false → DT u ρ b) : DT (tOr t u) ρ (a || b) := fun _ _ _ _ _ k Q q => h1 _ _ _ _ _ k _ fun _ _ g => by
  cases a with
  | true => exact iteT (q _ _ g)
  | false => exact iteF (h2 rfl _ _ _ _ _ (k.up g) _ fun _ _ g2 => q _ _ (g.trans g2))
theorem dt_not (h : DT t ρ a) : DT (tNot t) ρ (!a) := fun _ _ _ _ _ k _ q => h _ _ _ _ _ k _ fun _ _ g => q _ _ g
theorem de_andV (h1 : DE ta ρ (.bl a)) (h2 : a = true → DE tb ρ (.bl b)) : DE (tAndV ta tb) ρ (.bl (a && b)) := fun _ _ _ _ _ k Q q => h1 _ _ _ _ _ k _ fun v _ _ g r => ⟨a, r.bl_inv, by
  cases a with
  | true => exact iteT (h2 rfl _ _ _ _ _ (k.up g) _ fun v _ _ g2 r2 => q v _ _ (g.trans g2) r2)
  | false => exact iteF (q _ _ _ g (.bl _))⟩
theorem de_orV (h1 : DE ta ρ (.bl a)) (h2 : a = false → DE tb ρ (.bl b)) : DE (tOrV ta tb) ρ (.bl (a || b)) := fun _ _ _ _ _ k Q q => h1 _ _ _ _ _ k _ fun v _ _ g r => ⟨a, r.bl_inv, by
  cases a with
  | true => exact iteT (q _ _ _ g (.bl _))
  | false => exact iteF (h2 rfl _ _ _ _ _ (k.up g) _ fun v _ _ g2 r2 => q v _ _ (g.trans g2) r2)⟩
theorem de_notV (h1 : DE ta ρ (.bl a)) : DE (tNotV ta) ρ (.bl (!a)) := fun _ _ _ _ _ k Q q => h1 _ _ _ _ _ k _ fun v _ _ g r => ⟨a, r.bl_inv, q _ _ _ g (.bl _)⟩
theorem de_if (h : DT t ρ b) (h1 : b = true → DE ta ρ d) (h2 : b = false → DE tb ρ d) : DE (tIf t ta tb) ρ d := fun _ _ _ _ _ k Q q => h _ _ _ _ _ k _ fun _ _ g => by
  cases b with
  | true => exact iteT (h1 rfl _ _ _ _ _ (k.up g) _ fun v _ _ g2 r2 => q v _ _ (g.trans g2) r2)
  | false => exact iteF (h2 rfl _ _ _ _ _ (k.up g) _ fun v _ _ g2 r2 => q v _ _ (g.trans g2) r2)
/-- by cases: the two values -/
theorem de_if2 (h : DT t ρ b) (h1 : b = true → DE ta ρ x) (h2 : b = false → DE tb ρ y) : DE (tIf t ta tb) ρ (if b = true then x else y) := by
  refine de_if h (fun e => ?_) (fun e => ?_)
  · rw [e, if_pos rfl]; exact h1 e
  · rw [e, if_neg Bool.false_ne_true]; exact h2 e
/-! calls of built-ins by values -/
theorem de_cb {r : List V → Hp → VK → Prop} {t : TA} (h : DB t ρ xs) (hr : RC r xs z) : DE (tCB r t) ρ z := fun _ _ _ _ _ k _ q => h _ _ _ _ _ k _ fun vs _ _ g r => hr _ _ vs g.i r _ fun v _ _ g2 rz => q v _ _ (g.trans g2) rz
theorem dn_cb {r : List V → Hp → VK → Prop} {t : TA} (h : DB t ρ xs) (hr : RCN r xs ds) : DN (tCB r t) ρ ds := fun _ _ _ _ _ k _ q => h _ _ _ _ _ k _ fun vs _ _ g r => hr _ _ vs g.i r _ fun p vs _ _ g2 h0 h1 h2 rz => q p vs _ _ (g.trans g2) (g.free h0) h1 h2 rz
theorem RvA.one_inv {Hs H : Hp} {vs : List V} (h : RvA Hs H vs [d]) : ∃ v, vs = [v] ∧ Rv Hs H v d := by
  cases h with | cons h r => cases r; exact ⟨_, rfl, h⟩
theorem RvA.two_inv {Hs H : Hp} {vs : List V} (h : RvA Hs H vs [x, y]) : ∃ v u, vs = [v, u] ∧ Rv Hs H v x ∧ Rv Hs H u y := by
  cases h with | cons h r => cases r with | cons h2 r => cases r; exact ⟨_, _, rfl, h, h2⟩
end
/-- the promise of a def that works on data -/
def spD {α : Type} (enc : α → List DV) (pre : α → Prop) (val : α → DV) : Sp := fun vs H Q _ => ∃ (x : α) (Hs : Hp), Ex Hs H ∧ RpA Hs vs (enc x) ∧ pre x ∧ ∀ v Hs' H', Go Hs H Hs' H' → Rp Hs' v (val x) → Q v H'
theorem de_call {α : Type} {enc : α → List DV} {pre : α → Prop} {val : α → DV} {t : TA} {ρ : List Sl} {E : XK} {xs : List DV} (x : α) (h : DA t ρ xs) (e : enc x = xs) (hp : pre x) : DE (tCall (spD enc pre val) [] E t) ρ (val x) := fun _ _ _ _ _ k _ q =>
  h _ _ _ _ _ k _ fun vs Hs' H' g r => ⟨x, Hs', g.i, by rw [List.append_nil, e]; exact r, hp, fun v _ _ g2 r2 => q v _ _ (g.trans g2) r2⟩
end DL
end

section
set_option Elab.async false
set_option linter.all false
set_option maxRecDepth 100000
set_option maxHeartbeats 4000000
namespace DL
open PySem PySem.Spec PyProof.Rows L2
/-! ### targets -/
theorem wipe_set {σ : L2.St} {i : Nat} {x : Option V} : ∀ {vs : List Nat}, i ∈ vs → wipe (σ.set i x) vs = wipe σ vs
  | v :: vs, h => by
    unfold wipe
    by_cases hi : i ∈ vs
    · rw [wipe_set hi]
    · have e : i = v := by
        rcases List.mem_cons.mp h with e | e
        · exact e
        · exact absurd e hi
      subst e
      apply List.ext_getElem?
      intro j
      by_cases hj : i = j
      · subst hj
        by_cases hl : i < σ.length
        · rw [List.getElem?_set_self (by rw [wipe_length, List.length_set]; exact hl), List.getElem?_set_self (by rw [wipe_length]; exact hl)]
        · rw [List.getElem?_eq_none (by rw [List.length_set, wipe_length, List.length_set]; omega), List.getElem?_eq_none (by rw [List.length_set, wipe_length]; omega)]
      · rw [List.getElem?_set_ne hj, List.getElem?_set_ne hj]
        have : ∀ (vs : List Nat) (σ : L2.St), (wipe (σ.set i x) vs)[j]? = (wipe σ vs)[j]? := by
          intro vs
          induction vs with
          | nil => intro σ; exact List.getElem?_set_ne hj
          | cons w vs ih =>
            intro σ
            unfold wipe
            by_cases hw : w = j
            · subst hw
              by_cases hl : w < σ.length
              · rw [List.getElem?_set_self (by rw [wipe_length, List.length_set]; exact hl), List.getElem?_set_self (by rw [wipe_length]; exact hl)]
              · rw [List.getElem?_eq_none (by rw [List.length_set, wipe_length, List.length_set]; omega), List.getElem?_eq_none (by rw [List.length_set, wipe_length]; omega)]
            · rw [List.getElem?_set_ne hw, List.getElem?_set_ne hw]
              exact ih σ
        exact this vs σ
def DG (g : TG) (ρ : List Sl) (d : DV) (ρ' : List Sl) (is : List Nat) : Prop := ∀ Hj Hi Hs H σ v, Ok Hj Hi Hs H σ ρ → Rp Hs v d → ∀ Q : L2.St → Hp → Prop,
  (∀ σ', Ok Hj Hi Hs H σ' ρ' → (∀ vs, (∀ i ∈ is, i ∈ vs) → wipe σ' vs = wipe σ vs) → Q σ' H) → g v σ H Q
def DGs (g : TGs) (ρ : List Sl) (ds : List DV) (ρ' : List Sl) (is : List Nat) : Prop := ∀ Hj Hi Hs H σ vs, Ok Hj Hi Hs H σ ρ → RpA Hs vs ds → ∀ Q : L2.St → Hp → Prop,
  (∀ σ', Ok Hj Hi Hs H σ' ρ' → (∀ vs, (∀ i ∈ is, i ∈ vs) → wipe σ' vs = wipe σ vs) → Q σ' H) → g vs σ H Q
section
variable {K : PySem.W.Frag} {ρ ρ1 ρ2 : List Sl} {d : DV} {ds : List DV} {i n : Nat} {is js : List Nat} {g : TG} {t : TGs}
theorem dg_name : DG (gName i) ρ d (ρ.set i (.val d)) [i] := fun _ _ _ _ _ _ k r _ q => q _ (k.put i r) fun vs h => wipe_set (h i List.mem_cons_self)
theorem dgs_nil : DGs gNil ρ [] ρ [] := fun _ _ _ _ _ _ k r _ q => by
  cases r
  exact ⟨rfl, q _ k fun _ _ => rfl⟩
theorem dgs_cons (h : DG g ρ d ρ1 is) (h2 : DGs t ρ1 ds ρ2 js) : DGs (gCons g t) ρ (d :: ds) ρ2 (is ++ js) := fun _ _ _ _ _ _ k r _ q => by
  cases r with
  | cons r rr => exact ⟨_, _, rfl, h _ _ _ _ _ _ k r _ fun σ1 k1 w1 => h2 _ _ _ _ _ _ k1 rr _ fun σ2 k2 w2 => q _ k2 fun vs hv =>
      (w2 vs fun i hi => hv i (List.mem_append_right _ hi)).trans (w1 vs fun i hi => hv i (List.mem_append_left _ hi))⟩
theorem dg_tup (hn : ds.length = n) (h : DGs t ρ ds ρ1 is) : DG (gTup K n t) ρ (.tup ds) ρ1 is := fun _ _ _ _ _ _ k r _ q => by
  obtain ⟨a, vs, e, hp, rr⟩ := r.tup_inv
  exact ⟨a, vs, e, .inl (.inl (k.go.i _ _ hp)), by rw [rr.len]; exact hn, h _ _ _ _ _ _ k rr _ q⟩
end
/-! ### what is walked -/
structure Walks (J : It) (Hs0 : Hp) (ds : List DV) : Prop where
  go : ∀ Hs H i, Ex Hs0 Hs → Ex Hs H → i < ds.length → J.go i H
  stop : ∀ Hs H i, Ex Hs0 Hs → Ex Hs H → ds.length ≤ i → J.stop i H
  yld : ∀ Hs H i x H', Ex Hs0 Hs → Ex Hs H → J.yld i H x H' → H' = H ∧ ∀ d, ds[i]? = some d → Rp Hs x d
def DW (wi : TI) (ρ : List Sl) (ds : List DV) : Prop := ∀ Hj Hi Hs H σ, Ok Hj Hi Hs H σ ρ → ∀ R : It → Hp → Prop, (∀ J Hs' H', Go Hs H Hs' H' → Walks J Hs' ds → R J H') → wi σ H R
theorem walks_list {K : PySem.W.Frag} {Hs0 : Hp} {a : Addr} {vs : List V} {ds : List DV} (h : Hs0 a = some (.lst vs)) (r : RpA Hs0 vs ds) : Walks (Itl K a) Hs0 ds where
  go := fun Hs H i e1 e2 hi => by
    have hl : i < vs.length := by rw [r.len]; exact hi
    exact ⟨vs, vs[i], .inl (.inl (e2 _ _ (e1 _ _ h))), List.getElem?_eq_getElem hl⟩
  stop := fun Hs H i e1 e2 hi => ⟨vs, .inl (.inl (e2 _ _ (e1 _ _ h))), by rw [r.len]; exact hi⟩
  yld := fun Hs H i x H' e1 e2 ⟨e, f⟩ => ⟨e, fun d hd => by
    obtain ⟨v, ev, rv⟩ := r.get hd
    have := f vs (.inl (.inl (e2 _ _ (e1 _ _ h))))
    rw [ev] at this
    cases this
    exact rv.mono e1⟩
theorem walks_tup {K : PySem.W.Frag} {Hs0 : Hp} {a : Addr} {vs : List V} {ds : List DV} (h : Hs0 a = some (.tup vs)) (r : RpA Hs0 vs ds) : Walks (Itt K a) Hs0 ds where
  go := fun Hs H i e1 e2 hi => by
    have hl : i < vs.length := by rw [r.len]; exact hi
    exact ⟨vs, vs[i], .inl (.inl (e2 _ _ (e1 _ _ h))), List.getElem?_eq_getElem hl⟩
  stop := fun Hs H i e1 e2 hi => ⟨vs, .inl (.inl (e2 _ _ (e1 _ _ h))), by rw [r.len]; exact hi⟩
  yld := fun Hs H i x H' e1 e2 ⟨e, f⟩ => ⟨e, fun d hd => by
    obtain ⟨v, ev, rv⟩ := r.get hd
    have := f vs (.inl (.inl (e2 _ _ (e1 _ _ h))))
    rw [ev] at this
    cases this
    exact rv.mono e1⟩
/-- the turns of a range -/
def rgD (lo : Int) (n : Nat) : List DV := (List.range n).map fun i : Nat => DV.int (lo + (i : Int))
theorem rgD_len (lo : Int) (n : Nat) : (rgD lo n).length = n := by unfold rgD; simp
theorem rgD_get {lo : Int} {n i : Nat} {d : DV} (h : (rgD lo n)[i]? = some d) : d = .int (lo + (i : Int)) := by
  unfold rgD at h
  rw [List.getElem?_map] at h
  by_cases hi : i < n
  · rw [List.getElem?_range hi] at h; cases h; rfl
  · rw [List.getElem?_eq_none (by simp; omega)] at h; cases h
theorem walks_range {Hs0 : Hp} {lo : Int} {n : Nat} : Walks (Itr lo n) Hs0 (rgD lo n) where
  go := fun Hs H i _ _ hi => by rw [rgD_len] at hi; exact hi
  stop := fun Hs H i _ _ hi => by rw [rgD_len] at hi; exact hi
  yld := fun Hs H i x H' _ _ ⟨e, f⟩ => ⟨e, fun d hd => by rw [rgD_get hd, f]; exact .int _⟩
def rgC (lo c : Int) (n : Nat) : List DV := (List.range n).map fun i : Nat => DV.int (lo + (i : Int) * c)
theorem walks_rangeC {Hs0 : Hp} {lo c : Int} {n : Nat} : Walks (Itc lo c n) Hs0 (rgC lo c n) where
  go := fun Hs H i _ _ hi => by unfold rgC at hi; rw [List.length_map, List.length_range] at hi; exact hi
  stop := fun Hs H i _ _ hi => by unfold rgC at hi; rw [List.length_map, List.length_range] at hi; exact hi
  yld := fun Hs H i x H' _ _ ⟨e, f⟩ => ⟨e, fun d hd => by
    unfold rgC at hd
    rw [List.getElem?_map] at hd
    by_cases hi : i < n
    · rw [List.getElem?_range hi] at hd; cases hd; rw [f]; exact .int _
    · rw [List.getElem?_eq_none (by simp; omega)] at hd; cases hd⟩
section
variable {K : PySem.W.Frag} {ρ : List Sl} {te tl : TE} {ta : TA} {ds es : List DV}
theorem dw_list (h : DE tl ρ (.lst ds)) : DW (iList K tl) ρ ds := fun _ _ _ _ _ k _ q => h _ _ _ _ _ k _ fun v _ _ g r => by
  obtain ⟨a, vs, e, hp, rr⟩ := r.lst_inv
  exact ⟨a, e, ⟨vs, .inl (.inl (g.i _ _ hp))⟩, q _ _ _ g (walks_list hp rr)⟩
theorem dw_tup (h : DE tl ρ (.tup ds)) : DW (iTup K tl) ρ ds := fun _ _ _ _ _ k _ q => h _ _ _ _ _ k _ fun v _ _ g r => by
  obtain ⟨a, vs, e, hp, rr⟩ := r.tup_inv
  exact ⟨a, e, ⟨vs, .inl (.inl (g.i _ _ hp))⟩, q _ _ _ g (walks_tup hp rr)⟩
theorem dw_is (h : DW wi ρ ds) (e : ds = es) : DW wi ρ es := e ▸ h
theorem dw_r1 {n : Int} (h : DA ta ρ [.int n]) (hb : n < 1000000) (h0 : -1000000 < n) : DW (iRng1 ta) ρ (rgD 0 n.toNat) := fun _ _ _ _ _ k _ q => h _ _ _ _ _ k _ fun vs _ _ g r =>
  ⟨n, r.int_inv (xs := [n]), by omega, by omega, q _ _ _ g walks_range⟩
theorem dw_r2 {lo n : Int} (h : DA ta ρ [.int lo, .int n]) (hb : -1000000 < lo ∧ lo < 1000000 ∧ -1000000 < n ∧ n < 1000000) : DW (iRng2 ta) ρ (rgD lo (n - lo).toNat) := fun _ _ _ _ _ k _ q => h _ _ _ _ _ k _ fun vs _ _ g r =>
  ⟨lo, n, r.int_inv (xs := [lo, n]), by omega, q _ _ _ g walks_range⟩
theorem dw_down {lo n : Int} (h : DA ta ρ [.int lo, .int n, .int (-1)]) (hb : -1000000 < lo ∧ lo < 1000000 ∧ -1000000 < n ∧ n < 1000000) : DW (iRng3 ta) ρ (rgC lo (-1) (lo - n).toNat) := fun _ _ _ _ _ k _ q => h _ _ _ _ _ k _ fun vs _ _ g r =>
  ⟨lo, n, -1, (lo - n).toNat, r.int_inv (xs := [lo, n, -1]), RgC.neg (by omega) (by omega) (by omega) (by omega), q _ _ _ g walks_rangeC⟩
end
/-! ### list comprehensions -/
def wipeR (ρ : List Sl) : List Nat → List Sl
  | [] => ρ
  | v :: vs => (wipeR ρ vs).set v .any
theorem Ok.wipe {Hj Hi Hs H : Hp} {σ : L2.St} {ρ : List Sl} (k : Ok Hj Hi Hs H σ ρ) : ∀ vs, Ok Hj Hi Hs H (L2.wipe σ vs) (wipeR ρ vs)
  | [] => k
  | v :: vs => (Ok.wipe k vs).drop v none
theorem Go.reb {Hj Hi Hs H Hs1 H1 Hs2 H2 : Hp} (a : Go Hj Hi Hs H) (g : Go Hs H Hs1 H1) (b : Go Hj Hi Hs2 H2) (e : Ex Hs1 Hs2) : Go Hs1 Hi Hs2 H2 :=
  ⟨b.h, e, b.i, fun c hc => by rw [b.n c hc, (a.trans g).n c hc]⟩
section
variable {K : PySem.W.Frag} {ρ ρ1 : List Sl} {te : TE} {tt : TT} {wi : TI} {g : TG} {vs is : List Nat}
theorem getElem?_snoc_filter {α β : Type} (f : α → Bool) (e : α → β) {xs : List α} {i : Nat} {x : α} (h : xs[i]? = some x) :
    ((xs.take (i + 1)).filter f).map e = ((xs.take i).filter f).map e ++ (if f x = true then [e x] else []) := by
  rw [List.take_add_one, h, List.filter_append, List.map_append]
  congr 1
  show (List.filter f [x]).map e = _
  rw [List.filter_cons]
  split <;> rfl
/-- [e for x in xs if f] -/
theorem dn_lcf {α : Type} (xs : List α) (enc : α → DV) (f : α → Bool) (e : α → DV) (hw : DW wi ρ (xs.map enc)) (hz : xs.length ≤ 50000) (hv : ∀ i ∈ is, i ∈ vs)
    (hg : ∀ x ∈ xs, ∃ ρ1, DG g (wipeR ρ vs) (enc x) ρ1 is ∧ DT tt ρ1 (f x) ∧ (f x = true → DE te ρ1 (e x))) : DN (tLc wi g tt te vs) ρ ((xs.filter f).map e) := fun Hj Hi Hs H σ k Q q =>
  hw _ _ _ _ _ k _ fun J Hs1 H1 g1 W D hD => by
    have k1 := k.up g1
    refine ⟨fun i m H' => i + m = xs.length ∧ ∃ Hs' acc, Go Hs1 H1 Hs' H' ∧ Hs' D = none ∧ H' D = some (.lst acc) ∧ RpA Hs' acc (((xs.take i).filter f).map e),
      ⟨xs.length, by omega, Hs1, [], Go.own g1.i hD, Evl.fresh_back g1.i hD, upd_same, .nil⟩, fun i m H' ⟨em, Hs', acc, g2, d1, d2, d3⟩ => ?_⟩
    have e0 : ∀ {Hs'' H''}, Go Hs1 H1 Hs'' H'' → Ex Hs1 Hs'' := fun g => g.s
    by_cases hi : i < xs.length
    · refine .inr ⟨W.go Hs' H' i g2.s g2.i (by rw [List.length_map]; exact hi), fun H2 => ∃ Hs'' acc', Go Hs1 H1 Hs'' H2 ∧ Hs'' D = none ∧ H2 D = some (.lst acc') ∧ RpA Hs'' acc' (((xs.take (i + 1)).filter f).map e),
        fun H2 hn => ⟨m - 1, by omega, by omega, hn⟩, fun x H2 hy => ?_⟩
      obtain ⟨e2, hx⟩ := W.yld Hs' H' i x H2 g2.s g2.i hy
      subst e2
      have hxi : xs[i]? = some xs[i] := List.getElem?_eq_getElem hi
      have rx : Rp Hs' x (enc xs[i]) := hx _ (by rw [List.getElem?_map, hxi]; rfl)
      obtain ⟨ρ1, h1, h2, h3⟩ := hg xs[i] (List.getElem_mem hi)
      have k2 : Ok Hj Hi Hs' H2 (wipe σ vs) (wipeR ρ vs) := (k1.up g2).wipe vs
      refine h1 _ _ _ _ _ _ k2 rx _ fun σ2 k3 w3 => ⟨?_, h2 _ _ _ _ _ k3 _ fun Hs3 H3 g3 => ?_⟩
      · rw [w3 vs hv]
        have idem : ∀ (us : List Nat) (σ : L2.St), (∀ u ∈ us, u ∈ vs) → wipe (wipe σ us) vs = wipe σ vs := by
          intro us
          induction us with
          | nil => intro σ _; rfl
          | cons u us ih =>
            intro σ hu
            show wipe ((wipe σ us).set u none) vs = _
            rw [wipe_set (hu u List.mem_cons_self)]
            exact ih σ fun z hz => hu z (List.mem_cons_of_mem _ hz)
        exact idem vs σ fun _ z => z
      · have k4 := k3.up g3
        have d13 : Hs3 D = none := g3.kept d2 d1
        have d23 : H3 D = some (.lst acc) := g3.h _ _ d2
        have d33 := d3.mono g3.s
        have st := getElem?_snoc_filter f e hxi
        cases hf : f xs[i] with
        | true =>
          refine iteT (h3 hf _ _ _ _ _ k4 _ fun y Hs4 H4 g4 ry => ?_)
          have d24 := g4.h _ _ d23
          refine ⟨acc, d24, Evl.sz_lt ?_, Hs4, acc ++ [y], ?_, g4.kept d23 d13, upd_same, ?_⟩
          · rw [d3.len, List.length_map]
            have := List.length_filter_le f (xs.take i)
            rw [List.length_take] at this
            omega
          · have gg := (g2.trans g3).trans g4
            exact ⟨Evl.Ex.mut gg.h hD, gg.s, fun a u hu => by
              have : a ≠ D := fun z => by rw [z, g4.kept d23 d13] at hu; cases hu
              rw [upd_ne this]; exact gg.i a u hu, gg.n⟩
          · rw [st, hf, if_pos rfl]
            exact (d33.mono g4.s).app (.one ry)
        | false =>
          refine iteF ⟨Hs3, acc, g2.trans g3, d13, d23, ?_⟩
          rw [st, hf, if_neg Bool.false_ne_true, List.append_nil]
          exact d33
    · refine .inl ⟨W.stop Hs' H' i g2.s g2.i (by rw [List.length_map]; omega), q D acc Hs' H' (g1.trans g2) (g1.free hD) d1 d2 ?_⟩
      rw [List.take_of_length_le (by omega)] at d3
      exact d3
theorem dt_yes : DT tYes ρ true := fun _ _ _ _ _ k _ q => q _ _ (Go.refl k.go.i)
/-- [e for x in xs] -/
theorem dn_lc {α : Type} (xs : List α) (enc : α → DV) (e : α → DV) (hw : DW wi ρ (xs.map enc)) (hz : xs.length ≤ 50000) (hv : ∀ i ∈ is, i ∈ vs)
    (hg : ∀ x ∈ xs, ∃ ρ1, DG g (wipeR ρ vs) (enc x) ρ1 is ∧ DE te ρ1 (e x)) : DN (tLc wi g tYes te vs) ρ (xs.map e) := by
  have h := dn_lcf (te := te) (tt := tYes) xs enc (fun _ => true) e hw hz hv fun x hx => by
    obtain ⟨ρ1, h1, h2⟩ := hg x hx
    exact ⟨ρ1, h1, dt_yes, fun _ => h2⟩
  rwa [List.filter_eq_self.mpr fun _ _ => rfl] at h
end
/-! ### statements -/
structure DEnd where
  nx : List Sl → Prop
  rt : DV → Prop
  bk : List Sl → Prop := fun _ => False
  ct : List Sl → Prop := fun _ => False
structure Sim (Hj Hi : Hp) (D : Ends) (E : DEnd) : Prop where
  nx : ∀ ρ σ Hs H, E.nx ρ → Ok Hj Hi Hs H σ ρ → D.nx σ H
  rt : ∀ d v Hs H, E.rt d → Go Hj Hi Hs H → Rp Hs v d → D.rt v H
  bk : ∀ ρ σ Hs H, E.bk ρ → Ok Hj Hi Hs H σ ρ → D.bk σ H
  ct : ∀ ρ σ Hs H, E.ct ρ → Ok Hj Hi Hs H σ ρ → D.ct σ H
def DS (t : TS) (ρ : List Sl) (E : DEnd) : Prop := ∀ Hj Hi D, Sim Hj Hi D E → ∀ σ Hs H, Ok Hj Hi Hs H σ ρ → t D σ H
section
variable {K : PySem.W.Frag} {ρ ρ1 ρ' : List Sl} {te tk tj : TE} {t u : TS} {tt : TT} {E : DEnd} {d : DV} {ds : List DV} {i j : Nat} {b : Bool} {g : TG} {is : List Nat}
theorem ds_seq (h : DS t ρ { E with nx := fun ρ1 => DS u ρ1 E }) : DS (tSeq t u) ρ E := fun Hj Hi D S σ Hs H k =>
  h Hj Hi { D with nx := u D } ⟨fun ρ1 σ1 Hs1 H1 q k1 => q Hj Hi D S σ1 Hs1 H1 k1, S.rt, S.bk, S.ct⟩ σ Hs H k
theorem ds_asg (h : DE te ρ d) (hg : DG g ρ d ρ' is) (k : E.nx ρ') : DS (tAsg te g) ρ E := fun Hj Hi D S σ Hs H o =>
  h _ _ _ _ _ o _ fun v Hs1 H1 g1 r => hg _ _ _ _ _ _ (o.up g1) r _ fun σ' o' _ => S.nx _ _ _ _ k o'
theorem ds_set (h : DE te ρ d) (k : E.nx (ρ.set i (.val d))) : DS (tAsg te (gName i)) ρ E := ds_asg h dg_name k
theorem Ok.newM {Hj Hi Hs H Hs' H' : Hp} {σ : L2.St} (o : Ok Hj Hi Hs H σ ρ) (g : Go Hs H Hs' H') {p : Addr} {u : HO} {m : Mu} (h0 : H p = none) (h1 : Hs' p = none) (h2 : H' p = some u) (r : MuOk Hs' u m) (i : Nat) :
    Ok Hj Hi Hs' H' (σ.set i (some (.ref p))) (ρ.set i (.mu none m)) :=
  (o.up g).putM i h1 h2 (o.go.free h0) r fun j _ m' ej sj => by
    obtain ⟨a, u', ea, _, _, h3, _, _⟩ := o.sl j _ ej
    rw [sj] at ea
    cases ea
    rw [h0] at h3
    cases h3
theorem ds_setN (h : DN te ρ ds) (k : E.nx (ρ.set i (.mu none (.lst ds)))) : DS (tAsg te (gName i)) ρ E := fun Hj Hi D S σ Hs H o =>
  h _ _ _ _ _ o _ fun p vs Hs1 H1 g1 h0 h1 h2 r => S.nx _ _ _ _ k (o.newM g1 h0 h1 h2 (.lst r) i)
theorem ds_drop (h : DE te ρ d) (k : E.nx ρ) : DS (tDrop te) ρ E := fun Hj Hi D S σ Hs H o => h _ _ _ _ _ o _ fun v Hs1 H1 g1 r => S.nx _ _ _ _ k (o.up g1)
theorem ds_ret (h : DE te ρ d) (k : E.rt d) : DS (tRet te) ρ E := fun Hj Hi D S σ Hs H o => h _ _ _ _ _ o _ fun v Hs1 H1 g1 r => S.rt _ _ _ _ k (o.go.trans g1) r
theorem ds_next (k : E.nx ρ) : DS tNext ρ E := fun Hj Hi D S σ Hs H o => S.nx _ _ _ _ k o
theorem ds_brk (k : E.bk ρ) : DS tBreak ρ E := fun Hj Hi D S σ Hs H o => S.bk _ _ _ _ k o
theorem ds_cont (k : E.ct ρ) : DS tCont ρ E := fun Hj Hi D S σ Hs H o => S.ct _ _ _ _ k o
theorem ds_if (h : DT tt ρ b) (h1 : b = true → DS t ρ E) (h2 : b = false → DS u ρ E) : DS (tIfS tt t u) ρ E := fun Hj Hi D S σ Hs H o => h _ _ _ _ _ o _ fun Hs1 H1 g1 => by
  cases b with
  | true => exact iteT (h1 rfl _ _ _ S _ _ _ (o.up g1))
  | false => exact iteF (h2 rfl _ _ _ S _ _ _ (o.up g1))
theorem ds_ifF (h : DT tt ρ false) (h2 : DS u ρ E) : DS (tIfS tt t u) ρ E := ds_if h (fun e => by cases e) fun _ => h2
theorem ds_ifT (h : DT tt ρ true) (h2 : DS t ρ E) : DS (tIfS tt t u) ρ E := ds_if h (fun _ => h2) fun e => by cases e
theorem ds_wk (w : Wk ρ ρ') (h : DS t ρ' E) : DS t ρ E := fun Hj Hi D S σ Hs H o => by
  obtain ⟨Hs', o'⟩ := o.wk w
  exact h Hj Hi D S σ Hs' H o'
theorem ds_frz (i : Nat) {ob : Option Addr} {m : Mu} (e : ρ[i]? = some (.mu ob m)) (f : Frz m d) (h : DS t (ρ.set i (.val d)) E) : DS t ρ E := fun Hj Hi D S σ Hs H o => by
  obtain ⟨Hs', o'⟩ := o.frz e f
  exact h Hj Hi D S σ Hs' H o'
/-- xs.append(e), xs one's own -/
theorem ds_app {ob : Option Addr} (e : ρ[i]? = some (.mu ob (.lst ds))) (h : DE te ρ d) (hz : ds.length < 100000) (k : E.nx (ρ.set i (.mu ob (.lst (ds ++ [d]))))) : DS (tDrop (tBM K "list" rAppend (tVar i) (tCons te tNil))) ρ E := fun Hj Hi D S σ Hs H o => by
  obtain ⟨a, u, ea, h1, h2, h3, r, _⟩ := o.sl i _ e
  cases r with
  | lst r =>
    refine ⟨.ref a, ea, .inl ⟨rfl, _, .inl (.inl h3)⟩, h _ _ _ _ _ o _ fun v Hs1 H1 g1 rv => ?_⟩
    have h3' := g1.h _ _ h3
    exact ⟨a, _, v, rfl, rfl, h3', Evl.sz_lt (by rw [r.len]; exact hz), S.nx _ _ _ _ k ((o.up g1).chg e ea (.lst ((r.mono g1.s).app (.one rv))))⟩
/-- xs[j] = e, xs one's own -/
theorem ds_setix {ob : Option Addr} {n : Int} (e : ρ[i]? = some (.mu ob (.lst ds))) (h : DE te ρ d) (hj : DE tj ρ (.int n)) (h0 : 0 ≤ n) (hn : n.toNat < ds.length) (k : E.nx (ρ.set i (.mu ob (.lst (ds.set n.toNat d))))) : DS (tAsg te (gSub (tVar i) tj rSetL)) ρ E := fun Hj Hi D S σ Hs H o => by
  refine h _ _ _ _ _ o _ fun v Hs1 H1 g1 rv => ?_
  have o1 := o.up g1
  obtain ⟨a, u, ea, h1, h2, h3, r, _⟩ := o1.sl i _ e
  cases r with
  | lst r =>
    refine ⟨.ref a, ea, hj _ _ _ _ _ o1 _ fun w Hs2 H2 g2 rw' => ?_⟩
    have h3' := g2.h _ _ h3
    refine ⟨a, _, n, n.toNat, rfl, rw'.int_inv, h3', ?_, S.nx _ _ _ _ k ((o1.up g2).chg e ea (.lst ((r.mono g2.s).set (rv.mono g2.s) n.toNat)))⟩
    unfold ixN
    rw [if_pos h0, if_pos (by rw [r.len]; omega)]
/-- xs[j] = ys.pop(k), both one's own -/
theorem ds_setpop {oa ob : Option Addr} {n m : Int} {es : List DV} (e : ρ[i]? = some (.mu oa (.lst ds))) (e2 : ρ[j]? = some (.mu ob (.lst es))) (hij : i ≠ j) (hk : DE tk ρ (.int m)) (hm0 : 0 ≤ m) (hm : es[m.toNat]? = some d) (hmb : m < 100000)
    (hj : DE tj (ρ.set j (.mu ob (.lst (es.eraseIdx m.toNat)))) (.int n)) (h0 : 0 ≤ n) (hn : n.toNat < ds.length)
    (k : E.nx ((ρ.set j (.mu ob (.lst (es.eraseIdx m.toNat)))).set i (.mu oa (.lst (ds.set n.toNat d))))) : DS (tAsg (tBM K "list" rPopAt (tVar j) (tCons tk tNil)) (gSub (tVar i) tj rSetL)) ρ E := fun Hj Hi D S σ Hs H o => by
  obtain ⟨a, u, ea, h1, h2, h3, r, _⟩ := o.sl j _ e2
  cases r with
  | lst r =>
    refine ⟨.ref a, ea, .inl ⟨rfl, _, .inl (.inl h3)⟩, hk _ _ _ _ _ o _ fun v Hs1 H1 g1 rv => ?_⟩
    have h3' := g1.h _ _ h3
    have r1 := r.mono g1.s
    obtain ⟨y, ey, ry⟩ := r1.get hm
    have hl : m.toNat < es.length := (List.getElem?_eq_some_iff.mp hm).1
    refine ⟨a, _, m, m.toNat, y, rfl, by rw [rv.int_inv], h3', by omega, by omega, ?_, ey, ?_⟩
    · have : ixN es.length m = some m.toNat := by
        unfold ixN
        rw [if_pos hm0, if_pos (by omega)]
      rw [r1.len]
      exact (ixN_seq this).1
    have o1 := (o.up g1).chg e2 ea (.lst (r1.del m.toNat))
    have e' : (ρ.set j (.mu ob (.lst (es.eraseIdx m.toNat))))[i]? = some (.mu oa (.lst ds)) := by rw [List.getElem?_set_ne (Ne.symm hij)]; exact e
    obtain ⟨a2, u2, ea2, q1, q2, q3, rr, _⟩ := o1.sl i _ e'
    cases rr with
    | lst rr =>
      refine ⟨.ref a2, ea2, hj _ _ _ _ _ o1 _ fun w Hs2 H2 g2 rw' => ?_⟩
      have q3' := g2.h _ _ q3
      refine ⟨a2, _, n, n.toNat, rfl, rw'.int_inv, q3', ?_, S.nx _ _ _ _ k ((o1.up g2).chg e' ea2 (.lst ((rr.mono g2.s).set (ry.mono g2.s) n.toNat)))⟩
      unfold ixN
      rw [if_pos h0, if_pos (by rw [rr.len]; omega)]
theorem ds_aug {f : Int → Int → Int} {x y : Int} (e : ρ[i]? = some (.val (.int x))) (h : DE te ρ (.int y)) (k : E.nx (ρ.set i (.val (.int (f x y))))) : DS (tAug i te (ipI f)) ρ E := fun Hj Hi D S σ Hs H o => by
  obtain ⟨v, ev, rv⟩ := o.sl i _ e
  refine ⟨v, ev, h _ _ _ _ _ o _ fun w Hs1 H1 g1 r => ⟨x, y, rv.int_inv, r.int_inv, S.nx _ _ _ _ k ((o.up g1).put i (.int _))⟩⟩
/-- a loop: J what is known at the turn's start -/
theorem ds_for {α : Type} {wi : TI} {tb : TS} (xs : List α) (enc : α → DV) (J : Nat → List Sl → Prop) (hw : DW wi ρ (xs.map enc)) (h0 : ∃ ρ0, Wk ρ ρ0 ∧ J 0 ρ0)
    (hs : ∀ n x ρ1, xs[n]? = some x → J n ρ1 → ∃ ρ2 is, DG g ρ1 (enc x) ρ2 is ∧ DS tb ρ2 { nx := fun ρ' => ∃ ρ0, Wk ρ' ρ0 ∧ J (n + 1) ρ0, rt := E.rt, bk := E.nx, ct := fun ρ' => ∃ ρ0, Wk ρ' ρ0 ∧ J (n + 1) ρ0 })
    (hd : ∀ ρ1, J xs.length ρ1 → E.nx ρ1) : DS (tFor wi g tb) ρ E := fun Hj Hi D S σ Hs H o =>
  hw _ _ _ _ _ o _ fun It Hs1 H1 g1 W => by
    have o1 := o.up g1
    have back : ∀ {ρ' σ' Hs' H'}, Ok Hs1 Hi Hs' H' σ' ρ' → Ok Hj Hi Hs' H' σ' ρ' := fun k =>
      ⟨⟨k.go.h, (o.go.s.trans g1.s).trans k.go.s, k.go.i, fun c hc => by rw [k.go.n c hc]; exact (o.go.trans g1).n c hc⟩, k.sl, k.ap, k.len⟩
    have fwd : ∀ {ρ' σ'}, Ok Hj Hi Hs1 H1 σ' ρ' → Ok Hs1 Hi Hs1 H1 σ' ρ' := fun k =>
      ⟨⟨k.go.h, Evl.Ex.refl _, k.go.i, fun _ _ => rfl⟩, k.sl, k.ap, k.len⟩
    have bgo : ∀ {Hs' H'}, Go Hs1 Hi Hs' H' → Go Hj Hi Hs' H' := fun k =>
      ⟨k.h, (o.go.s.trans g1.s).trans k.s, k.i, fun c hc => by rw [k.n c hc]; exact (o.go.trans g1).n c hc⟩
    refine ⟨fun n m σ' H' => n + m = xs.length ∧ ∃ Hs' ρ', Ok Hs1 Hi Hs' H' σ' ρ' ∧ J n ρ', ?_, fun n m σ' H' ⟨em, Hs', ρ', k', hJ⟩ => ?_⟩
    · obtain ⟨ρ0, w0, j0⟩ := h0
      obtain ⟨Hs', o'⟩ := (fwd o1).wk w0
      exact ⟨xs.length, by omega, Hs', ρ0, o', j0⟩
    · by_cases hn : n < xs.length
      · refine .inr ⟨W.go Hs' H' n k'.go.s k'.go.i (by rw [List.length_map]; exact hn), fun σ2 H2 => ∃ Hs2 ρ2, Ok Hs1 Hi Hs2 H2 σ2 ρ2 ∧ J (n + 1) ρ2, fun σ2 H2 hq => ⟨m - 1, by omega, by omega, hq⟩, fun x H2 hy => ?_⟩
        obtain ⟨e2, hx⟩ := W.yld Hs' H' n x H2 k'.go.s k'.go.i hy
        subst e2
        have hxi : xs[n]? = some xs[n] := List.getElem?_eq_getElem hn
        have rx := hx _ (by rw [List.getElem?_map, hxi]; rfl)
        obtain ⟨ρ2, is, hg, hb⟩ := hs n xs[n] ρ' hxi hJ
        refine hg _ _ _ _ _ _ k' rx _ fun σ2 k2 _ => ?_
        refine hb _ _ _ ?_ _ _ _ k2
        refine ⟨fun ρ σ Hs H q k => ?_, fun d v Hs H q gg r => S.rt d v Hs H q (bgo gg) r, fun ρ σ Hs H q k => S.nx _ _ _ _ q (back k), fun ρ σ Hs H q k => ?_⟩
        · obtain ⟨ρ0, w0, j0⟩ := q
          obtain ⟨Hs3, k3⟩ := k.wk w0
          exact ⟨Hs3, ρ0, k3, j0⟩
        · obtain ⟨ρ0, w0, j0⟩ := q
          obtain ⟨Hs3, k3⟩ := k.wk w0
          exact ⟨Hs3, ρ0, k3, j0⟩
      · have en : n = xs.length := by omega
        subst en
        exact .inl ⟨W.stop Hs' H' _ k'.go.s k'.go.i (by rw [List.length_map]; exact Nat.le_refl _), S.nx _ _ _ _ (hd ρ' hJ) (back k')⟩
/-- while: J by a number that falls -/
theorem ds_while {tb : TS} (J : Nat → List Sl → Prop) (m0 : Nat) (h0 : ∃ ρ0, Wk ρ ρ0 ∧ J m0 ρ0)
    (hs : ∀ m ρ1, J m ρ1 → ∃ b, DT tt ρ1 b ∧ (b = true → DS tb ρ1 { nx := fun ρ' => ∃ ρ0 m', Wk ρ' ρ0 ∧ m' < m ∧ J m' ρ0, rt := E.rt, bk := E.nx, ct := fun ρ' => ∃ ρ0 m', Wk ρ' ρ0 ∧ m' < m ∧ J m' ρ0 }) ∧ (b = false → E.nx ρ1)) : DS (tWhile tt tb) ρ E := fun Hj Hi D S σ Hs H o => by
  refine ⟨fun m σ' H' => ∃ Hs' ρ', Ok Hj Hi Hs' H' σ' ρ' ∧ J m ρ', ?_, fun m σ' H' ⟨Hs', ρ', k', hJ⟩ => ?_⟩
  · obtain ⟨ρ0, w0, j0⟩ := h0
    obtain ⟨Hs', o'⟩ := o.wk w0
    exact ⟨m0, Hs', ρ0, o', j0⟩
  · obtain ⟨b, hb, h1, h2⟩ := hs m ρ' hJ
    refine hb _ _ _ _ _ k' _ fun Hs1 H1 g1 => ?_
    cases b with
    | true =>
      refine iteT ⟨fun σ2 H2 => ∃ m', m' < m ∧ ∃ Hs2 ρ2, Ok Hj Hi Hs2 H2 σ2 ρ2 ∧ J m' ρ2, fun _ _ z => z, ?_⟩
      refine h1 rfl _ _ _ ?_ _ _ _ (k'.up g1)
      refine ⟨fun ρ σ Hs H q k => ?_, S.rt, S.nx, fun ρ σ Hs H q k => ?_⟩
      · obtain ⟨ρ0, m', w0, lt, j0⟩ := q
        obtain ⟨Hs3, k3⟩ := k.wk w0
        exact ⟨m', lt, Hs3, ρ0, k3, j0⟩
      · obtain ⟨ρ0, m', w0, lt, j0⟩ := q
        obtain ⟨Hs3, k3⟩ := k.wk w0
        exact ⟨m', lt, Hs3, ρ0, k3, j0⟩
    | false => exact iteF (S.nx _ _ _ _ (h2 rfl) (k'.up g1))
end
/-! ### dicts of one's own -/
section
variable {ρ : List Sl} {td ty tv te : TE} {E : DEnd} {i : Nat} {ks : List Int} {n a b : Int} {kk : List (List Key)} {d : DV}
theorem ds_dnew (k : E.nx (ρ.set i (.mu none (.dci [])))) : DS (tAsg tDNewK (gName i)) ρ E := fun Hj Hi D S σ Hs H o p hp =>
  S.nx _ _ _ _ k (o.newM (Go.own o.go.i hp) hp (Evl.fresh_back o.go.i hp) upd_same (.dci (ks := [])) i)
theorem ds_dnewT (k : E.nx (ρ.set i (.mu none (.dic [])))) : DS (tAsg tDNewT (gName i)) ρ E := fun Hj Hi D S σ Hs H o p hp =>
  S.nx _ _ _ _ k (o.newM (Go.own o.go.i hp) hp (Evl.fresh_back o.go.i hp) upd_same (.dic (ks := [])) i)
def hasN {κ : Type} [DecidableEq κ] (ks : List κ) (n : κ) : Bool := decide (n ∈ ks)
theorem ite_has {κ : Type} [DecidableEq κ] (ks : List κ) (n : κ) {α : Type} {x y : α} : (if n ∈ ks then x else y) = if hasN ks n = true then x else y := by
  unfold hasN
  by_cases h : n ∈ ks
  · rw [if_pos h, decide_eq_true h, if_pos rfl]
  · rw [if_neg h, decide_eq_false h, if_neg Bool.false_ne_true]
def putN {κ : Type} [DecidableEq κ] (ks : List κ) (n : κ) : List κ := if n ∈ ks then ks else ks ++ [n]
theorem valV_keys {κ : Type} [DecidableEq κ] (n : κ) (f : κ → κ') [DecidableEq κ'] (hf : ∀ a b, f a = f b → a = b) : ∀ ks : List κ, valV (ks.map fun k => (f k, V.bl true)) (f n) = if n ∈ ks then some (V.bl true) else none
  | [] => rfl
  | k :: ks => by
    rw [List.map_cons]
    by_cases h : k = n
    · subst h
      rw [valV_pos rfl, if_pos List.mem_cons_self]
    · rw [valV_neg (fun z => h (hf _ _ z)), valV_keys n f hf ks]
      by_cases m : n ∈ ks
      · rw [if_pos m, if_pos (List.mem_cons_of_mem _ m)]
      · rw [if_neg m, if_neg (fun z => by
          rcases List.mem_cons.mp z with z | z
          · exact h z.symm
          · exact m z)]
theorem putK_keys {κ : Type} [DecidableEq κ] (n : κ) (f : κ → κ') [DecidableEq κ'] (hf : ∀ a b, f a = f b → a = b) (ks : List κ) : putK (ks.map fun k => (f k, V.bl true)) (f n) (V.bl true) = (putN ks n).map fun k => (f k, V.bl true) := by
  have h := valV_keys n f hf ks
  unfold putN
  by_cases m : n ∈ ks
  · rw [if_pos m]
    unfold putK
    rw [valV_any, h, if_pos m]
    show (if true = true then _ else _) = _
    rw [if_pos rfl, List.map_map]
    apply List.map_congr_left
    intro a _
    show (if f a = f n then (f a, V.bl true) else (f a, V.bl true)) = _
    split <;> rfl
  · rw [if_neg m, putK_new _ (by rw [h, if_neg m]), List.map_append]
    rfl
theorem de_dinI {ob : Option Addr} (e : ρ[i]? = some (.mu ob (.dci ks))) (h : DE ty ρ (.int n)) : DE (tDIn ty (tVar i)) ρ (.bl (decide (n ∈ ks))) := fun Hj Hi Hs H σ o Q q => h _ _ _ _ _ o _ fun v Hs1 H1 g1 rv => by
  obtain ⟨p, u, ea, _, _, h3, r, _⟩ := (o.up g1).sl i _ e
  cases r with
  | dci =>
    refine ⟨.ref p, ea, p, _, rfl, by rw [rv.int_inv]; exact DGet.k (k := Sum.inl n) h3, q _ _ _ g1 ?_⟩
    rw [valV_keys n Sum.inl (fun a b z => by injection z) ks]
    by_cases m : n ∈ ks
    · rw [if_pos m, decide_eq_true m]; exact .bl _
    · rw [if_neg m, decide_eq_false m]; exact .bl _
theorem ds_dputI {ob : Option Addr} (e : ρ[i]? = some (.mu ob (.dci ks))) (hv : DE tv ρ (.bl true)) (h : DE ty ρ (.int n)) (hz : ks.length < 100000) (k : E.nx (ρ.set i (.mu ob (.dci (putN ks n))))) : DS (sDPut (tVar i) ty tv) ρ E := fun Hj Hi D S σ Hs H o =>
  hv _ _ _ _ _ o _ fun v Hs1 H1 g1 rv => by
    have o1 := o.up g1
    obtain ⟨p, u, ea, _, _, h3, r, _⟩ := o1.sl i _ e
    cases r with
    | dci =>
      refine ⟨.ref p, ea, h _ _ _ _ _ o1 _ fun w Hs2 H2 g2 rw' => ⟨p, upd H2 p (.dK ((putN ks n).map fun k => (Sum.inl k, V.bl true))), rfl, ?_, ?_⟩⟩
      · rw [rw'.int_inv, rv.bl_inv, ← putK_keys n Sum.inl (fun a b z => by injection z) ks]
        exact DPut.k (k := Sum.inl n) (g2.h _ _ h3) (Evl.sz_lt (by rw [List.length_map]; exact hz))
      · exact S.nx _ _ _ _ k ((o1.up g2).chg e ea .dci)
theorem pair_key {H : Hp} {v : V} (r : Rp H v (.tup [.int a, .int b])) : ∃ p, v = .ref p ∧ H p = some (.tup (([Sum.inl a, Sum.inl b] : List Key).map kV)) := by
  obtain ⟨p, vs, e, h, rr⟩ := r.tup_inv
  have := rr.int_inv (xs := [a, b])
  subst this
  exact ⟨p, e, h⟩
theorem de_dniT {ob : Option Addr} (e : ρ[i]? = some (.mu ob (.dic kk))) (h : DE ty ρ (.tup [.int a, .int b])) : DE (tDNotIn ty (tVar i)) ρ (.bl (!hasN kk [Sum.inl a, Sum.inl b])) := fun Hj Hi Hs H σ o Q q => h _ _ _ _ _ o _ fun v Hs1 H1 g1 rv => by
  obtain ⟨p, u, ea, _, _, h3, r, _⟩ := (o.up g1).sl i _ e
  cases r with
  | dic =>
    obtain ⟨c, ec, hc⟩ := pair_key rv
    refine ⟨.ref p, ea, p, _, rfl, by rw [ec]; exact DGet.t (k := [Sum.inl a, Sum.inl b]) h3 (g1.i _ _ hc), q _ _ _ g1 ?_⟩
    have hv := valV_keys ([Sum.inl a, Sum.inl b] : List Key) id (fun a b z => z) kk
    have hv2 : valV (kk.map fun k => (k, V.bl true)) [Sum.inl a, Sum.inl b] = if hasN kk [Sum.inl a, Sum.inl b] = true then some (V.bl true) else none := hv.trans (ite_has _ _)
    rw [hv2]
    cases hasN kk [Sum.inl a, Sum.inl b]
    · exact .bl _
    · exact .bl _
theorem ds_dputT {ob : Option Addr} (e : ρ[i]? = some (.mu ob (.dic kk))) (hv : DE tv ρ (.bl true)) (h : DE ty ρ (.tup [.int a, .int b])) (hz : kk.length < 100000) (k : E.nx (ρ.set i (.mu ob (.dic (putN kk [Sum.inl a, Sum.inl b]))))) : DS (sDPut (tVar i) ty tv) ρ E := fun Hj Hi D S σ Hs H o =>
  hv _ _ _ _ _ o _ fun v Hs1 H1 g1 rv => by
    have o1 := o.up g1
    obtain ⟨p, u, ea, _, _, h3, r, _⟩ := o1.sl i _ e
    cases r with
    | dic =>
      refine ⟨.ref p, ea, h _ _ _ _ _ o1 _ fun w Hs2 H2 g2 rw' => ⟨p, upd H2 p (.dT ((putN kk [Sum.inl a, Sum.inl b]).map fun k => (k, V.bl true))), rfl, ?_, ?_⟩⟩
      · obtain ⟨c, ec, hc⟩ := pair_key rw'
        have hp := putK_keys ([Sum.inl a, Sum.inl b] : List Key) id (fun a b z => z) kk
        have hp2 : putK (kk.map fun k => (k, V.bl true)) [Sum.inl a, Sum.inl b] (V.bl true) = (putN kk [Sum.inl a, Sum.inl b]).map fun k => (k, V.bl true) := hp
        rw [ec, rv.bl_inv, ← hp2]
        exact DPut.t (k := [Sum.inl a, Sum.inl b]) (g2.h _ _ h3) (g2.i _ _ hc) (Evl.sz_lt (by rw [List.length_map]; exact hz))
      · exact S.nx _ _ _ _ k ((o1.up g2).chg e ea .dic)
end
/-! ### a def -/
def startR (N : List Str) (ds : List DV) : List Sl := ds.map Sl.val ++ List.replicate (N.length - ds.length) .any
theorem ok_start {Hs H : Hp} {N : List Str} {vs : List V} {ds : List DV} (e : Ex Hs H) (r : RpA Hs vs ds) : Ok Hs H Hs H (L2.start N vs) (startR N ds) where
  go := Go.refl e
  sl := fun i s h => by
    unfold startR at h
    by_cases hi : i < ds.length
    · rw [List.getElem?_append_left (by rw [List.length_map]; exact hi), List.getElem?_map, List.getElem?_eq_getElem hi] at h
      cases h
      obtain ⟨v, ev, rv⟩ := r.get (List.getElem?_eq_getElem hi)
      refine ⟨v, ?_, rv⟩
      unfold L2.start
      rw [List.getElem?_append_left (by rw [List.length_map, r.len]; exact hi), List.getElem?_map, ev]
      rfl
    · rw [List.getElem?_append_right (by rw [List.length_map]; omega), List.getElem?_replicate] at h
      split at h
      · cases h; trivial
      · cases h
  ap := fun i j _ _ m m' a ei _ _ _ => by
    unfold startR at ei
    by_cases hi : i < ds.length
    · rw [List.getElem?_append_left (by rw [List.length_map]; exact hi), List.getElem?_map, List.getElem?_eq_getElem hi] at ei
      cases ei
    · rw [List.getElem?_append_right (by rw [List.length_map]; omega), List.getElem?_replicate] at ei
      split at ei <;> cases ei
  len := by
    unfold L2.start startR
    rw [List.length_append, List.length_append, List.length_map, List.length_map, List.length_replicate, List.length_replicate, r.len]
section
variable {P : Program} {w : World} {K : PySem.W.Frag} {mg : Str → Option Value} {base : Heap}
/-- THE RULE of a def over data -/
theorem ok_def {α : Type} {enc : α → List DV} {pre : α → Prop} {val : α → DV} {x qual : Str} {params : Arguments} {body : List Stmt} {scope : Scope} {f : Addr} {fd : FuncData} {N ps : List Str} {k : Nat}
    (F : FunD K x qual params body scope [] [] f fd) (S : FnScope N ps scope) (hl : ∀ x, (enc x).length = ps.length)
    (hb : ∀ (cdv : Value) (A : Around) (outer : List Env) (s : Shared) (H : Hp) (E : XK), Room k (A.deeper (envOfC qual scope s.heap.objs.size f cdv)) → ∀ x, pre x →
      ∃ t, PSs (cxOf CX0 P w K mg base N qual scope f cdv A outer s H E).nox body t ∧ DS t (startR N (enc x)) { nx := fun _ => val x = .non, rt := fun d => d = val x }) : FnOk P w K mg base CX0 (k + 1) f fd ps (spD enc pre val) := by
  refine F.ok S (fun vs H Q E h => ?_) (fun cdv A outer s H vs Q E hr h => ?_)
  · obtain ⟨x, Hs, e, r, _⟩ := h
    rw [r.len, hl]
  · obtain ⟨x, Hs, e, r, hp, q⟩ := h
    obtain ⟨t, h1, h2⟩ := hb cdv A outer s H E hr x hp
    refine ⟨t, h1.nox, h2 Hs H _ ⟨fun ρ σ Hs' H' z o => ?_, fun d v Hs' H' z g rv => ?_, fun _ _ _ _ z => z.elim, fun _ _ _ _ z => z.elim⟩ _ _ _ (ok_start e r)⟩
    · exact q .non Hs' H' o.go (by rw [z]; exact .non)
    · exact q v Hs' H' g (by rw [← z]; exact rv)
end
end DL
end

section
set_option Elab.async false
set_option linter.all false
set_option maxRecDepth 100000
set_option maxHeartbeats 4000000
namespace DL
open PySem PySem.Spec PyProof.Rows L2
/-! ### built-in functions by data -/
section
variable {K : PySem.W.Frag} {ds es : List DV} {d x y : DV}
theorem rc_lenL : RC (fun xs H Q => ∃ p ys, xs = [V.ref p] ∧ (SqL K H p ys ∨ SqT K H p ys) ∧ Q (.int ys.length) H) [.lst ds] (.int (ds.length : Int)) := fun _ _ _ e r _ q => by
  obtain ⟨v, ev, rv⟩ := r.one_inv
  obtain ⟨p, vs, e2, hp, rr⟩ := rv.lst e
  refine ⟨p, vs, by rw [ev, e2], .inl (.inl (.inl hp)), q _ _ _ (Go.refl e) ?_⟩
  rw [rr.len]; exact .int _
theorem rc_lenT : RC (fun xs H Q => ∃ p ys, xs = [V.ref p] ∧ (SqL K H p ys ∨ SqT K H p ys) ∧ Q (.int ys.length) H) [.tup ds] (.int (ds.length : Int)) := fun _ _ _ e r _ q => by
  obtain ⟨v, ev, rv⟩ := r.one_inv
  obtain ⟨p, vs, e2, hp, rr⟩ := rv.tup e
  refine ⟨p, vs, by rw [ev, e2], .inr (.inl (.inl hp)), q _ _ _ (Go.refl e) ?_⟩
  rw [rr.len]; exact .int _
theorem rc_abs {i : Int} : RC (fun xs H Q => ∃ i, xs = [V.int i] ∧ Q (.int (if i < 0 then -i else i)) H) [.int i] (.int (if i < 0 then -i else i)) := fun _ _ _ e r _ q => by
  obtain ⟨v, ev, rv⟩ := r.one_inv
  exact ⟨i, by rw [ev, rv.int], q _ _ _ (Go.refl e) (.int _)⟩
theorem rc_int {i : Int} : RC (fun xs H Q => (∃ i, xs = [V.int i] ∧ Q (.int i) H) ∨ ∃ k, xs = [V.bl k] ∧ Q (.int (if k then 1 else 0)) H) [.int i] (.int i) := fun _ _ _ e r _ q => by
  obtain ⟨v, ev, rv⟩ := r.one_inv
  exact .inl ⟨i, by rw [ev, rv.int], q _ _ _ (Go.refl e) (.int _)⟩
theorem rc_max2 {i j : Int} : RC (fun xs H Q => ∃ i j, xs = [V.int i, V.int j] ∧ Q (.int (if j > i then j else i)) H) [.int i, .int j] (.int (if j > i then j else i)) := fun _ _ _ e r _ q => by
  obtain ⟨v, u, ev, rv, ru⟩ := r.two_inv
  exact ⟨i, j, by rw [ev, rv.int, ru.int], q _ _ _ (Go.refl e) (.int _)⟩
theorem rc_min2 {i j : Int} : RC (fun xs H Q => ∃ i j, xs = [V.int i, V.int j] ∧ Q (.int (if j < i then j else i)) H) [.int i, .int j] (.int (if j < i then j else i)) := fun _ _ _ e r _ q => by
  obtain ⟨v, u, ev, rv, ru⟩ := r.two_inv
  exact ⟨i, j, by rw [ev, rv.int, ru.int], q _ _ _ (Go.refl e) (.int _)⟩
theorem rc_sum {ns : List Int} : RC (rSum K) [.lst (ns.map DV.int)] (.int ns.sum) := fun _ _ _ e r _ q => by
  obtain ⟨v, ev, rv⟩ := r.one_inv
  obtain ⟨p, vs, e2, hp, rr⟩ := rv.lst e
  exact ⟨p, ns, by rw [ev, e2], by rw [← rr.int_inv]; exact .inl (.inl hp), q _ _ _ (Go.refl e) (.int _)⟩
theorem rc_all {bs : List Bool} : RC (rAll K) [.lst (bs.map DV.bl)] (.bl (bs.all id)) := fun _ _ _ e r _ q => by
  obtain ⟨v, ev, rv⟩ := r.one_inv
  obtain ⟨p, vs, e2, hp, rr⟩ := rv.lst e
  exact ⟨p, bs, by rw [ev, e2], by rw [← rr.bl_inv]; exact .inl (.inl hp), q _ _ _ (Go.refl e) (.bl _)⟩
theorem rc_minL {ns : List Int} {m : Int} (hm : m ∈ ns) (hle : ∀ y ∈ ns, m ≤ y) : RC (rMin K) [.lst (ns.map DV.int)] (.int m) := fun _ _ _ e r _ q => by
  obtain ⟨v, ev, rv⟩ := r.one_inv
  obtain ⟨p, vs, e2, hp, rr⟩ := rv.lst e
  refine ⟨p, ns, by rw [ev, e2], by rw [← rr.int_inv]; exact .inl (.inl hp), List.length_pos_of_mem hm, fun m' h1 h2 => q _ _ _ (Go.refl e) ?_⟩
  have : m' = m := Int.le_antisymm (h2 m hm) (hle m' h1)
  rw [this]; exact .int _
theorem rc_maxL {ns : List Int} {m : Int} (hm : m ∈ ns) (hle : ∀ y ∈ ns, y ≤ m) : RC (rMax K) [.lst (ns.map DV.int)] (.int m) := fun _ _ _ e r _ q => by
  obtain ⟨v, ev, rv⟩ := r.one_inv
  obtain ⟨p, vs, e2, hp, rr⟩ := rv.lst e
  refine ⟨p, ns, by rw [ev, e2], by rw [← rr.int_inv]; exact .inl (.inl hp), List.length_pos_of_mem hm, fun m' h1 h2 => q _ _ _ (Go.refl e) ?_⟩
  have : m' = m := Int.le_antisymm (hle m' h1) (h2 m hm)
  rw [this]; exact .int _
theorem rcn_sortI {ns ms : List Int} (hp : ms.Perm ns) (hs : ms.Pairwise (· ≤ ·)) : RCN (rSortedI K) [.lst (ns.map DV.int)] (ms.map DV.int) := fun Hs H _ e r _ q => by
  obtain ⟨v, ev, rv⟩ := r.one_inv
  obtain ⟨p, vs, e2, hp', rr⟩ := rv.lst e
  refine ⟨p, ns, by rw [ev, e2], by rw [← rr.int_inv]; exact .inl (.inl hp'), fun ns' n h1 h2 hn => ?_⟩
  have : ns' = ms := (h1.trans hp.symm).eq_of_pairwise (fun x y _ _ h1 h2 => Int.le_antisymm h1 h2) h2 hs
  subst this
  exact q n _ _ _ (Go.own e hn) hn (Evl.fresh_back e hn) upd_same (RpA.ints _)
/-! pairs -/
abbrev ePr (p : Int × Int) : DV := .tup [.int p.1, .int p.2]
def leP (a b : Int × Int) : Bool := decide (a.1 < b.1 ∨ (a.1 = b.1 ∧ a.2 ≤ b.2))
def srtP (ps : List (Int × Int)) : List (Int × Int) := ps.mergeSort leP
theorem leP_iff {a b : Int × Int} : leP a b = true ↔ (a.1 < b.1 ∨ (a.1 = b.1 ∧ a.2 ≤ b.2)) := decide_eq_true_iff
theorem leP_anti {a b : Int × Int} (h1 : leP a b = true) (h2 : leP b a = true) : a = b := by
  rw [leP_iff] at h1 h2
  obtain ⟨a1, a2⟩ := a
  obtain ⟨b1, b2⟩ := b
  simp only at h1 h2
  have e1 : a1 = b1 := by omega
  have e2 : a2 = b2 := by omega
  rw [e1, e2]
theorem srtP_perm (ps : List (Int × Int)) : (srtP ps).Perm ps := List.mergeSort_perm _ _
theorem srtP_sorted (ps : List (Int × Int)) : (srtP ps).Pairwise fun a b => leP a b = true := by
  refine List.pairwise_mergeSort (fun a b c h1 h2 => ?_) (fun a b => ?_) ps
  · rw [leP_iff] at h1 h2 ⊢; omega
  · have : leP a b = true ∨ leP b a = true := by rw [leP_iff, leP_iff]; omega
    rcases this with h | h <;> rw [h] <;> simp
theorem srtP_uniq {a b : List (Int × Int)} (hp : a.Perm b) (ha : a.Pairwise fun a b => leP a b = true) (hb : b.Pairwise fun a b => leP a b = true) : a = b :=
  hp.eq_of_pairwise (fun _ _ _ _ h1 h2 => leP_anti h1 h2) ha hb
theorem srtP_eq {a b : List (Int × Int)} (hp : a.Perm b) : srtP a = srtP b := srtP_uniq (((srtP_perm a).trans hp).trans (srtP_perm b).symm) (srtP_sorted a) (srtP_sorted b)
def prOf (H : Hp) : V → Int × Int
  | .ref t => match H t with
    | some (.tup [.int i, .int j]) => (i, j)
    | _ => (0, 0)
  | _ => (0, 0)
theorem pr_tup {H : Hp} {v : V} {p : Int × Int} (h : Rp H v (ePr p)) : ∃ t, v = .ref t ∧ H t = some (.tup [.int p.1, .int p.2]) := by
  obtain ⟨t, vs, e, h, r⟩ := h.tup_inv
  have := r.int_inv (xs := [p.1, p.2])
  subst this
  exact ⟨t, e, h⟩
theorem rpa_prs {Hs H : Hp} (e : Ex Hs H) : ∀ {vs : List V} {ps : List (Int × Int)}, RpA Hs vs (ps.map ePr) → vs.map (prOf H) = ps ∧ ∀ v ∈ vs, ∃ t, v = V.ref t ∧ H t = some (.tup [.int (prOf H v).1, .int (prOf H v).2]) ∧ Hs t = some (.tup [.int (prOf H v).1, .int (prOf H v).2])
  | [], [], _ => ⟨rfl, fun _ h => by cases h⟩
  | _, [], r => by cases r; exact ⟨rfl, fun _ h => by cases h⟩
  | [], p :: ps, r => by cases r
  | v :: vs, p :: ps, r => by
    cases r with
    | cons h r =>
      obtain ⟨t, e1, h1⟩ := pr_tup h
      obtain ⟨ih1, ih2⟩ := rpa_prs e r
      have h2 := e _ _ h1
      have e3 : prOf H v = p := by
        subst e1
        show (match H t with | some (.tup [.int i, .int j]) => (i, j) | _ => (0, 0)) = p
        rw [h2]
      refine ⟨by rw [List.map_cons, e3, ih1], fun u hu => ?_⟩
      rcases List.mem_cons.mp hu with rfl | hu
      · exact ⟨t, e1, by rw [e3]; exact h2, by rw [e3]; exact h1⟩
      · exact ih2 u hu
theorem rpa_back {Hs H : Hp} : ∀ {vs : List V}, (∀ v ∈ vs, ∃ t, v = V.ref t ∧ Hs t = some (.tup [.int (prOf H v).1, .int (prOf H v).2])) → RpA Hs vs ((vs.map (prOf H)).map ePr)
  | [], _ => .nil
  | v :: vs, h => by
    obtain ⟨t, e, ht⟩ := h v List.mem_cons_self
    refine .cons ?_ (rpa_back fun u hu => h u (List.mem_cons_of_mem _ hu))
    rw [e] at ht ⊢
    exact .tup ht (.cons (.int _) (.cons (.int _) .nil))
theorem rcn_sortP {ps : List (Int × Int)} : RCN (rSortedPO K) [.lst (ps.map ePr)] ((srtP ps).map ePr) := fun Hs H _ e r _ q => by
  obtain ⟨v, ev, rv⟩ := r.one_inv
  obtain ⟨p, vs, e2, hp', rr⟩ := rv.lst e
  obtain ⟨h1, h2⟩ := rpa_prs e rr
  refine ⟨p, vs, prOf H, by rw [ev, e2], .inl (.inl hp'), fun x hx => ?_, fun ys n hs st hn => ?_⟩
  · obtain ⟨t, e3, h3, _⟩ := h2 x hx
    exact ⟨t, e3, h3⟩
  · have perm : ys.Perm vs := st.perm
    have e4 : ys.map (prOf H) = srtP ps := by
      refine srtP_uniq (((perm.map (prOf H)).trans (by rw [h1])).trans (srtP_perm ps).symm) (List.pairwise_map.mpr (hs.imp fun {a b} hab => ?_)) (srtP_sorted ps)
      rw [leP_iff]
      have h5 : ltP (prOf H) b a = false := hab
      have h7 := SrtO.lexB_no.mp h5
      omega
    have h6 : RpA Hs ys ((ys.map (prOf H)).map ePr) := rpa_back fun u hu => by
      obtain ⟨t, e3, _, h3⟩ := h2 u (perm.mem_iff.mp hu)
      exact ⟨t, e3, h3⟩
    rw [e4] at h6
    exact q n ys _ _ (Go.own e hn) hn (Evl.fresh_back e hn) upd_same h6
/-! list(..), tuple(..) -/
theorem rcn_listL : RCN (fun xs H Q => ∃ p ys, xs = [V.ref p] ∧ (SqL K H p ys ∨ SqT K H p ys) ∧ ∀ l, H l = none → Q (.ref l) (upd H l (.lst ys))) [.lst ds] ds := fun _ _ _ e r _ q => by
  obtain ⟨v, ev, rv⟩ := r.one_inv
  obtain ⟨p, vs, e2, hp, rr⟩ := rv.lst e
  exact ⟨p, vs, by rw [ev, e2], .inl (.inl (.inl hp)), fun n hn => q n _ _ _ (Go.own e hn) hn (Evl.fresh_back e hn) upd_same rr⟩
theorem rcn_listT : RCN (fun xs H Q => ∃ p ys, xs = [V.ref p] ∧ (SqL K H p ys ∨ SqT K H p ys) ∧ ∀ l, H l = none → Q (.ref l) (upd H l (.lst ys))) [.tup ds] ds := fun _ _ _ e r _ q => by
  obtain ⟨v, ev, rv⟩ := r.one_inv
  obtain ⟨p, vs, e2, hp, rr⟩ := rv.tup e
  exact ⟨p, vs, by rw [ev, e2], .inr (.inl (.inl hp)), fun n hn => q n _ _ _ (Go.own e hn) hn (Evl.fresh_back e hn) upd_same rr⟩
theorem rc_tupL : RC (fun xs H Q => ∃ p ys, xs = [V.ref p] ∧ ((SqL K H p ys ∧ ∀ l, H l = none → Q (.ref l) (upd H l (.tup ys))) ∨ (SqT K H p ys ∧ Q (.ref p) H))) [.lst ds] (.tup ds) := fun _ _ _ e r _ q => by
  obtain ⟨v, ev, rv⟩ := r.one_inv
  obtain ⟨p, vs, e2, hp, rr⟩ := rv.lst e
  exact ⟨p, vs, by rw [ev, e2], .inl ⟨.inl (.inl hp), fun n hn => q _ _ _ (Go.new e hn) (.tup upd_same (rr.mono (Evl.Ex.new (Evl.fresh_back e hn))))⟩⟩
theorem rc_tupT : RC (fun xs H Q => ∃ p ys, xs = [V.ref p] ∧ ((SqL K H p ys ∧ ∀ l, H l = none → Q (.ref l) (upd H l (.tup ys))) ∨ (SqT K H p ys ∧ Q (.ref p) H))) [.tup ds] (.tup ds) := fun _ _ _ e r _ q => by
  obtain ⟨v, ev, rv⟩ := r.one_inv
  rcases rv with rv | ⟨_, _, _, _, z, _⟩
  · obtain ⟨p, vs, e2, hp, rr⟩ := rv.tup_inv
    exact ⟨p, vs, by rw [ev, e2], .inr ⟨.inl (.inl (e _ _ hp)), q _ _ _ (Go.refl e) (.tup hp rr)⟩⟩
  · cases z
end
/-! list(range(..)), range(..) kept -/
section
variable {K : PySem.W.Frag} {ρ : List Sl} {ta tb : TE} {n m : Int}
theorem rgV_rp {H : Hp} (a b : Int) : RpA H (rgV a b) (rgD a (b - a).toNat) := by
  have e : rgV a b = ((List.range (b - a).toNat).map fun i : Nat => a + (i : Int)).map V.int := by
    unfold rgV; rw [List.map_map]; rfl
  have e2 : rgD a (b - a).toNat = ((List.range (b - a).toNat).map fun i : Nat => a + (i : Int)).map DV.int := by
    unfold rgD; rw [List.map_map]; rfl
  rw [e, e2]
  exact RpA.ints _
theorem rgV_rp0 {H : Hp} (b : Int) : RpA H (rgV 0 b) (rgD 0 b.toNat) := by
  have h := rgV_rp (H := H) 0 b
  rw [show b - 0 = b by omega] at h
  exact h
theorem dn_lr1 (h : DE ta ρ (.int n)) (hb : RgOk 0 n) : DN (tLstRg (tRg1 ta)) ρ (rgD 0 n.toNat) := fun _ _ _ _ _ k _ q => h _ _ _ _ _ k _ fun v _ _ g r => ⟨n, r.int_inv, hb, fun p hp =>
  q p _ _ _ (g.trans (Go.own g.i hp)) (g.free hp) (Evl.fresh_back g.i hp) upd_same (rgV_rp0 _)⟩
theorem dn_lr2 (h : DE ta ρ (.int n)) (h2 : DE tb ρ (.int m)) (hb : RgOk n m) : DN (tLstRg (tRg2 ta tb)) ρ (rgD n (m - n).toNat) := fun _ _ _ _ _ k _ q => h _ _ _ _ _ k _ fun v _ _ g r => h2 _ _ _ _ _ (k.up g) _ fun w _ _ g2 r2 => ⟨n, m, r.int_inv, r2.int_inv, hb, fun p hp =>
  q p _ _ _ ((g.trans g2).trans (Go.own g2.i hp)) ((g.trans g2).free hp) (Evl.fresh_back g2.i hp) upd_same (rgV_rp _ _)⟩
end
/-! in, not in: flat things -/
section
variable {K : PySem.W.Frag} {ds : List DV} {b : Bool}
theorem inV_int (i : Int) : ∀ ns : List Int, inV (.int i) (ns.map V.int) = decide (i ∈ ns)
  | [] => rfl
  | n :: ns => by
    have ih := inV_int i ns
    unfold inV at ih ⊢
    rw [List.map_cons, List.any_cons, ih]
    show ((n == i) || decide (i ∈ ns)) = decide (i ∈ n :: ns)
    by_cases h : n = i
    · subst h; simp
    · rw [beq_eq_false_iff_ne.mpr h, Bool.false_or]
      exact decide_eq_decide.mpr ⟨fun m => List.mem_cons_of_mem _ m, fun m => (List.mem_cons.mp m).resolve_left fun z => h z.symm⟩
theorem inV_str (i : Str) : ∀ ns : List Str, inV (.str i) (ns.map V.str) = decide (i ∈ ns)
  | [] => rfl
  | n :: ns => by
    have ih := inV_str i ns
    unfold inV at ih ⊢
    rw [List.map_cons, List.any_cons, ih]
    show ((n == i) || decide (i ∈ ns)) = decide (i ∈ n :: ns)
    by_cases h : n = i
    · subst h; simp
    · rw [beq_eq_false_iff_ne.mpr h, Bool.false_or]
      exact decide_eq_decide.mpr ⟨fun m => List.mem_cons_of_mem _ m, fun m => (List.mem_cons.mp m).resolve_left fun z => h z.symm⟩
theorem flat_int (ns : List Int) : (ns.map V.int).all flatV = true := by rw [List.all_eq_true]; intro x h; obtain ⟨i, _, rfl⟩ := List.mem_map.mp h; rfl
theorem flat_str (ns : List Str) : (ns.map V.str).all flatV = true := by rw [List.all_eq_true]; intro x h; obtain ⟨i, _, rfl⟩ := List.mem_map.mp h; rfl
theorem RpA.str_inv {H : Hp} : ∀ {xs : List Str} {vs : List V}, RpA H vs (xs.map DV.str) → vs = xs.map V.str
  | [], _, h => by cases h; rfl
  | x :: xs, _, h => by
    cases h with
    | cons h r => rw [Rp.str_inv h, RpA.str_inv r]; rfl
theorem ro_inT {i : Int} {ns : List Int} : RO (rIn K false) (.int i) (.tup (ns.map DV.int)) (.bl (decide (i ∈ ns))) := fun _ _ _ _ e a b _ q => by
  obtain ⟨p, vs, e2, hp, rr⟩ := b.tup e
  rw [a.int]
  have := rr.int_inv
  subst this
  exact ⟨p, _, e2, .inr (.inl (.inl hp)), rfl, flat_int ns, q _ _ _ (Go.refl e) (by rw [inV_int]; exact .bl _)⟩
theorem ro_inL {i : Int} {ns : List Int} : RO (rIn K false) (.int i) (.lst (ns.map DV.int)) (.bl (decide (i ∈ ns))) := fun _ _ _ _ e a b _ q => by
  obtain ⟨p, vs, e2, hp, rr⟩ := b.lst e
  rw [a.int]
  have := rr.int_inv
  subst this
  exact ⟨p, _, e2, .inl (.inl (.inl hp)), rfl, flat_int ns, q _ _ _ (Go.refl e) (by rw [inV_int]; exact .bl _)⟩
theorem ro_niL {i : Int} {ns : List Int} : RO (rIn K true) (.int i) (.lst (ns.map DV.int)) (.bl (!decide (i ∈ ns))) := fun _ _ _ _ e a b _ q => by
  obtain ⟨p, vs, e2, hp, rr⟩ := b.lst e
  rw [a.int]
  have := rr.int_inv
  subst this
  exact ⟨p, _, e2, .inl (.inl (.inl hp)), rfl, flat_int ns, q _ _ _ (Go.refl e) (by rw [inV_int]; exact .bl _)⟩
theorem ro_inS {i : Str} {ns : List Str} : RO (rIn K false) (.str i) (.tup (ns.map DV.str)) (.bl (decide (i ∈ ns))) := fun _ _ _ _ e a b _ q => by
  obtain ⟨p, vs, e2, hp, rr⟩ := b.tup e
  rw [a.str]
  have := rr.str_inv
  subst this
  exact ⟨p, _, e2, .inr (.inl (.inl hp)), rfl, flat_str ns, q _ _ _ (Go.refl e) (by rw [inV_str]; exact .bl _)⟩
end
/-! ### equality at any depth -/
mutual
def py : DV → PyData
  | .bl b => .bool b
  | .int i => .int i
  | .str s => .str s
  | .lst l => .list (pyA l)
  | .tup l => .tuple (pyA l)
  | _ => .none
def pyA : List DV → List PyData
  | [] => []
  | d :: l => py d :: pyA l
end
/-- plain data, no deeper than n; with no bools -/
inductive Pl : Nat → DV → Prop
  | int (n : Nat) (i : Int) : Pl n (.int i)
  | str (n : Nat) (s : Str) (h : PySem.PyData.canLay0 (.str s) = true) : Pl n (.str s)
  | lst (n : Nat) (l : List DV) (h : ∀ d ∈ l, Pl n d) : Pl (n + 1) (.lst l)
  | tup (n : Nat) (l : List DV) (h : ∀ d ∈ l, Pl n d) : Pl (n + 1) (.tup l)
theorem pyA_lay {n : Nat} : ∀ {l : List DV}, (∀ d ∈ l, (py d).canLay0 = true ∧ (py d).depth ≤ n) → PySem.PyData.canLayAll0 (pyA l) = true ∧ PySem.PyData.depthAll (pyA l) ≤ n
  | [], _ => ⟨by unfold pyA PySem.PyData.canLayAll0; rfl, by unfold pyA PySem.PyData.depthAll; omega⟩
  | d :: l, h => by
    obtain ⟨h1, h2⟩ := h d List.mem_cons_self
    obtain ⟨h3, h4⟩ := pyA_lay (n := n) (l := l) fun d hd => h d (List.mem_cons_of_mem _ hd)
    refine ⟨?_, ?_⟩
    · unfold pyA PySem.PyData.canLayAll0; rw [h1, h3]; rfl
    · unfold pyA PySem.PyData.depthAll; omega
theorem Pl.lay : ∀ {n : Nat} {d : DV}, Pl n d → (py d).canLay0 = true ∧ (py d).depth ≤ n := by
  intro n d h
  induction h with
  | int n i => exact ⟨by unfold py PySem.PyData.canLay0; rfl, by unfold py PySem.PyData.depth; omega⟩
  | str n s h => exact ⟨by unfold py; exact h, by unfold py PySem.PyData.depth; omega⟩
  | lst n l h ih =>
    obtain ⟨h1, h2⟩ := pyA_lay ih
    exact ⟨by unfold py PySem.PyData.canLay0; exact h1, by unfold py PySem.PyData.depth; omega⟩
  | tup n l h ih =>
    obtain ⟨h1, h2⟩ := pyA_lay ih
    exact ⟨by unfold py PySem.PyData.canLay0; exact h1, by unfold py PySem.PyData.depth; omega⟩
theorem Pl.shaped {n : Nat} {d : DV} (h : Pl n d) (hn : n ≤ 64) : SeqAt.shaped (py d) = true := by
  obtain ⟨h1, h2⟩ := h.lay
  show ((py d).canLay0 && decide ((py d).depth ≤ 64)) = true
  rw [h1, decide_eq_true (by omega)]; rfl
mutual
theorem eqv_py : ∀ (n : Nat) (d e : DV), Pl n d → Pl n e → (PyData.eqv (py d) (py e) = true ↔ d = e)
  | n, .int i, e, _, he => by
    cases he with
    | int _ j => unfold py PyData.eqv; rw [beq_iff_eq]; exact ⟨fun h => by rw [h], fun h => by injection h⟩
    | str _ s h => unfold py PyData.eqv; exact ⟨fun h => (by cases h), fun h => (by cases h)⟩
    | lst _ l h => unfold py PyData.eqv; exact ⟨fun h => (by cases h), fun h => (by cases h)⟩
    | tup _ l h => unfold py PyData.eqv; exact ⟨fun h => (by cases h), fun h => (by cases h)⟩
  | n, .str i, e, _, he => by
    cases he with
    | int _ j => unfold py PyData.eqv; exact ⟨fun h => (by cases h), fun h => (by cases h)⟩
    | str _ s h => unfold py PyData.eqv; rw [beq_iff_eq]; exact ⟨fun h => by rw [h], fun h => by injection h⟩
    | lst _ l h => unfold py PyData.eqv; exact ⟨fun h => (by cases h), fun h => (by cases h)⟩
    | tup _ l h => unfold py PyData.eqv; exact ⟨fun h => (by cases h), fun h => (by cases h)⟩
  | n, .lst l, e, hd, he => by
    cases hd with
    | lst m l hl =>
      cases he with
      | int _ j => unfold py PyData.eqv; exact ⟨fun h => (by cases h), fun h => (by cases h)⟩
      | str _ s h => unfold py PyData.eqv; exact ⟨fun h => (by cases h), fun h => (by cases h)⟩
      | lst _ l2 h2 => unfold py PyData.eqv; rw [eqv_pyA m l l2 hl h2]; exact ⟨fun h => by rw [h], fun h => by injection h⟩
      | tup _ l h => unfold py PyData.eqv; exact ⟨fun h => (by cases h), fun h => (by cases h)⟩
  | n, .tup l, e, hd, he => by
    cases hd with
    | tup m l hl =>
      cases he with
      | int _ j => unfold py PyData.eqv; exact ⟨fun h => (by cases h), fun h => (by cases h)⟩
      | str _ s h => unfold py PyData.eqv; exact ⟨fun h => (by cases h), fun h => (by cases h)⟩
      | lst _ l h => unfold py PyData.eqv; exact ⟨fun h => (by cases h), fun h => (by cases h)⟩
      | tup _ l2 h2 => unfold py PyData.eqv; rw [eqv_pyA m l l2 hl h2]; exact ⟨fun h => by rw [h], fun h => by injection h⟩
  | n, .non, e, hd, _ => by cases hd
  | n, .bl _, e, hd, _ => by cases hd
  | n, .rng _ _, e, hd, _ => by cases hd
  | n, .ins _ _ _, e, hd, _ => by cases hd
  | n, .ty _, e, hd, _ => by cases hd
  | n, .cls _, e, hd, _ => by cases hd
theorem eqv_pyA : ∀ (n : Nat) (l m : List DV), (∀ d ∈ l, Pl n d) → (∀ d ∈ m, Pl n d) → (PyData.eqvAll (pyA l) (pyA m) = true ↔ l = m)
  | _, [], [], _, _ => by unfold pyA PyData.eqvAll; exact ⟨fun _ => rfl, fun _ => rfl⟩
  | _, [], _ :: _, _, _ => by unfold pyA PyData.eqvAll; exact ⟨fun h => (by cases h), fun h => (by cases h)⟩
  | _, _ :: _, [], _, _ => by unfold pyA PyData.eqvAll; exact ⟨fun h => (by cases h), fun h => (by cases h)⟩
  | n, d :: l, e :: m, hl, hm => by
    unfold pyA PyData.eqvAll
    rw [Bool.and_eq_true, eqv_py n d e (hl d List.mem_cons_self) (hm e List.mem_cons_self), eqv_pyA n l m (fun z hz => hl z (List.mem_cons_of_mem _ hz)) fun z hz => hm z (List.mem_cons_of_mem _ hz)]
    exact ⟨fun ⟨a, b⟩ => by rw [a, b], fun h => by injection h with a b; exact ⟨a, b⟩⟩
end
mutual
theorem dp_of {K : PySem.W.Frag} {H : Hp} : ∀ (d : DV) (n : Nat) (v : V), Pl n d → Rp H v d → Dp K H v (py d)
  | .int i, _, v, _, r => by rw [r.int_inv]; unfold py; exact .int i
  | .str i, _, v, _, r => by rw [r.str_inv]; unfold py; exact .str i
  | .lst l, n, v, p, r => by
    obtain ⟨a, vs, e, h, rr⟩ := r.lst_inv
    rw [e]; unfold py
    cases p with
    | lst m l hl => exact .lst (.inl (.inl h)) (dpa_of l m vs hl rr)
  | .tup l, n, v, p, r => by
    obtain ⟨a, vs, e, h, rr⟩ := r.tup_inv
    rw [e]; unfold py
    cases p with
    | tup m l hl => exact .tup (.inl (.inl h)) (dpa_of l m vs hl rr)
  | .non, _, v, p, _ => by cases p
  | .bl _, _, v, p, _ => by cases p
  | .rng _ _, _, v, p, _ => by cases p
  | .ins _ _ _, _, v, p, _ => by cases p
  | .ty _, _, v, p, _ => by cases p
  | .cls _, _, v, p, _ => by cases p
theorem dpa_of {K : PySem.W.Frag} {H : Hp} : ∀ (l : List DV) (n : Nat) (vs : List V), (∀ d ∈ l, Pl n d) → RpA H vs l → DpAll K H vs (pyA l)
  | [], _, _, _, r => by cases r; unfold pyA; exact .nil
  | d :: l, n, _, h, r => by
    cases r with
    | cons r rr => unfold pyA; exact .cons (dp_of d n _ (h d List.mem_cons_self) r) (dpa_of l n _ (fun z hz => h z (List.mem_cons_of_mem _ hz)) rr)
end
section
variable {K : PySem.W.Frag} {x y : DV} {n : Nat} {b : Bool} {ds : List DV}
theorem Rv.dp {Hs H : Hp} {v : V} (e : Ex Hs H) (p : Pl n x) (h : Rv Hs H v x) : Dp K H v (py x) := by
  rcases h with h | ⟨a, vs, ds, e1, e2, h, r⟩
  · exact dp_of x n v p (h.mono e)
  · subst e1 e2
    cases p with
    | lst m l hl => unfold py; exact .lst (.inl (.inl h)) (dpa_of ds m vs hl (r.mono e))
theorem eqv_b (p : Pl n x) (p2 : Pl n y) (hb : b = true ↔ x = y) : PyData.eqv (py x) (py y) = b := by
  have h := eqv_py n x y p p2
  cases hv : PyData.eqv (py x) (py y) with
  | true => exact (hb.mpr (h.mp hv)).symm
  | false =>
    cases b with
    | false => rfl
    | true =>
      have := h.mpr (hb.mp rfl)
      rw [hv] at this; exact this
theorem ro_eqD (hn : n ≤ 64) (p : Pl n x) (p2 : Pl n y) (hb : b = true ↔ x = y) : RO (rEqD K) x y (.bl b) := fun _ _ _ _ e a c _ q =>
  ⟨_, _, a.dp e p, c.dp e p2, p.shaped hn, p2.shaped hn, q _ _ _ (Go.refl e) (by rw [eqv_b p p2 hb]; exact .bl _)⟩
theorem ro_neD (hn : n ≤ 64) (p : Pl n x) (p2 : Pl n y) (hb : b = true ↔ x = y) : RO (rNeD K) x y (.bl (!b)) := fun _ _ _ _ e a c _ q =>
  ⟨_, _, a.dp e p, c.dp e p2, p.shaped hn, p2.shaped hn, q _ _ _ (Go.refl e) (by rw [eqv_b p p2 hb]; exact .bl _)⟩
theorem any_py (p : Pl n x) : ∀ {ds : List DV}, (∀ d ∈ ds, Pl n d) → (b = true ↔ x ∈ ds) → ((pyA ds).any fun z => PyData.eqv z (py x)) = b := by
  intro ds
  induction ds generalizing b with
  | nil =>
    intro _ hb
    unfold pyA
    cases b with
    | false => rfl
    | true => exact absurd (hb.mp rfl) (by simp)
  | cons d ds ih =>
    intro h hb
    unfold pyA
    rw [List.any_cons]
    by_cases hx : d = x
    · subst hx
      rw [(eqv_py n d d p p).mpr rfl, Bool.true_or]
      exact (hb.mpr List.mem_cons_self).symm
    · have : PyData.eqv (py d) (py x) = false := by
        cases hv : PyData.eqv (py d) (py x) with
        | false => rfl
        | true => exact absurd ((eqv_py n d x (h d List.mem_cons_self) p).mp hv) hx
      rw [this, Bool.false_or]
      exact ih (fun z hz => h z (List.mem_cons_of_mem _ hz)) ⟨fun hh => (List.mem_cons.mp (hb.mp hh)).resolve_left fun z => hx z.symm, fun m => hb.mpr (List.mem_cons_of_mem _ m)⟩
theorem ro_inD (hn : n + 1 ≤ 64) (p : Pl n x) (p2 : ∀ d ∈ ds, Pl n d) (hb : b = true ↔ x ∈ ds) : RO (rInD K) x (.lst ds) (.bl b) := fun _ _ _ _ e a c _ q =>
  ⟨_, pyA ds, a.dp e p, by have := c.dp (K := K) e (Pl.lst n ds p2); unfold py at this; exact this, p.shaped (by omega), by have := (Pl.lst n ds p2).shaped hn; unfold py at this; exact this, q _ _ _ (Go.refl e) (by rw [any_py p p2 hb]; exact .bl _)⟩
theorem ro_niD (hn : n + 1 ≤ 64) (p : Pl n x) (p2 : ∀ d ∈ ds, Pl n d) (hb : b = true ↔ x ∈ ds) : RO (rNotInD K) x (.lst ds) (.bl (!b)) := fun _ _ _ _ e a c _ q =>
  ⟨_, pyA ds, a.dp e p, by have := c.dp (K := K) e (Pl.lst n ds p2); unfold py at this; exact this, p.shaped (by omega), by have := (Pl.lst n ds p2).shaped hn; unfold py at this; exact this, q _ _ _ (Go.refl e) (by rw [any_py p p2 hb]; exact .bl _)⟩
end
/-! ### isinstance -/
section
variable {K : PySem.W.Frag} {x : DV} {b : Bool} {ts : List String}
inductive TyD : DV → String → Prop
  | int (i : Int) : TyD (.int i) "int"
  | bl (i : Bool) : TyD (.bl i) "bool"
  | str (i : Str) : TyD (.str i) "str"
  | lst (l : List DV) : TyD (.lst l) "list"
  | tup (l : List DV) : TyD (.tup l) "tuple"
theorem TyD.tx {Hs H : Hp} {v : V} {t : String} (e : Ex Hs H) (h : TyD x t) (r : Rv Hs H v x) : TyX K H v (.type t) := by
  cases h with
  | int i => rw [r.int]; exact .base (.int i)
  | bl i => rw [r.bl]; exact .base (.bl i)
  | str i => rw [r.str]; exact .base (.str i)
  | lst l => obtain ⟨a, vs, e1, h, _⟩ := r.lst e; rw [e1]; exact .base (.lst h)
  | tup l => obtain ⟨a, vs, e1, h, _⟩ := r.tup e; rw [e1]; exact .base (.tup h)
theorem rc_isi {t c : String} (h : TyD x t) (hk : kitB t c = some b) : RC (rIsi K) [x, .ty c] (.bl b) := fun _ _ _ e r _ q => by
  obtain ⟨v, u, ev, rv, ru⟩ := r.two_inv
  rw [ru.ty] at ev
  exact ⟨v, .ty c, .type t, .type c, b, ev, .ty c, h.tx e rv, kit_ty hk, q _ _ _ (Go.refl e) (.bl _)⟩
theorem tys_inv {H : Hp} : ∀ {ts : List String} {vs : List V}, RpA H vs (ts.map DV.ty) → vs = ts.map V.ty
  | [], _, h => by cases h; rfl
  | x :: xs, _, h => by
    cases h with
    | cons h r => rw [Rp.ty_inv h, tys_inv r]; rfl
theorem tys_cls : ∀ ts : List String, Paired ClsV (ts.map V.ty) (ts.map Value.type)
  | [] => .nil
  | t :: ts => .cons (.ty t) (tys_cls ts)
theorem rc_isiT {t : String} (h : TyD x t) (hk : PySem.W.kitAny K (.type t) (ts.map Value.type) = some b) : RC (rIsiT K) [x, .tup (ts.map DV.ty)] (.bl b) := fun _ _ _ e r _ q => by
  obtain ⟨v, u, ev, rv, ru⟩ := r.two_inv
  obtain ⟨p, vs, e1, hp, rr⟩ := ru.tup e
  have := tys_inv rr
  subst this
  rw [e1] at ev
  exact ⟨v, p, _, .type t, _, b, ev, hp, tys_cls ts, h.tx e rv, hk, q _ _ _ (Go.refl e) (.bl _)⟩
end
end DL
end

section
set_option Elab.async false
set_option linter.all false
set_option maxRecDepth 100000
set_option maxHeartbeats 4000000
namespace DL
open PySem PySem.Spec PyProof.Rows L2
/-! ### rules of the walk that were lacking -/
theorem args_max4 (a b c d : Value) : argsOk "max" ⟨[a, b, c, d], []⟩ := by unfold argsOk; kernel_rfl
section
variable {prog : PySem.Program} {w : World} {A : Around} {E : Value → Shared → Prop} {s : Shared}
theorem call_max_four {a b c d : Value} {Q : Value → Shared → Prop}
    (h : wpAny (model prog w) A.in1 (pyIter (.ref s.heap.objs.size)) (fun it s₂ => ∃ I fp wr n P St bt, it = .ref I ∧ PySem.Walks prog w A.in1 I fp wr n P St ∧ St 0 s₂.heap ∧ (∀ b ∈ fp, b < s₂.heap.objs.size) ∧ 0 < n ∧ CmpOf prog w A.in1 .Gt P bt ∧
      ∀ v h' tk, P (argBest bt (n - 1)) v → (∀ b o, b ∉ wr → s₂.heap.get? b = some o → h'.get? b = some o) → Q v { s₂ with heap := h', toks := tk }) E
      { s with heap := s.heap.push { cls := .type "tuple", data := .seq #[a, b, c, d] } }) :
    wpAny (model prog w) A (call (.builtin "max") [a, b, c, d]) Q E s := by
  have hname : (toString "max" ++ toString ".loop" : String) = "max.loop" := by decide
  refine call_function_tree F.kind_max F.plain_max F.entry_max (args_max4 _ _ _ _) ?_
  show wpAny _ A.in1 (Builtin.Builtins.bindParams "max" ["key", "default"] 0 ⟨[], []⟩ >>= _) _ _ s
  refine wpAny_bind (wpAny_of_eq (show Builtin.Builtins.bindParams "max" ["key", "default"] 0 ⟨[], []⟩ = pure [none, none] from rfl) ?_)
  show wpAny _ A.in1 (newTuple [a, b, c, d] >>= _) _ _ s
  refine wpAny_bind (wpAny_newObj_type ?_)
  refine wpAny_bind (wpAny_mono h (fun it s₂ h₂ => ?_) fun _ _ e => e)
  obtain ⟨I, fp, wr, n, P, St, bt, rfl, W, hst, hfp, hn, hcmp, hQ⟩ := h₂
  refine wpAny_bind (wpAny_newObj_type ?_)
  have hSf : s₂.heap.objs.size ∉ fp := fun hm => Nat.lt_irrefl _ (hfp _ hm)
  rw [hname]
  refine wpAny_pure ⟨plainId_quiet F.plain_max_loop _, codeAny_max_loop_first W bt hcmp s₂.heap.objs.size hSf hn (W.frame _ _ _ hst fun b _ o e => Heap.get?_push_of_some _ e) (Heap.get?_push_size _ rfl) fun v h' tk hP hk => ?_⟩
  exact hQ v h' tk hP fun b o hbw e => hk b o hbw (Nat.ne_of_lt (Heap.lt_size e)) (Heap.get?_push_of_some _ e)
theorem max_four_ints {a b c d : Int} {t u x y : Tok} {Q : Value → Shared → Prop} (hh : A.handled = none)
    (h : ∀ h' tk m z, (∀ d o, s.heap.get? d = some o → h'.get? d = some o) → m ∈ [a, b, c, d] → (∀ n ∈ [a, b, c, d], n ≤ m) → Q (.int m z) { s with heap := h', toks := tk }) :
    wpAny (model prog w) A (call (.builtin "max") [.int a t, .int b u, .int c x, .int d y]) Q E s := by
  have hT : (s.heap.push { cls := .type "tuple", data := .seq #[.int a t, .int b u, .int c x, .int d y] }).IsTuple s.heap.objs.size (intItems #[(a, t), (b, u), (c, x), (d, y)]) := ⟨_, Heap.get?_push_size _ rfl, rfl, 0, by simp [intItems]⟩
  refine call_max_four (wpAny_pyIter_tuple hT ?_)
  have hsz : (s.heap.push { cls := .type "tuple", data := .seq #[.int a t, .int b u, .int c x, .int d y] }).objs.size = s.heap.objs.size + 1 := Heap.size_push ..
  refine ⟨_, [_, s.heap.objs.size], [_], _, _, _, _, rfl, PySem.Walks.tuple (A := A.in1) hh _ s.heap.objs.size (by rw [hsz]; exact Nat.ne_of_lt (Nat.lt_succ_self _)) (intItems #[(a, t), (b, u), (c, x), (d, y)]),
    ⟨⟨_, Heap.get?_push_size _ rfl, rfl, rfl⟩, hT.push _⟩, fun d hd => ?_, by simp [intItems], CmpOf.ints_gt (numAt #[(a, t), (b, u), (c, x), (d, y)]) (fun _ _ => intItems_at), fun v h' tk hP hk => ?_⟩
  · show d < ((s.heap.push _).push _).objs.size
    rw [Heap.size_push, hsz]
    rcases List.mem_cons.mp hd with rfl | hd
    · rw [hsz]; exact Nat.lt_succ_self _
    · rcases List.mem_cons.mp hd with rfl | hd
      · exact Nat.lt_succ_of_lt (Nat.lt_succ_self _)
      · cases hd
  · have hold : ∀ d o, s.heap.get? d = some o → h'.get? d = some o := fun d o e => by
      refine hk d o (fun hm => ?_) (Heap.get?_push_of_some _ (Heap.get?_push_of_some _ e))
      rcases List.mem_cons.mp hm with e1 | hm
      · have := Heap.lt_size e; rw [e1, hsz] at this; exact Nat.lt_irrefl _ (Nat.lt_of_succ_lt this)
      · cases hm
    have hb := argBest_gt (numAt #[(a, t), (b, u), (c, x), (d, y)]) 3
    generalize hi : argBest (fun i j => decide (numAt #[(a, t), (b, u), (c, x), (d, y)] i > numAt #[(a, t), (b, u), (c, x), (d, y)] j)) 3 = i at hb
    have hP' : (intItems #[(a, t), (b, u), (c, x), (d, y)])[i]? = some v := by
      rw [← hi]
      have hsz2 : (intItems #[(a, t), (b, u), (c, x), (d, y)]).size - 1 = 3 := by simp [intItems]
      rw [← hsz2]; exact hP
    obtain ⟨h1, h2⟩ := hb
    have q0 := h2 0 (by omega)
    have q1 := h2 1 (by omega)
    have q2 := h2 2 (by omega)
    have q3 := h2 3 (by omega)
    simp [numAt] at q0 q1 q2 q3
    have fin : ∀ m z, v = Value.int m z → m ∈ [a, b, c, d] → a ≤ m → b ≤ m → c ≤ m → d ≤ m → Q v { s with heap := h', toks := tk } := fun m z e hm p0 p1 p2 p3 => by
      subst e
      refine h h' tk m z hold hm fun n hn => ?_
      simp only [List.mem_cons, List.not_mem_nil, or_false] at hn
      rcases hn with rfl | rfl | rfl | rfl <;> assumption
    match i, h1, hP', q0, q1, q2, q3 with
    | 0, _, hP', q0, q1, q2, q3 => exact fin a t (by simpa [intItems] using hP'.symm) (by simp) (by simpa using q0) (by simpa using q1) (by simpa using q2) (by simpa using q3)
    | 1, _, hP', q0, q1, q2, q3 => exact fin b u (by simpa [intItems] using hP'.symm) (by simp) (by simpa using q0) (by simpa using q1) (by simpa using q2) (by simpa using q3)
    | 2, _, hP', q0, q1, q2, q3 => exact fin c x (by simpa [intItems] using hP'.symm) (by simp) (by simpa using q0) (by simpa using q1) (by simpa using q2) (by simpa using q3)
    | 3, _, hP', q0, q1, q2, q3 => exact fin d y (by simpa [intItems] using hP'.symm) (by simp) (by simpa using q0) (by simpa using q1) (by simpa using q2) (by simpa using q3)
    | n + 4, h1, _, _, _, _, _ => omega
end
section
variable {X : Cx}
def rMax4 : List V → Hp → VK → Prop := fun vs H Q => ∃ a b c d : Int, vs = [.int a, .int b, .int c, .int d] ∧ ∀ m, m ∈ [a, b, c, d] → (∀ n ∈ [a, b, c, d], n ≤ m) → Q (.int m) H
theorem call_max4 (hc : X.calm = true) : CallR X (.builtin "max") rMax4 := by
  intro pins s σ H xs us Q I r h
  obtain ⟨a, b, c, d, rfl, q⟩ := h
  cases r with
  | cons r1 r =>
    cases r with
    | cons r2 r =>
      cases r with
      | cons r3 r =>
        cases r with
        | cons r4 r =>
          cases r
          obtain ⟨t1, rfl⟩ := r1
          obtain ⟨t2, rfl⟩ := r2
          obtain ⟨t3, rfl⟩ := r3
          obtain ⟨t4, rfl⟩ := r4
          exact max_four_ints (I.ok.hd hc) fun h' tk m z k h1 h2 => ⟨.int m, H, I.kept k, ⟨_, rfl⟩, q m h1 h2⟩
def rLcm1 : List V → Hp → VK → Prop := fun vs H Q => vs = [.int 1, .int 1] ∧ Q (.int 1) H
theorem cr_lcm1 : CallR X (.builtin "math.lcm") rLcm1 := by
  intro pins s σ H vs us Q I r h
  obtain ⟨rfl, q⟩ := h
  obtain ⟨t, u, rfl⟩ := Vals.int2 r
  exact PySem.W.mg_lcm_v (c := 1) (by decide) (by decide) (by decide) (by decide +kernel) ⟨.int _, H, I.tok _, ⟨_, rfl⟩, q⟩
theorem cr_range1 : CallR X (.type "range") (fun vs H Q => ∃ j, vs = [V.int j] ∧ ∀ p, H p = none → Q (.ref p) (upd H p (.rng 0 j))) := by
  intro pins s σ H vs us Q I r h
  obtain ⟨j, rfl, q⟩ := h
  obtain ⟨u1, rfl, rj⟩ := vals1 r
  obtain ⟨u, rfl⟩ := rj
  refine call_range_1 ⟨.ref s.heap.objs.size, upd H s.heap.objs.size (.rng 0 j), I.laid (t' := s.toks + 1 + 1) (fun b o e => Heap.get?_push_of_some _ e) (Nat.le_refl _) ?_, rfl, q _ (I.hok.fresh (Nat.le_refl _))⟩
  exact ⟨_, u, _, Heap.get?_push_size _ rfl⟩
def iRngV (te : TE) : TI := fun σ H R => te σ H fun x H1 => ∃ a lo hi, x = .ref a ∧ H1 a = some (.rng lo hi) ∧ (-(2 ^ 62) ≤ lo ∧ lo < 2 ^ 62 ∧ -(2 ^ 62) ≤ hi ∧ hi < 2 ^ 62) ∧ R (Itr lo (hi - lo).toNat) H1
theorem pi_rng {tg l : Expr} {tl : TE} (hl : PE X l tl) : PI X tg l (iRngV tl) := by
  refine ⟨fun pins s σ H R I h => ?_⟩
  refine thn (hl.run pins s σ H _ I h) fun v s1 ⟨x, H1, I1, r1, q1⟩ => ?_
  obtain ⟨a, lo, hi, e, ha, ⟨h1, h2, h3, h4⟩, q⟩ := q1
  subst e
  cases r1
  obtain ⟨t, u, v, eo⟩ := (show ∃ t u v, s1.heap.get? a = some { cls := .type "range", data := .fields #[.int lo t, .int hi u, .int 1 v] } from I1.hok a _ ha)
  refine wpAny_pyIter_range (r := a) (a := lo) (b := hi) (c := 1) (t := t) (u := u) (v := v) eo (small_one h1 h2 h3 h4) ?_
  refine ⟨s1.heap.objs.size, [s1.heap.objs.size], _, _, H1, rfl, I1.kept fun b o e => Heap.get?_push_of_some _ e, turn_range _ lo (hi - lo).toNat, ?_, fun b hb => ?_, q⟩
  · have e1 : lo + ((0 : Nat) : Int) * 1 = lo := by simp
    have e2 : (((hi - lo).toNat : Nat) : Int) - ((0 : Nat) : Int) = Builtin.Range.rangeSize lo hi 1 := by rw [rangeSize_one]; split <;> omega
    show IsRangeIter _ _ (lo + ((0 : Nat) : Int) * 1) ((((hi - lo).toNat : Nat) : Int) - ((0 : Nat) : Int)) 1
    rw [e1, e2]
    exact Heap.get?_push_size _ rfl
  · have e : b = s1.heap.objs.size := by simpa using hb
    subst e
    exact I1.fpOk (Nat.le_refl _) (I1.hok.fresh (Nat.le_refl _))
/-- {k: v}, k a tuple -/
def tDispT1 (tk tv : TE) : TE := fun σ H Q => ∀ p, H p = none → tk σ (upd H p (.dT [])) fun x H1 => tv σ H1 fun y H2 => H2 p = some (.dT []) ∧ ∃ b k, x = .ref b ∧ H2 b = some (.tup (k.map kV)) ∧ Q (.ref p) (upd H2 p (.dT [(k, y)]))
theorem pe_dispT1 {k v : Expr} {pos : Pos} {tk tv : TE} (hu : X.A.units + 1 < cLine) (hk : PE X k tk) (hv : PE X v tv) : PE X (.Dict [some k] [v] pos) (tDispT1 tk tv) := by
  refine ⟨fun pins s σ H Q I q => ?_⟩
  have hn := I.hok.fresh (Nat.le_refl s.heap.objs.size)
  have I1 := I.laid (a := s.heap.objs.size) (o := .dT []) (h' := s.heap.push { cls := .type "dict", data := .dict #[] }) (t' := s.toks) (fun _ _ q => Heap.get?_push_of_some _ q) (Nat.le_refl _) (dt_empty s.heap I.big)
  have hr : PPs X pos [some k] [v] [(tk, tv)] := pps_cons hk hv pps_nil
  have hroom : (tupleKind (mixKind X.prog X.w)).room X.A := show X.A.units < cLine by omega
  rw [arm_eval_Dict, show (evalEachOpt [some k] X.env).zip ((evalEach [v] X.env).map fun v => do let x ← v; standAt pos; pure x) = (pairTrees [some k] [v] X.env pos).map fun p => (some p.1, p.2) from rfl, dictDisplay_pairs (pairTrees [some k] [v] X.env pos) (by intro z; cases z) (by show 1 < 17; omega)]
  refine wpAny_bind (wpAny_standAt (wpAny_bind (wpAny_subDictH (knd := tupleKind (mixKind X.prog X.w)) (Q := fun d s' => wpAny (model X.prog X.w) X.A (pure (Value.ref d)) (EP X pins σ Q) X.xe s') hroom (show 1 ≤ 15 by decide) (thn (hr.run pins _ σ _ (fun ps H2 => match ps with | [(x, y)] => H2 s.heap.objs.size = some (.dT []) ∧ ∃ b kk, x = .ref b ∧ H2 b = some (.tup (kk.map kV)) ∧ Q (.ref s.heap.objs.size) (upd H2 s.heap.objs.size (.dT [(kk, y)])) | _ => False) I1 (q _ hn)) fun ws s2 ⟨ps, H2, I2, rel, q2⟩ => ?_))))
  match ps, rel, q2 with
  | [], _, q2 => exact q2.elim
  | _ :: _ :: _, _, q2 => exact q2.elim
  | [(x, y)], rel, ⟨e, b, kk, ex, eb, q2⟩ =>
    cases rel with
    | @cons _ u _ _ hq t =>
      cases t
      obtain ⟨r1, r2⟩ := hq
      obtain ⟨u1, u2⟩ := u
      subst ex
      cases (show u1 = Value.ref b from r1)
      obtain ⟨z, hd, xs, r0, dd⟩ := dt_of I2.hok e
      cases r0
      refine ⟨[(kk, b, u2)], ⟨rfl, rfl, key_of I2.hok eb, trivial⟩, dd, fun h' tk' dd' hs => wpAny_pure ⟨.ref s.heap.objs.size, _, ?_, rfl, q2⟩⟩
      obtain ⟨q, es, ep, hq, h2, h3, h4, _, h5⟩ := dd'
      refine d_write I2 (by rw [e]; exact True.intro) hs ⟨q, hq⟩ ⟨by rw [sizeLine_eq]; show 1 ≤ _; omega, hd, _, .cons ⟨rfl, ?_, r2⟩ .nil, q, es, ep, hq, h2, h3, h4, h5⟩
      rw [upd_ne (ne_of eb e (fun z => nomatch z))]
      exact eb
end

/-! ### operators of two kinds -/
section
variable {X : Cx} {k : Nat}
theorem hu_of (hr : Room k X.A) : X.A.units + 1 < cLine := by have := hr.un; omega
theorem op_eqA (hr : Room k X.A) : OpR X (compareOp .Eq) (fun x y H Q => rEq x y H Q ∨ rEqD X.K x y H Q) := OpR.or op_eq (op_eqD (by have := hr.un; omega))
theorem op_neA (hr : Room k X.A) : OpR X (compareOp .NotEq) (fun x y H Q => rNe x y H Q ∨ rNeD X.K x y H Q) := OpR.or op_ne (op_neD (by have := hr.un; omega))
theorem op_inA (hr : Room k X.A) : OpR X (compareOp .In) (fun x y H Q => rIn X.K false x y H Q ∨ rInD X.K x y H Q) := OpR.or op_in_seq (op_inD (by have := hr.un; omega))
theorem op_niA (hr : Room k X.A) : OpR X (compareOp .NotIn) (fun x y H Q => rIn X.K true x y H Q ∨ rNotInD X.K x y H Q) := OpR.or op_notIn_seq (op_notInD (by have := hr.un; omega))
theorem op_addA : OpR X (binaryOp .Add) (fun x y H Q => rI0 (fun i j => .int (i + j)) x y H Q ∨ rCat x y H Q) := OpR.or op_add op_cat
theorem op_mulA : OpR X (binaryOp .Mult) (fun x y H Q => rI CMul (fun i j => .int (i * j)) x y H Q ∨ rRep x y H Q) := OpR.or op_mul op_rep
end
section
variable {K : PySem.W.Frag} {ρ : List Sl} {ta tb tc te tv : TE} {x y z d : DV} {xs ds es : List DV} {r r' : R2} {p q : Bool} {i : Nat} {E : DEnd}
theorem de_chain (ha : DQ ta ρ x) (hb : DQ tb ρ y) (h1 : RO r x y (.bl p)) (hc : p = true → DQ tc ρ z) (h2 : p = true → RO r' y z (.bl q)) : DE (tChain r r' ta tb tc) ρ (.bl (p && q)) := fun _ _ _ _ _ k _ Q =>
  ha _ _ _ _ _ k _ fun vx _ _ g1 rx => hb _ _ _ _ _ (k.up g1) _ fun vy _ _ g2 ry => h1 _ _ vx vy g2.i (rx.up g2) ry _ fun v _ _ g3 rz => ⟨p, rz.bl_inv, by
    have k3 := ((k.up g1).up g2).up g3
    cases p with
    | true => exact iteT (hc rfl _ _ _ _ _ k3 _ fun vz _ _ g4 rz' => h2 rfl _ _ vy vz g4.i (ry.up (g3.trans g4)) rz' _ fun w _ _ g5 rw' => Q w _ _ ((((g1.trans g2).trans g3).trans g4).trans g5) rw')
    | false => exact iteF (Q _ _ _ ((g1.trans g2).trans g3) (.bl _))⟩
theorem rc_ii (i : Int) : RC (rIsi K) [.int i, .ty "int"] (.bl true) := rc_isi (.int i) (by decide +kernel)
theorem rc_ib (i : Int) : RC (rIsi K) [.int i, .ty "bool"] (.bl false) := rc_isi (.int i) (by decide +kernel)
theorem rc_ss (i : Str) : RC (rIsi K) [.str i, .ty "str"] (.bl true) := rc_isi (.str i) (by decide +kernel)
theorem rc_tt (i : List DV) : RC (rIsi K) [.tup i, .ty "tuple"] (.bl true) := rc_isi (.tup i) (by decide +kernel)
theorem rc_ltl (i : List DV) : RC (rIsiT K) [.lst i, .tup [.ty "list", .ty "tuple"]] (.bl true) := rc_isiT (ts := ["list", "tuple"]) (.lst i) (by with_unfolding_all rfl)
theorem rc_ltt (i : List DV) : RC (rIsiT K) [.tup i, .tup [.ty "list", .ty "tuple"]] (.bl true) := rc_isiT (ts := ["list", "tuple"]) (.tup i) (by with_unfolding_all rfl)
theorem ro_isNN : RO (fun x y H Q => y = V.non ∧ Q (.bl (decide (x = V.non))) H) .non .non (.bl true) := fun _ _ _ _ e a b _ q => by
  rw [a.non, b.non]; exact ⟨rfl, q _ _ _ (Go.refl e) (.bl _)⟩
theorem ro_notNN : RO (fun x y H Q => y = V.non ∧ Q (.bl (!decide (x = V.non))) H) .non .non (.bl false) := fun _ _ _ _ e a b _ q => by
  rw [a.non, b.non]; exact ⟨rfl, q _ _ _ (Go.refl e) (.bl _)⟩
theorem ro_isNI {i : Int} : RO (fun x y H Q => y = V.non ∧ Q (.bl (decide (x = V.non))) H) (.int i) .non (.bl false) := fun _ _ _ _ e a b _ q => by
  rw [a.int, b.non]; exact ⟨rfl, q _ _ _ (Go.refl e) (.bl _)⟩
theorem ro_notNI {i : Int} : RO (fun x y H Q => y = V.non ∧ Q (.bl (!decide (x = V.non))) H) (.int i) .non (.bl true) := fun _ _ _ _ e a b _ q => by
  rw [a.int, b.non]; exact ⟨rfl, q _ _ _ (Go.refl e) (.bl _)⟩
theorem rc_max4 {a b c d m : Int} (hm : m ∈ [a, b, c, d]) (hle : ∀ n ∈ [a, b, c, d], n ≤ m) : RC rMax4 [.int a, .int b, .int c, .int d] (.int m) := fun _ _ _ e r _ q => by
  cases r with
  | cons r1 r =>
    cases r with
    | cons r2 r =>
      cases r with
      | cons r3 r =>
        cases r with
        | cons r4 r =>
          cases r
          refine ⟨a, b, c, d, by rw [r1.int, r2.int, r3.int, r4.int], fun m' h1 h2 => q _ _ _ (Go.refl e) ?_⟩
          have : m' = m := Int.le_antisymm (hle m' h1) (h2 m hm)
          rw [this]; exact .int _
theorem rc_lcm1 : RC rLcm1 [.int 1, .int 1] (.int 1) := fun _ _ _ e r _ q => by
  obtain ⟨v, u, ev, rv, ru⟩ := r.two_inv
  exact ⟨by rw [ev, rv.int, ru.int], q _ _ _ (Go.refl e) (.int _)⟩
theorem rc_range1 {j : Int} : RC (fun vs H Q => ∃ j, vs = [V.int j] ∧ ∀ p, H p = none → Q (.ref p) (upd H p (.rng 0 j))) [.int j] (.rng 0 j) := fun _ _ _ e r _ q => by
  obtain ⟨v, ev, rv⟩ := r.one_inv
  exact ⟨j, by rw [ev, rv.int], fun p hp => q _ _ _ (Go.new e hp) (.rng upd_same)⟩
theorem dw_rngV {lo hi : Int} (h : DE te ρ (.rng lo hi)) (hb : -1000000 < lo ∧ lo < 1000000 ∧ -1000000 < hi ∧ hi < 1000000) : DW (iRngV te) ρ (rgD lo (hi - lo).toNat) := fun _ _ _ _ _ k _ q => h _ _ _ _ _ k _ fun v _ _ g r => by
  obtain ⟨a, e, hp⟩ := r.rng_inv
  exact ⟨a, lo, hi, e, g.i _ _ hp, by omega, q _ _ _ g walks_range⟩
/-- fields -/
def look : List Str → List DV → Str → Option DV
  | n :: ns, d :: ds, f => if f == n then some d else look ns ds f
  | _, _, _ => none
theorem look_rp {H : Hp} {f : Str} {d : DV} : ∀ {fs : List (Str × V)} {ns : List Str} {ds : List DV}, fs.map Prod.fst = ns → RpA H (fs.map Prod.snd) ds → look ns ds f = some d → ∃ v, fs.lookup f = some v ∧ Rp H v d
  | [], _, _, e, r, h => by subst e; cases r; cases h
  | (n, v) :: fs, _, _, e, r, h => by
    subst e
    cases r with
    | @cons _ d' _ ds r rr =>
      unfold List.lookup
      have h' : (if f == n then some d' else look (fs.map Prod.fst) ds f) = some d := h
      cases hb : f == n with
      | true =>
        rw [hb, if_pos rfl] at h'
        cases h'
        exact ⟨v, rfl, r⟩
      | false =>
        rw [hb, if_neg Bool.false_ne_true] at h'
        exact look_rp rfl rr h'
theorem de_fld {C : Addr} {ns : List Str} {f : Str} (c : Cls K C) (n : NoAttr K C f) (h : DE ta ρ (.ins C ns ds)) (hl : look ns ds f = some d) : DE (tFld K ta f) ρ d := fun _ _ _ _ _ k _ q =>
  h _ _ _ _ _ k _ fun v _ _ g r => by
    obtain ⟨a, dx, fs, e, hp, hn, rr⟩ := r.ins_inv
    obtain ⟨u, el, ru⟩ := look_rp hn rr hl
    exact ⟨a, C, dx, fs, u, e, g.i _ _ hp, c, n, el, q _ _ _ g ru⟩
theorem de_fldM {ob : Option Addr} {C : Addr} {ns : List Str} {f : Str} (c : Cls K C) (n : NoAttr K C f) (h : ρ[i]? = some (.mu ob (.obj C ns ds))) (hl : look ns ds f = some d) : DE (tFld K (tVar i) f) ρ d := fun _ _ _ _ _ k _ q => by
  obtain ⟨a, u, ea, h1, h2, h3, r, _⟩ := k.sl i _ h
  cases r with
  | @obj _ dx fs _ _ hn rr =>
    obtain ⟨v, el, rv⟩ := look_rp hn rr hl
    exact ⟨.ref a, ea, a, C, dx, fs, v, rfl, h3, c, n, el, q _ _ _ (Go.refl k.go.i) rv⟩
theorem putF_new {f : Str} {y : V} : ∀ {fs : List (Str × V)}, f ∉ fs.map Prod.fst → putF f y fs = fs ++ [(f, y)]
  | [], _ => rfl
  | (g, x) :: fs, h => by
    have h1 : g ≠ f := fun z => h (by rw [z]; exact List.mem_cons_self)
    show (if g = f then _ else (g, x) :: putF f y fs) = _
    rw [if_neg h1, putF_new fun z => h (List.mem_cons_of_mem _ z)]
    rfl
theorem ds_fld {ob : Option Addr} {C : Addr} {ns : List Str} {f : Str} (c : Cls K C) (n : NoAttr K C f) (h : ρ[i]? = some (.mu ob (.obj C ns ds))) (hv : DE tv ρ d) (hf : f ∉ ns) (hz : ns.length < 900)
    (k : E.nx (ρ.set i (.mu ob (.obj C (ns ++ [f]) (ds ++ [d]))))) : DS (sFld K (tVar i) tv f) ρ E := fun Hj Hi D S σ Hs H o => hv _ _ _ _ _ o _ fun v Hs1 H1 g1 rv => by
  have o1 := o.up g1
  obtain ⟨a, u, ea, h1, h2, h3, r, _⟩ := o1.sl i _ h
  cases r with
  | @obj _ dx fs _ _ hn rr =>
    have hl : fs.length = ns.length := by rw [← hn, List.length_map]
    refine ⟨.ref a, ea, a, C, dx, fs, rfl, h3, c, n, by omega, ?_⟩
    rw [putF_new (by rw [hn]; exact hf)]
    refine S.nx _ _ _ _ k (o1.chg h ea (.obj (by rw [List.map_append, hn]; rfl) ?_))
    rw [List.map_append]
    exact rr.app (.one rv)
/-- a property -/
theorem de_prop {α : Type} {enc : α → List DV} {pre : α → Prop} {val : α → DV} {X : XK} {C : Addr} {ns : List Str} (w : α) (h : DE ta ρ (.ins C ns ds)) (e : enc w = [.ins C ns ds]) (hp : pre w) : DE (tProp C (spD enc pre val) [] X ta) ρ (val w) := fun _ _ _ _ _ k _ q =>
  h _ _ _ _ _ k _ fun v Hs' H' g r => by
    obtain ⟨a, dx, fs, ev, hq, hn, rr⟩ := r.ins_inv
    exact ⟨a, dx, fs, ev, g.i _ _ hq, w, Hs', g.i, by rw [e, ← ev]; exact .one r, hp, fun v _ _ g2 r2 => q v _ _ (g.trans g2) r2⟩
/-- xs[::-1] -/
theorem dn_rev (h : DQ te ρ (.lst ds)) : DN (tRevL K te) ρ ds.reverse := fun _ _ _ _ _ k _ q => h _ _ _ _ _ k _ fun v _ _ g r => by
  obtain ⟨a, vs, e, hp, rr⟩ := r.lst g.i
  exact ⟨a, vs, e, .inl (.inl hp), fun p hn => q p _ _ _ (g.trans (Go.own g.i hn)) (g.free hn) (Evl.fresh_back g.i hn) upd_same rr.rev⟩
/-- truth -/
theorem dt_truL (h : DQ te ρ (.lst ds)) : DT (fun σ H Q => te σ H fun x H' => ∃ k, TruV K x H' k ∧ Q k H') ρ (!ds.isEmpty) := fun _ _ _ _ _ k _ q => h _ _ _ _ _ k _ fun v _ _ g r => by
  obtain ⟨a, vs, e, hp, rr⟩ := r.lst g.i
  subst e
  refine ⟨!ds.isEmpty, .inl ⟨vs, .inl (.inl hp), ?_⟩, q _ _ g⟩
  cases rr <;> rfl
theorem dt_truI {n : Int} (h : DE te ρ (.int n)) : DT (fun σ H Q => te σ H fun x H' => ∃ k, TruV K x H' k ∧ Q k H') ρ (n != 0) := fun _ _ _ _ _ k _ q => h _ _ _ _ _ k _ fun v _ _ g r => by
  rw [r.int_inv]
  exact ⟨_, rfl, q _ _ g⟩
/-- {(a, b): True} -/
theorem ds_disp {a b : Int} {tk : TE} (hk : DE tk ρ (.tup [.int a, .int b])) (hv : DE tv ρ (.bl true)) (k : E.nx (ρ.set i (.mu none (.dic [[Sum.inl a, Sum.inl b]])))) : DS (tAsg (tDispT1 tk tv) (gName i)) ρ E := fun Hj Hi D S σ Hs H o p hp => by
  have ew : Evl.Ex H (upd H p (.dT [])) := Evl.Ex.new hp
  have o0 := o.up (Go.own (o := .dT []) o.go.i hp)
  refine hk _ _ _ _ _ o0 _ fun x Hs1 H1 g1 rx => hv _ _ _ _ _ (o0.up g1) _ fun y Hs2 H2 g2 ry => ?_
  obtain ⟨c, ec, hc⟩ := pair_key rx
  have g12 := g1.trans g2
  have e2 : H2 p = some (.dT []) := g12.h p _ upd_same
  have n2 : Hs2 p = none := g12.kept (by rw [upd_same]) (Evl.fresh_back o.go.i hp)
  refine ⟨e2, c, [Sum.inl a, Sum.inl b], ec, g2.h _ _ (g1.i _ _ hc), ?_⟩
  rw [ry.bl_inv]
  have g : Go Hs H Hs2 (upd H2 p (.dT [([Sum.inl a, Sum.inl b], V.bl true)])) := by
    have gg := (Go.own (o := .dT []) o.go.i hp).trans g12
    exact ⟨Evl.Ex.mut gg.h hp, gg.s, fun a u hu => by
      have : a ≠ p := fun z => by rw [z, n2] at hu; cases hu
      rw [upd_ne this]; exact gg.i a u hu, gg.n⟩
  exact S.nx _ _ _ _ k (o.newM g hp n2 upd_same (.dic (ks := [[Sum.inl a, Sum.inl b]])) i)
end
/-! ### makers -/
section
variable {P : PySem.Program} {w : World} {K : PySem.W.Frag} {mg : Str → Option Value} {base : Heap}
/-- the promise of an __init__: the fields in their order -/
def spI {α : Type} (C : Addr) (ns : List Str) (enc : α → List DV) (pre : α → Prop) (val : α → List DV) : Sp := fun vs H Q _ => ∃ (x : α) (Hi Hs : Hp) (a dx : Addr) (vs' : List V), vs = .ref a :: vs' ∧ H a = some (.ins C dx []) ∧ Hi a = none ∧ Hs a = none ∧ Ex Hs H ∧ Ex Hi H ∧ RpA Hs vs' (enc x) ∧ pre x ∧
  ∀ Hs' H' fs dx', Go Hs Hi Hs' H' → Hs' a = none → H' a = some (.ins C dx' fs) → fs.map Prod.fst = ns → RpA Hs' (fs.map Prod.snd) (val x) → Q .non H'
theorem de_mk {α : Type} {C : Addr} {ns : List Str} {enc : α → List DV} {pre : α → Prop} {val : α → List DV} {t : TA} {ρ : List Sl} {E : XK} {xs : List DV} (x : α) (h : DA t ρ xs) (e : enc x = xs) (hp : pre x) :
    DE (tMake C (spI C ns enc pre val) [] E t) ρ (.ins C ns (val x)) := fun _ _ Hs H _ k _ q =>
  h _ _ _ _ _ k _ fun vs Hs' H' g r p dx hn hdx hne => by
    have f1 : Hs' p = none := Evl.fresh_back g.i hn
    have g0 := Go.own (o := .own p) g.i hdx
    have hp1 : upd H' dx (.own p) p = none := by rw [upd_ne (Ne.symm hne)]; exact hn
    have g1 := Go.own (o := .ins C dx []) g0.i hp1
    have g01 := g0.trans g1
    refine ⟨x, H', Hs', p, dx, vs ++ [], rfl, upd_same, hn, f1, g01.i, g01.h, by rw [List.append_nil, e]; exact r, hp, fun Hs2 H2 fs dx' g2 h1 h2 h3 h4 => ⟨rfl, ?_⟩⟩
    have gg : Go Hs H Hs2 H2 := ⟨g.h.trans g2.h, g.s.trans g2.s, g2.i, fun c hc => by
      have : H' c ≠ none := by
        cases qq : H c with
        | none => exact absurd qq hc
        | some o => rw [g.h c o qq]; simp
      rw [g2.n c this, g.n c hc]⟩
    exact q _ _ _ (settle gg (g.free hn) h1 h2) (.ins upd_same h3 (h4.mono (Evl.Ex.new h1)))
/-- an __init__ by its body -/
theorem ok_init {α : Type} {C : Addr} {ns : List Str} {enc : α → List DV} {pre : α → Prop} {val : α → List DV} {x qual : Str} {params : Arguments} {body : List Stmt} {scope : Scope} {f : Addr} {fd : FuncData} {N ps : List Str} {p0 : Str} {k : Nat}
    (F : FunD K x qual params body scope [] [] f fd) (S : FnScope N (p0 :: ps) scope) (hl : ∀ x, (enc x).length = ps.length)
    (hb : ∀ (cdv : Value) (A : Around) (outer : List Env) (s : Shared) (H : Hp) (E : XK), Room k (A.deeper (envOfC qual scope s.heap.objs.size f cdv)) → ∀ x, pre x → ∀ a : Addr,
      ∃ t, PSs (cxOf CX0 P w K mg base N qual scope f cdv A outer s H E).nox body t ∧ DS t (Sl.mu (some a) (.obj C [] []) :: startR N.tail (enc x)) { nx := fun ρ => ρ[0]? = some (Sl.mu (some a) (.obj C ns (val x))), rt := fun _ => False }) : FnOk P w K mg base CX0 (k + 1) f fd (p0 :: ps) (spI C ns enc pre val) := by
  refine F.ok S (fun vs H Q E h => ?_) (fun cdv A outer s H vs Q E hr h => ?_)
  · obtain ⟨x, Hi, Hs, a, dx, vs', ev, h1, h2, h3, e1, e2, r, _⟩ := h
    rw [ev, List.length_cons, r.len, hl]; rfl
  · obtain ⟨x, Hi, Hs, a, dx, vs', ev, h1, h2, h3, e1, e2, r, hp, q⟩ := h
    obtain ⟨t, t1, t2⟩ := hb cdv A outer s H E hr x hp a
    subst ev
    refine ⟨t, t1.nox, t2 Hs Hi _ ⟨fun ρ σ Hs' H' z o => ?_, fun d v Hs' H' z => z.elim, fun _ _ _ _ z => z.elim, fun _ _ _ _ z => z.elim⟩ _ Hs H ?_⟩
    · obtain ⟨b, u, eb, _, g2, g3, g4, g5⟩ := o.sl 0 _ z
      have := g5 a rfl
      subst this
      cases g4 with
      | obj hn rr => exact q Hs' H' _ _ o.go g2 g3 hn rr
    · have hN : N = p0 :: N.tail := by
        have := S.pre
        cases N with
        | nil => cases this
        | cons n N =>
          rw [List.length_cons, List.take_succ_cons] at this
          injection this with e _
          rw [e]; rfl
      have base := ok_start (N := N.tail) e1 r
      have e3 : L2.start N (V.ref a :: vs') = some (V.ref a) :: L2.start N.tail vs' := by
        rw [hN]
        unfold L2.start
        rw [List.map_cons, List.length_cons, List.length_cons, Nat.add_sub_add_right, List.cons_append]; rfl
      rw [e3]
      refine ⟨⟨e2, Evl.Ex.refl _, e1, fun _ _ => rfl⟩, fun i s h => ?_, fun i j b1 b2 m m' c hi hj si sj => ?_, by rw [List.length_cons, List.length_cons, base.len]⟩
      · cases i with
        | zero =>
          cases h
          exact ⟨a, _, rfl, h2, h3, h1, .obj rfl .nil, fun c z => by cases z; rfl⟩
        | succ i =>
          have h' : (startR N.tail (enc x))[i]? = some s := h
          have := base.sl i s h'
          cases s with
          | any => trivial
          | val d => exact this
          | mu b m =>
            unfold startR at h'
            by_cases hi : i < (enc x).length
            · rw [List.getElem?_append_left (by rw [List.length_map]; exact hi), List.getElem?_map] at h'
              cases hq : (enc x)[i]? <;> rw [hq] at h' <;> cases h'
            · rw [List.getElem?_append_right (by rw [List.length_map]; omega), List.getElem?_replicate] at h'
              split at h' <;> cases h'
      · have no : ∀ i b m, (startR N.tail (enc x))[i]? ≠ some (Sl.mu b m) := fun i b m h' => by
          unfold startR at h'
          by_cases hi : i < (enc x).length
          · rw [List.getElem?_append_left (by rw [List.length_map]; exact hi), List.getElem?_map] at h'
            cases hq : (enc x)[i]? <;> rw [hq] at h' <;> cases h'
          · rw [List.getElem?_append_right (by rw [List.length_map]; omega), List.getElem?_replicate] at h'
            split at h' <;> cases h'
        cases i with
        | zero =>
          cases j with
          | zero => rfl
          | succ j => exact absurd hj (no j _ _)
        | succ i => exact absurd hi (no i _ _)
end
end DL
end

section
set_option Elab.async false
set_option linter.all false
set_option maxRecDepth 100000
set_option maxHeartbeats 4000000
namespace DL
open PySem PySem.Spec PyProof.Rows L2
open C8 (Cal pe_c Mak pe_mk)
def top (i : Nat) : Stmt := PySem.Challenge.pw_truebooks_k36_whole_couples_are_the_leas.main.body.getD i (.Pass ⟨0, 0, 0, 0⟩)
structure FnAt (K : PySem.W.Frag) (mg : Str → Option Value) (i : Nat) (x : Str) : Prop where
  ex : ∃ f fd, FunD K x x (defArgs (top i)) (defBody (top i)) (defScope (top i)) [] [] f fd ∧ mg x = some (.ref f)
structure MkAt (K : PySem.W.Frag) (C : Addr) (i : Nat) (q : Str) : Prop where
  ex : ∃ f fd, FunD K "__init__" q (defArgs (inClass (top i) 0)) (defBody (inClass (top i) 0)) (defScope (inClass (top i) 0)) [] [] f fd ∧ Mk K C f
section
variable {P : PySem.Program} {w : World} {K : PySem.W.Frag} {mg : Str → Option Value} {base : Heap}
theorem mak_def {α : Type} {C : Addr} {ns : List Str} {enc : α → List DV} {pre : α → Prop} {val : α → List DV} {i : Nat} {x q : Str} {N ps : List Str} {p0 : Str} {k : Nat} (T : MkAt K C i q) (hm : mg x = some (.ref C)) (S : FnScope N (p0 :: ps) (defScope (inClass (top i) 0))) (hl : ∀ x, (enc x).length = ps.length)
    (hbd : ∀ (kV doc pm : Value) (an : Option Addr) (cdv ct : Value) (us : List Value), us.length = (p0 :: ps).length → bindArgs (PySem.W.fnOf "__init__" q (defArgs (inClass (top i) 0)) (defBody (inClass (top i) 0)) (defScope (inClass (top i) 0)) .none kV doc pm an cdv ct) ⟨us, []⟩ = pure ((p0 :: ps).zip us))
    (hb : ∀ (f : Addr) (cdv : Value) (A : Around) (outer : List Env) (s : Shared) (H : Hp) (E : XK), Room k (A.deeper (envOfC q (defScope (inClass (top i) 0)) s.heap.objs.size f cdv)) → ∀ x, pre x → ∀ a : Addr,
      ∃ t, PSs (cxOf CX0 P w K mg base N q (defScope (inClass (top i) 0)) f cdv A outer s H E).nox (defBody (inClass (top i) 0)) t ∧ DS t (Sl.mu (some a) (.obj C [] []) :: startR N.tail (enc x)) { nx := fun ρ => ρ[0]? = some (Sl.mu (some a) (.obj C ns (val x))), rt := fun _ => False }) : Mak P w K mg base (k + 1) x C (spI C ns enc pre val) [] := by
  obtain ⟨f, fd, F, M⟩ := T.ex
  exact ⟨f, fd, p0 :: ps, [], M, ok_init F S hl fun cdv A outer s H E hr x hp a => hb f cdv A outer s H E hr x hp a, hm, F.bindsN hbd, .nil⟩
theorem cal_def {α : Type} {enc : α → List DV} {pre : α → Prop} {val : α → DV} {i : Nat} {x : Str} {N ps : List Str} {k : Nat} (T : FnAt K mg i x) (S : FnScope N ps (defScope (top i))) (hl : ∀ x, (enc x).length = ps.length)
    (hbd : ∀ (kV doc pm : Value) (an : Option Addr) (cdv ct : Value) (us : List Value), us.length = ps.length → bindArgs (PySem.W.fnOf x x (defArgs (top i)) (defBody (top i)) (defScope (top i)) .none kV doc pm an cdv ct) ⟨us, []⟩ = pure (ps.zip us))
    (hb : ∀ (f : Addr) (cdv : Value) (A : Around) (outer : List Env) (s : Shared) (H : Hp) (E : XK), Room k (A.deeper (envOfC x (defScope (top i)) s.heap.objs.size f cdv)) → ∀ x', pre x' →
      ∃ t, PSs (cxOf CX0 P w K mg base N x (defScope (top i)) f cdv A outer s H E).nox (defBody (top i)) t ∧ DS t (startR N (enc x')) { nx := fun _ => val x' = .non, rt := fun d => d = val x' }) : Cal P w K mg base (k + 1) x (spD enc pre val) [] := by
  obtain ⟨f, fd, F, hm⟩ := T.ex
  exact ⟨f, fd, ps, [], ok_def F S hl (fun cdv A outer s H E hr x' hp => hb f cdv A outer s H E hr x' hp), hm, F.kp, F.bindsN hbd, .nil⟩
end
/-! ### the rules with K named (within a comprehension the record X may not stand in what is found) -/
section
variable {X : Cx} (K : PySem.W.Frag) {k : Nat} {e : Expr} {te : TE}
theorem ixk (h : X.K = K := by rfl) : IxR X (rIx K) := h ▸ ix_seq
theorem eqk (hr : Room k X.A) (h : X.K = K := by rfl) : OpR X (compareOp .Eq) (fun x y H Q => rEq x y H Q ∨ rEqD K x y H Q) := h ▸ op_eqA hr
theorem nek (hr : Room k X.A) (h : X.K = K := by rfl) : OpR X (compareOp .NotEq) (fun x y H Q => rNe x y H Q ∨ rNeD K x y H Q) := h ▸ op_neA hr
theorem ink (hr : Room k X.A) (h : X.K = K := by rfl) : OpR X (compareOp .In) (fun x y H Q => rIn K false x y H Q ∨ rInD K x y H Q) := h ▸ op_inA hr
theorem nik (hr : Room k X.A) (h : X.K = K := by rfl) : OpR X (compareOp .NotIn) (fun x y H Q => rIn K true x y H Q ∨ rNotInD K x y H Q) := h ▸ op_niA hr
def rLen (K : PySem.W.Frag) : List V → Hp → VK → Prop := fun xs H Q => ∃ p ys, xs = [V.ref p] ∧ (SqL K H p ys ∨ SqT K H p ys) ∧ Q (.int ys.length) H
def rLst (K : PySem.W.Frag) : List V → Hp → VK → Prop := fun xs H Q => ∃ p ys, xs = [V.ref p] ∧ (SqL K H p ys ∨ SqT K H p ys) ∧ ∀ l, H l = none → Q (V.ref l) (upd H l (.lst ys))
def rTup (K : PySem.W.Frag) : List V → Hp → VK → Prop := fun xs H Q => ∃ p ys, xs = [V.ref p] ∧ ((SqL K H p ys ∧ ∀ l, H l = none → Q (V.ref l) (upd H l (.tup ys))) ∨ SqT K H p ys ∧ Q (V.ref p) H)
theorem lenk (h : X.K = K := by rfl) : CallR X (.builtin "len") (rLen K) := h ▸ call_len_seq
theorem isik (h : X.K = K := by rfl) : CallR X (.builtin "isinstance") (rIsi K) := h ▸ call_isi
theorem isitk (h : X.K = K := by rfl) : CallR X (.builtin "isinstance") (rIsiT K) := h ▸ call_isiT
theorem sumk (hc : X.calm = true) (h : X.K = K := by rfl) : CallR X (.builtin "sum") (rSum K) := h ▸ cr_sum hc
theorem allk (hc : X.calm = true) (h : X.K = K := by rfl) : CallR X (.builtin "all") (rAll K) := h ▸ cr_all hc
theorem mink (hc : X.calm = true) (h : X.K = K := by rfl) : CallR X (.builtin "min") (rMin K) := h ▸ cr_min hc
theorem maxk (hc : X.calm = true) (h : X.K = K := by rfl) : CallR X (.builtin "max") (rMax K) := h ▸ cr_max hc
theorem srIk (h : X.K = K := by rfl) : CallR X (.builtin "sorted") (rSortedI K) := h ▸ cr_sortedI
theorem srPk (h : X.K = K := by rfl) : CallR X (.builtin "sorted") (rSortedPO K) := h ▸ cr_sortedPO
theorem lstk (h : X.K = K := by rfl) : CallR X (.type "list") (rLst K) := h ▸ call_list_of
theorem tupk (h : X.K = K := by rfl) : CallR X (.type "tuple") (rTup K) := h ▸ call_tuple_of
theorem slk (h : X.K = K := by rfl) : SlR X (rSlL K) := h ▸ sl_list
theorem idxk (h : X.K = K := by rfl) : MtR X "list.index" (rIndex K) := h ▸ mt_index
theorem fldk {f : Str} {pos : Pos} (he : PE X e te) (hb : attributeBase e f X.env (eval e X.env) = eval e X.env) (h : X.K = K := by rfl) : PE X (.Attribute e f pos) (tFld K te f) := h ▸ pe_fld he hb
theorem revk {j : Nat} {p1 p2 p3 pos : Pos} (he : PE X e te) (h : X.K = K := by rfl) : PE X (.Subscript e (.Slice none none (some (.UnaryOp .USub (.Constant (.int 1) j p1) p2)) p3) pos) (tRevL K te) := h ▸ pe_revL he
theorem pilk {tg : Expr} (he : PE X e te) (h : X.K = K := by rfl) : PI X tg e (iList K te) := h ▸ pi_list he
theorem pitk {tg : Expr} (he : PE X e te) (h : X.K = K := by rfl) : PI X tg e (iTup K te) := h ▸ pi_tup he
theorem pgtk {pos : Pos} {es : List Expr} {j : Nat} {t : TGs} {n : Nat} (hc : X.calm = true) (hp : PGs X es t) (hn : (assignEach es X.env).length = n := by first | rfl | decide) (hs : List.findIdx? (fun x => x.fst) (assignEach es X.env) = none := by first | rfl | decide) (h : X.K = K := by rfl) : PG X (.Tuple es j pos) (gTup K n t) := h ▸ pg_tup hc hp hn hs
def tTru (K : PySem.W.Frag) (te : TE) : TT := fun σ H Q => te σ H fun x H' => ∃ k, TruV K x H' k ∧ Q k H'
theorem truk (ha : PE X e te) (he : ∀ whole, isTrue e X.env whole = (do let v ← whole; standAt e.pos; holding [v] (truthy v))) (h : X.K = K := by rfl) : PT X e (tTru K te) := h ▸ pt_truth ha he
theorem bmk {es : List Expr} {o : Expr} {to : TE} {t : TA} {name : Str} {apos cpos : Pos} {T id : String} {r : V → List V → Hp → VK → Prop} (hp : PlainAttrs T) (hs : Slot T name id) (ht : typeOf (Value.builtin id) = pure (Value.type "method_descriptor")) (hm : MtR X id r) (ho : PE X o to) (ha : PA X (e :: es) t)
    (h1 : attributeBase o name X.env (eval o X.env) = eval o X.env := by rfl)
    (h2 : (((((backTo cpos (starEach (e :: es) X.env)).all fun x => !x.fst) && (backToKw cpos (keywordEach [] X.env)).all fun x => x.fst.isSome) && decide (((e :: es).length + ([] : List Keyword).length + if ([] : List Keyword).isEmpty = true then 0 else 1) < 30)) = true) := by rfl)
    (h3 : (apos.endLine == cpos.line) = true := by first | rfl | decide) (h4 : starEach (e :: es) X.env = (false, eval e X.env) :: starEach es X.env := by rfl) (h5 : ((backTo cpos (starEach es X.env)).any fun x => x.fst) = false := by rfl) (h : X.K = K := by rfl) : PE X ((o.Attribute name apos).Call (e :: es) [] cpos) (tBM K T r to t) := h ▸ pe_bm hp hs ht hm ho ha h1 h2 h3 h4 h5
end
structure Txt (K : PySem.W.Frag) (mg : Str → Option Value) (CL CB : Addr) : Prop where
  f_least_period : FnAt K mg 17 "least_period"
  f_flag_row : FnAt K mg 18 "flag_row"
  f_shape_lot : FnAt K mg 19 "shape_lot"
  f_told_by : FnAt K mg 20 "told_by"
  f_rim_numbers : FnAt K mg 21 "rim_numbers"
  f_empty_lot : FnAt K mg 22 "empty_lot"
  f_just_lot : FnAt K mg 23 "just_lot"
  f_truth_row : FnAt K mg 24 "truth_row"
  f_common_modulus : FnAt K mg 25 "common_modulus"
  f_within : FnAt K mg 26 "within"
  f_whole_within : FnAt K mg 28 "whole_within"
  f_check_letter : FnAt K mg 29 "check_letter"
  f_check_test : FnAt K mg 30 "check_test"
  f_is_word : FnAt K mg 54 "is_word"
  f_is_word_row : FnAt K mg 55 "is_word_row"
  f_row_rises : FnAt K mg 56 "row_rises"
  f_checked_letters : FnAt K mg 57 "checked_letters"
  f_checked_tests : FnAt K mg 58 "checked_tests"
  f_checked_joins : FnAt K mg 59 "checked_joins"
  f_checked_meanings : FnAt K mg 60 "checked_meanings"
  f_checked_rows : FnAt K mg 61 "checked_rows"
  f_join_two : FnAt K mg 64 "join_two"
  f_letter_place : FnAt K mg 65 "letter_place"
  f_test_place : FnAt K mg 66 "test_place"
  f_deed_word : FnAt K mg 67 "deed_word"
  f_test_word : FnAt K mg 68 "test_word"
  f_step_word : FnAt K mg 69 "step_word"
  f_check_same_alphabet : FnAt K mg 72 "check_same_alphabet"
  f_steps_of_book : FnAt K mg 73 "steps_of_book"
  f_put_line : FnAt K mg 75 "put_line"
  f_put_killed : FnAt K mg 76 "put_killed"
  f_lead_line : FnAt K mg 77 "lead_line"
  f_couple_lines : FnAt K mg 78 "couple_lines"
  f_couples_told : FnAt K mg 79 "couples_told"
  f_couple_program : FnAt K mg 84 "couple_program"
  f_finer : FnAt K mg 88 "finer"
  f_alike : FnAt K mg 89 "alike"
  f_told_match : FnAt K mg 93 "told_match"
  f__law_digits : FnAt K mg 95 "_law_digits"
  f__law_cell : FnAt K mg 96 "_law_cell"
  f__law_letter : FnAt K mg 97 "_law_letter"
  f__law_test : FnAt K mg 98 "_law_test"
  f__law_alphabet : FnAt K mg 99 "_law_alphabet"
  f__law_join_all : FnAt K mg 100 "_law_join_all"
  f__law_below : FnAt K mg 101 "_law_below"
  f__law_led_up : FnAt K mg 102 "_law_led_up"
  f__law_told : FnAt K mg 103 "_law_told"
  f__law_whole : FnAt K mg 104 "_law_whole"
  f__law_steps : FnAt K mg 105 "_law_steps"
  f__law_words : FnAt K mg 106 "_law_words"
  f__law_half : FnAt K mg 107 "_law_half"
  f__law_doubled_row : FnAt K mg 108 "_law_doubled_row"
  f__law_doubled : FnAt K mg 109 "_law_doubled"
  f__law_renamed : FnAt K mg 110 "_law_renamed"
  f__law_with_rows : FnAt K mg 111 "_law_with_rows"
  f__law_lifted : FnAt K mg 112 "_law_lifted"
  f__law_led_anew : FnAt K mg 113 "_law_led_anew"
  f__law_untold_lowered : FnAt K mg 114 "_law_untold_lowered"
  f__law_strange : FnAt K mg 115 "_law_strange"
  f__law_twin : FnAt K mg 116 "_law_twin"
  f__law_couples : FnAt K mg 117 "_law_couples"
  f__law_small_rows : FnAt K mg 118 "_law_small_rows"
  f__law_small_book : FnAt K mg 119 "_law_small_book"
  f__law_small_made : FnAt K mg 120 "_law_small_made"
  f__law_refused : FnAt K mg 121 "_law_refused"
  f__law_more_letters : FnAt K mg 122 "_law_more_letters"
  f__law_turned_letters : FnAt K mg 123 "_law_turned_letters"
  f__law_more_tests : FnAt K mg 124 "_law_more_tests"
  f__law_turned_tests : FnAt K mg 125 "_law_turned_tests"
  f__law_couples_in_form : FnAt K mg 126 "_law_couples_in_form"
  f_law : FnAt K mg 127 "law"
  m_len : mg "len" = none
  m_range : mg "range" = none
  m_isinstance : mg "isinstance" = none
  m_int : mg "int" = none
  m_list : mg "list" = none
  m_tuple : mg "tuple" = none
  m_sorted : mg "sorted" = none
  m_sum : mg "sum" = none
  m_max : mg "max" = none
  m_min : mg "min" = none
  m_abs : mg "abs" = none
  m_all : mg "all" = none
  m_bool : mg "bool" = none
  m_str : mg "str" = none
  cls_Lot : Cls K CL
  cls_Book : Cls K CB
  no_Lot_low : NoAttr K CL "low"
  no_Lot_high : NoAttr K CL "high"
  no_Lot_inside : NoAttr K CL "inside"
  no_Lot_modulus : NoAttr K CL "modulus"
  no_Lot_ups : NoAttr K CL "ups"
  no_Lot_downs : NoAttr K CL "downs"
  no_Book_letters : NoAttr K CB "letters"
  no_Book_tests : NoAttr K CB "tests"
  no_Book_joins : NoAttr K CB "joins"
  no_Book_meanings : NoAttr K CB "meanings"
  no_Book_deeds : NoAttr K CB "deeds"
  no_Book_so : NoAttr K CB "so"
  no_Book_not_so : NoAttr K CB "not_so"
  no_Book_first : NoAttr K CB "first"
  g_MOST_CORE : ∃ u, mg "MOST_CORE" = some u ∧ RelV (.int 20000) u
  g_MOST_MODULUS : ∃ u, mg "MOST_MODULUS" = some u ∧ RelV (.int 10080) u
  bare : ∃ p g fd, PropOf K CL "bare" p g ∧ FunD K "bare" "Lot.bare" (defArgs (inClass (top 15) 3)) (defBody (inClass (top 15) 3)) (defScope (inClass (top 15) 3)) [] [] g fd
  mk_Lot : MkAt K CL 15 "Lot.__init__"
  mk_Book : MkAt K CB 62 "Book.__init__"
  g_lcm : mg "lcm" = some (.builtin "math.lcm")
  g_Lot : mg "Lot" = some (.ref CL)
  g_Book : mg "Book" = some (.ref CB)
  isLot : C8.InsC K CL
end DL
end

section
set_option Elab.async false
set_option linter.all false
set_option maxRecDepth 100000
set_option maxHeartbeats 4000000
namespace DL
open PySem PySem.Spec PyProof.Rows L2
open C8 (Cal pe_c Mak pe_mk)
/-! ### ranges as lists of ints -/
def rgI (lo : Int) (n : Nat) : List Int := (List.range n).map fun i : Nat => lo + (i : Int)
theorem rgD_I (lo : Int) (n : Nat) : rgD lo n = (rgI lo n).map DV.int := by unfold rgD rgI; rw [List.map_map]; rfl
theorem mem_rgI {lo x : Int} {n : Nat} : x ∈ rgI lo n ↔ lo ≤ x ∧ x < lo + n := by
  unfold rgI
  rw [List.mem_map]
  constructor
  · rintro ⟨i, hi, rfl⟩
    have := List.mem_range.mp hi
    omega
  · intro h
    exact ⟨(x - lo).toNat, List.mem_range.mpr (by omega), by omega⟩
theorem rgI_len (lo : Int) (n : Nat) : (rgI lo n).length = n := by unfold rgI; simp
theorem rgI_get {lo : Int} {n i : Nat} {x : Int} (h : (rgI lo n)[i]? = some x) : x = lo + (i : Int) ∧ i < n := by
  unfold rgI at h
  rw [List.getElem?_map] at h
  by_cases hi : i < n
  · rw [List.getElem?_range hi] at h; cases h; exact ⟨rfl, hi⟩
  · rw [List.getElem?_eq_none (by simp; omega)] at h; cases h
section
variable {K : PySem.W.Frag} {ρ ρ1 : List Sl} {te tl ta tb' : TE} {a' : TA} {tt : TT} {wi : TI} {g : TG} {vs is : List Nat} {i : Nat} {E : DEnd} {tb : TS} {d : DV} {ds : List DV} {n m lo : Int}
theorem dw_range1 (h : DA a' ρ [.int n]) (hb : -1000000 < n ∧ n < 1000000) : DW (iRng1 a') ρ ((rgI 0 n.toNat).map DV.int) := rgD_I 0 n.toNat ▸ dw_r1 h hb.2 hb.1
theorem dw_range2 (h : DA a' ρ [.int lo, .int n]) (hb : -1000000 < lo ∧ lo < 1000000 ∧ -1000000 < n ∧ n < 1000000) : DW (iRng2 a') ρ ((rgI lo (n - lo).toNat).map DV.int) := rgD_I lo (n - lo).toNat ▸ dw_r2 h hb
theorem dw_rangeV {hi : Int} (h : DE te ρ (.rng lo hi)) (hb : -1000000 < lo ∧ lo < 1000000 ∧ -1000000 < hi ∧ hi < 1000000) : DW (iRngV te) ρ ((rgI lo (hi - lo).toNat).map DV.int) := rgD_I lo (hi - lo).toNat ▸ dw_rngV h hb
theorem dw_rangeN {n : Nat} (h : DA a' ρ [.int (n : Int)]) (hb : n < 1000000) : DW (iRng1 a') ρ ((rgI 0 n).map DV.int) := by
  have := dw_range1 h (by omega)
  rwa [Int.toNat_natCast] at this
theorem dn_listrN {n : Nat} (h : DE ta ρ (.int (n : Int))) (hb : n < 100000) : DN (tLstRg (tRg1 ta)) ρ ((rgI 0 n).map DV.int) := by
  have := rgD_I 0 _ ▸ dn_lr1 h (by unfold RgOk; omega)
  rwa [Int.toNat_natCast] at this
theorem dn_listr1 (h : DE ta ρ (.int n)) (hb : -100000 < n ∧ n < 100000) : DN (tLstRg (tRg1 ta)) ρ ((rgI 0 n.toNat).map DV.int) := rgD_I 0 n.toNat ▸ dn_lr1 h (by unfold RgOk; omega)
theorem dn_listr2 (h : DE ta ρ (.int n)) (h2 : DE tb' ρ (.int m)) (hb : -10000 < n ∧ n < 10000 ∧ -10000 < m ∧ m < 10000) : DN (tLstRg (tRg2 ta tb')) ρ ((rgI n (m - n).toNat).map DV.int) := rgD_I n (m - n).toNat ▸ dn_lr2 h h2 (by unfold RgOk; omega)
/-- comprehensions over a name -/
theorem dn_lc1 {α : Type} {xs : List α} {enc : α → DV} {e : α → DV} (hw : DW wi ρ (xs.map enc)) (hz : xs.length ≤ 50000) (hi : i ∈ vs) (hg : ∀ x ∈ xs, DE te ((wipeR ρ vs).set i (.val (enc x))) (e x)) : DN (tLc wi (gName i) tYes te vs) ρ (xs.map e) :=
  dn_lc xs enc e hw hz (is := [i]) (fun j hj => by rw [List.mem_singleton.mp hj]; exact hi) fun x hx => ⟨_, dg_name, hg x hx⟩
theorem dn_lcf1 {α : Type} {xs : List α} {enc : α → DV} {f : α → Bool} {e : α → DV} (hw : DW wi ρ (xs.map enc)) (hz : xs.length ≤ 50000) (hi : i ∈ vs)
    (hf : ∀ x ∈ xs, DT tt ((wipeR ρ vs).set i (.val (enc x))) (f x)) (hg : ∀ x ∈ xs, f x = true → DE te ((wipeR ρ vs).set i (.val (enc x))) (e x)) : DN (tLc wi (gName i) tt te vs) ρ ((xs.filter f).map e) :=
  dn_lcf xs enc f e hw hz (is := [i]) (fun j hj => by rw [List.mem_singleton.mp hj]; exact hi) fun x hx => ⟨_, dg_name, hf x hx, hg x hx⟩
theorem dn_lc2 {α β : Type} (enc2 : β → DV) {xs : List α} {enc : α → DV} {e : α → β} (hw : DW wi ρ (xs.map enc)) (hz : xs.length ≤ 50000) (hi : i ∈ vs) (hg : ∀ x ∈ xs, DE te ((wipeR ρ vs).set i (.val (enc x))) (enc2 (e x))) : DN (tLc wi (gName i) tYes te vs) ρ ((xs.map e).map enc2) := by
  rw [List.map_map]
  exact dn_lc1 hw hz hi hg
theorem dn_lcf2 {α β : Type} (enc2 : β → DV) {xs : List α} {enc : α → DV} {f : α → Bool} {e : α → β} (hw : DW wi ρ (xs.map enc)) (hz : xs.length ≤ 50000) (hi : i ∈ vs)
    (hf : ∀ x ∈ xs, DT tt ((wipeR ρ vs).set i (.val (enc x))) (f x)) (hg : ∀ x ∈ xs, f x = true → DE te ((wipeR ρ vs).set i (.val (enc x))) (enc2 (e x))) : DN (tLc wi (gName i) tt te vs) ρ (((xs.filter f).map e).map enc2) := by
  rw [List.map_map]
  exact dn_lcf1 hw hz hi hf hg
/-- loops that fold -/
theorem foldl_take {α β : Type} (f : β → α → β) (b : β) {xs : List α} {n : Nat} {x : α} (h : xs[n]? = some x) : (xs.take (n + 1)).foldl f b = f ((xs.take n).foldl f b) x := by
  rw [List.take_add_one, h, List.foldl_append]; rfl
theorem ds_foldT {α β : Type} {xs : List α} {enc : α → DV} (R : β → List Sl) (step : β → α → β) (b0 : β) (I : Nat → β → Prop) (hw : DW wi ρ (xs.map enc)) (h0 : Wk ρ (R b0)) (i0 : I 0 b0)
    (hs : ∀ n b x, xs[n]? = some x → I n b → ∃ ρ2 is, DG g (R b) (enc x) ρ2 is ∧ DS tb ρ2 { nx := fun ρ' => Wk ρ' (R (step b x)) ∧ I (n + 1) (step b x), rt := E.rt, bk := E.nx, ct := fun ρ' => Wk ρ' (R (step b x)) ∧ I (n + 1) (step b x) })
    (hd : I xs.length (xs.foldl step b0) → E.nx (R (xs.foldl step b0))) : DS (tFor wi g tb) ρ E :=
  ds_for xs enc (fun n ρ => ρ = R ((xs.take n).foldl step b0) ∧ I n ((xs.take n).foldl step b0)) hw ⟨_, h0, rfl, i0⟩ (fun n x ρ1 hx ⟨e1, hI⟩ => by
    obtain ⟨ρ2, is, h1, h2⟩ := hs n _ x hx hI
    subst e1
    refine ⟨ρ2, is, h1, fun Hj Hi D S => h2 Hj Hi D ⟨fun ρ' σ' Hs' H' q o => S.nx ρ' σ' Hs' H' ⟨_, q.1, ?_, ?_⟩ o, S.rt, S.bk, fun ρ' σ' Hs' H' q o => S.ct ρ' σ' Hs' H' ⟨_, q.1, ?_, ?_⟩ o⟩⟩
    · rw [foldl_take step b0 hx]
    · rw [foldl_take step b0 hx]; exact q.2
    · rw [foldl_take step b0 hx]
    · rw [foldl_take step b0 hx]; exact q.2) fun ρ1 ⟨e1, hI⟩ => by
    rw [List.take_length] at e1 hI
    rw [e1]; exact hd hI
theorem ds_fold {α β : Type} {xs : List α} {enc : α → DV} (R : β → List Sl) (step : β → α → β) (b0 : β) (I : Nat → β → Prop) (hw : DW wi ρ (xs.map enc)) (h0 : Wk ρ (R b0)) (i0 : I 0 b0)
    (hs : ∀ n b x, xs[n]? = some x → I n b → DS tb ((R b).set i (.val (enc x))) { nx := fun ρ' => Wk ρ' (R (step b x)) ∧ I (n + 1) (step b x), rt := E.rt, bk := E.nx, ct := fun ρ' => Wk ρ' (R (step b x)) ∧ I (n + 1) (step b x) })
    (hd : I xs.length (xs.foldl step b0) → E.nx (R (xs.foldl step b0))) : DS (tFor wi (gName i) tb) ρ E :=
  ds_foldT R step b0 I hw h0 i0 (fun n b x hx hI => ⟨_, _, dg_name, hs n b x hx hI⟩) hd
/-- a loop that keeps what is known -/
theorem ds_each {α : Type} {xs : List α} {enc : α → DV} (R : List Sl) (hw : DW wi ρ (xs.map enc)) (h0 : Wk ρ R)
    (hs : ∀ x ∈ xs, DS tb (R.set i (.val (enc x))) { nx := fun ρ' => Wk ρ' R, rt := E.rt, bk := E.nx, ct := fun ρ' => Wk ρ' R })
    (hd : E.nx R) : DS (tFor wi (gName i) tb) ρ E :=
  ds_fold (β := Unit) (fun _ => R) (fun _ _ => ()) () (fun _ _ => True) hw h0 trivial (fun n b x hx _ => fun Hj Hi D S => hs x (List.mem_of_getElem? hx) Hj Hi D ⟨fun ρ' σ' Hs' H' q o => S.nx ρ' σ' Hs' H' ⟨q, trivial⟩ o, S.rt, S.bk, fun ρ' σ' Hs' H' q o => S.ct ρ' σ' Hs' H' ⟨q, trivial⟩ o⟩) fun _ => hd
theorem ds_setS {u : TS} (h : DE te ρ d) (k : DS u (ρ.set i (.val d)) E) : DS (tSeq (tAsg te (gName i)) u) ρ E := ds_seq (ds_set h k)
theorem ds_setNS {u : TS} (h : DN te ρ ds) (k : DS u (ρ.set i (.mu none (.lst ds))) E) : DS (tSeq (tAsg te (gName i)) u) ρ E := ds_seq (ds_setN h k)
theorem ds_appS {ob : Option Addr} {u : TS} (e : ρ[i]? = some (.mu ob (.lst ds))) (h : DE te ρ d) (hz : ds.length < 100000) (k : DS u (ρ.set i (.mu ob (.lst (ds ++ [d])))) E) : DS (tSeq (tDrop (tBM K "list" rAppend (tVar i) (tCons te tNil))) u) ρ E := ds_seq (ds_app e h hz k)
theorem ds_setixS {ob : Option Addr} {tj : TE} {u : TS} (e : ρ[i]? = some (.mu ob (.lst ds))) (h : DE te ρ d) (hj : DE tj ρ (.int n)) (h0 : 0 ≤ n) (hn : n.toNat < ds.length) (k : DS u (ρ.set i (.mu ob (.lst (ds.set n.toNat d)))) E) : DS (tSeq (tAsg te (gSub (tVar i) tj rSetL)) u) ρ E := ds_seq (ds_setix e h hj h0 hn k)
theorem ds_augS {u : TS} {f : Int → Int → Int} {x y : Int} (e : ρ[i]? = some (.val (.int x))) (h : DE te ρ (.int y)) (k : DS u (ρ.set i (.val (.int (f x y)))) E) : DS (tSeq (tAug i te (ipI f)) u) ρ E := ds_seq (ds_aug e h k)
/-- a test whose value is known, and the rest -/
theorem ds_ifTS {b : Bool} {t u v : TS} (h : DT tt ρ b) (hb : b = true) (k : DS (tSeq t v) ρ E) : DS (tSeq (tIfS tt t u) v) ρ E := fun Hj Hi D S σ Hs H o => by
  subst hb
  exact h _ _ _ _ _ o _ fun Hs1 H1 g1 => iteT (k Hj Hi D S _ _ _ (o.up g1))
theorem ds_ifFS {b : Bool} {t v : TS} (h : DT tt ρ b) (hb : b = false) (k : DS v ρ E) : DS (tSeq (tIfS tt t tNext) v) ρ E := fun Hj Hi D S σ Hs H o => by
  subst hb
  exact h _ _ _ _ _ o _ fun Hs1 H1 g1 => iteF (k Hj Hi D S _ _ _ (o.up g1))
theorem ds_ifM {b : Bool} {t v : TS} (R : Bool → List Sl) (h : DT tt ρ b) (h1 : b = true → DS t ρ { E with nx := fun ρ' => Wk ρ' (R true) }) (h2 : b = false → Wk ρ (R false)) (k : DS v (R b) E) : DS (tSeq (tIfS tt t tNext) v) ρ E := fun Hj Hi D S σ Hs H o => by
  refine h _ _ _ _ _ o _ fun Hs1 H1 g1 => ?_
  cases b with
  | true => exact iteT (h1 rfl Hj Hi { D with nx := v D } ⟨fun ρ' σ' Hs' H' w o' => by obtain ⟨Hs2, o2⟩ := o'.wk w; exact k Hj Hi D S _ _ _ o2, S.rt, S.bk, S.ct⟩ _ _ _ (o.up g1))
  | false => exact iteF (by obtain ⟨Hs2, o2⟩ := (o.up g1).wk (h2 rfl); exact k Hj Hi D S _ _ _ o2)
theorem ds_ifM2 {b : Bool} {t u v : TS} (R : Bool → List Sl) (h : DT tt ρ b) (h1 : b = true → DS t ρ { E with nx := fun ρ' => Wk ρ' (R true) }) (h2 : b = false → DS u ρ { E with nx := fun ρ' => Wk ρ' (R false) }) (k : DS v (R b) E) : DS (tSeq (tIfS tt t u) v) ρ E := fun Hj Hi D S σ Hs H o => by
  refine h _ _ _ _ _ o _ fun Hs1 H1 g1 => ?_
  cases b with
  | true => exact iteT (h1 rfl Hj Hi { D with nx := v D } ⟨fun ρ' σ' Hs' H' w o' => by obtain ⟨Hs2, o2⟩ := o'.wk w; exact k Hj Hi D S _ _ _ o2, S.rt, S.bk, S.ct⟩ _ _ _ (o.up g1))
  | false => exact iteF (h2 rfl Hj Hi { D with nx := v D } ⟨fun ρ' σ' Hs' H' w o' => by obtain ⟨Hs2, o2⟩ := o'.wk w; exact k Hj Hi D S _ _ _ o2, S.rt, S.bk, S.ct⟩ _ _ _ (o.up g1))
theorem ds_appM {α : Type} {ob : Option Addr} {xs : List α} {enc : α → DV} {x : α} (e : ρ[i]? = some (.mu ob (.lst (xs.map enc)))) (h : DE te ρ (enc x)) (hz : xs.length < 100000) (k : E.nx (ρ.set i (.mu ob (.lst ((xs ++ [x]).map enc))))) : DS (tDrop (tBM K "list" rAppend (tVar i) (tCons te tNil))) ρ E := by
  rw [List.map_append] at k
  exact ds_app e h (by rw [List.length_map]; exact hz) k
theorem ds_appMS {α : Type} {ob : Option Addr} {u : TS} {xs : List α} {enc : α → DV} {x : α} (e : ρ[i]? = some (.mu ob (.lst (xs.map enc)))) (h : DE te ρ (enc x)) (hz : xs.length < 100000) (k : DS u (ρ.set i (.mu ob (.lst ((xs ++ [x]).map enc)))) E) : DS (tSeq (tDrop (tBM K "list" rAppend (tVar i) (tCons te tNil))) u) ρ E := ds_seq (ds_appM e h hz k)
theorem de_ifI {b : Bool} {x y : Int} {te' : TE} (h : DT tt ρ b) (h1 : b = true → DE te ρ (.int x)) (h2 : b = false → DE te' ρ (.int y)) : DE (tIf tt te te') ρ (.int (cond b x y)) := by
  refine de_if h (fun e => ?_) (fun e => ?_)
  · subst e; exact h1 rfl
  · subst e; exact h2 rfl
theorem de_ifL {b : Bool} {α : Type} {enc : α → DV} {x y : α} {te' : TE} (h : DT tt ρ b) (h1 : b = true → DE te ρ (enc x)) (h2 : b = false → DE te' ρ (enc y)) : DE (tIf tt te te') ρ (enc (cond b x y)) := by
  refine de_if h (fun e => ?_) (fun e => ?_)
  · subst e; exact h1 rfl
  · subst e; exact h2 rfl
theorem getElem?_lt {α : Type} {xs : List α} {n : Nat} {x : α} (h : xs[n]? = some x) : n < xs.length := (List.getElem?_eq_some_iff.mp h).1
theorem ds_imp {t : TS} {E' : DEnd} (h : DS t ρ E') (h1 : ∀ ρ, E'.nx ρ → E.nx ρ) (h2 : ∀ d, E'.rt d → E.rt d) (h3 : ∀ ρ, E'.bk ρ → E.bk ρ) (h4 : ∀ ρ, E'.ct ρ → E.ct ρ) : DS t ρ E := fun Hj Hi D S => h Hj Hi D ⟨fun ρ σ Hs H q o => S.nx ρ σ Hs H (h1 ρ q) o, fun d v Hs H q g r => S.rt d v Hs H (h2 d q) g r, fun ρ σ Hs H q o => S.bk ρ σ Hs H (h3 ρ q) o, fun ρ σ Hs H q o => S.ct ρ σ Hs H (h4 ρ q) o⟩
end
section
variable {K : PySem.W.Frag} {ρ : List Sl} {te : TE} {ds : List DV} {n : Int} {α : Type} {l : List α} {f : α → DV}
theorem rc_lenM : RC (rLen K) [.lst (l.map f)] (.int (l.length : Int)) := by
  have h := rc_lenL (K := K) (ds := l.map f)
  rwa [List.length_map] at h
theorem rc_lenTM : RC (rLen K) [.tup (l.map f)] (.int (l.length : Int)) := by
  have h := rc_lenT (K := K) (ds := l.map f)
  rwa [List.length_map] at h
theorem rc_lenL' : RC (rLen K) [.lst ds] (.int (ds.length : Int)) := rc_lenL
theorem rc_lenT' : RC (rLen K) [.tup ds] (.int (ds.length : Int)) := rc_lenT
theorem rcn_listL' : RCN (rLst K) [.lst ds] ds := rcn_listL
theorem rcn_listT' : RCN (rLst K) [.tup ds] ds := rcn_listT
theorem rc_tupL' : RC (rTup K) [.lst ds] (.tup ds) := rc_tupL
theorem rc_tupT' : RC (rTup K) [.tup ds] (.tup ds) := rc_tupT
theorem dt_truLk (h : DQ te ρ (.lst ds)) : DT (tTru K te) ρ (!ds.isEmpty) := dt_truL h
theorem dt_truIk (h : DE te ρ (.int n)) : DT (tTru K te) ρ (n != 0) := dt_truI h
end
section
variable {K : PySem.W.Frag} {ρ : List Sl} {te : TE} {α : Type} {f : α → DV} {a b : List α}
theorem cutD_map (l : List α) (lo hi : Option Int) : cutD (l.map f) lo hi = (cutD l lo hi).map f := by
  unfold cutD
  rw [List.length_map, List.map_take, List.map_drop]
theorem dn_slM {tl th : TO} {lo hi : Option Int} (h : DQ te ρ (.lst (a.map f))) (hl : DO tl ρ lo) (hh : DO th ρ hi) : DN (tSl (rSlL K) te tl th) ρ ((cutD a lo hi).map f) := cutD_map a lo hi ▸ dn_sl h hl hh
theorem rn_catM (hz : a.length + b.length ≤ 100000) : RN rCat (.lst (a.map f)) (.lst (b.map f)) ((a ++ b).map f) := by
  rw [List.map_append]
  exact rn_cat (by rw [List.length_map, List.length_map]; exact hz)
theorem dn_revM (h : DQ te ρ (.lst (a.map f))) : DN (tRevL K te) ρ (a.reverse.map f) := by
  rw [List.map_reverse]
  exact dn_rev h
theorem cutD_len (l : List α) (lo hi : Option Int) : (cutD l lo hi).length ≤ l.length := by
  unfold cutD
  rw [List.length_take, List.length_drop]
  omega
theorem cutD_mem {l : List α} {lo hi : Option Int} {x : α} (h : x ∈ cutD l lo hi) : x ∈ l := by
  unfold cutD at h
  exact List.mem_of_mem_drop (List.mem_of_mem_take h)
end
/-! ### letters and tests -/
abbrev Sy : Type := Str × List Int
abbrev eSy (s : Sy) : DV := .tup (.str s.1 :: s.2.map DV.int)
abbrev eSys (l : List Sy) : DV := .lst (l.map eSy)
theorem eSy_inj {a b : Sy} : a = b ↔ eSy a = eSy b := by
  constructor
  · intro h; rw [h]
  · intro h
    obtain ⟨a1, a2⟩ := a
    obtain ⟨b1, b2⟩ := b
    injection h with h
    injection h with h1 h2
    injection h1 with h1
    have : a2 = b2 := List.map_inj_right (fun x y h => by injection h) |>.mp h2
    exact Prod.ext h1 this
theorem mem_map_inj {α β : Type} {f : α → β} (hf : ∀ a b, a = b ↔ f a = f b) {x : α} {l : List α} : x ∈ l ↔ f x ∈ l.map f := by
  rw [List.mem_map]
  constructor
  · intro h; exact ⟨x, h, rfl⟩
  · rintro ⟨a, h, e⟩; rwa [(hf a x).mpr e] at h
def okS (s : Sy) : Prop := PySem.PyData.canLay0 (.str s.1) = true
theorem Pl.sy {s : Sy} (h : okS s) : Pl 1 (eSy s) := .tup 0 _ fun d hd => by
  rcases List.mem_cons.mp hd with rfl | hd
  · exact .str 0 _ h
  · obtain ⟨i, _, rfl⟩ := List.mem_map.mp hd
    exact .int 0 i
section
variable {K : PySem.W.Frag} {a b : Sy} {l : List Sy}
theorem ro_eqSy (ha : okS a) (hb : okS b) {r : R2} : RO (fun x y H Q => r x y H Q ∨ rEqD K x y H Q) (eSy a) (eSy b) (.bl (decide (a = b))) := ro_r (ro_eqD (n := 1) (by decide) (.sy ha) (.sy hb) (by rw [decide_eq_true_iff]; exact eSy_inj))
theorem ro_niSy (ha : okS a) (hl : ∀ b ∈ l, okS b) {r : R2} : RO (fun x y H Q => r x y H Q ∨ rNotInD K x y H Q) (eSy a) (.lst (l.map eSy)) (.bl (!decide (a ∈ l))) := ro_r (ro_niD (n := 1) (by decide) (.sy ha) (fun d hd => by obtain ⟨b, hb, rfl⟩ := List.mem_map.mp hd; exact .sy (hl b hb)) (by rw [decide_eq_true_iff]; exact mem_map_inj fun _ _ => eSy_inj))
theorem ro_inSy (ha : okS a) (hl : ∀ b ∈ l, okS b) {r : R2} : RO (fun x y H Q => r x y H Q ∨ rInD K x y H Q) (eSy a) (.lst (l.map eSy)) (.bl (decide (a ∈ l))) := ro_r (ro_inD (n := 1) (by decide) (.sy ha) (fun d hd => by obtain ⟨b, hb, rfl⟩ := List.mem_map.mp hd; exact .sy (hl b hb)) (by rw [decide_eq_true_iff]; exact mem_map_inj fun _ _ => eSy_inj))
end
/-! ### iterates -/
def v_iter {α : Type} (f : α → α) : Nat → α → α
  | 0, a => a
  | n + 1, a => f (v_iter f n a)
theorem iter_fix {α : Type} {f : α → α} {a : α} {n : Nat} (h : f (v_iter f n a) = v_iter f n a) : ∀ m, v_iter f (n + m) a = v_iter f n a
  | 0 => rfl
  | m + 1 => by
    show f (v_iter f (n + m) a) = _
    rw [iter_fix h m, h]
theorem iter_fix' {α : Type} {f : α → α} {a : α} {n m : Nat} (h : f (v_iter f n a) = v_iter f n a) (hm : n ≤ m) : v_iter f m a = v_iter f n a := by
  have := iter_fix h (m - n)
  rwa [Nat.add_sub_cancel' hm] at this
/-! ### tables of words -/
def gS (l : List Sy) (i : Int) : Sy := l.getD i.toNat default
theorem gS_mem {l : List Sy} {i : Int} (h : 0 ≤ i) (h2 : i < l.length) : gS l i ∈ l := by
  unfold gS
  rw [List.getD_eq_getElem?_getD, List.getElem?_eq_getElem (by omega : i.toNat < l.length)]
  exact List.getElem_mem _
def gI (l : List Int) (i : Int) : Int := l.getD i.toNat default
def gL (l : List (List Int)) (i : Int) : List Int := l.getD i.toNat default
abbrev eIs (l : List Int) : DV := .lst (l.map DV.int)
abbrev eTb (l : List (List Int)) : DV := .lst (l.map eIs)
abbrev wd (n : Nat) (x : Int) : Prop := 0 ≤ x ∧ x < n
structure Row (m n : Nat) (r : List Int) : Prop where
  len : r.length = m
  wds : ∀ x ∈ r, wd n x
structure Tbl (k m n : Nat) (js : List (List Int)) : Prop where
  len : js.length = k
  rows : ∀ r ∈ js, Row m n r
theorem getD_mem {α : Type} [Inhabited α] {l : List α} {i : Nat} (h : i < l.length) : l.getD i default ∈ l := by
  rw [List.getD_eq_getElem?_getD, List.getElem?_eq_getElem h]; exact List.getElem_mem h
theorem Row.get {m n : Nat} {r : List Int} (h : Row m n r) {i : Int} (hi : wd m i) : wd n (gI r i) := h.wds _ (getD_mem (by rw [h.len]; omega))
theorem Tbl.get {k m n : Nat} {js : List (List Int)} (h : Tbl k m n js) {i : Int} (hi : wd k i) : Row m n (gL js i) := h.rows _ (getD_mem (by rw [h.len]; omega))
theorem wd_get {m n : Nat} {r : List Int} {i : Int} (h : Row m n r) (hi : wd m i) : wd n (gI r i) := h.get hi
theorem wd_mem {m n : Nat} {r : List Int} {x : Int} (hx : x ∈ r) (h : Row m n r) : wd n x := h.wds x hx
theorem row_mem {k m n : Nat} {js : List (List Int)} {r : List Int} (hx : r ∈ js) (h : Tbl k m n js) : Row m n r := h.rows r hx
section
variable {K : PySem.W.Frag} {l : List Int} {js : List (List Int)} {i : Int}
theorem ro_gI (h0 : 0 ≤ i) (h : i < l.length) : RO (rIx K) (.lst (l.map DV.int)) (.int i) (.int (gI l i)) := ro_xM h0 (by omega)
theorem ro_gL (h0 : 0 ≤ i) (h : i < js.length) : RO (rIx K) (.lst (js.map eIs)) (.int i) (.lst ((gL js i).map DV.int)) := ro_xM h0 (by omega)
theorem ro_gIR {m n : Nat} (h : Row m n l) (hi : wd m i) : RO (rIx K) (.lst (l.map DV.int)) (.int i) (.int (gI l i)) := ro_gI hi.1 (by rw [h.len]; exact hi.2)
theorem ro_gLR {k m n : Nat} (h : Tbl k m n js) (hi : wd k i) : RO (rIx K) (.lst (js.map eIs)) (.int i) (.lst ((gL js i).map DV.int)) := ro_xM hi.1 (by rw [h.len]; have := hi.1; have := hi.2; omega)
theorem ro_gIT (h0 : 0 ≤ i) (h : i < l.length) : RO (rIx K) (.tup (l.map DV.int)) (.int i) (.int (gI l i)) := ro_xTM h0 (by omega)
end
section
variable {K : PySem.W.Frag} {l m : List Int} {ls : List Sy} {i : Int} {r : R2}
theorem ro_gS (h0 : 0 ≤ i) (h : i < ls.length) : RO (rIx K) (.lst (ls.map eSy)) (.int i) (eSy (gS ls i)) := ro_xM h0 (by omega)
theorem ro_gST (h0 : 0 ≤ i) (h : i < ls.length) : RO (rIx K) (.tup (ls.map eSy)) (.int i) (eSy (gS ls i)) := ro_xTM h0 (by omega)
theorem Pl.is (l : List Int) : Pl 1 (eIs l) := .lst 0 _ fun d hd => by
  obtain ⟨i, _, rfl⟩ := List.mem_map.mp hd
  exact .int 0 i
theorem eIs_inj : l = m ↔ eIs l = eIs m := by
  constructor
  · intro h; rw [h]
  · intro h
    injection h with h
    exact (List.map_inj_right (fun x y h => by injection h)).mp h
theorem ro_eqIs : RO (fun x y H Q => r x y H Q ∨ rEqD K x y H Q) (eIs l) (eIs m) (.bl (decide (l = m))) := ro_r (ro_eqD (n := 1) (by decide) (.is l) (.is m) (by rw [decide_eq_true_iff]; exact eIs_inj))
end
/-! ### a book of the law -/
structure LB where
  le : List Sy
  te : List Sy
  js : List (List Int)
  ms : List Int
  de : List (List Int)
  so : List (List Int)
  no : List (List Int)
  fi : Int
abbrev LB.n (b : LB) : Nat := b.js.length
abbrev eLB (b : LB) : DV := .lst [eSys b.le, eSys b.te, eTb b.js, eIs b.ms, eTb b.de, eTb b.so, eTb b.no, .int b.fi]
structure WF (b : LB) : Prop where
  n2 : 2 ≤ b.js.length
  n9 : b.js.length ≤ 9
  js : Tbl b.js.length b.js.length b.js.length b.js
  ms : b.ms.length = b.js.length
  le1 : 1 ≤ b.le.length
  le4 : b.le.length ≤ 4
  te4 : b.te.length ≤ 4
  de : Tbl b.le.length b.js.length b.js.length b.de
  so : Tbl b.te.length b.js.length b.js.length b.so
  no : Tbl b.te.length b.js.length b.js.length b.no
  fi : wd b.js.length b.fi
  okl : ∀ s ∈ b.le, okS s
  okt : ∀ s ∈ b.te, okS s
abbrev St : Type := (Str × Sy) × List Int
abbrev eSt (s : St) : DV := .tup [.tup [.str s.1.1, eSy s.1.2], eIs s.2]
def gG (b : LB) (g : Int) : List (List Int) := if g = 4 then b.de else if g = 5 then b.so else b.no
def gT (l : List (List (List Int))) (i : Int) : List (List Int) := l.getD i.toNat default
theorem WF.gG {b : LB} (h : WF b) (g : Int) : (gG b g).length ≤ 4 ∧ Tbl (DL.gG b g).length b.js.length b.js.length (DL.gG b g) := by
  unfold DL.gG
  split
  · exact ⟨by rw [h.de.len]; exact h.le4, by rw [h.de.len]; exact h.de⟩
  · split
    · exact ⟨by rw [h.so.len]; exact h.te4, by rw [h.so.len]; exact h.so⟩
    · exact ⟨by rw [h.no.len]; exact h.te4, by rw [h.no.len]; exact h.no⟩
section
variable {K : PySem.W.Frag} {b : LB} {g : Int} {l : List (List (List Int))} {i : Int}
theorem ro_gG (h : g = 4 ∨ g = 5 ∨ g = 6) : RO (rIx K) (eLB b) (.int g) (eTb (gG b g)) := by
  rcases h with rfl | rfl | rfl
  · exact ro_xL (by decide) rfl
  · exact ro_xL (by decide) rfl
  · exact ro_xL (by decide) rfl
theorem ro_gT (h0 : 0 ≤ i) (h : i < l.length) : RO (rIx K) (.lst (l.map eTb)) (.int i) (eTb (gT l i)) := ro_xM h0 (by omega)
end
theorem foldl_app {α β : Type} (g : α → β) : ∀ (xs : List α) (b : List β), xs.foldl (fun acc x => acc ++ [g x]) b = b ++ xs.map g
  | [], b => by simp
  | x :: xs, b => by rw [List.foldl_cons, foldl_app g xs, List.map_cons, List.append_assoc]; rfl
theorem map_eraseIdx' {α β : Type} (f : α → β) : ∀ (l : List α) (n : Nat), (l.eraseIdx n).map f = (l.map f).eraseIdx n
  | [], _ => rfl
  | _ :: _, 0 => rfl
  | a :: l, n + 1 => by
    show f a :: (l.eraseIdx n).map f = f a :: (l.map f).eraseIdx n
    rw [map_eraseIdx' f l n]
theorem rep_map {α : Type} (n : Nat) (enc : α → DV) (x : α) : (List.replicate n [enc x]).flatten = (List.replicate n x).map enc := by
  rw [List.map_replicate]
  induction n with
  | zero => rfl
  | succ n ih => rw [List.replicate_succ, List.flatten_cons, ih, List.replicate_succ]; rfl
section
variable {K : PySem.W.Frag} {ρ : List Sl} {te tj tk : TE} {E : DEnd} {i j : Nat} {α : Type} [Inhabited α] {enc : α → DV} {xs ys : List α} {x : α} {n m : Int}
theorem ds_setixM {ob : Option Addr} (e : ρ[i]? = some (.mu ob (.lst (xs.map enc)))) (h : DE te ρ (enc x)) (hj : DE tj ρ (.int n)) (h0 : 0 ≤ n) (hn : n.toNat < xs.length) (k : E.nx (ρ.set i (.mu ob (.lst ((xs.set n.toNat x).map enc))))) : DS (tAsg te (gSub (tVar i) tj rSetL)) ρ E := by
  rw [List.map_set] at k
  exact ds_setix e h hj h0 (by rw [List.length_map]; exact hn) k
theorem ds_setixMS {ob : Option Addr} {u : TS} (e : ρ[i]? = some (.mu ob (.lst (xs.map enc)))) (h : DE te ρ (enc x)) (hj : DE tj ρ (.int n)) (h0 : 0 ≤ n) (hn : n.toNat < xs.length) (k : DS u (ρ.set i (.mu ob (.lst ((xs.set n.toNat x).map enc)))) E) : DS (tSeq (tAsg te (gSub (tVar i) tj rSetL)) u) ρ E := ds_seq (ds_setixM e h hj h0 hn k)
theorem ds_setpopM {oa ob : Option Addr} (e : ρ[i]? = some (.mu oa (.lst (xs.map enc)))) (e2 : ρ[j]? = some (.mu ob (.lst (ys.map enc)))) (hij : i ≠ j) (hk : DE tk ρ (.int m)) (hm0 : 0 ≤ m) (hm : m.toNat < ys.length) (hmb : m < 100000)
    (hj : DE tj (ρ.set j (.mu ob (.lst ((ys.eraseIdx m.toNat).map enc)))) (.int n)) (h0 : 0 ≤ n) (hn : n.toNat < xs.length)
    (k : E.nx ((ρ.set j (.mu ob (.lst ((ys.eraseIdx m.toNat).map enc)))).set i (.mu oa (.lst ((xs.set n.toNat (ys.getD m.toNat default)).map enc))))) : DS (tAsg (tBM K "list" rPopAt (tVar j) (tCons tk tNil)) (gSub (tVar i) tj rSetL)) ρ E := by
  rw [map_eraseIdx'] at hj k
  rw [List.map_set] at k
  exact ds_setpop e e2 hij hk hm0 (get_map hm) hmb hj h0 (by rw [List.length_map]; exact hn) k
end
def v_idx (l : List Int) (x : Int) : Int := (l.idxOf x : Nat)
theorem v_idx_wd {l : List Int} {x : Int} (h : x ∈ l) : wd l.length (v_idx l x) := by
  have := List.idxOf_lt_length_of_mem h
  unfold v_idx
  constructor <;> omega
theorem v_idx_get {l : List Int} {x : Int} (h : x ∈ l) : gI l (v_idx l x) = x := by
  have := List.idxOf_lt_length_of_mem h
  unfold gI v_idx
  rw [Int.toNat_natCast, List.getD_eq_getElem?_getD, List.getElem?_eq_getElem this]
  exact List.getElem_idxOf this
theorem de_index {K : PySem.W.Frag} {ρ : List Sl} {te tx : TE} {l : List Int} {x : Int} (h : DQ te ρ (.lst (l.map DV.int))) (hx : DE tx ρ (.int x)) (hm : x ∈ l) : DE (tBM K "list" (rIndex K) te (tCons tx tNil)) ρ (.int (v_idx l x)) := fun Hj Hi Hs H σ k Q q => by
  refine h _ _ _ _ _ k _ fun v Hs1 H1 g1 rv => ?_
  obtain ⟨a, vs, ev, ha, rr⟩ := rv.lst g1.i
  have := rr.int_inv
  subst this ev
  refine .inl ⟨rfl, _, .inl (.inl ha)⟩ |> fun ty => ⟨ty, ?_⟩
  refine hx _ _ _ _ _ (k.up g1) _ fun u Hs2 H2 g2 ru => ?_
  rw [ru.int_inv]
  have hlt := List.idxOf_lt_length_of_mem hm
  refine ⟨a, _, _, l.idxOf x, .int x, rfl, rfl, .inl (.inl (g2.h _ _ ha)), rfl, flat_int l, ?_, ?_, fun m z hmz hz => ?_, q _ _ _ (g1.trans g2) (.int _)⟩
  · rw [List.getElem?_map, List.getElem?_eq_getElem hlt, Option.map_some, List.getElem_idxOf hlt]
  · show (x == x) = true; exact beq_self_eq_true x
  · rw [List.getElem?_map] at hz
    have hml : m < l.length := by omega
    rw [List.getElem?_eq_getElem hml] at hz
    cases hz
    show (l[m] == x) = false
    exact beq_eq_false_iff_ne.mpr fun e => by
      have := List.not_of_lt_findIdx (p := (· == x)) (xs := l) (i := m) (by exact hmz)
      rw [e] at this
      simp at this
theorem mod_wd {n : Nat} (h : 0 < n) (x : Int) : wd n (x % (n : Int)) := ⟨Int.emod_nonneg _ (by omega), Int.emod_lt_of_pos _ (by omega)⟩
/-! ### truth values in lists -/
def gB (l : List Bool) (i : Int) : Bool := l.getD i.toNat default
abbrev eBs (l : List Bool) : DV := .lst (l.map DV.bl)
theorem ro_gB {K : PySem.W.Frag} {l : List Bool} {i : Int} (h0 : 0 ≤ i) (h : i < l.length) : RO (rIx K) (.lst (l.map DV.bl)) (.int i) (.bl (gB l i)) := ro_xM h0 (by omega)
end DL
end

section
set_option Elab.async false
set_option linter.all false
set_option maxRecDepth 100000
set_option maxHeartbeats 4000000
namespace DL
open PySem PySem.Spec PyProof.Rows L2
open C8 (Cal pe_c Mak pe_mk)
/-! ### lines, and what is met: borrowed -/
abbrev Ln : Type := Int × Int × DV
abbrev eLn (l : Ln) : DV := .tup [.int l.1, .int l.2.1, l.2.2]
abbrev eLns (ls : List Ln) : List DV := ls.map eLn
def kP (p : Int × Int) : List Key := [Sum.inl p.1, Sum.inl p.2]
abbrev prL (ls : List Ln) : List (Int × Int) := ls.map fun l => (l.1, l.2.1)
abbrev keyL (ls : List Ln) : List (List Key) := (prL ls).map kP
abbrev mL (o : Option Addr) (ls : List Ln) : Sl := .mu o (.lst (eLns ls))
abbrev mK (o : Option Addr) (ls : List Ln) : Sl := .mu o (.dic (keyL ls))
def spL {α : Type} (e1 e2 : α → List DV) (ls ls' : α → List Ln) (pre : α → Prop) : Sp := fun vs H Q _ => ∃ (x : α) (Hi Hs : Hp) (a b : Addr) (us vs1 vs2 : List V), vs = vs1 ++ .ref a :: .ref b :: vs2 ∧ a ≠ b ∧ Hi a = none ∧ Hi b = none ∧ Hs a = none ∧ Hs b = none ∧ H a = some (.lst us) ∧ RpA Hs us (eLns (ls x)) ∧ H b = some (.dT ((keyL (ls x)).map fun k => (k, V.bl true))) ∧
  RpA Hs vs1 (e1 x) ∧ RpA Hs vs2 (e2 x) ∧ Ex Hs H ∧ Ex Hi H ∧ pre x ∧
  ∀ Hs' H' us', Go Hs Hi Hs' H' → Hs' a = none → Hs' b = none → H' a = some (.lst us') → RpA Hs' us' (eLns (ls' x)) → H' b = some (.dT ((keyL (ls' x)).map fun k => (k, V.bl true))) → Q .non H'
section
variable {P : PySem.Program} {w : World} {K : PySem.W.Frag} {mg : Str → Option Value} {base : Heap}
def startL (N : List Str) (d1 : List DV) (a b : Addr) (ls : List Ln) (d2 : List DV) : List Sl := d1.map Sl.val ++ mL (some a) ls :: mK (some b) ls :: (d2.map Sl.val ++ List.replicate (N.length - (d1.length + 2 + d2.length)) .any)
theorem vals_not {ds : List DV} {i : Nat} {o : Option Addr} {m : Mu} : (ds.map Sl.val)[i]? ≠ some (.mu o m) := fun h => by
  rw [List.getElem?_map] at h
  cases hq : ds[i]? <;> rw [hq] at h <;> cases h
theorem rep_not {n i : Nat} {o : Option Addr} {m : Mu} : (List.replicate n Sl.any)[i]? ≠ some (.mu o m) := fun h => by
  rw [List.getElem?_replicate] at h
  split at h <;> cases h
theorem startL_mu {N : List Str} {d1 d2 : List DV} {a b : Addr} {ls : List Ln} {i : Nat} {o : Option Addr} {m : Mu} (h : (startL N d1 a b ls d2)[i]? = some (.mu o m)) : (i = d1.length ∧ o = some a ∧ m = .lst (eLns ls)) ∨ (i = d1.length + 1 ∧ o = some b ∧ m = .dic (keyL ls)) := by
  unfold startL at h
  by_cases h1 : i < d1.length
  · rw [List.getElem?_append_left (by rw [List.length_map]; exact h1)] at h
    exact absurd h vals_not
  · rw [List.getElem?_append_right (by rw [List.length_map]; omega), List.length_map] at h
    obtain ⟨k, hk⟩ : ∃ k, i - d1.length = k := ⟨_, rfl⟩
    rw [hk] at h
    cases k with
    | zero => cases h; exact .inl ⟨by omega, rfl, rfl⟩
    | succ k =>
      cases k with
      | zero => cases h; exact .inr ⟨by omega, rfl, rfl⟩
      | succ k =>
        have h : (d2.map Sl.val ++ List.replicate (N.length - (d1.length + 2 + d2.length)) .any)[k]? = some (.mu o m) := h
        by_cases h2 : k < d2.length
        · rw [List.getElem?_append_left (by rw [List.length_map]; exact h2)] at h
          exact absurd h vals_not
        · rw [List.getElem?_append_right (by rw [List.length_map]; omega)] at h
          exact absurd h rep_not
theorem ok_startL {Hi Hs H : Hp} {N : List Str} {d1 d2 : List DV} {a b : Addr} {ls : List Ln} {us vs1 vs2 : List V} (hab : a ≠ b) (ha : Hi a = none) (hb : Hi b = none) (sa : Hs a = none) (sb : Hs b = none) (h1 : H a = some (.lst us)) (r : RpA Hs us (eLns ls)) (h2 : H b = some (.dT ((keyL ls).map fun k => (k, V.bl true)))) (r1 : RpA Hs vs1 d1) (r2 : RpA Hs vs2 d2) (e1 : Ex Hs H) (e2 : Ex Hi H) :
    Ok Hs Hi Hs H (L2.start N (vs1 ++ .ref a :: .ref b :: vs2)) (startL N d1 a b ls d2) := by
  have l1 := r1.len
  have l2 := r2.len
  have es : L2.start N (vs1 ++ .ref a :: .ref b :: vs2) = vs1.map some ++ some (.ref a) :: some (.ref b) :: (vs2.map some ++ List.replicate (N.length - (d1.length + 2 + d2.length)) none) := by
    unfold L2.start
    rw [List.map_append, List.map_cons, List.map_cons, List.append_assoc, List.length_append, List.length_cons, List.length_cons, l1, l2]
    rw [show d1.length + (d2.length + 1 + 1) = d1.length + 2 + d2.length by omega]
    rfl
  have g1 : (L2.start N (vs1 ++ .ref a :: .ref b :: vs2))[d1.length]? = some (some (.ref a)) := by
    rw [es, List.getElem?_append_right (by rw [List.length_map]; omega), List.length_map, l1, Nat.sub_self]; rfl
  have g2 : (L2.start N (vs1 ++ .ref a :: .ref b :: vs2))[d1.length + 1]? = some (some (.ref b)) := by
    rw [es, List.getElem?_append_right (by rw [List.length_map]; omega), List.length_map, l1, Nat.add_sub_cancel_left]; rfl
  refine ⟨⟨e2, Evl.Ex.refl _, e1, fun _ _ => rfl⟩, fun i s hs => ?_, fun i j o1 o2 m m' c hi hj si sj => ?_, ?_⟩
  · cases s with
    | any => trivial
    | mu o m =>
      rcases startL_mu hs with ⟨rfl, rfl, rfl⟩ | ⟨rfl, rfl, rfl⟩
      · exact ⟨a, _, g1, ha, sa, h1, .lst r, fun c z => by cases z; rfl⟩
      · exact ⟨b, _, g2, hb, sb, h2, .dic, fun c z => by cases z; rfl⟩
    | val d =>
      show ∃ v, _ = some (some v) ∧ Rp Hs v d
      rw [es]
      unfold startL at hs
      by_cases hi : i < d1.length
      · rw [List.getElem?_append_left (by rw [List.length_map]; exact hi), List.getElem?_map, List.getElem?_eq_getElem hi] at hs
        cases hs
        obtain ⟨v, ev, rv⟩ := r1.get (List.getElem?_eq_getElem hi)
        exact ⟨v, by rw [List.getElem?_append_left (by rw [List.length_map, l1]; exact hi), List.getElem?_map, ev]; rfl, rv⟩
      · rw [List.getElem?_append_right (by rw [List.length_map]; omega), List.length_map] at hs
        rw [List.getElem?_append_right (by rw [List.length_map]; omega), List.length_map, l1]
        obtain ⟨k, hk⟩ : ∃ k, i - d1.length = k := ⟨_, rfl⟩
        rw [hk] at hs ⊢
        cases k with
        | zero => cases hs
        | succ k =>
          cases k with
          | zero => cases hs
          | succ k =>
            have hs : (d2.map Sl.val ++ List.replicate (N.length - (d1.length + 2 + d2.length)) .any)[k]? = some (.val d) := hs
            show ∃ v, (vs2.map some ++ List.replicate (N.length - (d1.length + 2 + d2.length)) none)[k]? = some (some v) ∧ Rp Hs v d
            by_cases h3 : k < d2.length
            · rw [List.getElem?_append_left (by rw [List.length_map]; exact h3), List.getElem?_map, List.getElem?_eq_getElem h3] at hs
              cases hs
              obtain ⟨v, ev, rv⟩ := r2.get (List.getElem?_eq_getElem h3)
              exact ⟨v, by rw [List.getElem?_append_left (by rw [List.length_map, l2]; exact h3), List.getElem?_map, ev]; rfl, rv⟩
            · rw [List.getElem?_append_right (by rw [List.length_map]; omega), List.getElem?_replicate] at hs
              split at hs <;> cases hs
  · rcases startL_mu hi with ⟨rfl, rfl, rfl⟩ | ⟨rfl, rfl, rfl⟩ <;> rcases startL_mu hj with ⟨rfl, rfl, rfl⟩ | ⟨rfl, rfl, rfl⟩
    · rfl
    · rw [g1] at si
      rw [g2] at sj
      cases si
      cases sj
      exact absurd rfl hab
    · rw [g2] at si
      rw [g1] at sj
      cases si
      cases sj
      exact absurd rfl hab
    · rfl
  · rw [es]
    unfold startL
    simp only [List.length_append, List.length_map, List.length_cons, List.length_replicate, l1, l2]
theorem cal_defL {α : Type} {e1 e2 : α → List DV} {ls ls' : α → List Ln} {pre : α → Prop} {i n1 : Nat} {x : Str} {N ps : List Str} {k : Nat} (T : FnAt K mg i x) (S : FnScope N ps (defScope (top i))) (hl1 : ∀ x, (e1 x).length = n1) (hl : ∀ x, n1 + 2 + (e2 x).length = ps.length)
    (hbd : ∀ (kV doc pm : Value) (an : Option Addr) (cdv ct : Value) (us : List Value), us.length = ps.length → bindArgs (PySem.W.fnOf x x (defArgs (top i)) (defBody (top i)) (defScope (top i)) .none kV doc pm an cdv ct) ⟨us, []⟩ = pure (ps.zip us))
    (hb : ∀ (f : Addr) (cdv : Value) (A : Around) (outer : List Env) (s : Shared) (H : Hp) (E : XK), Room k (A.deeper (envOfC x (defScope (top i)) s.heap.objs.size f cdv)) → ∀ x', pre x' → ∀ a b : Addr,
      ∃ t, PSs (cxOf CX0 P w K mg base N x (defScope (top i)) f cdv A outer s H E).nox (defBody (top i)) t ∧ DS t (startL N (e1 x') a b (ls x') (e2 x')) { nx := fun ρ => ρ[n1]? = some (mL (some a) (ls' x')) ∧ ρ[n1 + 1]? = some (mK (some b) (ls' x')), rt := fun _ => False }) : Cal P w K mg base (k + 1) x (spL e1 e2 ls ls' pre) [] := by
  obtain ⟨f, fd, F, hm⟩ := T.ex
  refine ⟨f, fd, ps, [], F.ok S (fun vs H Q E h => ?_) (fun cdv A outer s H vs Q E hr h => ?_), hm, F.kp, F.bindsN hbd, .nil⟩
  · obtain ⟨x, Hi, Hs, a, b, us, vs1, vs2, ev, _, _, _, _, _, _, _, _, r1, r2, _⟩ := h
    rw [ev, List.length_append, List.length_cons, List.length_cons, r1.len, r2.len, hl1, ← hl x]; omega
  · obtain ⟨x, Hi, Hs, a, b, us, vs1, vs2, rfl, hab, ha, hb', sa, sb, h1, r, h2, r1, r2, ee1, ee2, hp, q⟩ := h
    obtain ⟨t, t1, t2⟩ := hb f cdv A outer s H E hr x hp a b
    refine ⟨t, t1.nox, t2 Hs Hi _ ⟨fun ρ σ Hs' H' z o => ?_, fun d v Hs' H' z => z.elim, fun _ _ _ _ z => z.elim, fun _ _ _ _ z => z.elim⟩ _ Hs H (ok_startL hab ha hb' sa sb h1 r h2 r1 r2 ee1 ee2)⟩
    obtain ⟨z1, z2⟩ := z
    obtain ⟨a', u1, _, _, g2, g3, g4, g5⟩ := o.sl _ _ z1
    obtain ⟨b', u2, _, _, k2, k3, k4, k5⟩ := o.sl _ _ z2
    have := g5 a rfl
    subst this
    have := k5 b rfl
    subst this
    cases g4 with
    | lst rr =>
      cases k4 with
      | dic => exact q Hs' H' _ o.go g2 k2 g3 rr k3
theorem callL {α : Type} {e1 e2 : α → List DV} {ls ls' : α → List Ln} {pre : α → Prop} {ρ : List Sl} {E : DEnd} {i j : Nat} {oa ob : Option Addr} (x : α) (ei : ρ[i]? = some (mL oa (ls x))) (ej : ρ[j]? = some (mK ob (ls x))) (hij : i ≠ j) (hno : ∀ k o m, ρ[k]? = some (.mu o m) → k = i ∨ k = j) (hp : pre x)
    (k : E.nx ((ρ.set i (mL oa (ls' x))).set j (mK ob (ls' x)))) {Hj Hi : Hp} {D : Ends} (S : Sim Hj Hi D E) {σ : L2.St} {Hs H : Hp} (o : Ok Hj Hi Hs H σ ρ) : ∃ a b, σ[i]? = some (some (.ref a)) ∧ σ[j]? = some (some (.ref b)) ∧ ∀ Hs2 H2 vs1 vs2, Go Hs H Hs2 H2 → RpA Hs2 vs1 (e1 x) → RpA Hs2 vs2 (e2 x) → spL e1 e2 ls ls' pre (vs1 ++ .ref a :: .ref b :: vs2) H2 (fun _ H' => D.nx σ H') C8.E0 := by
  obtain ⟨a, u1, ea, _, _, _, _, _⟩ := o.sl i _ ei
  obtain ⟨b, u2, eb, _, _, _, _, _⟩ := o.sl j _ ej
  refine ⟨a, b, ea, eb, fun Hs2 H2 vs1 vs2 gg r1 r2 => ?_⟩
  have o2 := o.up gg
  obtain ⟨a', v1, ea', a1, a2, a3, a4, a5⟩ := o2.sl i _ ei
  obtain ⟨b', v2, eb', b1, b2, b3, b4, b5⟩ := o2.sl j _ ej
  rw [ea] at ea'
  cases ea'
  rw [eb] at eb'
  cases eb'
  have hab : a ≠ b := fun z => by
    subst z
    exact hij (o2.ap i j _ _ _ _ a ei ej ea eb)
  cases a4 with
  | lst r =>
    cases b4 with
    | dic =>
      refine ⟨x, Hi, Hs2, a, b, _, vs1, vs2, rfl, hab, a1, b1, a2, b2, a3, r, b3, r1, r2, o2.go.i, o2.go.h, hp, fun Hs' H' us' g n1 n2 h1 rr h2 => ?_⟩
      have hil : i < ρ.length := (List.getElem?_eq_some_iff.mp ei).1
      have hjl : j < ρ.length := (List.getElem?_eq_some_iff.mp ej).1
      have mui : ((ρ.set i (mL oa (ls' x))).set j (mK ob (ls' x)))[i]? = some (mL oa (ls' x)) := by
        rw [List.getElem?_set_ne (Ne.symm hij), List.getElem?_set_self hil]
      have muj : ((ρ.set i (mL oa (ls' x))).set j (mK ob (ls' x)))[j]? = some (mK ob (ls' x)) := by
        rw [List.getElem?_set_self (by rw [List.length_set]; exact hjl)]
      have oth : ∀ k, k ≠ i → k ≠ j → ((ρ.set i (mL oa (ls' x))).set j (mK ob (ls' x)))[k]? = ρ[k]? := fun k h1 h2 => by
        rw [List.getElem?_set_ne (Ne.symm h2), List.getElem?_set_ne (Ne.symm h1)]
      refine S.nx _ _ Hs' H' k ⟨⟨g.h, o2.go.s.trans g.s, g.i, fun c hc => by rw [g.n c hc, o2.go.n c hc]⟩, fun k s hk => ?_, fun k l o1 o2' m m' c hk hl sk sl => ?_, by rw [List.length_set, List.length_set]; exact o2.len⟩
      · by_cases h1' : k = i
        · subst h1'
          rw [mui] at hk
          cases hk
          exact ⟨a, _, ea, a1, n1, h1, .lst rr, a5⟩
        · by_cases h2' : k = j
          · subst h2'
            rw [muj] at hk
            cases hk
            exact ⟨b, _, eb, b1, n2, h2, .dic, b5⟩
          · rw [oth k h1' h2'] at hk
            cases s with
            | any => trivial
            | val d =>
              obtain ⟨v, ev, rv⟩ := o2.sl k _ hk
              exact ⟨v, ev, rv.mono g.s⟩
            | mu o m =>
              rcases hno k o m hk with z | z
              · exact absurd z h1'
              · exact absurd z h2'
      · have hk' : k = i ∨ k = j := by
          by_cases h1' : k = i
          · exact .inl h1'
          · by_cases h2' : k = j
            · exact .inr h2'
            · rw [oth k h1' h2'] at hk
              exact hno k _ _ hk
        have hl' : l = i ∨ l = j := by
          by_cases h1' : l = i
          · exact .inl h1'
          · by_cases h2' : l = j
            · exact .inr h2'
            · rw [oth l h1' h2'] at hl
              exact hno l _ _ hl
        rcases hk' with rfl | rfl <;> rcases hl' with rfl | rfl
        · rfl
        · rw [ea] at sk
          rw [eb] at sl
          cases sk
          cases sl
          exact absurd rfl hab
        · rw [eb] at sk
          rw [ea] at sl
          cases sk
          cases sl
          exact absurd rfl hab
        · rfl
/-- f(lines, met, ..) -/
theorem ds_call0 {α : Type} {e2 : α → List DV} {ls ls' : α → List Ln} {pre : α → Prop} {ρ : List Sl} {E : DEnd} {i j : Nat} {oa ob : Option Addr} {ta : TA} (x : α) (ei : ρ[i]? = some (mL oa (ls x))) (ej : ρ[j]? = some (mK ob (ls x))) (hij : i ≠ j) (hno : ∀ k o m, ρ[k]? = some (.mu o m) → k = i ∨ k = j) (h : DA ta ρ (e2 x)) (hp : pre x)
    (k : E.nx ((ρ.set i (mL oa (ls' x))).set j (mK ob (ls' x)))) : DS (tDrop (tCall (spL (fun _ => []) e2 ls ls' pre) [] C8.E0 (tCons (tVar i) (tCons (tVar j) ta)))) ρ E := fun Hj Hi D S σ Hs H o => by
  obtain ⟨a, b, ea, eb, hq⟩   := callL (e1 := fun _ => []) x ei ej hij hno hp k S o
  refine ⟨.ref a, ea, .ref b, eb, h _ _ _ _ _ o _ fun vs Hs2 H2 g r => ?_⟩
  have := hq Hs2 H2 [] vs g .nil r
  show spL (fun _ => []) e2 ls ls' pre ((V.ref a :: V.ref b :: vs) ++ []) H2 _ C8.E0
  rw [List.append_nil]
  exact this
theorem ds_call2 {α : Type} {e1 e2 : α → List DV} {ls ls' : α → List Ln} {pre : α → Prop} {ρ : List Sl} {E : DEnd} {i j m1 m2 : Nat} {d1 d2 : DV} {oa ob : Option Addr} {ta : TA} (x : α) (ei : ρ[i]? = some (mL oa (ls x))) (ej : ρ[j]? = some (mK ob (ls x))) (hij : i ≠ j) (hno : ∀ k o m, ρ[k]? = some (.mu o m) → k = i ∨ k = j) (hd : e1 x = [d1, d2]) (h1 : ρ[m1]? = some (.val d1)) (h2 : ρ[m2]? = some (.val d2)) (h : DA ta ρ (e2 x)) (hp : pre x)
    (k : E.nx ((ρ.set i (mL oa (ls' x))).set j (mK ob (ls' x)))) : DS (tDrop (tCall (spL e1 e2 ls ls' pre) [] C8.E0 (tCons (tVar m1) (tCons (tVar m2) (tCons (tVar i) (tCons (tVar j) ta)))))) ρ E := fun Hj Hi D S σ Hs H o => by
  obtain ⟨a, b, ea, eb, hq⟩ := callL (e1 := e1) x ei ej hij hno hp k S o
  obtain ⟨v1, ev1, rv1⟩ := o.sl _ _ h1
  obtain ⟨v2, ev2, rv2⟩ := o.sl _ _ h2
  refine ⟨v1, ev1, v2, ev2, .ref a, ea, .ref b, eb, h _ _ _ _ _ o _ fun vs Hs2 H2 g r => ?_⟩
  have := hq Hs2 H2 [v1, v2] vs g (by rw [hd]; exact .cons (rv1.mono g.s) (.cons (rv2.mono g.s) .nil)) r
  show spL e1 e2 ls ls' pre ((v1 :: v2 :: V.ref a :: V.ref b :: vs) ++ []) H2 _ C8.E0
  rw [List.append_nil]
  exact this
end
section
variable {K : PySem.W.Frag} {p q : Int × Int} {r : R2}
theorem Pl.pr (p : Int × Int) : Pl 1 (ePr p) := .tup 0 _ fun d hd => by
  rcases List.mem_cons.mp hd with rfl | hd
  · exact .int 0 _
  · rw [List.mem_singleton.mp hd]; exact .int 0 _
theorem ePr_inj {p q : Int × Int} : p = q ↔ ePr p = ePr q := by
  constructor
  · intro h; rw [h]
  · intro h
    obtain ⟨p1, p2⟩ := p
    obtain ⟨q1, q2⟩ := q
    injection h with h
    injection h with h1 h2
    injection h2 with h2 _
    injection h1 with h1
    injection h2 with h2
    exact Prod.ext h1 h2
theorem ro_nePr : RO (fun x y H Q => r x y H Q ∨ rNeD K x y H Q) (ePr p) (ePr q) (.bl (!decide (p = q))) := ro_r (ro_neD (n := 1) (by decide) (.pr p) (.pr q) (by rw [decide_eq_true_iff]; exact ePr_inj))
end
end DL
end

section
set_option Elab.async false
set_option linter.all false
set_option maxRecDepth 100000
set_option maxHeartbeats 4000000
namespace DL
open PySem PySem.Spec PyProof.Rows L2
open C8 (Cal pe_c Mak pe_mk)
local macro_rules | `(tactic| walk_at "si") => `(tactic| first
  | with_reducible assumption | omega | (simp only [rgI_len, List.length_map]; omega) | (simp only [decide_eq_true_eq, Bool.and_eq_true, Bool.not_eq_true', decide_eq_false_iff_not] at *; omega))
local macro_rules | `(tactic| walk_at "sz") => `(tactic| first
  | with_reducible assumption | omega | (simp only [rgI_len, List.length_map, List.length_append, List.length_cons, List.length_nil]; omega))
local macro_rules | `(tactic| walk_at "row") => `(tactic| first | with_reducible assumption | ((with_reducible refine Tbl.get (by with_reducible assumption) ?_); walk_at "wd") | exact row_mem (by with_reducible assumption) (by with_reducible assumption))
local macro_rules | `(tactic| walk_at "wd") => `(tactic| first | with_reducible assumption | omega | (constructor <;> omega) | ((with_reducible refine wd_get (by walk_at "row") ?_); walk_at "wd") | exact wd_mem (by with_reducible assumption) (by with_reducible assumption))
local macro_rules | `(tactic| walk_at "rk") => `(tactic| first
  | ((with_reducible apply ro_xL (by decide)); exact rfl) | ((with_reducible apply ro_xT (by decide)); exact rfl) | walk_at "ro")
local macro_rules | `(tactic| walk_at "ro") => `(tactic| first
  | with_reducible exact ro_b0 | with_reducible exact ro_l ro_eqI | with_reducible exact ro_l ro_neI | with_reducible exact ro_l ro_eqB | with_reducible exact ro_l ro_neB | with_reducible exact ro_l ro_eqS | with_reducible exact ro_l ro_neS
  | ((with_reducible refine ro_gLR (by with_reducible assumption) ?_); walk_at "wd") | ((with_reducible refine ro_gIR (by walk_at "row") ?_); walk_at "wd")
  | ((with_reducible refine ro_gI ?_ ?_) <;> walk_at "si") | ((with_reducible refine ro_gL ?_ ?_) <;> walk_at "si") | ((with_reducible refine ro_gIT ?_ ?_) <;> walk_at "si")
  | with_reducible exact ro_gG (by with_reducible assumption) | ((with_reducible refine ro_gT ?_ ?_) <;> walk_at "si")
  | ((with_reducible refine ro_gB ?_ ?_) <;> walk_at "si")
  | ((with_reducible refine ro_gS ?_ ?_) <;> walk_at "si") | ((with_reducible refine ro_gST ?_ ?_) <;> walk_at "si")
  | ((with_reducible refine ro_xM ?_ ?_) <;> walk_at "si") | ((with_reducible refine ro_xTM ?_ ?_) <;> walk_at "si")
  | ((with_reducible apply ro_xL (by decide)); exact rfl) | ((with_reducible apply ro_xT (by decide)); exact rfl)
  | with_reducible exact ro_eqIs | with_reducible exact ro_l ro_inL | with_reducible exact ro_l ro_niL | with_reducible exact ro_l ro_inT | with_reducible exact ro_l ro_inS | with_reducible exact ro_isNN | with_reducible exact ro_notNN | with_reducible exact ro_isNI | with_reducible exact ro_notNI)
local macro_rules | `(tactic| walk_at "rc") => `(tactic| with_reducible first
  | exact rc_lenM | exact rc_lenTM | exact rc_lenL' | exact rc_lenT' | exact rc_ii _ | exact rc_ib _ | exact rc_ss _ | exact rc_tt _ | exact rc_ltl _ | exact rc_ltt _ | exact rc_int | exact rc_abs | exact rc_max2 | exact rc_min2 | exact rc_all | exact rc_sum | exact rc_tupL' | exact rc_tupT' | exact rc_range1)
local macro_rules | `(tactic| walk_at "rcn") => `(tactic| with_reducible first
  | exact rcn_listL' | exact rcn_listT' | exact rcn_sortP)
local macro_rules | `(tactic| walk_at "pre") => `(tactic| first | with_reducible assumption | exact trivial | (refine And.intro ?_ ?_ <;> walk_at "pre") | walk_at "wd" | walk_at "si")
local macro_rules | `(tactic| walk_at "cmod") => `(tactic| (show (0 : Int) < _; first | decide | walk_at "si"))
local macro_rules | `(tactic| walk_at "cd") => `(tactic| (refine And.intro ?_ ?_ <;> walk_at "si"))
local macro_rules | `(tactic| walk_at "cp") => `(tactic| exact ⟨by decide, by decide, by decide⟩)
local macro_rules | `(tactic| walk_at "cm") => `(tactic| first | (refine Or.inl (And.intro ?_ ?_) <;> omega) | (refine Or.inr (And.intro ?_ ?_) <;> omega))
local macro_rules | `(tactic| walk_at "wk") => `(tactic| (repeat (first | exact Wk.nil | exact Wk.refl _ | refine Wk.same ?_ | refine Wk.frz ?_ | refine Wk.drop ?_)))
section
variable {P : PySem.Program} {w : World} {K : PySem.W.Frag} {mg : Str → Option Value} {base : Heap} {CL CB : Addr} (T : Txt K mg CL CB)
include T
abbrev S_is_word : Stmt := top 54
abbrev N_is_word : List Str := ["thing", "many"]
omit T in
theorem sc_is_word : FnScope N_is_word ["thing", "many"] (defScope S_is_word) := ⟨rfl, rfl, rfl, by decide +kernel, rfl, by decide +kernel, by decide +kernel⟩
def sp_is_word : Sp := spD (α := Int × Int) (fun ⟨n, m⟩ => [.int n, .int m]) (fun ⟨n, m⟩ => True) (fun ⟨n, m⟩ => .bl (decide (0 ≤ n) && decide (n < m)))
omit T in
theorem d_is_word {ρ : List Sl} {t : TA} {E : XK} {n m : Int} (h : DA t ρ [.int n, .int m]) (hp : True) : DE (tCall sp_is_word [] E t) ρ (.bl (decide (0 ≤ n) && decide (n < m))) := de_call (α := Int × Int) (enc := fun ⟨n, m⟩ => [.int n, .int m]) (pre := fun ⟨n, m⟩ => True) (val := fun ⟨n, m⟩ => .bl (decide (0 ≤ n) && decide (n < m))) ⟨n, m⟩ h rfl hp
theorem c_is_word : Cal P w K mg base 1 "is_word" sp_is_word [] :=
  cal_def (α := Int × Int) (enc := fun ⟨n, m⟩ => [.int n, .int m]) (pre := fun ⟨n, m⟩ => True) (val := fun ⟨n, m⟩ => .bl (decide (0 ≤ n) && decide (n < m))) T.f_is_word sc_is_word (fun ⟨n, m⟩ => rfl) (fun _ _ _ _ _ _ us hl => match us, hl with | [_, _], _ => rfl) fun f cdv A outer s H E hr ⟨n, m⟩ hp => by
    (try dsimp only at hp)
    have nd := sc_is_word.nd
    refine ⟨_, (pss_one (ps_ret (pe_and (pe_callB (isik K) rfl T.m_isinstance (by decide +kernel) (pa_cons (pv 0) (pa_cons (pe_bltn (v := .ty "int") rfl T.m_int (by decide +kernel) rfl) pa_nil))) (pe_and (pe_not (pe_callB (isik K) rfl T.m_isinstance (by decide +kernel) (pa_cons (pv 0) (pa_cons (pe_bltn (v := .ty "bool") rfl T.m_bool (by decide +kernel) rfl) pa_nil)))) (pe_one (pe_chain op_le op_lt pe_int (pv 0) (pv 1))))))), ?_⟩
    show DS _ [.val (.int n), .val (.int m)] _
    exact ds_ret (de_andV (de_cb (db_cons (dq_of (de_var rfl)) (db_cons (dq_of de_ty) db_nil)) (by walk_at "rc")) (fun _ => (de_andV (de_notV (de_cb (db_cons (dq_of (de_var rfl)) (db_cons (dq_of de_ty) db_nil)) (by walk_at "rc"))) (fun _ => (de_chain (dq_of de_int) (dq_of (de_var rfl)) ro_b0 (fun _ => (dq_of (de_var rfl))) (fun _ => ro_b0)))))) rfl
def v_below (js : List (List Int)) (x : Int) : List Int := (rgI 0 js.length).filter fun i => decide (gI (gL js i) x = x)
abbrev S_law_below : Stmt := top 101
abbrev N_law_below : List Str := ["_law_joins", "_law_word", "_law_low"]
omit T in
theorem sc__law_below : FnScope N_law_below ["_law_joins", "_law_word"] (defScope S_law_below) := ⟨rfl, rfl, rfl, by decide +kernel, rfl, by decide +kernel, by decide +kernel⟩
def sp__law_below : Sp := spD (α := List (List Int) × Int) (fun ⟨js, x⟩ => [eTb js, .int x]) (fun ⟨js, x⟩ => Tbl js.length js.length js.length js ∧ js.length ≤ 20 ∧ wd js.length x) (fun ⟨js, x⟩ => eIs (v_below js x))
omit T in
theorem d__law_below {ρ : List Sl} {t : TA} {E : XK} {js : List (List Int)} {x : Int} (h : DA t ρ [eTb js, .int x]) (hp : Tbl js.length js.length js.length js ∧ js.length ≤ 20 ∧ wd js.length x) : DE (tCall sp__law_below [] E t) ρ (eIs (v_below js x)) := de_call (α := List (List Int) × Int) (enc := fun ⟨js, x⟩ => [eTb js, .int x]) (pre := fun ⟨js, x⟩ => Tbl js.length js.length js.length js ∧ js.length ≤ 20 ∧ wd js.length x) (val := fun ⟨js, x⟩ => eIs (v_below js x)) ⟨js, x⟩ h rfl hp
theorem c__law_below : Cal P w K mg base 1 "_law_below" sp__law_below [] :=
  cal_def (α := List (List Int) × Int) (enc := fun ⟨js, x⟩ => [eTb js, .int x]) (pre := fun ⟨js, x⟩ => Tbl js.length js.length js.length js ∧ js.length ≤ 20 ∧ wd js.length x) (val := fun ⟨js, x⟩ => eIs (v_below js x)) T.f__law_below sc__law_below (fun ⟨js, x⟩ => rfl) (fun _ _ _ _ _ _ us hl => match us, hl with | [_, _], _ => rfl) fun f cdv A outer s H E hr ⟨js, x⟩ hp => by
    (try dsimp only at hp)
    have nd := sc__law_below.nd
    refine ⟨_, (pss_one (ps_ret (pe_lc (own := [("_law_low", 2)]) rfl nd (pi_range1 rfl T.m_range (pa_cons (pe_callB (lenk K) rfl T.m_len (by decide +kernel) (pa_cons (pv 0) pa_nil)) pa_nil)) (blkOk_by (sc := defScope S_law_below) (N := N_law_below) (own := [("_law_low", 2)]) (by decide +kernel)) (fun _ _ _ _ _ => (pg_name (i := 2) nd rfl (by first | exact .inl rfl | exact .inr rfl))) (fun _ _ _ _ _ => pts_one (pt_cmpR (eqk K hr) (pe_ix (ixk K) (pe_ix (ixk K) (pv 0) (pv 2) (fun _ _ => rfl)) (pv 1) (fun _ _ => rfl)) (pv 1) (nomark _))) (fun _ _ _ _ _ => (pv 2))))), ?_⟩
    obtain ⟨hj, hn, hx⟩ := hp
    show DS _ [.val (eTb js), .val (.int x), .any] _
    exact ds_ret (dn_de (dn_lcf2 DV.int (dw_rangeN (da_cons (de_cb (db_cons (dq_of (de_var rfl)) db_nil) (by walk_at "rc")) da_nil) (by walk_at "si")) (by walk_at "sz") (by decide) (fun x_low hx_x_low => by (try rw [mem_rgI] at hx_x_low); exact (dt_test (de_op (dq_of (de_op (dq_of (de_op (dq_of (de_var rfl)) (dq_of (de_var rfl)) (by walk_at "ro"))) (dq_of (de_var rfl)) (by walk_at "ro"))) (dq_of (de_var rfl)) (by walk_at "ro")))) (fun x_low hx_x_low hf_x_low => by (try rw [mem_rgI] at hx_x_low); exact (de_var rfl)))) (by simp [v_below])
def v_joinall (js : List (List Int)) (ws : List Int) : Int := ws.foldl (fun o x => gI (gL js o) x) 0
abbrev S_law_join_all : Stmt := top 100
abbrev N_law_join_all : List Str := ["_law_joins", "_law_words_here", "_law_out", "_law_word"]
omit T in
theorem sc__law_join_all : FnScope N_law_join_all ["_law_joins", "_law_words_here"] (defScope S_law_join_all) := ⟨rfl, rfl, rfl, by decide +kernel, rfl, by decide +kernel, by decide +kernel⟩
def sp__law_join_all : Sp := spD (α := List (List Int) × List Int) (fun ⟨js, ws⟩ => [eTb js, eIs ws]) (fun ⟨js, ws⟩ => Tbl js.length js.length js.length js ∧ 0 < js.length ∧ (∀ x ∈ ws, wd js.length x)) (fun ⟨js, ws⟩ => .int (v_joinall js ws))
omit T in
theorem d__law_join_all {ρ : List Sl} {t : TA} {E : XK} {js : List (List Int)} {ws : List Int} (h : DA t ρ [eTb js, eIs ws]) (hp : Tbl js.length js.length js.length js ∧ 0 < js.length ∧ (∀ x ∈ ws, wd js.length x)) : DE (tCall sp__law_join_all [] E t) ρ (.int (v_joinall js ws)) := de_call (α := List (List Int) × List Int) (enc := fun ⟨js, ws⟩ => [eTb js, eIs ws]) (pre := fun ⟨js, ws⟩ => Tbl js.length js.length js.length js ∧ 0 < js.length ∧ (∀ x ∈ ws, wd js.length x)) (val := fun ⟨js, ws⟩ => .int (v_joinall js ws)) ⟨js, ws⟩ h rfl hp
theorem c__law_join_all : Cal P w K mg base 1 "_law_join_all" sp__law_join_all [] :=
  cal_def (α := List (List Int) × List Int) (enc := fun ⟨js, ws⟩ => [eTb js, eIs ws]) (pre := fun ⟨js, ws⟩ => Tbl js.length js.length js.length js ∧ 0 < js.length ∧ (∀ x ∈ ws, wd js.length x)) (val := fun ⟨js, ws⟩ => .int (v_joinall js ws)) T.f__law_join_all sc__law_join_all (fun ⟨js, ws⟩ => rfl) (fun _ _ _ _ _ _ us hl => match us, hl with | [_, _], _ => rfl) fun f cdv A outer s H E hr ⟨js, ws⟩ hp => by
    (try dsimp only at hp)
    have nd := sc__law_join_all.nd
    refine ⟨_, (pss_cons (ps_set (i := 2) nd rfl (.inl rfl) pe_int)
    (pss_cons (ps_for PassesOwn.never rfl (pilk K (pv 1)) (pg_name (i := 3) nd rfl (.inl rfl))
    (pss_one (ps_set (i := 2) nd rfl (.inl rfl) (pe_ix (ixk K) (pe_ix (ixk K) (pv 0) (pv 2) (fun _ _ => rfl)) (pv 3) (fun _ _ => rfl)))))
    (pss_one (ps_ret (pv 2))))), ?_⟩
    obtain ⟨hj, hn, hw⟩ := hp
    show DS _ [.val (eTb js), .val (eIs ws), .any, .any] _
    refine ds_setS de_int ?_
    refine ds_seq (ds_fold (fun o => [.val (eTb js), .val (eIs ws), .val (.int o), .any]) (fun o x => gI (gL js o) x) 0 (fun _ o => wd js.length o) (dw_list (de_var rfl)) (by walk_at "wk") (by walk_at "wd") (fun n o x hx ho => ?_) fun ho => ?_)
    · have hx := hw x (List.mem_of_getElem? hx)
      show DS _ [.val (eTb js), .val (eIs ws), .val (.int o), .val (.int x)] _
      exact ds_set (de_op (dq_of (de_op (dq_of (de_var rfl)) (dq_of (de_var rfl)) (by walk_at "ro"))) (dq_of (de_var rfl)) (by walk_at "ro")) ⟨by walk_at "wk", by walk_at "wd"⟩
    · exact ds_ret (de_var rfl) rfl
def v_ledup (js : List (List Int)) (ws : List Int) : List Int := (rgI 0 js.length).map fun x => v_joinall js (((v_below js x).filter fun l => decide (l > 0)).map fun l => gI ws l)
omit T in
theorem mem_below {js : List (List Int)} {x l : Int} : l ∈ v_below js x → wd js.length l := fun h => by
  unfold v_below at h
  have := mem_rgI.mp (List.mem_filter.mp h).1
  omega
omit T in
theorem below_len (js : List (List Int)) (x : Int) : (v_below js x).length ≤ js.length := by
  unfold v_below
  exact Nat.le_trans (List.length_filter_le _ _) (by rw [rgI_len]; exact Nat.le_refl _)
omit T in
theorem wds_map {n m : Nat} {ws : List Int} (h : Row m n ws) {ls : List Int} (hl : ∀ l ∈ ls, wd m l) : ∀ y ∈ ls.map fun l => gI ws l, wd n y := fun y hy => by
  obtain ⟨l, hl', rfl⟩ := List.mem_map.mp hy
  exact h.get (hl l hl')
abbrev S_law_led_up : Stmt := top 102
abbrev N_law_led_up : List Str := ["_law_joins", "_law_wishes", "_law_word", "_law_low"]
omit T in
theorem sc__law_led_up : FnScope N_law_led_up ["_law_joins", "_law_wishes"] (defScope S_law_led_up) := ⟨rfl, rfl, rfl, by decide +kernel, rfl, by decide +kernel, by decide +kernel⟩
def sp__law_led_up : Sp := spD (α := List (List Int) × List Int) (fun ⟨js, ws⟩ => [eTb js, eIs ws]) (fun ⟨js, ws⟩ => Tbl js.length js.length js.length js ∧ 0 < js.length ∧ js.length ≤ 20 ∧ Row js.length js.length ws) (fun ⟨js, ws⟩ => eIs (v_ledup js ws))
omit T in
theorem d__law_led_up {ρ : List Sl} {t : TA} {E : XK} {js : List (List Int)} {ws : List Int} (h : DA t ρ [eTb js, eIs ws]) (hp : Tbl js.length js.length js.length js ∧ 0 < js.length ∧ js.length ≤ 20 ∧ Row js.length js.length ws) : DE (tCall sp__law_led_up [] E t) ρ (eIs (v_ledup js ws)) := de_call (α := List (List Int) × List Int) (enc := fun ⟨js, ws⟩ => [eTb js, eIs ws]) (pre := fun ⟨js, ws⟩ => Tbl js.length js.length js.length js ∧ 0 < js.length ∧ js.length ≤ 20 ∧ Row js.length js.length ws) (val := fun ⟨js, ws⟩ => eIs (v_ledup js ws)) ⟨js, ws⟩ h rfl hp
theorem c__law_led_up : Cal P w K mg base 2 "_law_led_up" sp__law_led_up [] :=
  cal_def (α := List (List Int) × List Int) (enc := fun ⟨js, ws⟩ => [eTb js, eIs ws]) (pre := fun ⟨js, ws⟩ => Tbl js.length js.length js.length js ∧ 0 < js.length ∧ js.length ≤ 20 ∧ Row js.length js.length ws) (val := fun ⟨js, ws⟩ => eIs (v_ledup js ws)) T.f__law_led_up sc__law_led_up (fun ⟨js, ws⟩ => rfl) (fun _ _ _ _ _ _ us hl => match us, hl with | [_, _], _ => rfl) fun f cdv A outer s H E hr ⟨js, ws⟩ hp => by
    (try dsimp only at hp)
    have nd := sc__law_led_up.nd
    refine ⟨_, (pss_one (ps_ret (pe_lc (own := [("_law_word", 2)]) rfl nd (pi_range1 rfl T.m_range (pa_cons (pe_callB (lenk K) rfl T.m_len (by decide +kernel) (pa_cons (pv 0) pa_nil)) pa_nil)) (blkOk_by (sc := defScope S_law_led_up) (N := N_law_led_up) (own := [("_law_word", 2)]) (by decide +kernel)) (fun _ _ _ _ _ => (pg_name (i := 2) nd rfl (by first | exact .inl rfl | exact .inr rfl))) (fun _ _ _ _ _ => pts_nil) (fun _ _ _ _ _ => (pe_c (c__law_join_all T) hr (by decide) rfl (pa_cons (pv 0) (pa_cons (pe_lc (own := [("_law_low", 3)]) rfl nd (pilk K (pe_c (c__law_below T) hr (by decide) rfl (pa_cons (pv 0) (pa_cons (pv 2) pa_nil)))) (blkOk_by (sc := relS _ (defScope S_law_led_up)) (N := N_law_led_up) (own := [("_law_low", 3)]) (by decide +kernel)) (fun _ _ _ _ _ => (pg_name (i := 3) nd rfl (by first | exact .inl rfl | exact .inr rfl))) (fun _ _ _ _ _ => pts_one (pt_cmpR op_gt (pv 3) pe_int (nomark _))) (fun _ _ _ _ _ => (pe_ix (ixk K) (pv 1) (pv 3) (fun _ _ => rfl)))) pa_nil))))))), ?_⟩
    obtain ⟨hj, hn, hn2, hw⟩ := hp
    show DS _ [.val (eTb js), .val (eIs ws), .any, .any] _
    have hb : ∀ x, (v_below js x).length ≤ 50000 := fun x => Nat.le_trans (below_len js x) (by omega)
    have hp : ∀ x, ∀ y ∈ ((v_below js x).filter fun l => decide (l > 0)).map fun l => gI ws l, wd js.length y := fun x => wds_map hw fun l hl => mem_below (List.mem_filter.mp hl).1
    exact ds_ret (dn_de (dn_lc2 DV.int (dw_rangeN (da_cons (de_cb (db_cons (dq_of (de_var rfl)) db_nil) (by walk_at "rc")) da_nil) (by walk_at "si")) (by walk_at "sz") (by decide) (fun x_word hx_x_word => by (try rw [mem_rgI] at hx_x_word); exact (d__law_join_all (da_cons (de_var rfl) (da_cons (dn_de (dn_lcf2 DV.int (dw_list (d__law_below (da_cons (de_var rfl) (da_cons (de_var rfl) da_nil)) (by walk_at "pre"))) (hb _)            (by decide) (fun x_low hx_x_low => by (try rw [mem_rgI] at hx_x_low); exact (dt_test (de_op (dq_of (de_var rfl)) (dq_of de_int) ro_b0))) (fun x_low hx_x_low hf_x_low => by (try rw [mem_rgI] at hx_x_low); exact (de_op (dq_of (de_var rfl)) (dq_of (de_var rfl)) (ro_gIR hw (mem_below hx_x_low)))))) da_nil)) (⟨hj, hn, hp _⟩)  )))) rfl

end
end DL
end

section
set_option Elab.async false
set_option linter.all false
set_option maxRecDepth 100000
set_option maxHeartbeats 4000000
namespace DL
open PySem PySem.Spec PyProof.Rows L2
open C8 (Cal pe_c Mak pe_mk)
local macro_rules | `(tactic| walk_at "si") => `(tactic| first
  | with_reducible assumption | omega | (simp only [rgI_len, List.length_map]; omega) | (simp only [decide_eq_true_eq, Bool.and_eq_true, Bool.not_eq_true', decide_eq_false_iff_not] at *; omega))
local macro_rules | `(tactic| walk_at "sz") => `(tactic| first
  | with_reducible assumption | omega | (simp only [rgI_len, List.length_map, List.length_append, List.length_cons, List.length_nil]; omega))
local macro_rules | `(tactic| walk_at "row") => `(tactic| first | with_reducible assumption | ((with_reducible refine Tbl.get (by with_reducible assumption) ?_); walk_at "wd") | exact row_mem (by with_reducible assumption) (by with_reducible assumption))
local macro_rules | `(tactic| walk_at "wd") => `(tactic| first | with_reducible assumption | omega | (constructor <;> omega) | ((with_reducible refine wd_get (by walk_at "row") ?_); walk_at "wd") | exact wd_mem (by with_reducible assumption) (by with_reducible assumption))
local macro_rules | `(tactic| walk_at "rk") => `(tactic| first
  | ((with_reducible apply ro_xL (by decide)); exact rfl) | ((with_reducible apply ro_xT (by decide)); exact rfl) | walk_at "ro")
local macro_rules | `(tactic| walk_at "ro") => `(tactic| first
  | with_reducible exact ro_b0 | with_reducible exact ro_l ro_eqI | with_reducible exact ro_l ro_neI | with_reducible exact ro_l ro_eqB | with_reducible exact ro_l ro_neB | with_reducible exact ro_l ro_eqS | with_reducible exact ro_l ro_neS
  | ((with_reducible refine ro_gLR (by with_reducible assumption) ?_); walk_at "wd") | ((with_reducible refine ro_gIR (by walk_at "row") ?_); walk_at "wd")
  | ((with_reducible refine ro_gI ?_ ?_) <;> walk_at "si") | ((with_reducible refine ro_gL ?_ ?_) <;> walk_at "si") | ((with_reducible refine ro_gIT ?_ ?_) <;> walk_at "si")
  | with_reducible exact ro_gG (by with_reducible assumption) | ((with_reducible refine ro_gT ?_ ?_) <;> walk_at "si")
  | ((with_reducible refine ro_gB ?_ ?_) <;> walk_at "si")
  | ((with_reducible refine ro_gS ?_ ?_) <;> walk_at "si") | ((with_reducible refine ro_gST ?_ ?_) <;> walk_at "si")
  | ((with_reducible refine ro_xM ?_ ?_) <;> walk_at "si") | ((with_reducible refine ro_xTM ?_ ?_) <;> walk_at "si")
  | ((with_reducible apply ro_xL (by decide)); exact rfl) | ((with_reducible apply ro_xT (by decide)); exact rfl)
  | with_reducible exact ro_eqIs | with_reducible exact ro_l ro_inL | with_reducible exact ro_l ro_niL | with_reducible exact ro_l ro_inT | with_reducible exact ro_l ro_inS | with_reducible exact ro_isNN | with_reducible exact ro_notNN | with_reducible exact ro_isNI | with_reducible exact ro_notNI)
local macro_rules | `(tactic| walk_at "rc") => `(tactic| with_reducible first
  | exact rc_lenM | exact rc_lenTM | exact rc_lenL' | exact rc_lenT' | exact rc_ii _ | exact rc_ib _ | exact rc_ss _ | exact rc_tt _ | exact rc_ltl _ | exact rc_ltt _ | exact rc_int | exact rc_abs | exact rc_max2 | exact rc_min2 | exact rc_all | exact rc_sum | exact rc_tupL' | exact rc_tupT' | exact rc_range1)
local macro_rules | `(tactic| walk_at "rcn") => `(tactic| with_reducible first
  | exact rcn_listL' | exact rcn_listT' | exact rcn_sortP)
local macro_rules | `(tactic| walk_at "pre") => `(tactic| first | with_reducible assumption | exact trivial | (refine And.intro ?_ ?_ <;> walk_at "pre") | walk_at "wd" | walk_at "si")
local macro_rules | `(tactic| walk_at "cmod") => `(tactic| (show (0 : Int) < _; first | decide | walk_at "si"))
local macro_rules | `(tactic| walk_at "cd") => `(tactic| (refine And.intro ?_ ?_ <;> walk_at "si"))
local macro_rules | `(tactic| walk_at "cp") => `(tactic| exact ⟨by decide, by decide, by decide⟩)
local macro_rules | `(tactic| walk_at "cm") => `(tactic| first | (refine Or.inl (And.intro ?_ ?_) <;> omega) | (refine Or.inr (And.intro ?_ ?_) <;> omega))
local macro_rules | `(tactic| walk_at "wk") => `(tactic| (repeat (first | exact Wk.nil | exact Wk.refl _ | refine Wk.same ?_ | refine Wk.frz ?_ | refine Wk.drop ?_)))
section
variable {P : PySem.Program} {w : World} {K : PySem.W.Frag} {mg : Str → Option Value} {base : Heap} {CL CB : Addr} (T : Txt K mg CL CB)
include T
def v_dstep (b : Int × Int × List Int) (a : Int) : Int × Int × List Int :=
  let st := (b.2.1 * 69621 + 7919 * a + 104729) % 2147483629
  cond (decide (b.1 > 0)) (b.1 / 997, st, b.2.2 ++ [b.1 % 997]) (b.1, st, b.2.2 ++ [st / 13])
def v_d0 (c : Int) : Int × Int × List Int := (cond (decide ((if c < 0 then -c else c) < (10 : Int) ^ (18 : Int).toNat)) 0 (if c < 0 then -c else c), (c * 48271 + 11) % 2147483647, [])
def v_digits (c : Int) (n : Nat) : List Int := ((rgI 0 n).foldl v_dstep (v_d0 c)).2.2
abbrev S_law_digits : Stmt := top 95
abbrev N_law_digits : List Str := ["_law_cell_here", "_law_many", "_law_big", "_law_out", "_law_state", "_law_at"]
omit T in
theorem sc__law_digits : FnScope N_law_digits ["_law_cell_here", "_law_many"] (defScope S_law_digits) := ⟨rfl, rfl, rfl, by decide +kernel, rfl, by decide +kernel, by decide +kernel⟩
def sp__law_digits : Sp := spD (α := Int × Nat) (fun ⟨c, n⟩ => [.int c, .int (n : Int)]) (fun ⟨c, n⟩ => n ≤ 1000) (fun ⟨c, n⟩ => eIs (v_digits c n))
omit T in
theorem d__law_digits {ρ : List Sl} {t : TA} {E : XK} {c : Int} {n : Nat} (h : DA t ρ [.int c, .int (n : Int)]) (hp : n ≤ 1000) : DE (tCall sp__law_digits [] E t) ρ (eIs (v_digits c n)) := de_call (α := Int × Nat) (enc := fun ⟨c, n⟩ => [.int c, .int (n : Int)]) (pre := fun ⟨c, n⟩ => n ≤ 1000) (val := fun ⟨c, n⟩ => eIs (v_digits c n)) ⟨c, n⟩ h rfl hp
theorem c__law_digits : Cal P w K mg base 1 "_law_digits" sp__law_digits [] :=
  cal_def (α := Int × Nat) (enc := fun ⟨c, n⟩ => [.int c, .int (n : Int)]) (pre := fun ⟨c, n⟩ => n ≤ 1000) (val := fun ⟨c, n⟩ => eIs (v_digits c n)) T.f__law_digits sc__law_digits (fun ⟨c, n⟩ => rfl) (fun _ _ _ _ _ _ us hl => match us, hl with | [_, _], _ => rfl) fun f cdv A outer s H E hr ⟨c, n⟩ hp => by
    (try dsimp only at hp)
    have nd := sc__law_digits.nd
    refine ⟨_, (pss_cons (ps_set (i := 2) nd rfl (.inl rfl) (pe_callB call_abs rfl T.m_abs (by decide +kernel) (pa_cons (pe_callTy call_int1 rfl T.m_int (by decide +kernel) (pa_cons (pv 0) pa_nil)) pa_nil)))
    (pss_cons (ps_set (i := 3) nd rfl (.inl rfl) (pe_lst pa_nil))
    (pss_cons (ps_set (i := 4) nd rfl (.inl rfl) (pe_op op_mod (pe_callTy call_int1 rfl T.m_int (by decide +kernel) (pa_cons (pe_op op_addA (pe_op op_mulA (pv 0) pe_int) pe_int) pa_nil)) pe_int))
    (pss_cons (ps_if (pt_cmpR op_lt (pv 2) (pe_op op_pow pe_int pe_int) (nomark _)) (pss_one (ps_set (i := 2) nd rfl (.inl rfl) pe_int)) pss_nil)
    (pss_cons (ps_for PassesOwn.never rfl (pi_range1 rfl T.m_range (pa_cons (pv 1) pa_nil)) (pg_name (i := 5) nd rfl (.inl rfl))
    (pss_cons (ps_set (i := 4) nd rfl (.inl rfl) (pe_op op_mod (pe_callTy call_int1 rfl T.m_int (by decide +kernel) (pa_cons (pe_op op_addA (pe_op op_addA (pe_op op_mulA (pv 4) pe_int) (pe_op op_mulA pe_int (pv 5))) pe_int) pa_nil)) pe_int))
    (pss_one (ps_if (pt_cmpR op_gt (pv 2) pe_int (nomark _)) (pss_cons (ps_expr (bmk K PySem.F.plainAttrs_list PySem.F.slot_list_append PySem.F.type_list_append mt_append (pv 3) (pa_cons (pe_op op_mod (pe_callTy call_int1 rfl T.m_int (by decide +kernel) (pa_cons (pv 2) pa_nil)) pe_int) pa_nil)))
    (pss_one (ps_set (i := 2) nd rfl (.inl rfl) (pe_op op_fdiv (pv 2) pe_int)))) (pss_one (ps_expr (bmk K PySem.F.plainAttrs_list PySem.F.slot_list_append PySem.F.type_list_append mt_append (pv 3) (pa_cons (pe_op op_fdiv (pv 4) pe_int) pa_nil))))))))
    (pss_one (ps_ret (pv 3)))))))), ?_⟩
    show DS _ [.val (.int c), .val (.int (n : Int)), .any, .any, .any, .any] _
    refine ds_setS (de_cb (db_cons (dq_of (de_cb (db_cons (dq_of (de_var rfl)) db_nil) (by walk_at "rc"))) db_nil) (by walk_at "rc")) ?_
    refine ds_setNS (ds := List.map DV.int []) (dn_lst da_nil (Nat.le_of_ble_eq_true rfl)) ?_
    refine ds_setS (de_op (dq_of (de_cb (db_cons (dq_of (de_op (dq_of (de_op (dq_of (de_var rfl)) (dq_of de_int) (ro_l (ro_i (by walk_at "cm"))))) (dq_of de_int) (ro_l ro_i0))) db_nil) (by walk_at "rc"))) (dq_of de_int) (ro_i (by walk_at "cmod"))) ?_
    refine ds_ifM (fun b => [.val (.int c), .val (.int (n : Int)), .val (.int (cond b 0 (if c < 0 then -c else c))), .mu none (.lst (List.map DV.int [])), .val (.int ((c * 48271 + 11) % 2147483647)), .any]) (dt_test (de_op (dq_of (de_var rfl)) (dq_of (de_op (dq_of de_int) (dq_of de_int) (ro_i (by walk_at "cp")))) ro_b0)) (fun _ => ds_set de_int (by walk_at "wk")) (fun _ => by walk_at "wk") ?_
    refine ds_seq (ds_fold (fun b => [.val (.int c), .val (.int (n : Int)), .val (.int b.1), .mu none (.lst (b.2.2.map DV.int)), .val (.int b.2.1), .any]) v_dstep (v_d0 c) (fun n b => b.2.2.length = n) (dw_rangeN (da_cons (de_var rfl) da_nil) (by walk_at "si")) (by walk_at "wk") rfl (fun m b x hx hl => ?_) fun _ => ?_)
    · obtain ⟨big, st, out⟩ := b
      dsimp only at hl
      have hm := getElem?_lt hx
      rw [rgI_len] at hm
      show DS _ [.val (.int c), .val (.int (n : Int)), .val (.int big), .mu none (.lst (out.map DV.int)), .val (.int st), .val (.int x)] _
      refine ds_setS (de_op (dq_of (de_cb (db_cons (dq_of (de_op (dq_of (de_op (dq_of (de_op (dq_of (de_var rfl)) (dq_of de_int) (ro_l (ro_i (by walk_at "cm"))))) (dq_of (de_op (dq_of de_int) (dq_of (de_var rfl)) (ro_l (ro_i (by walk_at "cm"))))) (ro_l ro_i0))) (dq_of de_int) (ro_l ro_i0))) db_nil) (by walk_at "rc"))) (dq_of de_int) (ro_i (by walk_at "cmod"))) ?_
      show DS _ [.val (.int c), .val (.int (n : Int)), .val (.int big), .mu none (.lst (out.map DV.int)), .val (.int ((st * 69621 + 7919 * x + 104729) % 2147483629)), .val (.int x)] _
      refine ds_if (dt_test (de_op (dq_of (de_var rfl)) (dq_of de_int) ro_b0)) (fun hb => ?_) (fun hb => ?_)
      · refine ds_appMS rfl (de_op (dq_of (de_cb (db_cons (dq_of (de_var rfl)) db_nil) (by walk_at "rc"))) (dq_of de_int) (ro_i (by walk_at "cmod"))) (by omega) ?_
        refine ds_set (de_op (dq_of (de_var rfl)) (dq_of de_int) (ro_i (by walk_at "cd"))) ?_
        rw [v_dstep, hb]
        exact ⟨by walk_at "wk", by show (out ++ [_]).length = _; rw [List.length_append, hl]; rfl⟩
      · refine ds_appM rfl (de_op (dq_of (de_var rfl)) (dq_of de_int) (ro_i (by walk_at "cd"))) (by omega) ?_
        rw [v_dstep, hb]
        exact ⟨by walk_at "wk", by show (out ++ [_]).length = _; rw [List.length_append, hl]; rfl⟩
    · refine ds_wk (ρ' := [.any, .any, .any, .val (eIs (v_digits c n)), .any, .any]) (by walk_at "wk") ?_
      exact ds_ret (de_var rfl) rfl
def v_cell (sc : List Int) (a : Int) : Int := cond (decide (a < (sc.length : Int))) (gI sc a) (1000003 * a + 7)
abbrev S_law_cell : Stmt := top 96
abbrev N_law_cell : List Str := ["_law_script", "_law_at"]
omit T in
theorem sc__law_cell : FnScope N_law_cell ["_law_script", "_law_at"] (defScope S_law_cell) := ⟨rfl, rfl, rfl, by decide +kernel, rfl, by decide +kernel, by decide +kernel⟩
def sp__law_cell : Sp := spD (α := List Int × Int) (fun ⟨sc, a⟩ => [eIs sc, .int a]) (fun ⟨sc, a⟩ => 0 ≤ a ∧ a < 1000) (fun ⟨sc, a⟩ => .int (v_cell sc a))
omit T in
theorem d__law_cell {ρ : List Sl} {t : TA} {E : XK} {sc : List Int} {a : Int} (h : DA t ρ [eIs sc, .int a]) (hp : 0 ≤ a ∧ a < 1000) : DE (tCall sp__law_cell [] E t) ρ (.int (v_cell sc a)) := de_call (α := List Int × Int) (enc := fun ⟨sc, a⟩ => [eIs sc, .int a]) (pre := fun ⟨sc, a⟩ => 0 ≤ a ∧ a < 1000) (val := fun ⟨sc, a⟩ => .int (v_cell sc a)) ⟨sc, a⟩ h rfl hp
theorem c__law_cell : Cal P w K mg base 1 "_law_cell" sp__law_cell [] :=
  cal_def (α := List Int × Int) (enc := fun ⟨sc, a⟩ => [eIs sc, .int a]) (pre := fun ⟨sc, a⟩ => 0 ≤ a ∧ a < 1000) (val := fun ⟨sc, a⟩ => .int (v_cell sc a)) T.f__law_cell sc__law_cell (fun ⟨sc, a⟩ => rfl) (fun _ _ _ _ _ _ us hl => match us, hl with | [_, _], _ => rfl) fun f cdv A outer s H E hr ⟨sc, a⟩ hp => by
    (try dsimp only at hp)
    have nd := sc__law_cell.nd
    refine ⟨_, (pss_one (ps_ret (pe_ifExp (pt_cmpR op_lt (pv 1) (pe_callB (lenk K) rfl T.m_len (by decide +kernel) (pa_cons (pv 0) pa_nil)) (nomark _)) (pe_callTy call_int1 rfl T.m_int (by decide +kernel) (pa_cons (pe_ix (ixk K) (pv 0) (pv 1) (fun _ _ => rfl)) pa_nil)) (pe_op op_addA (pe_op op_mulA pe_int (pv 1)) pe_int)))), ?_⟩
    show DS _ [.val (eIs sc), .val (.int a)] _
    exact ds_ret (de_ifI (dt_test (de_op (dq_of (de_var rfl)) (dq_of (de_cb (db_cons (dq_of (de_var rfl)) db_nil) (by walk_at "rc"))) ro_b0)) (fun hi => (de_cb (db_cons (dq_of (de_op (dq_of (de_var rfl)) (dq_of (de_var rfl)) (by walk_at "ro"))) db_nil) (by walk_at "rc"))) (fun hi => (de_op (dq_of (de_op (dq_of de_int) (dq_of (de_var rfl)) (ro_l (ro_i (by walk_at "cm"))))) (dq_of de_int) (ro_l ro_i0)))) rfl
def v_letter (a b : Int) : Sy :=
  cond (decide (a % 8 < 4)) ("add", [cond (decide (a % 8 < 2)) (b % 7 - 3) (gI [1, -1, 2, -2, 3] (b % 5))])
    (cond (decide (a % 8 = 4)) ("turn", []) (cond (decide (a % 8 = 5)) ("set", [b % 7 - 3]) ("mod", [1 + b % 3])))
abbrev S_law_letter : Stmt := top 97
abbrev N_law_letter : List Str := ["_law_a", "_law_b", "_law_wide", "_law_many", "_law_pick"]
omit T in
theorem sc__law_letter : FnScope N_law_letter ["_law_a", "_law_b", "_law_wide"] (defScope S_law_letter) := ⟨rfl, rfl, rfl, by decide +kernel, rfl, by decide +kernel, by decide +kernel⟩
def sp__law_letter : Sp := spD (α := Int × Int) (fun ⟨a, b⟩ => [.int a, .int b, .int 0]) (fun ⟨a, b⟩ => True) (fun ⟨a, b⟩ => eSy (v_letter a b))
omit T in
theorem d__law_letter {ρ : List Sl} {t : TA} {E : XK} {a b : Int} (h : DA t ρ [.int a, .int b, .int 0]) (hp : True) : DE (tCall sp__law_letter [] E t) ρ (eSy (v_letter a b)) := de_call (α := Int × Int) (enc := fun ⟨a, b⟩ => [.int a, .int b, .int 0]) (pre := fun ⟨a, b⟩ => True) (val := fun ⟨a, b⟩ => eSy (v_letter a b)) ⟨a, b⟩ h rfl hp
theorem c__law_letter : Cal P w K mg base 1 "_law_letter" sp__law_letter [] :=
  cal_def (α := Int × Int) (enc := fun ⟨a, b⟩ => [.int a, .int b, .int 0]) (pre := fun ⟨a, b⟩ => True) (val := fun ⟨a, b⟩ => eSy (v_letter a b)) T.f__law_letter sc__law_letter (fun ⟨a, b⟩ => rfl) (fun _ _ _ _ _ _ us hl => match us, hl with | [_, _, _], _ => rfl) fun f cdv A outer s H E hr ⟨a, b⟩ hp => by
    (try dsimp only at hp)
    have nd := sc__law_letter.nd
    refine ⟨_, (pss_cons (ps_set (i := 3) nd rfl (.inl rfl) (pe_ifExp (truk K (pv 2) (by intro _; rfl)) pe_int pe_int))
    (pss_cons (ps_set (i := 4) nd rfl (.inl rfl) (pe_op op_mod (pe_callTy call_int1 rfl T.m_int (by decide +kernel) (pa_cons (pv 0) pa_nil)) pe_int))
    (pss_cons (ps_if (pt_cmpR op_lt (pv 4) pe_int (nomark _)) (pss_one (ps_ret (pe_tup (pa_cons pe_str (pa_cons (pe_ifExp (pt_cmpR op_lt (pv 4) pe_int (nomark _)) (pe_op op_sub (pe_op op_mod (pe_callTy call_int1 rfl T.m_int (by decide +kernel) (pa_cons (pv 1) pa_nil)) (pe_op op_addA (pe_op op_mulA pe_int (pv 3)) pe_int)) (pv 3)) (pe_ix (ixk K) (pe_tup (pa_cons pe_int (pa_cons (pe_un un_neg pe_int) (pa_cons pe_int (pa_cons (pe_un un_neg pe_int) (pa_cons pe_int pa_nil)))))) (pe_op op_mod (pe_callTy call_int1 rfl T.m_int (by decide +kernel) (pa_cons (pv 1) pa_nil)) pe_int) (fun _ _ => rfl))) pa_nil))))) pss_nil)
    (pss_cons (ps_if (pt_cmpR (eqk K hr) (pv 4) pe_int (nomark _)) (pss_one (ps_ret (pe_tup (pa_cons pe_str pa_nil)))) pss_nil)
    (pss_cons (ps_if (pt_cmpR (eqk K hr) (pv 4) pe_int (nomark _)) (pss_one (ps_ret (pe_tup (pa_cons pe_str (pa_cons (pe_op op_sub (pe_op op_mod (pe_callTy call_int1 rfl T.m_int (by decide +kernel) (pa_cons (pv 1) pa_nil)) (pe_op op_addA (pe_op op_mulA pe_int (pv 3)) pe_int)) (pv 3)) pa_nil))))) pss_nil)
    (pss_one (ps_ret (pe_tup (pa_cons pe_str (pa_cons (pe_op op_addA pe_int (pe_op op_mod (pe_callTy call_int1 rfl T.m_int (by decide +kernel) (pa_cons (pv 1) pa_nil)) (pe_ifExp (truk K (pv 2) (by intro _; rfl)) pe_int pe_int))) pa_nil)))))))))), ?_⟩
    show DS _ [.val (.int a), .val (.int b), .val (.int 0), .any, .any] _
    refine ds_setS (de_ifI (dt_truIk (de_var rfl)) (fun hi => de_int) (fun hi => de_int)) ?_
    refine ds_setS (de_op (dq_of (de_cb (db_cons (dq_of (de_var rfl)) db_nil) (by walk_at "rc"))) (dq_of de_int) (ro_i (by walk_at "cmod"))) ?_
    show DS _ [.val (.int a), .val (.int b), .val (.int 0), .val (.int 3), .val (.int (a % 8))] _
    refine ds_seq (ds_if (dt_test (de_op (dq_of (de_var rfl)) (dq_of de_int) ro_b0)) (fun h => ds_ret (de_tup (da_cons de_str (da_cons (de_ifI (dt_test (de_op (dq_of (de_var rfl)) (dq_of de_int) ro_b0)) (fun hi => (de_op (dq_of (de_op (dq_of (de_cb (db_cons (dq_of (de_var rfl)) db_nil) (by walk_at "rc"))) (dq_of (de_op (dq_of (de_op (dq_of de_int) (dq_of (de_var rfl)) (ro_l (ro_i (by walk_at "cm"))))) (dq_of de_int) (ro_l ro_i0))) (ro_i (by walk_at "cmod")))) (dq_of (de_var rfl)) ro_i0)) (fun hi => (de_op (dq_of (de_tup (da_cons de_int (da_cons (de_un (dq_of de_int) ru_i) (da_cons de_int (da_cons (de_un (dq_of de_int) ru_i) (da_cons de_int da_nil))))) (Nat.le_of_ble_eq_true rfl))) (dq_of (de_op (dq_of (de_cb (db_cons (dq_of (de_var rfl)) db_nil) (by walk_at "rc"))) (dq_of de_int) (ro_i (by walk_at "cmod")))) (ro_gIT (l := [1, -1, 2, -2, 3]) (by omega) (by show _ < (5 : Int); omega))))) da_nil)) (Nat.le_of_ble_eq_true rfl)) ?_) fun h => ds_next ?_)
    · simp only [v_letter, *]; first | rfl | (cases decide (a % 8 < 2) <;> rfl)
    show DS _ [.val (.int a), .val (.int b), .val (.int 0), .val (.int 3), .val (.int (a % 8))] _
    refine ds_seq (ds_if (dt_test (de_op (dq_of (de_var rfl)) (dq_of de_int) (by walk_at "ro"))) (fun h => ds_ret (de_tup (da_cons de_str da_nil) (Nat.le_of_ble_eq_true rfl)) ?_) fun h => ds_next ?_)
    · simp only [v_letter, *]; first | rfl | (cases decide (a % 8 < 2) <;> rfl)
    show DS _ [.val (.int a), .val (.int b), .val (.int 0), .val (.int 3), .val (.int (a % 8))] _
    refine ds_seq (ds_if (dt_test (de_op (dq_of (de_var rfl)) (dq_of de_int) (by walk_at "ro"))) (fun h => ds_ret (de_tup (da_cons de_str (da_cons (de_op (dq_of (de_op (dq_of (de_cb (db_cons (dq_of (de_var rfl)) db_nil) (by walk_at "rc"))) (dq_of (de_op (dq_of (de_op (dq_of de_int) (dq_of (de_var rfl)) (ro_l (ro_i (by walk_at "cm"))))) (dq_of de_int) (ro_l ro_i0))) (ro_i (by walk_at "cmod")))) (dq_of (de_var rfl)) ro_i0) da_nil)) (Nat.le_of_ble_eq_true rfl)) ?_) fun h => ds_next ?_)
    · simp only [v_letter, *]; first | rfl | (cases decide (a % 8 < 2) <;> rfl)
    show DS _ [.val (.int a), .val (.int b), .val (.int 0), .val (.int 3), .val (.int (a % 8))] _
    exact ds_ret (de_tup (da_cons de_str (da_cons (de_op (dq_of de_int) (dq_of (de_op (dq_of (de_cb (db_cons (dq_of (de_var rfl)) db_nil) (by walk_at "rc"))) (dq_of (de_ifI (dt_truIk (de_var rfl)) (fun hi => de_int) (fun hi => de_int))) (ro_i (by walk_at "cmod")))) (ro_l ro_i0)) da_nil)) (Nat.le_of_ble_eq_true rfl)) (by simp only [v_letter, *]; rfl)
def v_test (a b : Int) : Sy :=
  cond (decide (a % 3 = 0)) ("below", [b % 7 - 3]) (cond (decide (a % 3 = 1)) ("is", [b % 7 - 3]) ("rest", [1 + b % 3, b / 7 % (1 + b % 3)]))
abbrev S_law_test : Stmt := top 98
abbrev N_law_test : List Str := ["_law_a", "_law_b", "_law_wide", "_law_many", "_law_size"]
omit T in
theorem sc__law_test : FnScope N_law_test ["_law_a", "_law_b", "_law_wide"] (defScope S_law_test) := ⟨rfl, rfl, rfl, by decide +kernel, rfl, by decide +kernel, by decide +kernel⟩
def sp__law_test : Sp := spD (α := Int × Int) (fun ⟨a, b⟩ => [.int a, .int b, .int 0]) (fun ⟨a, b⟩ => True) (fun ⟨a, b⟩ => eSy (v_test a b))
omit T in
theorem d__law_test {ρ : List Sl} {t : TA} {E : XK} {a b : Int} (h : DA t ρ [.int a, .int b, .int 0]) (hp : True) : DE (tCall sp__law_test [] E t) ρ (eSy (v_test a b)) := de_call (α := Int × Int) (enc := fun ⟨a, b⟩ => [.int a, .int b, .int 0]) (pre := fun ⟨a, b⟩ => True) (val := fun ⟨a, b⟩ => eSy (v_test a b)) ⟨a, b⟩ h rfl hp
theorem c__law_test : Cal P w K mg base 1 "_law_test" sp__law_test [] :=
  cal_def (α := Int × Int) (enc := fun ⟨a, b⟩ => [.int a, .int b, .int 0]) (pre := fun ⟨a, b⟩ => True) (val := fun ⟨a, b⟩ => eSy (v_test a b)) T.f__law_test sc__law_test (fun ⟨a, b⟩ => rfl) (fun _ _ _ _ _ _ us hl => match us, hl with | [_, _, _], _ => rfl) fun f cdv A outer s H E hr ⟨a, b⟩ hp => by
    (try dsimp only at hp)
    have nd := sc__law_test.nd
    refine ⟨_, (pss_cons (ps_set (i := 3) nd rfl (.inl rfl) (pe_ifExp (truk K (pv 2) (by intro _; rfl)) pe_int pe_int))
    (pss_cons (ps_if (pt_cmpR (eqk K hr) (pe_op op_mod (pe_callTy call_int1 rfl T.m_int (by decide +kernel) (pa_cons (pv 0) pa_nil)) pe_int) pe_int (nomark _)) (pss_one (ps_ret (pe_tup (pa_cons pe_str (pa_cons (pe_op op_sub (pe_op op_mod (pe_callTy call_int1 rfl T.m_int (by decide +kernel) (pa_cons (pv 1) pa_nil)) (pe_op op_addA (pe_op op_mulA pe_int (pv 3)) pe_int)) (pv 3)) pa_nil))))) pss_nil)
    (pss_cons (ps_if (pt_cmpR (eqk K hr) (pe_op op_mod (pe_callTy call_int1 rfl T.m_int (by decide +kernel) (pa_cons (pv 0) pa_nil)) pe_int) pe_int (nomark _)) (pss_one (ps_ret (pe_tup (pa_cons pe_str (pa_cons (pe_op op_sub (pe_op op_mod (pe_callTy call_int1 rfl T.m_int (by decide +kernel) (pa_cons (pv 1) pa_nil)) (pe_op op_addA (pe_op op_mulA pe_int (pv 3)) pe_int)) (pv 3)) pa_nil))))) pss_nil)
    (pss_cons (ps_set (i := 4) nd rfl (.inl rfl) (pe_op op_addA pe_int (pe_op op_mod (pe_callTy call_int1 rfl T.m_int (by decide +kernel) (pa_cons (pv 1) pa_nil)) (pe_ifExp (truk K (pv 2) (by intro _; rfl)) pe_int pe_int))))
    (pss_one (ps_ret (pe_tup (pa_cons pe_str (pa_cons (pv 4) (pa_cons (pe_op op_mod (pe_op op_fdiv (pe_callTy call_int1 rfl T.m_int (by decide +kernel) (pa_cons (pv 1) pa_nil)) pe_int) (pv 4)) pa_nil)))))))))), ?_⟩
    show DS _ [.val (.int a), .val (.int b), .val (.int 0), .any, .any] _
    refine ds_setS (de_ifI (dt_truIk (de_var rfl)) (fun hi => de_int) (fun hi => de_int)) ?_
    show DS _ [.val (.int a), .val (.int b), .val (.int 0), .val (.int 3), .any] _
    refine ds_seq (ds_if (dt_test (de_op (dq_of (de_op (dq_of (de_cb (db_cons (dq_of (de_var rfl)) db_nil) (by walk_at "rc"))) (dq_of de_int) (ro_i (by walk_at "cmod")))) (dq_of de_int) (by walk_at "ro"))) (fun h => ds_ret (de_tup (da_cons de_str (da_cons (de_op (dq_of (de_op (dq_of (de_cb (db_cons (dq_of (de_var rfl)) db_nil) (by walk_at "rc"))) (dq_of (de_op (dq_of (de_op (dq_of de_int) (dq_of (de_var rfl)) (ro_l (ro_i (by walk_at "cm"))))) (dq_of de_int) (ro_l ro_i0))) (ro_i (by walk_at "cmod")))) (dq_of (de_var rfl)) ro_i0) da_nil)) (Nat.le_of_ble_eq_true rfl)) ?_) fun h => ds_next ?_)
    · simp only [v_test, *]; rfl
    show DS _ [.val (.int a), .val (.int b), .val (.int 0), .val (.int 3), .any] _
    refine ds_seq (ds_if (dt_test (de_op (dq_of (de_op (dq_of (de_cb (db_cons (dq_of (de_var rfl)) db_nil) (by walk_at "rc"))) (dq_of de_int) (ro_i (by walk_at "cmod")))) (dq_of de_int) (by walk_at "ro"))) (fun h => ds_ret (de_tup (da_cons de_str (da_cons (de_op (dq_of (de_op (dq_of (de_cb (db_cons (dq_of (de_var rfl)) db_nil) (by walk_at "rc"))) (dq_of (de_op (dq_of (de_op (dq_of de_int) (dq_of (de_var rfl)) (ro_l (ro_i (by walk_at "cm"))))) (dq_of de_int) (ro_l ro_i0))) (ro_i (by walk_at "cmod")))) (dq_of (de_var rfl)) ro_i0) da_nil)) (Nat.le_of_ble_eq_true rfl)) ?_) fun h => ds_next ?_)
    · simp only [v_test, *]; rfl
    show DS _ [.val (.int a), .val (.int b), .val (.int 0), .val (.int 3), .any] _
    refine ds_setS (de_op (dq_of de_int) (dq_of (de_op (dq_of (de_cb (db_cons (dq_of (de_var rfl)) db_nil) (by walk_at "rc"))) (dq_of (de_ifI (dt_truIk (de_var rfl)) (fun hi => de_int) (fun hi => de_int))) (ro_i (by walk_at "cmod")))) (ro_l ro_i0)) ?_
    show DS _ [.val (.int a), .val (.int b), .val (.int 0), .val (.int 3), .val (.int (1 + b % 3))] _
    exact ds_ret (de_tup (da_cons de_str (da_cons (de_var rfl) (da_cons (de_op (dq_of (de_op (dq_of (de_cb (db_cons (dq_of (de_var rfl)) db_nil) (by walk_at "rc"))) (dq_of de_int) (ro_i (by walk_at "cd")))) (dq_of (de_var rfl)) (ro_i (by walk_at "cmod"))) da_nil))) (Nat.le_of_ble_eq_true rfl)) (by simp only [v_test, *]; rfl)
omit T in
theorem okw (x : Str) (l : List Int) (h : PySem.PyData.canLay0 (.str x) = true) : okS (x, l) := h
omit T in
theorem letter_ok (a b : Int) : okS (v_letter a b) := by
  unfold v_letter
  cases decide (a % 8 < 4)
  · cases decide (a % 8 = 4)
    · cases decide (a % 8 = 5)
      · exact okw "mod" _ (by decide +kernel)
      · exact okw "set" _ (by decide +kernel)
    · exact okw "turn" _ (by decide +kernel)
  · exact okw "add" _ (by decide +kernel)
omit T in
theorem test_ok (a b : Int) : okS (v_test a b) := by
  unfold v_test
  cases decide (a % 3 = 0)
  · cases decide (a % 3 = 1)
    · exact okw "rest" _ (by decide +kernel)
    · exact okw "is" _ (by decide +kernel)
  · exact okw "below" _ (by decide +kernel)

end
end DL
end

section
set_option Elab.async false
set_option linter.all false
set_option maxRecDepth 100000
set_option maxHeartbeats 4000000
namespace DL
open PySem PySem.Spec PyProof.Rows L2
open C8 (Cal pe_c Mak pe_mk)
local macro_rules | `(tactic| walk_at "si") => `(tactic| first
  | with_reducible assumption | omega | (simp only [rgI_len, List.length_map]; omega) | (simp only [decide_eq_true_eq, Bool.and_eq_true, Bool.not_eq_true', decide_eq_false_iff_not] at *; omega))
local macro_rules | `(tactic| walk_at "sz") => `(tactic| first
  | with_reducible assumption | omega | (simp only [rgI_len, List.length_map, List.length_append, List.length_cons, List.length_nil]; omega))
local macro_rules | `(tactic| walk_at "row") => `(tactic| first | with_reducible assumption | ((with_reducible refine Tbl.get (by with_reducible assumption) ?_); walk_at "wd") | exact row_mem (by with_reducible assumption) (by with_reducible assumption))
local macro_rules | `(tactic| walk_at "wd") => `(tactic| first | with_reducible assumption | omega | (constructor <;> omega) | ((with_reducible refine wd_get (by walk_at "row") ?_); walk_at "wd") | exact wd_mem (by with_reducible assumption) (by with_reducible assumption))
local macro_rules | `(tactic| walk_at "rk") => `(tactic| first
  | ((with_reducible apply ro_xL (by decide)); exact rfl) | ((with_reducible apply ro_xT (by decide)); exact rfl) | walk_at "ro")
local macro_rules | `(tactic| walk_at "ro") => `(tactic| first
  | with_reducible exact ro_b0 | with_reducible exact ro_l ro_eqI | with_reducible exact ro_l ro_neI | with_reducible exact ro_l ro_eqB | with_reducible exact ro_l ro_neB | with_reducible exact ro_l ro_eqS | with_reducible exact ro_l ro_neS
  | ((with_reducible refine ro_gLR (by with_reducible assumption) ?_); walk_at "wd") | ((with_reducible refine ro_gIR (by walk_at "row") ?_); walk_at "wd")
  | ((with_reducible refine ro_gI ?_ ?_) <;> walk_at "si") | ((with_reducible refine ro_gL ?_ ?_) <;> walk_at "si") | ((with_reducible refine ro_gIT ?_ ?_) <;> walk_at "si")
  | with_reducible exact ro_gG (by with_reducible assumption) | ((with_reducible refine ro_gT ?_ ?_) <;> walk_at "si")
  | ((with_reducible refine ro_gB ?_ ?_) <;> walk_at "si")
  | ((with_reducible refine ro_gS ?_ ?_) <;> walk_at "si") | ((with_reducible refine ro_gST ?_ ?_) <;> walk_at "si")
  | ((with_reducible refine ro_xM ?_ ?_) <;> walk_at "si") | ((with_reducible refine ro_xTM ?_ ?_) <;> walk_at "si")
  | ((with_reducible apply ro_xL (by decide)); exact rfl) | ((with_reducible apply ro_xT (by decide)); exact rfl)
  | with_reducible exact ro_eqIs | with_reducible exact ro_l ro_inL | with_reducible exact ro_l ro_niL | with_reducible exact ro_l ro_inT | with_reducible exact ro_l ro_inS | with_reducible exact ro_isNN | with_reducible exact ro_notNN | with_reducible exact ro_isNI | with_reducible exact ro_notNI)
local macro_rules | `(tactic| walk_at "rc") => `(tactic| with_reducible first
  | exact rc_lenM | exact rc_lenTM | exact rc_lenL' | exact rc_lenT' | exact rc_ii _ | exact rc_ib _ | exact rc_ss _ | exact rc_tt _ | exact rc_ltl _ | exact rc_ltt _ | exact rc_int | exact rc_abs | exact rc_max2 | exact rc_min2 | exact rc_all | exact rc_sum | exact rc_tupL' | exact rc_tupT' | exact rc_range1)
local macro_rules | `(tactic| walk_at "rcn") => `(tactic| with_reducible first
  | exact rcn_listL' | exact rcn_listT' | exact rcn_sortP)
local macro_rules | `(tactic| walk_at "pre") => `(tactic| first | with_reducible assumption | exact trivial | (refine And.intro ?_ ?_ <;> walk_at "pre") | walk_at "wd" | walk_at "si")
local macro_rules | `(tactic| walk_at "cmod") => `(tactic| (show (0 : Int) < _; first | decide | walk_at "si"))
local macro_rules | `(tactic| walk_at "cd") => `(tactic| (refine And.intro ?_ ?_ <;> walk_at "si"))
local macro_rules | `(tactic| walk_at "cp") => `(tactic| exact ⟨by decide, by decide, by decide⟩)
local macro_rules | `(tactic| walk_at "cm") => `(tactic| first | (refine Or.inl (And.intro ?_ ?_) <;> omega) | (refine Or.inr (And.intro ?_ ?_) <;> omega))
local macro_rules | `(tactic| walk_at "wk") => `(tactic| (repeat (first | exact Wk.nil | exact Wk.refl _ | refine Wk.same ?_ | refine Wk.frz ?_ | refine Wk.drop ?_)))
section
variable {P : PySem.Program} {w : World} {K : PySem.W.Frag} {mg : Str → Option Value} {base : Heap} {CL CB : Addr} (T : Txt K mg CL CB)
include T
def v_addl (ls : List Sy) (l : Sy) : List Sy := cond (!decide (l ∈ ls)) (ls ++ [l]) ls
def v_alL (ds : List Int) : List Sy := (rgI 0 (1 + gI ds 20 % 2).toNat).foldl (fun ls k => v_addl ls (v_letter (gI ds (20 + 2 + 2 * k)) (gI ds (20 + 3 + 2 * k)))) [("set", [0])]
def v_alT (ds : List Int) : List Sy := (rgI 0 (gI ds 21 / 8 % (3 + 1)).toNat).foldl (fun ls k => v_addl ls (v_test (gI ds (20 + 2 + 2 * 2 + 2 * k)) (gI ds (20 + 3 + 2 * 2 + 2 * k)))) []
def v_alR (ds : List Int) : List Sy := cutD (v_alL ds) (some (gI ds (20 + 1) % ((v_alL ds).length : Int))) none ++ cutD (v_alL ds) none (some (gI ds (20 + 1) % ((v_alL ds).length : Int)))
structure AlI (k n : Nat) (ls : List Sy) : Prop where
  len : ls.length ≤ k + n
  ok : ∀ s ∈ ls, okS s
omit T in
theorem AlI.add {k n : Nat} {ls : List Sy} (h : AlI k n ls) {l : Sy} (hl : okS l) : AlI k (n + 1) (v_addl ls l) := by
  unfold v_addl
  cases !decide (l ∈ ls)
  · exact ⟨by have := h.len; show ls.length ≤ _; omega, h.ok⟩
  · refine ⟨by have := h.len; show (ls ++ [l]).length ≤ _; rw [List.length_append, List.length_singleton]; omega, fun s hs => ?_⟩
    rcases List.mem_append.mp hs with hs | hs
    · exact h.ok s hs
    · rw [List.mem_singleton.mp hs]; exact hl
omit T in
theorem addl_len (ls : List Sy) (l : Sy) : ls.length ≤ (v_addl ls l).length := by
  unfold v_addl
  cases !decide (l ∈ ls)
  · exact Nat.le_refl _
  · show _ ≤ (ls ++ [l]).length
    rw [List.length_append]; omega
abbrev S_law_alphabet : Stmt := top 99
abbrev N_law_alphabet : List Str := ["_law_ds", "_law_at", "_law_more", "_law_some", "_law_wide", "_law_letters", "_law_k", "_law_letter_here", "_law_turn", "_law_tests", "_law_test_here"]
omit T in
theorem sc__law_alphabet : FnScope N_law_alphabet ["_law_ds", "_law_at", "_law_more", "_law_some", "_law_wide"] (defScope S_law_alphabet) := ⟨rfl, rfl, rfl, by decide +kernel, rfl, by decide +kernel, by decide +kernel⟩
def sp__law_alphabet : Sp := spD (α := List Int) (fun ds => [eIs ds, .int 20, .int 2, .int 3, .int 0]) (fun ds => ds.length = 120) (fun ds => .tup [eSys (v_alR ds), eSys (v_alT ds)])
omit T in
theorem d__law_alphabet {ρ : List Sl} {t : TA} {E : XK} {ds : List Int} (h : DA t ρ [eIs ds, .int 20, .int 2, .int 3, .int 0]) (hp : ds.length = 120) : DE (tCall sp__law_alphabet [] E t) ρ (.tup [eSys (v_alR ds), eSys (v_alT ds)]) := de_call (α := List Int) (enc := fun ds => [eIs ds, .int 20, .int 2, .int 3, .int 0]) (pre := fun ds => ds.length = 120) (val := fun ds => .tup [eSys (v_alR ds), eSys (v_alT ds)]) ds h rfl hp
theorem c__law_alphabet : Cal P w K mg base 2 "_law_alphabet" sp__law_alphabet [] :=
  cal_def (α := List Int) (enc := fun ds => [eIs ds, .int 20, .int 2, .int 3, .int 0]) (pre := fun ds => ds.length = 120) (val := fun ds => .tup [eSys (v_alR ds), eSys (v_alT ds)]) T.f__law_alphabet sc__law_alphabet (fun ds => rfl) (fun _ _ _ _ _ _ us hl => match us, hl with | [_, _, _, _, _], _ => rfl) fun f cdv A outer s H E hr ds hp => by
    (try dsimp only at hp)
    have nd := sc__law_alphabet.nd
    refine ⟨_, (pss_cons (ps_set (i := 5) nd rfl (.inl rfl) (pe_lst (pa_cons (pe_tup (pa_cons pe_str (pa_cons pe_int pa_nil))) pa_nil)))
    (pss_cons (ps_for PassesOwn.never rfl (pi_range1 rfl T.m_range (pa_cons (pe_op op_addA pe_int (pe_op op_mod (pe_callTy call_int1 rfl T.m_int (by decide +kernel) (pa_cons (pe_ix (ixk K) (pv 0) (pv 1) (fun _ _ => rfl)) pa_nil)) (pv 2))) pa_nil)) (pg_name (i := 6) nd rfl (.inl rfl))
    (pss_cons (ps_set (i := 7) nd rfl (.inl rfl) (pe_c (c__law_letter T) hr (by decide) rfl (pa_cons (pe_ix (ixk K) (pv 0) (pe_op op_addA (pe_op op_addA (pv 1) pe_int) (pe_op op_mulA pe_int (pv 6))) (fun _ _ => rfl)) (pa_cons (pe_ix (ixk K) (pv 0) (pe_op op_addA (pe_op op_addA (pv 1) pe_int) (pe_op op_mulA pe_int (pv 6))) (fun _ _ => rfl)) (pa_cons (pv 4) pa_nil)))))
    (pss_one (ps_if (pt_cmpR (nik K hr) (pv 7) (pv 5) (by rfl)) (pss_one (ps_expr (bmk K PySem.F.plainAttrs_list PySem.F.slot_list_append PySem.F.type_list_append mt_append (pv 5) (pa_cons (pv 7) pa_nil)))) pss_nil))))
    (pss_cons (ps_set (i := 8) nd rfl (.inl rfl) (pe_op op_mod (pe_callTy call_int1 rfl T.m_int (by decide +kernel) (pa_cons (pe_ix (ixk K) (pv 0) (pe_op op_addA (pv 1) pe_int) (fun _ _ => rfl)) pa_nil)) (pe_callB (lenk K) rfl T.m_len (by decide +kernel) (pa_cons (pv 5) pa_nil))))
    (pss_cons (ps_set (i := 5) nd rfl (.inl rfl) (pe_op op_addA (pe_slice (slk K) (pv 5) (po_some (pv 8)) po_none) (pe_slice (slk K) (pv 5) po_none (po_some (pv 8)))))
    (pss_cons (ps_set (i := 9) nd rfl (.inl rfl) (pe_lst pa_nil))
    (pss_cons (ps_for PassesOwn.never rfl (pi_range1 rfl T.m_range (pa_cons (pe_op op_mod (pe_op op_fdiv (pe_callTy call_int1 rfl T.m_int (by decide +kernel) (pa_cons (pe_ix (ixk K) (pv 0) (pe_op op_addA (pv 1) pe_int) (fun _ _ => rfl)) pa_nil)) pe_int) (pe_op op_addA (pv 3) pe_int)) pa_nil)) (pg_name (i := 6) nd rfl (.inl rfl))
    (pss_cons (ps_set (i := 10) nd rfl (.inl rfl) (pe_c (c__law_test T) hr (by decide) rfl (pa_cons (pe_ix (ixk K) (pv 0) (pe_op op_addA (pe_op op_addA (pe_op op_addA (pv 1) pe_int) (pe_op op_mulA pe_int (pv 2))) (pe_op op_mulA pe_int (pv 6))) (fun _ _ => rfl)) (pa_cons (pe_ix (ixk K) (pv 0) (pe_op op_addA (pe_op op_addA (pe_op op_addA (pv 1) pe_int) (pe_op op_mulA pe_int (pv 2))) (pe_op op_mulA pe_int (pv 6))) (fun _ _ => rfl)) (pa_cons (pv 4) pa_nil)))))
    (pss_one (ps_if (pt_cmpR (nik K hr) (pv 10) (pv 9) (by rfl)) (pss_one (ps_expr (bmk K PySem.F.plainAttrs_list PySem.F.slot_list_append PySem.F.type_list_append mt_append (pv 9) (pa_cons (pv 10) pa_nil)))) pss_nil))))
    (pss_one (ps_ret (pe_tup (pa_cons (pv 5) (pa_cons (pv 9) pa_nil))))))))))), ?_⟩
    show DS _ [.val (eIs ds), .val (.int 20), .val (.int 2), .val (.int 3), .val (.int 0), .any, .any, .any, .any, .any, .any] _
    refine ds_setNS (ds := List.map eSy [("set", [0])]) (dn_is (dn_lst (da_cons (de_tup (da_cons de_str (da_cons de_int da_nil)) (Nat.le_of_ble_eq_true rfl)) da_nil) (Nat.le_of_ble_eq_true rfl)) (rfl : _ = List.map eSy [("set", [0])])) ?_
    refine ds_seq (ds_fold (fun ls => [.val (eIs ds), .val (.int 20), .val (.int 2), .val (.int 3), .val (.int 0), .mu none (.lst (ls.map eSy)), .any, .any, .any, .any, .any]) (fun ls k => v_addl ls (v_letter (gI ds (20 + 2 + 2 * k)) (gI ds (20 + 3 + 2 * k)))) [("set", [0])] (fun n ls => AlI 1 n ls ∧ 0 < ls.length) (dw_range1 (da_cons (de_op (dq_of de_int) (dq_of (de_op (dq_of (de_cb (db_cons (dq_of (de_op (dq_of (de_var rfl)) (dq_of (de_var rfl)) (by walk_at "ro"))) db_nil) (by walk_at "rc"))) (dq_of (de_var rfl)) (ro_i (by walk_at "cmod")))) (ro_l ro_i0)) da_nil) (by walk_at "si")) (by walk_at "wk") ⟨⟨Nat.le_refl _, fun s hs => by rw [List.mem_singleton.mp hs]; exact okw "set" _ (by decide +kernel)⟩, Nat.one_pos⟩ (fun n ls k hk hI => ?_) fun hI => ?_)
    · have hk := rgI_get hk
      obtain ⟨hI, hI2⟩ := hI
      have hI1 := hI.len
      show DS _ [.val (eIs ds), .val (.int 20), .val (.int 2), .val (.int 3), .val (.int 0), .mu none (.lst (ls.map eSy)), .val (.int k), .any, .any, .any, .any] _
      refine ds_setS (d__law_letter (da_cons (de_op (dq_of (de_var rfl)) (dq_of (de_op (dq_of (de_op (dq_of (de_var rfl)) (dq_of de_int) (ro_l ro_i0))) (dq_of (de_op (dq_of de_int) (dq_of (de_var rfl)) (ro_l (ro_i (by walk_at "cm"))))) (ro_l ro_i0))) (by walk_at "ro")) (da_cons (de_op (dq_of (de_var rfl)) (dq_of (de_op (dq_of (de_op (dq_of (de_var rfl)) (dq_of de_int) (ro_l ro_i0))) (dq_of (de_op (dq_of de_int) (dq_of (de_var rfl)) (ro_l (ro_i (by walk_at "cm"))))) (ro_l ro_i0))) (by walk_at "ro")) (da_cons (de_var rfl) da_nil))) (by walk_at "pre")) ?_
      have ho := letter_ok (gI ds (20 + 2 + 2 * k)) (gI ds (20 + 3 + 2 * k))
      have hA := hI.add ho
      have hL := addl_len ls (v_letter (gI ds (20 + 2 + 2 * k)) (gI ds (20 + 3 + 2 * k)))
      refine ds_if (dt_test (de_op (dq_of (de_var rfl)) (by first | exact dq_of (de_var rfl) | exact dq_own rfl) (ro_niSy ho hI.ok))) (fun hb => ds_appM rfl (de_var rfl) (by omega) ⟨?_, hA, by omega⟩) fun hb => ds_next ⟨?_, hA, by omega⟩
      · rw [v_addl, hb]; walk_at "wk"
      · rw [v_addl, hb]; walk_at "wk"
    · obtain ⟨hI, hI2⟩ := hI
      have hI1 := hI.len
      rw [rgI_len] at hI1
      show DS _ [.val (eIs ds), .val (.int 20), .val (.int 2), .val (.int 3), .val (.int 0), .mu none (.lst ((v_alL ds).map eSy)), .any, .any, .any, .any, .any] _
      have hI2 : 0 < (v_alL ds).length := hI2
      have hI1 : (v_alL ds).length ≤ 3 := Nat.le_trans hI1 (by omega)
      refine ds_setS (de_op (dq_of (de_cb (db_cons (dq_of (de_op (dq_of (de_var rfl)) (dq_of (de_op (dq_of (de_var rfl)) (dq_of de_int) (ro_l ro_i0))) (by walk_at "ro"))) db_nil) (by walk_at "rc"))) (dq_of (de_cb (db_cons (by first | exact dq_of (de_var rfl) | exact dq_own rfl) db_nil) (by walk_at "rc"))) (ro_i (by walk_at "cmod"))) ?_
      have z1 := cutD_len (v_alL ds) (some (gI ds (20 + 1) % ((v_alL ds).length : Int))) none
      have z2 := cutD_len (v_alL ds) none (some (gI ds (20 + 1) % ((v_alL ds).length : Int)))
      refine ds_setS (dn_de (dn_op (dn_dq (dn_slM (by first | exact dq_of (de_var rfl) | exact dq_own rfl) (do_some (de_var rfl)) do_none)) (dn_dq (dn_slM (by first | exact dq_of (de_var rfl) | exact dq_own rfl) do_none (do_some (de_var rfl)))) (rn_r (rn_catM (by omega)       )))) ?_
      refine ds_setNS (ds := List.map eSy []) (dn_lst da_nil (Nat.le_of_ble_eq_true rfl)) ?_
      show DS _ [.val (eIs ds), .val (.int 20), .val (.int 2), .val (.int 3), .val (.int 0), .val (eSys (v_alR ds)), .any, .any, .val (.int (gI ds (20 + 1) % ((v_alL ds).length : Int))), .mu none (.lst (List.map eSy [])), .any] _
      refine ds_seq (ds_fold (fun ls => [.val (eIs ds), .val (.int 20), .val (.int 2), .val (.int 3), .val (.int 0), .val (eSys (v_alR ds)), .any, .any, .any, .mu none (.lst (ls.map eSy)), .any]) (fun ls k => v_addl ls (v_test (gI ds (20 + 2 + 2 * 2 + 2 * k)) (gI ds (20 + 3 + 2 * 2 + 2 * k)))) [] (fun n ls => AlI 0 n ls) (dw_range1 (da_cons (de_op (dq_of (de_op (dq_of (de_cb (db_cons (dq_of (de_op (dq_of (de_var rfl)) (dq_of (de_op (dq_of (de_var rfl)) (dq_of de_int) (ro_l ro_i0))) (by walk_at "ro"))) db_nil) (by walk_at "rc"))) (dq_of de_int) (ro_i (by walk_at "cd")))) (dq_of (de_op (dq_of (de_var rfl)) (dq_of de_int) (ro_l ro_i0))) (ro_i (by walk_at "cmod"))) da_nil) (by walk_at "si")) (by walk_at "wk") ⟨Nat.le_refl _, fun s hs => by cases hs⟩ (fun n ls k hk hI => ?_) fun hI => ?_)
      · have hk := rgI_get hk
        have hI1 := hI.len
        show DS _ [.val (eIs ds), .val (.int 20), .val (.int 2), .val (.int 3), .val (.int 0), .val (eSys (v_alR ds)), .val (.int k), .any, .any, .mu none (.lst (ls.map eSy)), .any] _
        refine ds_setS (d__law_test (da_cons (de_op (dq_of (de_var rfl)) (dq_of (de_op (dq_of (de_op (dq_of (de_op (dq_of (de_var rfl)) (dq_of de_int) (ro_l ro_i0))) (dq_of (de_op (dq_of de_int) (dq_of (de_var rfl)) (ro_l (ro_i (by walk_at "cm"))))) (ro_l ro_i0))) (dq_of (de_op (dq_of de_int) (dq_of (de_var rfl)) (ro_l (ro_i (by walk_at "cm"))))) (ro_l ro_i0))) (by walk_at "ro")) (da_cons (de_op (dq_of (de_var rfl)) (dq_of (de_op (dq_of (de_op (dq_of (de_op (dq_of (de_var rfl)) (dq_of de_int) (ro_l ro_i0))) (dq_of (de_op (dq_of de_int) (dq_of (de_var rfl)) (ro_l (ro_i (by walk_at "cm"))))) (ro_l ro_i0))) (dq_of (de_op (dq_of de_int) (dq_of (de_var rfl)) (ro_l (ro_i (by walk_at "cm"))))) (ro_l ro_i0))) (by walk_at "ro")) (da_cons (de_var rfl) da_nil))) (by walk_at "pre")) ?_
        have ho := test_ok (gI ds (20 + 2 + 2 * 2 + 2 * k)) (gI ds (20 + 3 + 2 * 2 + 2 * k))
        have hA := hI.add ho
        refine ds_if (dt_test (de_op (dq_of (de_var rfl)) (by first | exact dq_of (de_var rfl) | exact dq_own rfl) (ro_niSy ho hI.ok))) (fun hb => ds_appM rfl (de_var rfl) (by omega) ⟨?_, hA⟩) fun hb => ds_next ⟨?_, hA⟩
        · rw [v_addl, hb]; walk_at "wk"
        · rw [v_addl, hb]; walk_at "wk"
      · refine ds_wk (ρ' := [.any, .any, .any, .any, .any, .val (eSys (v_alR ds)), .any, .any, .any, .val (eSys (v_alT ds)), .any]) (by walk_at "wk") ?_
        exact ds_ret (de_tup (da_cons (de_var rfl) (da_cons (de_var rfl) da_nil)) (Nat.le_of_ble_eq_true rfl)) rfl

end
end DL
end

section
set_option Elab.async false
set_option linter.all false
set_option maxRecDepth 100000
set_option maxHeartbeats 4000000
namespace DL
open PySem PySem.Spec PyProof.Rows L2
open C8 (Cal pe_c Mak pe_mk)
local macro_rules | `(tactic| walk_at "si") => `(tactic| first
  | with_reducible assumption | omega | (simp only [rgI_len, List.length_map]; omega) | (simp only [decide_eq_true_eq, Bool.and_eq_true, Bool.not_eq_true', decide_eq_false_iff_not] at *; omega))
local macro_rules | `(tactic| walk_at "sz") => `(tactic| first
  | with_reducible assumption | omega | (simp only [rgI_len, List.length_map, List.length_append, List.length_cons, List.length_nil]; omega))
local macro_rules | `(tactic| walk_at "row") => `(tactic| first | with_reducible assumption | ((with_reducible refine Tbl.get (by with_reducible assumption) ?_); walk_at "wd") | exact row_mem (by with_reducible assumption) (by with_reducible assumption))
local macro_rules | `(tactic| walk_at "wd") => `(tactic| first | with_reducible assumption | omega | (constructor <;> omega) | ((with_reducible refine wd_get (by walk_at "row") ?_); walk_at "wd") | exact wd_mem (by with_reducible assumption) (by with_reducible assumption))
local macro_rules | `(tactic| walk_at "rk") => `(tactic| first
  | ((with_reducible apply ro_xL (by decide)); exact rfl) | ((with_reducible apply ro_xT (by decide)); exact rfl) | walk_at "ro")
local macro_rules | `(tactic| walk_at "ro") => `(tactic| first
  | with_reducible exact ro_b0 | with_reducible exact ro_l ro_eqI | with_reducible exact ro_l ro_neI | with_reducible exact ro_l ro_eqB | with_reducible exact ro_l ro_neB | with_reducible exact ro_l ro_eqS | with_reducible exact ro_l ro_neS
  | ((with_reducible refine ro_gLR (by with_reducible assumption) ?_); walk_at "wd") | ((with_reducible refine ro_gIR (by walk_at "row") ?_); walk_at "wd")
  | ((with_reducible refine ro_gI ?_ ?_) <;> walk_at "si") | ((with_reducible refine ro_gL ?_ ?_) <;> walk_at "si") | ((with_reducible refine ro_gIT ?_ ?_) <;> walk_at "si")
  | with_reducible exact ro_gG (by with_reducible assumption) | ((with_reducible refine ro_gT ?_ ?_) <;> walk_at "si")
  | ((with_reducible refine ro_gB ?_ ?_) <;> walk_at "si")
  | ((with_reducible refine ro_gS ?_ ?_) <;> walk_at "si") | ((with_reducible refine ro_gST ?_ ?_) <;> walk_at "si")
  | ((with_reducible refine ro_xM ?_ ?_) <;> walk_at "si") | ((with_reducible refine ro_xTM ?_ ?_) <;> walk_at "si")
  | ((with_reducible apply ro_xL (by decide)); exact rfl) | ((with_reducible apply ro_xT (by decide)); exact rfl)
  | with_reducible exact ro_eqIs | with_reducible exact ro_l ro_inL | with_reducible exact ro_l ro_niL | with_reducible exact ro_l ro_inT | with_reducible exact ro_l ro_inS | with_reducible exact ro_isNN | with_reducible exact ro_notNN | with_reducible exact ro_isNI | with_reducible exact ro_notNI)
local macro_rules | `(tactic| walk_at "rc") => `(tactic| with_reducible first
  | exact rc_lenM | exact rc_lenTM | exact rc_lenL' | exact rc_lenT' | exact rc_ii _ | exact rc_ib _ | exact rc_ss _ | exact rc_tt _ | exact rc_ltl _ | exact rc_ltt _ | exact rc_int | exact rc_abs | exact rc_max2 | exact rc_min2 | exact rc_all | exact rc_sum | exact rc_tupL' | exact rc_tupT' | exact rc_range1)
local macro_rules | `(tactic| walk_at "rcn") => `(tactic| with_reducible first
  | exact rcn_listL' | exact rcn_listT' | exact rcn_sortP)
local macro_rules | `(tactic| walk_at "pre") => `(tactic| first | with_reducible assumption | exact trivial | (refine And.intro ?_ ?_ <;> walk_at "pre") | walk_at "wd" | walk_at "si")
local macro_rules | `(tactic| walk_at "cmod") => `(tactic| (show (0 : Int) < _; first | decide | walk_at "si"))
local macro_rules | `(tactic| walk_at "cd") => `(tactic| (refine And.intro ?_ ?_ <;> walk_at "si"))
local macro_rules | `(tactic| walk_at "cp") => `(tactic| exact ⟨by decide, by decide, by decide⟩)
local macro_rules | `(tactic| walk_at "cm") => `(tactic| first | (refine Or.inl (And.intro ?_ ?_) <;> omega) | (refine Or.inr (And.intro ?_ ?_) <;> omega))
local macro_rules | `(tactic| walk_at "wk") => `(tactic| (repeat (first | exact Wk.nil | exact Wk.refl _ | refine Wk.same ?_ | refine Wk.frz ?_ | refine Wk.drop ?_)))
section
variable {P : PySem.Program} {w : World} {K : PySem.W.Frag} {mg : Str → Option Value} {base : Heap} {CL CB : Addr} (T : Txt K mg CL CB)
include T
def v_tnew (js rows : List (List Int)) (cur : List Int) : List Int := cur.foldl (fun new x => new ++ rows.map (fun r => gI r x) ++ cur.map (fun o => gI (gL js x) o)) cur
def v_tstep (js rows : List (List Int)) (cur : List Int) : List Int := (rgI 1 ((js.length : Int) - 1).toNat).filter fun x => decide (x ∈ v_tnew js rows cur)
def v_told (js rows : List (List Int)) (f0 : Int) : List Int := v_iter (v_tstep js rows) 40 (cond (decide (f0 > 0)) [f0] [])
omit T in
theorem rgI_sorted (lo : Int) (n : Nat) : (rgI lo n).Pairwise (· ≤ ·) := by
  unfold rgI
  rw [List.pairwise_map]
  exact List.pairwise_lt_range.imp fun h => by omega
omit T in
theorem sort_rg {K : PySem.W.Frag} {lo : Int} {n : Nat} {f : Int → Bool} : RCN (rSortedI K) [.lst ((((rgI lo n).filter f).map fun x => x).map DV.int)] (((rgI lo n).filter f).map DV.int) := by
  rw [List.map_id']
  exact rcn_sortI (List.Perm.refl _) ((rgI_sorted lo n).sublist List.filter_sublist)
structure ToI (n : Nat) (cur : List Int) : Prop where
  len : cur.length ≤ 20
  wds : ∀ x ∈ cur, wd n x
omit T in
theorem told_I {js rows : List (List Int)} {f0 : Int} (hn : js.length ≤ 20) (hf : wd js.length f0) : ∀ n, ToI js.length (v_iter (v_tstep js rows) n (cond (decide (f0 > 0)) [f0] []))
  | 0 => by
    show ToI _ (cond (decide (f0 > 0)) [f0] [])
    cases decide (f0 > 0)
    · exact ⟨Nat.zero_le _, fun x hx => by cases hx⟩
    · exact ⟨by show 1 ≤ 20; omega, fun x hx => by rw [List.mem_singleton.mp hx]; exact hf⟩
  | n + 1 => by
    refine ⟨Nat.le_trans (List.length_filter_le _ _) (by rw [rgI_len]; omega), fun x hx => ?_⟩
    have := mem_rgI.mp (List.mem_filter.mp hx).1
    omega
abbrev S_law_told : Stmt := top 103
abbrev N_law_told : List Str := ["_law_joins", "_law_rows", "_law_first", "_law_told_here", "_law_turn", "_law_new", "_law_word", "_law_other", "_law_row"]
omit T in
theorem sc__law_told : FnScope N_law_told ["_law_joins", "_law_rows", "_law_first"] (defScope S_law_told) := ⟨rfl, rfl, rfl, by decide +kernel, rfl, by decide +kernel, by decide +kernel⟩
def sp__law_told : Sp := spD (α := List (List Int) × List (List Int) × Int) (fun ⟨js, rows, f0⟩ => [eTb js, eTb rows, .int f0]) (fun ⟨js, rows, f0⟩ => Tbl js.length js.length js.length js ∧ 0 < js.length ∧ js.length ≤ 20 ∧ Tbl rows.length js.length js.length rows ∧ rows.length ≤ 40 ∧ wd js.length f0) (fun ⟨js, rows, f0⟩ => eIs (v_told js rows f0))
omit T in
theorem d__law_told {ρ : List Sl} {t : TA} {E : XK} {js rows : List (List Int)} {f0 : Int} (h : DA t ρ [eTb js, eTb rows, .int f0]) (hp : Tbl js.length js.length js.length js ∧ 0 < js.length ∧ js.length ≤ 20 ∧ Tbl rows.length js.length js.length rows ∧ rows.length ≤ 40 ∧ wd js.length f0) : DE (tCall sp__law_told [] E t) ρ (eIs (v_told js rows f0)) := de_call (α := List (List Int) × List (List Int) × Int) (enc := fun ⟨js, rows, f0⟩ => [eTb js, eTb rows, .int f0]) (pre := fun ⟨js, rows, f0⟩ => Tbl js.length js.length js.length js ∧ 0 < js.length ∧ js.length ≤ 20 ∧ Tbl rows.length js.length js.length rows ∧ rows.length ≤ 40 ∧ wd js.length f0) (val := fun ⟨js, rows, f0⟩ => eIs (v_told js rows f0)) ⟨js, rows, f0⟩ h rfl hp
theorem c__law_told : Cal P w K mg base 1 "_law_told" sp__law_told [] :=
  cal_def (α := List (List Int) × List (List Int) × Int) (enc := fun ⟨js, rows, f0⟩ => [eTb js, eTb rows, .int f0]) (pre := fun ⟨js, rows, f0⟩ => Tbl js.length js.length js.length js ∧ 0 < js.length ∧ js.length ≤ 20 ∧ Tbl rows.length js.length js.length rows ∧ rows.length ≤ 40 ∧ wd js.length f0) (val := fun ⟨js, rows, f0⟩ => eIs (v_told js rows f0)) T.f__law_told sc__law_told (fun ⟨js, rows, f0⟩ => rfl) (fun _ _ _ _ _ _ us hl => match us, hl with | [_, _, _], _ => rfl) fun f cdv A outer s H E hr ⟨js, rows, f0⟩ hp => by
    (try dsimp only at hp)
    have nd := sc__law_told.nd
    refine ⟨_, (pss_cons (ps_set (i := 3) nd rfl (.inl rfl) (pe_ifExp (pt_cmpR op_gt (pv 2) pe_int (nomark _)) (pe_lst (pa_cons (pv 2) pa_nil)) (pe_lst pa_nil)))
    (pss_cons (ps_for PassesOwn.never rfl (pi_range1 rfl T.m_range (pa_cons pe_int pa_nil)) (pg_name (i := 4) nd rfl (.inl rfl))
    (pss_cons (ps_set (i := 5) nd rfl (.inr rfl) (pe_callTy (lstk K) rfl T.m_list (by decide +kernel) (pa_cons (pv 3) pa_nil)))
    (pss_cons (ps_for PassesOwn.never rfl (pilk K (pv 3)) (pg_name (i := 6) nd rfl (.inr rfl))
    (pss_one (ps_set (i := 5) nd rfl (.inr rfl) (pe_op op_addA (pe_op op_addA (pv 5) (pe_lc (own := [("_law_row", 8)]) rfl nd (pilk K (pv 1)) (blkOk_by (sc := defScope S_law_told) (N := N_law_told) (own := [("_law_row", 8)]) (by decide +kernel)) (fun _ _ _ _ _ => (pg_name (i := 8) nd rfl (by first | exact .inl rfl | exact .inr rfl))) (fun _ _ _ _ _ => pts_nil) (fun _ _ _ _ _ => (pe_ix (ixk K) (pv 8) (pv 6) (fun _ _ => rfl))))) (pe_lc (own := [("_law_other", 7)]) rfl nd (pilk K (pv 3)) (blkOk_by (sc := defScope S_law_told) (N := N_law_told) (own := [("_law_other", 7)]) (by decide +kernel)) (fun _ _ _ _ _ => (pg_name (i := 7) nd rfl (by first | exact .inl rfl | exact .inr rfl))) (fun _ _ _ _ _ => pts_nil) (fun _ _ _ _ _ => (pe_ix (ixk K) (pe_ix (ixk K) (pv 0) (pv 6) (fun _ _ => rfl)) (pv 7) (fun _ _ => rfl))))))))
    (pss_cons (ps_set (i := 5) nd rfl (.inr rfl) (pe_callB (srIk K) rfl T.m_sorted (by decide +kernel) (pa_cons (pe_lc (own := [("_law_word", 6)]) rfl nd (pi_range2 rfl T.m_range (pa_cons pe_int (pa_cons (pe_callB (lenk K) rfl T.m_len (by decide +kernel) (pa_cons (pv 0) pa_nil)) pa_nil))) (blkOk_by (sc := defScope S_law_told) (N := N_law_told) (own := [("_law_word", 6)]) (by decide +kernel)) (fun _ _ _ _ _ => (pg_name (i := 6) nd rfl (by first | exact .inl rfl | exact .inr rfl))) (fun _ _ _ _ _ => pts_one (pt_cmpR (ink K hr) (pv 6) (pv 5) (by rfl))) (fun _ _ _ _ _ => (pv 6))) pa_nil)))
    (pss_cons (ps_if (pt_cmpR (eqk K hr) (pv 5) (pv 3) (nomark _)) (pss_one (ps_break)) pss_nil)
    (pss_one (ps_set (i := 3) nd rfl (.inl rfl) (pv 5))))))))
    (pss_one (ps_ret (pv 3))))), ?_⟩
    obtain ⟨hj, hn1, hn, hr2, hr3, hf⟩ := hp
    show DS _ [.val (eTb js), .val (eTb rows), .val (.int f0), .any, .any, .any, .any, .any, .any] _
    refine ds_setS (de_ifL (enc := eIs) (dt_test (de_op (dq_of (de_var rfl)) (dq_of de_int) ro_b0)) (fun hi => (dn_de (dn_is (dn_lst (da_cons (de_var rfl) da_nil) (Nat.le_of_ble_eq_true rfl)) (rfl : _ = List.map DV.int [f0])))) (fun hi => (dn_de (dn_is (dn_lst da_nil (Nat.le_of_ble_eq_true rfl)) (rfl : _ = List.map DV.int []))))) ?_
    have hI := fun n => told_I (rows := rows) hn hf n
    refine ds_seq (ds_for (rgI 0 (40 : Int).toNat) DV.int (fun n ρ => ρ = [.val (eTb js), .val (eTb rows), .val (.int f0), .val (eIs (v_iter (v_tstep js rows) n (cond (decide (f0 > 0)) [f0] []))), .any, .any, .any, .any, .any]) (dw_range1 (da_cons de_int da_nil) (by walk_at "si")) ⟨_, by walk_at "wk", rfl⟩ (fun n x ρ hx e => ?_) fun ρ e => ?_)
    · have hn40 := getElem?_lt hx
      rw [rgI_len] at hn40
      subst e
      refine ⟨_, _, dg_name, ?_⟩
      have hc := hI n
      generalize hcur : v_iter (v_tstep js rows) n (cond (decide (f0 > 0)) [f0] []) = cur at hc
      obtain ⟨hc1, hc2⟩ := hc
      show DS _ [.val (eTb js), .val (eTb rows), .val (.int f0), .val (eIs cur), .val (.int x), .any, .any, .any, .any] _
      refine ds_setS (dn_de (dn_cb (db_cons (dq_of (de_var rfl)) db_nil) (by walk_at "rcn"))) ?_
      refine ds_seq (ds_fold (fun new => [.val (eTb js), .val (eTb rows), .val (.int f0), .val (eIs cur), .any, .val (eIs new), .any, .any, .any]) (fun new x => new ++ rows.map (fun r => gI r x) ++ cur.map (fun o => gI (gL js x) o)) cur (fun n new => new.length ≤ 20 + n * 60) (dw_list (de_var rfl)) (by walk_at "wk") (by omega) (fun m new y hy hl => ?_) fun hl => ?_)
      · have hm := getElem?_lt hy
        have hy2 := hc2 y (List.mem_of_getElem? hy)
        show DS _ [.val (eTb js), .val (eTb rows), .val (.int f0), .val (eIs cur), .any, .val (eIs new), .val (.int y), .any, .any] _
        exact ds_set (dn_de (dn_op (dn_dq (dn_op (dq_of (de_var rfl)) (dn_dq (dn_lc2 DV.int (dw_list (de_var rfl)) (by walk_at "sz") (by decide) (fun x_row hx_x_row => by (try rw [mem_rgI] at hx_x_row); exact (de_op (dq_of (de_var rfl)) (dq_of (de_var rfl)) (by walk_at "ro"))))) (rn_r (rn_catM (by walk_at "sz"))))) (dn_dq (dn_lc2 DV.int (dw_list (de_var rfl)) (by walk_at "sz") (by decide) (fun x_other hx_x_other => by (try rw [mem_rgI] at hx_x_other); exact (de_op (dq_of (de_op (dq_of (de_var rfl)) (dq_of (de_var rfl)) (by walk_at "ro"))) (dq_of (de_var rfl)) (ro_gIR (Tbl.get hj hy2) (hc2 _ hx_x_other)))))) (rn_r (rn_catM (by walk_at "sz"))))) ⟨by walk_at "wk", by rw [List.length_append, List.length_append, List.length_map, List.length_map]; omega⟩
      · show DS _ [.val (eTb js), .val (eTb rows), .val (.int f0), .val (eIs cur), .any, .val (eIs (v_tnew js rows cur)), .any, .any, .any] _
        refine ds_setS (dn_de (dn_cb (db_cons (dn_dq (dn_lcf2 DV.int (dw_range2 (da_cons de_int (da_cons (de_cb (db_cons (dq_of (de_var rfl)) db_nil) (by walk_at "rc")) da_nil)) (by walk_at "si")) (by walk_at "sz") (by decide) (fun x_word hx_x_word => by (try rw [mem_rgI] at hx_x_word); exact (dt_test (de_op (dq_of (de_var rfl)) (dq_of (de_var rfl)) (by walk_at "ro")))) (fun x_word hx_x_word hf_x_word => by (try rw [mem_rgI] at hx_x_word); exact (de_var rfl)))) db_nil) (sort_rg)         )) ?_
        show DS _ [.val (eTb js), .val (eTb rows), .val (.int f0), .val (eIs cur), .any, .val (eIs (v_tstep js rows cur)), .any, .any, .any] _
        refine ds_seq (ds_if (dt_test (de_op (dq_of (de_var rfl)) (dq_of (de_var rfl)) (by walk_at "ro"))) (fun hb => ds_brk ?_) fun hb => ds_next ?_)
        · have hfix := of_decide_eq_true hb
          show DS _ [.val (eTb js), .val (eTb rows), .val (.int f0), .val (eIs cur), .any, .val (eIs (v_tstep js rows cur)), .any, .any, .any] _
          exact ds_ret (de_var rfl) (show eIs cur = eIs (v_told js rows f0) by rw [v_told, iter_fix' (n := n) (by rw [hcur]; exact hfix) (by omega), hcur])
        · show DS _ [.val (eTb js), .val (eTb rows), .val (.int f0), .val (eIs cur), .any, .val (eIs (v_tstep js rows cur)), .any, .any, .any] _
          refine ds_set (de_var rfl) ⟨_, ?_, rfl⟩
          show Wk _ [.val (eTb js), .val (eTb rows), .val (.int f0), .val (eIs (v_tstep js rows (v_iter (v_tstep js rows) n (cond (decide (f0 > 0)) [f0] [])))), .any, .any, .any, .any, .any]
          rw [hcur]
          walk_at "wk"
    · subst e
      show DS _ [.val (eTb js), .val (eTb rows), .val (.int f0), .val (eIs (v_told js rows f0)), .any, .any, .any, .any, .any] _
      exact ds_ret (de_var rfl) rfl
abbrev S_law_whole : Stmt := top 104
abbrev N_law_whole : List Str := ["_law_thing"]
omit T in
theorem sc__law_whole : FnScope N_law_whole ["_law_thing"] (defScope S_law_whole) := ⟨rfl, rfl, rfl, by decide +kernel, rfl, by decide +kernel, by decide +kernel⟩
def sp__law_whole : Sp := spD (α := Int) (fun n => [.int n]) (fun n => True) (fun n => .bl true)
omit T in
theorem d__law_whole {ρ : List Sl} {t : TA} {E : XK} {n : Int} (h : DA t ρ [.int n]) (hp : True) : DE (tCall sp__law_whole [] E t) ρ (.bl true) := de_call (α := Int) (enc := fun n => [.int n]) (pre := fun n => True) (val := fun n => .bl true) n h rfl hp
theorem c__law_whole : Cal P w K mg base 1 "_law_whole" sp__law_whole [] :=
  cal_def (α := Int) (enc := fun n => [.int n]) (pre := fun n => True) (val := fun n => .bl true) T.f__law_whole sc__law_whole (fun n => rfl) (fun _ _ _ _ _ _ us hl => match us, hl with | [_], _ => rfl) fun f cdv A outer s H E hr n hp => by
    (try dsimp only at hp)
    have nd := sc__law_whole.nd
    refine ⟨_, (pss_one (ps_ret (pe_and (pe_callB (isik K) rfl T.m_isinstance (by decide +kernel) (pa_cons (pv 0) (pa_cons (pe_bltn (v := .ty "int") rfl T.m_int (by decide +kernel) rfl) pa_nil))) (pe_one (pe_not (pe_callB (isik K) rfl T.m_isinstance (by decide +kernel) (pa_cons (pv 0) (pa_cons (pe_bltn (v := .ty "bool") rfl T.m_bool (by decide +kernel) rfl) pa_nil)))))))), ?_⟩
    show DS _ [.val (.int n)] _
    exact ds_ret (de_andV (de_cb (db_cons (dq_of (de_var rfl)) (db_cons (dq_of de_ty) db_nil)) (by walk_at "rc")) (fun _ => (de_notV (de_cb (db_cons (dq_of (de_var rfl)) (db_cons (dq_of de_ty) db_nil)) (by walk_at "rc"))))) rfl
def v_sstep (b : LB) (acc : List St) (k : Int) : List St := acc ++ [((("so" : Str), gS b.te k), gL b.so k)] ++ [((("not" : Str), gS b.te k), gL b.no k)]
def v_steps (b : LB) : List St := (rgI 0 b.te.length).foldl (v_sstep b) ((rgI 0 b.le.length).map fun k => (("deed", gS b.le k), gL b.de k))
abbrev S_law_steps : Stmt := top 105
abbrev N_law_steps : List Str := ["_law_book", "_law_k", "_law_out"]
omit T in
theorem sc__law_steps : FnScope N_law_steps ["_law_book"] (defScope S_law_steps) := ⟨rfl, rfl, rfl, by decide +kernel, rfl, by decide +kernel, by decide +kernel⟩
def sp__law_steps : Sp := spD (α := LB) (fun b => [eLB b]) (fun b => WF b) (fun b => .lst ((v_steps b).map eSt))
omit T in
theorem d__law_steps {ρ : List Sl} {t : TA} {E : XK} {b : LB} (h : DA t ρ [eLB b]) (hp : WF b) : DE (tCall sp__law_steps [] E t) ρ (.lst ((v_steps b).map eSt)) := de_call (α := LB) (enc := fun b => [eLB b]) (pre := fun b => WF b) (val := fun b => .lst ((v_steps b).map eSt)) b h rfl hp
theorem c__law_steps : Cal P w K mg base 1 "_law_steps" sp__law_steps [] :=
  cal_def (α := LB) (enc := fun b => [eLB b]) (pre := fun b => WF b) (val := fun b => .lst ((v_steps b).map eSt)) T.f__law_steps sc__law_steps (fun b => rfl) (fun _ _ _ _ _ _ us hl => match us, hl with | [_], _ => rfl) fun f cdv A outer s H E hr b hp => by
    (try dsimp only at hp)
    have nd := sc__law_steps.nd
    refine ⟨_, (pss_cons (ps_setLc (i := 2) (own := [("_law_k", 1)]) rfl nd rfl rfl (sw_true rfl rfl rfl (by decide +kernel)) (pi_range1 rfl T.m_range (pa_cons (pe_callB (lenk K) rfl T.m_len (by decide +kernel) (pa_cons (pe_ix (ixk K) (pv 0) pe_int (fun _ _ => rfl)) pa_nil)) pa_nil)) (blkOk_by (sc := defScope S_law_steps) (N := N_law_steps) (own := [("_law_k", 1)]) (by decide +kernel)) (fun _ _ _ _ _ => (pg_name (i := 1) nd rfl (by first | exact .inl rfl | exact .inr rfl))) (fun _ _ _ _ _ => pts_nil) (fun _ _ _ _ _ => (pe_tup (pa_cons (pe_tup (pa_cons pe_str (pa_cons (pe_ix (ixk K) (pe_ix (ixk K) (pv 0) pe_int (fun _ _ => rfl)) (pv 1) (fun _ _ => rfl)) pa_nil))) (pa_cons (pe_ix (ixk K) (pe_ix (ixk K) (pv 0) pe_int (fun _ _ => rfl)) (pv 1) (fun _ _ => rfl)) pa_nil)))))
    (pss_cons (ps_for PassesOwn.never rfl (pi_range1 rfl T.m_range (pa_cons (pe_callB (lenk K) rfl T.m_len (by decide +kernel) (pa_cons (pe_ix (ixk K) (pv 0) pe_int (fun _ _ => rfl)) pa_nil)) pa_nil)) (pg_name (i := 1) nd rfl (.inl rfl))
    (pss_cons (ps_expr (bmk K PySem.F.plainAttrs_list PySem.F.slot_list_append PySem.F.type_list_append mt_append (pv 2) (pa_cons (pe_tup (pa_cons (pe_tup (pa_cons pe_str (pa_cons (pe_ix (ixk K) (pe_ix (ixk K) (pv 0) pe_int (fun _ _ => rfl)) (pv 1) (fun _ _ => rfl)) pa_nil))) (pa_cons (pe_ix (ixk K) (pe_ix (ixk K) (pv 0) pe_int (fun _ _ => rfl)) (pv 1) (fun _ _ => rfl)) pa_nil))) pa_nil)))
    (pss_one (ps_expr (bmk K PySem.F.plainAttrs_list PySem.F.slot_list_append PySem.F.type_list_append mt_append (pv 2) (pa_cons (pe_tup (pa_cons (pe_tup (pa_cons pe_str (pa_cons (pe_ix (ixk K) (pe_ix (ixk K) (pv 0) pe_int (fun _ _ => rfl)) (pv 1) (fun _ _ => rfl)) pa_nil))) (pa_cons (pe_ix (ixk K) (pe_ix (ixk K) (pv 0) pe_int (fun _ _ => rfl)) (pv 1) (fun _ _ => rfl)) pa_nil))) pa_nil))))))
    (pss_one (ps_ret (pv 2))))), ?_⟩
    obtain ⟨n2, n9, js, ms, le1, le4, te4, de, so, no, fi, okl, okt⟩ := hp
    show DS _ [.val (eLB b), .any, .any] _
    refine ds_setNS (ds := ((rgI 0 b.le.length).map fun k => (((("deed" : Str), gS b.le k), gL b.de k) : St)).map eSt) (dn_lc2 (e := fun k => (("deed", gS b.le k), gL b.de k)) eSt (dw_rangeN (da_cons (de_cb (db_cons (dq_of (de_op (dq_of (de_var rfl)) (dq_of de_int) (by walk_at "rk"))) db_nil) (by walk_at "rc")) da_nil) (by walk_at "si")) (by walk_at "sz") (by decide) (fun x_k hx_x_k => by (try rw [mem_rgI] at hx_x_k); exact (de_tup (da_cons (de_tup (da_cons de_str (da_cons (de_op (dq_of (de_op (dq_of (de_var rfl)) (dq_of de_int) (by walk_at "rk"))) (dq_of (de_var rfl)) (by walk_at "ro")) da_nil)) (Nat.le_of_ble_eq_true rfl)) (da_cons (de_op (dq_of (de_op (dq_of (de_var rfl)) (dq_of de_int) (by walk_at "rk"))) (dq_of (de_var rfl)) (by walk_at "ro")) da_nil)) (Nat.le_of_ble_eq_true rfl)))) ?_
    refine ds_seq (ds_fold (fun acc => [.val (eLB b), .any, .mu none (.lst (acc.map eSt))]) (v_sstep b) ((rgI 0 b.le.length).map fun k => (("deed", gS b.le k), gL b.de k)) (fun n acc => acc.length ≤ 4 + 2 * n) (dw_rangeN (da_cons (de_cb (db_cons (dq_of (de_op (dq_of (de_var rfl)) (dq_of de_int) (by walk_at "rk"))) db_nil) (by walk_at "rc")) da_nil) (by walk_at "si")) (by walk_at "wk") (by rw [List.length_map, rgI_len]; omega) (fun n acc k hk hl => ?_) fun hl => ?_)
    · have hn := (rgI_get hk).2
      have hk := mem_rgI.mp (List.mem_of_getElem? hk)
      show DS _ [.val (eLB b), .val (.int k), .mu none (.lst (acc.map eSt))] _
      refine ds_appMS (enc := eSt) (x := ((("so" : Str), gS b.te k), gL b.so k)) rfl (de_tup (da_cons (de_tup (da_cons de_str (da_cons (de_op (dq_of (de_op (dq_of (de_var rfl)) (dq_of de_int) (by walk_at "rk"))) (dq_of (de_var rfl)) (by walk_at "ro")) da_nil)) (Nat.le_of_ble_eq_true rfl)) (da_cons (de_op (dq_of (de_op (dq_of (de_var rfl)) (dq_of de_int) (by walk_at "rk"))) (dq_of (de_var rfl)) (by walk_at "ro")) da_nil)) (Nat.le_of_ble_eq_true rfl)) (by omega) ?_
      refine ds_appM (enc := eSt) (x := ((("not" : Str), gS b.te k), gL b.no k)) rfl (de_tup (da_cons (de_tup (da_cons de_str (da_cons (de_op (dq_of (de_op (dq_of (de_var rfl)) (dq_of de_int) (by walk_at "rk"))) (dq_of (de_var rfl)) (by walk_at "ro")) da_nil)) (Nat.le_of_ble_eq_true rfl)) (da_cons (de_op (dq_of (de_op (dq_of (de_var rfl)) (dq_of de_int) (by walk_at "rk"))) (dq_of (de_var rfl)) (by walk_at "ro")) da_nil)) (Nat.le_of_ble_eq_true rfl)) (by rw [List.length_append, List.length_singleton]; omega) ⟨by walk_at "wk", ?_⟩
      rw [v_sstep, List.length_append, List.length_append, List.length_singleton, List.length_singleton]
      omega
    · refine ds_wk (ρ' := [.any, .any, .val (.lst ((v_steps b).map eSt))]) (by walk_at "wk") ?_
      exact ds_ret (de_var rfl) rfl

end
end DL
end

section
set_option Elab.async false
set_option linter.all false
set_option maxRecDepth 100000
set_option maxHeartbeats 4000000
namespace DL
open PySem PySem.Spec PyProof.Rows L2
open C8 (Cal pe_c Mak pe_mk)
local macro_rules | `(tactic| walk_at "si") => `(tactic| first
  | with_reducible assumption | omega | (simp only [rgI_len, List.length_map]; omega) | (simp only [decide_eq_true_eq, Bool.and_eq_true, Bool.not_eq_true', decide_eq_false_iff_not] at *; omega))
local macro_rules | `(tactic| walk_at "sz") => `(tactic| first
  | with_reducible assumption | omega | (simp only [rgI_len, List.length_map, List.length_append, List.length_cons, List.length_nil]; omega))
local macro_rules | `(tactic| walk_at "row") => `(tactic| first | with_reducible assumption | ((with_reducible refine Tbl.get (by with_reducible assumption) ?_); walk_at "wd") | exact row_mem (by with_reducible assumption) (by with_reducible assumption))
local macro_rules | `(tactic| walk_at "wd") => `(tactic| first | with_reducible assumption | omega | (constructor <;> omega) | ((with_reducible refine wd_get (by walk_at "row") ?_); walk_at "wd") | exact wd_mem (by with_reducible assumption) (by with_reducible assumption))
local macro_rules | `(tactic| walk_at "rk") => `(tactic| first
  | ((with_reducible apply ro_xL (by decide)); exact rfl) | ((with_reducible apply ro_xT (by decide)); exact rfl) | walk_at "ro")
local macro_rules | `(tactic| walk_at "ro") => `(tactic| first
  | with_reducible exact ro_b0 | with_reducible exact ro_l ro_eqI | with_reducible exact ro_l ro_neI | with_reducible exact ro_l ro_eqB | with_reducible exact ro_l ro_neB | with_reducible exact ro_l ro_eqS | with_reducible exact ro_l ro_neS
  | ((with_reducible refine ro_gLR (by with_reducible assumption) ?_); walk_at "wd") | ((with_reducible refine ro_gIR (by walk_at "row") ?_); walk_at "wd")
  | ((with_reducible refine ro_gI ?_ ?_) <;> walk_at "si") | ((with_reducible refine ro_gL ?_ ?_) <;> walk_at "si") | ((with_reducible refine ro_gIT ?_ ?_) <;> walk_at "si")
  | with_reducible exact ro_gG (by with_reducible assumption) | ((with_reducible refine ro_gT ?_ ?_) <;> walk_at "si")
  | ((with_reducible refine ro_gB ?_ ?_) <;> walk_at "si")
  | ((with_reducible refine ro_gS ?_ ?_) <;> walk_at "si") | ((with_reducible refine ro_gST ?_ ?_) <;> walk_at "si")
  | ((with_reducible refine ro_xM ?_ ?_) <;> walk_at "si") | ((with_reducible refine ro_xTM ?_ ?_) <;> walk_at "si")
  | ((with_reducible apply ro_xL (by decide)); exact rfl) | ((with_reducible apply ro_xT (by decide)); exact rfl)
  | with_reducible exact ro_eqIs | with_reducible exact ro_l ro_inL | with_reducible exact ro_l ro_niL | with_reducible exact ro_l ro_inT | with_reducible exact ro_l ro_inS | with_reducible exact ro_isNN | with_reducible exact ro_notNN | with_reducible exact ro_isNI | with_reducible exact ro_notNI)
local macro_rules | `(tactic| walk_at "rc") => `(tactic| with_reducible first
  | exact rc_lenM | exact rc_lenTM | exact rc_lenL' | exact rc_lenT' | exact rc_ii _ | exact rc_ib _ | exact rc_ss _ | exact rc_tt _ | exact rc_ltl _ | exact rc_ltt _ | exact rc_int | exact rc_abs | exact rc_max2 | exact rc_min2 | exact rc_all | exact rc_sum | exact rc_tupL' | exact rc_tupT' | exact rc_range1)
local macro_rules | `(tactic| walk_at "rcn") => `(tactic| with_reducible first
  | exact rcn_listL' | exact rcn_listT' | exact rcn_sortP)
local macro_rules | `(tactic| walk_at "pre") => `(tactic| first | with_reducible assumption | exact trivial | (refine And.intro ?_ ?_ <;> walk_at "pre") | walk_at "wd" | walk_at "si")
local macro_rules | `(tactic| walk_at "cmod") => `(tactic| (show (0 : Int) < _; first | decide | walk_at "si"))
local macro_rules | `(tactic| walk_at "cd") => `(tactic| (refine And.intro ?_ ?_ <;> walk_at "si"))
local macro_rules | `(tactic| walk_at "cp") => `(tactic| exact ⟨by decide, by decide, by decide⟩)
local macro_rules | `(tactic| walk_at "cm") => `(tactic| first | (refine Or.inl (And.intro ?_ ?_) <;> omega) | (refine Or.inr (And.intro ?_ ?_) <;> omega))
local macro_rules | `(tactic| walk_at "wk") => `(tactic| (repeat (first | exact Wk.nil | exact Wk.refl _ | refine Wk.same ?_ | refine Wk.frz ?_ | refine Wk.drop ?_)))
section
variable {P : PySem.Program} {w : World} {K : PySem.W.Frag} {mg : Str → Option Value} {base : Heap} {CL CB : Addr} (T : Txt K mg CL CB)
include T
omit T in
theorem foldl_inv {α β : Type} {f : β → α → β} (I : β → Prop) : ∀ (xs : List α) (b : β), I b → (∀ b x, x ∈ xs → I b → I (f b x)) → I (xs.foldl f b)
  | [], _, h, _ => h
  | x :: xs, b, h, hs => foldl_inv I xs (f b x) (hs b x List.mem_cons_self h) fun b y hy => hs b y (List.mem_cons_of_mem _ hy)
omit T in
theorem steps_rows {b : LB} (h : WF b) : ∀ s ∈ v_steps b, Row b.js.length b.js.length s.2 := by
  unfold v_steps
  refine foldl_inv (fun acc : List St => ∀ s ∈ acc, Row b.js.length b.js.length s.2) _ _ (fun s hs => ?_) fun acc k hk ha s hs => ?_
  · obtain ⟨k, hk, rfl⟩ := List.mem_map.mp hs
    have := mem_rgI.mp hk
    exact h.de.get (by omega)
  · have := mem_rgI.mp hk
    rw [v_sstep] at hs
    rcases List.mem_append.mp hs with hs | hs
    · rcases List.mem_append.mp hs with hs | hs
      · exact ha s hs
      · rw [List.mem_singleton.mp hs]; exact h.so.get (by omega)
    · rw [List.mem_singleton.mp hs]; exact h.no.get (by omega)
omit T in
theorem foldl_len {α β : Type} {f : List β → α → List β} {c : Nat} (hf : ∀ b x, (f b x).length = b.length + c) : ∀ (xs : List α) (b : List β), (xs.foldl f b).length = b.length + xs.length * c
  | [], b => by simp
  | x :: xs, b => by
    rw [List.foldl_cons, foldl_len hf xs, hf, List.length_cons, Nat.add_mul]
    omega
omit T in
theorem steps_len (b : LB) : (v_steps b).length = b.le.length + b.te.length * 2 := by
  unfold v_steps
  rw [foldl_len (c := 2) (fun acc k => by rw [v_sstep, List.length_append, List.length_append, List.length_singleton, List.length_singleton]), List.length_map, rgI_len, rgI_len]
def v_rows (b : LB) : List (List Int) := (v_steps b).map (·.2)
omit T in
theorem rows_tbl {b : LB} (h : WF b) : Tbl (v_rows b).length b.js.length b.js.length (v_rows b) := ⟨rfl, fun r hr => by
  obtain ⟨s, hs, rfl⟩ := List.mem_map.mp hr
  exact steps_rows h s hs⟩
omit T in
theorem rows_len {b : LB} (h : WF b) : (v_rows b).length ≤ 12 := by
  unfold v_rows
  rw [List.length_map, steps_len]
  have := h.le4
  have := h.te4
  omega
def v_words (b : LB) : List Int := v_told b.js (v_rows b) b.fi
abbrev S_law_words : Stmt := top 106
abbrev N_law_words : List Str := ["_law_book", "_law_pair"]
omit T in
theorem sc__law_words : FnScope N_law_words ["_law_book"] (defScope S_law_words) := ⟨rfl, rfl, rfl, by decide +kernel, rfl, by decide +kernel, by decide +kernel⟩
def sp__law_words : Sp := spD (α := LB) (fun b => [eLB b]) (fun b => WF b) (fun b => eIs (v_words b))
omit T in
theorem d__law_words {ρ : List Sl} {t : TA} {E : XK} {b : LB} (h : DA t ρ [eLB b]) (hp : WF b) : DE (tCall sp__law_words [] E t) ρ (eIs (v_words b)) := de_call (α := LB) (enc := fun b => [eLB b]) (pre := fun b => WF b) (val := fun b => eIs (v_words b)) b h rfl hp
theorem c__law_words : Cal P w K mg base 2 "_law_words" sp__law_words [] :=
  cal_def (α := LB) (enc := fun b => [eLB b]) (pre := fun b => WF b) (val := fun b => eIs (v_words b)) T.f__law_words sc__law_words (fun b => rfl) (fun _ _ _ _ _ _ us hl => match us, hl with | [_], _ => rfl) fun f cdv A outer s H E hr b hp => by
    (try dsimp only at hp)
    have nd := sc__law_words.nd
    refine ⟨_, (pss_one (ps_ret (pe_c (c__law_told T) hr (by decide) rfl (pa_cons (pe_ix (ixk K) (pv 0) pe_int (fun _ _ => rfl)) (pa_cons (pe_lc (own := [("_law_pair", 1)]) rfl nd (pilk K (pe_c (c__law_steps T) hr (by decide) rfl (pa_cons (pv 0) pa_nil))) (blkOk_by (sc := defScope S_law_words) (N := N_law_words) (own := [("_law_pair", 1)]) (by decide +kernel)) (fun _ _ _ _ _ => (pg_name (i := 1) nd rfl (by first | exact .inl rfl | exact .inr rfl))) (fun _ _ _ _ _ => pts_nil) (fun _ _ _ _ _ => (pe_ix (ixk K) (pv 1) pe_int (fun _ _ => rfl)))) (pa_cons (pe_ix (ixk K) (pv 0) pe_int (fun _ _ => rfl)) pa_nil)))))), ?_⟩
    have hb := hp
    have hl := rows_len hb
    have ht := rows_tbl hb
    have hs : (v_steps b).length ≤ 50000 := by rw [steps_len]; have := hb.le4; have := hb.te4; omega
    obtain ⟨n2, n9, js, ms, le1, le4, te4, de, so, no, fi, okl, okt⟩ := hp
    show DS _ [.val (eLB b), .any] _
    exact ds_ret (d__law_told (da_cons (de_op (dq_of (de_var rfl)) (dq_of de_int) (by walk_at "rk")) (da_cons (dn_de (dn_lc2 eIs (dw_list (d__law_steps (da_cons (de_var rfl) da_nil) (by walk_at "pre"))) (by walk_at "sz") (by decide) (fun x_pair hx_x_pair => by (try rw [mem_rgI] at hx_x_pair); exact (de_op (dq_of (de_var rfl)) (dq_of de_int) (by walk_at "rk"))))) (da_cons (de_op (dq_of (de_var rfl)) (dq_of de_int) (by walk_at "rk")) da_nil))) (⟨js, by omega, by omega, ht, show (v_rows b).length ≤ 40 by omega, fi⟩)) rfl
def v_half (x c : Int) : Int := cond (decide (x = 0)) 0 (2 * x - 1 + c)
abbrev S_law_half : Stmt := top 107
abbrev N_law_half : List Str := ["_law_word", "_law_bit"]
omit T in
theorem sc__law_half : FnScope N_law_half ["_law_word", "_law_bit"] (defScope S_law_half) := ⟨rfl, rfl, rfl, by decide +kernel, rfl, by decide +kernel, by decide +kernel⟩
def sp__law_half : Sp := spD (α := Int × Int) (fun ⟨x, c⟩ => [.int x, .int c]) (fun ⟨x, c⟩ => True) (fun ⟨x, c⟩ => .int (v_half x c))
omit T in
theorem d__law_half {ρ : List Sl} {t : TA} {E : XK} {x c : Int} (h : DA t ρ [.int x, .int c]) (hp : True) : DE (tCall sp__law_half [] E t) ρ (.int (v_half x c)) := de_call (α := Int × Int) (enc := fun ⟨x, c⟩ => [.int x, .int c]) (pre := fun ⟨x, c⟩ => True) (val := fun ⟨x, c⟩ => .int (v_half x c)) ⟨x, c⟩ h rfl hp
theorem c__law_half : Cal P w K mg base 1 "_law_half" sp__law_half [] :=
  cal_def (α := Int × Int) (enc := fun ⟨x, c⟩ => [.int x, .int c]) (pre := fun ⟨x, c⟩ => True) (val := fun ⟨x, c⟩ => .int (v_half x c)) T.f__law_half sc__law_half (fun ⟨x, c⟩ => rfl) (fun _ _ _ _ _ _ us hl => match us, hl with | [_, _], _ => rfl) fun f cdv A outer s H E hr ⟨x, c⟩ hp => by
    (try dsimp only at hp)
    have nd := sc__law_half.nd
    refine ⟨_, (pss_one (ps_ret (pe_ifExp (pt_cmpR (eqk K hr) (pv 0) pe_int (nomark _)) pe_int (pe_op op_addA (pe_op op_sub (pe_op op_mulA pe_int (pv 0)) pe_int) (pv 1))))), ?_⟩
    show DS _ [.val (.int x), .val (.int c)] _
    exact ds_ret (de_ifI (dt_test (de_op (dq_of (de_var rfl)) (dq_of de_int) (by walk_at "ro"))) (fun hi => de_int) (fun hi => (de_op (dq_of (de_op (dq_of (de_op (dq_of de_int) (dq_of (de_var rfl)) (ro_l (ro_i (by walk_at "cm"))))) (dq_of de_int) ro_i0)) (dq_of (de_var rfl)) (ro_l ro_i0)))) rfl
def v_nbit (js : List (List Int)) (st mk x c : Int) : Int := gI [c, 1, 0, cond (decide (gI (gL js mk) x = x)) 1 c] st
def v_drow (js : List (List Int)) (row : List Int) (st mk : Int) : List Int :=
  (rgI 1 ((row.length : Int) - 1).toNat).foldl (fun out x => (rgI 0 (2 : Int).toNat).foldl (fun out c => out ++ [v_half (gI row x) (v_nbit js st mk x c)]) out) [0]
omit T in
theorem nbit_gI {K : PySem.W.Frag} {l : List Int} {i : Int} (hl : l.length = 4) (h0 : 0 ≤ i) (h : i < 4) : RO (rIx K) (.tup (l.map DV.int)) (.int i) (.int (gI l i)) := ro_gIT h0 (by rw [hl]; exact h)
abbrev S_law_doubled_row : Stmt := top 108
abbrev N_law_doubled_row : List Str := ["_law_book", "_law_row", "_law_style", "_law_mark", "_law_out", "_law_word", "_law_bit", "_law_new"]
omit T in
theorem sc__law_doubled_row : FnScope N_law_doubled_row ["_law_book", "_law_row", "_law_style", "_law_mark"] (defScope S_law_doubled_row) := ⟨rfl, rfl, rfl, by decide +kernel, rfl, by decide +kernel, by decide +kernel⟩
def sp__law_doubled_row : Sp := spD (α := LB × List Int × Int × Int) (fun ⟨b, row, st, mk⟩ => [eLB b, eIs row, .int st, .int mk]) (fun ⟨b, row, st, mk⟩ => WF b ∧ Row b.js.length b.js.length row ∧ 0 ≤ st ∧ st < 4 ∧ wd b.js.length mk) (fun ⟨b, row, st, mk⟩ => eIs (v_drow b.js row st mk))
omit T in
theorem d__law_doubled_row {ρ : List Sl} {t : TA} {E : XK} {b : LB} {row : List Int} {st mk : Int} (h : DA t ρ [eLB b, eIs row, .int st, .int mk]) (hp : WF b ∧ Row b.js.length b.js.length row ∧ 0 ≤ st ∧ st < 4 ∧ wd b.js.length mk) : DE (tCall sp__law_doubled_row [] E t) ρ (eIs (v_drow b.js row st mk)) := de_call (α := LB × List Int × Int × Int) (enc := fun ⟨b, row, st, mk⟩ => [eLB b, eIs row, .int st, .int mk]) (pre := fun ⟨b, row, st, mk⟩ => WF b ∧ Row b.js.length b.js.length row ∧ 0 ≤ st ∧ st < 4 ∧ wd b.js.length mk) (val := fun ⟨b, row, st, mk⟩ => eIs (v_drow b.js row st mk)) ⟨b, row, st, mk⟩ h rfl hp
theorem c__law_doubled_row : Cal P w K mg base 2 "_law_doubled_row" sp__law_doubled_row [] :=
  cal_def (α := LB × List Int × Int × Int) (enc := fun ⟨b, row, st, mk⟩ => [eLB b, eIs row, .int st, .int mk]) (pre := fun ⟨b, row, st, mk⟩ => WF b ∧ Row b.js.length b.js.length row ∧ 0 ≤ st ∧ st < 4 ∧ wd b.js.length mk) (val := fun ⟨b, row, st, mk⟩ => eIs (v_drow b.js row st mk)) T.f__law_doubled_row sc__law_doubled_row (fun ⟨b, row, st, mk⟩ => rfl) (fun _ _ _ _ _ _ us hl => match us, hl with | [_, _, _, _], _ => rfl) fun f cdv A outer s H E hr ⟨b, row, st, mk⟩ hp => by
    (try dsimp only at hp)
    have nd := sc__law_doubled_row.nd
    refine ⟨_, (pss_cons (ps_set (i := 4) nd rfl (.inl rfl) (pe_lst (pa_cons pe_int pa_nil)))
    (pss_cons (ps_for PassesOwn.never rfl (pi_range2 rfl T.m_range (pa_cons pe_int (pa_cons (pe_callB (lenk K) rfl T.m_len (by decide +kernel) (pa_cons (pv 1) pa_nil)) pa_nil))) (pg_name (i := 5) nd rfl (.inl rfl))
    (pss_one (ps_for PassesOwn.never rfl (pi_range1 rfl T.m_range (pa_cons pe_int pa_nil)) (pg_name (i := 6) nd rfl (.inl rfl))
    (pss_cons (ps_set (i := 7) nd rfl (.inl rfl) (pe_ix (ixk K) (pe_tup (pa_cons (pv 6) (pa_cons pe_int (pa_cons pe_int (pa_cons (pe_ifExp (pt_cmpR (eqk K hr) (pe_ix (ixk K) (pe_ix (ixk K) (pe_ix (ixk K) (pv 0) pe_int (fun _ _ => rfl)) (pv 3) (fun _ _ => rfl)) (pv 5) (fun _ _ => rfl)) (pv 5) (nomark _)) pe_int (pv 6)) pa_nil))))) (pv 2) (fun _ _ => rfl)))
    (pss_one (ps_expr (bmk K PySem.F.plainAttrs_list PySem.F.slot_list_append PySem.F.type_list_append mt_append (pv 4) (pa_cons (pe_c (c__law_half T) hr (by decide) rfl (pa_cons (pe_ix (ixk K) (pv 1) (pv 5) (fun _ _ => rfl)) (pa_cons (pv 7) pa_nil))) pa_nil))))))))
    (pss_one (ps_ret (pv 4))))), ?_⟩
    obtain ⟨hb, hr, hs0, hs4, hm⟩ := hp
    have n9 := hb.n9
    have js := hb.js
    have rl := hr.len
    show DS _ [.val (eLB b), .val (eIs row), .val (.int st), .val (.int mk), .any, .any, .any, .any] _
    refine ds_setNS (ds := List.map DV.int [0]) (dn_lst (da_cons de_int da_nil) (Nat.le_of_ble_eq_true rfl)) ?_
    refine ds_seq (ds_fold (fun out => [.val (eLB b), .val (eIs row), .val (.int st), .val (.int mk), .mu none (.lst (out.map DV.int)), .any, .any, .any]) (fun out x => (rgI 0 (2 : Int).toNat).foldl (fun out c => out ++ [v_half (gI row x) (v_nbit b.js st mk x c)]) out) [0] (fun n out => out.length = 1 + 2 * n) (dw_range2 (da_cons de_int (da_cons (de_cb (db_cons (dq_of (de_var rfl)) db_nil) (by walk_at "rc")) da_nil)) (by walk_at "si")) (by walk_at "wk") rfl (fun n out x hx hl => ?_) fun hl => ?_)
    · have hn := (rgI_get hx).2
      have hx := mem_rgI.mp (List.mem_of_getElem? hx)
      show DS _ [.val (eLB b), .val (eIs row), .val (.int st), .val (.int mk), .mu none (.lst (out.map DV.int)), .val (.int x), .any, .any] _
      refine ds_fold (fun out => [.val (eLB b), .val (eIs row), .val (.int st), .val (.int mk), .mu none (.lst (out.map DV.int)), .val (.int x), .any, .any]) (fun out c => out ++ [v_half (gI row x) (v_nbit b.js st mk x c)]) out (fun m o => o.length = 1 + 2 * n + m) (dw_range1 (da_cons de_int da_nil) (by walk_at "si")) (by walk_at "wk") hl (fun m o c hc ho => ?_) fun ho => ⟨by walk_at "wk", by rw [ho, rgI_len]; show 1 + 2 * n + 2 = _; omega⟩
      have hm2 := (rgI_get hc).2
      show DS _ [.val (eLB b), .val (eIs row), .val (.int st), .val (.int mk), .mu none (.lst (o.map DV.int)), .val (.int x), .val (.int c), .any] _
      refine ds_setS (de_op (dq_of (de_tup (da_cons (de_var rfl) (da_cons de_int (da_cons de_int (da_cons (de_ifI (dt_test (de_op (dq_of (de_op (dq_of (de_op (dq_of (de_op (dq_of (de_var rfl)) (dq_of de_int) (by walk_at "rk"))) (dq_of (de_var rfl)) (by walk_at "ro"))) (dq_of (de_var rfl)) (by walk_at "ro"))) (dq_of (de_var rfl)) (by walk_at "ro"))) (fun hi => de_int) (fun hi => (de_var rfl))) da_nil)))) (Nat.le_of_ble_eq_true rfl))) (dq_of (de_var rfl)) (nbit_gI (l := [c, 1, 0, cond (decide (gI (gL b.js mk) x = x)) 1 c]) rfl hs0 hs4)) ?_
      refine ds_appM (enc := DV.int) (x := v_half (gI row x) (v_nbit b.js st mk x c)) rfl (d__law_half (da_cons (de_op (dq_of (de_var rfl)) (dq_of (de_var rfl)) (by walk_at "ro")) (da_cons (de_var rfl) da_nil)) (by walk_at "pre")) (by omega) ⟨by walk_at "wk", by rw [List.length_append, List.length_singleton]; omega⟩
    · refine ds_wk (ρ' := [.any, .any, .any, .any, .val (eIs (v_drow b.js row st mk)), .any, .any, .any]) (by walk_at "wk") ?_
      exact ds_ret (de_var rfl) rfl

end
end DL
end

section
set_option Elab.async false
set_option linter.all false
set_option maxRecDepth 100000
set_option maxHeartbeats 4000000
namespace DL
open PySem PySem.Spec PyProof.Rows L2
open C8 (Cal pe_c Mak pe_mk)
local macro_rules | `(tactic| walk_at "si") => `(tactic| first
  | with_reducible assumption | omega | (simp only [rgI_len, List.length_map]; omega) | (simp only [decide_eq_true_eq, Bool.and_eq_true, Bool.not_eq_true', decide_eq_false_iff_not] at *; omega))
local macro_rules | `(tactic| walk_at "sz") => `(tactic| first
  | with_reducible assumption | omega | (simp only [rgI_len, List.length_map, List.length_append, List.length_cons, List.length_nil]; omega))
local macro_rules | `(tactic| walk_at "row") => `(tactic| first | with_reducible assumption | ((with_reducible refine Tbl.get (by with_reducible assumption) ?_); walk_at "wd") | exact row_mem (by with_reducible assumption) (by with_reducible assumption))
local macro_rules | `(tactic| walk_at "wd") => `(tactic| first | with_reducible assumption | omega | (constructor <;> omega) | ((with_reducible refine wd_get (by walk_at "row") ?_); walk_at "wd") | exact wd_mem (by with_reducible assumption) (by with_reducible assumption))
local macro_rules | `(tactic| walk_at "rk") => `(tactic| first
  | ((with_reducible apply ro_xL (by decide)); exact rfl) | ((with_reducible apply ro_xT (by decide)); exact rfl) | walk_at "ro")
local macro_rules | `(tactic| walk_at "ro") => `(tactic| first
  | with_reducible exact ro_b0 | with_reducible exact ro_l ro_eqI | with_reducible exact ro_l ro_neI | with_reducible exact ro_l ro_eqB | with_reducible exact ro_l ro_neB | with_reducible exact ro_l ro_eqS | with_reducible exact ro_l ro_neS
  | ((with_reducible refine ro_gLR (by with_reducible assumption) ?_); walk_at "wd") | ((with_reducible refine ro_gIR (by walk_at "row") ?_); walk_at "wd")
  | ((with_reducible refine ro_gI ?_ ?_) <;> walk_at "si") | ((with_reducible refine ro_gL ?_ ?_) <;> walk_at "si") | ((with_reducible refine ro_gIT ?_ ?_) <;> walk_at "si")
  | with_reducible exact ro_gG (by with_reducible assumption) | ((with_reducible refine ro_gT ?_ ?_) <;> walk_at "si")
  | ((with_reducible refine ro_gB ?_ ?_) <;> walk_at "si")
  | ((with_reducible refine ro_gS ?_ ?_) <;> walk_at "si") | ((with_reducible refine ro_gST ?_ ?_) <;> walk_at "si")
  | ((with_reducible refine ro_xM ?_ ?_) <;> walk_at "si") | ((with_reducible refine ro_xTM ?_ ?_) <;> walk_at "si")
  | ((with_reducible apply ro_xL (by decide)); exact rfl) | ((with_reducible apply ro_xT (by decide)); exact rfl)
  | with_reducible exact ro_eqIs | with_reducible exact ro_l ro_inL | with_reducible exact ro_l ro_niL | with_reducible exact ro_l ro_inT | with_reducible exact ro_l ro_inS | with_reducible exact ro_isNN | with_reducible exact ro_notNN | with_reducible exact ro_isNI | with_reducible exact ro_notNI)
local macro_rules | `(tactic| walk_at "rc") => `(tactic| with_reducible first
  | exact rc_lenM | exact rc_lenTM | exact rc_lenL' | exact rc_lenT' | exact rc_ii _ | exact rc_ib _ | exact rc_ss _ | exact rc_tt _ | exact rc_ltl _ | exact rc_ltt _ | exact rc_int | exact rc_abs | exact rc_max2 | exact rc_min2 | exact rc_all | exact rc_sum | exact rc_tupL' | exact rc_tupT' | exact rc_range1)
local macro_rules | `(tactic| walk_at "rcn") => `(tactic| with_reducible first
  | exact rcn_listL' | exact rcn_listT' | exact rcn_sortP)
local macro_rules | `(tactic| walk_at "pre") => `(tactic| first | with_reducible assumption | exact trivial | (refine And.intro ?_ ?_ <;> walk_at "pre") | walk_at "wd" | walk_at "si")
local macro_rules | `(tactic| walk_at "cmod") => `(tactic| (show (0 : Int) < _; first | decide | walk_at "si"))
local macro_rules | `(tactic| walk_at "cd") => `(tactic| (refine And.intro ?_ ?_ <;> walk_at "si"))
local macro_rules | `(tactic| walk_at "cp") => `(tactic| exact ⟨by decide, by decide, by decide⟩)
local macro_rules | `(tactic| walk_at "cm") => `(tactic| first | (refine Or.inl (And.intro ?_ ?_) <;> omega) | (refine Or.inr (And.intro ?_ ?_) <;> omega))
local macro_rules | `(tactic| walk_at "wk") => `(tactic| (repeat (first | exact Wk.nil | exact Wk.refl _ | refine Wk.same ?_ | refine Wk.frz ?_ | refine Wk.drop ?_)))
section
variable {P : PySem.Program} {w : World} {K : PySem.W.Frag} {mg : Str → Option Value} {base : Heap} {CL CB : Addr} (T : Txt K mg CL CB)
include T
def v_dw1 (ms : List Int) (s : List (Int × Int) × List Int) (x : Int) : List (Int × Int) × List Int := (rgI 0 (2 : Int).toNat).foldl (fun s c => (s.1 ++ [(x, c)], s.2 ++ [gI ms x])) s
def v_dw (n : Nat) (ms : List Int) : List (Int × Int) × List Int := (rgI 1 ((n : Int) - 1).toNat).foldl (v_dw1 ms) ([(0, 0)], [gI ms 0])
abbrev v_max (i j : Int) : Int := if j > i then j else i
def v_dj (js : List (List Int)) (ws : List (Int × Int)) : List (List Int) := ws.map fun o => ws.map fun p => v_half (gI (gL js o.1) p.1) (v_max o.2 p.2)
def v_drs (js : List (List Int)) (ds : List Int) (rows : List (List Int)) (t : Int) : List (List Int) × Int :=
  rows.foldl (fun s row => (s.1 ++ [v_drow js row (gI ds s.2 % 4) (1 + gI ds s.2 / 4 % ((js.length : Int) - 1))], s.2 + 1)) ([], t)
def v_dgr (b : LB) (ds : List Int) (s : List (List (List Int)) × Int) (g : Int) : List (List (List Int)) × Int := (s.1 ++ [(v_drs b.js ds (gG b g) s.2).1], (v_drs b.js ds (gG b g) s.2).2)
def v_dtab (b : LB) (ds : List Int) : List (List (List Int)) × Int := [4, 5, 6].foldl (v_dgr b ds) ([], 3)
def v_doubled (b : LB) (ds : List Int) : LB := ⟨b.le, b.te, v_dj b.js (v_dw b.js.length b.ms).1, (v_dw b.js.length b.ms).2, gT (v_dtab b ds).1 0, gT (v_dtab b ds).1 1, gT (v_dtab b ds).1 2, v_half b.fi (gI ds (v_dtab b ds).2 % 2)⟩
omit T in
theorem ro_p1 {K : PySem.W.Frag} {p : Int × Int} : RO (rIx K) (ePr p) (.int 0) (.int p.1) := ro_xT (by decide) rfl
omit T in
theorem ro_p2 {K : PySem.W.Frag} {p : Int × Int} : RO (rIx K) (ePr p) (.int 1) (.int p.2) := ro_xT (by decide) rfl
structure DwI (n m : Nat) (s : List (Int × Int) × List Int) : Prop where
  l1 : s.1.length = m
  l2 : s.2.length = m
  wds : ∀ p ∈ s.1, wd n p.1 ∧ 0 ≤ p.2 ∧ p.2 ≤ 1
omit T in
theorem DwI.add {n m : Nat} {s : List (Int × Int) × List Int} (h : DwI n m s) {x c y : Int} (hx : wd n x) (hc : 0 ≤ c ∧ c ≤ 1) : DwI n (m + 1) (s.1 ++ [(x, c)], s.2 ++ [y]) := ⟨by show (s.1 ++ [(x, c)]).length = _; rw [List.length_append, h.l1]; rfl, by show (s.2 ++ [y]).length = _; rw [List.length_append, h.l2]; rfl, fun p hp => by
  rcases List.mem_append.mp hp with hp | hp
  · exact h.wds p hp
  · rw [List.mem_singleton.mp hp]; exact ⟨hx, hc⟩⟩
omit T in
theorem dw_I {n : Nat} {ms : List Int} (hn : 1 ≤ n) : ∀ (xs : List Int) (s : List (Int × Int) × List Int) (m : Nat), (∀ x ∈ xs, wd n x) → DwI n m s → DwI n (m + 2 * xs.length) (xs.foldl (v_dw1 ms) s)
  | [], s, m, _, h => h
  | x :: xs, s, m, hx, h => by
    have h1 := (h.add (c := 0) (y := gI ms x) (hx x List.mem_cons_self) (by omega)).add (c := 1) (y := gI ms x) (hx x List.mem_cons_self) (by omega)
    have := dw_I (ms := ms) hn xs (v_dw1 ms s x) (m + 2) (fun y hy => hx y (List.mem_cons_of_mem _ hy)) h1
    rw [List.length_cons]
    rw [show m + 2 * (xs.length + 1) = m + 2 + 2 * xs.length by omega]
    exact this
abbrev S_law_doubled : Stmt := top 109
abbrev N_law_doubled : List Str := ["_law_book", "_law_ds", "_law_at", "_law_words_here", "_law_lots", "_law_word", "_law_bit", "_law_joins", "_law_one", "_law_tables", "_law_turn", "_law_group", "_law_rows", "_law_row", "_law_other"]
omit T in
theorem sc__law_doubled : FnScope N_law_doubled ["_law_book", "_law_ds", "_law_at"] (defScope S_law_doubled) := ⟨rfl, rfl, rfl, by decide +kernel, rfl, by decide +kernel, by decide +kernel⟩
def sp__law_doubled : Sp := spD (α := LB × List Int) (fun ⟨b, ds⟩ => [eLB b, eIs ds, .int 3]) (fun ⟨b, ds⟩ => WF b ∧ ds.length = 60) (fun ⟨b, ds⟩ => eLB (v_doubled b ds))
omit T in
theorem d__law_doubled {ρ : List Sl} {t : TA} {E : XK} {b : LB} {ds : List Int} (h : DA t ρ [eLB b, eIs ds, .int 3]) (hp : WF b ∧ ds.length = 60) : DE (tCall sp__law_doubled [] E t) ρ (eLB (v_doubled b ds)) := de_call (α := LB × List Int) (enc := fun ⟨b, ds⟩ => [eLB b, eIs ds, .int 3]) (pre := fun ⟨b, ds⟩ => WF b ∧ ds.length = 60) (val := fun ⟨b, ds⟩ => eLB (v_doubled b ds)) ⟨b, ds⟩ h rfl hp
theorem c__law_doubled : Cal P w K mg base 3 "_law_doubled" sp__law_doubled [] :=
  cal_def (α := LB × List Int) (enc := fun ⟨b, ds⟩ => [eLB b, eIs ds, .int 3]) (pre := fun ⟨b, ds⟩ => WF b ∧ ds.length = 60) (val := fun ⟨b, ds⟩ => eLB (v_doubled b ds)) T.f__law_doubled sc__law_doubled (fun ⟨b, ds⟩ => rfl) (fun _ _ _ _ _ _ us hl => match us, hl with | [_, _, _], _ => rfl) fun f cdv A outer s H E hr ⟨b, ds⟩ hp => by
    (try dsimp only at hp)
    have nd := sc__law_doubled.nd
    refine ⟨_, (pss_cons (ps_set (i := 3) nd rfl (.inl rfl) (pe_lst (pa_cons (pe_tup (pa_cons pe_int (pa_cons pe_int pa_nil))) pa_nil)))
    (pss_cons (ps_set (i := 4) nd rfl (.inl rfl) (pe_lst (pa_cons (pe_ix (ixk K) (pe_ix (ixk K) (pv 0) pe_int (fun _ _ => rfl)) pe_int (fun _ _ => rfl)) pa_nil)))
    (pss_cons (ps_for PassesOwn.never rfl (pi_range2 rfl T.m_range (pa_cons pe_int (pa_cons (pe_callB (lenk K) rfl T.m_len (by decide +kernel) (pa_cons (pe_ix (ixk K) (pv 0) pe_int (fun _ _ => rfl)) pa_nil)) pa_nil))) (pg_name (i := 5) nd rfl (.inl rfl))
    (pss_one (ps_for PassesOwn.never rfl (pi_range1 rfl T.m_range (pa_cons pe_int pa_nil)) (pg_name (i := 6) nd rfl (.inl rfl))
    (pss_cons (ps_expr (bmk K PySem.F.plainAttrs_list PySem.F.slot_list_append PySem.F.type_list_append mt_append (pv 3) (pa_cons (pe_tup (pa_cons (pv 5) (pa_cons (pv 6) pa_nil))) pa_nil)))
    (pss_one (ps_expr (bmk K PySem.F.plainAttrs_list PySem.F.slot_list_append PySem.F.type_list_append mt_append (pv 4) (pa_cons (pe_ix (ixk K) (pe_ix (ixk K) (pv 0) pe_int (fun _ _ => rfl)) (pv 5) (fun _ _ => rfl)) pa_nil))))))))
    (pss_cons (ps_set (i := 7) nd rfl (.inl rfl) (pe_lst pa_nil))
    (pss_cons (ps_for PassesOwn.never rfl (pilk K (pv 3)) (pg_name (i := 8) nd rfl (.inr rfl))
    (pss_one (ps_expr (bmk K PySem.F.plainAttrs_list PySem.F.slot_list_append PySem.F.type_list_append mt_append (pv 7) (pa_cons (pe_lc (own := [("_law_other", 14)]) rfl nd (pilk K (pv 3)) (blkOk_by (sc := defScope S_law_doubled) (N := N_law_doubled) (own := [("_law_other", 14)]) (by decide +kernel)) (fun _ _ _ _ _ => (pg_name (i := 14) nd rfl (by first | exact .inl rfl | exact .inr rfl))) (fun _ _ _ _ _ => pts_nil) (fun _ _ _ _ _ => (pe_c (c__law_half T) hr (by decide) rfl (pa_cons (pe_ix (ixk K) (pe_ix (ixk K) (pe_ix (ixk K) (pv 0) pe_int (fun _ _ => rfl)) (pe_ix (ixk K) (pv 8) pe_int (fun _ _ => rfl)) (fun _ _ => rfl)) (pe_ix (ixk K) (pv 14) pe_int (fun _ _ => rfl)) (fun _ _ => rfl)) (pa_cons (pe_callB (call_max2 rfl) rfl T.m_max (by decide +kernel) (pa_cons (pe_ix (ixk K) (pv 8) pe_int (fun _ _ => rfl)) (pa_cons (pe_ix (ixk K) (pv 14) pe_int (fun _ _ => rfl)) pa_nil))) pa_nil))))) pa_nil)))))
    (pss_cons (ps_set (i := 9) nd rfl (.inl rfl) (pe_lst pa_nil))
    (pss_cons (ps_set (i := 10) nd rfl (.inl rfl) (pv 2))
    (pss_cons (ps_for PassesOwn.never rfl (pitk K (pe_tup (pa_cons pe_int (pa_cons pe_int (pa_cons pe_int pa_nil))))) (pg_name (i := 11) nd rfl (.inl rfl))
    (pss_cons (ps_set (i := 12) nd rfl (.inl rfl) (pe_lst pa_nil))
    (pss_cons (ps_for PassesOwn.never rfl (pilk K (pe_ix (ixk K) (pv 0) (pv 11) (fun _ _ => rfl))) (pg_name (i := 13) nd rfl (.inl rfl))
    (pss_cons (ps_expr (bmk K PySem.F.plainAttrs_list PySem.F.slot_list_append PySem.F.type_list_append mt_append (pv 12) (pa_cons (pe_c (c__law_doubled_row T) hr (by decide) rfl (pa_cons (pv 0) (pa_cons (pv 13) (pa_cons (pe_op op_mod (pe_callTy call_int1 rfl T.m_int (by decide +kernel) (pa_cons (pe_ix (ixk K) (pv 1) (pv 10) (fun _ _ => rfl)) pa_nil)) pe_int) (pa_cons (pe_op op_addA pe_int (pe_op op_mod (pe_op op_fdiv (pe_callTy call_int1 rfl T.m_int (by decide +kernel) (pa_cons (pe_ix (ixk K) (pv 1) (pv 10) (fun _ _ => rfl)) pa_nil)) pe_int) (pe_op op_sub (pe_callB (lenk K) rfl T.m_len (by decide +kernel) (pa_cons (pe_ix (ixk K) (pv 0) pe_int (fun _ _ => rfl)) pa_nil)) pe_int))) pa_nil))))) pa_nil)))
    (pss_one (ps_set (i := 10) nd rfl (.inl rfl) (pe_op op_addA (pv 10) pe_int)))))
    (pss_one (ps_expr (bmk K PySem.F.plainAttrs_list PySem.F.slot_list_append PySem.F.type_list_append mt_append (pv 9) (pa_cons (pv 12) pa_nil)))))))
    (pss_one (ps_ret (pe_lst (pa_cons (pe_ix (ixk K) (pv 0) pe_int (fun _ _ => rfl)) (pa_cons (pe_ix (ixk K) (pv 0) pe_int (fun _ _ => rfl)) (pa_cons (pv 7) (pa_cons (pv 4) (pa_cons (pe_ix (ixk K) (pv 9) pe_int (fun _ _ => rfl)) (pa_cons (pe_ix (ixk K) (pv 9) pe_int (fun _ _ => rfl)) (pa_cons (pe_ix (ixk K) (pv 9) pe_int (fun _ _ => rfl)) (pa_cons (pe_c (c__law_half T) hr (by decide) rfl (pa_cons (pe_ix (ixk K) (pv 0) pe_int (fun _ _ => rfl)) (pa_cons (pe_op op_mod (pe_callTy call_int1 rfl T.m_int (by decide +kernel) (pa_cons (pe_ix (ixk K) (pv 1) (pv 10) (fun _ _ => rfl)) pa_nil)) pe_int) pa_nil))) pa_nil))))))))))))))))))), ?_⟩
    obtain ⟨hb, hd⟩ := hp
    obtain ⟨n2, n9, js, ms, le1, le4, te4, de, so, no, fi, okl, okt⟩ := id hb
    show DS _ [.val (eLB b), .val (eIs ds), .val (.int 3), .any, .any, .any, .any, .any, .any, .any, .any, .any, .any, .any, .any] _
    refine ds_setNS (ds := List.map ePr [(0, 0)]) (dn_is (dn_lst (da_cons (de_tup (da_cons de_int (da_cons de_int da_nil)) (Nat.le_of_ble_eq_true rfl)) da_nil) (Nat.le_of_ble_eq_true rfl)) (rfl : _ = List.map ePr [(0, 0)])) ?_
    refine ds_setNS (ds := List.map DV.int [gI b.ms 0]) (dn_lst (da_cons (de_op (dq_of (de_op (dq_of (de_var rfl)) (dq_of de_int) (by walk_at "rk"))) (dq_of de_int) (ro_gI (by omega) (by omega))) da_nil) (Nat.le_of_ble_eq_true rfl)) ?_
    refine ds_seq (ds_fold (fun s => [.val (eLB b), .val (eIs ds), .val (.int 3), .mu none (.lst (s.1.map ePr)), .mu none (.lst (s.2.map DV.int)), .any, .any, .any, .any, .any, .any, .any, .any, .any, .any]) (v_dw1 b.ms) ([(0, 0)], [gI b.ms 0]) (fun n s => DwI b.js.length (1 + 2 * n) s) (dw_range2 (da_cons de_int (da_cons (de_cb (db_cons (dq_of (de_op (dq_of (de_var rfl)) (dq_of de_int) (by walk_at "rk"))) db_nil) (by walk_at "rc")) da_nil)) (by walk_at "si")) (by walk_at "wk") ⟨rfl, rfl, fun p hp => by rw [List.mem_singleton.mp hp]; show (0 ≤ 0 ∧ _ < _) ∧ _; omega⟩ (fun n s x hx hl => ?_) fun hl => ?_)
    · have hn := (rgI_get hx).2
      have hx := mem_rgI.mp (List.mem_of_getElem? hx)
      show DS _ [.val (eLB b), .val (eIs ds), .val (.int 3), .mu none (.lst (s.1.map ePr)), .mu none (.lst (s.2.map DV.int)), .val (.int x), .any, .any, .any, .any, .any, .any, .any, .any, .any] _
      refine ds_fold (fun s => [.val (eLB b), .val (eIs ds), .val (.int 3), .mu none (.lst (s.1.map ePr)), .mu none (.lst (s.2.map DV.int)), .val (.int x), .any, .any, .any, .any, .any, .any, .any, .any, .any]) (fun s c => (s.1 ++ [(x, c)], s.2 ++ [gI b.ms x])) s (fun m s => DwI b.js.length (1 + 2 * n + m) s) (dw_range1 (da_cons de_int da_nil) (by walk_at "si")) (by walk_at "wk") hl (fun m s c hc hI => ?_) fun hI => ⟨by walk_at "wk", by rw [show 1 + 2 * (n + 1) = 1 + 2 * n + 2 by omega]; exact hI⟩
      have hm2 := (rgI_get hc).2
      have hc := mem_rgI.mp (List.mem_of_getElem? hc)
      have i1 := hI.l1
      have i2 := hI.l2
      have hm3 : m < 2 := hm2
      have hc3 : 0 ≤ c ∧ c ≤ 1 := by have := hc.2; have : c < 0 + 2 := this; omega
      show DS _ [.val (eLB b), .val (eIs ds), .val (.int 3), .mu none (.lst (s.1.map ePr)), .mu none (.lst (s.2.map DV.int)), .val (.int x), .val (.int c), .any, .any, .any, .any, .any, .any, .any, .any] _
      refine ds_appMS (enc := ePr) (x := (x, c)) rfl (de_tup (da_cons (de_var rfl) (da_cons (de_var rfl) da_nil)) (Nat.le_of_ble_eq_true rfl)) (by omega) ?_
      exact ds_appM (enc := DV.int) (x := gI b.ms x) rfl (de_op (dq_of (de_op (dq_of (de_var rfl)) (dq_of de_int) (by walk_at "rk"))) (dq_of (de_var rfl)) (ro_gI (by omega) (by omega))) (by omega) ⟨by walk_at "wk", hI.add (by omega) hc3⟩
    · have hl : DwI b.js.length (1 + 2 * (rgI 1 ((b.js.length : Int) - 1).toNat).length) (v_dw b.js.length b.ms) := hl
      rw [rgI_len] at hl
      generalize hw : (v_dw b.js.length b.ms) = W at hl
      obtain ⟨l1, l2, wds⟩ := hl
      have hW : (rgI 1 ((b.js.length : Int) - 1).toNat).foldl (v_dw1 b.ms) ([(0, 0)], [gI b.ms 0]) = W := hw
      rw [hW]
      refine ds_wk (ρ' := [.val (eLB b), .val (eIs ds), .val (.int 3), .val (.lst (W.1.map ePr)), .val (eIs W.2), .any, .any, .any, .any, .any, .any, .any, .any, .any, .any]) (by walk_at "wk") ?_
      refine ds_setNS (ds := List.map eIs []) (dn_lst da_nil (Nat.le_of_ble_eq_true rfl)) ?_
      refine ds_seq (ds_fold (fun acc => [.val (eLB b), .val (eIs ds), .val (.int 3), .val (.lst (W.1.map ePr)), .val (eIs W.2), .any, .any, .mu none (.lst (acc.map eIs)), .any, .any, .any, .any, .any, .any, .any]) (fun acc o => acc ++ [W.1.map fun p => v_half (gI (gL b.js o.1) p.1) (v_max o.2 p.2)]) [] (fun n acc => acc.length = n) (dw_list (de_var rfl)) (by walk_at "wk") rfl (fun n acc o ho hl => ?_) fun hl => ?_)
      · have hn := getElem?_lt ho
        have ho := (wds o (List.mem_of_getElem? ho)).1
        show DS _ [.val (eLB b), .val (eIs ds), .val (.int 3), .val (.lst (W.1.map ePr)), .val (eIs W.2), .any, .any, .mu none (.lst (acc.map eIs)), .val (ePr o), .any, .any, .any, .any, .any, .any] _
        exact ds_appM (enc := eIs) (x := W.1.map fun p => v_half (gI (gL b.js o.1) p.1) (v_max o.2 p.2)) rfl (dn_de (dn_lc2 DV.int (dw_list (de_var rfl)) (by walk_at "sz") (by decide) (fun x_other hx_x_other => by (try rw [mem_rgI] at hx_x_other); exact (d__law_half (da_cons (de_op (dq_of (de_op (dq_of (de_op (dq_of (de_var rfl)) (dq_of de_int) (by walk_at "rk"))) (dq_of (de_op (dq_of (de_var rfl)) (dq_of de_int) (by walk_at "rk"))) (by walk_at "ro"))) (dq_of (de_op (dq_of (de_var rfl)) (dq_of de_int) (by walk_at "rk"))) (ro_gIR (js.get ho) (wds _ hx_x_other).1)) (da_cons (de_cb (db_cons (dq_of (de_op (dq_of (de_var rfl)) (dq_of de_int) (by walk_at "rk"))) (db_cons (dq_of (de_op (dq_of (de_var rfl)) (dq_of de_int) (by walk_at "rk"))) db_nil)) (by walk_at "rc")) da_nil)) (by walk_at "pre"))))) (by omega) ⟨by walk_at "wk", by rw [List.length_append, hl]; rfl⟩
      · rw [foldl_app, List.nil_append]
        refine ds_wk (ρ' := [.val (eLB b), .val (eIs ds), .val (.int 3), .any, .val (eIs W.2), .any, .any, .val (eTb (v_dj b.js W.1)), .any, .any, .any, .any, .any, .any, .any]) (by walk_at "wk") ?_
        refine ds_setNS (ds := List.map eTb []) (dn_lst da_nil (Nat.le_of_ble_eq_true rfl)) ?_
        refine ds_setS (de_var rfl) ?_
        refine ds_seq (ds_fold (xs := [4, 5, 6]) (enc := DV.int) (fun s => [.val (eLB b), .val (eIs ds), .val (.int 3), .any, .val (eIs W.2), .any, .any, .val (eTb (v_dj b.js W.1)), .any, .mu none (.lst (s.1.map eTb)), .val (.int s.2), .any, .any, .any, .any]) (v_dgr b ds) ([], 3) (fun n s => s.1.length = n ∧ 0 ≤ s.2 ∧ s.2 ≤ 3 + 4 * n) (dw_tup (de_tup (da_cons de_int (da_cons de_int (da_cons de_int da_nil))) (Nat.le_of_ble_eq_true rfl))) (by walk_at "wk") ⟨rfl, by show (0 : Int) ≤ 3; omega, by show (3 : Int) ≤ 3 + 4 * 0; omega⟩ (fun n s g hg hl => ?_) fun hl => ?_)
        · have hn : n < 3 := getElem?_lt hg
          have hg : g = 4 ∨ g = 5 ∨ g = 6 := by have := List.mem_of_getElem? hg; simpa using this
          obtain ⟨hG1, hG2⟩ := hb.gG g
          obtain ⟨hl1, hl2, hl3⟩ := hl
          show DS _ [.val (eLB b), .val (eIs ds), .val (.int 3), .any, .val (eIs W.2), .any, .any, .val (eTb (v_dj b.js W.1)), .any, .mu none (.lst (s.1.map eTb)), .val (.int s.2), .val (.int g), .any, .any, .any] _
          refine ds_setNS (ds := List.map eIs []) (dn_lst da_nil (Nat.le_of_ble_eq_true rfl)) ?_
          refine ds_seq (ds_fold (fun z => [.val (eLB b), .val (eIs ds), .val (.int 3), .any, .val (eIs W.2), .any, .any, .val (eTb (v_dj b.js W.1)), .any, .mu none (.lst (s.1.map eTb)), .val (.int z.2), .val (.int g), .mu none (.lst (z.1.map eIs)), .any, .any]) (fun z row => (z.1 ++ [v_drow b.js row (gI ds z.2 % 4) (1 + gI ds z.2 / 4 % ((b.js.length : Int) - 1))], z.2 + 1)) ([], s.2) (fun m z => z.1.length = m ∧ z.2 = s.2 + m) (dw_list (de_op (dq_of (de_var rfl)) (dq_of (de_var rfl)) (by walk_at "ro"))) (by walk_at "wk") ⟨rfl, by show s.2 = s.2 + 0; omega⟩ (fun m z row hrow hz => ?_) fun hz => ?_)
          · have hm := getElem?_lt hrow
            have hrow := List.mem_of_getElem? hrow
            have hR := hG2.rows row hrow
            obtain ⟨hz1, hz2⟩ := hz
            show DS _ [.val (eLB b), .val (eIs ds), .val (.int 3), .any, .val (eIs W.2), .any, .any, .val (eTb (v_dj b.js W.1)), .any, .mu none (.lst (s.1.map eTb)), .val (.int z.2), .val (.int g), .mu none (.lst (z.1.map eIs)), .val (eIs row), .any] _
            have hmk : wd b.js.length (1 + gI ds z.2 / 4 % ((b.js.length : Int) - 1)) := by
              have h1 := Int.emod_nonneg (gI ds z.2 / 4) (b := (b.js.length : Int) - 1) (by omega)
              have h2 := Int.emod_lt_of_pos (gI ds z.2 / 4) (b := (b.js.length : Int) - 1) (by omega)
              omega
            refine ds_appMS (enc := eIs) (x := v_drow b.js row (gI ds z.2 % 4) (1 + gI ds z.2 / 4 % ((b.js.length : Int) - 1))) rfl (d__law_doubled_row (da_cons (de_var rfl) (da_cons (de_var rfl) (da_cons (de_op (dq_of (de_cb (db_cons (dq_of (de_op (dq_of (de_var rfl)) (dq_of (de_var rfl)) (by walk_at "ro"))) db_nil) (by walk_at "rc"))) (dq_of de_int) (ro_i (by walk_at "cmod"))) (da_cons (de_op (dq_of de_int) (dq_of (de_op (dq_of (de_op (dq_of (de_cb (db_cons (dq_of (de_op (dq_of (de_var rfl)) (dq_of (de_var rfl)) (by walk_at "ro"))) db_nil) (by walk_at "rc"))) (dq_of de_int) (ro_i (by walk_at "cd")))) (dq_of (de_op (dq_of (de_cb (db_cons (dq_of (de_op (dq_of (de_var rfl)) (dq_of de_int) (by walk_at "rk"))) db_nil) (by walk_at "rc"))) (dq_of de_int) ro_i0)) (ro_i (by walk_at "cmod")))) (ro_l ro_i0)) da_nil)))) (⟨hb, hR, by omega, by omega, hmk⟩)) (by omega) ?_
            exact ds_set (de_op (dq_of (de_var rfl)) (dq_of de_int) (ro_l ro_i0)) ⟨by walk_at "wk", by show (_ ++ [_]).length = _; rw [List.length_append, hz1]; rfl, by show z.2 + 1 = _; omega⟩
          · have hz2 : (v_drs b.js ds (gG b g) s.2).2 = s.2 + (gG b g).length := hz.2
            refine ds_wk (ρ' := [.val (eLB b), .val (eIs ds), .val (.int 3), .any, .val (eIs W.2), .any, .any, .val (eTb (v_dj b.js W.1)), .any, .mu none (.lst (s.1.map eTb)), .val (.int (v_drs b.js ds (gG b g) s.2).2), .any, .val (eTb (v_drs b.js ds (gG b g) s.2).1), .any, .any]) (by walk_at "wk") ?_
            exact ds_appM (enc := eTb) (x := (v_drs b.js ds (gG b g) s.2).1) rfl (de_var rfl) (by omega) ⟨by walk_at "wk", by show (_ ++ [_]).length = _; rw [List.length_append, hl1]; rfl, by show 0 ≤ (v_drs b.js ds (gG b g) s.2).2; omega, by show (v_drs b.js ds (gG b g) s.2).2 ≤ _; omega⟩
        · have hl : (v_dtab b ds).1.length = 3 ∧ 0 ≤ (v_dtab b ds).2 ∧ (v_dtab b ds).2 ≤ 3 + 4 * 3 := hl
          refine ds_wk (ρ' := [.val (eLB b), .val (eIs ds), .val (.int 3), .any, .val (eIs W.2), .any, .any, .val (eTb (v_dj b.js W.1)), .any, .val (.lst ((v_dtab b ds).1.map eTb)), .val (.int (v_dtab b ds).2), .any, .any, .any, .any]) (by walk_at "wk") ?_
          exact ds_ret (dn_de (dn_lst (da_cons (de_op (dq_of (de_var rfl)) (dq_of de_int) (by walk_at "rk")) (da_cons (de_op (dq_of (de_var rfl)) (dq_of de_int) (by walk_at "rk")) (da_cons (de_var rfl) (da_cons (de_var rfl) (da_cons (de_op (by first | exact dq_of (de_var rfl) | exact dq_own rfl) (dq_of de_int) (ro_gT (by omega) (by omega))) (da_cons (de_op (by first | exact dq_of (de_var rfl) | exact dq_own rfl) (dq_of de_int) (ro_gT (by omega) (by omega))) (da_cons (de_op (by first | exact dq_of (de_var rfl) | exact dq_own rfl) (dq_of de_int) (ro_gT (by omega) (by omega))) (da_cons (d__law_half (da_cons (de_op (dq_of (de_var rfl)) (dq_of de_int) (by walk_at "rk")) (da_cons (de_op (dq_of (de_cb (db_cons (dq_of (de_op (dq_of (de_var rfl)) (dq_of (de_var rfl)) (by walk_at "ro"))) db_nil) (by walk_at "rc"))) (dq_of de_int) (ro_i (by walk_at "cmod"))) da_nil)) (by walk_at "pre")) da_nil)))))))) (Nat.le_of_ble_eq_true rfl))) (show _ = eLB (v_doubled b ds) by rw [v_doubled, hw])

end
end DL
end

section
set_option Elab.async false
set_option linter.all false
set_option maxRecDepth 100000
set_option maxHeartbeats 4000000
namespace DL
open PySem PySem.Spec PyProof.Rows L2
open C8 (Cal pe_c Mak pe_mk)
local macro_rules | `(tactic| walk_at "si") => `(tactic| first
  | with_reducible assumption | omega | (simp only [rgI_len, List.length_map]; omega) | (simp only [decide_eq_true_eq, Bool.and_eq_true, Bool.not_eq_true', decide_eq_false_iff_not] at *; omega))
local macro_rules | `(tactic| walk_at "sz") => `(tactic| first
  | with_reducible assumption | omega | (simp only [rgI_len, List.length_map, List.length_append, List.length_cons, List.length_nil]; omega))
local macro_rules | `(tactic| walk_at "row") => `(tactic| first | with_reducible assumption | ((with_reducible refine Tbl.get (by with_reducible assumption) ?_); walk_at "wd") | exact row_mem (by with_reducible assumption) (by with_reducible assumption))
local macro_rules | `(tactic| walk_at "wd") => `(tactic| first | with_reducible assumption | omega | (constructor <;> omega) | ((with_reducible refine wd_get (by walk_at "row") ?_); walk_at "wd") | exact wd_mem (by with_reducible assumption) (by with_reducible assumption))
local macro_rules | `(tactic| walk_at "rk") => `(tactic| first
  | ((with_reducible apply ro_xL (by decide)); exact rfl) | ((with_reducible apply ro_xT (by decide)); exact rfl) | walk_at "ro")
local macro_rules | `(tactic| walk_at "ro") => `(tactic| first
  | with_reducible exact ro_b0 | with_reducible exact ro_l ro_eqI | with_reducible exact ro_l ro_neI | with_reducible exact ro_l ro_eqB | with_reducible exact ro_l ro_neB | with_reducible exact ro_l ro_eqS | with_reducible exact ro_l ro_neS
  | ((with_reducible refine ro_gLR (by with_reducible assumption) ?_); walk_at "wd") | ((with_reducible refine ro_gIR (by walk_at "row") ?_); walk_at "wd")
  | ((with_reducible refine ro_gI ?_ ?_) <;> walk_at "si") | ((with_reducible refine ro_gL ?_ ?_) <;> walk_at "si") | ((with_reducible refine ro_gIT ?_ ?_) <;> walk_at "si")
  | with_reducible exact ro_gG (by with_reducible assumption) | ((with_reducible refine ro_gT ?_ ?_) <;> walk_at "si")
  | ((with_reducible refine ro_gB ?_ ?_) <;> walk_at "si")
  | ((with_reducible refine ro_gS ?_ ?_) <;> walk_at "si") | ((with_reducible refine ro_gST ?_ ?_) <;> walk_at "si")
  | ((with_reducible refine ro_xM ?_ ?_) <;> walk_at "si") | ((with_reducible refine ro_xTM ?_ ?_) <;> walk_at "si")
  | ((with_reducible apply ro_xL (by decide)); exact rfl) | ((with_reducible apply ro_xT (by decide)); exact rfl)
  | with_reducible exact ro_eqIs | with_reducible exact ro_l ro_inL | with_reducible exact ro_l ro_niL | with_reducible exact ro_l ro_inT | with_reducible exact ro_l ro_inS | with_reducible exact ro_isNN | with_reducible exact ro_notNN | with_reducible exact ro_isNI | with_reducible exact ro_notNI)
local macro_rules | `(tactic| walk_at "rc") => `(tactic| with_reducible first
  | exact rc_lenM | exact rc_lenTM | exact rc_lenL' | exact rc_lenT' | exact rc_ii _ | exact rc_ib _ | exact rc_ss _ | exact rc_tt _ | exact rc_ltl _ | exact rc_ltt _ | exact rc_int | exact rc_abs | exact rc_max2 | exact rc_min2 | exact rc_all | exact rc_sum | exact rc_tupL' | exact rc_tupT' | exact rc_range1)
local macro_rules | `(tactic| walk_at "rcn") => `(tactic| with_reducible first
  | exact rcn_listL' | exact rcn_listT' | exact rcn_sortP)
local macro_rules | `(tactic| walk_at "pre") => `(tactic| first | with_reducible assumption | exact trivial | (refine And.intro ?_ ?_ <;> walk_at "pre") | walk_at "wd" | walk_at "si")
local macro_rules | `(tactic| walk_at "cmod") => `(tactic| (show (0 : Int) < _; first | decide | walk_at "si"))
local macro_rules | `(tactic| walk_at "cd") => `(tactic| (refine And.intro ?_ ?_ <;> walk_at "si"))
local macro_rules | `(tactic| walk_at "cp") => `(tactic| exact ⟨by decide, by decide, by decide⟩)
local macro_rules | `(tactic| walk_at "cm") => `(tactic| first | (refine Or.inl (And.intro ?_ ?_) <;> omega) | (refine Or.inr (And.intro ?_ ?_) <;> omega))
local macro_rules | `(tactic| walk_at "wk") => `(tactic| (repeat (first | exact Wk.nil | exact Wk.refl _ | refine Wk.same ?_ | refine Wk.frz ?_ | refine Wk.drop ?_)))
section
variable {P : PySem.Program} {w : World} {K : PySem.W.Frag} {mg : Str → Option Value} {base : Heap} {CL CB : Addr} (T : Txt K mg CL CB)
include T
def v_pstep (ds : List Int) (s : List Int × List Int) (x : Int) : List Int × List Int := (s.1.set x.toNat (s.2.getD (gI ds (40 + x) % (s.2.length : Int)).toNat default), s.2.eraseIdx (gI ds (40 + x) % (s.2.length : Int)).toNat)
def v_pl (ds : List Int) (n : Nat) : List Int × List Int := (rgI 1 ((n : Int) - 1).toNat).foldl (v_pstep ds) (List.replicate n 0, rgI 1 ((n : Int) - 1).toNat)
structure PlI (n m : Nat) (s : List Int × List Int) : Prop where
  l1 : s.1.length = n
  l2 : s.2.length + m = n
  perm : (s.1.take m ++ s.2).Perm (rgI 0 n)
  zero : gI s.1 0 = 0
omit T in
theorem rgI_cons (lo : Int) (n : Nat) : rgI lo (n + 1) = lo :: rgI (lo + 1) n := by
  unfold rgI
  rw [List.range_succ_eq_map, List.map_cons, List.map_map]
  congr 1
  · omega
  · apply List.map_congr_left
    intro i _
    show lo + ((i + 1 : Nat) : Int) = lo + 1 + (i : Int)
    omega
omit T in
theorem pl_start {n : Nat} (hn : 1 ≤ n) : PlI n 1 (List.replicate n 0, rgI 1 ((n : Int) - 1).toNat) := by
  obtain ⟨k, rfl⟩ : ∃ k, n = k + 1 := ⟨n - 1, by omega⟩
  have e : (((k + 1 : Nat) : Int) - 1).toNat = k := by omega
  rw [e]
  refine ⟨List.length_replicate, by show (rgI 1 k).length + 1 = _; rw [rgI_len], ?_, rfl⟩
  show ((List.replicate (k + 1) (0 : Int)).take 1 ++ rgI 1 k).Perm (rgI 0 (k + 1))
  rw [rgI_cons]
  exact List.Perm.refl _
omit T in
theorem erase_perm {α : Type} [Inhabited α] {l : List α} {k : Nat} (h : k < l.length) : (l.getD k default :: l.eraseIdx k).Perm l := by
  induction l generalizing k with
  | nil => cases h
  | cons a l ih =>
    cases k with
    | zero => exact List.Perm.refl _
    | succ k =>
      have := ih (k := k) (by simpa using h)
      show (l.getD k default :: a :: l.eraseIdx k).Perm (a :: l)
      exact (List.Perm.swap _ _ _).trans (this.cons a)
omit T in
theorem take_set {α : Type} {l : List α} {m : Nat} {y : α} (h : m < l.length) : (l.set m y).take (m + 1) = l.take m ++ [y] := by
  rw [List.take_add_one, List.take_set_of_le (Nat.le_refl _), List.getElem?_set_self h]
  rfl
omit T in
theorem pl_step {ds : List Int} {n m : Nat} {s : List Int × List Int} (hm : 1 ≤ m) (h : PlI n m s) (hn : m < n) : PlI n (m + 1) (v_pstep ds s (m : Int)) := by
  obtain ⟨l1, l2, perm, zero⟩ := h
  have hk := mod_wd (n := s.2.length) (by omega) (gI ds (40 + (m : Int)))
  have hk2 : (gI ds (40 + (m : Int)) % (s.2.length : Int)).toNat < s.2.length := by obtain ⟨h1, h2⟩ := hk; omega
  unfold v_pstep
  generalize (gI ds (40 + (m : Int)) % (s.2.length : Int)).toNat = k at hk2
  refine ⟨by rw [List.length_set]; exact l1, by rw [List.length_eraseIdx_of_lt hk2]; omega, ?_, ?_⟩
  · show ((s.1.set (m : Int).toNat (s.2.getD k default)).take (m + 1) ++ s.2.eraseIdx k).Perm _
    rw [Int.toNat_natCast, take_set (by omega), List.append_assoc]
    exact (List.Perm.append_left _ (erase_perm hk2)).trans perm
  · show gI (s.1.set (m : Int).toNat (s.2.getD k default)) 0 = 0
    rw [Int.toNat_natCast]
    unfold gI at zero ⊢
    rw [List.getD_eq_getElem?_getD, List.getElem?_set_ne (by show m ≠ 0; omega), ← List.getD_eq_getElem?_getD]
    exact zero
def v_P (ds : List Int) (n : Nat) : List Int := (v_pl ds n).1
omit T in
theorem pl_end {n : Nat} {s : List Int × List Int} (h : PlI n n s) : s.1.Perm (rgI 0 n) ∧ s.1.length = n ∧ gI s.1 0 = 0 := by
  have h2 : s.2 = [] := List.length_eq_zero_iff.mp (by have := h.l2; omega)
  have := h.perm
  rw [h2, List.append_nil, List.take_of_length_le (by rw [h.l1]; exact Nat.le_refl _)] at this
  exact ⟨this, h.l1, h.zero⟩
def v_B (ds : List Int) (n : Nat) : List Int := (rgI 0 n).map fun x => v_idx (v_P ds n) x
def v_renT (P B : List Int) (n : Nat) (l : List (List Int)) : List (List Int) := l.map fun row => (rgI 0 n).map fun x => gI P (gI row (gI B x))
def v_ren (b : LB) (ds : List Int) : LB :=
  let n := b.js.length
  let P := v_P ds n
  let B := v_B ds n
  ⟨b.le, b.te, (rgI 0 n).map fun o => (rgI 0 n).map fun p => gI P (gI (gL b.js (gI B o)) (gI B p)), (rgI 0 n).map fun x => gI b.ms (gI B x), v_renT P B n b.de, v_renT P B n b.so, v_renT P B n b.no, gI P b.fi⟩
omit T in
theorem perm_row {n : Nat} {P : List Int} (h : P.Perm (rgI 0 n)) : Row n n P := ⟨by rw [h.length_eq, rgI_len], fun x hx => by
  have := mem_rgI.mp (h.mem_iff.mp hx)
  omega⟩
omit T in
theorem back_row {n : Nat} {P : List Int} (h : P.Perm (rgI 0 n)) : Row n n ((rgI 0 n).map fun x => v_idx P x) := ⟨by rw [List.length_map, rgI_len], fun y hy => by
  obtain ⟨x, hx, rfl⟩ := List.mem_map.mp hy
  have := v_idx_wd (h.mem_iff.mpr hx)
  rwa [h.length_eq, rgI_len] at this⟩
abbrev S_law_renamed : Stmt := top 110
abbrev N_law_renamed : List Str := ["_law_book", "_law_ds", "_law_at", "_law_many", "_law_places", "_law_left", "_law_word", "_law_back", "_law_joins", "_law_tables", "_law_group", "_law_lots", "_law_one", "_law_other", "_law_row"]
omit T in
theorem sc__law_renamed : FnScope N_law_renamed ["_law_book", "_law_ds", "_law_at"] (defScope S_law_renamed) := ⟨rfl, rfl, rfl, by decide +kernel, rfl, by decide +kernel, by decide +kernel⟩
def sp__law_renamed : Sp := spD (α := LB × List Int) (fun ⟨b, ds⟩ => [eLB b, eIs ds, .int 40]) (fun ⟨b, ds⟩ => WF b ∧ ds.length = 60) (fun ⟨b, ds⟩ => eLB (v_ren b ds))
omit T in
theorem d__law_renamed {ρ : List Sl} {t : TA} {E : XK} {b : LB} {ds : List Int} (h : DA t ρ [eLB b, eIs ds, .int 40]) (hp : WF b ∧ ds.length = 60) : DE (tCall sp__law_renamed [] E t) ρ (eLB (v_ren b ds)) := de_call (α := LB × List Int) (enc := fun ⟨b, ds⟩ => [eLB b, eIs ds, .int 40]) (pre := fun ⟨b, ds⟩ => WF b ∧ ds.length = 60) (val := fun ⟨b, ds⟩ => eLB (v_ren b ds)) ⟨b, ds⟩ h rfl hp
theorem c__law_renamed : Cal P w K mg base 1 "_law_renamed" sp__law_renamed [] :=
  cal_def (α := LB × List Int) (enc := fun ⟨b, ds⟩ => [eLB b, eIs ds, .int 40]) (pre := fun ⟨b, ds⟩ => WF b ∧ ds.length = 60) (val := fun ⟨b, ds⟩ => eLB (v_ren b ds)) T.f__law_renamed sc__law_renamed (fun ⟨b, ds⟩ => rfl) (fun _ _ _ _ _ _ us hl => match us, hl with | [_, _, _], _ => rfl) fun f cdv A outer s H E hr ⟨b, ds⟩ hp => by
    (try dsimp only at hp)
    have nd := sc__law_renamed.nd
    refine ⟨_, (pss_cons (ps_set (i := 3) nd rfl (.inr rfl) (pe_callB (lenk K) rfl T.m_len (by decide +kernel) (pa_cons (pe_ix (ixk K) (pv 0) pe_int (fun _ _ => rfl)) pa_nil)))
    (pss_cons (ps_set (i := 4) nd rfl (.inr rfl) (pe_op op_mulA (pe_lst (pa_cons pe_int pa_nil)) (pv 3)))
    (pss_cons (ps_set (i := 5) nd rfl (.inl rfl) (pe_listRg rfl rfl T.m_list (prg_2 rfl T.m_range pe_int (pv 3))))
    (pss_cons (ps_for PassesOwn.never rfl (pi_range2 rfl T.m_range (pa_cons pe_int (pa_cons (pv 3) pa_nil))) (pg_name (i := 6) nd rfl (.inl rfl))
    (pss_one (ps_asg (bmk K PySem.F.plainAttrs_list PySem.F.slot_list_pop PySem.F.type_list_pop mt_popAt (pv 5) (pa_cons (pe_op op_mod (pe_callTy call_int1 rfl T.m_int (by decide +kernel) (pa_cons (pe_ix (ixk K) (pv 1) (pe_op op_addA (pv 2) (pv 6)) (fun _ _ => rfl)) pa_nil)) (pe_callB (lenk K) rfl T.m_len (by decide +kernel) (pa_cons (pv 5) pa_nil))) pa_nil)) (pg_sub (pv 4) (pv 6) set_list))))
    (pss_cons (ps_set (i := 7) nd rfl (.inr rfl) (pe_lc (own := [("_law_word", 6)]) rfl nd (pi_range1 rfl T.m_range (pa_cons (pv 3) pa_nil)) (blkOk_by (sc := defScope S_law_renamed) (N := N_law_renamed) (own := [("_law_word", 6)]) (by decide +kernel)) (fun _ _ _ _ _ => (pg_name (i := 6) nd rfl (by first | exact .inl rfl | exact .inr rfl))) (fun _ _ _ _ _ => pts_nil) (fun _ _ _ _ _ => (bmk K PySem.F.plainAttrs_list PySem.F.slot_list_index PySem.F.type_list_index (idxk K) (pv 4) (pa_cons (pv 6) pa_nil)))))
    (pss_cons (ps_setLc (i := 8) (own := [("_law_one", 12)]) rfl nd rfl rfl (sw_true rfl rfl rfl (by decide +kernel)) (pi_range1 rfl T.m_range (pa_cons (pv 3) pa_nil)) (blkOk_by (sc := defScope S_law_renamed) (N := N_law_renamed) (own := [("_law_one", 12)]) (by decide +kernel)) (fun _ _ _ _ _ => (pg_name (i := 12) nd rfl (by first | exact .inl rfl | exact .inr rfl))) (fun _ _ _ _ _ => pts_nil) (fun _ _ _ _ _ => (pe_lc (own := [("_law_other", 13)]) rfl nd (pi_range1 rfl T.m_range (pa_cons (pv 3) pa_nil)) (blkOk_by (sc := relS _ (defScope S_law_renamed)) (N := N_law_renamed) (own := [("_law_other", 13)]) (by decide +kernel)) (fun _ _ _ _ _ => (pg_name (i := 13) nd rfl (by first | exact .inl rfl | exact .inr rfl))) (fun _ _ _ _ _ => pts_nil) (fun _ _ _ _ _ => (pe_ix (ixk K) (pv 4) (pe_ix (ixk K) (pe_ix (ixk K) (pe_ix (ixk K) (pv 0) pe_int (fun _ _ => rfl)) (pe_ix (ixk K) (pv 7) (pv 12) (fun _ _ => rfl)) (fun _ _ => rfl)) (pe_ix (ixk K) (pv 7) (pv 13) (fun _ _ => rfl)) (fun _ _ => rfl)) (fun _ _ => rfl))))))
    (pss_cons (ps_set (i := 9) nd rfl (.inl rfl) (pe_lst pa_nil))
    (pss_cons (ps_for PassesOwn.never rfl (pitk K (pe_tup (pa_cons pe_int (pa_cons pe_int (pa_cons pe_int pa_nil))))) (pg_name (i := 10) nd rfl (.inl rfl))
    (pss_one (ps_expr (bmk K PySem.F.plainAttrs_list PySem.F.slot_list_append PySem.F.type_list_append mt_append (pv 9) (pa_cons (pe_lc (own := [("_law_row", 14)]) rfl nd (pilk K (pe_ix (ixk K) (pv 0) (pv 10) (fun _ _ => rfl))) (blkOk_by (sc := defScope S_law_renamed) (N := N_law_renamed) (own := [("_law_row", 14)]) (by decide +kernel)) (fun _ _ _ _ _ => (pg_name (i := 14) nd rfl (by first | exact .inl rfl | exact .inr rfl))) (fun _ _ _ _ _ => pts_nil) (fun _ _ _ _ _ => (pe_lc (own := [("_law_word", 6)]) rfl nd (pi_range1 rfl T.m_range (pa_cons (pv 3) pa_nil)) (blkOk_by (sc := relS _ (defScope S_law_renamed)) (N := N_law_renamed) (own := [("_law_word", 6)]) (by decide +kernel)) (fun _ _ _ _ _ => (pg_name (i := 6) nd rfl (by first | exact .inl rfl | exact .inr rfl))) (fun _ _ _ _ _ => pts_nil) (fun _ _ _ _ _ => (pe_ix (ixk K) (pv 4) (pe_ix (ixk K) (pv 14) (pe_ix (ixk K) (pv 7) (pv 6) (fun _ _ => rfl)) (fun _ _ => rfl)) (fun _ _ => rfl)))))) pa_nil)))))
    (pss_cons (ps_setLc (i := 11) (own := [("_law_word", 6)]) rfl nd rfl rfl (sw_true rfl rfl rfl (by decide +kernel)) (pi_range1 rfl T.m_range (pa_cons (pv 3) pa_nil)) (blkOk_by (sc := defScope S_law_renamed) (N := N_law_renamed) (own := [("_law_word", 6)]) (by decide +kernel)) (fun _ _ _ _ _ => (pg_name (i := 6) nd rfl (by first | exact .inl rfl | exact .inr rfl))) (fun _ _ _ _ _ => pts_nil) (fun _ _ _ _ _ => (pe_ix (ixk K) (pe_ix (ixk K) (pv 0) pe_int (fun _ _ => rfl)) (pe_ix (ixk K) (pv 7) (pv 6) (fun _ _ => rfl)) (fun _ _ => rfl))))
    (pss_one (ps_ret (pe_lst (pa_cons (pe_ix (ixk K) (pv 0) pe_int (fun _ _ => rfl)) (pa_cons (pe_ix (ixk K) (pv 0) pe_int (fun _ _ => rfl)) (pa_cons (pv 8) (pa_cons (pv 11) (pa_cons (pe_ix (ixk K) (pv 9) pe_int (fun _ _ => rfl)) (pa_cons (pe_ix (ixk K) (pv 9) pe_int (fun _ _ => rfl)) (pa_cons (pe_ix (ixk K) (pv 9) pe_int (fun _ _ => rfl)) (pa_cons (pe_ix (ixk K) (pv 4) (pe_ix (ixk K) (pv 0) pe_int (fun _ _ => rfl)) (fun _ _ => rfl)) pa_nil)))))))))))))))))))), ?_⟩
    obtain ⟨hb, hd⟩ := hp
    obtain ⟨n2, n9, js, ms, le1, le4, te4, de, so, no, fi, okl, okt⟩ := id hb
    show DS _ [.val (eLB b), .val (eIs ds), .val (.int 40), .any, .any, .any, .any, .any, .any, .any, .any, .any, .any, .any, .any] _
    refine ds_setS (de_cb (db_cons (dq_of (de_op (dq_of (de_var rfl)) (dq_of de_int) (by walk_at "rk"))) db_nil) (by walk_at "rc")) ?_
    refine ds_setNS (ds := List.map DV.int (List.replicate b.js.length 0)) (dn_is (dn_op (dn_dq (dn_lst (da_cons de_int da_nil) (Nat.le_of_ble_eq_true rfl))) (dq_of (de_var rfl)) (rn_r (rn_rep (by walk_at "si") (by walk_at "sz") (by walk_at "si")))) (rep_map _ DV.int 0)) ?_
    refine ds_setNS (ds := List.map DV.int (rgI 1 ((b.js.length : Int) - 1).toNat)) (dn_listr2 de_int (de_var rfl) (by walk_at "si")) ?_
    refine ds_seq (ds_fold (fun s => [.val (eLB b), .val (eIs ds), .val (.int 40), .val (.int (b.js.length : Int)), .mu none (.lst (s.1.map DV.int)), .mu none (.lst (s.2.map DV.int)), .any, .any, .any, .any, .any, .any, .any, .any, .any]) (v_pstep ds) (List.replicate b.js.length 0, rgI 1 ((b.js.length : Int) - 1).toNat) (fun m s => PlI b.js.length (1 + m) s) (dw_range2 (da_cons de_int (da_cons (de_var rfl) da_nil)) (by walk_at "si")) (by walk_at "wk") (pl_start (by omega)) (fun m s x hx hI => ?_) fun hI => ?_)
    · obtain ⟨hx, hm⟩ := rgI_get hx
      have i1 := hI.l1
      have i2 := hI.l2
      have hk := mod_wd (n := s.2.length) (by omega) (gI ds (40 + x))
      show DS _ [.val (eLB b), .val (eIs ds), .val (.int 40), .val (.int (b.js.length : Int)), .mu none (.lst (s.1.map DV.int)), .mu none (.lst (s.2.map DV.int)), .val (.int x), .any, .any, .any, .any, .any, .any, .any, .any] _
      refine ds_setpopM (enc := DV.int) (xs := s.1) (ys := s.2) (m := gI ds (40 + x) % (s.2.length : Int)) (n := x) rfl rfl (by decide) (de_op (dq_of (de_cb (db_cons (dq_of (de_op (dq_of (de_var rfl)) (dq_of (de_op (dq_of (de_var rfl)) (dq_of (de_var rfl)) (ro_l ro_i0))) (by walk_at "ro"))) db_nil) (by walk_at "rc"))) (dq_of (de_cb (db_cons (by first | exact dq_of (de_var rfl) | exact dq_own rfl) db_nil) (by walk_at "rc"))) (ro_i (by walk_at "cmod"))) hk.1 (by obtain ⟨h1, h2⟩ := hk; omega) (by obtain ⟨h1, h2⟩ := hk; omega) (de_var rfl) (by omega) (by omega) ⟨by walk_at "wk", ?_⟩
      have := pl_step (ds := ds) (by omega) hI (by omega)
      rw [show ((1 + m : Nat) : Int) = x by omega] at this
      rw [show 1 + (m + 1) = 1 + m + 1 by omega]
      exact this
    · have hI : PlI b.js.length (1 + (rgI 1 ((b.js.length : Int) - 1).toNat).length) (v_pl ds b.js.length) := hI
      rw [rgI_len, show 1 + ((b.js.length : Int) - 1).toNat = b.js.length by omega] at hI
      obtain ⟨hP, hP2, hP3⟩ := pl_end hI
      have rP := perm_row hP
      have rB := back_row hP
      refine ds_wk (ρ' := [.val (eLB b), .val (eIs ds), .val (.int 40), .val (.int (b.js.length : Int)), .val (eIs (v_P ds b.js.length)), .any, .any, .any, .any, .any, .any, .any, .any, .any, .any]) (by walk_at "wk") ?_
      refine ds_setS (dn_de (dn_lc2 DV.int (dw_rangeN (da_cons (de_var rfl) da_nil) (by walk_at "si")) (by walk_at "sz") (by decide) (fun x_word hx_x_word => by (try rw [mem_rgI] at hx_x_word); exact (de_index (by first | exact dq_of (de_var rfl) | exact dq_own rfl) (de_var rfl) (hP.mem_iff.mpr (mem_rgI.mpr hx_x_word)))))) ?_
      show DS _ [.val (eLB b), .val (eIs ds), .val (.int 40), .val (.int (b.js.length : Int)), .val (eIs (v_P ds b.js.length)), .any, .any, .val (eIs (v_B ds b.js.length)), .any, .any, .any, .any, .any, .any, .any] _
      generalize hPe : v_P ds b.js.length = P at rP rB
      have rP : Row b.js.length b.js.length P := hPe ▸ rP
      have rB : Row b.js.length b.js.length (v_B ds b.js.length) := rB
      generalize hBe : v_B ds b.js.length = B at rB
      refine ds_setS (dn_de (dn_lc2 eIs (dw_rangeN (da_cons (de_var rfl) da_nil) (by walk_at "si")) (by walk_at "sz") (by decide) (fun x_one hx_x_one => by (try rw [mem_rgI] at hx_x_one); exact (dn_de (dn_lc2 DV.int (dw_rangeN (da_cons (de_var rfl) da_nil) (by walk_at "si")) (by walk_at "sz") (by decide) (fun x_other hx_x_other => by (try rw [mem_rgI] at hx_x_other); exact (de_op (by first | exact dq_of (de_var rfl) | exact dq_own rfl) (dq_of (de_op (dq_of (de_op (dq_of (de_op (dq_of (de_var rfl)) (dq_of de_int) (by walk_at "rk"))) (dq_of (de_op (dq_of (de_var rfl)) (dq_of (de_var rfl)) (by walk_at "ro"))) (by walk_at "ro"))) (dq_of (de_op (dq_of (de_var rfl)) (dq_of (de_var rfl)) (by walk_at "ro"))) (by walk_at "ro"))) (by walk_at "ro")))))))) ?_
      refine ds_setNS (ds := List.map eTb []) (dn_lst da_nil (Nat.le_of_ble_eq_true rfl)) ?_
      refine ds_seq (ds_fold (xs := [4, 5, 6]) (enc := DV.int) (fun s => [.val (eLB b), .val (eIs ds), .val (.int 40), .val (.int (b.js.length : Int)), .val (eIs P), .any, .any, .val (eIs B), .val (eTb ((rgI 0 b.js.length).map fun o => (rgI 0 b.js.length).map fun p => gI P (gI (gL b.js (gI B o)) (gI B p)))), .mu none (.lst (s.map eTb)), .any, .any, .any, .any, .any]) (fun s g => s ++ [v_renT P B b.js.length (gG b g)]) [] (fun n s => s.length = n) (dw_tup (de_tup (da_cons de_int (da_cons de_int (da_cons de_int da_nil))) (Nat.le_of_ble_eq_true rfl))) (by walk_at "wk") rfl (fun n s g hg hl => ?_) fun hl => ?_)
      · have hn : n < 3 := getElem?_lt hg
        have hg : g = 4 ∨ g = 5 ∨ g = 6 := by have := List.mem_of_getElem? hg; simpa using this
        obtain ⟨hG1, hG2⟩ := hb.gG g
        show DS _ [.val (eLB b), .val (eIs ds), .val (.int 40), .val (.int (b.js.length : Int)), .val (eIs P), .any, .any, .val (eIs B), .val (eTb ((rgI 0 b.js.length).map fun o => (rgI 0 b.js.length).map fun p => gI P (gI (gL b.js (gI B o)) (gI B p)))), .mu none (.lst (s.map eTb)), .val (.int g), .any, .any, .any, .any] _
        exact ds_appM (enc := eTb) (x := v_renT P B b.js.length (gG b g)) rfl (dn_de (dn_lc2 eIs (dw_list (de_op (dq_of (de_var rfl)) (dq_of (de_var rfl)) (by walk_at "ro"))) (by walk_at "sz") (by decide) (fun x_row hx_x_row => by (try rw [mem_rgI] at hx_x_row); exact (dn_de (dn_lc2 DV.int (dw_rangeN (da_cons (de_var rfl) da_nil) (by walk_at "si")) (by walk_at "sz") (by decide) (fun x_word hx_x_word => by (try rw [mem_rgI] at hx_x_word); exact (de_op (by first | exact dq_of (de_var rfl) | exact dq_own rfl) (dq_of (de_op (dq_of (de_var rfl)) (dq_of (de_op (dq_of (de_var rfl)) (dq_of (de_var rfl)) (by walk_at "ro"))) (by walk_at "ro"))) (by walk_at "ro")))))))) (by omega) ⟨by walk_at "wk", by rw [List.length_append, hl]; rfl⟩
      · refine ds_wk (ρ' := [.val (eLB b), .val (eIs ds), .val (.int 40), .val (.int (b.js.length : Int)), .val (eIs P), .any, .any, .val (eIs B), .val (eTb ((rgI 0 b.js.length).map fun o => (rgI 0 b.js.length).map fun p => gI P (gI (gL b.js (gI B o)) (gI B p)))), .val (.lst ([v_renT P B b.js.length b.de, v_renT P B b.js.length b.so, v_renT P B b.js.length b.no].map eTb)), .any, .any, .any, .any, .any]) (by walk_at "wk") ?_
        refine ds_setS (dn_de (dn_lc2 DV.int (dw_rangeN (da_cons (de_var rfl) da_nil) (by walk_at "si")) (by walk_at "sz") (by decide) (fun x_word hx_x_word => by (try rw [mem_rgI] at hx_x_word); exact (de_op (dq_of (de_op (dq_of (de_var rfl)) (dq_of de_int) (by walk_at "rk"))) (dq_of (de_op (dq_of (de_var rfl)) (dq_of (de_var rfl)) (by walk_at "ro"))) (ro_gI (rB.get (by omega)).1 (by have := (rB.get (i := x_word) (by omega)).2; omega)))))) ?_
        exact ds_ret (dn_de (dn_lst (da_cons (de_op (dq_of (de_var rfl)) (dq_of de_int) (by walk_at "rk")) (da_cons (de_op (dq_of (de_var rfl)) (dq_of de_int) (by walk_at "rk")) (da_cons (de_var rfl) (da_cons (de_var rfl) (da_cons (de_op (by first | exact dq_of (de_var rfl) | exact dq_own rfl) (dq_of de_int) (by walk_at "rk")) (da_cons (de_op (by first | exact dq_of (de_var rfl) | exact dq_own rfl) (dq_of de_int) (by walk_at "rk")) (da_cons (de_op (by first | exact dq_of (de_var rfl) | exact dq_own rfl) (dq_of de_int) (by walk_at "rk")) (da_cons (de_op (by first | exact dq_of (de_var rfl) | exact dq_own rfl) (dq_of (de_op (dq_of (de_var rfl)) (dq_of de_int) (by walk_at "rk"))) (by walk_at "ro")) da_nil)))))))) (Nat.le_of_ble_eq_true rfl))) (show _ = eLB (v_ren b ds) by rw [v_ren, hPe, hBe])

end
end DL
end

section
set_option Elab.async false
set_option linter.all false
set_option maxRecDepth 100000
set_option maxHeartbeats 4000000
namespace DL
open PySem PySem.Spec PyProof.Rows L2
open C8 (Cal pe_c Mak pe_mk)
local macro_rules | `(tactic| walk_at "si") => `(tactic| first
  | with_reducible assumption | omega | (simp only [rgI_len, List.length_map]; omega) | (simp only [decide_eq_true_eq, Bool.and_eq_true, Bool.not_eq_true', decide_eq_false_iff_not] at *; omega))
local macro_rules | `(tactic| walk_at "sz") => `(tactic| first
  | with_reducible assumption | omega | (simp only [rgI_len, List.length_map, List.length_append, List.length_cons, List.length_nil]; omega))
local macro_rules | `(tactic| walk_at "row") => `(tactic| first | with_reducible assumption | ((with_reducible refine Tbl.get (by with_reducible assumption) ?_); walk_at "wd") | exact row_mem (by with_reducible assumption) (by with_reducible assumption))
local macro_rules | `(tactic| walk_at "wd") => `(tactic| first | with_reducible assumption | omega | (constructor <;> omega) | ((with_reducible refine wd_get (by walk_at "row") ?_); walk_at "wd") | exact wd_mem (by with_reducible assumption) (by with_reducible assumption))
local macro_rules | `(tactic| walk_at "rk") => `(tactic| first
  | ((with_reducible apply ro_xL (by decide)); exact rfl) | ((with_reducible apply ro_xT (by decide)); exact rfl) | walk_at "ro")
local macro_rules | `(tactic| walk_at "ro") => `(tactic| first
  | with_reducible exact ro_b0 | with_reducible exact ro_l ro_eqI | with_reducible exact ro_l ro_neI | with_reducible exact ro_l ro_eqB | with_reducible exact ro_l ro_neB | with_reducible exact ro_l ro_eqS | with_reducible exact ro_l ro_neS
  | ((with_reducible refine ro_gLR (by with_reducible assumption) ?_); walk_at "wd") | ((with_reducible refine ro_gIR (by walk_at "row") ?_); walk_at "wd")
  | ((with_reducible refine ro_gI ?_ ?_) <;> walk_at "si") | ((with_reducible refine ro_gL ?_ ?_) <;> walk_at "si") | ((with_reducible refine ro_gIT ?_ ?_) <;> walk_at "si")
  | with_reducible exact ro_gG (by with_reducible assumption) | ((with_reducible refine ro_gT ?_ ?_) <;> walk_at "si")
  | ((with_reducible refine ro_gB ?_ ?_) <;> walk_at "si")
  | ((with_reducible refine ro_gS ?_ ?_) <;> walk_at "si") | ((with_reducible refine ro_gST ?_ ?_) <;> walk_at "si")
  | ((with_reducible refine ro_xM ?_ ?_) <;> walk_at "si") | ((with_reducible refine ro_xTM ?_ ?_) <;> walk_at "si")
  | ((with_reducible apply ro_xL (by decide)); exact rfl) | ((with_reducible apply ro_xT (by decide)); exact rfl)
  | with_reducible exact ro_eqIs | with_reducible exact ro_l ro_inL | with_reducible exact ro_l ro_niL | with_reducible exact ro_l ro_inT | with_reducible exact ro_l ro_inS | with_reducible exact ro_isNN | with_reducible exact ro_notNN | with_reducible exact ro_isNI | with_reducible exact ro_notNI)
local macro_rules | `(tactic| walk_at "rc") => `(tactic| with_reducible first
  | exact rc_lenM | exact rc_lenTM | exact rc_lenL' | exact rc_lenT' | exact rc_ii _ | exact rc_ib _ | exact rc_ss _ | exact rc_tt _ | exact rc_ltl _ | exact rc_ltt _ | exact rc_int | exact rc_abs | exact rc_max2 | exact rc_min2 | exact rc_all | exact rc_sum | exact rc_tupL' | exact rc_tupT' | exact rc_range1)
local macro_rules | `(tactic| walk_at "rcn") => `(tactic| with_reducible first
  | exact rcn_listL' | exact rcn_listT' | exact rcn_sortP)
local macro_rules | `(tactic| walk_at "pre") => `(tactic| first | with_reducible assumption | exact trivial | (refine And.intro ?_ ?_ <;> walk_at "pre") | walk_at "wd" | walk_at "si")
local macro_rules | `(tactic| walk_at "cmod") => `(tactic| (show (0 : Int) < _; first | decide | walk_at "si"))
local macro_rules | `(tactic| walk_at "cd") => `(tactic| (refine And.intro ?_ ?_ <;> walk_at "si"))
local macro_rules | `(tactic| walk_at "cp") => `(tactic| exact ⟨by decide, by decide, by decide⟩)
local macro_rules | `(tactic| walk_at "cm") => `(tactic| first | (refine Or.inl (And.intro ?_ ?_) <;> omega) | (refine Or.inr (And.intro ?_ ?_) <;> omega))
local macro_rules | `(tactic| walk_at "wk") => `(tactic| (repeat (first | exact Wk.nil | exact Wk.refl _ | refine Wk.same ?_ | refine Wk.frz ?_ | refine Wk.drop ?_)))
section
variable {P : PySem.Program} {w : World} {K : PySem.W.Frag} {mg : Str → Option Value} {base : Heap} {CL CB : Addr} (T : Txt K mg CL CB)
include T
def v_with (b : LB) (rows : List (List Int)) : LB := { b with de := cutD rows none (some (b.le.length : Int)), so := cutD rows (some (b.le.length : Int)) (some ((b.le.length : Int) + (b.te.length : Int))), no := cutD rows (some ((b.le.length : Int) + (b.te.length : Int))) none }
abbrev S_law_with_rows : Stmt := top 111
abbrev N_law_with_rows : List Str := ["_law_book", "_law_rows", "_law_more", "_law_some"]
omit T in
theorem sc__law_with_rows : FnScope N_law_with_rows ["_law_book", "_law_rows"] (defScope S_law_with_rows) := ⟨rfl, rfl, rfl, by decide +kernel, rfl, by decide +kernel, by decide +kernel⟩
def sp__law_with_rows : Sp := spD (α := LB × List (List Int)) (fun ⟨b, rows⟩ => [eLB b, eTb rows]) (fun ⟨b, rows⟩ => True) (fun ⟨b, rows⟩ => eLB (v_with b rows))
omit T in
theorem d__law_with_rows {ρ : List Sl} {t : TA} {E : XK} {b : LB} {rows : List (List Int)} (h : DA t ρ [eLB b, eTb rows]) (hp : True) : DE (tCall sp__law_with_rows [] E t) ρ (eLB (v_with b rows)) := de_call (α := LB × List (List Int)) (enc := fun ⟨b, rows⟩ => [eLB b, eTb rows]) (pre := fun ⟨b, rows⟩ => True) (val := fun ⟨b, rows⟩ => eLB (v_with b rows)) ⟨b, rows⟩ h rfl hp
theorem c__law_with_rows : Cal P w K mg base 1 "_law_with_rows" sp__law_with_rows [] :=
  cal_def (α := LB × List (List Int)) (enc := fun ⟨b, rows⟩ => [eLB b, eTb rows]) (pre := fun ⟨b, rows⟩ => True) (val := fun ⟨b, rows⟩ => eLB (v_with b rows)) T.f__law_with_rows sc__law_with_rows (fun ⟨b, rows⟩ => rfl) (fun _ _ _ _ _ _ us hl => match us, hl with | [_, _], _ => rfl) fun f cdv A outer s H E hr ⟨b, rows⟩ hp => by
    (try dsimp only at hp)
    have nd := sc__law_with_rows.nd
    refine ⟨_, (pss_cons (ps_set (i := 2) nd rfl (.inl rfl) (pe_callB (lenk K) rfl T.m_len (by decide +kernel) (pa_cons (pe_ix (ixk K) (pv 0) pe_int (fun _ _ => rfl)) pa_nil)))
    (pss_cons (ps_set (i := 3) nd rfl (.inl rfl) (pe_callB (lenk K) rfl T.m_len (by decide +kernel) (pa_cons (pe_ix (ixk K) (pv 0) pe_int (fun _ _ => rfl)) pa_nil)))
    (pss_one (ps_ret (pe_lst (pa_cons (pe_ix (ixk K) (pv 0) pe_int (fun _ _ => rfl)) (pa_cons (pe_ix (ixk K) (pv 0) pe_int (fun _ _ => rfl)) (pa_cons (pe_ix (ixk K) (pv 0) pe_int (fun _ _ => rfl)) (pa_cons (pe_ix (ixk K) (pv 0) pe_int (fun _ _ => rfl)) (pa_cons (pe_slice (slk K) (pv 1) po_none (po_some (pv 2))) (pa_cons (pe_slice (slk K) (pv 1) (po_some (pv 2)) (po_some (pe_op op_addA (pv 2) (pv 3)))) (pa_cons (pe_slice (slk K) (pv 1) (po_some (pe_op op_addA (pv 2) (pv 3))) po_none) (pa_cons (pe_ix (ixk K) (pv 0) pe_int (fun _ _ => rfl)) pa_nil))))))))))))), ?_⟩
    show DS _ [.val (eLB b), .val (eTb rows), .any, .any] _
    refine ds_setS (de_cb (db_cons (dq_of (de_op (dq_of (de_var rfl)) (dq_of de_int) (by walk_at "rk"))) db_nil) (by walk_at "rc")) ?_
    refine ds_setS (de_cb (db_cons (dq_of (de_op (dq_of (de_var rfl)) (dq_of de_int) (by walk_at "rk"))) db_nil) (by walk_at "rc")) ?_
    exact ds_ret (dn_de (dn_lst (da_cons (de_op (dq_of (de_var rfl)) (dq_of de_int) (by walk_at "rk")) (da_cons (de_op (dq_of (de_var rfl)) (dq_of de_int) (by walk_at "rk")) (da_cons (de_op (dq_of (de_var rfl)) (dq_of de_int) (by walk_at "rk")) (da_cons (de_op (dq_of (de_var rfl)) (dq_of de_int) (by walk_at "rk")) (da_cons (dn_de (dn_slM (dq_of (de_var rfl)) do_none (do_some (de_var rfl)))) (da_cons (dn_de (dn_slM (dq_of (de_var rfl)) (do_some (de_var rfl)) (do_some (de_op (dq_of (de_var rfl)) (dq_of (de_var rfl)) (ro_l ro_i0))))) (da_cons (dn_de (dn_slM (dq_of (de_var rfl)) (do_some (de_op (dq_of (de_var rfl)) (dq_of (de_var rfl)) (ro_l ro_i0))) do_none)) (da_cons (de_op (dq_of (de_var rfl)) (dq_of de_int) (by walk_at "rk")) da_nil)))))))) (Nat.le_of_ble_eq_true rfl))) rfl
def v_all (b : LB) : List (List Int) := b.de ++ b.so ++ b.no
omit T in
theorem all_tbl {b : LB} (h : WF b) : Tbl (v_all b).length b.js.length b.js.length (v_all b) ∧ 1 ≤ (v_all b).length ∧ (v_all b).length ≤ 12 ∧ (v_all b).length = b.le.length + b.te.length + b.te.length := by
  have h1 := h.de.len
  have h2 := h.so.len
  have h3 := h.no.len
  have h4 := h.le1
  have h5 := h.le4
  have h6 := h.te4
  have hl : (v_all b).length = b.le.length + b.te.length + b.te.length := by unfold v_all; rw [List.length_append, List.length_append, h1, h2, h3]
  refine ⟨⟨rfl, fun r hr => ?_⟩, by omega, by omega, hl⟩
  unfold v_all at hr
  rcases List.mem_append.mp hr with hr | hr
  · rcases List.mem_append.mp hr with hr | hr
    · exact h.de.rows r hr
    · exact h.so.rows r hr
  · exact h.no.rows r hr
def v_lrow (js : List (List Int)) (row : List Int) (x hi : Int) : List Int := (rgI 0 js.length).map fun u => cond (decide (gI (gL js x) u = u)) (gI (gL js (gI row u)) hi) (gI row u)
def v_lifted (b : LB) (ds : List Int) : LB :=
  v_with b ((v_all b).set (gI ds 20 % ((v_all b).length : Int)).toNat (v_lrow b.js (gL (v_all b) (gI ds 20 % ((v_all b).length : Int))) (1 + gI ds (20 + 1) % ((b.js.length : Int) - 1)) (gI ds (20 + 2) % (b.js.length : Int))))
abbrev S_law_lifted : Stmt := top 112
abbrev N_law_lifted : List Str := ["_law_book", "_law_ds", "_law_at", "_law_joins", "_law_many", "_law_rows", "_law_pick", "_law_word", "_law_high", "_law_row", "_law_up"]
omit T in
theorem sc__law_lifted : FnScope N_law_lifted ["_law_book", "_law_ds", "_law_at"] (defScope S_law_lifted) := ⟨rfl, rfl, rfl, by decide +kernel, rfl, by decide +kernel, by decide +kernel⟩
def sp__law_lifted : Sp := spD (α := LB × List Int) (fun ⟨b, ds⟩ => [eLB b, eIs ds, .int 20]) (fun ⟨b, ds⟩ => WF b ∧ ds.length = 60) (fun ⟨b, ds⟩ => eLB (v_lifted b ds))
omit T in
theorem d__law_lifted {ρ : List Sl} {t : TA} {E : XK} {b : LB} {ds : List Int} (h : DA t ρ [eLB b, eIs ds, .int 20]) (hp : WF b ∧ ds.length = 60) : DE (tCall sp__law_lifted [] E t) ρ (eLB (v_lifted b ds)) := de_call (α := LB × List Int) (enc := fun ⟨b, ds⟩ => [eLB b, eIs ds, .int 20]) (pre := fun ⟨b, ds⟩ => WF b ∧ ds.length = 60) (val := fun ⟨b, ds⟩ => eLB (v_lifted b ds)) ⟨b, ds⟩ h rfl hp
theorem c__law_lifted : Cal P w K mg base 2 "_law_lifted" sp__law_lifted [] :=
  cal_def (α := LB × List Int) (enc := fun ⟨b, ds⟩ => [eLB b, eIs ds, .int 20]) (pre := fun ⟨b, ds⟩ => WF b ∧ ds.length = 60) (val := fun ⟨b, ds⟩ => eLB (v_lifted b ds)) T.f__law_lifted sc__law_lifted (fun ⟨b, ds⟩ => rfl) (fun _ _ _ _ _ _ us hl => match us, hl with | [_, _, _], _ => rfl) fun f cdv A outer s H E hr ⟨b, ds⟩ hp => by
    (try dsimp only at hp)
    have nd := sc__law_lifted.nd
    refine ⟨_, (pss_cons (ps_set (i := 3) nd rfl (.inr rfl) (pe_ix (ixk K) (pv 0) pe_int (fun _ _ => rfl)))
    (pss_cons (ps_set (i := 4) nd rfl (.inl rfl) (pe_callB (lenk K) rfl T.m_len (by decide +kernel) (pa_cons (pv 3) pa_nil)))
    (pss_cons (ps_set (i := 5) nd rfl (.inr rfl) (pe_lc (own := [("_law_row", 9)]) rfl nd (pilk K (pe_op op_addA (pe_op op_addA (pe_ix (ixk K) (pv 0) pe_int (fun _ _ => rfl)) (pe_ix (ixk K) (pv 0) pe_int (fun _ _ => rfl))) (pe_ix (ixk K) (pv 0) pe_int (fun _ _ => rfl)))) (blkOk_by (sc := defScope S_law_lifted) (N := N_law_lifted) (own := [("_law_row", 9)]) (by decide +kernel)) (fun _ _ _ _ _ => (pg_name (i := 9) nd rfl (by first | exact .inl rfl | exact .inr rfl))) (fun _ _ _ _ _ => pts_nil) (fun _ _ _ _ _ => (pe_callTy (lstk K) rfl T.m_list (by decide +kernel) (pa_cons (pv 9) pa_nil)))))
    (pss_cons (ps_set (i := 6) nd rfl (.inr rfl) (pe_op op_mod (pe_callTy call_int1 rfl T.m_int (by decide +kernel) (pa_cons (pe_ix (ixk K) (pv 1) (pv 2) (fun _ _ => rfl)) pa_nil)) (pe_callB (lenk K) rfl T.m_len (by decide +kernel) (pa_cons (pv 5) pa_nil))))
    (pss_cons (ps_set (i := 7) nd rfl (.inr rfl) (pe_op op_addA pe_int (pe_op op_mod (pe_callTy call_int1 rfl T.m_int (by decide +kernel) (pa_cons (pe_ix (ixk K) (pv 1) (pe_op op_addA (pv 2) pe_int) (fun _ _ => rfl)) pa_nil)) (pe_op op_sub (pv 4) pe_int))))
    (pss_cons (ps_set (i := 8) nd rfl (.inr rfl) (pe_op op_mod (pe_callTy call_int1 rfl T.m_int (by decide +kernel) (pa_cons (pe_ix (ixk K) (pv 1) (pe_op op_addA (pv 2) pe_int) (fun _ _ => rfl)) pa_nil)) (pv 4)))
    (pss_cons (ps_asg (pe_lc (own := [("_law_up", 10)]) rfl nd (pi_range1 rfl T.m_range (pa_cons (pv 4) pa_nil)) (blkOk_by (sc := defScope S_law_lifted) (N := N_law_lifted) (own := [("_law_up", 10)]) (by decide +kernel)) (fun _ _ _ _ _ => (pg_name (i := 10) nd rfl (by first | exact .inl rfl | exact .inr rfl))) (fun _ _ _ _ _ => pts_nil) (fun _ _ _ _ _ => (pe_ifExp (pt_cmpR (eqk K hr) (pe_ix (ixk K) (pe_ix (ixk K) (pv 3) (pv 7) (fun _ _ => rfl)) (pv 10) (fun _ _ => rfl)) (pv 10) (nomark _)) (pe_ix (ixk K) (pe_ix (ixk K) (pv 3) (pe_ix (ixk K) (pe_ix (ixk K) (pv 5) (pv 6) (fun _ _ => rfl)) (pv 10) (fun _ _ => rfl)) (fun _ _ => rfl)) (pv 8) (fun _ _ => rfl)) (pe_ix (ixk K) (pe_ix (ixk K) (pv 5) (pv 6) (fun _ _ => rfl)) (pv 10) (fun _ _ => rfl))))) (pg_sub (pv 5) (pv 6) set_list))
    (pss_one (ps_ret (pe_c (c__law_with_rows T) hr (by decide) rfl (pa_cons (pv 0) (pa_cons (pv 5) pa_nil)))))))))))), ?_⟩
    obtain ⟨hb, hd⟩ := hp
    obtain ⟨hA, hA1, hA2, hA3⟩ := all_tbl hb
    obtain ⟨n2, n9, js, ms, le1, le4, te4, de, so, no, fi, okl, okt⟩ := id hb
    have dl := de.len
    have sl := so.len
    have nl := no.len
    show DS _ [.val (eLB b), .val (eIs ds), .val (.int 20), .any, .any, .any, .any, .any, .any, .any, .any] _
    refine ds_setS (de_op (dq_of (de_var rfl)) (dq_of de_int) (by walk_at "rk")) ?_
    refine ds_setS (de_cb (db_cons (dq_of (de_var rfl)) db_nil) (by walk_at "rc")) ?_
    refine ds_setNS (ds := (v_all b).map eIs) (dn_is (dn_lc2 eIs (dw_list (dn_de (dn_op (dn_dq (dn_op (dq_of (de_op (dq_of (de_var rfl)) (dq_of de_int) (by walk_at "rk"))) (dq_of (de_op (dq_of (de_var rfl)) (dq_of de_int) (by walk_at "rk"))) (rn_r (rn_catM (by walk_at "sz"))))) (dq_of (de_op (dq_of (de_var rfl)) (dq_of de_int) (by walk_at "rk"))) (rn_r (rn_catM (by walk_at "sz")))))) (by walk_at "sz") (by decide) (fun x_row hx_x_row => by (try rw [mem_rgI] at hx_x_row); exact (dn_de (dn_cb (db_cons (dq_of (de_var rfl)) db_nil) (rcn_listL')      )))) (show _ = (v_all b).map eIs by rw [List.map_id']; rfl)) ?_
    have hpk := mod_wd (n := (v_all b).length) (by omega) (gI ds 20)
    have hhi := mod_wd (n := b.js.length) (by omega) (gI ds (20 + 2))
    have hx : wd b.js.length (1 + gI ds (20 + 1) % ((b.js.length : Int) - 1)) := by
      have h1 := Int.emod_nonneg (gI ds (20 + 1)) (b := (b.js.length : Int) - 1) (by omega)
      have h2 := Int.emod_lt_of_pos (gI ds (20 + 1)) (b := (b.js.length : Int) - 1) (by omega)
      omega
    refine ds_setS (de_op (dq_of (de_cb (db_cons (dq_of (de_op (dq_of (de_var rfl)) (dq_of (de_var rfl)) (by walk_at "ro"))) db_nil) (by walk_at "rc"))) (dq_of (de_cb (db_cons (by first | exact dq_of (de_var rfl) | exact dq_own rfl) db_nil) (by walk_at "rc"))) (ro_i (by walk_at "cmod"))) ?_
    refine ds_setS (de_op (dq_of de_int) (dq_of (de_op (dq_of (de_cb (db_cons (dq_of (de_op (dq_of (de_var rfl)) (dq_of (de_op (dq_of (de_var rfl)) (dq_of de_int) (ro_l ro_i0))) (by walk_at "ro"))) db_nil) (by walk_at "rc"))) (dq_of (de_op (dq_of (de_var rfl)) (dq_of de_int) ro_i0)) (ro_i (by walk_at "cmod")))) (ro_l ro_i0)) ?_
    refine ds_setS (de_op (dq_of (de_cb (db_cons (dq_of (de_op (dq_of (de_var rfl)) (dq_of (de_op (dq_of (de_var rfl)) (dq_of de_int) (ro_l ro_i0))) (by walk_at "ro"))) db_nil) (by walk_at "rc"))) (dq_of (de_var rfl)) (ro_i (by walk_at "cmod"))) ?_
    show DS _ [.val (eLB b), .val (eIs ds), .val (.int 20), .val (eTb b.js), .val (.int (b.js.length : Int)), .mu none (.lst ((v_all b).map eIs)), .val (.int (gI ds 20 % ((v_all b).length : Int))), .val (.int (1 + gI ds (20 + 1) % ((b.js.length : Int) - 1))), .val (.int (gI ds (20 + 2) % (b.js.length : Int))), .any, .any] _
    have hrow := hA.get hpk
    refine ds_setixMS (enc := eIs) (x := v_lrow b.js (gL (v_all b) (gI ds 20 % ((v_all b).length : Int))) (1 + gI ds (20 + 1) % ((b.js.length : Int) - 1)) (gI ds (20 + 2) % (b.js.length : Int))) rfl (dn_de (dn_lc2 DV.int (dw_rangeN (da_cons (de_var rfl) da_nil) (by walk_at "si")) (by walk_at "sz") (by decide) (fun x_up hx_x_up => by (try rw [mem_rgI] at hx_x_up); exact (de_ifI (dt_test (de_op (dq_of (de_op (dq_of (de_op (dq_of (de_var rfl)) (dq_of (de_var rfl)) (by walk_at "ro"))) (dq_of (de_var rfl)) (by walk_at "ro"))) (dq_of (de_var rfl)) (by walk_at "ro"))) (fun hi => (de_op (dq_of (de_op (dq_of (de_var rfl)) (dq_of (de_op (dq_of (de_op (by first | exact dq_of (de_var rfl) | exact dq_own rfl) (dq_of (de_var rfl)) (by walk_at "ro"))) (dq_of (de_var rfl)) (by walk_at "ro"))) (by walk_at "ro"))) (dq_of (de_var rfl)) (by walk_at "ro"))) (fun hi => (de_op (dq_of (de_op (by first | exact dq_of (de_var rfl) | exact dq_own rfl) (dq_of (de_var rfl)) (by walk_at "ro"))) (dq_of (de_var rfl)) (by walk_at "ro"))))))) (de_var rfl) hpk.1 (by obtain ⟨h1, h2⟩ := hpk; omega) ?_
    refine ds_wk (ρ' := [.val (eLB b), .any, .any, .any, .any, .val (eTb ((v_all b).set (gI ds 20 % ((v_all b).length : Int)).toNat (v_lrow b.js (gL (v_all b) (gI ds 20 % ((v_all b).length : Int))) (1 + gI ds (20 + 1) % ((b.js.length : Int) - 1)) (gI ds (20 + 2) % (b.js.length : Int))))), .any, .any, .any, .any, .any]) (by walk_at "wk") ?_
    exact ds_ret (d__law_with_rows (da_cons (de_var rfl) (da_cons (de_var rfl) da_nil)) (by walk_at "pre")) rfl
def v_lwish (ds : List Int) (n : Nat) : List Int := (rgI 0 n).map fun x => gI ds (20 + 1 + x) % (n : Int)
def v_ledanew (b : LB) (ds : List Int) : LB := v_with b ((v_all b).set (gI ds 20 % ((v_all b).length : Int)).toNat (v_ledup b.js (v_lwish ds b.js.length)))
abbrev S_law_led_anew : Stmt := top 113
abbrev N_law_led_anew : List Str := ["_law_book", "_law_ds", "_law_at", "_law_many", "_law_rows", "_law_pick", "_law_row", "_law_word"]
omit T in
theorem sc__law_led_anew : FnScope N_law_led_anew ["_law_book", "_law_ds", "_law_at"] (defScope S_law_led_anew) := ⟨rfl, rfl, rfl, by decide +kernel, rfl, by decide +kernel, by decide +kernel⟩
def sp__law_led_anew : Sp := spD (α := LB × List Int) (fun ⟨b, ds⟩ => [eLB b, eIs ds, .int 20]) (fun ⟨b, ds⟩ => WF b ∧ ds.length = 60) (fun ⟨b, ds⟩ => eLB (v_ledanew b ds))
omit T in
theorem d__law_led_anew {ρ : List Sl} {t : TA} {E : XK} {b : LB} {ds : List Int} (h : DA t ρ [eLB b, eIs ds, .int 20]) (hp : WF b ∧ ds.length = 60) : DE (tCall sp__law_led_anew [] E t) ρ (eLB (v_ledanew b ds)) := de_call (α := LB × List Int) (enc := fun ⟨b, ds⟩ => [eLB b, eIs ds, .int 20]) (pre := fun ⟨b, ds⟩ => WF b ∧ ds.length = 60) (val := fun ⟨b, ds⟩ => eLB (v_ledanew b ds)) ⟨b, ds⟩ h rfl hp
theorem c__law_led_anew : Cal P w K mg base 3 "_law_led_anew" sp__law_led_anew [] :=
  cal_def (α := LB × List Int) (enc := fun ⟨b, ds⟩ => [eLB b, eIs ds, .int 20]) (pre := fun ⟨b, ds⟩ => WF b ∧ ds.length = 60) (val := fun ⟨b, ds⟩ => eLB (v_ledanew b ds)) T.f__law_led_anew sc__law_led_anew (fun ⟨b, ds⟩ => rfl) (fun _ _ _ _ _ _ us hl => match us, hl with | [_, _, _], _ => rfl) fun f cdv A outer s H E hr ⟨b, ds⟩ hp => by
    (try dsimp only at hp)
    have nd := sc__law_led_anew.nd
    refine ⟨_, (pss_cons (ps_set (i := 3) nd rfl (.inr rfl) (pe_callB (lenk K) rfl T.m_len (by decide +kernel) (pa_cons (pe_ix (ixk K) (pv 0) pe_int (fun _ _ => rfl)) pa_nil)))
    (pss_cons (ps_setLc (i := 4) (own := [("_law_row", 6)]) rfl nd rfl rfl (sw_true rfl rfl rfl (by decide +kernel)) (pilk K (pe_op op_addA (pe_op op_addA (pe_ix (ixk K) (pv 0) pe_int (fun _ _ => rfl)) (pe_ix (ixk K) (pv 0) pe_int (fun _ _ => rfl))) (pe_ix (ixk K) (pv 0) pe_int (fun _ _ => rfl)))) (blkOk_by (sc := defScope S_law_led_anew) (N := N_law_led_anew) (own := [("_law_row", 6)]) (by decide +kernel)) (fun _ _ _ _ _ => (pg_name (i := 6) nd rfl (by first | exact .inl rfl | exact .inr rfl))) (fun _ _ _ _ _ => pts_nil) (fun _ _ _ _ _ => (pe_callTy (lstk K) rfl T.m_list (by decide +kernel) (pa_cons (pv 6) pa_nil))))
    (pss_cons (ps_set (i := 5) nd rfl (.inl rfl) (pe_op op_mod (pe_callTy call_int1 rfl T.m_int (by decide +kernel) (pa_cons (pe_ix (ixk K) (pv 1) (pv 2) (fun _ _ => rfl)) pa_nil)) (pe_callB (lenk K) rfl T.m_len (by decide +kernel) (pa_cons (pv 4) pa_nil))))
    (pss_cons (ps_asg (pe_c (c__law_led_up T) hr (by decide) rfl (pa_cons (pe_ix (ixk K) (pv 0) pe_int (fun _ _ => rfl)) (pa_cons (pe_lc (own := [("_law_word", 7)]) rfl nd (pi_range1 rfl T.m_range (pa_cons (pv 3) pa_nil)) (blkOk_by (sc := defScope S_law_led_anew) (N := N_law_led_anew) (own := [("_law_word", 7)]) (by decide +kernel)) (fun _ _ _ _ _ => (pg_name (i := 7) nd rfl (by first | exact .inl rfl | exact .inr rfl))) (fun _ _ _ _ _ => pts_nil) (fun _ _ _ _ _ => (pe_op op_mod (pe_callTy call_int1 rfl T.m_int (by decide +kernel) (pa_cons (pe_ix (ixk K) (pv 1) (pe_op op_addA (pe_op op_addA (pv 2) pe_int) (pv 7)) (fun _ _ => rfl)) pa_nil)) (pv 3)))) pa_nil))) (pg_sub (pv 4) (pv 5) set_list))
    (pss_one (ps_ret (pe_c (c__law_with_rows T) hr (by decide) rfl (pa_cons (pv 0) (pa_cons (pv 4) pa_nil))))))))), ?_⟩
    obtain ⟨hb, hd⟩ := hp
    obtain ⟨hA, hA1, hA2, hA3⟩ := all_tbl hb
    obtain ⟨n2, n9, js, ms, le1, le4, te4, de, so, no, fi, okl, okt⟩ := id hb
    have dl := de.len
    have sl := so.len
    have nl := no.len
    show DS _ [.val (eLB b), .val (eIs ds), .val (.int 20), .any, .any, .any, .any, .any] _
    refine ds_setS (de_cb (db_cons (dq_of (de_op (dq_of (de_var rfl)) (dq_of de_int) (by walk_at "rk"))) db_nil) (by walk_at "rc")) ?_
    refine ds_setNS (ds := (v_all b).map eIs) (dn_is (dn_lc2 eIs (dw_list (dn_de (dn_op (dn_dq (dn_op (dq_of (de_op (dq_of (de_var rfl)) (dq_of de_int) (by walk_at "rk"))) (dq_of (de_op (dq_of (de_var rfl)) (dq_of de_int) (by walk_at "rk"))) (rn_r (rn_catM (by walk_at "sz"))))) (dq_of (de_op (dq_of (de_var rfl)) (dq_of de_int) (by walk_at "rk"))) (rn_r (rn_catM (by walk_at "sz")))))) (by walk_at "sz") (by decide) (fun x_row hx_x_row => by (try rw [mem_rgI] at hx_x_row); exact (dn_de (dn_cb (db_cons (dq_of (de_var rfl)) db_nil) (rcn_listL')      )))) (show _ = (v_all b).map eIs by rw [List.map_id']; rfl)) ?_
    have hpk := mod_wd (n := (v_all b).length) (by omega) (gI ds 20)
    refine ds_setS (de_op (dq_of (de_cb (db_cons (dq_of (de_op (dq_of (de_var rfl)) (dq_of (de_var rfl)) (by walk_at "ro"))) db_nil) (by walk_at "rc"))) (dq_of (de_cb (db_cons (by first | exact dq_of (de_var rfl) | exact dq_own rfl) db_nil) (by walk_at "rc"))) (ro_i (by walk_at "cmod"))) ?_
    have hW : Row b.js.length b.js.length (v_lwish ds b.js.length) := ⟨by unfold v_lwish; rw [List.length_map, rgI_len], fun y hy => by
      obtain ⟨x, hx, rfl⟩ := List.mem_map.mp hy
      exact mod_wd (by omega) _⟩
    refine ds_setixMS (enc := eIs) (x := v_ledup b.js (v_lwish ds b.js.length)) rfl (d__law_led_up (da_cons (de_op (dq_of (de_var rfl)) (dq_of de_int) (by walk_at "rk")) (da_cons (dn_de (dn_lc2 DV.int (dw_rangeN (da_cons (de_var rfl) da_nil) (by walk_at "si")) (by walk_at "sz") (by decide) (fun x_word hx_x_word => by (try rw [mem_rgI] at hx_x_word); exact (de_op (dq_of (de_cb (db_cons (dq_of (de_op (dq_of (de_var rfl)) (dq_of (de_op (dq_of (de_op (dq_of (de_var rfl)) (dq_of de_int) (ro_l ro_i0))) (dq_of (de_var rfl)) (ro_l ro_i0))) (by walk_at "ro"))) db_nil) (by walk_at "rc"))) (dq_of (de_var rfl)) (ro_i (by walk_at "cmod")))))) da_nil)) (⟨js, by omega, by omega, hW⟩)) (de_var rfl) hpk.1 (by obtain ⟨h1, h2⟩ := hpk; omega) ?_
    refine ds_wk (ρ' := [.val (eLB b), .any, .any, .any, .val (eTb ((v_all b).set (gI ds 20 % ((v_all b).length : Int)).toNat (v_ledup b.js (v_lwish ds b.js.length)))), .any, .any, .any]) (by walk_at "wk") ?_
    exact ds_ret (d__law_with_rows (da_cons (de_var rfl) (da_cons (de_var rfl) da_nil)) (by walk_at "pre")) rfl
def v_low (told : List Int) (row : List Int) : List Int := (rgI 0 row.length).map fun x => cond (decide (x ∈ told)) (gI row x) 0
def v_untold (b : LB) : LB := v_with b ((v_all b).map fun row => v_ledup b.js (v_low (v_words b) row))
omit T in
theorem low_row {n : Nat} {row told : List Int} (h : Row n n row) (hn : 0 < n) : Row n n (v_low told row) := ⟨by unfold v_low; rw [List.length_map, rgI_len, h.len], fun y hy => by
  obtain ⟨x, hx, rfl⟩ := List.mem_map.mp hy
  have hx := mem_rgI.mp hx
  rw [h.len] at hx
  cases decide (x ∈ told)
  · exact ⟨Int.le_refl 0, by show (0 : Int) < n; omega⟩
  · exact h.get (by omega)⟩
abbrev S_law_untold_lowered : Stmt := top 114
abbrev N_law_untold_lowered : List Str := ["_law_book", "_law_told_here", "_law_rows", "_law_row", "_law_word"]
omit T in
theorem sc__law_untold_lowered : FnScope N_law_untold_lowered ["_law_book"] (defScope S_law_untold_lowered) := ⟨rfl, rfl, rfl, by decide +kernel, rfl, by decide +kernel, by decide +kernel⟩
def sp__law_untold_lowered : Sp := spD (α := LB) (fun b => [eLB b]) (fun b => WF b) (fun b => eLB (v_untold b))
omit T in
theorem d__law_untold_lowered {ρ : List Sl} {t : TA} {E : XK} {b : LB} (h : DA t ρ [eLB b]) (hp : WF b) : DE (tCall sp__law_untold_lowered [] E t) ρ (eLB (v_untold b)) := de_call (α := LB) (enc := fun b => [eLB b]) (pre := fun b => WF b) (val := fun b => eLB (v_untold b)) b h rfl hp
theorem c__law_untold_lowered : Cal P w K mg base 3 "_law_untold_lowered" sp__law_untold_lowered [] :=
  cal_def (α := LB) (enc := fun b => [eLB b]) (pre := fun b => WF b) (val := fun b => eLB (v_untold b)) T.f__law_untold_lowered sc__law_untold_lowered (fun b => rfl) (fun _ _ _ _ _ _ us hl => match us, hl with | [_], _ => rfl) fun f cdv A outer s H E hr b hp => by
    (try dsimp only at hp)
    have nd := sc__law_untold_lowered.nd
    refine ⟨_, (pss_cons (ps_set (i := 1) nd rfl (.inr rfl) (pe_c (c__law_words T) hr (by decide) rfl (pa_cons (pv 0) pa_nil)))
    (pss_cons (ps_set (i := 2) nd rfl (.inl rfl) (pe_lst pa_nil))
    (pss_cons (ps_for PassesOwn.never rfl (pilk K (pe_op op_addA (pe_op op_addA (pe_ix (ixk K) (pv 0) pe_int (fun _ _ => rfl)) (pe_ix (ixk K) (pv 0) pe_int (fun _ _ => rfl))) (pe_ix (ixk K) (pv 0) pe_int (fun _ _ => rfl)))) (pg_name (i := 3) nd rfl (.inr rfl))
    (pss_one (ps_expr (bmk K PySem.F.plainAttrs_list PySem.F.slot_list_append PySem.F.type_list_append mt_append (pv 2) (pa_cons (pe_c (c__law_led_up T) hr (by decide) rfl (pa_cons (pe_ix (ixk K) (pv 0) pe_int (fun _ _ => rfl)) (pa_cons (pe_lc (own := [("_law_word", 4)]) rfl nd (pi_range1 rfl T.m_range (pa_cons (pe_callB (lenk K) rfl T.m_len (by decide +kernel) (pa_cons (pv 3) pa_nil)) pa_nil)) (blkOk_by (sc := defScope S_law_untold_lowered) (N := N_law_untold_lowered) (own := [("_law_word", 4)]) (by decide +kernel)) (fun _ _ _ _ _ => (pg_name (i := 4) nd rfl (by first | exact .inl rfl | exact .inr rfl))) (fun _ _ _ _ _ => pts_nil) (fun _ _ _ _ _ => (pe_ifExp (pt_cmpR (ink K hr) (pv 4) (pv 1) (by rfl)) (pe_ix (ixk K) (pv 3) (pv 4) (fun _ _ => rfl)) pe_int))) pa_nil))) pa_nil)))))
    (pss_one (ps_ret (pe_c (c__law_with_rows T) hr (by decide) rfl (pa_cons (pv 0) (pa_cons (pv 2) pa_nil)))))))), ?_⟩
    have hb := hp
    obtain ⟨hA, hA1, hA2, hA3⟩ := all_tbl hb
    obtain ⟨n2, n9, js, ms, le1, le4, te4, de, so, no, fi, okl, okt⟩ := id hb
    have dl := de.len
    have sl := so.len
    have nl := no.len
    show DS _ [.val (eLB b), .any, .any, .any, .any] _
    refine ds_setS (d__law_words (da_cons (de_var rfl) da_nil) (by walk_at "pre")) ?_
    refine ds_setNS (ds := List.map eIs []) (dn_lst da_nil (Nat.le_of_ble_eq_true rfl)) ?_
    refine ds_seq (ds_fold (xs := v_all b) (enc := eIs) (fun acc => [.val (eLB b), .val (eIs (v_words b)), .mu none (.lst (acc.map eIs)), .any, .any]) (fun acc row => acc ++ [v_ledup b.js (v_low (v_words b) row)]) [] (fun n acc => acc.length = n) (dw_list (dn_de (dn_op (dn_dq (dn_op (dq_of (de_op (dq_of (de_var rfl)) (dq_of de_int) (by walk_at "rk"))) (dq_of (de_op (dq_of (de_var rfl)) (dq_of de_int) (by walk_at "rk"))) (rn_r (rn_catM (by walk_at "sz"))))) (dq_of (de_op (dq_of (de_var rfl)) (dq_of de_int) (by walk_at "rk"))) (rn_r (rn_catM (by walk_at "sz")))))) (by walk_at "wk") rfl (fun n acc row hr hl => ?_) fun hl => ?_)
    · have hn := getElem?_lt hr
      have hR := hA.rows row (List.mem_of_getElem? hr)
      have hrl := hR.len
      have hL := low_row (told := v_words b) hR (by omega)
      show DS _ [.val (eLB b), .val (eIs (v_words b)), .mu none (.lst (acc.map eIs)), .val (eIs row), .any] _
      exact ds_appM (enc := eIs) (x := v_ledup b.js (v_low (v_words b) row)) rfl (d__law_led_up (da_cons (de_op (dq_of (de_var rfl)) (dq_of de_int) (by walk_at "rk")) (da_cons (dn_de (dn_lc2 DV.int (dw_rangeN (da_cons (de_cb (db_cons (dq_of (de_var rfl)) db_nil) (by walk_at "rc")) da_nil) (by walk_at "si")) (by walk_at "sz") (by decide) (fun x_word hx_x_word => by (try rw [mem_rgI] at hx_x_word); exact (de_ifI (dt_test (de_op (dq_of (de_var rfl)) (dq_of (de_var rfl)) (by walk_at "ro"))) (fun hi => (de_op (dq_of (de_var rfl)) (dq_of (de_var rfl)) (by walk_at "ro"))) (fun hi => de_int))))) da_nil)) (⟨js, by omega, by omega, hL⟩)) (by omega) ⟨by walk_at "wk", by rw [List.length_append, hl]; rfl⟩
    · rw [foldl_app, List.nil_append]
      refine ds_wk (ρ' := [.val (eLB b), .any, .val (eTb ((v_all b).map fun row => v_ledup b.js (v_low (v_words b) row))), .any, .any]) (by walk_at "wk") ?_
      exact ds_ret (d__law_with_rows (da_cons (de_var rfl) (da_cons (de_var rfl) da_nil)) (by walk_at "pre")) rfl
def v_strR (n : Nat) (m : Nat) (rows : List (List Int)) : List (List Int) := (rgI 0 m).map fun k => cond (!(rows.map eIs).isEmpty) (gL rows (k % (rows.length : Int))) (rgI 0 n)
def v_strange (b d : LB) : LB := ⟨b.le, b.te, d.js, d.ms, (rgI 0 b.le.length).map fun k => gL d.de (k % (d.de.length : Int)), v_strR d.js.length b.te.length d.so, v_strR d.js.length b.te.length d.no, d.fi⟩
omit T in
theorem ne_pos {rows : List (List Int)} (h : (!(rows.map eIs).isEmpty) = true) : 0 < rows.length := by
  cases rows with
  | nil => cases h
  | cons r rows => exact Nat.succ_pos _
abbrev S_law_strange : Stmt := top 115
abbrev N_law_strange : List Str := ["_law_book", "_law_drawn", "_law_many", "_law_same", "_law_deeds", "_law_sos", "_law_nots", "_law_k"]
omit T in
theorem sc__law_strange : FnScope N_law_strange ["_law_book", "_law_drawn"] (defScope S_law_strange) := ⟨rfl, rfl, rfl, by decide +kernel, rfl, by decide +kernel, by decide +kernel⟩
def sp__law_strange : Sp := spD (α := LB × LB) (fun ⟨b, d⟩ => [eLB b, eLB d]) (fun ⟨b, d⟩ => WF b ∧ WF d) (fun ⟨b, d⟩ => eLB (v_strange b d))
omit T in
theorem d__law_strange {ρ : List Sl} {t : TA} {E : XK} {b d : LB} (h : DA t ρ [eLB b, eLB d]) (hp : WF b ∧ WF d) : DE (tCall sp__law_strange [] E t) ρ (eLB (v_strange b d)) := de_call (α := LB × LB) (enc := fun ⟨b, d⟩ => [eLB b, eLB d]) (pre := fun ⟨b, d⟩ => WF b ∧ WF d) (val := fun ⟨b, d⟩ => eLB (v_strange b d)) ⟨b, d⟩ h rfl hp
theorem c__law_strange : Cal P w K mg base 1 "_law_strange" sp__law_strange [] :=
  cal_def (α := LB × LB) (enc := fun ⟨b, d⟩ => [eLB b, eLB d]) (pre := fun ⟨b, d⟩ => WF b ∧ WF d) (val := fun ⟨b, d⟩ => eLB (v_strange b d)) T.f__law_strange sc__law_strange (fun ⟨b, d⟩ => rfl) (fun _ _ _ _ _ _ us hl => match us, hl with | [_, _], _ => rfl) fun f cdv A outer s H E hr ⟨b, d⟩ hp => by
    (try dsimp only at hp)
    have nd := sc__law_strange.nd
    refine ⟨_, (pss_cons (ps_set (i := 2) nd rfl (.inl rfl) (pe_callB (lenk K) rfl T.m_len (by decide +kernel) (pa_cons (pe_ix (ixk K) (pv 1) pe_int (fun _ _ => rfl)) pa_nil)))
    (pss_cons (ps_set (i := 3) nd rfl (.inr rfl) (pe_listRg rfl rfl T.m_list (prg_1 rfl T.m_range (pv 2))))
    (pss_cons (ps_setLc (i := 4) (own := [("_law_k", 7)]) rfl nd rfl rfl (sw_true rfl rfl rfl (by decide +kernel)) (pi_range1 rfl T.m_range (pa_cons (pe_callB (lenk K) rfl T.m_len (by decide +kernel) (pa_cons (pe_ix (ixk K) (pv 0) pe_int (fun _ _ => rfl)) pa_nil)) pa_nil)) (blkOk_by (sc := defScope S_law_strange) (N := N_law_strange) (own := [("_law_k", 7)]) (by decide +kernel)) (fun _ _ _ _ _ => (pg_name (i := 7) nd rfl (by first | exact .inl rfl | exact .inr rfl))) (fun _ _ _ _ _ => pts_nil) (fun _ _ _ _ _ => (pe_ix (ixk K) (pe_ix (ixk K) (pv 1) pe_int (fun _ _ => rfl)) (pe_op op_mod (pv 7) (pe_callB (lenk K) rfl T.m_len (by decide +kernel) (pa_cons (pe_ix (ixk K) (pv 1) pe_int (fun _ _ => rfl)) pa_nil))) (fun _ _ => rfl))))
    (pss_cons (ps_setLc (i := 5) (own := [("_law_k", 7)]) rfl nd rfl rfl (sw_true rfl rfl rfl (by decide +kernel)) (pi_range1 rfl T.m_range (pa_cons (pe_callB (lenk K) rfl T.m_len (by decide +kernel) (pa_cons (pe_ix (ixk K) (pv 0) pe_int (fun _ _ => rfl)) pa_nil)) pa_nil)) (blkOk_by (sc := defScope S_law_strange) (N := N_law_strange) (own := [("_law_k", 7)]) (by decide +kernel)) (fun _ _ _ _ _ => (pg_name (i := 7) nd rfl (by first | exact .inl rfl | exact .inr rfl))) (fun _ _ _ _ _ => pts_nil) (fun _ _ _ _ _ => (pe_ifExp (truk K (pe_ix (ixk K) (pv 1) pe_int (fun _ _ => rfl)) (by intro _; rfl)) (pe_ix (ixk K) (pe_ix (ixk K) (pv 1) pe_int (fun _ _ => rfl)) (pe_op op_mod (pv 7) (pe_callB (lenk K) rfl T.m_len (by decide +kernel) (pa_cons (pe_ix (ixk K) (pv 1) pe_int (fun _ _ => rfl)) pa_nil))) (fun _ _ => rfl)) (pv 3))))
    (pss_cons (ps_setLc (i := 6) (own := [("_law_k", 7)]) rfl nd rfl rfl (sw_true rfl rfl rfl (by decide +kernel)) (pi_range1 rfl T.m_range (pa_cons (pe_callB (lenk K) rfl T.m_len (by decide +kernel) (pa_cons (pe_ix (ixk K) (pv 0) pe_int (fun _ _ => rfl)) pa_nil)) pa_nil)) (blkOk_by (sc := defScope S_law_strange) (N := N_law_strange) (own := [("_law_k", 7)]) (by decide +kernel)) (fun _ _ _ _ _ => (pg_name (i := 7) nd rfl (by first | exact .inl rfl | exact .inr rfl))) (fun _ _ _ _ _ => pts_nil) (fun _ _ _ _ _ => (pe_ifExp (truk K (pe_ix (ixk K) (pv 1) pe_int (fun _ _ => rfl)) (by intro _; rfl)) (pe_ix (ixk K) (pe_ix (ixk K) (pv 1) pe_int (fun _ _ => rfl)) (pe_op op_mod (pv 7) (pe_callB (lenk K) rfl T.m_len (by decide +kernel) (pa_cons (pe_ix (ixk K) (pv 1) pe_int (fun _ _ => rfl)) pa_nil))) (fun _ _ => rfl)) (pv 3))))
    (pss_one (ps_ret (pe_lst (pa_cons (pe_ix (ixk K) (pv 0) pe_int (fun _ _ => rfl)) (pa_cons (pe_ix (ixk K) (pv 0) pe_int (fun _ _ => rfl)) (pa_cons (pe_ix (ixk K) (pv 1) pe_int (fun _ _ => rfl)) (pa_cons (pe_ix (ixk K) (pv 1) pe_int (fun _ _ => rfl)) (pa_cons (pv 4) (pa_cons (pv 5) (pa_cons (pv 6) (pa_cons (pe_ix (ixk K) (pv 1) pe_int (fun _ _ => rfl)) pa_nil)))))))))))))))), ?_⟩
    obtain ⟨hb, hd⟩ := hp
    obtain ⟨n2, n9, js, ms, le1, le4, te4, de, so, no, fi, okl, okt⟩ := hd
    have hb1 := hb.le4
    have hb2 := hb.te4
    have dl := de.len
    show DS _ [.val (eLB b), .val (eLB d), .any, .any, .any, .any, .any, .any] _
    refine ds_setS (de_cb (db_cons (dq_of (de_op (dq_of (de_var rfl)) (dq_of de_int) (by walk_at "rk"))) db_nil) (by walk_at "rc")) ?_
    refine ds_setS (dn_de (dn_listrN (de_var rfl) (by walk_at "si"))) ?_
    have hde : ∀ k, wd d.de.length (k % (d.de.length : Int)) := fun k => mod_wd (by omega) k
    refine ds_setS (dn_de (dn_lc2 eIs (dw_rangeN (da_cons (de_cb (db_cons (dq_of (de_op (dq_of (de_var rfl)) (dq_of de_int) (by walk_at "rk"))) db_nil) (by walk_at "rc")) da_nil) (by walk_at "si")) (by walk_at "sz") (by decide) (fun x_k hx_x_k => by (try rw [mem_rgI] at hx_x_k); exact (de_op (dq_of (de_op (dq_of (de_var rfl)) (dq_of de_int) (by walk_at "rk"))) (dq_of (de_op (dq_of (de_var rfl)) (dq_of (de_cb (db_cons (dq_of (de_op (dq_of (de_var rfl)) (dq_of de_int) (by walk_at "rk"))) db_nil) (by walk_at "rc"))) (ro_i (by walk_at "cmod")))) (ro_gL (hde _).1 (hde _).2))))) ?_
    refine ds_setS (dn_de (dn_lc2 eIs (dw_rangeN (da_cons (de_cb (db_cons (dq_of (de_op (dq_of (de_var rfl)) (dq_of de_int) (by walk_at "rk"))) db_nil) (by walk_at "rc")) da_nil) (by walk_at "si")) (by walk_at "sz") (by decide) (fun x_k hx_x_k => by (try rw [mem_rgI] at hx_x_k); exact (de_ifL (enc := eIs) (dt_truLk (dq_of (de_op (dq_of (de_var rfl)) (dq_of de_int) (by walk_at "rk")))) (fun hi => (de_op (dq_of (de_op (dq_of (de_var rfl)) (dq_of de_int) (by walk_at "rk"))) (dq_of (de_op (dq_of (de_var rfl)) (dq_of (de_cb (db_cons (dq_of (de_op (dq_of (de_var rfl)) (dq_of de_int) (by walk_at "rk"))) db_nil) (by walk_at "rc"))) (ro_i ((by show (0 : Int) < _; have := ne_pos hi; omega))))) (ro_gL (mod_wd (ne_pos hi) _).1 (mod_wd (ne_pos hi) _).2))) (fun hi => (de_var rfl)))))) ?_
    refine ds_setS (dn_de (dn_lc2 eIs (dw_rangeN (da_cons (de_cb (db_cons (dq_of (de_op (dq_of (de_var rfl)) (dq_of de_int) (by walk_at "rk"))) db_nil) (by walk_at "rc")) da_nil) (by walk_at "si")) (by walk_at "sz") (by decide) (fun x_k hx_x_k => by (try rw [mem_rgI] at hx_x_k); exact (de_ifL (enc := eIs) (dt_truLk (dq_of (de_op (dq_of (de_var rfl)) (dq_of de_int) (by walk_at "rk")))) (fun hi => (de_op (dq_of (de_op (dq_of (de_var rfl)) (dq_of de_int) (by walk_at "rk"))) (dq_of (de_op (dq_of (de_var rfl)) (dq_of (de_cb (db_cons (dq_of (de_op (dq_of (de_var rfl)) (dq_of de_int) (by walk_at "rk"))) db_nil) (by walk_at "rc"))) (ro_i ((by show (0 : Int) < _; have := ne_pos hi; omega))))) (ro_gL (mod_wd (ne_pos hi) _).1 (mod_wd (ne_pos hi) _).2))) (fun hi => (de_var rfl)))))) ?_
    exact ds_ret (dn_de (dn_lst (da_cons (de_op (dq_of (de_var rfl)) (dq_of de_int) (by walk_at "rk")) (da_cons (de_op (dq_of (de_var rfl)) (dq_of de_int) (by walk_at "rk")) (da_cons (de_op (dq_of (de_var rfl)) (dq_of de_int) (by walk_at "rk")) (da_cons (de_op (dq_of (de_var rfl)) (dq_of de_int) (by walk_at "rk")) (da_cons (de_var rfl) (da_cons (de_var rfl) (da_cons (de_var rfl) (da_cons (de_op (dq_of (de_var rfl)) (dq_of de_int) (by walk_at "rk")) da_nil)))))))) (Nat.le_of_ble_eq_true rfl))) rfl

end
end DL
end

section
set_option Elab.async false
set_option linter.all false
set_option maxRecDepth 100000
set_option maxHeartbeats 4000000
namespace DL
open PySem
/-! ### families of masks -/
abbrev bd (a b : Int) : Int := Builtin.bitAnd a b
abbrev bo (a b : Int) : Int := Builtin.bitOr a b
abbrev v_pop (m : Int) : Int := ((rgI 0 (4 : Int).toNat).map fun k => bd (m / 2 ^ k.toNat) 1).sum
def v_sortM (ms : List Int) : List Int := (srtP (ms.map fun m => (v_pop m, m))).map fun p => p.2
def v_jk (M : List Int) (o p : Int) : List Int := (rgI 0 M.length).filter fun k => decide (bd (bo o p) (gI M k) = bo o p)
def v_joinsM (M : List Int) : List (List Int) := M.map fun o => M.map fun p => gI (v_jk M o p) 0
def v_mstep (ms : List Int) (g : Int) (new : List Int) (m : Int) : List Int := cond (!decide (bd m g ∈ ms) && !decide (bd m g ∈ new)) (new ++ [bd m g]) new
def v_mnew (g : Int) (ms : List Int) : List Int := ms.foldl (v_mstep ms g) []
def v_mround (g : Int) (ms : List Int) : List Int := cond (decide ((ms.length : Int) + ((v_mnew g ms).length : Int) ≤ 5)) (ms ++ v_mnew g ms) ms
structure Cl (M : List Int) : Prop where
  rng : ∀ a ∈ M, a ∈ rgI 0 16
  nd : M.Nodup
  zero : 0 ∈ M
  top : 15 ∈ M
  len : M.length ≤ 5
  cl : ∀ a ∈ M, ∀ b ∈ M, bd a b ∈ M
theorem bd_rng : ∀ a ∈ rgI 0 16, ∀ b ∈ rgI 0 16, bd a b ∈ rgI 0 16 := by decide +kernel
theorem bd_comm : ∀ a ∈ rgI 0 16, ∀ b ∈ rgI 0 16, bd a b = bd b a := by decide +kernel
theorem bd_idem : ∀ a ∈ rgI 0 16, bd a a = a := by decide +kernel
theorem bd_assoc : ∀ a ∈ rgI 0 16, ∀ b ∈ rgI 0 16, ∀ c ∈ rgI 0 16, bd (bd a b) c = bd a (bd b c) := by decide +kernel
theorem mnew_mem {ms : List Int} {g : Int} : ∀ (xs new : List Int) (x : Int), x ∈ xs.foldl (v_mstep ms g) new → x ∈ new ∨ (∃ m ∈ xs, x = bd m g) ∧ x ∉ ms
  | [], new, x, h => .inl h
  | m :: xs, new, x, h => by
    rcases mnew_mem xs _ x h with h | ⟨⟨m', h1, h2⟩, h3⟩
    · unfold v_mstep at h
      cases hb : (!decide (bd m g ∈ ms) && !decide (bd m g ∈ new)) with
      | false => rw [hb] at h; exact .inl h
      | true =>
        rw [hb] at h
        have h : x ∈ new ++ [bd m g] := h
        rcases List.mem_append.mp h with h | h
        · exact .inl h
        · rw [List.mem_singleton] at h
          refine .inr ⟨⟨m, List.mem_cons_self, h⟩, ?_⟩
          rw [Bool.and_eq_true, Bool.not_eq_true', decide_eq_false_iff_not] at hb
          rw [h]; exact hb.1
    · exact .inr ⟨⟨m', List.mem_cons_of_mem _ h1, h2⟩, h3⟩
theorem mnew_keep {ms : List Int} {g : Int} : ∀ (xs new : List Int) (x : Int), x ∈ new → x ∈ xs.foldl (v_mstep ms g) new
  | [], new, x, h => h
  | m :: xs, new, x, h => mnew_keep xs _ x (by
    unfold v_mstep
    cases (!decide (bd m g ∈ ms) && !decide (bd m g ∈ new)) with
    | false => exact h
    | true => exact List.mem_append_left _ h)
theorem mnew_all {ms : List Int} {g : Int} : ∀ (xs new : List Int) (m : Int), m ∈ xs → bd m g ∈ ms ∨ bd m g ∈ xs.foldl (v_mstep ms g) new
  | [], _, _, h => by cases h
  | y :: xs, new, m, h => by
    rcases List.mem_cons.mp h with rfl | h
    · by_cases h1 : bd m g ∈ ms
      · exact .inl h1
      · refine .inr (mnew_keep xs _ _ ?_)
        unfold v_mstep
        by_cases h2 : bd m g ∈ new
        · rw [decide_eq_true h2, Bool.not_true, Bool.and_false]; exact h2
        · rw [decide_eq_false h1, decide_eq_false h2]
          exact List.mem_append_right _ (List.mem_singleton.mpr rfl)
    · exact mnew_all xs _ m h
theorem mnew_nd {ms : List Int} {g : Int} : ∀ (xs new : List Int), new.Nodup → (xs.foldl (v_mstep ms g) new).Nodup
  | [], _, h => h
  | m :: xs, new, h => mnew_nd xs _ (by
    unfold v_mstep
    cases hb : (!decide (bd m g ∈ ms) && !decide (bd m g ∈ new)) with
    | false => exact h
    | true =>
      rw [Bool.and_eq_true, Bool.not_eq_true', Bool.not_eq_true', decide_eq_false_iff_not, decide_eq_false_iff_not] at hb
      show (new ++ [bd m g]).Nodup
      rw [List.nodup_append]
      exact ⟨h, by simp, fun a ha b hb' e => hb.2 (by rw [← List.mem_singleton.mp hb', ← e]; exact ha)⟩)
theorem Cl.round {M : List Int} (h : Cl M) {g : Int} (hg : g ∈ rgI 0 16) : Cl (v_mround g M) := by
  unfold v_mround
  cases hb : decide ((M.length : Int) + ((v_mnew g M).length : Int) ≤ 5) with
  | false => exact h
  | true =>
    have hb := of_decide_eq_true hb
    have mem : ∀ x, x ∈ M ++ v_mnew g M → x ∈ M ∨ ∃ m ∈ M, x = bd m g := fun x hx => by
      rcases List.mem_append.mp hx with hx | hx
      · exact .inl hx
      · rcases mnew_mem _ _ _ hx with hx | hx
        · cases hx
        · exact .inr hx.1
    have all : ∀ m ∈ M, bd m g ∈ M ++ v_mnew g M := fun m hm => by
      rcases mnew_all (ms := M) (g := g) M [] m hm with h | h
      · exact List.mem_append_left _ h
      · exact List.mem_append_right _ h
    show Cl (M ++ v_mnew g M)
    refine ⟨fun a ha => ?_, ?_, List.mem_append_left _ h.zero, List.mem_append_left _ h.top, by rw [List.length_append]; omega, fun a ha b hb' => ?_⟩
    · rcases mem a ha with h1 | ⟨m, h1, rfl⟩
      · exact h.rng a h1
      · exact bd_rng m (h.rng m h1) g hg
    · rw [List.nodup_append]
      refine ⟨h.nd, mnew_nd M [] List.nodup_nil, fun a ha b hb' e => ?_⟩
      subst e
      rcases mnew_mem _ _ _ hb' with hx | hx
      · cases hx
      · exact hx.2 ha
    · rcases mem a ha with h1 | ⟨m, h1, rfl⟩
      · rcases mem b hb' with h2 | ⟨m2, h2, rfl⟩
        · exact List.mem_append_left _ (h.cl a h1 b h2)
        · rw [← bd_assoc a (h.rng a h1) m2 (h.rng m2 h2) g hg]
          exact all _ (h.cl a h1 m2 h2)
      · rcases mem b hb' with h2 | ⟨m2, h2, rfl⟩
        · have rm := h.rng m h1
          have rb := h.rng b h2
          rw [bd_assoc m rm g hg b rb, bd_comm g hg b rb, ← bd_assoc m rm b rb g hg]
          exact all _ (h.cl m h1 b h2)
        · have rm := h.rng m h1
          have r2 := h.rng m2 h2
          have e : bd (bd m g) (bd m2 g) = bd (bd m m2) g := by
            rw [bd_assoc m rm g hg _ (bd_rng m2 r2 g hg), bd_comm m2 r2 g hg, ← bd_assoc g hg g hg m2 r2, bd_idem g hg, bd_comm g hg m2 r2, ← bd_assoc m rm m2 r2 g hg]
          rw [e]
          exact all _ (h.cl m h1 m2 h2)
theorem cl_start : Cl [0, 15] := ⟨by decide +kernel, by decide, by decide, by decide, by decide, by decide +kernel⟩
/-! sorted: a sublist of all -/
def allM : List Int := [0, 1, 2, 4, 8, 3, 5, 6, 9, 10, 12, 7, 11, 13, 14, 15]
def ltM (a b : Int) : Prop := leP (v_pop a, a) (v_pop b, b) = true ∧ a ≠ b
theorem ltM_tr {a b c : Int} (h1 : ltM a b) (h2 : ltM b c) : ltM a c := by
  unfold ltM at *
  rw [leP_iff] at *
  simp only at *
  constructor
  · omega
  · intro e; subst e; omega
theorem ltM_as {a b : Int} (h1 : ltM a b) (h2 : ltM b a) : False := by
  unfold ltM at *
  rw [leP_iff] at *
  simp only at *
  omega
theorem allM_sorted : allM.Pairwise ltM := by
  have h : allM.Pairwise fun a b => leP (v_pop a, a) (v_pop b, b) = true ∧ a ≠ b := by decide +kernel
  exact h
theorem sub_sorted : ∀ (A L : List Int), A.Pairwise ltM → L.Pairwise ltM → (∀ a ∈ L, a ∈ A) → L.Sublist A
  | [], [], _, _, _ => .slnil
  | [], l :: L, _, _, h => by cases h l List.mem_cons_self
  | a :: A, [], _, _, _ => List.nil_sublist _
  | a :: A, l :: L, hA, hL, h => by
    rw [List.pairwise_cons] at hA
    have hL' := List.pairwise_cons.mp hL
    by_cases e : l = a
    · subst e
      refine .cons_cons _ (sub_sorted A L hA.2 hL'.2 fun x hx => ?_)
      rcases List.mem_cons.mp (h x (List.mem_cons_of_mem _ hx)) with e | m
      · exact absurd e.symm (hL'.1 x hx).2
      · exact m
    · have hl : l ∈ A := (List.mem_cons.mp (h l List.mem_cons_self)).resolve_left e
      refine .cons _ (sub_sorted A (l :: L) hA.2 hL fun x hx => ?_)
      rcases List.mem_cons.mp (h x hx) with e2 | m
      · subst e2
        rcases List.mem_cons.mp hx with e3 | m
        · exact absurd e3.symm e
        · exact (ltM_as (hA.1 l hl) (hL'.1 x m)).elim
      · exact m
def subs {α : Type} : Nat → List α → List (List α)
  | _, [] => [[]]
  | 0, _ => [[]]
  | k + 1, a :: A => subs (k + 1) A ++ (subs k A).map (a :: ·)
theorem mem_subs {α : Type} : ∀ {A L : List α}, L.Sublist A → ∀ {k : Nat}, L.length ≤ k → L ∈ subs k A := by
  intro A L h
  induction h with
  | slnil => intro k _; cases k <;> exact List.mem_singleton.mpr rfl
  | @cons L A a h ih =>
    intro k hk
    cases k with
    | zero =>
      have : L = [] := List.length_eq_zero_iff.mp (by omega)
      rw [this]; exact List.mem_singleton.mpr rfl
    | succ k => exact List.mem_append_left _ (ih hk)
  | @cons_cons L A a h ih =>
    intro k hk
    cases k with
    | zero => rw [List.length_cons] at hk; omega
    | succ k =>
      rw [List.length_cons] at hk
      exact List.mem_append_right _ (List.mem_map.mpr ⟨L, ih (by omega), rfl⟩)
def clB (L : List Int) : Bool := decide (0 ∈ L) && decide (15 ∈ L) && L.all fun a => L.all fun b => decide (bd a b ∈ L)
/-- what the joins of a family of masks keep -/
def okM (L : List Int) : Bool :=
  let js := v_joinsM L
  let n := L.length
  let ws := rgI 0 n
  decide (2 ≤ n) && decide (gI L 0 = 0) && (L.all fun o => L.all fun p => decide (0 < (v_jk L o p).length)) &&
  (ws.all fun x => ws.all fun y => let z := gI (gL js x) y; decide (0 ≤ z) && decide (z < n) && decide (z = gI (gL js y) x) && (!decide (z = y) || decide (bd (gI L x) (gI L y) = gI L x)) && ws.all fun u => decide (gI (gL js z) u = gI (gL js x) (gI (gL js y) u))) &&
  (ws.all fun x => decide (gI (gL js x) x = x) && decide (gI (gL js 0) x = x))
theorem okM_all : ((subs 5 allM).all fun L => !clB L || okM L) = true := by decide +kernel
end DL
end

section
set_option Elab.async false
set_option linter.all false
set_option maxRecDepth 100000
set_option maxHeartbeats 4000000
namespace DL
open PySem
structure Lat (n : Nat) (js : List (List Int)) : Prop where
  tbl : Tbl n n n js
  idem : ∀ x, wd n x → gI (gL js x) x = x
  zero : ∀ x, wd n x → gI (gL js 0) x = x
  comm : ∀ x y, wd n x → wd n y → gI (gL js x) y = gI (gL js y) x
  assoc : ∀ x y z, wd n x → wd n y → wd n z → gI (gL js (gI (gL js x) y)) z = gI (gL js x) (gI (gL js y) z)
structure Msk (n : Nat) (js : List (List Int)) (ms : List Int) : Prop where
  len : ms.length = n
  rng : ∀ m ∈ ms, m ∈ rgI 0 16
  zero : gI ms 0 = 0
  sub : ∀ x y, wd n x → wd n y → gI (gL js x) y = y → bd (gI ms x) (gI ms y) = gI ms x
theorem wd_rg {n : Nat} {x : Int} : wd n x ↔ x ∈ rgI 0 n := by rw [mem_rgI]; omega
theorem sortM_perm (ms : List Int) : (v_sortM ms).Perm ms := by
  unfold v_sortM
  have := (srtP_perm (ms.map fun m => (v_pop m, m))).map fun p => p.2
  rw [List.map_map] at this
  exact this.trans (by rw [show ((fun p : Int × Int => p.2) ∘ fun m => (v_pop m, m)) = id from rfl, List.map_id])
theorem sortM_sorted {ms : List Int} (h : ms.Nodup) : (v_sortM ms).Pairwise ltM := by
  have hn : (v_sortM ms).Nodup := (sortM_perm ms).nodup_iff.mpr h
  have hs : (v_sortM ms).Pairwise fun a b => leP (v_pop a, a) (v_pop b, b) = true := by
    unfold v_sortM
    rw [List.pairwise_map]
    have hm : ∀ p ∈ srtP (ms.map fun m => (v_pop m, m)), p = (v_pop p.2, p.2) := fun p hp => by
      obtain ⟨m, _, rfl⟩ := List.mem_map.mp ((srtP_perm _).mem_iff.mp hp)
      rfl
    refine List.Pairwise.imp_of_mem (fun {a b} ha hb hab => ?_) (srtP_sorted _)
    rw [hm a ha, hm b hb] at hab
    exact hab
  exact hs.and hn
theorem allM_mem : ∀ a ∈ rgI 0 16, a ∈ allM := by decide +kernel
theorem fam_ok {M : List Int} (h : Cl M) : okM (v_sortM M) = true := by
  have hp := sortM_perm M
  have hsub := sub_sorted allM (v_sortM M) allM_sorted (sortM_sorted h.nd) fun a ha => allM_mem a (h.rng a (hp.mem_iff.mp ha))
  have hm := mem_subs hsub (k := 5) (by rw [hp.length_eq]; exact h.len)
  have := List.all_eq_true.mp okM_all _ hm
  have hc : clB (v_sortM M) = true := by
    unfold clB
    rw [Bool.and_eq_true, Bool.and_eq_true, decide_eq_true_iff, decide_eq_true_iff, List.all_eq_true]
    refine ⟨⟨hp.mem_iff.mpr h.zero, hp.mem_iff.mpr h.top⟩, fun a ha => ?_⟩
    rw [List.all_eq_true]
    intro b hb
    rw [decide_eq_true_iff]
    exact hp.mem_iff.mpr (h.cl a (hp.mem_iff.mp ha) b (hp.mem_iff.mp hb))
  rw [hc] at this
  simpa using this
theorem gL_map {M : List Int} {f : Int → List Int} {x : Int} (h : wd M.length x) : gL (M.map f) x = f (gI M x) := by
  unfold gL gI
  have hx : x.toNat < M.length := by obtain ⟨h1, h2⟩ := h; omega
  rw [List.getD_eq_getElem?_getD, List.getD_eq_getElem?_getD, List.getElem?_map, List.getElem?_eq_getElem hx]
  rfl
theorem gI_map {M : List Int} {f : Int → Int} {x : Int} (h : wd M.length x) : gI (M.map f) x = f (gI M x) := by
  unfold gI
  have hx : x.toNat < M.length := by obtain ⟨h1, h2⟩ := h; omega
  rw [List.getD_eq_getElem?_getD, List.getD_eq_getElem?_getD, List.getElem?_map, List.getElem?_eq_getElem hx]
  rfl
theorem gI_mem {M : List Int} {x : Int} (h : wd M.length x) : gI M x ∈ M := getD_mem (by obtain ⟨h1, h2⟩ := h; omega)
structure FamOk (L : List Int) : Prop where
  n2 : 2 ≤ L.length
  ne : ∀ o ∈ L, ∀ p ∈ L, 0 < (v_jk L o p).length
  lat : Lat L.length (v_joinsM L)
  zero : gI L 0 = 0
  sub : ∀ x y, wd L.length x → wd L.length y → gI (gL (v_joinsM L) x) y = y → bd (gI L x) (gI L y) = gI L x
theorem okM_fam {L : List Int} (h : okM L = true) : FamOk L := by
  unfold okM at h
  simp only [Bool.and_eq_true, List.all_eq_true, decide_eq_true_iff] at h
  obtain ⟨⟨⟨⟨h1, h2⟩, h3⟩, h4⟩, h5⟩ := h
  have h4 := fun x y (hx : wd L.length x) (hy : wd L.length y) => h4 x (wd_rg.mp hx) y (wd_rg.mp hy)
  refine ⟨h1, h3, ⟨⟨by unfold v_joinsM; rw [List.length_map], fun r hr => ?_⟩, fun x hx => (h5 x (wd_rg.mp hx)).1, fun x hx => (h5 x (wd_rg.mp hx)).2, fun x y hx hy => (h4 x y hx hy).1.1.2, fun x y z hx hy hz => (h4 x y hx hy).2 z (wd_rg.mp hz)⟩, h2, fun x y hx hy e => ?_⟩
  · unfold v_joinsM at hr
    obtain ⟨o, ho, rfl⟩ := List.mem_map.mp hr
    refine ⟨by rw [List.length_map], fun v hv => ?_⟩
    obtain ⟨p, hp, rfl⟩ := List.mem_map.mp hv
    have hk := h3 o ho p hp
    have : gI (v_jk L o p) 0 ∈ v_jk L o p := gI_mem ⟨Int.le_refl 0, by omega⟩
    unfold v_jk at this
    exact wd_rg.mpr (List.mem_filter.mp this).1
  · have := (h4 x y hx hy).1.2
    rw [e] at this
    simpa using this
end DL
end

section
set_option Elab.async false
set_option linter.all false
set_option maxRecDepth 100000
set_option maxHeartbeats 4000000
namespace DL
open PySem PySem.Spec PyProof.Rows L2
open C8 (Cal pe_c Mak pe_mk)
local macro_rules | `(tactic| walk_at "si") => `(tactic| first
  | with_reducible assumption | omega | (simp only [rgI_len, List.length_map]; omega) | (simp only [decide_eq_true_eq, Bool.and_eq_true, Bool.not_eq_true', decide_eq_false_iff_not] at *; omega))
local macro_rules | `(tactic| walk_at "sz") => `(tactic| first
  | with_reducible assumption | omega | (simp only [rgI_len, List.length_map, List.length_append, List.length_cons, List.length_nil]; omega))
local macro_rules | `(tactic| walk_at "row") => `(tactic| first | with_reducible assumption | ((with_reducible refine Tbl.get (by with_reducible assumption) ?_); walk_at "wd") | exact row_mem (by with_reducible assumption) (by with_reducible assumption))
local macro_rules | `(tactic| walk_at "wd") => `(tactic| first | with_reducible assumption | omega | (constructor <;> omega) | ((with_reducible refine wd_get (by walk_at "row") ?_); walk_at "wd") | exact wd_mem (by with_reducible assumption) (by with_reducible assumption))
local macro_rules | `(tactic| walk_at "rk") => `(tactic| first
  | ((with_reducible apply ro_xL (by decide)); exact rfl) | ((with_reducible apply ro_xT (by decide)); exact rfl) | walk_at "ro")
local macro_rules | `(tactic| walk_at "ro") => `(tactic| first
  | with_reducible exact ro_b0 | with_reducible exact ro_l ro_eqI | with_reducible exact ro_l ro_neI | with_reducible exact ro_l ro_eqB | with_reducible exact ro_l ro_neB | with_reducible exact ro_l ro_eqS | with_reducible exact ro_l ro_neS
  | ((with_reducible refine ro_gLR (by with_reducible assumption) ?_); walk_at "wd") | ((with_reducible refine ro_gIR (by walk_at "row") ?_); walk_at "wd")
  | ((with_reducible refine ro_gI ?_ ?_) <;> walk_at "si") | ((with_reducible refine ro_gL ?_ ?_) <;> walk_at "si") | ((with_reducible refine ro_gIT ?_ ?_) <;> walk_at "si")
  | with_reducible exact ro_gG (by with_reducible assumption) | ((with_reducible refine ro_gT ?_ ?_) <;> walk_at "si")
  | ((with_reducible refine ro_gB ?_ ?_) <;> walk_at "si")
  | ((with_reducible refine ro_gS ?_ ?_) <;> walk_at "si") | ((with_reducible refine ro_gST ?_ ?_) <;> walk_at "si")
  | ((with_reducible refine ro_xM ?_ ?_) <;> walk_at "si") | ((with_reducible refine ro_xTM ?_ ?_) <;> walk_at "si")
  | ((with_reducible apply ro_xL (by decide)); exact rfl) | ((with_reducible apply ro_xT (by decide)); exact rfl)
  | with_reducible exact ro_eqIs | with_reducible exact ro_l ro_inL | with_reducible exact ro_l ro_niL | with_reducible exact ro_l ro_inT | with_reducible exact ro_l ro_inS | with_reducible exact ro_isNN | with_reducible exact ro_notNN | with_reducible exact ro_isNI | with_reducible exact ro_notNI)
local macro_rules | `(tactic| walk_at "rc") => `(tactic| with_reducible first
  | exact rc_lenM | exact rc_lenTM | exact rc_lenL' | exact rc_lenT' | exact rc_ii _ | exact rc_ib _ | exact rc_ss _ | exact rc_tt _ | exact rc_ltl _ | exact rc_ltt _ | exact rc_int | exact rc_abs | exact rc_max2 | exact rc_min2 | exact rc_all | exact rc_sum | exact rc_tupL' | exact rc_tupT' | exact rc_range1)
local macro_rules | `(tactic| walk_at "rcn") => `(tactic| with_reducible first
  | exact rcn_listL' | exact rcn_listT' | exact rcn_sortP)
local macro_rules | `(tactic| walk_at "pre") => `(tactic| first | with_reducible assumption | exact trivial | (refine And.intro ?_ ?_ <;> walk_at "pre") | walk_at "wd" | walk_at "si")
local macro_rules | `(tactic| walk_at "cmod") => `(tactic| (show (0 : Int) < _; first | decide | walk_at "si"))
local macro_rules | `(tactic| walk_at "cd") => `(tactic| (refine And.intro ?_ ?_ <;> walk_at "si"))
local macro_rules | `(tactic| walk_at "cp") => `(tactic| exact ⟨by decide, by decide, by decide⟩)
local macro_rules | `(tactic| walk_at "cm") => `(tactic| first | (refine Or.inl (And.intro ?_ ?_) <;> omega) | (refine Or.inr (And.intro ?_ ?_) <;> omega))
local macro_rules | `(tactic| walk_at "wk") => `(tactic| (repeat (first | exact Wk.nil | exact Wk.refl _ | refine Wk.same ?_ | refine Wk.frz ?_ | refine Wk.drop ?_)))
section
variable {P : PySem.Program} {w : World} {K : PySem.W.Frag} {mg : Str → Option Value} {base : Heap} {CL CB : Addr} (T : Txt K mg CL CB)
include T
omit T in
theorem row_set {m n : Nat} {r : List Int} (h : Row m n r) {i : Nat} {y : Int} (hy : wd n y) : Row m n (r.set i y) := ⟨by rw [List.length_set, h.len], fun x hx => by
  rcases List.mem_or_eq_of_mem_set hx with hx | rfl
  · exact h.wds x hx
  · exact hy⟩
omit T in
theorem row_cond {m n : Nat} {a b : List Int} {c : Bool} (ha : Row m n a) (hb : Row m n b) : Row m n (cond c a b) := by
  cases c
  · exact hb
  · exact ha
def v_wstep (ds ms : List Int) (n : Nat) (k : Int) (w : List Int) (x : Int) : List Int :=
  let st := gI ds (33 + 9 * k) % 6
  let to := gI ds (33 + 9 * k + 1) % (n : Int)
  let y := gI ds (33 + 9 * k + 2 + x)
  let w1 := cond (decide (st = 1)) (w.set x.toNat to) w
  let w2 := cond (decide (st = 2) || decide (st = 5)) (w1.set x.toNat (y % (n : Int))) w1
  let w3 := cond (decide (st = 3) && decide (y % 2 = 0)) (w2.set x.toNat 0) w2
  cond (decide (st = 4) && !decide (Builtin.bitAnd (gI ms x) (gI ms to) = gI ms x)) (w3.set x.toNat 0) w3
def v_wish (ds ms : List Int) (n : Nat) (k : Int) : List Int := (rgI 1 ((n : Int) - 1).toNat).foldl (v_wstep ds ms n k) (rgI 0 n)
def v_srows (ds : List Int) (js : List (List Int)) (ms : List Int) (r : Nat) : List (List Int) := (rgI 0 r).map fun k => v_ledup js (v_wish ds ms js.length k)
omit T in
theorem rg_row (n : Nat) : Row n n (rgI 0 n) := ⟨rgI_len 0 n, fun x hx => wd_rg.mpr hx⟩
omit T in
theorem wstep_row {ds ms : List Int} {n : Nat} {k x : Int} {w : List Int} (hn : 0 < n) (h : Row n n w) : Row n n (v_wstep ds ms n k w x) := by
  have h1 := row_cond (c := decide (gI ds (33 + 9 * k) % 6 = 1)) (row_set h (i := x.toNat) (mod_wd hn (gI ds (33 + 9 * k + 1)))) h
  have h2 := row_cond (c := decide (gI ds (33 + 9 * k) % 6 = 2) || decide (gI ds (33 + 9 * k) % 6 = 5)) (row_set h1 (i := x.toNat) (mod_wd hn (gI ds (33 + 9 * k + 2 + x)))) h1
  have h0 : wd n (0 : Int) := by omega
  have h3 := row_cond (c := decide (gI ds (33 + 9 * k) % 6 = 3) && decide (gI ds (33 + 9 * k + 2 + x) % 2 = 0)) (row_set h2 (i := x.toNat) h0) h2
  exact row_cond (row_set h3 h0) h3
abbrev S_law_small_rows : Stmt := top 118
abbrev N_law_small_rows : List Str := ["_law_ds", "_law_joins", "_law_masks", "_law_rows", "_law_many", "_law_out", "_law_k", "_law_base", "_law_style", "_law_to", "_law_wishes", "_law_word"]
omit T in
theorem sc__law_small_rows : FnScope N_law_small_rows ["_law_ds", "_law_joins", "_law_masks", "_law_rows"] (defScope S_law_small_rows) := ⟨rfl, rfl, rfl, by decide +kernel, rfl, by decide +kernel, by decide +kernel⟩
def sp__law_small_rows : Sp := spD (α := List Int × List (List Int) × List Int × Nat) (fun ⟨ds, js, ms, r⟩ => [eIs ds, eTb js, eIs ms, .int (r : Int)]) (fun ⟨ds, js, ms, r⟩ => ds.length = 120 ∧ Tbl js.length js.length js.length js ∧ 2 ≤ js.length ∧ js.length ≤ 5 ∧ ms.length = js.length ∧ r ≤ 9) (fun ⟨ds, js, ms, r⟩ => eTb (v_srows ds js ms r))
omit T in
theorem d__law_small_rows {ρ : List Sl} {t : TA} {E : XK} {ds : List Int} {js : List (List Int)} {ms : List Int} {r : Nat} (h : DA t ρ [eIs ds, eTb js, eIs ms, .int (r : Int)]) (hp : ds.length = 120 ∧ Tbl js.length js.length js.length js ∧ 2 ≤ js.length ∧ js.length ≤ 5 ∧ ms.length = js.length ∧ r ≤ 9) : DE (tCall sp__law_small_rows [] E t) ρ (eTb (v_srows ds js ms r)) := de_call (α := List Int × List (List Int) × List Int × Nat) (enc := fun ⟨ds, js, ms, r⟩ => [eIs ds, eTb js, eIs ms, .int (r : Int)]) (pre := fun ⟨ds, js, ms, r⟩ => ds.length = 120 ∧ Tbl js.length js.length js.length js ∧ 2 ≤ js.length ∧ js.length ≤ 5 ∧ ms.length = js.length ∧ r ≤ 9) (val := fun ⟨ds, js, ms, r⟩ => eTb (v_srows ds js ms r)) ⟨ds, js, ms, r⟩ h rfl hp
theorem c__law_small_rows : Cal P w K mg base 3 "_law_small_rows" sp__law_small_rows [] :=
  cal_def (α := List Int × List (List Int) × List Int × Nat) (enc := fun ⟨ds, js, ms, r⟩ => [eIs ds, eTb js, eIs ms, .int (r : Int)]) (pre := fun ⟨ds, js, ms, r⟩ => ds.length = 120 ∧ Tbl js.length js.length js.length js ∧ 2 ≤ js.length ∧ js.length ≤ 5 ∧ ms.length = js.length ∧ r ≤ 9) (val := fun ⟨ds, js, ms, r⟩ => eTb (v_srows ds js ms r)) T.f__law_small_rows sc__law_small_rows (fun ⟨ds, js, ms, r⟩ => rfl) (fun _ _ _ _ _ _ us hl => match us, hl with | [_, _, _, _], _ => rfl) fun f cdv A outer s H E hr ⟨ds, js, ms, r⟩ hp => by
    (try dsimp only at hp)
    have nd := sc__law_small_rows.nd
    refine ⟨_, (pss_cons (ps_set (i := 4) nd rfl (.inl rfl) (pe_callB (lenk K) rfl T.m_len (by decide +kernel) (pa_cons (pv 1) pa_nil)))
    (pss_cons (ps_set (i := 5) nd rfl (.inl rfl) (pe_lst pa_nil))
    (pss_cons (ps_for PassesOwn.never rfl (pi_range1 rfl T.m_range (pa_cons (pv 3) pa_nil)) (pg_name (i := 6) nd rfl (.inl rfl))
    (pss_cons (ps_set (i := 7) nd rfl (.inl rfl) (pe_op op_addA pe_int (pe_op op_mulA pe_int (pv 6))))
    (pss_cons (ps_set (i := 8) nd rfl (.inl rfl) (pe_op op_mod (pe_callTy call_int1 rfl T.m_int (by decide +kernel) (pa_cons (pe_ix (ixk K) (pv 0) (pv 7) (fun _ _ => rfl)) pa_nil)) pe_int))
    (pss_cons (ps_set (i := 9) nd rfl (.inl rfl) (pe_op op_mod (pe_callTy call_int1 rfl T.m_int (by decide +kernel) (pa_cons (pe_ix (ixk K) (pv 0) (pe_op op_addA (pv 7) pe_int) (fun _ _ => rfl)) pa_nil)) (pv 4)))
    (pss_cons (ps_set (i := 10) nd rfl (.inl rfl) (pe_listRg rfl rfl T.m_list (prg_1 rfl T.m_range (pv 4))))
    (pss_cons (ps_for PassesOwn.never rfl (pi_range2 rfl T.m_range (pa_cons pe_int (pa_cons (pv 4) pa_nil))) (pg_name (i := 11) nd rfl (.inl rfl))
    (pss_cons (ps_if (pt_cmpR (eqk K hr) (pv 8) pe_int (nomark _)) (pss_one (ps_asg (pv 9) (pg_sub (pv 10) (pv 11) set_list))) pss_nil)
    (pss_cons (ps_if (PW.pt (pw_or (pt_cmpR (eqk K hr) (pv 8) pe_int (nomark _)) (pw_or1 (pt_cmpR (eqk K hr) (pv 8) pe_int (nomark _))))) (pss_one (ps_asg (pe_op op_mod (pe_callTy call_int1 rfl T.m_int (by decide +kernel) (pa_cons (pe_ix (ixk K) (pv 0) (pe_op op_addA (pe_op op_addA (pv 7) pe_int) (pv 11)) (fun _ _ => rfl)) pa_nil)) (pv 4)) (pg_sub (pv 10) (pv 11) set_list))) pss_nil)
    (pss_cons (ps_if (PW.pt (pw_and (pt_cmpR (eqk K hr) (pv 8) pe_int (nomark _)) (pw_and1 (pt_cmpR (eqk K hr) (pe_op op_mod (pe_callTy call_int1 rfl T.m_int (by decide +kernel) (pa_cons (pe_ix (ixk K) (pv 0) (pe_op op_addA (pe_op op_addA (pv 7) pe_int) (pv 11)) (fun _ _ => rfl)) pa_nil)) pe_int) pe_int (nomark _))))) (pss_one (ps_asg pe_int (pg_sub (pv 10) (pv 11) set_list))) pss_nil)
    (pss_one (ps_if (PW.pt (pw_and (pt_cmpR (eqk K hr) (pv 8) pe_int (nomark _)) (pw_and1 (pt_cmpR (nek K hr) (pe_op op_and (pe_ix (ixk K) (pv 2) (pv 11) (fun _ _ => rfl)) (pe_ix (ixk K) (pv 2) (pv 9) (fun _ _ => rfl))) (pe_ix (ixk K) (pv 2) (pv 11) (fun _ _ => rfl)) (nomark _))))) (pss_one (ps_asg pe_int (pg_sub (pv 10) (pv 11) set_list))) pss_nil))))))
    (pss_one (ps_expr (bmk K PySem.F.plainAttrs_list PySem.F.slot_list_append PySem.F.type_list_append mt_append (pv 5) (pa_cons (pe_c (c__law_led_up T) hr (by decide) rfl (pa_cons (pv 1) (pa_cons (pv 10) pa_nil))) pa_nil))))))))))
    (pss_one (ps_ret (pv 5)))))), ?_⟩
    obtain ⟨hd, hj, n2, n5, hm, hr9⟩ := hp
    show DS _ [.val (eIs ds), .val (eTb js), .val (eIs ms), .val (.int (r : Int)), .any, .any, .any, .any, .any, .any, .any, .any] _
    refine ds_setS (de_cb (db_cons (dq_of (de_var rfl)) db_nil) (by walk_at "rc")) ?_
    refine ds_setNS (ds := List.map eIs []) (dn_lst da_nil (Nat.le_of_ble_eq_true rfl)) ?_
    refine ds_seq (ds_fold (fun acc => [.val (eIs ds), .val (eTb js), .val (eIs ms), .val (.int (r : Int)), .val (.int (js.length : Int)), .mu none (.lst (acc.map eIs)), .any, .any, .any, .any, .any, .any]) (fun acc k => acc ++ [v_ledup js (v_wish ds ms js.length k)]) [] (fun n acc => acc.length = n) (dw_rangeN (da_cons (de_var rfl) da_nil) (by walk_at "si")) (by walk_at "wk") rfl (fun n acc k hk hl => ?_) fun hl => ?_)
    · obtain ⟨hk, hk2⟩ := rgI_get hk
      show DS _ [.val (eIs ds), .val (eTb js), .val (eIs ms), .val (.int (r : Int)), .val (.int (js.length : Int)), .mu none (.lst (acc.map eIs)), .val (.int k), .any, .any, .any, .any, .any] _
      refine ds_setS (de_op (dq_of de_int) (dq_of (de_op (dq_of de_int) (dq_of (de_var rfl)) (ro_l (ro_i (by walk_at "cm"))))) (ro_l ro_i0)) ?_
      refine ds_setS (de_op (dq_of (de_cb (db_cons (dq_of (de_op (dq_of (de_var rfl)) (dq_of (de_var rfl)) (ro_gI (by omega) (by omega)))) db_nil) (by walk_at "rc"))) (dq_of de_int) (ro_i (by walk_at "cmod"))) ?_
      refine ds_setS (de_op (dq_of (de_cb (db_cons (dq_of (de_op (dq_of (de_var rfl)) (dq_of (de_op (dq_of (de_var rfl)) (dq_of de_int) (ro_l ro_i0))) (ro_gI (by omega) (by omega)))) db_nil) (by walk_at "rc"))) (dq_of (de_var rfl)) (ro_i (by walk_at "cmod"))) ?_
      refine ds_setNS (ds := List.map DV.int (rgI 0 js.length)) (dn_listrN (de_var rfl) (by walk_at "si")) ?_
      have hto := mod_wd (n := js.length) (by omega) (gI ds (33 + 9 * k + 1))
      show DS _ [.val (eIs ds), .val (eTb js), .val (eIs ms), .val (.int (r : Int)), .val (.int (js.length : Int)), .mu none (.lst (acc.map eIs)), .val (.int k), .val (.int (33 + 9 * k)), .val (.int (gI ds (33 + 9 * k) % 6)), .val (.int (gI ds (33 + 9 * k + 1) % (js.length : Int))), .mu none (.lst ((rgI 0 js.length).map DV.int)), .any] _
      refine ds_seq (ds_fold (fun w => [.val (eIs ds), .val (eTb js), .val (eIs ms), .val (.int (r : Int)), .val (.int (js.length : Int)), .mu none (.lst (acc.map eIs)), .val (.int k), .val (.int (33 + 9 * k)), .val (.int (gI ds (33 + 9 * k) % 6)), .val (.int (gI ds (33 + 9 * k + 1) % (js.length : Int))), .mu none (.lst (w.map DV.int)), .any]) (v_wstep ds ms js.length k) (rgI 0 js.length) (fun _ w => Row js.length js.length w) (dw_range2 (da_cons de_int (da_cons (de_var rfl) da_nil)) (by walk_at "si")) (by walk_at "wk") (rg_row _) (fun m w x hx hw => ?_) fun hw => ?_)
      · have hx := mem_rgI.mp (List.mem_of_getElem? hx)
        have hwl := hw.len
        generalize hst : gI ds (33 + 9 * k) % 6 = st
        generalize hto' : gI ds (33 + 9 * k + 1) % (js.length : Int) = to at hto
        generalize hy : gI ds (33 + 9 * k + 2 + x) = y
        have e0 : v_wstep ds ms js.length k w x = (cond (decide (st = 4) && !decide (Builtin.bitAnd (gI ms x) (gI ms to) = gI ms x)) ((cond (decide (st = 3) && decide (y % 2 = 0)) ((cond (decide (st = 2) || decide (st = 5)) ((cond (decide (st = 1)) (w.set x.toNat to) w).set x.toNat (y % (js.length : Int))) (cond (decide (st = 1)) (w.set x.toNat to) w)).set x.toNat 0) (cond (decide (st = 2) || decide (st = 5)) ((cond (decide (st = 1)) (w.set x.toNat to) w).set x.toNat (y % (js.length : Int))) (cond (decide (st = 1)) (w.set x.toNat to) w))).set x.toNat 0) (cond (decide (st = 3) && decide (y % 2 = 0)) ((cond (decide (st = 2) || decide (st = 5)) ((cond (decide (st = 1)) (w.set x.toNat to) w).set x.toNat (y % (js.length : Int))) (cond (decide (st = 1)) (w.set x.toNat to) w)).set x.toNat 0) (cond (decide (st = 2) || decide (st = 5)) ((cond (decide (st = 1)) (w.set x.toNat to) w).set x.toNat (y % (js.length : Int))) (cond (decide (st = 1)) (w.set x.toNat to) w)))) := by
          rw [← hst, ← hto', ← hy]; rfl
        have hrow := wstep_row (ds := ds) (ms := ms) (k := k) (x := x) (by omega : 0 < js.length) hw
        show DS _ [.val (eIs ds), .val (eTb js), .val (eIs ms), .val (.int (r : Int)), .val (.int (js.length : Int)), .mu none (.lst (acc.map eIs)), .val (.int k), .val (.int (33 + 9 * k)), .val (.int st), .val (.int to), .mu none (.lst (w.map DV.int)), .val (.int x)] _
        refine ds_ifM (fun c => [.val (eIs ds), .val (eTb js), .val (eIs ms), .val (.int (r : Int)), .val (.int (js.length : Int)), .mu none (.lst (acc.map eIs)), .val (.int k), .val (.int (33 + 9 * k)), .val (.int st), .val (.int to), .mu none (.lst ((cond c (w.set x.toNat to) w).map DV.int)), .val (.int x)]) (dt_test (de_op (dq_of (de_var rfl)) (dq_of de_int) (by walk_at "ro"))) (fun _ => ds_setixM (enc := DV.int) (x := to) rfl (de_var rfl) (de_var rfl) (by omega) (by omega) (by walk_at "wk")) (fun _ => by walk_at "wk") ?_
        have l1 : (cond (decide (st = 1)) (w.set x.toNat to) w).length = js.length := by cases decide (st = 1) <;> simp [hwl]
        generalize (cond (decide (st = 1)) (w.set x.toNat to) w) = w1 at l1 e0
        refine ds_ifM (fun c => [.val (eIs ds), .val (eTb js), .val (eIs ms), .val (.int (r : Int)), .val (.int (js.length : Int)), .mu none (.lst (acc.map eIs)), .val (.int k), .val (.int (33 + 9 * k)), .val (.int st), .val (.int to), .mu none (.lst ((cond c (w1.set x.toNat (y % (js.length : Int))) w1).map DV.int)), .val (.int x)]) (dt_or (dt_test (de_op (dq_of (de_var rfl)) (dq_of de_int) (by walk_at "ro"))) (fun _ => (dt_test (de_op (dq_of (de_var rfl)) (dq_of de_int) (by walk_at "ro"))))) (fun _ => ds_setixM (enc := DV.int) (x := y % (js.length : Int)) rfl (hy ▸ (de_op (dq_of (de_cb (db_cons (dq_of (de_op (dq_of (de_var rfl)) (dq_of (de_op (dq_of (de_op (dq_of (de_var rfl)) (dq_of de_int) (ro_l ro_i0))) (dq_of (de_var rfl)) (ro_l ro_i0))) (ro_gI (by omega) (by omega)))) db_nil) (by walk_at "rc"))) (dq_of (de_var rfl)) (ro_i (by walk_at "cmod")))) (de_var rfl) (by omega) (by omega) (by walk_at "wk")) (fun _ => by walk_at "wk") ?_
        have l2 : (cond (decide (st = 2) || decide (st = 5)) (w1.set x.toNat (y % (js.length : Int))) w1).length = js.length := by cases (decide (st = 2) || decide (st = 5)) <;> simp [l1]
        generalize (cond (decide (st = 2) || decide (st = 5)) (w1.set x.toNat (y % (js.length : Int))) w1) = w2 at l2 e0
        refine ds_ifM (fun c => [.val (eIs ds), .val (eTb js), .val (eIs ms), .val (.int (r : Int)), .val (.int (js.length : Int)), .mu none (.lst (acc.map eIs)), .val (.int k), .val (.int (33 + 9 * k)), .val (.int st), .val (.int to), .mu none (.lst ((cond c (w2.set x.toNat 0) w2).map DV.int)), .val (.int x)]) (b := decide (st = 3) && decide (y % 2 = 0)) (hy ▸ (dt_and (dt_test (de_op (dq_of (de_var rfl)) (dq_of de_int) (by walk_at "ro"))) (fun _ => (dt_test (de_op (dq_of (de_op (dq_of (de_cb (db_cons (dq_of (de_op (dq_of (de_var rfl)) (dq_of (de_op (dq_of (de_op (dq_of (de_var rfl)) (dq_of de_int) (ro_l ro_i0))) (dq_of (de_var rfl)) (ro_l ro_i0))) (ro_gI (by omega) (by omega)))) db_nil) (by walk_at "rc"))) (dq_of de_int) (ro_i (by walk_at "cmod")))) (dq_of de_int) (by walk_at "ro")))))) (fun _ => ds_setixM (enc := DV.int) (x := 0) rfl de_int (de_var rfl) (by omega) (by omega) (by walk_at "wk")) (fun _ => by walk_at "wk") ?_
        have l3 : (cond (decide (st = 3) && decide (y % 2 = 0)) (w2.set x.toNat 0) w2).length = js.length := by cases (decide (st = 3) && decide (y % 2 = 0)) <;> simp [l2]
        generalize (cond (decide (st = 3) && decide (y % 2 = 0)) (w2.set x.toNat 0) w2) = w3 at l3 e0
        show DS _ [.val (eIs ds), .val (eTb js), .val (eIs ms), .val (.int (r : Int)), .val (.int (js.length : Int)), .mu none (.lst (acc.map eIs)), .val (.int k), .val (.int (33 + 9 * k)), .val (.int st), .val (.int to), .mu none (.lst (w3.map DV.int)), .val (.int x)] _
        have hms1 : RO (rIx K) (eIs ms) (.int x) (.int (gI ms x)) := ro_gI (by omega) (by omega)
        have hms2 : RO (rIx K) (eIs ms) (.int to) (.int (gI ms to)) := ro_gI hto.1 (by obtain ⟨h1, h2⟩ := hto; omega)
        refine ds_if (dt_and (dt_test (de_op (dq_of (de_var rfl)) (dq_of de_int) (by walk_at "ro"))) (fun _ => (dt_test (de_op (dq_of (de_op (dq_of (de_op (dq_of (de_var rfl)) (dq_of (de_var rfl)) (hms1)           )) (dq_of (de_op (dq_of (de_var rfl)) (dq_of (de_var rfl)) (hms2)           )) ro_i0)) (dq_of (de_op (dq_of (de_var rfl)) (dq_of (de_var rfl)) (hms1)           )) (by walk_at "ro"))))) (fun hb => ds_setixM (enc := DV.int) (x := 0) rfl de_int (de_var rfl) (by omega) (by omega) ⟨?_, hrow⟩) fun hb => ds_next ⟨?_, hrow⟩
        · rw [e0, hb]; walk_at "wk"
        · rw [e0, hb]; walk_at "wk"
      · refine ds_wk (ρ' := [.val (eIs ds), .val (eTb js), .val (eIs ms), .val (.int (r : Int)), .val (.int (js.length : Int)), .mu none (.lst (acc.map eIs)), .any, .any, .any, .any, .val (eIs (v_wish ds ms js.length k)), .any]) (by walk_at "wk") ?_
        exact ds_appM (enc := eIs) (x := v_ledup js (v_wish ds ms js.length k)) rfl (d__law_led_up (da_cons (de_var rfl) (da_cons (de_var rfl) da_nil)) (⟨hj, by omega, by omega, hw⟩)) (by omega) ⟨by walk_at "wk", by rw [List.length_append, hl]; rfl⟩
    · rw [foldl_app, List.nil_append]
      refine ds_wk (ρ' := [.any, .any, .any, .any, .any, .val (eTb (v_srows ds js ms r)), .any, .any, .any, .any, .any, .any]) (by walk_at "wk") ?_
      exact ds_ret (de_var rfl) rfl

end
end DL
end

section
set_option Elab.async false
set_option linter.all false
set_option maxRecDepth 100000
set_option maxHeartbeats 4000000
namespace DL
open PySem PySem.Spec PyProof.Rows L2
theorem cut_to {α : Type} {l : List α} {t : Int} (h0 : 0 ≤ t) : cutD l none (some t) = l.take t.toNat := by
  unfold cutD
  show (l.drop 0).take ((if t < 0 then (t + (l.length : Int)).toNat else min t.toNat l.length) - 0) = _
  rw [if_neg (by omega), List.drop_zero, Nat.sub_zero]
  by_cases h : t.toNat ≤ l.length
  · rw [Nat.min_eq_left h]
  · rw [Nat.min_eq_right (by omega), List.take_length, List.take_of_length_le (by omega)]
theorem cut_from {α : Type} {l : List α} {t : Int} (h0 : 0 ≤ t) : cutD l (some t) none = l.drop t.toNat := by
  unfold cutD
  show (l.drop (if t < 0 then (t + (l.length : Int)).toNat else min t.toNat l.length)).take (l.length - (if t < 0 then (t + (l.length : Int)).toNat else min t.toNat l.length)) = _
  rw [if_neg (by omega)]
  by_cases h : t.toNat ≤ l.length
  · rw [Nat.min_eq_left h, List.take_of_length_le (by rw [List.length_drop]; exact Nat.le_refl _)]
  · rw [Nat.min_eq_right (by omega), List.drop_of_length_le (Nat.le_refl _), List.drop_of_length_le (by omega), List.take_nil]
theorem cut_mid {α : Type} {l : List α} {t u : Int} (h0 : 0 ≤ t) (h1 : t ≤ u) (h2 : u ≤ l.length) : cutD l (some t) (some u) = (l.drop t.toNat).take (u.toNat - t.toNat) := by
  unfold cutD
  show (l.drop (if t < 0 then (t + (l.length : Int)).toNat else min t.toNat l.length)).take ((if u < 0 then (u + (l.length : Int)).toNat else min u.toNat l.length) - (if t < 0 then (t + (l.length : Int)).toNat else min t.toNat l.length)) = _
  rw [if_neg (by omega), if_neg (by omega), Nat.min_eq_left (by omega), Nat.min_eq_left (by omega)]
/-- what letters are drawn, numbers up to w -/
inductive LetK (w : Int) : Sy → Prop
  | add (n : Int) (h : -w ≤ n ∧ n ≤ w) : LetK w ("add", [n])
  | set (n : Int) (h : -w ≤ n ∧ n ≤ w) : LetK w ("set", [n])
  | turn : LetK w ("turn", [])
  | mod (n : Int) (h : 1 ≤ n ∧ n ≤ 6) : LetK w ("mod", [n])
inductive TstK (w : Int) : Sy → Prop
  | below (n : Int) (h : -w ≤ n ∧ n ≤ w) : TstK w ("below", [n])
  | is (n : Int) (h : -w ≤ n ∧ n ≤ w) : TstK w ("is", [n])
  | rest (n r : Int) (h : 1 ≤ n ∧ n ≤ 6) (h2 : 0 ≤ r ∧ r < n) : TstK w ("rest", [n, r])
theorem LetK.ok {w : Int} {s : Sy} (h : LetK w s) : okS s := by
  cases h with
  | add => exact okw "add" _ (by decide +kernel)
  | set => exact okw "set" _ (by decide +kernel)
  | turn => exact okw "turn" _ (by decide +kernel)
  | mod => exact okw "mod" _ (by decide +kernel)
theorem TstK.ok {w : Int} {s : Sy} (h : TstK w s) : okS s := by
  cases h with
  | below => exact okw "below" _ (by decide +kernel)
  | is => exact okw "is" _ (by decide +kernel)
  | rest => exact okw "rest" _ (by decide +kernel)
theorem letter_K (a b : Int) : LetK 3 (v_letter a b) := by
  unfold v_letter
  cases decide (a % 8 < 4)
  · cases decide (a % 8 = 4)
    · cases decide (a % 8 = 5)
      · exact .mod _ (by omega)
      · exact .set _ (by omega)
    · exact .turn
  · refine .add _ ?_
    cases decide (a % 8 < 2)
    · have h5 : b % 5 = 0 ∨ b % 5 = 1 ∨ b % 5 = 2 ∨ b % 5 = 3 ∨ b % 5 = 4 := by omega
      show -3 ≤ gI [1, -1, 2, -2, 3] (b % 5) ∧ gI [1, -1, 2, -2, 3] (b % 5) ≤ 3
      rcases h5 with h | h | h | h | h <;> rw [h] <;> decide
    · show -3 ≤ b % 7 - 3 ∧ b % 7 - 3 ≤ 3
      omega
theorem test_K (a b : Int) : TstK 3 (v_test a b) := by
  unfold v_test
  cases decide (a % 3 = 0)
  · cases decide (a % 3 = 1)
    · refine .rest _ _ (by omega) ?_
      exact ⟨Int.emod_nonneg _ (by omega), Int.emod_lt_of_pos _ (by omega)⟩
    · exact .is _ (by omega)
  · exact .below _ (by omega)
structure AlP (Q : Sy → Prop) (k n : Nat) (ls : List Sy) : Prop where
  len : ls.length ≤ k + n
  ok : ∀ s ∈ ls, Q s
  nd : ls.Nodup
theorem AlP.add {Q : Sy → Prop} {k n : Nat} {ls : List Sy} (h : AlP Q k n ls) {l : Sy} (hl : Q l) : AlP Q k (n + 1) (v_addl ls l) := by
  unfold v_addl
  by_cases hm : l ∈ ls
  · rw [decide_eq_true hm]
    exact ⟨by have := h.len; show ls.length ≤ _; omega, h.ok, h.nd⟩
  · rw [decide_eq_false hm]
    refine ⟨by have := h.len; show (ls ++ [l]).length ≤ _; rw [List.length_append, List.length_singleton]; omega, fun s hs => ?_, ?_⟩
    · rcases List.mem_append.mp hs with hs | hs
      · exact h.ok s hs
      · rw [List.mem_singleton.mp hs]; exact hl
    · show (ls ++ [l]).Nodup
      rw [List.nodup_append]
      exact ⟨h.nd, by simp, fun a ha b hb e => hm (by rw [← List.mem_singleton.mp hb, ← e]; exact ha)⟩
theorem addl_sub {ls : List Sy} {l x : Sy} (h : x ∈ ls) : x ∈ v_addl ls l := by
  unfold v_addl
  cases !decide (l ∈ ls)
  · exact h
  · exact List.mem_append_left _ h
theorem al_fold {Q : Sy → Prop} {k : Nat} {f : Int → Sy} (hf : ∀ x, Q (f x)) : ∀ (xs : List Int) (ls : List Sy) (n : Nat), AlP Q k n ls → AlP Q k (n + xs.length) (xs.foldl (fun ls k => v_addl ls (f k)) ls)
  | [], _, _, h => h
  | x :: xs, ls, n, h => by
    have := al_fold hf xs _ (n + 1) (h.add (hf x))
    rw [List.length_cons, show n + (xs.length + 1) = n + 1 + xs.length by omega]
    exact this
theorem al_keep {f : Int → Sy} {y : Sy} : ∀ (xs : List Int) (ls : List Sy), y ∈ ls → y ∈ xs.foldl (fun ls k => v_addl ls (f k)) ls
  | [], _, h => h
  | x :: xs, ls, h => al_keep xs _ (addl_sub h)
theorem alL_P (ds : List Int) : AlP (LetK 3) 1 2 (v_alL ds) ∧ (("set", [0]) : Sy) ∈ v_alL ds := by
  unfold v_alL
  refine ⟨?_, al_keep _ _ (List.mem_singleton.mpr rfl)⟩
  have h := al_fold (Q := LetK 3) (k := 1) (f := fun k => v_letter (gI ds (20 + 2 + 2 * k)) (gI ds (20 + 3 + 2 * k))) (fun _ => letter_K _ _) (rgI 0 (1 + gI ds 20 % 2).toNat) [(("set", [0]) : Sy)] 0 ⟨Nat.le_refl _, fun s hs => by rw [List.mem_singleton.mp hs]; exact .set 0 (by omega), by simp⟩
  refine ⟨Nat.le_trans h.len ?_, h.ok, h.nd⟩
  rw [rgI_len]; omega
theorem alT_P (ds : List Int) : AlP (TstK 3) 0 3 (v_alT ds) := by
  unfold v_alT
  have h := al_fold (Q := TstK 3) (k := 0) (f := fun k => v_test (gI ds (20 + 2 + 2 * 2 + 2 * k)) (gI ds (20 + 3 + 2 * 2 + 2 * k))) (fun _ => test_K _ _) (rgI 0 (gI ds 21 / 8 % (3 + 1)).toNat) [] 0 ⟨Nat.le_refl _, fun s hs => absurd hs List.not_mem_nil, List.nodup_nil⟩
  refine ⟨Nat.le_trans h.len ?_, h.ok, h.nd⟩
  rw [rgI_len]; omega
/-- an alphabet of letters -/
structure Alp (w : Int) (le te : List Sy) : Prop where
  ok : ∀ s ∈ le, LetK w s
  nd : le.Nodup
  set0 : (("set", [0]) : Sy) ∈ le
  okt : ∀ s ∈ te, TstK w s
  ndt : te.Nodup
theorem alR_perm (ds : List Int) : (v_alR ds).Perm (v_alL ds) := by
  have hl : 0 < (v_alL ds).length := List.length_pos_of_mem (alL_P ds).2
  have h1 := Int.emod_nonneg (gI ds (20 + 1)) (b := ((v_alL ds).length : Int)) (by omega)
  unfold v_alR
  rw [cut_from h1, cut_to h1]
  exact List.perm_append_comm.trans (by rw [List.take_append_drop])
def v_te (ds : List Int) : List Sy := cond (decide (v_alT ds = []) && decide (gI ds 0 % 3 > 0)) [("is", [0])] (v_alT ds)
theorem small_alp (ds : List Int) : Alp 3 (v_alR ds) (v_te ds) ∧ 1 ≤ (v_alR ds).length ∧ (v_alR ds).length ≤ 3 ∧ (v_te ds).length ≤ 3 := by
  obtain ⟨h1, h2⟩ := alL_P ds
  have hp := alR_perm ds
  have ht := alT_P ds
  have hl : 0 < (v_alL ds).length := List.length_pos_of_mem h2
  have hl3 := h1.len
  have htl := ht.len
  refine ⟨⟨fun s hs => h1.ok s (hp.mem_iff.mp hs), hp.nodup_iff.mpr h1.nd, hp.mem_iff.mpr h2, ?_, ?_⟩, by rw [hp.length_eq]; omega, by rw [hp.length_eq]; omega, ?_⟩
  · unfold v_te
    cases (decide (v_alT ds = []) && decide (gI ds 0 % 3 > 0))
    · exact ht.ok
    · exact fun s hs => by rw [List.mem_singleton.mp hs]; exact .is 0 (by omega)
  · unfold v_te
    cases (decide (v_alT ds = []) && decide (gI ds 0 % 3 > 0))
    · exact ht.nd
    · show [(("is", [0]) : Sy)].Nodup; simp
  · unfold v_te
    cases (decide (v_alT ds = []) && decide (gI ds 0 % 3 > 0))
    · show (v_alT ds).length ≤ 3; omega
    · show 1 ≤ 3; omega
end DL
end

section
set_option Elab.async false
set_option linter.all false
set_option maxRecDepth 100000
set_option maxHeartbeats 4000000
namespace DL
open PySem PySem.Spec PyProof.Rows L2
open C8 (Cal pe_c Mak pe_mk)
local macro_rules | `(tactic| walk_at "si") => `(tactic| first
  | with_reducible assumption | omega | (simp only [rgI_len, List.length_map]; omega) | (simp only [decide_eq_true_eq, Bool.and_eq_true, Bool.not_eq_true', decide_eq_false_iff_not] at *; omega))
local macro_rules | `(tactic| walk_at "sz") => `(tactic| first
  | with_reducible assumption | omega | (simp only [rgI_len, List.length_map, List.length_append, List.length_cons, List.length_nil]; omega))
local macro_rules | `(tactic| walk_at "row") => `(tactic| first | with_reducible assumption | ((with_reducible refine Tbl.get (by with_reducible assumption) ?_); walk_at "wd") | exact row_mem (by with_reducible assumption) (by with_reducible assumption))
local macro_rules | `(tactic| walk_at "wd") => `(tactic| first | with_reducible assumption | omega | (constructor <;> omega) | ((with_reducible refine wd_get (by walk_at "row") ?_); walk_at "wd") | exact wd_mem (by with_reducible assumption) (by with_reducible assumption))
local macro_rules | `(tactic| walk_at "rk") => `(tactic| first
  | ((with_reducible apply ro_xL (by decide)); exact rfl) | ((with_reducible apply ro_xT (by decide)); exact rfl) | walk_at "ro")
local macro_rules | `(tactic| walk_at "ro") => `(tactic| first
  | with_reducible exact ro_b0 | with_reducible exact ro_l ro_eqI | with_reducible exact ro_l ro_neI | with_reducible exact ro_l ro_eqB | with_reducible exact ro_l ro_neB | with_reducible exact ro_l ro_eqS | with_reducible exact ro_l ro_neS
  | ((with_reducible refine ro_gLR (by with_reducible assumption) ?_); walk_at "wd") | ((with_reducible refine ro_gIR (by walk_at "row") ?_); walk_at "wd")
  | ((with_reducible refine ro_gI ?_ ?_) <;> walk_at "si") | ((with_reducible refine ro_gL ?_ ?_) <;> walk_at "si") | ((with_reducible refine ro_gIT ?_ ?_) <;> walk_at "si")
  | with_reducible exact ro_gG (by with_reducible assumption) | ((with_reducible refine ro_gT ?_ ?_) <;> walk_at "si")
  | ((with_reducible refine ro_gB ?_ ?_) <;> walk_at "si")
  | ((with_reducible refine ro_gS ?_ ?_) <;> walk_at "si") | ((with_reducible refine ro_gST ?_ ?_) <;> walk_at "si")
  | ((with_reducible refine ro_xM ?_ ?_) <;> walk_at "si") | ((with_reducible refine ro_xTM ?_ ?_) <;> walk_at "si")
  | ((with_reducible apply ro_xL (by decide)); exact rfl) | ((with_reducible apply ro_xT (by decide)); exact rfl)
  | with_reducible exact ro_eqIs | with_reducible exact ro_l ro_inL | with_reducible exact ro_l ro_niL | with_reducible exact ro_l ro_inT | with_reducible exact ro_l ro_inS | with_reducible exact ro_isNN | with_reducible exact ro_notNN | with_reducible exact ro_isNI | with_reducible exact ro_notNI)
local macro_rules | `(tactic| walk_at "rc") => `(tactic| with_reducible first
  | exact rc_lenM | exact rc_lenTM | exact rc_lenL' | exact rc_lenT' | exact rc_ii _ | exact rc_ib _ | exact rc_ss _ | exact rc_tt _ | exact rc_ltl _ | exact rc_ltt _ | exact rc_int | exact rc_abs | exact rc_max2 | exact rc_min2 | exact rc_all | exact rc_sum | exact rc_tupL' | exact rc_tupT' | exact rc_range1)
local macro_rules | `(tactic| walk_at "rcn") => `(tactic| with_reducible first
  | exact rcn_listL' | exact rcn_listT' | exact rcn_sortP)
local macro_rules | `(tactic| walk_at "pre") => `(tactic| first | with_reducible assumption | exact trivial | (refine And.intro ?_ ?_ <;> walk_at "pre") | walk_at "wd" | walk_at "si")
local macro_rules | `(tactic| walk_at "cmod") => `(tactic| (show (0 : Int) < _; first | decide | walk_at "si"))
local macro_rules | `(tactic| walk_at "cd") => `(tactic| (refine And.intro ?_ ?_ <;> walk_at "si"))
local macro_rules | `(tactic| walk_at "cp") => `(tactic| exact ⟨by decide, by decide, by decide⟩)
local macro_rules | `(tactic| walk_at "cm") => `(tactic| first | (refine Or.inl (And.intro ?_ ?_) <;> omega) | (refine Or.inr (And.intro ?_ ?_) <;> omega))
local macro_rules | `(tactic| walk_at "wk") => `(tactic| (repeat (first | exact Wk.nil | exact Wk.refl _ | refine Wk.same ?_ | refine Wk.frz ?_ | refine Wk.drop ?_)))
section
variable {P : PySem.Program} {w : World} {K : PySem.W.Frag} {mg : Str → Option Value} {base : Heap} {CL CB : Addr} (T : Txt K mg CL CB)
include T
def v_gk (ds : List Int) (k : Int) : Int := 1 + gI ds (3 + k) % 15
def v_M0 (ds : List Int) : List Int := (rgI 0 (4 : Int).toNat).foldl (fun ms k => v_mround (v_gk ds k) ms) [0, 15]
def v_M (ds : List Int) : List Int := v_sortM (v_M0 ds)
def v_sR (ds : List Int) : List (List Int) := v_srows ds (v_joinsM (v_M ds)) (v_M ds) ((v_alR ds).length + 2 * (v_te ds).length)
def v_smallD (ds : List Int) : LB :=
  ⟨v_alR ds, v_te ds, v_joinsM (v_M ds), v_M ds, cutD (v_sR ds) none (some ((v_alR ds).length : Int)), cutD (v_sR ds) (some ((v_alR ds).length : Int)) (some (((v_alR ds).length : Int) + ((v_te ds).length : Int))), cutD (v_sR ds) (some (((v_alR ds).length : Int) + ((v_te ds).length : Int))) none, 1 + gI ds 2 % (((v_M ds).length : Int) - 1)⟩
def v_small (c : Int) : LB := v_smallD (v_digits c 120)
omit T in
theorem gk_rng (ds : List Int) (k : Int) : v_gk ds k ∈ rgI 0 16 := mem_rgI.mpr (by unfold v_gk; omega)
omit T in
theorem M0_cl (ds : List Int) : Cl (v_M0 ds) := foldl_inv Cl _ _ cl_start fun ms k _ h => h.round (gk_rng ds k)
omit T in
theorem digits_len (c : Int) (n : Nat) : (v_digits c n).length = n := by
  have h : ∀ (xs : List Int) (b : Int × Int × List Int), (xs.foldl v_dstep b).2.2.length = b.2.2.length + xs.length := by
    intro xs
    induction xs with
    | nil => intro b; rfl
    | cons x xs ih =>
      intro b
      rw [List.foldl_cons, ih, List.length_cons]
      have : (v_dstep b x).2.2.length = b.2.2.length + 1 := by
        unfold v_dstep
        cases decide (b.1 > 0)
        · show (b.2.2 ++ [_]).length = _; rw [List.length_append]; rfl
        · show (b.2.2 ++ [_]).length = _; rw [List.length_append]; rfl
      omega
  unfold v_digits
  rw [h, rgI_len]
  show 0 + n = n
  omega
omit T in
theorem eSys_nil {K : PySem.W.Frag} {l : List Sy} {r : R2} (h : ∀ s ∈ l, okS s) : RO (fun x y H Q => r x y H Q ∨ rEqD K x y H Q) (eSys l) (.lst []) (.bl (decide (l = []))) := ro_r (ro_eqD (n := 2) (by decide) (.lst 1 _ fun d hd => by
  obtain ⟨s, hs, rfl⟩ := List.mem_map.mp hd
  exact .sy (h s hs)) (.lst 1 _ fun d hd => by cases hd) (by
  rw [decide_eq_true_iff]
  constructor
  · intro e; rw [e]; rfl
  · intro e
    injection e with e
    exact List.map_eq_nil_iff.mp e))
omit T in
theorem srtP_len (l : List (Int × Int)) : (srtP l).length = l.length := (srtP_perm l).length_eq
abbrev S_law_small_book : Stmt := top 119
abbrev N_law_small_book : List Str := ["_law_cell_here", "_law_cap", "_law_ds", "_law_letters", "_law_tests", "_law_masks", "_law_k", "_law_new", "_law_mask", "_law_part", "_law_joins", "_law_one", "_law_more", "_law_some", "_law_rows", "_law_pair", "_law_other"]
omit T in
theorem sc__law_small_book : FnScope N_law_small_book ["_law_cell_here", "_law_cap"] (defScope S_law_small_book) := ⟨rfl, rfl, rfl, by decide +kernel, rfl, by decide +kernel, by decide +kernel⟩
def sp__law_small_book : Sp := spD (α := Int) (fun c => [.int c, .int 5]) (fun c => True) (fun c => eLB (v_small c))
omit T in
theorem d__law_small_book {ρ : List Sl} {t : TA} {E : XK} {c : Int} (h : DA t ρ [.int c, .int 5]) (hp : True) : DE (tCall sp__law_small_book [] E t) ρ (eLB (v_small c)) := de_call (α := Int) (enc := fun c => [.int c, .int 5]) (pre := fun c => True) (val := fun c => eLB (v_small c)) c h rfl hp
theorem c__law_small_book : Cal P w K mg base 4 "_law_small_book" sp__law_small_book [] :=
  cal_def (α := Int) (enc := fun c => [.int c, .int 5]) (pre := fun c => True) (val := fun c => eLB (v_small c)) T.f__law_small_book sc__law_small_book (fun c => rfl) (fun _ _ _ _ _ _ us hl => match us, hl with | [_, _], _ => rfl) fun f cdv A outer s H E hr c hp => by
    (try dsimp only at hp)
    have nd := sc__law_small_book.nd
    refine ⟨_, (pss_cons (ps_set (i := 2) nd rfl (.inl rfl) (pe_c (c__law_digits T) hr (by decide) rfl (pa_cons (pv 0) (pa_cons pe_int pa_nil))))
    (pss_cons (ps_asg (pe_c (c__law_alphabet T) hr (by decide) rfl (pa_cons (pv 2) (pa_cons pe_int (pa_cons pe_int (pa_cons pe_int (pa_cons pe_int pa_nil)))))) (pgtk (n := 2) K rfl (pgs_cons (pg_name (i := 3) nd rfl (.inl rfl)) (pgs_cons (pg_name (i := 4) nd rfl (.inl rfl)) pgs_nil))))
    (pss_cons (ps_if (PW.pt (pw_and (pt_cmpR (eqk K hr) (pv 4) (pe_lst pa_nil) (nomark _)) (pw_and1 (pt_cmpR op_gt (pe_op op_mod (pe_callTy call_int1 rfl T.m_int (by decide +kernel) (pa_cons (pe_ix (ixk K) (pv 2) pe_int (fun _ _ => rfl)) pa_nil)) pe_int) pe_int (nomark _))))) (pss_one (ps_set (i := 4) nd rfl (.inl rfl) (pe_lst (pa_cons (pe_tup (pa_cons pe_str (pa_cons pe_int pa_nil))) pa_nil)))) pss_nil)
    (pss_cons (ps_set (i := 5) nd rfl (.inr rfl) (pe_lst (pa_cons pe_int (pa_cons pe_int pa_nil))))
    (pss_cons (ps_for PassesOwn.never rfl (pi_range1 rfl T.m_range (pa_cons pe_int pa_nil)) (pg_name (i := 6) nd rfl (.inl rfl))
    (pss_cons (ps_set (i := 7) nd rfl (.inl rfl) (pe_lst pa_nil))
    (pss_cons (ps_for PassesOwn.never rfl (pilk K (pv 5)) (pg_name (i := 8) nd rfl (.inl rfl))
    (pss_cons (ps_set (i := 9) nd rfl (.inl rfl) (pe_op op_and (pv 8) (pe_op op_addA pe_int (pe_op op_mod (pe_callTy call_int1 rfl T.m_int (by decide +kernel) (pa_cons (pe_ix (ixk K) (pv 2) (pe_op op_addA pe_int (pv 6)) (fun _ _ => rfl)) pa_nil)) pe_int))))
    (pss_one (ps_if (PW.pt (pw_and (pt_cmpR (nik K hr) (pv 9) (pv 5) (by rfl)) (pw_and1 (pt_cmpR (nik K hr) (pv 9) (pv 7) (by rfl))))) (pss_one (ps_expr (bmk K PySem.F.plainAttrs_list PySem.F.slot_list_append PySem.F.type_list_append mt_append (pv 7) (pa_cons (pv 9) pa_nil)))) pss_nil))))
    (pss_one (ps_if (pt_cmpR op_le (pe_op op_addA (pe_callB (lenk K) rfl T.m_len (by decide +kernel) (pa_cons (pv 5) pa_nil)) (pe_callB (lenk K) rfl T.m_len (by decide +kernel) (pa_cons (pv 7) pa_nil))) (pv 1) (nomark _)) (pss_one (ps_set (i := 5) nd rfl (.inr rfl) (pe_op op_addA (pv 5) (pv 7)))) pss_nil)))))
    (pss_cons (ps_set (i := 5) nd rfl (.inr rfl) (pe_lc (own := [("_law_pair", 15)]) rfl nd (pilk K (pe_callB (srPk K) rfl T.m_sorted (by decide +kernel) (pa_cons (pe_lc (own := [("_law_mask", 8)]) rfl nd (pilk K (pv 5)) (blkOk_by (sc := defScope S_law_small_book) (N := N_law_small_book) (own := [("_law_mask", 8)]) (by decide +kernel)) (fun _ _ _ _ _ => (pg_name (i := 8) nd rfl (by first | exact .inl rfl | exact .inr rfl))) (fun _ _ _ _ _ => pts_nil) (fun _ _ _ _ _ => (pe_tup (pa_cons (pe_callB (sumk K rfl) rfl T.m_sum (by decide +kernel) (pa_cons (pe_lc (own := [("_law_k", 6)]) rfl nd (pi_range1 rfl T.m_range (pa_cons pe_int pa_nil)) (blkOk_by (sc := relS _ (defScope S_law_small_book)) (N := N_law_small_book) (own := [("_law_k", 6)]) (by decide +kernel)) (fun _ _ _ _ _ => (pg_name (i := 6) nd rfl (by first | exact .inl rfl | exact .inr rfl))) (fun _ _ _ _ _ => pts_nil) (fun _ _ _ _ _ => (pe_op op_and (pe_op op_shr (pv 8) (pv 6)) pe_int))) pa_nil)) (pa_cons (pv 8) pa_nil))))) pa_nil))) (blkOk_by (sc := defScope S_law_small_book) (N := N_law_small_book) (own := [("_law_pair", 15)]) (by decide +kernel)) (fun _ _ _ _ _ => (pg_name (i := 15) nd rfl (by first | exact .inl rfl | exact .inr rfl))) (fun _ _ _ _ _ => pts_nil) (fun _ _ _ _ _ => (pe_ix (ixk K) (pv 15) pe_int (fun _ _ => rfl)))))
    (pss_cons (ps_set (i := 10) nd rfl (.inl rfl) (pe_lst pa_nil))
    (pss_cons (ps_for PassesOwn.never rfl (pilk K (pv 5)) (pg_name (i := 11) nd rfl (.inr rfl))
    (pss_one (ps_expr (bmk K PySem.F.plainAttrs_list PySem.F.slot_list_append PySem.F.type_list_append mt_append (pv 10) (pa_cons (pe_lc (own := [("_law_other", 16)]) rfl nd (pilk K (pv 5)) (blkOk_by (sc := defScope S_law_small_book) (N := N_law_small_book) (own := [("_law_other", 16)]) (by decide +kernel)) (fun _ _ _ _ _ => (pg_name (i := 16) nd rfl (by first | exact .inl rfl | exact .inr rfl))) (fun _ _ _ _ _ => pts_nil) (fun _ _ _ _ _ => (pe_ix (ixk K) (pe_lc (own := [("_law_k", 6)]) rfl nd (pi_range1 rfl T.m_range (pa_cons (pe_callB (lenk K) rfl T.m_len (by decide +kernel) (pa_cons (pv 5) pa_nil)) pa_nil)) (blkOk_by (sc := relS _ (defScope S_law_small_book)) (N := N_law_small_book) (own := [("_law_k", 6)]) (by decide +kernel)) (fun _ _ _ _ _ => (pg_name (i := 6) nd rfl (by first | exact .inl rfl | exact .inr rfl))) (fun _ _ _ _ _ => pts_one (pt_cmpR (eqk K hr) (pe_op op_and (pe_op op_or (pv 11) (pv 16)) (pe_ix (ixk K) (pv 5) (pv 6) (fun _ _ => rfl))) (pe_op op_or (pv 11) (pv 16)) (nomark _))) (fun _ _ _ _ _ => (pv 6))) pe_int (fun _ _ => rfl)))) pa_nil)))))
    (pss_cons (ps_set (i := 12) nd rfl (.inl rfl) (pe_callB (lenk K) rfl T.m_len (by decide +kernel) (pa_cons (pv 3) pa_nil)))
    (pss_cons (ps_set (i := 13) nd rfl (.inl rfl) (pe_callB (lenk K) rfl T.m_len (by decide +kernel) (pa_cons (pv 4) pa_nil)))
    (pss_cons (ps_set (i := 14) nd rfl (.inl rfl) (pe_c (c__law_small_rows T) hr (by decide) rfl (pa_cons (pv 2) (pa_cons (pv 10) (pa_cons (pv 5) (pa_cons (pe_op op_addA (pv 12) (pe_op op_mulA pe_int (pv 13))) pa_nil))))))
    (pss_one (ps_ret (pe_lst (pa_cons (pv 3) (pa_cons (pv 4) (pa_cons (pv 10) (pa_cons (pv 5) (pa_cons (pe_slice (slk K) (pv 14) po_none (po_some (pv 12))) (pa_cons (pe_slice (slk K) (pv 14) (po_some (pv 12)) (po_some (pe_op op_addA (pv 12) (pv 13)))) (pa_cons (pe_slice (slk K) (pv 14) (po_some (pe_op op_addA (pv 12) (pv 13))) po_none) (pa_cons (pe_op op_addA pe_int (pe_op op_mod (pe_callTy call_int1 rfl T.m_int (by decide +kernel) (pa_cons (pe_ix (ixk K) (pv 2) pe_int (fun _ _ => rfl)) pa_nil)) (pe_op op_sub (pe_callB (lenk K) rfl T.m_len (by decide +kernel) (pa_cons (pv 5) pa_nil)) pe_int))) pa_nil)))))))))))))))))))))), ?_⟩
    have hd := digits_len c 120
    obtain ⟨hA, hA1, hA2, hA3⟩ := small_alp (v_digits c 120)
    have hokT := (alT_P (v_digits c 120)).ok
    show DS _ [.val (.int c), .val (.int 5), .any, .any, .any, .any, .any, .any, .any, .any, .any, .any, .any, .any, .any, .any, .any] _
    refine ds_setS (d := eIs (v_digits c 120)) (d__law_digits (da_cons (de_var rfl) (da_cons de_int da_nil)) (by walk_at "pre")) ?_
    generalize hds : v_digits c 120 = ds at *
    refine ds_seq (ds_asg (d__law_alphabet (da_cons (de_var rfl) (da_cons de_int (da_cons de_int (da_cons de_int (da_cons de_int da_nil))))) (by walk_at "pre")) (dg_tup rfl (dgs_cons dg_name (dgs_cons dg_name dgs_nil))) ?_)
    show DS _ [.val (.int c), .val (.int 5), .val (eIs ds), .val (eSys (v_alR ds)), .val (eSys (v_alT ds)), .any, .any, .any, .any, .any, .any, .any, .any, .any, .any, .any, .any] _
    refine ds_ifM (fun b => [.val (.int c), .val (.int 5), .val (eIs ds), .val (eSys (v_alR ds)), .val (eSys (cond b [(("is", [0]) : Sy)] (v_alT ds))), .any, .any, .any, .any, .any, .any, .any, .any, .any, .any, .any, .any]) (dt_and (dt_test (de_op (dq_of (de_var rfl)) (dn_dq (dn_lst da_nil (Nat.le_of_ble_eq_true rfl))) (eSys_nil fun s hs => (hokT s hs).ok))) (fun _ => (dt_test (de_op (dq_of (de_op (dq_of (de_cb (db_cons (dq_of (de_op (dq_of (de_var rfl)) (dq_of de_int) (ro_gI (by omega) (by omega)))) db_nil) (by walk_at "rc"))) (dq_of de_int) (ro_i (by walk_at "cmod")))) (dq_of de_int) ro_b0)))) (fun _ => ds_set (dn_de (dn_is (dn_lst (da_cons (de_tup (da_cons de_str (da_cons de_int da_nil)) (Nat.le_of_ble_eq_true rfl)) da_nil) (Nat.le_of_ble_eq_true rfl)) (rfl : _ = List.map eSy [("is", [0])]))) (by walk_at "wk")) (fun _ => by walk_at "wk") ?_
    show DS _ [.val (.int c), .val (.int 5), .val (eIs ds), .val (eSys (v_alR ds)), .val (eSys (v_te ds)), .any, .any, .any, .any, .any, .any, .any, .any, .any, .any, .any, .any] _
    refine ds_setS (dn_de (dn_is (dn_lst (da_cons de_int (da_cons de_int da_nil)) (Nat.le_of_ble_eq_true rfl)) (rfl : _ = List.map DV.int [0, 15]))) ?_
    refine ds_seq (ds_fold (fun ms => [.val (.int c), .val (.int 5), .val (eIs ds), .val (eSys (v_alR ds)), .val (eSys (v_te ds)), .val (eIs ms), .any, .any, .any, .any, .any, .any, .any, .any, .any, .any, .any]) (fun ms k => v_mround (v_gk ds k) ms) [0, 15] (fun _ ms => Cl ms) (dw_range1 (da_cons de_int da_nil) (by walk_at "si")) (by walk_at "wk") cl_start (fun n ms k hk hI => ?_) fun hI => ?_)
    · have hk := mem_rgI.mp (List.mem_of_getElem? hk)
      have hk4 : 0 ≤ k ∧ k < 4 := by have := hk.2; have : k < 0 + 4 := this; omega
      have hl := hI.len
      have hN := hI.round (gk_rng ds k)
      show DS _ [.val (.int c), .val (.int 5), .val (eIs ds), .val (eSys (v_alR ds)), .val (eSys (v_te ds)), .val (eIs ms), .val (.int k), .any, .any, .any, .any, .any, .any, .any, .any, .any, .any] _
      refine ds_setNS (ds := List.map DV.int []) (dn_lst da_nil (Nat.le_of_ble_eq_true rfl)) ?_
      refine ds_seq (ds_fold (fun new => [.val (.int c), .val (.int 5), .val (eIs ds), .val (eSys (v_alR ds)), .val (eSys (v_te ds)), .val (eIs ms), .val (.int k), .mu none (.lst (new.map DV.int)), .any, .any, .any, .any, .any, .any, .any, .any, .any]) (v_mstep ms (v_gk ds k)) [] (fun n new => new.length ≤ n) (dw_list (de_var rfl)) (by walk_at "wk") (Nat.zero_le _) (fun m new x hx hn => ?_) fun hn => ?_)
      · have hm := getElem?_lt hx
        show DS _ [.val (.int c), .val (.int 5), .val (eIs ds), .val (eSys (v_alR ds)), .val (eSys (v_te ds)), .val (eIs ms), .val (.int k), .mu none (.lst (new.map DV.int)), .val (.int x), .any, .any, .any, .any, .any, .any, .any, .any] _
        refine ds_setS (de_op (dq_of (de_var rfl)) (dq_of (de_op (dq_of de_int) (dq_of (de_op (dq_of (de_cb (db_cons (dq_of (de_op (dq_of (de_var rfl)) (dq_of (de_op (dq_of de_int) (dq_of (de_var rfl)) (ro_l ro_i0))) (ro_gI (by omega) (by omega)))) db_nil) (by walk_at "rc"))) (dq_of de_int) (ro_i (by walk_at "cmod")))) (ro_l ro_i0))) ro_i0) ?_
        show DS _ [.val (.int c), .val (.int 5), .val (eIs ds), .val (eSys (v_alR ds)), .val (eSys (v_te ds)), .val (eIs ms), .val (.int k), .mu none (.lst (new.map DV.int)), .val (.int x), .val (.int (bd x (v_gk ds k))), .any, .any, .any, .any, .any, .any, .any] _
        refine ds_if (dt_and (dt_test (de_op (dq_of (de_var rfl)) (dq_of (de_var rfl)) (by walk_at "ro"))) (fun _ => (dt_test (de_op (dq_of (de_var rfl)) (by first | exact dq_of (de_var rfl) | exact dq_own rfl) (by walk_at "ro"))))) (fun hb => ds_appM (enc := DV.int) (x := bd x (v_gk ds k)) rfl (de_var rfl) (by omega) ?_) fun hb => ds_next ?_
        · unfold v_mstep
          rw [hb]
          exact ⟨by walk_at "wk", by show (_ ++ [_]).length ≤ _; rw [List.length_append, List.length_singleton]; omega⟩
        · unfold v_mstep
          rw [hb]
          exact ⟨by walk_at "wk", by show new.length ≤ _; omega⟩
      · have hn : (v_mnew (v_gk ds k) ms).length ≤ ms.length := hn
        show DS _ [.val (.int c), .val (.int 5), .val (eIs ds), .val (eSys (v_alR ds)), .val (eSys (v_te ds)), .val (eIs ms), .val (.int k), .mu none (.lst ((v_mnew (v_gk ds k) ms).map DV.int)), .any, .any, .any, .any, .any, .any, .any, .any, .any] _
        refine ds_if (dt_test (de_op (dq_of (de_op (dq_of (de_cb (db_cons (dq_of (de_var rfl)) db_nil) (by walk_at "rc"))) (dq_of (de_cb (db_cons (by first | exact dq_of (de_var rfl) | exact dq_own rfl) db_nil) (by walk_at "rc"))) (ro_l ro_i0))) (dq_of (de_var rfl)) ro_b0)) (fun hb => ds_set (dn_de (dn_op (dq_of (de_var rfl)) (by first | exact dq_of (de_var rfl) | exact dq_own rfl) (rn_r (rn_catM (by walk_at "sz"))))) ⟨?_, hN⟩) fun hb => ds_next ⟨?_, hN⟩
        · unfold v_mround
          rw [hb]; walk_at "wk"
        · unfold v_mround
          rw [hb]; walk_at "wk"
    · have hI : Cl (v_M0 ds) := hI
      have hl := hI.len
      show DS _ [.val (.int c), .val (.int 5), .val (eIs ds), .val (eSys (v_alR ds)), .val (eSys (v_te ds)), .val (eIs (v_M0 ds)), .any, .any, .any, .any, .any, .any, .any, .any, .any, .any, .any] _
      have hF := okM_fam (fam_ok hI)
      have hML : (v_M ds).length = (v_M0 ds).length := (sortM_perm _).length_eq
      have hF : FamOk (v_M ds) := hF
      have hn2 := hF.n2
      refine ds_setS (d := eIs (v_M ds)) (dn_de (dn_lc2 DV.int (dw_list (dn_de (dn_cb (db_cons (dn_dq (dn_lc2 (e := fun m => (v_pop m, m)) ePr (dw_list (de_var rfl)) (by walk_at "sz") (by decide) (fun x_mask hx_x_mask => by (try rw [mem_rgI] at hx_x_mask); exact (de_tup (da_cons (de_cb (db_cons (dn_dq (dn_lc2 DV.int (dw_range1 (da_cons de_int da_nil) (by walk_at "si")) (by walk_at "sz") (by decide) (fun x_k hx_x_k => by (try rw [mem_rgI] at hx_x_k); exact (de_op (dq_of (de_op (dq_of (de_var rfl)) (dq_of (de_var rfl)) (ro_i (by walk_at "si")))) (dq_of de_int) ro_i0)))) db_nil) (by walk_at "rc")) (da_cons (de_var rfl) da_nil)) (Nat.le_of_ble_eq_true rfl))))) db_nil) (by walk_at "rcn")))) ((by rw [srtP_len, List.length_map]; omega)) (by decide) (fun x_pair hx_x_pair => by (try rw [mem_rgI] at hx_x_pair); exact (de_op (dq_of (de_var rfl)) (dq_of de_int) (by walk_at "rk"))))) ?_
      have hne := hF.ne
      have hJ := hF.lat.tbl
      have hjl : (v_joinsM (v_M ds)).length = (v_M ds).length := hJ.len
      generalize hM : v_M ds = M at *
      refine ds_setNS (ds := List.map eIs []) (dn_lst da_nil (Nat.le_of_ble_eq_true rfl)) ?_
      refine ds_seq (ds_fold (fun acc => [.val (.int c), .val (.int 5), .val (eIs ds), .val (eSys (v_alR ds)), .val (eSys (v_te ds)), .val (eIs M), .any, .any, .any, .any, .mu none (.lst (acc.map eIs)), .any, .any, .any, .any, .any, .any]) (fun acc o => acc ++ [M.map fun p => gI (v_jk M o p) 0]) [] (fun n acc => acc.length = n) (dw_list (de_var rfl)) (by walk_at "wk") rfl (fun n acc o ho hacc => ?_) fun hacc => ?_)
      · have hn := getElem?_lt ho
        have ho := List.mem_of_getElem? ho
        show DS _ [.val (.int c), .val (.int 5), .val (eIs ds), .val (eSys (v_alR ds)), .val (eSys (v_te ds)), .val (eIs M), .any, .any, .any, .any, .mu none (.lst (acc.map eIs)), .val (.int o), .any, .any, .any, .any, .any] _
        exact ds_appM (enc := eIs) (x := M.map fun p => gI (v_jk M o p) 0) rfl (dn_de (dn_lc2 DV.int (dw_list (de_var rfl)) (by walk_at "sz") (by decide) (fun x_other hx_x_other => by (try rw [mem_rgI] at hx_x_other); exact (de_op (dn_dq (dn_lcf2 DV.int (dw_rangeN (da_cons (de_cb (db_cons (dq_of (de_var rfl)) db_nil) (by walk_at "rc")) da_nil) (by walk_at "si")) (by walk_at "sz") (by decide) (fun x_k hx_x_k => by (try rw [mem_rgI] at hx_x_k); exact (dt_test (de_op (dq_of (de_op (dq_of (de_op (dq_of (de_var rfl)) (dq_of (de_var rfl)) ro_i0)) (dq_of (de_op (dq_of (de_var rfl)) (dq_of (de_var rfl)) (ro_gI (by omega) (by omega)))) ro_i0)) (dq_of (de_op (dq_of (de_var rfl)) (dq_of (de_var rfl)) ro_i0)) (by walk_at "ro")))) (fun x_k hx_x_k hf_x_k => by (try rw [mem_rgI] at hx_x_k); exact (de_var rfl)))) (dq_of de_int) ((by rw [List.map_id']; exact ro_gI (by decide) (Int.natCast_pos.mpr (hne o ho _ hx_x_other)))))))) (by omega) ⟨by walk_at "wk", by rw [List.length_append, hacc]; rfl⟩
      · rw [foldl_app, List.nil_append]
        refine ds_wk (ρ' := [.val (.int c), .val (.int 5), .val (eIs ds), .val (eSys (v_alR ds)), .val (eSys (v_te ds)), .val (eIs M), .any, .any, .any, .any, .val (eTb (v_joinsM M)), .any, .any, .any, .any, .any, .any]) (by walk_at "wk") ?_
        refine ds_setS (de_cb (db_cons (dq_of (de_var rfl)) db_nil) (by walk_at "rc")) ?_
        refine ds_setS (de_cb (db_cons (dq_of (de_var rfl)) db_nil) (by walk_at "rc")) ?_
        refine ds_setS (d := eTb (v_srows ds (v_joinsM M) M ((v_alR ds).length + 2 * (v_te ds).length))) (de_is (d__law_small_rows (da_cons (de_var rfl) (da_cons (de_var rfl) (da_cons (de_var rfl) (da_cons (de_op (dq_of (de_var rfl)) (dq_of (de_op (dq_of de_int) (dq_of (de_var rfl)) (ro_l (ro_i (by walk_at "cm"))))) (ro_l ro_i0)) da_nil)))) (⟨hd, by rw [hjl]; exact hJ, by omega, by omega, by omega, show (v_alR ds).length + 2 * (v_te ds).length ≤ 9 by omega⟩)) rfl) ?_
        refine ds_ret (dn_de (dn_lst (da_cons (de_var rfl) (da_cons (de_var rfl) (da_cons (de_var rfl) (da_cons (de_var rfl) (da_cons (dn_de (dn_slM (dq_of (de_var rfl)) do_none (do_some (de_var rfl)))) (da_cons (dn_de (dn_slM (dq_of (de_var rfl)) (do_some (de_var rfl)) (do_some (de_op (dq_of (de_var rfl)) (dq_of (de_var rfl)) (ro_l ro_i0))))) (da_cons (dn_de (dn_slM (dq_of (de_var rfl)) (do_some (de_op (dq_of (de_var rfl)) (dq_of (de_var rfl)) (ro_l ro_i0))) do_none)) (da_cons (de_op (dq_of de_int) (dq_of (de_op (dq_of (de_cb (db_cons (dq_of (de_op (dq_of (de_var rfl)) (dq_of de_int) (ro_gI (by omega) (by omega)))) db_nil) (by walk_at "rc"))) (dq_of (de_op (dq_of (de_cb (db_cons (dq_of (de_var rfl)) db_nil) (by walk_at "rc"))) (dq_of de_int) ro_i0)) (ro_i (by walk_at "cmod")))) (ro_l ro_i0)) da_nil)))))))) (Nat.le_of_ble_eq_true rfl))) ?_
        show _ = eLB (v_small c)
        rw [v_small, hds, v_smallD, v_sR, hM]

end
end DL
end

section
set_option Elab.async false
set_option linter.all false
set_option maxRecDepth 100000
set_option maxHeartbeats 4000000
namespace DL
open PySem PySem.Spec PyProof.Rows L2
open C8 (Cal pe_c Mak pe_mk)
local macro_rules | `(tactic| walk_at "si") => `(tactic| first
  | with_reducible assumption | omega | (simp only [rgI_len, List.length_map]; omega) | (simp only [decide_eq_true_eq, Bool.and_eq_true, Bool.not_eq_true', decide_eq_false_iff_not] at *; omega))
local macro_rules | `(tactic| walk_at "sz") => `(tactic| first
  | with_reducible assumption | omega | (simp only [rgI_len, List.length_map, List.length_append, List.length_cons, List.length_nil]; omega))
local macro_rules | `(tactic| walk_at "row") => `(tactic| first | with_reducible assumption | ((with_reducible refine Tbl.get (by with_reducible assumption) ?_); walk_at "wd") | exact row_mem (by with_reducible assumption) (by with_reducible assumption))
local macro_rules | `(tactic| walk_at "wd") => `(tactic| first | with_reducible assumption | omega | (constructor <;> omega) | ((with_reducible refine wd_get (by walk_at "row") ?_); walk_at "wd") | exact wd_mem (by with_reducible assumption) (by with_reducible assumption))
local macro_rules | `(tactic| walk_at "rk") => `(tactic| first
  | ((with_reducible apply ro_xL (by decide)); exact rfl) | ((with_reducible apply ro_xT (by decide)); exact rfl) | walk_at "ro")
local macro_rules | `(tactic| walk_at "ro") => `(tactic| first
  | with_reducible exact ro_b0 | with_reducible exact ro_l ro_eqI | with_reducible exact ro_l ro_neI | with_reducible exact ro_l ro_eqB | with_reducible exact ro_l ro_neB | with_reducible exact ro_l ro_eqS | with_reducible exact ro_l ro_neS
  | ((with_reducible refine ro_gLR (by with_reducible assumption) ?_); walk_at "wd") | ((with_reducible refine ro_gIR (by walk_at "row") ?_); walk_at "wd")
  | ((with_reducible refine ro_gI ?_ ?_) <;> walk_at "si") | ((with_reducible refine ro_gL ?_ ?_) <;> walk_at "si") | ((with_reducible refine ro_gIT ?_ ?_) <;> walk_at "si")
  | with_reducible exact ro_gG (by with_reducible assumption) | ((with_reducible refine ro_gT ?_ ?_) <;> walk_at "si")
  | ((with_reducible refine ro_gB ?_ ?_) <;> walk_at "si")
  | ((with_reducible refine ro_gS ?_ ?_) <;> walk_at "si") | ((with_reducible refine ro_gST ?_ ?_) <;> walk_at "si")
  | ((with_reducible refine ro_xM ?_ ?_) <;> walk_at "si") | ((with_reducible refine ro_xTM ?_ ?_) <;> walk_at "si")
  | ((with_reducible apply ro_xL (by decide)); exact rfl) | ((with_reducible apply ro_xT (by decide)); exact rfl)
  | with_reducible exact ro_eqIs | with_reducible exact ro_l ro_inL | with_reducible exact ro_l ro_niL | with_reducible exact ro_l ro_inT | with_reducible exact ro_l ro_inS | with_reducible exact ro_isNN | with_reducible exact ro_notNN | with_reducible exact ro_isNI | with_reducible exact ro_notNI)
local macro_rules | `(tactic| walk_at "rc") => `(tactic| with_reducible first
  | exact rc_lenM | exact rc_lenTM | exact rc_lenL' | exact rc_lenT' | exact rc_ii _ | exact rc_ib _ | exact rc_ss _ | exact rc_tt _ | exact rc_ltl _ | exact rc_ltt _ | exact rc_int | exact rc_abs | exact rc_max2 | exact rc_min2 | exact rc_all | exact rc_sum | exact rc_tupL' | exact rc_tupT' | exact rc_range1)
local macro_rules | `(tactic| walk_at "rcn") => `(tactic| with_reducible first
  | exact rcn_listL' | exact rcn_listT' | exact rcn_sortP)
local macro_rules | `(tactic| walk_at "pre") => `(tactic| first | with_reducible assumption | exact trivial | (refine And.intro ?_ ?_ <;> walk_at "pre") | walk_at "wd" | walk_at "si")
local macro_rules | `(tactic| walk_at "cmod") => `(tactic| (show (0 : Int) < _; first | decide | walk_at "si"))
local macro_rules | `(tactic| walk_at "cd") => `(tactic| (refine And.intro ?_ ?_ <;> walk_at "si"))
local macro_rules | `(tactic| walk_at "cp") => `(tactic| exact ⟨by decide, by decide, by decide⟩)
local macro_rules | `(tactic| walk_at "cm") => `(tactic| first | (refine Or.inl (And.intro ?_ ?_) <;> omega) | (refine Or.inr (And.intro ?_ ?_) <;> omega))
local macro_rules | `(tactic| walk_at "wk") => `(tactic| (repeat (first | exact Wk.nil | exact Wk.refl _ | refine Wk.same ?_ | refine Wk.frz ?_ | refine Wk.drop ?_)))
section
variable {P : PySem.Program} {w : World} {K : PySem.W.Frag} {mg : Str → Option Value} {base : Heap} {CL CB : Addr} (T : Txt K mg CL CB)
include T
def v_moreL (b : LB) : LB := { b with le := b.le ++ [(("add", [20]) : Sy)], de := b.de ++ [rgI 0 b.js.length] }
def v_turnL (b : LB) : LB := { b with le := b.le.reverse, de := b.de.reverse }
def v_moreT (b : LB) : LB := { b with te := b.te ++ [(("is", [20]) : Sy)], so := b.so ++ [rgI 0 b.js.length], no := b.no ++ [rgI 0 b.js.length] }
def v_turnT (b : LB) : LB := { b with te := b.te.reverse, so := b.so.reverse, no := b.no.reverse }
abbrev S_law_more_letters : Stmt := top 122
abbrev N_law_more_letters : List Str := ["_law_book", "_law_same"]
omit T in
theorem sc__law_more_letters : FnScope N_law_more_letters ["_law_book"] (defScope S_law_more_letters) := ⟨rfl, rfl, rfl, by decide +kernel, rfl, by decide +kernel, by decide +kernel⟩
def sp__law_more_letters : Sp := spD (α := LB) (fun b => [eLB b]) (fun b => WF b) (fun b => eLB (v_moreL b))
omit T in
theorem d__law_more_letters {ρ : List Sl} {t : TA} {E : XK} {b : LB} (h : DA t ρ [eLB b]) (hp : WF b) : DE (tCall sp__law_more_letters [] E t) ρ (eLB (v_moreL b)) := de_call (α := LB) (enc := fun b => [eLB b]) (pre := fun b => WF b) (val := fun b => eLB (v_moreL b)) b h rfl hp
theorem c__law_more_letters : Cal P w K mg base 1 "_law_more_letters" sp__law_more_letters [] :=
  cal_def (α := LB) (enc := fun b => [eLB b]) (pre := fun b => WF b) (val := fun b => eLB (v_moreL b)) T.f__law_more_letters sc__law_more_letters (fun b => rfl) (fun _ _ _ _ _ _ us hl => match us, hl with | [_], _ => rfl) fun f cdv A outer s H E hr b hp => by
    (try dsimp only at hp)
    have nd := sc__law_more_letters.nd
    refine ⟨_, (pss_cons (ps_set (i := 1) nd rfl (.inl rfl) (pe_listRg rfl rfl T.m_list (prg_1 rfl T.m_range (pe_callB (lenk K) rfl T.m_len (by decide +kernel) (pa_cons (pe_ix (ixk K) (pv 0) pe_int (fun _ _ => rfl)) pa_nil)))))
    (pss_one (ps_ret (pe_lst (pa_cons (pe_op op_addA (pe_ix (ixk K) (pv 0) pe_int (fun _ _ => rfl)) (pe_lst (pa_cons (pe_tup (pa_cons pe_str (pa_cons pe_int pa_nil))) pa_nil))) (pa_cons (pe_ix (ixk K) (pv 0) pe_int (fun _ _ => rfl)) (pa_cons (pe_ix (ixk K) (pv 0) pe_int (fun _ _ => rfl)) (pa_cons (pe_ix (ixk K) (pv 0) pe_int (fun _ _ => rfl)) (pa_cons (pe_op op_addA (pe_ix (ixk K) (pv 0) pe_int (fun _ _ => rfl)) (pe_lst (pa_cons (pv 1) pa_nil))) (pa_cons (pe_ix (ixk K) (pv 0) pe_int (fun _ _ => rfl)) (pa_cons (pe_ix (ixk K) (pv 0) pe_int (fun _ _ => rfl)) (pa_cons (pe_ix (ixk K) (pv 0) pe_int (fun _ _ => rfl)) pa_nil)))))))))))), ?_⟩
    obtain ⟨n2, n9, js, ms, le1, le4, te4, de, so, no, fi, okl, okt⟩ := id hp
    have dl := de.len
    show DS _ [.val (eLB b), .any] _
    refine ds_setS (dn_de (dn_listrN (de_cb (db_cons (dq_of (de_op (dq_of (de_var rfl)) (dq_of de_int) (by walk_at "rk"))) db_nil) (by walk_at "rc")) (by walk_at "si"))) ?_
    exact ds_ret (dn_de (dn_lst (da_cons (dn_de (dn_op (dq_of (de_op (dq_of (de_var rfl)) (dq_of de_int) (by walk_at "rk"))) (dn_dq (dn_is (dn_lst (da_cons (de_tup (da_cons de_str (da_cons de_int da_nil)) (Nat.le_of_ble_eq_true rfl)) da_nil) (Nat.le_of_ble_eq_true rfl)) (rfl : _ = List.map eSy [("add", [20])]))) (rn_r (rn_catM (by walk_at "sz"))))) (da_cons (de_op (dq_of (de_var rfl)) (dq_of de_int) (by walk_at "rk")) (da_cons (de_op (dq_of (de_var rfl)) (dq_of de_int) (by walk_at "rk")) (da_cons (de_op (dq_of (de_var rfl)) (dq_of de_int) (by walk_at "rk")) (da_cons (dn_de (dn_op (dq_of (de_op (dq_of (de_var rfl)) (dq_of de_int) (by walk_at "rk"))) (dn_dq (dn_is (dn_lst (da_cons (de_var rfl) da_nil) (Nat.le_of_ble_eq_true rfl)) (rfl : _ = List.map eIs [rgI 0 b.js.length]))) (rn_r (rn_catM (by walk_at "sz"))))) (da_cons (de_op (dq_of (de_var rfl)) (dq_of de_int) (by walk_at "rk")) (da_cons (de_op (dq_of (de_var rfl)) (dq_of de_int) (by walk_at "rk")) (da_cons (de_op (dq_of (de_var rfl)) (dq_of de_int) (by walk_at "rk")) da_nil)))))))) (Nat.le_of_ble_eq_true rfl))) rfl
abbrev S_law_turned_letters : Stmt := top 123
abbrev N_law_turned_letters : List Str := ["_law_book"]
omit T in
theorem sc__law_turned_letters : FnScope N_law_turned_letters ["_law_book"] (defScope S_law_turned_letters) := ⟨rfl, rfl, rfl, by decide +kernel, rfl, by decide +kernel, by decide +kernel⟩
def sp__law_turned_letters : Sp := spD (α := LB) (fun b => [eLB b]) (fun b => WF b) (fun b => eLB (v_turnL b))
omit T in
theorem d__law_turned_letters {ρ : List Sl} {t : TA} {E : XK} {b : LB} (h : DA t ρ [eLB b]) (hp : WF b) : DE (tCall sp__law_turned_letters [] E t) ρ (eLB (v_turnL b)) := de_call (α := LB) (enc := fun b => [eLB b]) (pre := fun b => WF b) (val := fun b => eLB (v_turnL b)) b h rfl hp
theorem c__law_turned_letters : Cal P w K mg base 1 "_law_turned_letters" sp__law_turned_letters [] :=
  cal_def (α := LB) (enc := fun b => [eLB b]) (pre := fun b => WF b) (val := fun b => eLB (v_turnL b)) T.f__law_turned_letters sc__law_turned_letters (fun b => rfl) (fun _ _ _ _ _ _ us hl => match us, hl with | [_], _ => rfl) fun f cdv A outer s H E hr b hp => by
    (try dsimp only at hp)
    have nd := sc__law_turned_letters.nd
    refine ⟨_, (pss_one (ps_ret (pe_lst (pa_cons (revk K (pe_ix (ixk K) (pv 0) pe_int (fun _ _ => rfl))) (pa_cons (pe_ix (ixk K) (pv 0) pe_int (fun _ _ => rfl)) (pa_cons (pe_ix (ixk K) (pv 0) pe_int (fun _ _ => rfl)) (pa_cons (pe_ix (ixk K) (pv 0) pe_int (fun _ _ => rfl)) (pa_cons (revk K (pe_ix (ixk K) (pv 0) pe_int (fun _ _ => rfl))) (pa_cons (pe_ix (ixk K) (pv 0) pe_int (fun _ _ => rfl)) (pa_cons (pe_ix (ixk K) (pv 0) pe_int (fun _ _ => rfl)) (pa_cons (pe_ix (ixk K) (pv 0) pe_int (fun _ _ => rfl)) pa_nil))))))))))), ?_⟩
    show DS _ [.val (eLB b)] _
    exact ds_ret (dn_de (dn_lst (da_cons (dn_de (dn_revM (dq_of (de_op (dq_of (de_var rfl)) (dq_of de_int) (by walk_at "rk"))))) (da_cons (de_op (dq_of (de_var rfl)) (dq_of de_int) (by walk_at "rk")) (da_cons (de_op (dq_of (de_var rfl)) (dq_of de_int) (by walk_at "rk")) (da_cons (de_op (dq_of (de_var rfl)) (dq_of de_int) (by walk_at "rk")) (da_cons (dn_de (dn_revM (dq_of (de_op (dq_of (de_var rfl)) (dq_of de_int) (by walk_at "rk"))))) (da_cons (de_op (dq_of (de_var rfl)) (dq_of de_int) (by walk_at "rk")) (da_cons (de_op (dq_of (de_var rfl)) (dq_of de_int) (by walk_at "rk")) (da_cons (de_op (dq_of (de_var rfl)) (dq_of de_int) (by walk_at "rk")) da_nil)))))))) (Nat.le_of_ble_eq_true rfl))) rfl
abbrev S_law_more_tests : Stmt := top 124
abbrev N_law_more_tests : List Str := ["_law_book", "_law_same"]
omit T in
theorem sc__law_more_tests : FnScope N_law_more_tests ["_law_book"] (defScope S_law_more_tests) := ⟨rfl, rfl, rfl, by decide +kernel, rfl, by decide +kernel, by decide +kernel⟩
def sp__law_more_tests : Sp := spD (α := LB) (fun b => [eLB b]) (fun b => WF b) (fun b => eLB (v_moreT b))
omit T in
theorem d__law_more_tests {ρ : List Sl} {t : TA} {E : XK} {b : LB} (h : DA t ρ [eLB b]) (hp : WF b) : DE (tCall sp__law_more_tests [] E t) ρ (eLB (v_moreT b)) := de_call (α := LB) (enc := fun b => [eLB b]) (pre := fun b => WF b) (val := fun b => eLB (v_moreT b)) b h rfl hp
theorem c__law_more_tests : Cal P w K mg base 1 "_law_more_tests" sp__law_more_tests [] :=
  cal_def (α := LB) (enc := fun b => [eLB b]) (pre := fun b => WF b) (val := fun b => eLB (v_moreT b)) T.f__law_more_tests sc__law_more_tests (fun b => rfl) (fun _ _ _ _ _ _ us hl => match us, hl with | [_], _ => rfl) fun f cdv A outer s H E hr b hp => by
    (try dsimp only at hp)
    have nd := sc__law_more_tests.nd
    refine ⟨_, (pss_cons (ps_set (i := 1) nd rfl (.inl rfl) (pe_listRg rfl rfl T.m_list (prg_1 rfl T.m_range (pe_callB (lenk K) rfl T.m_len (by decide +kernel) (pa_cons (pe_ix (ixk K) (pv 0) pe_int (fun _ _ => rfl)) pa_nil)))))
    (pss_one (ps_ret (pe_lst (pa_cons (pe_ix (ixk K) (pv 0) pe_int (fun _ _ => rfl)) (pa_cons (pe_op op_addA (pe_ix (ixk K) (pv 0) pe_int (fun _ _ => rfl)) (pe_lst (pa_cons (pe_tup (pa_cons pe_str (pa_cons pe_int pa_nil))) pa_nil))) (pa_cons (pe_ix (ixk K) (pv 0) pe_int (fun _ _ => rfl)) (pa_cons (pe_ix (ixk K) (pv 0) pe_int (fun _ _ => rfl)) (pa_cons (pe_ix (ixk K) (pv 0) pe_int (fun _ _ => rfl)) (pa_cons (pe_op op_addA (pe_ix (ixk K) (pv 0) pe_int (fun _ _ => rfl)) (pe_lst (pa_cons (pv 1) pa_nil))) (pa_cons (pe_op op_addA (pe_ix (ixk K) (pv 0) pe_int (fun _ _ => rfl)) (pe_lst (pa_cons (pv 1) pa_nil))) (pa_cons (pe_ix (ixk K) (pv 0) pe_int (fun _ _ => rfl)) pa_nil)))))))))))), ?_⟩
    obtain ⟨n2, n9, js, ms, le1, le4, te4, de, so, no, fi, okl, okt⟩ := id hp
    have sl := so.len
    have nl := no.len
    show DS _ [.val (eLB b), .any] _
    refine ds_setS (dn_de (dn_listrN (de_cb (db_cons (dq_of (de_op (dq_of (de_var rfl)) (dq_of de_int) (by walk_at "rk"))) db_nil) (by walk_at "rc")) (by walk_at "si"))) ?_
    exact ds_ret (dn_de (dn_lst (da_cons (de_op (dq_of (de_var rfl)) (dq_of de_int) (by walk_at "rk")) (da_cons (dn_de (dn_op (dq_of (de_op (dq_of (de_var rfl)) (dq_of de_int) (by walk_at "rk"))) (dn_dq (dn_is (dn_lst (da_cons (de_tup (da_cons de_str (da_cons de_int da_nil)) (Nat.le_of_ble_eq_true rfl)) da_nil) (Nat.le_of_ble_eq_true rfl)) (rfl : _ = List.map eSy [("is", [20])]))) (rn_r (rn_catM (by walk_at "sz"))))) (da_cons (de_op (dq_of (de_var rfl)) (dq_of de_int) (by walk_at "rk")) (da_cons (de_op (dq_of (de_var rfl)) (dq_of de_int) (by walk_at "rk")) (da_cons (de_op (dq_of (de_var rfl)) (dq_of de_int) (by walk_at "rk")) (da_cons (dn_de (dn_op (dq_of (de_op (dq_of (de_var rfl)) (dq_of de_int) (by walk_at "rk"))) (dn_dq (dn_is (dn_lst (da_cons (de_var rfl) da_nil) (Nat.le_of_ble_eq_true rfl)) (rfl : _ = List.map eIs [rgI 0 b.js.length]))) (rn_r (rn_catM (by walk_at "sz"))))) (da_cons (dn_de (dn_op (dq_of (de_op (dq_of (de_var rfl)) (dq_of de_int) (by walk_at "rk"))) (dn_dq (dn_is (dn_lst (da_cons (de_var rfl) da_nil) (Nat.le_of_ble_eq_true rfl)) (rfl : _ = List.map eIs [rgI 0 b.js.length]))) (rn_r (rn_catM (by walk_at "sz"))))) (da_cons (de_op (dq_of (de_var rfl)) (dq_of de_int) (by walk_at "rk")) da_nil)))))))) (Nat.le_of_ble_eq_true rfl))) rfl
abbrev S_law_turned_tests : Stmt := top 125
abbrev N_law_turned_tests : List Str := ["_law_book"]
omit T in
theorem sc__law_turned_tests : FnScope N_law_turned_tests ["_law_book"] (defScope S_law_turned_tests) := ⟨rfl, rfl, rfl, by decide +kernel, rfl, by decide +kernel, by decide +kernel⟩
def sp__law_turned_tests : Sp := spD (α := LB) (fun b => [eLB b]) (fun b => WF b) (fun b => eLB (v_turnT b))
omit T in
theorem d__law_turned_tests {ρ : List Sl} {t : TA} {E : XK} {b : LB} (h : DA t ρ [eLB b]) (hp : WF b) : DE (tCall sp__law_turned_tests [] E t) ρ (eLB (v_turnT b)) := de_call (α := LB) (enc := fun b => [eLB b]) (pre := fun b => WF b) (val := fun b => eLB (v_turnT b)) b h rfl hp
theorem c__law_turned_tests : Cal P w K mg base 1 "_law_turned_tests" sp__law_turned_tests [] :=
  cal_def (α := LB) (enc := fun b => [eLB b]) (pre := fun b => WF b) (val := fun b => eLB (v_turnT b)) T.f__law_turned_tests sc__law_turned_tests (fun b => rfl) (fun _ _ _ _ _ _ us hl => match us, hl with | [_], _ => rfl) fun f cdv A outer s H E hr b hp => by
    (try dsimp only at hp)
    have nd := sc__law_turned_tests.nd
    refine ⟨_, (pss_one (ps_ret (pe_lst (pa_cons (pe_ix (ixk K) (pv 0) pe_int (fun _ _ => rfl)) (pa_cons (revk K (pe_ix (ixk K) (pv 0) pe_int (fun _ _ => rfl))) (pa_cons (pe_ix (ixk K) (pv 0) pe_int (fun _ _ => rfl)) (pa_cons (pe_ix (ixk K) (pv 0) pe_int (fun _ _ => rfl)) (pa_cons (pe_ix (ixk K) (pv 0) pe_int (fun _ _ => rfl)) (pa_cons (revk K (pe_ix (ixk K) (pv 0) pe_int (fun _ _ => rfl))) (pa_cons (revk K (pe_ix (ixk K) (pv 0) pe_int (fun _ _ => rfl))) (pa_cons (pe_ix (ixk K) (pv 0) pe_int (fun _ _ => rfl)) pa_nil))))))))))), ?_⟩
    show DS _ [.val (eLB b)] _
    exact ds_ret (dn_de (dn_lst (da_cons (de_op (dq_of (de_var rfl)) (dq_of de_int) (by walk_at "rk")) (da_cons (dn_de (dn_revM (dq_of (de_op (dq_of (de_var rfl)) (dq_of de_int) (by walk_at "rk"))))) (da_cons (de_op (dq_of (de_var rfl)) (dq_of de_int) (by walk_at "rk")) (da_cons (de_op (dq_of (de_var rfl)) (dq_of de_int) (by walk_at "rk")) (da_cons (de_op (dq_of (de_var rfl)) (dq_of de_int) (by walk_at "rk")) (da_cons (dn_de (dn_revM (dq_of (de_op (dq_of (de_var rfl)) (dq_of de_int) (by walk_at "rk"))))) (da_cons (dn_de (dn_revM (dq_of (de_op (dq_of (de_var rfl)) (dq_of de_int) (by walk_at "rk"))))) (da_cons (de_op (dq_of (de_var rfl)) (dq_of de_int) (by walk_at "rk")) da_nil)))))))) (Nat.le_of_ble_eq_true rfl))) rfl
abbrev S_law_couples_in_form : Stmt := top 126
abbrev N_law_couples_in_form : List Str := ["_law_told_here", "_law_couple"]
omit T in
theorem sc__law_couples_in_form : FnScope N_law_couples_in_form ["_law_told_here"] (defScope S_law_couples_in_form) := ⟨rfl, rfl, rfl, by decide +kernel, rfl, by decide +kernel, by decide +kernel⟩
def sp__law_couples_in_form : Sp := spD (α := List (Int × Int)) (fun ps => [.tup (ps.map ePr)]) (fun ps => True) (fun ps => .bl true)
omit T in
theorem d__law_couples_in_form {ρ : List Sl} {t : TA} {E : XK} {ps : List (Int × Int)} (h : DA t ρ [.tup (ps.map ePr)]) (hp : True) : DE (tCall sp__law_couples_in_form [] E t) ρ (.bl true) := de_call (α := List (Int × Int)) (enc := fun ps => [.tup (ps.map ePr)]) (pre := fun ps => True) (val := fun ps => .bl true) ps h rfl hp
theorem c__law_couples_in_form : Cal P w K mg base 2 "_law_couples_in_form" sp__law_couples_in_form [] :=
  cal_def (α := List (Int × Int)) (enc := fun ps => [.tup (ps.map ePr)]) (pre := fun ps => True) (val := fun ps => .bl true) T.f__law_couples_in_form sc__law_couples_in_form (fun ps => rfl) (fun _ _ _ _ _ _ us hl => match us, hl with | [_], _ => rfl) fun f cdv A outer s H E hr ps hp => by
    (try dsimp only at hp)
    have nd := sc__law_couples_in_form.nd
    refine ⟨_, (pss_cons (ps_if (pt_not (pt_val (pe_callB (isik K) rfl T.m_isinstance (by decide +kernel) (pa_cons (pv 0) (pa_cons (pe_bltn (v := .ty "tuple") rfl T.m_tuple (by decide +kernel) rfl) pa_nil))))) (pss_one (ps_ret pe_bl)) pss_nil)
    (pss_cons (ps_for PassesOwn.never rfl (pitk K (pv 0)) (pg_name (i := 1) nd rfl (.inl rfl))
    (pss_cons (ps_if (PW.pt (pw_or (pt_not (pt_val (pe_callB (isik K) rfl T.m_isinstance (by decide +kernel) (pa_cons (pv 1) (pa_cons (pe_bltn (v := .ty "tuple") rfl T.m_tuple (by decide +kernel) rfl) pa_nil))))) (pw_or1 (pt_cmpR (nek K hr) (pe_callB (lenk K) rfl T.m_len (by decide +kernel) (pa_cons (pv 1) pa_nil)) pe_int (nomark _))))) (pss_one (ps_ret pe_bl)) pss_nil)
    (pss_one (ps_if (PW.pt (pw_or (pt_not (pt_val (pe_c (c__law_whole T) hr (by decide) rfl (pa_cons (pe_ix (ixk K) (pv 1) pe_int (fun _ _ => rfl)) pa_nil)))) (pw_or1 (pt_not (pt_val (pe_c (c__law_whole T) hr (by decide) rfl (pa_cons (pe_ix (ixk K) (pv 1) pe_int (fun _ _ => rfl)) pa_nil))))))) (pss_one (ps_ret pe_bl)) pss_nil))))
    (pss_one (ps_ret pe_bl)))), ?_⟩
    show DS _ [.val (.tup (ps.map ePr)), .any] _
    refine ds_ifFS (dt_not (dt_B (de_cb (db_cons (dq_of (de_var rfl)) (db_cons (dq_of de_ty) db_nil)) (by walk_at "rc")))) rfl ?_
    refine ds_seq (ds_each (xs := ps) (enc := ePr) [.val (.tup (ps.map ePr)), .any] (dw_tup (de_var rfl)) (by walk_at "wk") (fun p hp => ?_) ?_)
    · show DS _ [.val (.tup (ps.map ePr)), .val (ePr p)] _
      refine ds_ifFS (dt_or (dt_not (dt_B (de_cb (db_cons (dq_of (de_var rfl)) (db_cons (dq_of de_ty) db_nil)) (by walk_at "rc")))) (fun _ => (dt_test (de_op (dq_of (de_cb (db_cons (dq_of (de_var rfl)) db_nil) (by walk_at "rc"))) (dq_of de_int) (by walk_at "ro"))))) rfl ?_
      refine ds_if (dt_or (dt_not (dt_B (d__law_whole (da_cons (de_op (dq_of (de_var rfl)) (dq_of de_int) (by walk_at "rk")) da_nil) (by walk_at "pre")))) (fun _ => (dt_not (dt_B (d__law_whole (da_cons (de_op (dq_of (de_var rfl)) (dq_of de_int) (by walk_at "rk")) da_nil) (by walk_at "pre")))))) (fun h => by cases h) fun _ => ds_next (by walk_at "wk")
    · exact ds_ret de_bl rfl

end
end DL
end

section
set_option Elab.async false
set_option linter.all false
set_option maxRecDepth 100000
set_option maxHeartbeats 4000000
namespace DL
open PySem PySem.Spec PyProof.Rows L2
open C8 (Cal pe_c Mak pe_mk)
local macro_rules | `(tactic| walk_at "si") => `(tactic| first
  | with_reducible assumption | omega | (simp only [rgI_len, List.length_map]; omega) | (simp only [decide_eq_true_eq, Bool.and_eq_true, Bool.not_eq_true', decide_eq_false_iff_not] at *; omega))
local macro_rules | `(tactic| walk_at "sz") => `(tactic| first
  | with_reducible assumption | omega | (simp only [rgI_len, List.length_map, List.length_append, List.length_cons, List.length_nil]; omega))
local macro_rules | `(tactic| walk_at "row") => `(tactic| first | with_reducible assumption | ((with_reducible refine Tbl.get (by with_reducible assumption) ?_); walk_at "wd") | exact row_mem (by with_reducible assumption) (by with_reducible assumption))
local macro_rules | `(tactic| walk_at "wd") => `(tactic| first | with_reducible assumption | omega | (constructor <;> omega) | ((with_reducible refine wd_get (by walk_at "row") ?_); walk_at "wd") | exact wd_mem (by with_reducible assumption) (by with_reducible assumption))
local macro_rules | `(tactic| walk_at "rk") => `(tactic| first
  | ((with_reducible apply ro_xL (by decide)); exact rfl) | ((with_reducible apply ro_xT (by decide)); exact rfl) | walk_at "ro")
local macro_rules | `(tactic| walk_at "ro") => `(tactic| first
  | with_reducible exact ro_b0 | with_reducible exact ro_l ro_eqI | with_reducible exact ro_l ro_neI | with_reducible exact ro_l ro_eqB | with_reducible exact ro_l ro_neB | with_reducible exact ro_l ro_eqS | with_reducible exact ro_l ro_neS
  | ((with_reducible refine ro_gLR (by with_reducible assumption) ?_); walk_at "wd") | ((with_reducible refine ro_gIR (by walk_at "row") ?_); walk_at "wd")
  | ((with_reducible refine ro_gI ?_ ?_) <;> walk_at "si") | ((with_reducible refine ro_gL ?_ ?_) <;> walk_at "si") | ((with_reducible refine ro_gIT ?_ ?_) <;> walk_at "si")
  | with_reducible exact ro_gG (by with_reducible assumption) | ((with_reducible refine ro_gT ?_ ?_) <;> walk_at "si")
  | ((with_reducible refine ro_gB ?_ ?_) <;> walk_at "si")
  | ((with_reducible refine ro_gS ?_ ?_) <;> walk_at "si") | ((with_reducible refine ro_gST ?_ ?_) <;> walk_at "si")
  | ((with_reducible refine ro_xM ?_ ?_) <;> walk_at "si") | ((with_reducible refine ro_xTM ?_ ?_) <;> walk_at "si")
  | ((with_reducible apply ro_xL (by decide)); exact rfl) | ((with_reducible apply ro_xT (by decide)); exact rfl)
  | with_reducible exact ro_eqIs | with_reducible exact ro_l ro_inL | with_reducible exact ro_l ro_niL | with_reducible exact ro_l ro_inT | with_reducible exact ro_l ro_inS | with_reducible exact ro_isNN | with_reducible exact ro_notNN | with_reducible exact ro_isNI | with_reducible exact ro_notNI)
local macro_rules | `(tactic| walk_at "rc") => `(tactic| with_reducible first
  | exact rc_lenM | exact rc_lenTM | exact rc_lenL' | exact rc_lenT' | exact rc_ii _ | exact rc_ib _ | exact rc_ss _ | exact rc_tt _ | exact rc_ltl _ | exact rc_ltt _ | exact rc_int | exact rc_abs | exact rc_max2 | exact rc_min2 | exact rc_all | exact rc_sum | exact rc_tupL' | exact rc_tupT' | exact rc_range1)
local macro_rules | `(tactic| walk_at "rcn") => `(tactic| with_reducible first
  | exact rcn_listL' | exact rcn_listT' | exact rcn_sortP)
local macro_rules | `(tactic| walk_at "pre") => `(tactic| first | with_reducible assumption | exact trivial | (refine And.intro ?_ ?_ <;> walk_at "pre") | walk_at "wd" | walk_at "si")
local macro_rules | `(tactic| walk_at "cmod") => `(tactic| (show (0 : Int) < _; first | decide | walk_at "si"))
local macro_rules | `(tactic| walk_at "cd") => `(tactic| (refine And.intro ?_ ?_ <;> walk_at "si"))
local macro_rules | `(tactic| walk_at "cp") => `(tactic| exact ⟨by decide, by decide, by decide⟩)
local macro_rules | `(tactic| walk_at "cm") => `(tactic| first | (refine Or.inl (And.intro ?_ ?_) <;> omega) | (refine Or.inr (And.intro ?_ ?_) <;> omega))
local macro_rules | `(tactic| walk_at "wk") => `(tactic| (repeat (first | exact Wk.nil | exact Wk.refl _ | refine Wk.same ?_ | refine Wk.frz ?_ | refine Wk.drop ?_)))
section
variable {P : PySem.Program} {w : World} {K : PySem.W.Frag} {mg : Str → Option Value} {base : Heap} {CL CB : Addr} (T : Txt K mg CL CB)
include T
def seqD (c : Bool) (ds : List DV) : DV := cond c (.tup ds) (.lst ds)
omit T in
theorem rc_tupS {K : PySem.W.Frag} {c : Bool} {ds : List DV} : RC (rTup K) [seqD c ds] (.tup ds) := by
  cases c
  · exact rc_tupL'
  · exact rc_tupT'
abbrev nsLot : List Str := ["low", "high", "inside", "modulus", "ups", "downs"]
abbrev vLot (lo hi : Int) (a : List DV) (md : Int) (u d : List DV) : List DV := [.int lo, .int hi, .tup a, .int md, .tup u, .tup d]
abbrev InLot : Type := Int × Int × List DV × Int × List DV × List DV × Bool
def sp_mk_Lot (C : Addr) : Sp := spI (α := InLot) C nsLot (fun x => [.int x.1, .int x.2.1, seqD x.2.2.2.2.2.2 x.2.2.1, .int x.2.2.2.1, seqD x.2.2.2.2.2.2 x.2.2.2.2.1, seqD x.2.2.2.2.2.2 x.2.2.2.2.2.1]) (fun _ => True) (fun x => vLot x.1 x.2.1 x.2.2.1 x.2.2.2.1 x.2.2.2.2.1 x.2.2.2.2.2.1)
omit T in
theorem d_mk_LotL {C : Addr} {ρ : List Sl} {t : TA} {E : XK} {lo hi md : Int} {a u d : List DV} (h : DA t ρ [.int lo, .int hi, .lst a, .int md, .lst u, .lst d]) (hp : True) : DE (tMake C (sp_mk_Lot C) [] E t) ρ (.ins C nsLot (vLot lo hi a md u d)) :=
  de_mk (α := InLot) (lo, hi, a, md, u, d, false) h rfl hp
omit T in
theorem d_mk_LotT {C : Addr} {ρ : List Sl} {t : TA} {E : XK} {lo hi md : Int} {a u d : List DV} (h : DA t ρ [.int lo, .int hi, .tup a, .int md, .tup u, .tup d]) (hp : True) : DE (tMake C (sp_mk_Lot C) [] E t) ρ (.ins C nsLot (vLot lo hi a md u d)) :=
  de_mk (α := InLot) (lo, hi, a, md, u, d, true) h rfl hp
abbrev NI_Lot : List Str := ["self", "low", "high", "inside", "modulus", "ups", "downs"]
omit T in
theorem sci_Lot : FnScope NI_Lot ["self", "low", "high", "inside", "modulus", "ups", "downs"] (defScope (inClass (top 15) 0)) := ⟨rfl, rfl, rfl, by decide +kernel, rfl, by decide +kernel, by decide +kernel⟩


omit T in
theorem de_tupS {K : PySem.W.Frag} {ρ : List Sl} {te : TE} {c : Bool} {ds : List DV} (h : DE te ρ (seqD c ds)) : DE (tCB (rTup K) (tCons te tNil)) ρ (.tup ds) := de_cb (db_cons (dq_of h) db_nil) rc_tupS
theorem mk_Lot : Mak P w K mg base 1 "Lot" CL (sp_mk_Lot CL) [] :=
  mak_def (α := InLot) (enc := fun x => [.int x.1, .int x.2.1, seqD x.2.2.2.2.2.2 x.2.2.1, .int x.2.2.2.1, seqD x.2.2.2.2.2.2 x.2.2.2.2.1, seqD x.2.2.2.2.2.2 x.2.2.2.2.2.1]) (pre := fun _ => True) (val := fun x => vLot x.1 x.2.1 x.2.2.1 x.2.2.2.1 x.2.2.2.2.1 x.2.2.2.2.2.1) T.mk_Lot T.g_Lot sci_Lot (fun _ => rfl) (fun _ _ _ _ _ _ us hl => match us, hl with | [_, _, _, _, _, _, _], _ => rfl) fun f cdv A outer s H E hr x hp a => by
    (try dsimp only at hp)
    have nd := sci_Lot.nd
    refine ⟨_, (pss_cons (ps_fld (pv 0) (pv 1) rfl)
    (pss_cons (ps_fld (pv 0) (pv 2) rfl)
    (pss_cons (ps_fld (pv 0) (pe_callTy (tupk K) rfl T.m_tuple (by decide +kernel) (pa_cons (pv 3) pa_nil)) rfl)
    (pss_cons (ps_fld (pv 0) (pv 4) rfl)
    (pss_cons (ps_fld (pv 0) (pe_callTy (tupk K) rfl T.m_tuple (by decide +kernel) (pa_cons (pv 5) pa_nil)) rfl)
    (pss_one (ps_fld (pv 0) (pe_callTy (tupk K) rfl T.m_tuple (by decide +kernel) (pa_cons (pv 6) pa_nil)) rfl))))))), ?_⟩
    obtain ⟨lo, hi, ins, md, u, d, c⟩ := x
    show DS _ [.mu (some a) (.obj CL [] []), .val (.int lo), .val (.int hi), .val (seqD c ins), .val (.int md), .val (seqD c u), .val (seqD c d)] _
    refine ds_seq (ds_fld T.cls_Lot T.no_Lot_low rfl (de_var rfl) (by decide) (by decide) ?_)
    refine ds_seq (ds_fld T.cls_Lot T.no_Lot_high rfl (de_var rfl) (by decide) (by decide) ?_)
    refine ds_seq (ds_fld T.cls_Lot T.no_Lot_inside rfl (de_tupS (de_var rfl)) (by decide) (by decide) ?_)
    refine ds_seq (ds_fld T.cls_Lot T.no_Lot_modulus rfl (de_var rfl) (by decide) (by decide) ?_)
    refine ds_seq (ds_fld T.cls_Lot T.no_Lot_ups rfl (de_tupS (de_var rfl)) (by decide) (by decide) ?_)
    exact ds_fld T.cls_Lot T.no_Lot_downs rfl (de_tupS (de_var rfl)) (by decide) (by decide) rfl
abbrev S_told_by : Stmt := top 20
abbrev N_told_by : List Str := ["number", "low", "high", "core", "period", "ups", "downs"]
omit T in
theorem sc_told_by : FnScope N_told_by ["number", "low", "high", "core", "period", "ups", "downs"] (defScope S_told_by) := ⟨rfl, rfl, rfl, by decide +kernel, rfl, by decide +kernel, by decide +kernel⟩
def sp_told_by : Sp := spD (α := Int × Int × Int × List Bool) (fun ⟨n, lo, hi, core⟩ => [.int n, .int lo, .int hi, eBs core, .int 1, eBs [false], eBs [false]]) (fun ⟨n, lo, hi, core⟩ => lo ≤ n ∧ n ≤ hi ∧ (core.length : Int) = hi - lo + 1) (fun ⟨n, lo, hi, core⟩ => .bl (gB core (n - lo)))
omit T in
theorem d_told_by {ρ : List Sl} {t : TA} {E : XK} {n lo hi : Int} {core : List Bool} (h : DA t ρ [.int n, .int lo, .int hi, eBs core, .int 1, eBs [false], eBs [false]]) (hp : lo ≤ n ∧ n ≤ hi ∧ (core.length : Int) = hi - lo + 1) : DE (tCall sp_told_by [] E t) ρ (.bl (gB core (n - lo))) := de_call (α := Int × Int × Int × List Bool) (enc := fun ⟨n, lo, hi, core⟩ => [.int n, .int lo, .int hi, eBs core, .int 1, eBs [false], eBs [false]]) (pre := fun ⟨n, lo, hi, core⟩ => lo ≤ n ∧ n ≤ hi ∧ (core.length : Int) = hi - lo + 1) (val := fun ⟨n, lo, hi, core⟩ => .bl (gB core (n - lo))) ⟨n, lo, hi, core⟩ h rfl hp
theorem c_told_by : Cal P w K mg base 1 "told_by" sp_told_by [] :=
  cal_def (α := Int × Int × Int × List Bool) (enc := fun ⟨n, lo, hi, core⟩ => [.int n, .int lo, .int hi, eBs core, .int 1, eBs [false], eBs [false]]) (pre := fun ⟨n, lo, hi, core⟩ => lo ≤ n ∧ n ≤ hi ∧ (core.length : Int) = hi - lo + 1) (val := fun ⟨n, lo, hi, core⟩ => .bl (gB core (n - lo))) T.f_told_by sc_told_by (fun ⟨n, lo, hi, core⟩ => rfl) (fun _ _ _ _ _ _ us hl => match us, hl with | [_, _, _, _, _, _, _], _ => rfl) fun f cdv A outer s H E hr ⟨n, lo, hi, core⟩ hp => by
    (try dsimp only at hp)
    have nd := sc_told_by.nd
    refine ⟨_, (pss_cons (ps_if (pt_cmpR op_lt (pv 0) (pv 1) (nomark _)) (pss_one (ps_ret (pe_ix (ixk K) (pv 6) (pe_op op_mod (pv 0) (pv 4)) (fun _ _ => rfl)))) pss_nil)
    (pss_cons (ps_if (pt_cmpR op_gt (pv 0) (pv 2) (nomark _)) (pss_one (ps_ret (pe_ix (ixk K) (pv 5) (pe_op op_mod (pv 0) (pv 4)) (fun _ _ => rfl)))) pss_nil)
    (pss_one (ps_ret (pe_ix (ixk K) (pv 3) (pe_op op_sub (pv 0) (pv 1)) (fun _ _ => rfl)))))), ?_⟩
    obtain ⟨h1, h2, h3⟩ := hp
    show DS _ [.val (.int n), .val (.int lo), .val (.int hi), .val (eBs core), .val (.int 1), .val (eBs [false]), .val (eBs [false])] _
    refine ds_ifFS (dt_test (de_op (dq_of (de_var rfl)) (dq_of (de_var rfl)) ro_b0)) (decide_eq_false (by omega)) ?_
    refine ds_ifFS (dt_test (de_op (dq_of (de_var rfl)) (dq_of (de_var rfl)) ro_b0)) (decide_eq_false (by omega)) ?_
    exact ds_ret (de_op (dq_of (de_var rfl)) (dq_of (de_op (dq_of (de_var rfl)) (dq_of (de_var rfl)) ro_i0)) (ro_gB (by omega) (by omega))) rfl
abbrev S_least_period : Stmt := top 17
abbrev N_least_period : List Str := ["modulus", "flags", "period", "factor", "rest", "shorter", "k"]
omit T in
theorem sc_least_period : FnScope N_least_period ["modulus", "flags"] (defScope S_least_period) := ⟨rfl, rfl, rfl, by decide +kernel, rfl, by decide +kernel, by decide +kernel⟩
def sp_least_period : Sp := spD (α := DV) (fun d => [.int 1, d]) (fun d => True) (fun d => .int 1)
omit T in
theorem d_least_period {ρ : List Sl} {t : TA} {E : XK} {d : DV} (h : DA t ρ [.int 1, d]) (hp : True) : DE (tCall sp_least_period [] E t) ρ (.int 1) := de_call (α := DV) (enc := fun d => [.int 1, d]) (pre := fun d => True) (val := fun d => .int 1) d h rfl hp
theorem c_least_period : Cal P w K mg base 1 "least_period" sp_least_period [] :=
  cal_def (α := DV) (enc := fun d => [.int 1, d]) (pre := fun d => True) (val := fun d => .int 1) T.f_least_period sc_least_period (fun d => rfl) (fun _ _ _ _ _ _ us hl => match us, hl with | [_, _], _ => rfl) fun f cdv A outer s H E hr d hp => by
    (try dsimp only at hp)
    have nd := sc_least_period.nd
    refine ⟨_, (pss_cons (ps_set (i := 2) nd rfl (.inl rfl) (pv 0))
    (pss_cons (ps_set (i := 3) nd rfl (.inl rfl) pe_int)
    (pss_cons (ps_set (i := 4) nd rfl (.inl rfl) (pv 0))
    (pss_cons (ps_while PassesOwn.never (pt_cmpR op_gt (pv 4) pe_int (nomark _)) (pss_cons (ps_if (pt_cmpR (nek K hr) (pe_op op_mod (pv 4) (pv 3)) pe_int (nomark _)) (pss_cons (ps_aug (i := 3) nd rfl (.inl rfl) pe_int ip_add)
    (pss_one (ps_continue))) pss_nil)
    (pss_cons (ps_set (i := 4) nd rfl (.inl rfl) (pe_op op_fdiv (pv 4) (pv 3)))
    (pss_cons (ps_set (i := 5) nd rfl (.inr rfl) (pe_op op_fdiv (pv 2) (pv 3)))
    (pss_one (ps_if (pt_val (pe_callB (allk K rfl) rfl T.m_all (by decide +kernel) (pa_cons (pe_lc (own := [("k", 6)]) rfl nd (pi_range1 rfl T.m_range (pa_cons (pv 0) pa_nil)) (blkOk_by (sc := defScope S_least_period) (N := N_least_period) (own := [("k", 6)]) (by decide +kernel)) (fun _ _ _ _ _ => (pg_name (i := 6) nd rfl (by first | exact .inl rfl | exact .inr rfl))) (fun _ _ _ _ _ => pts_nil) (fun _ _ _ _ _ => (pe_cmpR (eqk K hr) (pe_ix (ixk K) (pv 1) (pv 6) (fun _ _ => rfl)) (pe_ix (ixk K) (pv 1) (pe_op op_mod (pv 6) (pv 5)) (fun _ _ => rfl)) (nomark _)))) pa_nil))) (pss_one (ps_set (i := 2) nd rfl (.inl rfl) (pv 5))) pss_nil))))))
    (pss_one (ps_ret (pv 2))))))), ?_⟩
    show DS _ [.val (.int 1), .val d, .any, .any, .any, .any, .any] _
    refine ds_setS (de_var rfl) ?_
    refine ds_setS de_int ?_
    refine ds_setS (de_var rfl) ?_
    refine ds_seq (ds_while (fun _ ρ => ρ = [.val (.int 1), .val d, .val (.int 1), .val (.int 2), .val (.int 1), .any, .any]) 0 ⟨_, by walk_at "wk", rfl⟩ fun m ρ h => ?_)
    subst h
    exact ⟨_, (dt_test (de_op (dq_of (de_var rfl)) (dq_of de_int) ro_b0)), fun h => absurd h (by decide), fun _ => ds_ret (de_var rfl) rfl⟩
abbrev S_flag_row : Stmt := top 18
abbrev N_flag_row : List Str := ["modulus", "members", "row", "member"]
omit T in
theorem sc_flag_row : FnScope N_flag_row ["modulus", "members"] (defScope S_flag_row) := ⟨rfl, rfl, rfl, by decide +kernel, rfl, by decide +kernel, by decide +kernel⟩
def sp_flag_row : Sp := spD (α := Unit) (fun z => [.int 1, .tup []]) (fun z => True) (fun z => eBs [false])
omit T in
theorem d_flag_row {ρ : List Sl} {t : TA} {E : XK} {z : Unit} (h : DA t ρ [.int 1, .tup []]) (hp : True) : DE (tCall sp_flag_row [] E t) ρ (eBs [false]) := de_call (α := Unit) (enc := fun z => [.int 1, .tup []]) (pre := fun z => True) (val := fun z => eBs [false]) z h rfl hp
theorem c_flag_row : Cal P w K mg base 1 "flag_row" sp_flag_row [] :=
  cal_def (α := Unit) (enc := fun z => [.int 1, .tup []]) (pre := fun z => True) (val := fun z => eBs [false]) T.f_flag_row sc_flag_row (fun z => rfl) (fun _ _ _ _ _ _ us hl => match us, hl with | [_, _], _ => rfl) fun f cdv A outer s H E hr z hp => by
    (try dsimp only at hp)
    have nd := sc_flag_row.nd
    refine ⟨_, (pss_cons (ps_set (i := 2) nd rfl (.inl rfl) (pe_op op_mulA (pe_lst (pa_cons pe_bl pa_nil)) (pv 0)))
    (pss_cons (ps_for PassesOwn.never rfl (pitk K (pv 1)) (pg_name (i := 3) nd rfl (.inl rfl))
    (pss_one (ps_asg pe_bl (pg_sub (pv 2) (pv 3) set_list))))
    (pss_one (ps_ret (pv 2))))), ?_⟩
    show DS _ [.val (.int 1), .val (.tup []), .any, .any] _
    refine ds_setNS (ds := List.map DV.bl [false]) (dn_is (dn_op (dn_dq (dn_lst (da_cons de_bl da_nil) (Nat.le_of_ble_eq_true rfl))) (dq_of (de_var rfl)) (rn_r (rn_rep (by walk_at "si") (by walk_at "sz") (by walk_at "si")))) (rep_map _ DV.bl false)) ?_
    refine ds_seq (ds_each (xs := ([] : List Int)) (enc := DV.int) [.val (.int 1), .val (.tup []), .mu none (.lst (List.map DV.bl [false])), .any] (dw_tup (de_var rfl)) (by walk_at "wk") (fun x hx => absurd hx List.not_mem_nil) ?_)
    refine ds_wk (ρ' := [.any, .any, .val (eBs [false]), .any]) (by walk_at "wk") ?_
    exact ds_ret (de_var rfl) rfl

end
end DL
end

section
set_option Elab.async false
set_option linter.all false
set_option maxRecDepth 100000
set_option maxHeartbeats 4000000
namespace DL
open PySem PySem.Spec PyProof.Rows L2
open C8 (Cal pe_c Mak pe_mk)
local macro_rules | `(tactic| walk_at "si") => `(tactic| first
  | with_reducible assumption | omega | (simp only [rgI_len, List.length_map]; omega) | (simp only [decide_eq_true_eq, Bool.and_eq_true, Bool.not_eq_true', decide_eq_false_iff_not] at *; omega))
local macro_rules | `(tactic| walk_at "sz") => `(tactic| first
  | with_reducible assumption | omega | (simp only [rgI_len, List.length_map, List.length_append, List.length_cons, List.length_nil]; omega))
local macro_rules | `(tactic| walk_at "row") => `(tactic| first | with_reducible assumption | ((with_reducible refine Tbl.get (by with_reducible assumption) ?_); walk_at "wd") | exact row_mem (by with_reducible assumption) (by with_reducible assumption))
local macro_rules | `(tactic| walk_at "wd") => `(tactic| first | with_reducible assumption | omega | (constructor <;> omega) | ((with_reducible refine wd_get (by walk_at "row") ?_); walk_at "wd") | exact wd_mem (by with_reducible assumption) (by with_reducible assumption))
local macro_rules | `(tactic| walk_at "rk") => `(tactic| first
  | ((with_reducible apply ro_xL (by decide)); exact rfl) | ((with_reducible apply ro_xT (by decide)); exact rfl) | walk_at "ro")
local macro_rules | `(tactic| walk_at "ro") => `(tactic| first
  | with_reducible exact ro_b0 | with_reducible exact ro_l ro_eqI | with_reducible exact ro_l ro_neI | with_reducible exact ro_l ro_eqB | with_reducible exact ro_l ro_neB | with_reducible exact ro_l ro_eqS | with_reducible exact ro_l ro_neS
  | ((with_reducible refine ro_gLR (by with_reducible assumption) ?_); walk_at "wd") | ((with_reducible refine ro_gIR (by walk_at "row") ?_); walk_at "wd")
  | ((with_reducible refine ro_gI ?_ ?_) <;> walk_at "si") | ((with_reducible refine ro_gL ?_ ?_) <;> walk_at "si") | ((with_reducible refine ro_gIT ?_ ?_) <;> walk_at "si")
  | with_reducible exact ro_gG (by with_reducible assumption) | ((with_reducible refine ro_gT ?_ ?_) <;> walk_at "si")
  | ((with_reducible refine ro_gB ?_ ?_) <;> walk_at "si")
  | ((with_reducible refine ro_gS ?_ ?_) <;> walk_at "si") | ((with_reducible refine ro_gST ?_ ?_) <;> walk_at "si")
  | ((with_reducible refine ro_xM ?_ ?_) <;> walk_at "si") | ((with_reducible refine ro_xTM ?_ ?_) <;> walk_at "si")
  | ((with_reducible apply ro_xL (by decide)); exact rfl) | ((with_reducible apply ro_xT (by decide)); exact rfl)
  | with_reducible exact ro_eqIs | with_reducible exact ro_l ro_inL | with_reducible exact ro_l ro_niL | with_reducible exact ro_l ro_inT | with_reducible exact ro_l ro_inS | with_reducible exact ro_isNN | with_reducible exact ro_notNN | with_reducible exact ro_isNI | with_reducible exact ro_notNI)
local macro_rules | `(tactic| walk_at "rc") => `(tactic| with_reducible first
  | exact rc_lenM | exact rc_lenTM | exact rc_lenL' | exact rc_lenT' | exact rc_ii _ | exact rc_ib _ | exact rc_ss _ | exact rc_tt _ | exact rc_ltl _ | exact rc_ltt _ | exact rc_int | exact rc_abs | exact rc_max2 | exact rc_min2 | exact rc_all | exact rc_sum | exact rc_tupL' | exact rc_tupT' | exact rc_range1)
local macro_rules | `(tactic| walk_at "rcn") => `(tactic| with_reducible first
  | exact rcn_listL' | exact rcn_listT' | exact rcn_sortP)
local macro_rules | `(tactic| walk_at "pre") => `(tactic| first | with_reducible assumption | exact trivial | (refine And.intro ?_ ?_ <;> walk_at "pre") | walk_at "wd" | walk_at "si")
local macro_rules | `(tactic| walk_at "cmod") => `(tactic| (show (0 : Int) < _; first | decide | walk_at "si"))
local macro_rules | `(tactic| walk_at "cd") => `(tactic| (refine And.intro ?_ ?_ <;> walk_at "si"))
local macro_rules | `(tactic| walk_at "cp") => `(tactic| exact ⟨by decide, by decide, by decide⟩)
local macro_rules | `(tactic| walk_at "cm") => `(tactic| first | (refine Or.inl (And.intro ?_ ?_) <;> omega) | (refine Or.inr (And.intro ?_ ?_) <;> omega))
local macro_rules | `(tactic| walk_at "wk") => `(tactic| (repeat (first | exact Wk.nil | exact Wk.refl _ | refine Wk.same ?_ | refine Wk.frz ?_ | refine Wk.drop ?_)))
section
variable {P : PySem.Program} {w : World} {K : PySem.W.Frag} {mg : Str → Option Value} {base : Heap} {CL CB : Addr} (T : Txt K mg CL CB)
include T
def rgN (hi : Int) (n : Nat) : List Int := (List.range n).map fun i : Nat => hi + (i : Int) * (-1)
omit T in
theorem rgC_N (hi : Int) (n : Nat) : rgC hi (-1) n = (rgN hi n).map DV.int := by unfold rgC rgN; rw [List.map_map]; rfl
omit T in
theorem dw_downI {ρ : List Sl} {a' : TA} {hi n : Int} (h : DA a' ρ [.int hi, .int n, .int (-1)]) (hb : -1000000 < hi ∧ hi < 1000000 ∧ -1000000 < n ∧ n < 1000000) : DW (iRng3 a') ρ ((rgN hi (hi - n).toNat).map DV.int) := rgC_N hi _ ▸ dw_down h hb
omit T in
theorem rgN_zero {hi x : Int} {n : Nat} (h : (rgN hi n)[0]? = some x) : x = hi := by
  unfold rgN at h
  cases n with
  | zero => cases h
  | succ n =>
    rw [List.range_succ_eq_map] at h
    have h : some (hi + ((0 : Nat) : Int) * (-1)) = some x := h
    cases h
    omega
omit T in
theorem ds_ifT' {tt : TT} {ρ : List Sl} {b : Bool} {t u : TS} {E : DEnd} (h : DT tt ρ b) (hb : b = true) (k : DS t ρ E) : DS (tIfS tt t u) ρ E := ds_ifT (dt_is h hb) k
omit T in
theorem ds_ifF' {tt : TT} {ρ : List Sl} {b : Bool} {t u : TS} {E : DEnd} (h : DT tt ρ b) (hb : b = false) (k : DS u ρ E) : DS (tIfS tt t u) ρ E := ds_ifF (dt_is h hb) k
omit T in
theorem f1 (x : Int) : gB [false] (x % 1) = false := by rw [Int.emod_one]; rfl
omit T in
theorem ro_eqF {K : PySem.W.Frag} {r : R2} : RO (fun x y H Q => r x y H Q ∨ rEqD K x y H Q) (eBs [false]) (eBs [false]) (.bl true) := ro_r fun _ _ _ _ e a c _ q => by
  have dp : ∀ {Hs H : Hp} {v : V}, Ex Hs H → Rv Hs H v (eBs [false]) → Dp K H v (.list [.bool false]) := fun e h => by
    obtain ⟨p, vs, ev, hp, rr⟩ := h.lst e
    have := rr.bl_inv (xs := [false])
    subst this ev
    exact .lst (.inl (.inl hp)) (.cons (.bl false) .nil)
  exact ⟨_, _, dp e a, dp e c, by decide +kernel, by decide +kernel, q _ _ _ (Go.refl e) (by
    have : PyData.eqv (.list [.bool false]) (.list [.bool false]) = true := by decide +kernel
    rw [this]; exact .bl _)⟩
abbrev S_rim_numbers : Stmt := top 21
abbrev N_rim_numbers : List Str := ["low", "high", "core", "period", "ups", "downs", "top", "bottom", "number", "n"]
omit T in
theorem sc_rim_numbers : FnScope N_rim_numbers ["low", "high", "core", "period", "ups", "downs"] (defScope S_rim_numbers) := ⟨rfl, rfl, rfl, by decide +kernel, rfl, by decide +kernel, by decide +kernel⟩
def sp_rim_numbers : Sp := spD (α := Int × Int × List Bool) (fun ⟨lo, hi, core⟩ => [.int lo, .int hi, eBs core, .int 1, eBs [false], eBs [false]]) (fun ⟨lo, hi, core⟩ => lo ≤ hi ∧ -1000 ≤ lo ∧ hi ≤ 1000 ∧ (core.length : Int) = hi - lo + 1 ∧ gB core 0 = true ∧ gB core (hi - lo) = true) (fun ⟨lo, hi, core⟩ => .tup [.int hi, .int lo])
omit T in
theorem d_rim_numbers {ρ : List Sl} {t : TA} {E : XK} {lo hi : Int} {core : List Bool} (h : DA t ρ [.int lo, .int hi, eBs core, .int 1, eBs [false], eBs [false]]) (hp : lo ≤ hi ∧ -1000 ≤ lo ∧ hi ≤ 1000 ∧ (core.length : Int) = hi - lo + 1 ∧ gB core 0 = true ∧ gB core (hi - lo) = true) : DE (tCall sp_rim_numbers [] E t) ρ (.tup [.int hi, .int lo]) := de_call (α := Int × Int × List Bool) (enc := fun ⟨lo, hi, core⟩ => [.int lo, .int hi, eBs core, .int 1, eBs [false], eBs [false]]) (pre := fun ⟨lo, hi, core⟩ => lo ≤ hi ∧ -1000 ≤ lo ∧ hi ≤ 1000 ∧ (core.length : Int) = hi - lo + 1 ∧ gB core 0 = true ∧ gB core (hi - lo) = true) (val := fun ⟨lo, hi, core⟩ => .tup [.int hi, .int lo]) ⟨lo, hi, core⟩ h rfl hp
theorem c_rim_numbers : Cal P w K mg base 1 "rim_numbers" sp_rim_numbers [] :=
  cal_def (α := Int × Int × List Bool) (enc := fun ⟨lo, hi, core⟩ => [.int lo, .int hi, eBs core, .int 1, eBs [false], eBs [false]]) (pre := fun ⟨lo, hi, core⟩ => lo ≤ hi ∧ -1000 ≤ lo ∧ hi ≤ 1000 ∧ (core.length : Int) = hi - lo + 1 ∧ gB core 0 = true ∧ gB core (hi - lo) = true) (val := fun ⟨lo, hi, core⟩ => .tup [.int hi, .int lo]) T.f_rim_numbers sc_rim_numbers (fun ⟨lo, hi, core⟩ => rfl) (fun _ _ _ _ _ _ us hl => match us, hl with | [_, _, _, _, _, _], _ => rfl) fun f cdv A outer s H E hr ⟨lo, hi, core⟩ hp => by
    (try dsimp only at hp)
    have nd := sc_rim_numbers.nd
    refine ⟨_, (pss_cons (ps_set (i := 6) nd rfl (.inl rfl) pe_non)
    (pss_cons (ps_set (i := 7) nd rfl (.inl rfl) pe_non)
    (pss_cons (ps_for PassesOwn.never rfl (pi_range3 rfl T.m_range (pa_cons (pv 1) (pa_cons (pe_op op_sub (pv 0) pe_int) (pa_cons (pe_un un_neg pe_int) pa_nil)))) (pg_name (i := 8) nd rfl (.inl rfl))
    (pss_one (ps_if (pt_cmpR (nek K hr) (pe_ix (ixk K) (pv 2) (pe_op op_sub (pv 8) (pv 0)) (fun _ _ => rfl)) (pe_ix (ixk K) (pv 4) (pe_op op_mod (pv 8) (pv 3)) (fun _ _ => rfl)) (nomark _)) (pss_cons (ps_set (i := 6) nd rfl (.inl rfl) (pv 8))
    (pss_one (ps_break))) pss_nil)))
    (pss_cons (ps_for PassesOwn.never rfl (pi_range2 rfl T.m_range (pa_cons (pv 0) (pa_cons (pe_op op_addA (pv 1) pe_int) pa_nil))) (pg_name (i := 8) nd rfl (.inl rfl))
    (pss_one (ps_if (pt_cmpR (nek K hr) (pe_ix (ixk K) (pv 2) (pe_op op_sub (pv 8) (pv 0)) (fun _ _ => rfl)) (pe_ix (ixk K) (pv 5) (pe_op op_mod (pv 8) (pv 3)) (fun _ _ => rfl)) (nomark _)) (pss_cons (ps_set (i := 7) nd rfl (.inl rfl) (pv 8))
    (pss_one (ps_break))) pss_nil)))
    (pss_cons (ps_if (pt_cmpR (eqk K hr) (pv 4) (pv 5) (nomark _)) (pss_one (ps_ret (pe_tup (pa_cons (pv 6) (pa_cons (pv 7) pa_nil))))) pss_nil)
    (pss_cons (ps_if (pt_cmpR op_isN (pv 6) pe_non (nomark _)) (pss_one (ps_set (i := 6) nd rfl (.inl rfl) (pe_ix (ixk K) (pe_lc (own := [("n", 9)]) rfl nd (pi_range2 rfl T.m_range (pa_cons (pe_op op_sub (pv 0) (pv 3)) (pa_cons (pv 0) pa_nil))) (blkOk_by (sc := defScope S_rim_numbers) (N := N_rim_numbers) (own := [("n", 9)]) (by decide +kernel)) (fun _ _ _ _ _ => (pg_name (i := 9) nd rfl (by first | exact .inl rfl | exact .inr rfl))) (fun _ _ _ _ _ => pts_one (pt_cmpR (nek K hr) (pe_ix (ixk K) (pv 5) (pe_op op_mod (pv 9) (pv 3)) (fun _ _ => rfl)) (pe_ix (ixk K) (pv 4) (pe_op op_mod (pv 9) (pv 3)) (fun _ _ => rfl)) (nomark _))) (fun _ _ _ _ _ => (pv 9))) (pe_un un_neg pe_int) (fun _ _ => rfl)))) pss_nil)
    (pss_cons (ps_if (pt_cmpR op_isN (pv 7) pe_non (nomark _)) (pss_one (ps_set (i := 7) nd rfl (.inl rfl) (pe_ix (ixk K) (pe_lc (own := [("n", 9)]) rfl nd (pi_range2 rfl T.m_range (pa_cons (pe_op op_addA (pv 1) pe_int) (pa_cons (pe_op op_addA (pe_op op_addA (pv 1) (pv 3)) pe_int) pa_nil))) (blkOk_by (sc := defScope S_rim_numbers) (N := N_rim_numbers) (own := [("n", 9)]) (by decide +kernel)) (fun _ _ _ _ _ => (pg_name (i := 9) nd rfl (by first | exact .inl rfl | exact .inr rfl))) (fun _ _ _ _ _ => pts_one (pt_cmpR (nek K hr) (pe_ix (ixk K) (pv 4) (pe_op op_mod (pv 9) (pv 3)) (fun _ _ => rfl)) (pe_ix (ixk K) (pv 5) (pe_op op_mod (pv 9) (pv 3)) (fun _ _ => rfl)) (nomark _))) (fun _ _ _ _ _ => (pv 9))) pe_int (fun _ _ => rfl)))) pss_nil)
    (pss_one (ps_ret (pe_tup (pa_cons (pv 6) (pa_cons (pv 7) pa_nil)))))))))))), ?_⟩
    obtain ⟨h1, h2, h3, h4, h5, h6⟩ := hp
    show DS _ [.val (.int lo), .val (.int hi), .val (eBs core), .val (.int 1), .val (eBs [false]), .val (eBs [false]), .any, .any, .any, .any] _
    refine ds_setS de_non ?_
    refine ds_setS de_non ?_
    refine ds_seq (ds_for (rgN hi (hi - (lo - 1)).toNat) DV.int (fun n ρ => n = 0 ∧ ρ = [.val (.int lo), .val (.int hi), .val (eBs core), .val (.int 1), .val (eBs [false]), .val (eBs [false]), .val .non, .val .non, .any, .any]) (dw_downI (da_cons (de_var rfl) (da_cons (de_op (dq_of (de_var rfl)) (dq_of de_int) ro_i0) (da_cons (de_un (dq_of de_int) ru_i) da_nil))) (by omega)) ⟨_, by walk_at "wk", rfl, rfl⟩ (fun n x ρ hx hJ => ?_) fun ρ hJ => ?_)
    · obtain ⟨rfl, rfl⟩ := hJ
      have hx := rgN_zero hx
      subst hx
      refine ⟨_, _, dg_name, ?_⟩
      show DS _ [.val (.int lo), .val (.int x), .val (eBs core), .val (.int 1), .val (eBs [false]), .val (eBs [false]), .val .non, .val .non, .val (.int x), .any] _
      refine ds_ifT' (dt_test (de_op (dq_of (de_op (dq_of (de_var rfl)) (dq_of (de_op (dq_of (de_var rfl)) (dq_of (de_var rfl)) ro_i0)) (ro_gB (by omega) (by omega)))) (dq_of (de_op (dq_of (de_var rfl)) (dq_of (de_op (dq_of (de_var rfl)) (dq_of (de_var rfl)) (ro_i (by walk_at "cmod")))) (ro_gB (by omega) (by show x % 1 < (1 : Int); omega)))) (by walk_at "ro"))) (by rw [h6, f1]; rfl) (ds_setS (de_var rfl) (ds_brk ?_))
      show DS _ [.val (.int lo), .val (.int x), .val (eBs core), .val (.int 1), .val (eBs [false]), .val (eBs [false]), .val (.int x), .val .non, .val (.int x), .any] _
      refine ds_seq (ds_for (rgI lo (x + 1 - lo).toNat) DV.int (fun n ρ => n = 0 ∧ ρ = [.val (.int lo), .val (.int x), .val (eBs core), .val (.int 1), .val (eBs [false]), .val (eBs [false]), .val (.int x), .val .non, .any, .any]) (dw_range2 (da_cons (de_var rfl) (da_cons (de_op (dq_of (de_var rfl)) (dq_of de_int) (ro_l ro_i0)) da_nil)) (by walk_at "si")) ⟨_, by walk_at "wk", rfl, rfl⟩ (fun n y ρ hy hJ => ?_) fun ρ hJ => ?_)
      · obtain ⟨rfl, rfl⟩ := hJ
        have hy : y = lo := by have := (rgI_get hy).1; omega
        subst hy
        refine ⟨_, _, dg_name, ?_⟩
        show DS _ [.val (.int y), .val (.int x), .val (eBs core), .val (.int 1), .val (eBs [false]), .val (eBs [false]), .val (.int x), .val .non, .val (.int y), .any] _
        refine ds_ifT' (dt_test (de_op (dq_of (de_op (dq_of (de_var rfl)) (dq_of (de_op (dq_of (de_var rfl)) (dq_of (de_var rfl)) ro_i0)) (ro_gB (by omega) (by omega)))) (dq_of (de_op (dq_of (de_var rfl)) (dq_of (de_op (dq_of (de_var rfl)) (dq_of (de_var rfl)) (ro_i (by walk_at "cmod")))) (ro_gB (by omega) (by show y % 1 < (1 : Int); omega)))) (by walk_at "ro"))) (by rw [Int.sub_self, h5, f1]; rfl) (ds_setS (de_var rfl) (ds_brk ?_))
        show DS _ [.val (.int y), .val (.int x), .val (eBs core), .val (.int 1), .val (eBs [false]), .val (eBs [false]), .val (.int x), .val (.int y), .val (.int y), .any] _
        refine ds_ifTS (dt_test (de_op (dq_of (de_var rfl)) (dq_of (de_var rfl)) (ro_eqF)         )) rfl ?_
        exact ds_seq (ds_ret (de_tup (da_cons (de_var rfl) (da_cons (de_var rfl) da_nil)) (Nat.le_of_ble_eq_true rfl)) rfl)
      · have := hJ.1
        rw [rgI_len] at this
        omega
    · have := hJ.1
      unfold rgN at this
      rw [List.length_map, List.length_range] at this
      omega
abbrev eLot (C : Addr) (lo hi : Int) (ns : List Int) : DV := .ins C nsLot (vLot lo hi (ns.map DV.int) 1 [] [])
def v_inside (lo hi : Int) (core : List Bool) : List Int := (rgI lo (hi + 1 - lo).toNat).filter fun n => gB core (n - lo)
abbrev S_shape_lot : Stmt := top 19
abbrev N_shape_lot : List Str := ["low", "high", "core", "modulus", "ups", "downs", "couples", "period", "top", "bottom", "inside", "k", "n"]
omit T in
theorem sc_shape_lot : FnScope N_shape_lot ["low", "high", "core", "modulus", "ups", "downs"] (defScope S_shape_lot) := ⟨rfl, rfl, rfl, by decide +kernel, rfl, by decide +kernel, by decide +kernel⟩
def sp_shape_lot (CL CB : Addr) : Sp := spD (α := Int × Int × List Bool) (fun ⟨lo, hi, core⟩ => [.int lo, .int hi, eBs core, .int 1, eBs [false], eBs [false]]) (fun ⟨lo, hi, core⟩ => lo ≤ hi ∧ -1000 ≤ lo ∧ hi ≤ 1000 ∧ (core.length : Int) = hi - lo + 1 ∧ gB core 0 = true ∧ gB core (hi - lo) = true) (fun ⟨lo, hi, core⟩ => eLot CL lo hi (v_inside lo hi core))
omit T in
theorem d_shape_lot {ρ : List Sl} {t : TA} {E : XK} {lo hi : Int} {core : List Bool} (h : DA t ρ [.int lo, .int hi, eBs core, .int 1, eBs [false], eBs [false]]) (hp : lo ≤ hi ∧ -1000 ≤ lo ∧ hi ≤ 1000 ∧ (core.length : Int) = hi - lo + 1 ∧ gB core 0 = true ∧ gB core (hi - lo) = true) : DE (tCall (sp_shape_lot CL CB) [] E t) ρ (eLot CL lo hi (v_inside lo hi core)) := de_call (α := Int × Int × List Bool) (enc := fun ⟨lo, hi, core⟩ => [.int lo, .int hi, eBs core, .int 1, eBs [false], eBs [false]]) (pre := fun ⟨lo, hi, core⟩ => lo ≤ hi ∧ -1000 ≤ lo ∧ hi ≤ 1000 ∧ (core.length : Int) = hi - lo + 1 ∧ gB core 0 = true ∧ gB core (hi - lo) = true) (val := fun ⟨lo, hi, core⟩ => eLot CL lo hi (v_inside lo hi core)) ⟨lo, hi, core⟩ h rfl hp
theorem c_shape_lot : Cal P w K mg base 3 "shape_lot" (sp_shape_lot CL CB) [] :=
  cal_def (α := Int × Int × List Bool) (enc := fun ⟨lo, hi, core⟩ => [.int lo, .int hi, eBs core, .int 1, eBs [false], eBs [false]]) (pre := fun ⟨lo, hi, core⟩ => lo ≤ hi ∧ -1000 ≤ lo ∧ hi ≤ 1000 ∧ (core.length : Int) = hi - lo + 1 ∧ gB core 0 = true ∧ gB core (hi - lo) = true) (val := fun ⟨lo, hi, core⟩ => eLot CL lo hi (v_inside lo hi core)) T.f_shape_lot sc_shape_lot (fun ⟨lo, hi, core⟩ => rfl) (fun _ _ _ _ _ _ us hl => match us, hl with | [_, _, _, _, _, _], _ => rfl) fun f cdv A outer s H E hr ⟨lo, hi, core⟩ hp => by
    (try dsimp only at hp)
    have nd := sc_shape_lot.nd
    refine ⟨_, (pss_cons (ps_setLc (i := 6) (own := [("k", 11)]) rfl nd rfl rfl (sw_true rfl rfl rfl (by decide +kernel)) (pi_range1 rfl T.m_range (pa_cons (pv 3) pa_nil)) (blkOk_by (sc := defScope S_shape_lot) (N := N_shape_lot) (own := [("k", 11)]) (by decide +kernel)) (fun _ _ _ _ _ => (pg_name (i := 11) nd rfl (by first | exact .inl rfl | exact .inr rfl))) (fun _ _ _ _ _ => pts_nil) (fun _ _ _ _ _ => (pe_tup (pa_cons (pe_ix (ixk K) (pv 4) (pv 11) (fun _ _ => rfl)) (pa_cons (pe_ix (ixk K) (pv 5) (pv 11) (fun _ _ => rfl)) pa_nil)))))
    (pss_cons (ps_set (i := 7) nd rfl (.inr rfl) (pe_c (c_least_period T) hr (by decide) rfl (pa_cons (pv 3) (pa_cons (pv 6) pa_nil))))
    (pss_cons (ps_set (i := 4) nd rfl (.inr rfl) (pe_slice (slk K) (pv 4) po_none (po_some (pv 7))))
    (pss_cons (ps_set (i := 5) nd rfl (.inr rfl) (pe_slice (slk K) (pv 5) po_none (po_some (pv 7))))
    (pss_cons (ps_asg (pe_c (c_rim_numbers T) hr (by decide) rfl (pa_cons (pv 0) (pa_cons (pv 1) (pa_cons (pv 2) (pa_cons (pv 7) (pa_cons (pv 4) (pa_cons (pv 5) pa_nil))))))) (pgtk (n := 2) K rfl (pgs_cons (pg_name (i := 8) nd rfl (.inl rfl)) (pgs_cons (pg_name (i := 9) nd rfl (.inl rfl)) pgs_nil))))
    (pss_cons (ps_if (pt_cmpR op_isN (pv 8) pe_non (nomark _)) (pss_cons (ps_set (i := 8) nd rfl (.inl rfl) (pe_un un_neg pe_int))
    (pss_one (ps_set (i := 9) nd rfl (.inl rfl) pe_int))) pss_nil)
    (pss_cons (ps_set (i := 9) nd rfl (.inl rfl) (pe_callB (call_min2 rfl) rfl T.m_min (by decide +kernel) (pa_cons (pv 9) (pa_cons (pe_op op_addA (pv 8) pe_int) pa_nil))))
    (pss_cons (ps_if (PW.pt (pw_or (pt_cmpR op_lt (pv 9) (pe_un un_neg (C8.pe_gc (v := .int 20000) rfl T.g_MOST_CORE)) (nomark _)) (pw_or1 (pt_cmpR op_gt (pv 8) (C8.pe_gc (v := .int 20000) rfl T.g_MOST_CORE) (nomark _))))) (pss_one (ps_never)) pss_nil)
    (pss_cons (ps_setLc (i := 10) (own := [("n", 12)]) rfl nd rfl rfl (sw_true rfl rfl rfl (by decide +kernel)) (pi_range2 rfl T.m_range (pa_cons (pv 9) (pa_cons (pe_op op_addA (pv 8) pe_int) pa_nil))) (blkOk_by (sc := defScope S_shape_lot) (N := N_shape_lot) (own := [("n", 12)]) (by decide +kernel)) (fun _ _ _ _ _ => (pg_name (i := 12) nd rfl (by first | exact .inl rfl | exact .inr rfl))) (fun _ _ _ _ _ => pts_one (pt_val (pe_c (c_told_by T) hr (by decide) rfl (pa_cons (pv 12) (pa_cons (pv 0) (pa_cons (pv 1) (pa_cons (pv 2) (pa_cons (pv 7) (pa_cons (pv 4) (pa_cons (pv 5) pa_nil)))))))))) (fun _ _ _ _ _ => (pv 12)))
    (pss_one (ps_ret (pe_mk (mk_Lot T) hr (by decide) rfl (pa_cons (pv 9) (pa_cons (pv 8) (pa_cons (pv 10) (pa_cons (pv 7) (pa_cons (pe_lc (own := [("k", 11)]) rfl nd (pi_range1 rfl T.m_range (pa_cons (pv 7) pa_nil)) (blkOk_by (sc := defScope S_shape_lot) (N := N_shape_lot) (own := [("k", 11)]) (by decide +kernel)) (fun _ _ _ _ _ => (pg_name (i := 11) nd rfl (by first | exact .inl rfl | exact .inr rfl))) (fun _ _ _ _ _ => pts_one (pt_val (pe_ix (ixk K) (pv 4) (pv 11) (fun _ _ => rfl)))) (fun _ _ _ _ _ => (pv 11))) (pa_cons (pe_lc (own := [("k", 11)]) rfl nd (pi_range1 rfl T.m_range (pa_cons (pv 7) pa_nil)) (blkOk_by (sc := defScope S_shape_lot) (N := N_shape_lot) (own := [("k", 11)]) (by decide +kernel)) (fun _ _ _ _ _ => (pg_name (i := 11) nd rfl (by first | exact .inl rfl | exact .inr rfl))) (fun _ _ _ _ _ => pts_one (pt_val (pe_ix (ixk K) (pv 5) (pv 11) (fun _ _ => rfl)))) (fun _ _ _ _ _ => (pv 11))) pa_nil)))))))))))))))))), ?_⟩
    have hp0 := hp
    obtain ⟨h1, h2, h3, h4, h5, h6⟩ := hp
    show DS _ [.val (.int lo), .val (.int hi), .val (eBs core), .val (.int 1), .val (eBs [false]), .val (eBs [false]), .any, .any, .any, .any, .any, .any, .any] _
    refine ds_setS (dn_de (dn_lc2 (fun d : DV => d) (dw_range1 (da_cons (de_var rfl) da_nil) (by walk_at "si")) (by walk_at "sz") (by decide) (fun x_k hx_x_k => by (try rw [mem_rgI] at hx_x_k); exact (de_tup (da_cons (de_op (dq_of (de_var rfl)) (dq_of (de_var rfl)) (ro_gB (by omega) (by show x_k < (1 : Int); omega))) (da_cons (de_op (dq_of (de_var rfl)) (dq_of (de_var rfl)) (ro_gB (by omega) (by show x_k < (1 : Int); omega))) da_nil)) (Nat.le_of_ble_eq_true rfl))))) ?_
    refine ds_setS (d_least_period (da_cons (de_var rfl) (da_cons (de_var rfl) da_nil)) (by walk_at "pre")) ?_
    refine ds_setS (d := eBs [false]) (de_is (dn_de (dn_slM (dq_of (de_var rfl)) do_none (do_some (de_var rfl)))) rfl) ?_
    refine ds_setS (d := eBs [false]) (de_is (dn_de (dn_slM (dq_of (de_var rfl)) do_none (do_some (de_var rfl)))) rfl) ?_
    refine ds_seq (ds_asg (d_rim_numbers (da_cons (de_var rfl) (da_cons (de_var rfl) (da_cons (de_var rfl) (da_cons (de_var rfl) (da_cons (de_var rfl) (da_cons (de_var rfl) da_nil)))))) (by walk_at "pre")) (dg_tup rfl (dgs_cons dg_name (dgs_cons dg_name dgs_nil))) ?_)
    show DS _ [.val (.int lo), .val (.int hi), .val (eBs core), .val (.int 1), .val (eBs [false]), .val (eBs [false]), .val _, .val (.int 1), .val (.int hi), .val (.int lo), .any, .any, .any] _
    refine ds_ifFS (dt_test (de_op (dq_of (de_var rfl)) (dq_of de_non) (by walk_at "ro"))) rfl ?_
    refine ds_setS (d := .int lo) (de_is (de_cb (db_cons (dq_of (de_var rfl)) (db_cons (dq_of (de_op (dq_of (de_var rfl)) (dq_of de_int) (ro_l ro_i0))) db_nil)) (by walk_at "rc")) (by rw [if_neg (by omega)])) ?_
    refine ds_ifFS (dt_or (dt_test (de_op (dq_of (de_var rfl)) (dq_of (de_un (dq_of de_int) ru_i)) ro_b0)) (fun _ => (dt_test (de_op (dq_of (de_var rfl)) (dq_of de_int) ro_b0)))) (by rw [decide_eq_false (by omega), decide_eq_false (by omega)]; rfl) ?_
    refine ds_setS (d := .lst ((v_inside lo hi core).map DV.int)) (de_is (dn_de (dn_lcf2 DV.int (dw_range2 (da_cons (de_var rfl) (da_cons (de_op (dq_of (de_var rfl)) (dq_of de_int) (ro_l ro_i0)) da_nil)) (by walk_at "si")) ((by rw [rgI_len]; omega)) (by decide) (fun x_n hx_x_n => by (try rw [mem_rgI] at hx_x_n); exact (dt_B (d_told_by (da_cons (de_var rfl) (da_cons (de_var rfl) (da_cons (de_var rfl) (da_cons (de_var rfl) (da_cons (de_var rfl) (da_cons (de_var rfl) (da_cons (de_var rfl) da_nil))))))) (⟨by omega, by omega, by omega⟩)))) (fun x_n hx_x_n hf_x_n => by (try rw [mem_rgI] at hx_x_n); exact (de_var rfl)))) (by unfold v_inside; rw [List.map_id'])) ?_
    exact ds_ret (d_mk_LotL (da_cons (de_var rfl) (da_cons (de_var rfl) (da_cons (de_var rfl) (da_cons (de_var rfl) (da_cons (dn_de (dn_lcf2 DV.int (dw_range1 (da_cons (de_var rfl) da_nil) (by walk_at "si")) (by walk_at "sz") (by decide) (fun x_k hx_x_k => by (try rw [mem_rgI] at hx_x_k); exact (dt_B (de_op (dq_of (de_var rfl)) (dq_of (de_var rfl)) (ro_gB (by omega) (by show x_k < (1 : Int); omega))))) (fun x_k hx_x_k hf_x_k => by (try rw [mem_rgI] at hx_x_k); exact (de_var rfl)))) (da_cons (dn_de (dn_lcf2 DV.int (dw_range1 (da_cons (de_var rfl) da_nil) (by walk_at "si")) (by walk_at "sz") (by decide) (fun x_k hx_x_k => by (try rw [mem_rgI] at hx_x_k); exact (dt_B (de_op (dq_of (de_var rfl)) (dq_of (de_var rfl)) (ro_gB (by omega) (by show x_k < (1 : Int); omega))))) (fun x_k hx_x_k hf_x_k => by (try rw [mem_rgI] at hx_x_k); exact (de_var rfl)))) da_nil)))))) (by walk_at "pre")) rfl
abbrev S_empty_lot : Stmt := top 22
abbrev N_empty_lot : List Str := []
omit T in
theorem sc_empty_lot : FnScope N_empty_lot [] (defScope S_empty_lot) := ⟨rfl, rfl, rfl, by decide +kernel, rfl, by decide +kernel, by decide +kernel⟩
def sp_empty_lot (CL CB : Addr) : Sp := spD (α := Unit) (fun z => []) (fun z => True) (fun z => eLot CL 0 (-1) [])
omit T in
theorem d_empty_lot {ρ : List Sl} {t : TA} {E : XK} {z : Unit} (h : DA t ρ []) (hp : True) : DE (tCall (sp_empty_lot CL CB) [] E t) ρ (eLot CL 0 (-1) []) := de_call (α := Unit) (enc := fun z => []) (pre := fun z => True) (val := fun z => eLot CL 0 (-1) []) z h rfl hp
theorem c_empty_lot : Cal P w K mg base 3 "empty_lot" (sp_empty_lot CL CB) [] :=
  cal_def (α := Unit) (enc := fun z => []) (pre := fun z => True) (val := fun z => eLot CL 0 (-1) []) T.f_empty_lot sc_empty_lot (fun z => rfl) (fun _ _ _ _ _ _ us hl => match us, hl with | [], _ => rfl) fun f cdv A outer s H E hr z hp => by
    (try dsimp only at hp)
    have nd := sc_empty_lot.nd
    refine ⟨_, (pss_one (ps_ret (pe_mk (mk_Lot T) hr (by decide) rfl (pa_cons pe_int (pa_cons (pe_un un_neg pe_int) (pa_cons (pe_tup pa_nil) (pa_cons pe_int (pa_cons (pe_tup pa_nil) (pa_cons (pe_tup pa_nil) pa_nil))))))))), ?_⟩
    show DS _ [] _
    exact ds_ret (d_mk_LotT (da_cons de_int (da_cons (de_un (dq_of de_int) ru_i) (da_cons (de_tup da_nil (Nat.le_of_ble_eq_true rfl)) (da_cons de_int (da_cons (de_tup da_nil (Nat.le_of_ble_eq_true rfl)) (da_cons (de_tup da_nil (Nat.le_of_ble_eq_true rfl)) da_nil)))))) (by walk_at "pre")) rfl

end
end DL
end

section
set_option Elab.async false
set_option linter.all false
set_option maxRecDepth 100000
set_option maxHeartbeats 4000000
namespace DL
open PySem PySem.Spec PyProof.Rows L2
open C8 (Cal pe_c Mak pe_mk)
local macro_rules | `(tactic| walk_at "si") => `(tactic| first
  | with_reducible assumption | omega | (simp only [rgI_len, List.length_map]; omega) | (simp only [decide_eq_true_eq, Bool.and_eq_true, Bool.not_eq_true', decide_eq_false_iff_not] at *; omega))
local macro_rules | `(tactic| walk_at "sz") => `(tactic| first
  | with_reducible assumption | omega | (simp only [rgI_len, List.length_map, List.length_append, List.length_cons, List.length_nil]; omega))
local macro_rules | `(tactic| walk_at "row") => `(tactic| first | with_reducible assumption | ((with_reducible refine Tbl.get (by with_reducible assumption) ?_); walk_at "wd") | exact row_mem (by with_reducible assumption) (by with_reducible assumption))
local macro_rules | `(tactic| walk_at "wd") => `(tactic| first | with_reducible assumption | omega | (constructor <;> omega) | ((with_reducible refine wd_get (by walk_at "row") ?_); walk_at "wd") | exact wd_mem (by with_reducible assumption) (by with_reducible assumption))
local macro_rules | `(tactic| walk_at "rk") => `(tactic| first
  | ((with_reducible apply ro_xL (by decide)); exact rfl) | ((with_reducible apply ro_xT (by decide)); exact rfl) | walk_at "ro")
local macro_rules | `(tactic| walk_at "ro") => `(tactic| first
  | with_reducible exact ro_b0 | with_reducible exact ro_l ro_eqI | with_reducible exact ro_l ro_neI | with_reducible exact ro_l ro_eqB | with_reducible exact ro_l ro_neB | with_reducible exact ro_l ro_eqS | with_reducible exact ro_l ro_neS
  | ((with_reducible refine ro_gLR (by with_reducible assumption) ?_); walk_at "wd") | ((with_reducible refine ro_gIR (by walk_at "row") ?_); walk_at "wd")
  | ((with_reducible refine ro_gI ?_ ?_) <;> walk_at "si") | ((with_reducible refine ro_gL ?_ ?_) <;> walk_at "si") | ((with_reducible refine ro_gIT ?_ ?_) <;> walk_at "si")
  | with_reducible exact ro_gG (by with_reducible assumption) | ((with_reducible refine ro_gT ?_ ?_) <;> walk_at "si")
  | ((with_reducible refine ro_gB ?_ ?_) <;> walk_at "si")
  | ((with_reducible refine ro_gS ?_ ?_) <;> walk_at "si") | ((with_reducible refine ro_gST ?_ ?_) <;> walk_at "si")
  | ((with_reducible refine ro_xM ?_ ?_) <;> walk_at "si") | ((with_reducible refine ro_xTM ?_ ?_) <;> walk_at "si")
  | ((with_reducible apply ro_xL (by decide)); exact rfl) | ((with_reducible apply ro_xT (by decide)); exact rfl)
  | with_reducible exact ro_eqIs | with_reducible exact ro_l ro_inL | with_reducible exact ro_l ro_niL | with_reducible exact ro_l ro_inT | with_reducible exact ro_l ro_inS | with_reducible exact ro_isNN | with_reducible exact ro_notNN | with_reducible exact ro_isNI | with_reducible exact ro_notNI)
local macro_rules | `(tactic| walk_at "rc") => `(tactic| with_reducible first
  | exact rc_lenM | exact rc_lenTM | exact rc_lenL' | exact rc_lenT' | exact rc_ii _ | exact rc_ib _ | exact rc_ss _ | exact rc_tt _ | exact rc_ltl _ | exact rc_ltt _ | exact rc_int | exact rc_abs | exact rc_max2 | exact rc_min2 | exact rc_all | exact rc_sum | exact rc_tupL' | exact rc_tupT' | exact rc_range1)
local macro_rules | `(tactic| walk_at "rcn") => `(tactic| with_reducible first
  | exact rcn_listL' | exact rcn_listT' | exact rcn_sortP)
local macro_rules | `(tactic| walk_at "pre") => `(tactic| first | with_reducible assumption | exact trivial | (refine And.intro ?_ ?_ <;> walk_at "pre") | walk_at "wd" | walk_at "si")
local macro_rules | `(tactic| walk_at "cmod") => `(tactic| (show (0 : Int) < _; first | decide | walk_at "si"))
local macro_rules | `(tactic| walk_at "cd") => `(tactic| (refine And.intro ?_ ?_ <;> walk_at "si"))
local macro_rules | `(tactic| walk_at "cp") => `(tactic| exact ⟨by decide, by decide, by decide⟩)
local macro_rules | `(tactic| walk_at "cm") => `(tactic| first | (refine Or.inl (And.intro ?_ ?_) <;> omega) | (refine Or.inr (And.intro ?_ ?_) <;> omega))
local macro_rules | `(tactic| walk_at "wk") => `(tactic| (repeat (first | exact Wk.nil | exact Wk.refl _ | refine Wk.same ?_ | refine Wk.frz ?_ | refine Wk.drop ?_)))
section
variable {P : PySem.Program} {w : World} {K : PySem.W.Frag} {mg : Str → Option Value} {base : Heap} {CL CB : Addr} (T : Txt K mg CL CB)
include T
omit T in
theorem pe_c0 {X : Cx} {k j : Nat} {x : Str} {sp : Sp} {dvs : List V} {p pos : Pos} (c : Cal X.prog X.w X.K X.mg X.base k x sp dvs) (hr : Room j X.A) (hk : k ≤ j) (hg : Gl X x) (hdb : (x == ("__debug__" : Str)) = false := by decide) : PE X (.Call (.Name x p) [] [] pos) (tCall sp dvs C8.E0 tNil) := by
  obtain ⟨f, fd, ps, ds, F, hm, kp, b, d⟩ := c.ex
  exact pe_call0 F (hr.mono hk) hg hm kp b d C8.pass0 hdb
def mem4 (m : Int) : List Int := (rgI 0 (4 : Int).toNat).filter fun k => decide (Builtin.bitAnd (m / 2 ^ k.toNat) 1 = 1)
def nLo (ns : List Int) : Int := ns.head?.getD 0
def nHi (ns : List Int) : Int := ns.getLast?.getD (-1)
def nCore (ns : List Int) : List Bool := ns.foldl (fun c x => c.set (x - nLo ns).toNat true) (List.replicate (nHi ns - nLo ns + 1).toNat false)
def okN (ns : List Int) : Prop := ∃ m ∈ rgI 0 16, ns = mem4 m
omit T in
theorem mem4_facts : ∀ m ∈ rgI 0 16, mem4 m ≠ [] → (nLo (mem4 m) ∈ mem4 m ∧ (∀ y ∈ mem4 m, nLo (mem4 m) ≤ y) ∧ nHi (mem4 m) ∈ mem4 m ∧ (∀ y ∈ mem4 m, y ≤ nHi (mem4 m)) ∧ 0 ≤ nLo (mem4 m) ∧ nHi (mem4 m) ≤ 3 ∧ nLo (mem4 m) ≤ nHi (mem4 m)) ∧
    v_inside (nLo (mem4 m)) (nHi (mem4 m)) (nCore (mem4 m)) = mem4 m ∧ gB (nCore (mem4 m)) 0 = true ∧ gB (nCore (mem4 m)) (nHi (mem4 m) - nLo (mem4 m)) = true ∧ ((nCore (mem4 m)).length : Int) = nHi (mem4 m) - nLo (mem4 m) + 1 := by decide +kernel
omit T in
theorem mem4_len : ∀ m ∈ rgI 0 16, (mem4 m).length ≤ 4 := by decide +kernel
abbrev S_just_lot : Stmt := top 23
abbrev N_just_lot : List Str := ["numbers", "low", "high", "core", "number"]
omit T in
theorem sc_just_lot : FnScope N_just_lot ["numbers"] (defScope S_just_lot) := ⟨rfl, rfl, rfl, by decide +kernel, rfl, by decide +kernel, by decide +kernel⟩
def sp_just_lot (CL CB : Addr) : Sp := spD (α := List Int) (fun ns => [eIs ns]) (fun ns => okN ns) (fun ns => eLot CL (nLo ns) (nHi ns) ns)
omit T in
theorem d_just_lot {ρ : List Sl} {t : TA} {E : XK} {ns : List Int} (h : DA t ρ [eIs ns]) (hp : okN ns) : DE (tCall (sp_just_lot CL CB) [] E t) ρ (eLot CL (nLo ns) (nHi ns) ns) := de_call (α := List Int) (enc := fun ns => [eIs ns]) (pre := fun ns => okN ns) (val := fun ns => eLot CL (nLo ns) (nHi ns) ns) ns h rfl hp
theorem c_just_lot : Cal P w K mg base 4 "just_lot" (sp_just_lot CL CB) [] :=
  cal_def (α := List Int) (enc := fun ns => [eIs ns]) (pre := fun ns => okN ns) (val := fun ns => eLot CL (nLo ns) (nHi ns) ns) T.f_just_lot sc_just_lot (fun ns => rfl) (fun _ _ _ _ _ _ us hl => match us, hl with | [_], _ => rfl) fun f cdv A outer s H E hr ns hp => by
    (try dsimp only at hp)
    have nd := sc_just_lot.nd
    refine ⟨_, (pss_cons (ps_if (pt_cmpR (eqk K hr) (pe_callB (lenk K) rfl T.m_len (by decide +kernel) (pa_cons (pv 0) pa_nil)) pe_int (nomark _)) (pss_one (ps_ret (pe_c0 (c_empty_lot T) hr (by decide) rfl))) pss_nil)
    (pss_cons (ps_set (i := 1) nd rfl (.inl rfl) (pe_callB (mink K rfl) rfl T.m_min (by decide +kernel) (pa_cons (pv 0) pa_nil)))
    (pss_cons (ps_set (i := 2) nd rfl (.inl rfl) (pe_callB (maxk K rfl) rfl T.m_max (by decide +kernel) (pa_cons (pv 0) pa_nil)))
    (pss_cons (ps_set (i := 3) nd rfl (.inl rfl) (pe_op op_mulA (pe_lst (pa_cons pe_bl pa_nil)) (pe_op op_addA (pe_op op_sub (pv 2) (pv 1)) pe_int)))
    (pss_cons (ps_for PassesOwn.never rfl (pilk K (pv 0)) (pg_name (i := 4) nd rfl (.inl rfl))
    (pss_one (ps_asg pe_bl (pg_sub (pv 3) (pe_op op_sub (pv 4) (pv 1)) set_list))))
    (pss_one (ps_ret (pe_c (c_shape_lot T) hr (by decide) rfl (pa_cons (pv 1) (pa_cons (pv 2) (pa_cons (pv 3) (pa_cons pe_int (pa_cons (pe_lst (pa_cons pe_bl pa_nil)) (pa_cons (pe_lst (pa_cons pe_bl pa_nil)) pa_nil)))))))))))))), ?_⟩
    obtain ⟨m, hm, rfl⟩ := hp
    have hl := mem4_len m hm
    have hF := mem4_facts m hm
    generalize mem4 m = ns at *
    show DS _ [.val (eIs ns), .any, .any, .any, .any] _
    by_cases he : ns = []
    · subst he
      exact ds_ifTS (dt_test (de_op (dq_of (de_cb (db_cons (dq_of (de_var rfl)) db_nil) (by walk_at "rc"))) (dq_of de_int) (by walk_at "ro"))) (by decide) (ds_seq (ds_ret (d := eLot CL 0 (-1) []) (d_empty_lot (z := ()) da_nil trivial) rfl))
    · obtain ⟨⟨h1, h2, h3, h4, h5, h6, h7⟩, h8, h9, h10, h11⟩ := hF he
      have hpos : 0 < ns.length := List.length_pos_iff.mpr he
      refine ds_ifFS (dt_test (de_op (dq_of (de_cb (db_cons (dq_of (de_var rfl)) db_nil) (by walk_at "rc"))) (dq_of de_int) (by walk_at "ro"))) (decide_eq_false (by omega)) ?_
      refine ds_setS (d := .int (nLo ns)) (de_cb (db_cons (dq_of (de_var rfl)) db_nil) (rc_minL h1 h2)  ) ?_
      refine ds_setS (d := .int (nHi ns)) (de_cb (db_cons (dq_of (de_var rfl)) db_nil) (rc_maxL h3 h4)  ) ?_
      refine ds_setNS (ds := List.map DV.bl (List.replicate (nHi ns - nLo ns + 1).toNat false)) (dn_is (dn_op (dn_dq (dn_is (dn_lst (da_cons de_bl da_nil) (Nat.le_of_ble_eq_true rfl)) (rfl : _ = List.map DV.bl [false]))) (dq_of (de_op (dq_of (de_op (dq_of (de_var rfl)) (dq_of (de_var rfl)) ro_i0)) (dq_of de_int) (ro_l ro_i0))) (rn_r (rn_rep (by walk_at "si") (by walk_at "sz") (by walk_at "si")))) (rep_map _ DV.bl false)) ?_
      refine ds_seq (ds_fold (fun c => [.val (eIs ns), .val (.int (nLo ns)), .val (.int (nHi ns)), .mu none (.lst (c.map DV.bl)), .any]) (fun c x => c.set (x - nLo ns).toNat true) (List.replicate (nHi ns - nLo ns + 1).toNat false) (fun _ c => (c.length : Int) = nHi ns - nLo ns + 1) (dw_list (de_var rfl)) (by walk_at "wk") (by rw [List.length_replicate]; omega) (fun n c x hx hc => ?_) fun hc => ?_)
      · have hx := List.mem_of_getElem? hx
        have x1 := h2 x hx
        have x2 := h4 x hx
        show DS _ [.val (eIs ns), .val (.int (nLo ns)), .val (.int (nHi ns)), .mu none (.lst (c.map DV.bl)), .val (.int x)] _
        exact ds_setixM (enc := DV.bl) (x := true) rfl de_bl (de_op (dq_of (de_var rfl)) (dq_of (de_var rfl)) ro_i0) (by omega) (by omega) ⟨by walk_at "wk", by rw [List.length_set]; exact hc⟩
      · refine ds_wk (ρ' := [.val (eIs ns), .val (.int (nLo ns)), .val (.int (nHi ns)), .val (eBs (nCore ns)), .any]) (by walk_at "wk") ?_
        exact ds_ret (d_shape_lot (da_cons (de_var rfl) (da_cons (de_var rfl) (da_cons (de_var rfl) (da_cons de_int (da_cons (dn_de (dn_is (dn_lst (da_cons de_bl da_nil) (Nat.le_of_ble_eq_true rfl)) (rfl : _ = List.map DV.bl [false]))) (da_cons (dn_de (dn_is (dn_lst (da_cons de_bl da_nil) (Nat.le_of_ble_eq_true rfl)) (rfl : _ = List.map DV.bl [false]))) da_nil)))))) (⟨h7, by omega, by omega, h11, h9, h10⟩)) (show eLot CL (nLo ns) (nHi ns) (v_inside (nLo ns) (nHi ns) (nCore ns)) = eLot CL (nLo ns) (nHi ns) ns by rw [h8])
def v_had (ns : List Int) : List Int := ns.foldl putN []
def v_tr (lo hi : Int) (ns : List Int) (n : Int) : Bool := cond (decide (n > hi)) false (cond (decide (n < lo)) false (decide (n ∈ v_had ns)))
omit T in
theorem putN_len (ks : List Int) (n : Int) : (putN ks n).length ≤ ks.length + 1 := by
  unfold putN
  split
  · omega
  · rw [List.length_append, List.length_singleton]; omega
omit T in
theorem foldl_appB {α : Type} (g : α → Bool) : ∀ (xs : List α) (b : List Bool), xs.foldl (fun acc x => acc ++ [g x]) b = b ++ xs.map g := foldl_app g
abbrev S_truth_row : Stmt := top 24
abbrev N_truth_row : List Str := ["lot", "low", "high", "had", "number", "ups", "downs", "row"]
omit T in
theorem sc_truth_row : FnScope N_truth_row ["lot", "low", "high"] (defScope S_truth_row) := ⟨rfl, rfl, rfl, by decide +kernel, rfl, by decide +kernel, by decide +kernel⟩
def sp_truth_row (CL CB : Addr) : Sp := spD (α := Int × Int × List Int × Int × Int) (fun ⟨lo, hi, ns, a, b⟩ => [eLot CL lo hi ns, .int a, .int b]) (fun ⟨lo, hi, ns, a, b⟩ => ns.length ≤ 4 ∧ -100 ≤ a ∧ b ≤ 100 ∧ a ≤ b) (fun ⟨lo, hi, ns, a, b⟩ => eBs ((rgI a (b + 1 - a).toNat).map (v_tr lo hi ns)))
omit T in
theorem d_truth_row {ρ : List Sl} {t : TA} {E : XK} {lo hi : Int} {ns : List Int} {a b : Int} (h : DA t ρ [eLot CL lo hi ns, .int a, .int b]) (hp : ns.length ≤ 4 ∧ -100 ≤ a ∧ b ≤ 100 ∧ a ≤ b) : DE (tCall (sp_truth_row CL CB) [] E t) ρ (eBs ((rgI a (b + 1 - a).toNat).map (v_tr lo hi ns))) := de_call (α := Int × Int × List Int × Int × Int) (enc := fun ⟨lo, hi, ns, a, b⟩ => [eLot CL lo hi ns, .int a, .int b]) (pre := fun ⟨lo, hi, ns, a, b⟩ => ns.length ≤ 4 ∧ -100 ≤ a ∧ b ≤ 100 ∧ a ≤ b) (val := fun ⟨lo, hi, ns, a, b⟩ => eBs ((rgI a (b + 1 - a).toNat).map (v_tr lo hi ns))) ⟨lo, hi, ns, a, b⟩ h rfl hp
theorem c_truth_row : Cal P w K mg base 2 "truth_row" (sp_truth_row CL CB) [] :=
  cal_def (α := Int × Int × List Int × Int × Int) (enc := fun ⟨lo, hi, ns, a, b⟩ => [eLot CL lo hi ns, .int a, .int b]) (pre := fun ⟨lo, hi, ns, a, b⟩ => ns.length ≤ 4 ∧ -100 ≤ a ∧ b ≤ 100 ∧ a ≤ b) (val := fun ⟨lo, hi, ns, a, b⟩ => eBs ((rgI a (b + 1 - a).toNat).map (v_tr lo hi ns))) T.f_truth_row sc_truth_row (fun ⟨lo, hi, ns, a, b⟩ => rfl) (fun _ _ _ _ _ _ us hl => match us, hl with | [_, _, _], _ => rfl) fun f cdv A outer s H E hr ⟨lo, hi, ns, a, b⟩ hp => by
    (try dsimp only at hp)
    have nd := sc_truth_row.nd
    refine ⟨_, (pss_cons (ps_set (i := 3) nd rfl (.inl rfl) pe_dnewK)
    (pss_cons (ps_for PassesOwn.never rfl (pitk K (fldk K (pv 0) rfl)) (pg_name (i := 4) nd rfl (.inl rfl))
    (pss_one (ps_dput (hu_of hr) (pv 3) (pv 4) pe_bl rfl)))
    (pss_cons (ps_set (i := 5) nd rfl (.inl rfl) (pe_c (c_flag_row T) hr (by decide) rfl (pa_cons (fldk K (pv 0) rfl) (pa_cons (fldk K (pv 0) rfl) pa_nil))))
    (pss_cons (ps_set (i := 6) nd rfl (.inl rfl) (pe_c (c_flag_row T) hr (by decide) rfl (pa_cons (fldk K (pv 0) rfl) (pa_cons (fldk K (pv 0) rfl) pa_nil))))
    (pss_cons (ps_set (i := 7) nd rfl (.inl rfl) (pe_lst pa_nil))
    (pss_cons (ps_for PassesOwn.never rfl (pi_range2 rfl T.m_range (pa_cons (pv 1) (pa_cons (pe_op op_addA (pv 2) pe_int) pa_nil))) (pg_name (i := 4) nd rfl (.inl rfl))
    (pss_one (ps_if (pt_cmpR op_gt (pv 4) (fldk K (pv 0) rfl) (nomark _)) (pss_one (ps_expr (bmk K PySem.F.plainAttrs_list PySem.F.slot_list_append PySem.F.type_list_append mt_append (pv 7) (pa_cons (pe_ix (ixk K) (pv 5) (pe_op op_mod (pv 4) (fldk K (pv 0) rfl)) (fun _ _ => rfl)) pa_nil)))) (pss_one (ps_if (pt_cmpR op_lt (pv 4) (fldk K (pv 0) rfl) (nomark _)) (pss_one (ps_expr (bmk K PySem.F.plainAttrs_list PySem.F.slot_list_append PySem.F.type_list_append mt_append (pv 7) (pa_cons (pe_ix (ixk K) (pv 6) (pe_op op_mod (pv 4) (fldk K (pv 0) rfl)) (fun _ _ => rfl)) pa_nil)))) (pss_one (ps_expr (bmk K PySem.F.plainAttrs_list PySem.F.slot_list_append PySem.F.type_list_append mt_append (pv 7) (pa_cons (pe_cmp (pc_din (hu_of hr) (pv 4) (pv 3)) rfl) pa_nil)))))))))
    (pss_one (ps_ret (pv 7))))))))), ?_⟩
    obtain ⟨h1, h2, h3, h4⟩ := hp
    show DS _ [.val (eLot CL lo hi ns), .val (.int a), .val (.int b), .any, .any, .any, .any, .any] _
    refine ds_seq (ds_dnew ?_)
    refine ds_seq (ds_fold (xs := ns) (enc := DV.int) (fun ks => [.val (eLot CL lo hi ns), .val (.int a), .val (.int b), .mu none (.dci ks), .any, .any, .any, .any]) putN [] (fun n ks => ks.length ≤ n) (dw_tup (de_fld T.cls_Lot T.no_Lot_inside (de_var rfl) rfl)) (by walk_at "wk") (Nat.zero_le _) (fun n ks x hx hk => ?_) fun hk => ?_)
    · have hn := getElem?_lt hx
      have := putN_len ks x
      show DS _ [.val (eLot CL lo hi ns), .val (.int a), .val (.int b), .mu none (.dci ks), .val (.int x), .any, .any, .any] _
      exact ds_dputI rfl de_bl (de_var rfl) (by omega) ⟨by walk_at "wk", by omega⟩
    · show DS _ [.val (eLot CL lo hi ns), .val (.int a), .val (.int b), .mu none (.dci (v_had ns)), .any, .any, .any, .any] _
      refine ds_setS (d := eBs [false]) (d_flag_row (z := ()) (da_cons (de_fld T.cls_Lot T.no_Lot_modulus (de_var rfl) rfl) (da_cons (de_fld T.cls_Lot T.no_Lot_ups (de_var rfl) rfl) da_nil)) trivial) ?_
      refine ds_setS (d := eBs [false]) (d_flag_row (z := ()) (da_cons (de_fld T.cls_Lot T.no_Lot_modulus (de_var rfl) rfl) (da_cons (de_fld T.cls_Lot T.no_Lot_downs (de_var rfl) rfl) da_nil)) trivial) ?_
      refine ds_setNS (ds := List.map DV.bl []) (dn_lst da_nil (Nat.le_of_ble_eq_true rfl)) ?_
      refine ds_seq (ds_fold (fun row => [.val (eLot CL lo hi ns), .val (.int a), .val (.int b), .mu none (.dci (v_had ns)), .any, .val (eBs [false]), .val (eBs [false]), .mu none (.lst (row.map DV.bl))]) (fun acc x => acc ++ [v_tr lo hi ns x]) [] (fun n row => row.length = n) (dw_range2 (da_cons (de_var rfl) (da_cons (de_op (dq_of (de_var rfl)) (dq_of de_int) (ro_l ro_i0)) da_nil)) (by walk_at "si")) (by walk_at "wk") rfl (fun n row x hx hr => ?_) fun hr => ?_)
      · have hn := (rgI_get hx).2
        show DS _ [.val (eLot CL lo hi ns), .val (.int a), .val (.int b), .mu none (.dci (v_had ns)), .val (.int x), .val (eBs [false]), .val (eBs [false]), .mu none (.lst (row.map DV.bl))] _
        have hlen : (row ++ [v_tr lo hi ns x]).length = n + 1 := by rw [List.length_append, hr]; rfl
        refine ds_if (dt_test (de_op (dq_of (de_var rfl)) (dq_of (de_fld T.cls_Lot T.no_Lot_high (de_var rfl) rfl)) ro_b0)) (fun hb => ?_) fun hb => ds_if (dt_test (de_op (dq_of (de_var rfl)) (dq_of (de_fld T.cls_Lot T.no_Lot_low (de_var rfl) rfl)) ro_b0)) (fun hb2 => ?_) fun hb2 => ?_
        · refine ds_appM (enc := DV.bl) (x := false) rfl (de_is (de_op (dq_of (de_var rfl)) (dq_of (de_op (dq_of (de_var rfl)) (dq_of (de_fld T.cls_Lot T.no_Lot_modulus (de_var rfl) rfl)) (ro_i (by walk_at "cmod")))) (ro_gB (by omega) (by show x % 1 < (1 : Int); omega))) (by rw [f1])) (by omega) ⟨?_, hlen⟩
          unfold v_tr; rw [hb]; walk_at "wk"
        · refine ds_appM (enc := DV.bl) (x := false) rfl (de_is (de_op (dq_of (de_var rfl)) (dq_of (de_op (dq_of (de_var rfl)) (dq_of (de_fld T.cls_Lot T.no_Lot_modulus (de_var rfl) rfl)) (ro_i (by walk_at "cmod")))) (ro_gB (by omega) (by show x % 1 < (1 : Int); omega))) (by rw [f1])) (by omega) ⟨?_, hlen⟩
          unfold v_tr; rw [hb, hb2]; walk_at "wk"
        · refine ds_appM (enc := DV.bl) (x := decide (x ∈ v_had ns)) rfl (de_dinI rfl (de_var rfl)) (by omega) ⟨?_, hlen⟩
          unfold v_tr; rw [hb, hb2]; walk_at "wk"
      · rw [foldl_app, List.nil_append]
        refine ds_wk (ρ' := [.any, .any, .any, .any, .any, .any, .any, .val (eBs ((rgI a (b + 1 - a).toNat).map (v_tr lo hi ns)))]) (by walk_at "wk") ?_
        exact ds_ret (de_var rfl) rfl
abbrev S_common_modulus : Stmt := top 25
abbrev N_common_modulus : List Str := ["one", "other", "modulus"]
omit T in
theorem sc_common_modulus : FnScope N_common_modulus ["one", "other"] (defScope S_common_modulus) := ⟨rfl, rfl, rfl, by decide +kernel, rfl, by decide +kernel, by decide +kernel⟩
def sp_common_modulus (CL CB : Addr) : Sp := spD (α := Int × Int × Int × Int × List Int × List Int) (fun ⟨l1, h1, l2, h2, a, b⟩ => [eLot CL l1 h1 a, eLot CL l2 h2 b]) (fun ⟨l1, h1, l2, h2, a, b⟩ => True) (fun ⟨l1, h1, l2, h2, a, b⟩ => .int 1)
omit T in
theorem d_common_modulus {ρ : List Sl} {t : TA} {E : XK} {l1 h1 l2 h2 : Int} {a b : List Int} (h : DA t ρ [eLot CL l1 h1 a, eLot CL l2 h2 b]) (hp : True) : DE (tCall (sp_common_modulus CL CB) [] E t) ρ (.int 1) := de_call (α := Int × Int × Int × Int × List Int × List Int) (enc := fun ⟨l1, h1, l2, h2, a, b⟩ => [eLot CL l1 h1 a, eLot CL l2 h2 b]) (pre := fun ⟨l1, h1, l2, h2, a, b⟩ => True) (val := fun ⟨l1, h1, l2, h2, a, b⟩ => .int 1) ⟨l1, h1, l2, h2, a, b⟩ h rfl hp
theorem c_common_modulus : Cal P w K mg base 1 "common_modulus" (sp_common_modulus CL CB) [] :=
  cal_def (α := Int × Int × Int × Int × List Int × List Int) (enc := fun ⟨l1, h1, l2, h2, a, b⟩ => [eLot CL l1 h1 a, eLot CL l2 h2 b]) (pre := fun ⟨l1, h1, l2, h2, a, b⟩ => True) (val := fun ⟨l1, h1, l2, h2, a, b⟩ => .int 1) T.f_common_modulus sc_common_modulus (fun ⟨l1, h1, l2, h2, a, b⟩ => rfl) (fun _ _ _ _ _ _ us hl => match us, hl with | [_, _], _ => rfl) fun f cdv A outer s H E hr ⟨l1, h1, l2, h2, a, b⟩ hp => by
    (try dsimp only at hp)
    have nd := sc_common_modulus.nd
    refine ⟨_, (pss_cons (ps_set (i := 2) nd rfl (.inl rfl) (pe_callBfun cr_lcm1 rfl T.g_lcm (pa_cons (fldk K (pv 0) rfl) (pa_cons (fldk K (pv 1) rfl) pa_nil))))
    (pss_cons (ps_if (pt_cmpR op_gt (pv 2) (C8.pe_gc (v := .int 10080) rfl T.g_MOST_MODULUS) (nomark _)) (pss_one (ps_never)) pss_nil)
    (pss_one (ps_ret (pv 2))))), ?_⟩
    show DS _ [.val (eLot CL l1 h1 a), .val (eLot CL l2 h2 b), .any] _
    refine ds_setS (de_cb (db_cons (dq_of (de_fld T.cls_Lot T.no_Lot_modulus (de_var rfl) rfl)) (db_cons (dq_of (de_fld T.cls_Lot T.no_Lot_modulus (de_var rfl) rfl)) db_nil)) (rc_lcm1)        ) ?_
    refine ds_ifFS (dt_test (de_op (dq_of (de_var rfl)) (dq_of de_int) ro_b0)) (by decide) ?_
    exact ds_ret (de_var rfl) rfl
omit T in
theorem rc_max4' {a b c d : Int} : RC rMax4 [.int a, .int b, .int c, .int d] (.int (max (max a b) (max c d))) := rc_max4 (by
  simp only [List.mem_cons, List.not_mem_nil, or_false]
  omega) (by
  intro n hn
  simp only [List.mem_cons, List.not_mem_nil, or_false] at hn
  omega)
omit T in
theorem gB_map {f : Int → Bool} {l : List Int} {i : Int} (h : wd l.length i) : gB (l.map f) i = f (gI l i) := by
  obtain ⟨h1, h2⟩ := h
  unfold gB gI
  have hi : i.toNat < l.length := by omega
  rw [List.getD_eq_getElem?_getD, List.getD_eq_getElem?_getD, List.getElem?_map, List.getElem?_eq_getElem hi]
  rfl
def rch (l1 h1 l2 h2 : Int) : Int := max (max (if l1 < 0 then -l1 else l1) (if h1 < 0 then -h1 else h1)) (max (if l2 < 0 then -l2 else l2) (if h2 < 0 then -h2 else h2)) + 1
abbrev S_within : Stmt := top 26
abbrev N_within : List Str := ["one", "other", "reach", "first", "second", "size", "at"]
omit T in
theorem sc_within : FnScope N_within ["one", "other"] (defScope S_within) := ⟨rfl, rfl, rfl, by decide +kernel, rfl, by decide +kernel, by decide +kernel⟩
def sp_within (CL CB : Addr) : Sp := spD (α := Int × Int × Int × Int × List Int × List Int) (fun ⟨l1, h1, l2, h2, a, b⟩ => [eLot CL l1 h1 a, eLot CL l2 h2 b]) (fun ⟨l1, h1, l2, h2, a, b⟩ => a.length ≤ 4 ∧ b.length ≤ 4 ∧ (-5 ≤ l1 ∧ l1 ≤ 5 ∧ -5 ≤ h1 ∧ h1 ≤ 5 ∧ -5 ≤ l2 ∧ l2 ≤ 5 ∧ -5 ≤ h2 ∧ h2 ≤ 5) ∧ ∀ n, v_tr l1 h1 a n = true → v_tr l2 h2 b n = true) (fun ⟨l1, h1, l2, h2, a, b⟩ => .non)
omit T in
theorem d_within {ρ : List Sl} {t : TA} {E : XK} {l1 h1 l2 h2 : Int} {a b : List Int} (h : DA t ρ [eLot CL l1 h1 a, eLot CL l2 h2 b]) (hp : a.length ≤ 4 ∧ b.length ≤ 4 ∧ (-5 ≤ l1 ∧ l1 ≤ 5 ∧ -5 ≤ h1 ∧ h1 ≤ 5 ∧ -5 ≤ l2 ∧ l2 ≤ 5 ∧ -5 ≤ h2 ∧ h2 ≤ 5) ∧ ∀ n, v_tr l1 h1 a n = true → v_tr l2 h2 b n = true) : DE (tCall (sp_within CL CB) [] E t) ρ (.non) := de_call (α := Int × Int × Int × Int × List Int × List Int) (enc := fun ⟨l1, h1, l2, h2, a, b⟩ => [eLot CL l1 h1 a, eLot CL l2 h2 b]) (pre := fun ⟨l1, h1, l2, h2, a, b⟩ => a.length ≤ 4 ∧ b.length ≤ 4 ∧ (-5 ≤ l1 ∧ l1 ≤ 5 ∧ -5 ≤ h1 ∧ h1 ≤ 5 ∧ -5 ≤ l2 ∧ l2 ≤ 5 ∧ -5 ≤ h2 ∧ h2 ≤ 5) ∧ ∀ n, v_tr l1 h1 a n = true → v_tr l2 h2 b n = true) (val := fun ⟨l1, h1, l2, h2, a, b⟩ => .non) ⟨l1, h1, l2, h2, a, b⟩ h rfl hp
theorem c_within : Cal P w K mg base 3 "within" (sp_within CL CB) [] :=
  cal_def (α := Int × Int × Int × Int × List Int × List Int) (enc := fun ⟨l1, h1, l2, h2, a, b⟩ => [eLot CL l1 h1 a, eLot CL l2 h2 b]) (pre := fun ⟨l1, h1, l2, h2, a, b⟩ => a.length ≤ 4 ∧ b.length ≤ 4 ∧ (-5 ≤ l1 ∧ l1 ≤ 5 ∧ -5 ≤ h1 ∧ h1 ≤ 5 ∧ -5 ≤ l2 ∧ l2 ≤ 5 ∧ -5 ≤ h2 ∧ h2 ≤ 5) ∧ ∀ n, v_tr l1 h1 a n = true → v_tr l2 h2 b n = true) (val := fun ⟨l1, h1, l2, h2, a, b⟩ => .non) T.f_within sc_within (fun ⟨l1, h1, l2, h2, a, b⟩ => rfl) (fun _ _ _ _ _ _ us hl => match us, hl with | [_, _], _ => rfl) fun f cdv A outer s H E hr ⟨l1, h1, l2, h2, a, b⟩ hp => by
    (try dsimp only at hp)
    have nd := sc_within.nd
    refine ⟨_, (pss_cons (ps_set (i := 2) nd rfl (.inl rfl) (pe_op op_addA (pe_callB (call_max4 rfl) rfl T.m_max (by decide +kernel) (pa_cons (pe_callB call_abs rfl T.m_abs (by decide +kernel) (pa_cons (fldk K (pv 0) rfl) pa_nil)) (pa_cons (pe_callB call_abs rfl T.m_abs (by decide +kernel) (pa_cons (fldk K (pv 0) rfl) pa_nil)) (pa_cons (pe_callB call_abs rfl T.m_abs (by decide +kernel) (pa_cons (fldk K (pv 1) rfl) pa_nil)) (pa_cons (pe_callB call_abs rfl T.m_abs (by decide +kernel) (pa_cons (fldk K (pv 1) rfl) pa_nil)) pa_nil))))) (pe_c (c_common_modulus T) hr (by decide) rfl (pa_cons (pv 0) (pa_cons (pv 1) pa_nil)))))
    (pss_cons (ps_set (i := 3) nd rfl (.inl rfl) (pe_c (c_truth_row T) hr (by decide) rfl (pa_cons (pv 0) (pa_cons (pe_un un_neg (pv 2)) (pa_cons (pv 2) pa_nil)))))
    (pss_cons (ps_set (i := 4) nd rfl (.inl rfl) (pe_c (c_truth_row T) hr (by decide) rfl (pa_cons (pv 1) (pa_cons (pe_un un_neg (pv 2)) (pa_cons (pv 2) pa_nil)))))
    (pss_cons (ps_for PassesOwn.never rfl (pi_range1 rfl T.m_range (pa_cons (pe_op op_addA (pv 2) pe_int) pa_nil)) (pg_name (i := 5) nd rfl (.inl rfl))
    (pss_one (ps_for PassesOwn.never rfl (pitk K (pe_tup (pa_cons (pe_op op_sub (pv 2) (pv 5)) (pa_cons (pe_op op_addA (pv 2) (pv 5)) pa_nil)))) (pg_name (i := 6) nd rfl (.inl rfl))
    (pss_one (ps_if (PW.pt (pw_and (pt_val (pe_ix (ixk K) (pv 3) (pv 6) (fun _ _ => rfl))) (pw_and1 (pt_not (pt_val (pe_ix (ixk K) (pv 4) (pv 6) (fun _ _ => rfl))))))) (pss_one (ps_ret (pe_op op_sub (pv 6) (pv 2)))) pss_nil)))))
    (pss_one (ps_ret pe_non)))))), ?_⟩
    obtain ⟨ha, hb, hbd, htr⟩ := hp
    have hr : 1 ≤ rch l1 h1 l2 h2 ∧ rch l1 h1 l2 h2 ≤ 6 := by unfold rch; split <;> split <;> split <;> split <;> omega
    show DS _ [.val (eLot CL l1 h1 a), .val (eLot CL l2 h2 b), .any, .any, .any, .any, .any] _
    refine ds_setS (d := .int (rch l1 h1 l2 h2)) (de_is (de_op (dq_of (de_cb (db_cons (dq_of (de_cb (db_cons (dq_of (de_fld T.cls_Lot T.no_Lot_low (de_var rfl) rfl)) db_nil) (by walk_at "rc"))) (db_cons (dq_of (de_cb (db_cons (dq_of (de_fld T.cls_Lot T.no_Lot_high (de_var rfl) rfl)) db_nil) (by walk_at "rc"))) (db_cons (dq_of (de_cb (db_cons (dq_of (de_fld T.cls_Lot T.no_Lot_low (de_var rfl) rfl)) db_nil) (by walk_at "rc"))) (db_cons (dq_of (de_cb (db_cons (dq_of (de_fld T.cls_Lot T.no_Lot_high (de_var rfl) rfl)) db_nil) (by walk_at "rc"))) db_nil)))) (rc_max4')       )) (dq_of (d_common_modulus (da_cons (de_var rfl) (da_cons (de_var rfl) da_nil)) (by walk_at "pre"))) (ro_l ro_i0)) rfl) ?_
    generalize rch l1 h1 l2 h2 = r at hr
    refine ds_setS (d_truth_row (da_cons (de_var rfl) (da_cons (de_un (dq_of (de_var rfl)) ru_i) (da_cons (de_var rfl) da_nil))) (⟨ha, by omega, by omega, by omega⟩)) ?_
    refine ds_setS (d_truth_row (da_cons (de_var rfl) (da_cons (de_un (dq_of (de_var rfl)) ru_i) (da_cons (de_var rfl) da_nil))) (⟨hb, by omega, by omega, by omega⟩)) ?_
    have hlen : ((rgI (-r) (r + 1 - -r).toNat).length : Int) = 2 * r + 1 := by rw [rgI_len]; omega
    generalize hrg : rgI (-r) (r + 1 - -r).toNat = rg at hlen
    refine ds_seq (ds_each [.val (eLot CL l1 h1 a), .val (eLot CL l2 h2 b), .val (.int r), .val (eBs (rg.map (v_tr l1 h1 a))), .val (eBs (rg.map (v_tr l2 h2 b))), .any, .any] (dw_range1 (da_cons (de_op (dq_of (de_var rfl)) (dq_of de_int) (ro_l ro_i0)) da_nil) (by walk_at "si")) (by walk_at "wk") (fun s hs => ?_) ?_)
    · have hs := mem_rgI.mp hs
      show DS _ [.val (eLot CL l1 h1 a), .val (eLot CL l2 h2 b), .val (.int r), .val (eBs (rg.map (v_tr l1 h1 a))), .val (eBs (rg.map (v_tr l2 h2 b))), .val (.int s), .any] _
      refine ds_each (xs := [r - s, r + s]) (enc := DV.int) [.val (eLot CL l1 h1 a), .val (eLot CL l2 h2 b), .val (.int r), .val (eBs (rg.map (v_tr l1 h1 a))), .val (eBs (rg.map (v_tr l2 h2 b))), .val (.int s), .any] (dw_tup (de_tup (da_cons (de_op (dq_of (de_var rfl)) (dq_of (de_var rfl)) ro_i0) (da_cons (de_op (dq_of (de_var rfl)) (dq_of (de_var rfl)) (ro_l ro_i0)) da_nil)) (Nat.le_of_ble_eq_true rfl))) (by walk_at "wk") (fun x hx => ?_) (by walk_at "wk")
      have hx : 0 ≤ x ∧ x < 2 * r + 1 := by
        rcases List.mem_cons.mp hx with rfl | hx
        · omega
        · rw [List.mem_singleton.mp hx]; omega
      show DS _ [.val (eLot CL l1 h1 a), .val (eLot CL l2 h2 b), .val (.int r), .val (eBs (rg.map (v_tr l1 h1 a))), .val (eBs (rg.map (v_tr l2 h2 b))), .val (.int s), .val (.int x)] _
      refine ds_ifF' (dt_and (dt_B (de_op (dq_of (de_var rfl)) (dq_of (de_var rfl)) (ro_gB (by omega) (by rw [List.length_map]; omega)))) (fun _ => (dt_not (dt_B (de_op (dq_of (de_var rfl)) (dq_of (de_var rfl)) (ro_gB (by omega) (by rw [List.length_map]; omega))))))) ?_ (ds_next (by walk_at "wk"))
      rw [gB_map ⟨hx.1, by omega⟩, gB_map ⟨hx.1, by omega⟩]
      have := htr (gI rg x)
      cases h : v_tr l1 h1 a (gI rg x)
      · rfl
      · rw [this h]; rfl
    · exact ds_ret de_non rfl

end
end DL
end

section
set_option Elab.async false
set_option linter.all false
set_option maxRecDepth 100000
set_option maxHeartbeats 4000000
namespace DL
open PySem PySem.Spec PyProof.Rows L2
open C8 (Cal pe_c Mak pe_mk)
local macro_rules | `(tactic| walk_at "si") => `(tactic| first
  | with_reducible assumption | omega | (simp only [rgI_len, List.length_map]; omega) | (simp only [decide_eq_true_eq, Bool.and_eq_true, Bool.not_eq_true', decide_eq_false_iff_not] at *; omega))
local macro_rules | `(tactic| walk_at "sz") => `(tactic| first
  | with_reducible assumption | omega | (simp only [rgI_len, List.length_map, List.length_append, List.length_cons, List.length_nil]; omega))
local macro_rules | `(tactic| walk_at "row") => `(tactic| first | with_reducible assumption | ((with_reducible refine Tbl.get (by with_reducible assumption) ?_); walk_at "wd") | exact row_mem (by with_reducible assumption) (by with_reducible assumption))
local macro_rules | `(tactic| walk_at "wd") => `(tactic| first | with_reducible assumption | omega | (constructor <;> omega) | ((with_reducible refine wd_get (by walk_at "row") ?_); walk_at "wd") | exact wd_mem (by with_reducible assumption) (by with_reducible assumption))
local macro_rules | `(tactic| walk_at "rk") => `(tactic| first
  | ((with_reducible apply ro_xL (by decide)); exact rfl) | ((with_reducible apply ro_xT (by decide)); exact rfl) | walk_at "ro")
local macro_rules | `(tactic| walk_at "ro") => `(tactic| first
  | with_reducible exact ro_b0 | with_reducible exact ro_l ro_eqI | with_reducible exact ro_l ro_neI | with_reducible exact ro_l ro_eqB | with_reducible exact ro_l ro_neB | with_reducible exact ro_l ro_eqS | with_reducible exact ro_l ro_neS
  | ((with_reducible refine ro_gLR (by with_reducible assumption) ?_); walk_at "wd") | ((with_reducible refine ro_gIR (by walk_at "row") ?_); walk_at "wd")
  | ((with_reducible refine ro_gI ?_ ?_) <;> walk_at "si") | ((with_reducible refine ro_gL ?_ ?_) <;> walk_at "si") | ((with_reducible refine ro_gIT ?_ ?_) <;> walk_at "si")
  | with_reducible exact ro_gG (by with_reducible assumption) | ((with_reducible refine ro_gT ?_ ?_) <;> walk_at "si")
  | ((with_reducible refine ro_gB ?_ ?_) <;> walk_at "si")
  | ((with_reducible refine ro_gS ?_ ?_) <;> walk_at "si") | ((with_reducible refine ro_gST ?_ ?_) <;> walk_at "si")
  | ((with_reducible refine ro_xM ?_ ?_) <;> walk_at "si") | ((with_reducible refine ro_xTM ?_ ?_) <;> walk_at "si")
  | ((with_reducible apply ro_xL (by decide)); exact rfl) | ((with_reducible apply ro_xT (by decide)); exact rfl)
  | with_reducible exact ro_eqIs | with_reducible exact ro_l ro_inL | with_reducible exact ro_l ro_niL | with_reducible exact ro_l ro_inT | with_reducible exact ro_l ro_inS | with_reducible exact ro_isNN | with_reducible exact ro_notNN | with_reducible exact ro_isNI | with_reducible exact ro_notNI)
local macro_rules | `(tactic| walk_at "rc") => `(tactic| with_reducible first
  | exact rc_lenM | exact rc_lenTM | exact rc_lenL' | exact rc_lenT' | exact rc_ii _ | exact rc_ib _ | exact rc_ss _ | exact rc_tt _ | exact rc_ltl _ | exact rc_ltt _ | exact rc_int | exact rc_abs | exact rc_max2 | exact rc_min2 | exact rc_all | exact rc_sum | exact rc_tupL' | exact rc_tupT' | exact rc_range1)
local macro_rules | `(tactic| walk_at "rcn") => `(tactic| with_reducible first
  | exact rcn_listL' | exact rcn_listT' | exact rcn_sortP)
local macro_rules | `(tactic| walk_at "pre") => `(tactic| first | with_reducible assumption | exact trivial | (refine And.intro ?_ ?_ <;> walk_at "pre") | walk_at "wd" | walk_at "si")
local macro_rules | `(tactic| walk_at "cmod") => `(tactic| (show (0 : Int) < _; first | decide | walk_at "si"))
local macro_rules | `(tactic| walk_at "cd") => `(tactic| (refine And.intro ?_ ?_ <;> walk_at "si"))
local macro_rules | `(tactic| walk_at "cp") => `(tactic| exact ⟨by decide, by decide, by decide⟩)
local macro_rules | `(tactic| walk_at "cm") => `(tactic| first | (refine Or.inl (And.intro ?_ ?_) <;> omega) | (refine Or.inr (And.intro ?_ ?_) <;> omega))
local macro_rules | `(tactic| walk_at "wk") => `(tactic| (repeat (first | exact Wk.nil | exact Wk.refl _ | refine Wk.same ?_ | refine Wk.frz ?_ | refine Wk.drop ?_)))
section
variable {P : PySem.Program} {w : World} {K : PySem.W.Frag} {mg : Str → Option Value} {base : Heap} {CL CB : Addr} (T : Txt K mg CL CB)
include T
abbrev S_whole_within : Stmt := top 28
abbrev N_whole_within : List Str := ["thing", "low", "high"]
omit T in
theorem sc_whole_within : FnScope N_whole_within ["thing", "low", "high"] (defScope S_whole_within) := ⟨rfl, rfl, rfl, by decide +kernel, rfl, by decide +kernel, by decide +kernel⟩
def sp_whole_within : Sp := spD (α := Int × Int × Int) (fun ⟨n, a, b⟩ => [.int n, .int a, .int b]) (fun ⟨n, a, b⟩ => True) (fun ⟨n, a, b⟩ => .bl (decide (a ≤ n) && decide (n ≤ b)))
omit T in
theorem d_whole_within {ρ : List Sl} {t : TA} {E : XK} {n a b : Int} (h : DA t ρ [.int n, .int a, .int b]) (hp : True) : DE (tCall sp_whole_within [] E t) ρ (.bl (decide (a ≤ n) && decide (n ≤ b))) := de_call (α := Int × Int × Int) (enc := fun ⟨n, a, b⟩ => [.int n, .int a, .int b]) (pre := fun ⟨n, a, b⟩ => True) (val := fun ⟨n, a, b⟩ => .bl (decide (a ≤ n) && decide (n ≤ b))) ⟨n, a, b⟩ h rfl hp
theorem c_whole_within : Cal P w K mg base 1 "whole_within" sp_whole_within [] :=
  cal_def (α := Int × Int × Int) (enc := fun ⟨n, a, b⟩ => [.int n, .int a, .int b]) (pre := fun ⟨n, a, b⟩ => True) (val := fun ⟨n, a, b⟩ => .bl (decide (a ≤ n) && decide (n ≤ b))) T.f_whole_within sc_whole_within (fun ⟨n, a, b⟩ => rfl) (fun _ _ _ _ _ _ us hl => match us, hl with | [_, _, _], _ => rfl) fun f cdv A outer s H E hr ⟨n, a, b⟩ hp => by
    (try dsimp only at hp)
    have nd := sc_whole_within.nd
    refine ⟨_, (pss_one (ps_ret (pe_and (pe_callB (isik K) rfl T.m_isinstance (by decide +kernel) (pa_cons (pv 0) (pa_cons (pe_bltn (v := .ty "int") rfl T.m_int (by decide +kernel) rfl) pa_nil))) (pe_and (pe_not (pe_callB (isik K) rfl T.m_isinstance (by decide +kernel) (pa_cons (pv 0) (pa_cons (pe_bltn (v := .ty "bool") rfl T.m_bool (by decide +kernel) rfl) pa_nil)))) (pe_one (pe_chain op_le op_le (pv 1) (pv 0) (pv 2))))))), ?_⟩
    show DS _ [.val (.int n), .val (.int a), .val (.int b)] _
    exact ds_ret (de_andV (de_cb (db_cons (dq_of (de_var rfl)) (db_cons (dq_of de_ty) db_nil)) (by walk_at "rc")) (fun _ => (de_andV (de_notV (de_cb (db_cons (dq_of (de_var rfl)) (db_cons (dq_of de_ty) db_nil)) (by walk_at "rc"))) (fun _ => (de_chain (dq_of (de_var rfl)) (dq_of (de_var rfl)) ro_b0 (fun _ => (dq_of (de_var rfl))) (fun _ => ro_b0)))))) rfl
omit T in
theorem ro_inS' {K : PySem.W.Frag} {r : R2} {i : Str} {ns : List Str} : RO (fun x y H Q => rIn K false x y H Q ∨ r x y H Q) (.str i) (.tup (ns.map DV.str)) (.bl (decide (i ∈ ns))) := ro_l ro_inS
omit T in
theorem nS {a b : Str} (h : a ≠ b) : decide (a = b) = false := decide_eq_false h
omit T in
theorem nIn {a b c : Str} (h : a ≠ b) (h2 : a ≠ c) : decide (a ∈ [b, c]) = false := decide_eq_false fun h3 => by
  rcases List.mem_cons.mp h3 with h4 | h4
  · exact h h4
  · exact h2 (List.mem_singleton.mp h4)
omit T in
theorem and4 {a b c d : Bool} (ha : a = true) (hb : b = true) (hc : c = true) (hd : d = true) : (a && (b && (c && d))) = true := by rw [ha, hb, hc, hd]; rfl
omit T in
theorem and6 {a b c d e f : Bool} (ha : a = true) (hb : b = true) (hc : c = true) (hd : d = true) (he : e = true) (hf : f = true) : (a && (b && ((c && d) && (e && f)))) = true := by rw [ha, hb, hc, hd, he, hf]; rfl
abbrev S_check_letter : Stmt := top 29
abbrev N_check_letter : List Str := ["letter", "word"]
omit T in
theorem sc_check_letter : FnScope N_check_letter ["letter"] (defScope S_check_letter) := ⟨rfl, rfl, rfl, by decide +kernel, rfl, by decide +kernel, by decide +kernel⟩
def sp_check_letter : Sp := spD (α := Sy) (fun s => [eSy s]) (fun s => LetK 20 s) (fun s => eSy s)
omit T in
theorem d_check_letter {ρ : List Sl} {t : TA} {E : XK} {s : Sy} (h : DA t ρ [eSy s]) (hp : LetK 20 s) : DE (tCall sp_check_letter [] E t) ρ (eSy s) := de_call (α := Sy) (enc := fun s => [eSy s]) (pre := fun s => LetK 20 s) (val := fun s => eSy s) s h rfl hp
theorem c_check_letter : Cal P w K mg base 2 "check_letter" sp_check_letter [] :=
  cal_def (α := Sy) (enc := fun s => [eSy s]) (pre := fun s => LetK 20 s) (val := fun s => eSy s) T.f_check_letter sc_check_letter (fun s => rfl) (fun _ _ _ _ _ _ us hl => match us, hl with | [_], _ => rfl) fun f cdv A outer s H E hr s hp => by
    (try dsimp only at hp)
    have nd := sc_check_letter.nd
    refine ⟨_, (pss_cons (ps_if (PW.pt (pw_or (pt_not (pt_val (pe_callB (isitk K) rfl T.m_isinstance (by decide +kernel) (pa_cons (pv 0) (pa_cons (pe_tup (pa_cons (pe_bltn (v := .ty "list") rfl T.m_list (by decide +kernel) rfl) (pa_cons (pe_bltn (v := .ty "tuple") rfl T.m_tuple (by decide +kernel) rfl) pa_nil))) pa_nil))))) (pw_or (pt_cmpR (eqk K hr) (pe_callB (lenk K) rfl T.m_len (by decide +kernel) (pa_cons (pv 0) pa_nil)) pe_int (nomark _)) (pw_or1 (pt_not (pt_val (pe_callB (isik K) rfl T.m_isinstance (by decide +kernel) (pa_cons (pe_ix (ixk K) (pv 0) pe_int (fun _ _ => rfl)) (pa_cons (pe_bltn (v := .ty "str") rfl T.m_str (by decide +kernel) rfl) pa_nil))))))))) (pss_one (ps_never)) pss_nil)
    (pss_cons (ps_set (i := 1) nd rfl (.inl rfl) (pe_ix (ixk K) (pv 0) pe_int (fun _ _ => rfl)))
    (pss_cons (ps_if (PW.pt (pw_and (pt_cmpR (eqk K hr) (pv 1) pe_str (nomark _)) (pw_and1 (pt_cmpR (eqk K hr) (pe_callB (lenk K) rfl T.m_len (by decide +kernel) (pa_cons (pv 0) pa_nil)) pe_int (nomark _))))) (pss_one (ps_ret (pe_tup (pa_cons pe_str pa_nil)))) pss_nil)
    (pss_cons (ps_if (PW.pt (pw_and (pt_cmpR (ink K hr) (pv 1) (pe_tup (pa_cons pe_str (pa_cons pe_str pa_nil))) (by rfl)) (pw_and (pt_cmpR (eqk K hr) (pe_callB (lenk K) rfl T.m_len (by decide +kernel) (pa_cons (pv 0) pa_nil)) pe_int (nomark _)) (pw_and1 (pt_val (pe_c (c_whole_within T) hr (by decide) rfl (pa_cons (pe_ix (ixk K) (pv 0) pe_int (fun _ _ => rfl)) (pa_cons (pe_un un_neg pe_int) (pa_cons pe_int pa_nil))))))))) (pss_one (ps_ret (pe_tup (pa_cons (pv 1) (pa_cons (pe_ix (ixk K) (pv 0) pe_int (fun _ _ => rfl)) pa_nil))))) pss_nil)
    (pss_cons (ps_if (PW.pt (pw_and (pt_cmpR (eqk K hr) (pv 1) pe_str (nomark _)) (pw_and (pt_cmpR (eqk K hr) (pe_callB (lenk K) rfl T.m_len (by decide +kernel) (pa_cons (pv 0) pa_nil)) pe_int (nomark _)) (pw_and1 (pt_val (pe_c (c_whole_within T) hr (by decide) rfl (pa_cons (pe_ix (ixk K) (pv 0) pe_int (fun _ _ => rfl)) (pa_cons pe_int (pa_cons pe_int pa_nil))))))))) (pss_one (ps_ret (pe_tup (pa_cons (pv 1) (pa_cons (pe_ix (ixk K) (pv 0) pe_int (fun _ _ => rfl)) pa_nil))))) pss_nil)
    (pss_one (ps_never))))))), ?_⟩
    cases hp with
    | add n hn =>
      show DS _ [.val (.tup [.str "add", .int n]), .any] _
      refine ds_ifFS (dt_or (dt_not (dt_B (de_cb (db_cons (dq_of (de_var rfl)) (db_cons (dq_of (de_tup (da_cons de_ty (da_cons de_ty da_nil)) (Nat.le_of_ble_eq_true rfl))) db_nil)) (by walk_at "rc")))) (fun _ => (dt_or (dt_test (de_op (dq_of (de_cb (db_cons (dq_of (de_var rfl)) db_nil) (by walk_at "rc"))) (dq_of de_int) (by walk_at "ro"))) (fun _ => (dt_not (dt_B (de_cb (db_cons (dq_of (de_op (dq_of (de_var rfl)) (dq_of de_int) (by walk_at "rk"))) (db_cons (dq_of de_ty) db_nil)) (by walk_at "rc")))))))) rfl ?_
      refine ds_setS (de_op (dq_of (de_var rfl)) (dq_of de_int) (by walk_at "rk")) ?_
      refine ds_ifFS (dt_and (dt_test (de_op (dq_of (de_var rfl)) (dq_of de_str) (by walk_at "ro"))) (fun _ => (dt_test (de_op (dq_of (de_cb (db_cons (dq_of (de_var rfl)) db_nil) (by walk_at "rc"))) (dq_of de_int) (by walk_at "ro"))))) (by rw [nS (by decide +kernel)]; rfl) ?_
      refine ds_ifTS (dt_and (dt_test (de_op (dq_of (de_var rfl)) (dq_of (de_tup (da_cons de_str (da_cons de_str da_nil)) (Nat.le_of_ble_eq_true rfl))) (ro_inS' (ns := ["set", "add"])))) (fun _ => (dt_and (dt_test (de_op (dq_of (de_cb (db_cons (dq_of (de_var rfl)) db_nil) (by walk_at "rc"))) (dq_of de_int) (by walk_at "ro"))) (fun _ => (dt_B (d_whole_within (da_cons (de_op (dq_of (de_var rfl)) (dq_of de_int) (by walk_at "rk")) (da_cons (de_un (dq_of de_int) ru_i) (da_cons de_int da_nil))) (by walk_at "pre"))))))) (and4 (decide_eq_true (by decide +kernel)) rfl (decide_eq_true (by omega)) (decide_eq_true (by omega))) ?_
      exact ds_seq (ds_ret (de_tup (da_cons (de_var rfl) (da_cons (de_op (dq_of (de_var rfl)) (dq_of de_int) (by walk_at "rk")) da_nil)) (Nat.le_of_ble_eq_true rfl)) rfl)
    | set n hn =>
      show DS _ [.val (.tup [.str "set", .int n]), .any] _
      refine ds_ifFS (dt_or (dt_not (dt_B (de_cb (db_cons (dq_of (de_var rfl)) (db_cons (dq_of (de_tup (da_cons de_ty (da_cons de_ty da_nil)) (Nat.le_of_ble_eq_true rfl))) db_nil)) (by walk_at "rc")))) (fun _ => (dt_or (dt_test (de_op (dq_of (de_cb (db_cons (dq_of (de_var rfl)) db_nil) (by walk_at "rc"))) (dq_of de_int) (by walk_at "ro"))) (fun _ => (dt_not (dt_B (de_cb (db_cons (dq_of (de_op (dq_of (de_var rfl)) (dq_of de_int) (by walk_at "rk"))) (db_cons (dq_of de_ty) db_nil)) (by walk_at "rc")))))))) rfl ?_
      refine ds_setS (de_op (dq_of (de_var rfl)) (dq_of de_int) (by walk_at "rk")) ?_
      refine ds_ifFS (dt_and (dt_test (de_op (dq_of (de_var rfl)) (dq_of de_str) (by walk_at "ro"))) (fun _ => (dt_test (de_op (dq_of (de_cb (db_cons (dq_of (de_var rfl)) db_nil) (by walk_at "rc"))) (dq_of de_int) (by walk_at "ro"))))) (by rw [nS (by decide +kernel)]; rfl) ?_
      refine ds_ifTS (dt_and (dt_test (de_op (dq_of (de_var rfl)) (dq_of (de_tup (da_cons de_str (da_cons de_str da_nil)) (Nat.le_of_ble_eq_true rfl))) (ro_inS' (ns := ["set", "add"])))) (fun _ => (dt_and (dt_test (de_op (dq_of (de_cb (db_cons (dq_of (de_var rfl)) db_nil) (by walk_at "rc"))) (dq_of de_int) (by walk_at "ro"))) (fun _ => (dt_B (d_whole_within (da_cons (de_op (dq_of (de_var rfl)) (dq_of de_int) (by walk_at "rk")) (da_cons (de_un (dq_of de_int) ru_i) (da_cons de_int da_nil))) (by walk_at "pre"))))))) (and4 (decide_eq_true (by decide +kernel)) rfl (decide_eq_true (by omega)) (decide_eq_true (by omega))) ?_
      exact ds_seq (ds_ret (de_tup (da_cons (de_var rfl) (da_cons (de_op (dq_of (de_var rfl)) (dq_of de_int) (by walk_at "rk")) da_nil)) (Nat.le_of_ble_eq_true rfl)) rfl)
    | turn =>
      show DS _ [.val (.tup [.str "turn"]), .any] _
      refine ds_ifFS (dt_or (dt_not (dt_B (de_cb (db_cons (dq_of (de_var rfl)) (db_cons (dq_of (de_tup (da_cons de_ty (da_cons de_ty da_nil)) (Nat.le_of_ble_eq_true rfl))) db_nil)) (by walk_at "rc")))) (fun _ => (dt_or (dt_test (de_op (dq_of (de_cb (db_cons (dq_of (de_var rfl)) db_nil) (by walk_at "rc"))) (dq_of de_int) (by walk_at "ro"))) (fun _ => (dt_not (dt_B (de_cb (db_cons (dq_of (de_op (dq_of (de_var rfl)) (dq_of de_int) (by walk_at "rk"))) (db_cons (dq_of de_ty) db_nil)) (by walk_at "rc")))))))) rfl ?_
      refine ds_setS (de_op (dq_of (de_var rfl)) (dq_of de_int) (by walk_at "rk")) ?_
      refine ds_ifTS (dt_and (dt_test (de_op (dq_of (de_var rfl)) (dq_of de_str) (by walk_at "ro"))) (fun _ => (dt_test (de_op (dq_of (de_cb (db_cons (dq_of (de_var rfl)) db_nil) (by walk_at "rc"))) (dq_of de_int) (by walk_at "ro"))))) (by decide +kernel) ?_
      exact ds_seq (ds_ret (de_tup (da_cons de_str da_nil) (Nat.le_of_ble_eq_true rfl)) rfl)
    | mod n hn =>
      show DS _ [.val (.tup [.str "mod", .int n]), .any] _
      refine ds_ifFS (dt_or (dt_not (dt_B (de_cb (db_cons (dq_of (de_var rfl)) (db_cons (dq_of (de_tup (da_cons de_ty (da_cons de_ty da_nil)) (Nat.le_of_ble_eq_true rfl))) db_nil)) (by walk_at "rc")))) (fun _ => (dt_or (dt_test (de_op (dq_of (de_cb (db_cons (dq_of (de_var rfl)) db_nil) (by walk_at "rc"))) (dq_of de_int) (by walk_at "ro"))) (fun _ => (dt_not (dt_B (de_cb (db_cons (dq_of (de_op (dq_of (de_var rfl)) (dq_of de_int) (by walk_at "rk"))) (db_cons (dq_of de_ty) db_nil)) (by walk_at "rc")))))))) rfl ?_
      refine ds_setS (de_op (dq_of (de_var rfl)) (dq_of de_int) (by walk_at "rk")) ?_
      refine ds_ifFS (dt_and (dt_test (de_op (dq_of (de_var rfl)) (dq_of de_str) (by walk_at "ro"))) (fun _ => (dt_test (de_op (dq_of (de_cb (db_cons (dq_of (de_var rfl)) db_nil) (by walk_at "rc"))) (dq_of de_int) (by walk_at "ro"))))) (by rw [nS (by decide +kernel)]; rfl) ?_
      refine ds_ifFS (dt_and (dt_test (de_op (dq_of (de_var rfl)) (dq_of (de_tup (da_cons de_str (da_cons de_str da_nil)) (Nat.le_of_ble_eq_true rfl))) (ro_inS' (ns := ["set", "add"])))) (fun _ => (dt_and (dt_test (de_op (dq_of (de_cb (db_cons (dq_of (de_var rfl)) db_nil) (by walk_at "rc"))) (dq_of de_int) (by walk_at "ro"))) (fun _ => (dt_B (d_whole_within (da_cons (de_op (dq_of (de_var rfl)) (dq_of de_int) (by walk_at "rk")) (da_cons (de_un (dq_of de_int) ru_i) (da_cons de_int da_nil))) (by walk_at "pre"))))))) (by rw [nIn (by decide +kernel) (by decide +kernel)]; rfl) ?_
      refine ds_ifTS (dt_and (dt_test (de_op (dq_of (de_var rfl)) (dq_of de_str) (by walk_at "ro"))) (fun _ => (dt_and (dt_test (de_op (dq_of (de_cb (db_cons (dq_of (de_var rfl)) db_nil) (by walk_at "rc"))) (dq_of de_int) (by walk_at "ro"))) (fun _ => (dt_B (d_whole_within (da_cons (de_op (dq_of (de_var rfl)) (dq_of de_int) (by walk_at "rk")) (da_cons de_int (da_cons de_int da_nil))) (by walk_at "pre"))))))) (and4 (decide_eq_true (by decide +kernel)) rfl (decide_eq_true (by omega)) (decide_eq_true (by omega))) ?_
      exact ds_seq (ds_ret (de_tup (da_cons (de_var rfl) (da_cons (de_op (dq_of (de_var rfl)) (dq_of de_int) (by walk_at "rk")) da_nil)) (Nat.le_of_ble_eq_true rfl)) rfl)
abbrev S_check_test : Stmt := top 30
abbrev N_check_test : List Str := ["test", "word"]
omit T in
theorem sc_check_test : FnScope N_check_test ["test"] (defScope S_check_test) := ⟨rfl, rfl, rfl, by decide +kernel, rfl, by decide +kernel, by decide +kernel⟩
def sp_check_test : Sp := spD (α := Sy) (fun s => [eSy s]) (fun s => TstK 20 s) (fun s => eSy s)
omit T in
theorem d_check_test {ρ : List Sl} {t : TA} {E : XK} {s : Sy} (h : DA t ρ [eSy s]) (hp : TstK 20 s) : DE (tCall sp_check_test [] E t) ρ (eSy s) := de_call (α := Sy) (enc := fun s => [eSy s]) (pre := fun s => TstK 20 s) (val := fun s => eSy s) s h rfl hp
theorem c_check_test : Cal P w K mg base 2 "check_test" sp_check_test [] :=
  cal_def (α := Sy) (enc := fun s => [eSy s]) (pre := fun s => TstK 20 s) (val := fun s => eSy s) T.f_check_test sc_check_test (fun s => rfl) (fun _ _ _ _ _ _ us hl => match us, hl with | [_], _ => rfl) fun f cdv A outer s H E hr s hp => by
    (try dsimp only at hp)
    have nd := sc_check_test.nd
    refine ⟨_, (pss_cons (ps_if (PW.pt (pw_or (pt_not (pt_val (pe_callB (isitk K) rfl T.m_isinstance (by decide +kernel) (pa_cons (pv 0) (pa_cons (pe_tup (pa_cons (pe_bltn (v := .ty "list") rfl T.m_list (by decide +kernel) rfl) (pa_cons (pe_bltn (v := .ty "tuple") rfl T.m_tuple (by decide +kernel) rfl) pa_nil))) pa_nil))))) (pw_or (pt_cmpR (eqk K hr) (pe_callB (lenk K) rfl T.m_len (by decide +kernel) (pa_cons (pv 0) pa_nil)) pe_int (nomark _)) (pw_or1 (pt_not (pt_val (pe_callB (isik K) rfl T.m_isinstance (by decide +kernel) (pa_cons (pe_ix (ixk K) (pv 0) pe_int (fun _ _ => rfl)) (pa_cons (pe_bltn (v := .ty "str") rfl T.m_str (by decide +kernel) rfl) pa_nil))))))))) (pss_one (ps_never)) pss_nil)
    (pss_cons (ps_set (i := 1) nd rfl (.inl rfl) (pe_ix (ixk K) (pv 0) pe_int (fun _ _ => rfl)))
    (pss_cons (ps_if (PW.pt (pw_and (pt_cmpR (ink K hr) (pv 1) (pe_tup (pa_cons pe_str (pa_cons pe_str pa_nil))) (by rfl)) (pw_and (pt_cmpR (eqk K hr) (pe_callB (lenk K) rfl T.m_len (by decide +kernel) (pa_cons (pv 0) pa_nil)) pe_int (nomark _)) (pw_and1 (pt_val (pe_c (c_whole_within T) hr (by decide) rfl (pa_cons (pe_ix (ixk K) (pv 0) pe_int (fun _ _ => rfl)) (pa_cons (pe_un un_neg pe_int) (pa_cons pe_int pa_nil))))))))) (pss_one (ps_ret (pe_tup (pa_cons (pv 1) (pa_cons (pe_ix (ixk K) (pv 0) pe_int (fun _ _ => rfl)) pa_nil))))) pss_nil)
    (pss_cons (ps_if (PW.pt (pw_and (pt_cmpR (eqk K hr) (pv 1) pe_str (nomark _)) (pw_and (pt_cmpR (eqk K hr) (pe_callB (lenk K) rfl T.m_len (by decide +kernel) (pa_cons (pv 0) pa_nil)) pe_int (nomark _)) (pw_and (pt_val (pe_c (c_whole_within T) hr (by decide) rfl (pa_cons (pe_ix (ixk K) (pv 0) pe_int (fun _ _ => rfl)) (pa_cons pe_int (pa_cons pe_int pa_nil))))) (pw_and1 (pt_val (pe_c (c_whole_within T) hr (by decide) rfl (pa_cons (pe_ix (ixk K) (pv 0) pe_int (fun _ _ => rfl)) (pa_cons pe_int (pa_cons (pe_op op_sub (pe_ix (ixk K) (pv 0) pe_int (fun _ _ => rfl)) pe_int) pa_nil)))))))))) (pss_one (ps_ret (pe_tup (pa_cons (pv 1) (pa_cons (pe_ix (ixk K) (pv 0) pe_int (fun _ _ => rfl)) (pa_cons (pe_ix (ixk K) (pv 0) pe_int (fun _ _ => rfl)) pa_nil)))))) pss_nil)
    (pss_one (ps_never)))))), ?_⟩
    cases hp with
    | below n hn =>
      show DS _ [.val (.tup [.str "below", .int n]), .any] _
      refine ds_ifFS (dt_or (dt_not (dt_B (de_cb (db_cons (dq_of (de_var rfl)) (db_cons (dq_of (de_tup (da_cons de_ty (da_cons de_ty da_nil)) (Nat.le_of_ble_eq_true rfl))) db_nil)) (by walk_at "rc")))) (fun _ => (dt_or (dt_test (de_op (dq_of (de_cb (db_cons (dq_of (de_var rfl)) db_nil) (by walk_at "rc"))) (dq_of de_int) (by walk_at "ro"))) (fun _ => (dt_not (dt_B (de_cb (db_cons (dq_of (de_op (dq_of (de_var rfl)) (dq_of de_int) (by walk_at "rk"))) (db_cons (dq_of de_ty) db_nil)) (by walk_at "rc")))))))) rfl ?_
      refine ds_setS (de_op (dq_of (de_var rfl)) (dq_of de_int) (by walk_at "rk")) ?_
      refine ds_ifTS (dt_and (dt_test (de_op (dq_of (de_var rfl)) (dq_of (de_tup (da_cons de_str (da_cons de_str da_nil)) (Nat.le_of_ble_eq_true rfl))) (ro_inS' (ns := ["below", "is"])))) (fun _ => (dt_and (dt_test (de_op (dq_of (de_cb (db_cons (dq_of (de_var rfl)) db_nil) (by walk_at "rc"))) (dq_of de_int) (by walk_at "ro"))) (fun _ => (dt_B (d_whole_within (da_cons (de_op (dq_of (de_var rfl)) (dq_of de_int) (by walk_at "rk")) (da_cons (de_un (dq_of de_int) ru_i) (da_cons de_int da_nil))) (by walk_at "pre"))))))) (and4 (decide_eq_true (by decide +kernel)) rfl (decide_eq_true (by omega)) (decide_eq_true (by omega))) ?_
      exact ds_seq (ds_ret (de_tup (da_cons (de_var rfl) (da_cons (de_op (dq_of (de_var rfl)) (dq_of de_int) (by walk_at "rk")) da_nil)) (Nat.le_of_ble_eq_true rfl)) rfl)
    | is n hn =>
      show DS _ [.val (.tup [.str "is", .int n]), .any] _
      refine ds_ifFS (dt_or (dt_not (dt_B (de_cb (db_cons (dq_of (de_var rfl)) (db_cons (dq_of (de_tup (da_cons de_ty (da_cons de_ty da_nil)) (Nat.le_of_ble_eq_true rfl))) db_nil)) (by walk_at "rc")))) (fun _ => (dt_or (dt_test (de_op (dq_of (de_cb (db_cons (dq_of (de_var rfl)) db_nil) (by walk_at "rc"))) (dq_of de_int) (by walk_at "ro"))) (fun _ => (dt_not (dt_B (de_cb (db_cons (dq_of (de_op (dq_of (de_var rfl)) (dq_of de_int) (by walk_at "rk"))) (db_cons (dq_of de_ty) db_nil)) (by walk_at "rc")))))))) rfl ?_
      refine ds_setS (de_op (dq_of (de_var rfl)) (dq_of de_int) (by walk_at "rk")) ?_
      refine ds_ifTS (dt_and (dt_test (de_op (dq_of (de_var rfl)) (dq_of (de_tup (da_cons de_str (da_cons de_str da_nil)) (Nat.le_of_ble_eq_true rfl))) (ro_inS' (ns := ["below", "is"])))) (fun _ => (dt_and (dt_test (de_op (dq_of (de_cb (db_cons (dq_of (de_var rfl)) db_nil) (by walk_at "rc"))) (dq_of de_int) (by walk_at "ro"))) (fun _ => (dt_B (d_whole_within (da_cons (de_op (dq_of (de_var rfl)) (dq_of de_int) (by walk_at "rk")) (da_cons (de_un (dq_of de_int) ru_i) (da_cons de_int da_nil))) (by walk_at "pre"))))))) (and4 (decide_eq_true (by decide +kernel)) rfl (decide_eq_true (by omega)) (decide_eq_true (by omega))) ?_
      exact ds_seq (ds_ret (de_tup (da_cons (de_var rfl) (da_cons (de_op (dq_of (de_var rfl)) (dq_of de_int) (by walk_at "rk")) da_nil)) (Nat.le_of_ble_eq_true rfl)) rfl)
    | rest n r hn hr =>
      show DS _ [.val (.tup [.str "rest", .int n, .int r]), .any] _
      refine ds_ifFS (dt_or (dt_not (dt_B (de_cb (db_cons (dq_of (de_var rfl)) (db_cons (dq_of (de_tup (da_cons de_ty (da_cons de_ty da_nil)) (Nat.le_of_ble_eq_true rfl))) db_nil)) (by walk_at "rc")))) (fun _ => (dt_or (dt_test (de_op (dq_of (de_cb (db_cons (dq_of (de_var rfl)) db_nil) (by walk_at "rc"))) (dq_of de_int) (by walk_at "ro"))) (fun _ => (dt_not (dt_B (de_cb (db_cons (dq_of (de_op (dq_of (de_var rfl)) (dq_of de_int) (by walk_at "rk"))) (db_cons (dq_of de_ty) db_nil)) (by walk_at "rc")))))))) rfl ?_
      refine ds_setS (de_op (dq_of (de_var rfl)) (dq_of de_int) (by walk_at "rk")) ?_
      refine ds_ifFS (dt_and (dt_test (de_op (dq_of (de_var rfl)) (dq_of (de_tup (da_cons de_str (da_cons de_str da_nil)) (Nat.le_of_ble_eq_true rfl))) (ro_inS' (ns := ["below", "is"])))) (fun _ => (dt_and (dt_test (de_op (dq_of (de_cb (db_cons (dq_of (de_var rfl)) db_nil) (by walk_at "rc"))) (dq_of de_int) (by walk_at "ro"))) (fun _ => (dt_B (d_whole_within (da_cons (de_op (dq_of (de_var rfl)) (dq_of de_int) (by walk_at "rk")) (da_cons (de_un (dq_of de_int) ru_i) (da_cons de_int da_nil))) (by walk_at "pre"))))))) (by rw [nIn (by decide +kernel) (by decide +kernel)]; rfl) ?_
      refine ds_ifTS (dt_and (dt_test (de_op (dq_of (de_var rfl)) (dq_of de_str) (by walk_at "ro"))) (fun _ => (dt_and (dt_test (de_op (dq_of (de_cb (db_cons (dq_of (de_var rfl)) db_nil) (by walk_at "rc"))) (dq_of de_int) (by walk_at "ro"))) (fun _ => (dt_and (dt_B (d_whole_within (da_cons (de_op (dq_of (de_var rfl)) (dq_of de_int) (by walk_at "rk")) (da_cons de_int (da_cons de_int da_nil))) (by walk_at "pre"))) (fun _ => (dt_B (d_whole_within (da_cons (de_op (dq_of (de_var rfl)) (dq_of de_int) (by walk_at "rk")) (da_cons de_int (da_cons (de_op (dq_of (de_op (dq_of (de_var rfl)) (dq_of de_int) (by walk_at "rk"))) (dq_of de_int) ro_i0) da_nil))) (by walk_at "pre"))))))))) (and6 (decide_eq_true (by decide +kernel)) rfl (decide_eq_true (by omega)) (decide_eq_true (by omega)) (decide_eq_true (by omega)) (decide_eq_true (by omega))) ?_
      exact ds_seq (ds_ret (de_tup (da_cons (de_var rfl) (da_cons (de_op (dq_of (de_var rfl)) (dq_of de_int) (by walk_at "rk")) (da_cons (de_op (dq_of (de_var rfl)) (dq_of de_int) (by walk_at "rk")) da_nil))) (Nat.le_of_ble_eq_true rfl)) rfl)

end
end DL
end

section
set_option Elab.async false
set_option linter.all false
set_option maxRecDepth 100000
set_option maxHeartbeats 4000000
namespace DL
open PySem PySem.Spec PyProof.Rows L2
open C8 (Cal pe_c Mak pe_mk)
local macro_rules | `(tactic| walk_at "si") => `(tactic| first
  | with_reducible assumption | omega | (simp only [rgI_len, List.length_map]; omega) | (simp only [decide_eq_true_eq, Bool.and_eq_true, Bool.not_eq_true', decide_eq_false_iff_not] at *; omega))
local macro_rules | `(tactic| walk_at "sz") => `(tactic| first
  | with_reducible assumption | omega | (simp only [rgI_len, List.length_map, List.length_append, List.length_cons, List.length_nil]; omega))
local macro_rules | `(tactic| walk_at "row") => `(tactic| first | with_reducible assumption | ((with_reducible refine Tbl.get (by with_reducible assumption) ?_); walk_at "wd") | exact row_mem (by with_reducible assumption) (by with_reducible assumption))
local macro_rules | `(tactic| walk_at "wd") => `(tactic| first | with_reducible assumption | omega | (constructor <;> omega) | ((with_reducible refine wd_get (by walk_at "row") ?_); walk_at "wd") | exact wd_mem (by with_reducible assumption) (by with_reducible assumption))
local macro_rules | `(tactic| walk_at "rk") => `(tactic| first
  | ((with_reducible apply ro_xL (by decide)); exact rfl) | ((with_reducible apply ro_xT (by decide)); exact rfl) | walk_at "ro")
local macro_rules | `(tactic| walk_at "ro") => `(tactic| first
  | with_reducible exact ro_b0 | with_reducible exact ro_l ro_eqI | with_reducible exact ro_l ro_neI | with_reducible exact ro_l ro_eqB | with_reducible exact ro_l ro_neB | with_reducible exact ro_l ro_eqS | with_reducible exact ro_l ro_neS
  | ((with_reducible refine ro_gLR (by with_reducible assumption) ?_); walk_at "wd") | ((with_reducible refine ro_gIR (by walk_at "row") ?_); walk_at "wd")
  | ((with_reducible refine ro_gI ?_ ?_) <;> walk_at "si") | ((with_reducible refine ro_gL ?_ ?_) <;> walk_at "si") | ((with_reducible refine ro_gIT ?_ ?_) <;> walk_at "si")
  | with_reducible exact ro_gG (by with_reducible assumption) | ((with_reducible refine ro_gT ?_ ?_) <;> walk_at "si")
  | ((with_reducible refine ro_gB ?_ ?_) <;> walk_at "si")
  | ((with_reducible refine ro_gS ?_ ?_) <;> walk_at "si") | ((with_reducible refine ro_gST ?_ ?_) <;> walk_at "si")
  | ((with_reducible refine ro_xM ?_ ?_) <;> walk_at "si") | ((with_reducible refine ro_xTM ?_ ?_) <;> walk_at "si")
  | ((with_reducible apply ro_xL (by decide)); exact rfl) | ((with_reducible apply ro_xT (by decide)); exact rfl)
  | with_reducible exact ro_eqIs | with_reducible exact ro_l ro_inL | with_reducible exact ro_l ro_niL | with_reducible exact ro_l ro_inT | with_reducible exact ro_l ro_inS | with_reducible exact ro_isNN | with_reducible exact ro_notNN | with_reducible exact ro_isNI | with_reducible exact ro_notNI)
local macro_rules | `(tactic| walk_at "rc") => `(tactic| with_reducible first
  | exact rc_lenM | exact rc_lenTM | exact rc_lenL' | exact rc_lenT' | exact rc_ii _ | exact rc_ib _ | exact rc_ss _ | exact rc_tt _ | exact rc_ltl _ | exact rc_ltt _ | exact rc_int | exact rc_abs | exact rc_max2 | exact rc_min2 | exact rc_all | exact rc_sum | exact rc_tupL' | exact rc_tupT' | exact rc_range1)
local macro_rules | `(tactic| walk_at "rcn") => `(tactic| with_reducible first
  | exact rcn_listL' | exact rcn_listT' | exact rcn_sortP)
local macro_rules | `(tactic| walk_at "pre") => `(tactic| first | with_reducible assumption | exact trivial | (refine And.intro ?_ ?_ <;> walk_at "pre") | walk_at "wd" | walk_at "si")
local macro_rules | `(tactic| walk_at "cmod") => `(tactic| (show (0 : Int) < _; first | decide | walk_at "si"))
local macro_rules | `(tactic| walk_at "cd") => `(tactic| (refine And.intro ?_ ?_ <;> walk_at "si"))
local macro_rules | `(tactic| walk_at "cp") => `(tactic| exact ⟨by decide, by decide, by decide⟩)
local macro_rules | `(tactic| walk_at "cm") => `(tactic| first | (refine Or.inl (And.intro ?_ ?_) <;> omega) | (refine Or.inr (And.intro ?_ ?_) <;> omega))
local macro_rules | `(tactic| walk_at "wk") => `(tactic| (repeat (first | exact Wk.nil | exact Wk.refl _ | refine Wk.same ?_ | refine Wk.frz ?_ | refine Wk.drop ?_)))
section
variable {P : PySem.Program} {w : World} {K : PySem.W.Frag} {mg : Str → Option Value} {base : Heap} {CL CB : Addr} (T : Txt K mg CL CB)
include T
abbrev eIt (l : List Int) : DV := .tup (l.map DV.int)
abbrev eTt (l : List (List Int)) : DV := .tup (l.map eIt)
omit T in
theorem ro_gLt {K : PySem.W.Frag} {k m n : Nat} {js : List (List Int)} {i : Int} (h : Tbl k m n js) (hi : wd k i) : RO (rIx K) (.tup (js.map eIt)) (.int i) (.tup ((gL js i).map DV.int)) := ro_xTM hi.1 (by rw [h.len]; have := hi.1; have := hi.2; omega)
omit T in
theorem ro_gIt {K : PySem.W.Frag} {m n : Nat} {l : List Int} {i : Int} (h : Row m n l) (hi : wd m i) : RO (rIx K) (.tup (l.map DV.int)) (.int i) (.int (gI l i)) := ro_xTM hi.1 (by rw [h.len]; have := hi.1; have := hi.2; omega)
local macro_rules | `(tactic| walk_at "ro") => `(tactic| first
  | ((with_reducible refine ro_gLt (by with_reducible assumption) ?_); walk_at "wd") | ((with_reducible refine ro_gIt (by walk_at "row") ?_); walk_at "wd"))
structure Mono (n : Nat) (js : List (List Int)) (r : List Int) : Prop where
  row : Row n n r
  zero : gI r 0 = 0
  rise : ∀ x y, wd n x → wd n y → gI (gL js x) y = y → gI (gL js (gI r x)) (gI r y) = gI r y
abbrev S_is_word_row : Stmt := top 55
abbrev N_is_word_row : List Str := ["thing", "many", "word"]
omit T in
theorem sc_is_word_row : FnScope N_is_word_row ["thing", "many"] (defScope S_is_word_row) := ⟨rfl, rfl, rfl, by decide +kernel, rfl, by decide +kernel, by decide +kernel⟩
def sp_is_word_row : Sp := spD (α := List Int × Nat) (fun ⟨l, n⟩ => [eIs l, .int (n : Int)]) (fun ⟨l, n⟩ => Row n n l ∧ n ≤ 20) (fun ⟨l, n⟩ => .bl true)
omit T in
theorem d_is_word_row {ρ : List Sl} {t : TA} {E : XK} {l : List Int} {n : Nat} (h : DA t ρ [eIs l, .int (n : Int)]) (hp : Row n n l ∧ n ≤ 20) : DE (tCall sp_is_word_row [] E t) ρ (.bl true) := de_call (α := List Int × Nat) (enc := fun ⟨l, n⟩ => [eIs l, .int (n : Int)]) (pre := fun ⟨l, n⟩ => Row n n l ∧ n ≤ 20) (val := fun ⟨l, n⟩ => .bl true) ⟨l, n⟩ h rfl hp
theorem c_is_word_row : Cal P w K mg base 2 "is_word_row" sp_is_word_row [] :=
  cal_def (α := List Int × Nat) (enc := fun ⟨l, n⟩ => [eIs l, .int (n : Int)]) (pre := fun ⟨l, n⟩ => Row n n l ∧ n ≤ 20) (val := fun ⟨l, n⟩ => .bl true) T.f_is_word_row sc_is_word_row (fun ⟨l, n⟩ => rfl) (fun _ _ _ _ _ _ us hl => match us, hl with | [_, _], _ => rfl) fun f cdv A outer s H E hr ⟨l, n⟩ hp => by
    (try dsimp only at hp)
    have nd := sc_is_word_row.nd
    refine ⟨_, (pss_one (ps_ret (pe_and (pe_callB (isitk K) rfl T.m_isinstance (by decide +kernel) (pa_cons (pv 0) (pa_cons (pe_tup (pa_cons (pe_bltn (v := .ty "list") rfl T.m_list (by decide +kernel) rfl) (pa_cons (pe_bltn (v := .ty "tuple") rfl T.m_tuple (by decide +kernel) rfl) pa_nil))) pa_nil))) (pe_and (pe_cmpR (eqk K hr) (pe_callB (lenk K) rfl T.m_len (by decide +kernel) (pa_cons (pv 0) pa_nil)) (pv 1) (nomark _)) (pe_one (pe_callB (allk K rfl) rfl T.m_all (by decide +kernel) (pa_cons (pe_lc (own := [("word", 2)]) rfl nd (pilk K (pv 0)) (blkOk_by (sc := defScope S_is_word_row) (N := N_is_word_row) (own := [("word", 2)]) (by decide +kernel)) (fun _ _ _ _ _ => (pg_name (i := 2) nd rfl (by first | exact .inl rfl | exact .inr rfl))) (fun _ _ _ _ _ => pts_nil) (fun _ _ _ _ _ => (pe_c (c_is_word T) hr (by decide) rfl (pa_cons (pv 2) (pa_cons (pv 1) pa_nil))))) pa_nil))))))), ?_⟩
    obtain ⟨h, hn⟩ := hp
    have hl := h.len
    show DS _ [.val (eIs l), .val (.int (n : Int)), .any] _
    refine ds_ret (de_andV (de_cb (db_cons (dq_of (de_var rfl)) (db_cons (dq_of (de_tup (da_cons de_ty (da_cons de_ty da_nil)) (Nat.le_of_ble_eq_true rfl))) db_nil)) (by walk_at "rc")) (fun _ => (de_andV (de_op (dq_of (de_cb (db_cons (dq_of (de_var rfl)) db_nil) (by walk_at "rc"))) (dq_of (de_var rfl)) (by walk_at "ro")) (fun _ => (de_cb (db_cons (dn_dq (dn_lc2 DV.bl (dw_list (de_var rfl)) (by walk_at "sz") (by decide) (fun x_word hx_x_word => by (try rw [mem_rgI] at hx_x_word); exact (d_is_word (da_cons (de_var rfl) (da_cons (de_var rfl) da_nil)) (by walk_at "pre"))))) db_nil) (by walk_at "rc")))))) ?_
    show DV.bl _ = DV.bl true
    rw [decide_eq_true (by omega)]
    have : (l.map fun x => decide (0 ≤ x) && decide (x < (n : Int))).all id = true := by
      rw [List.all_map, List.all_eq_true]
      intro x hx
      have := h.wds x hx
      show (decide (0 ≤ x) && decide (x < (n : Int))) = true
      rw [decide_eq_true this.1, decide_eq_true this.2]; rfl
    rw [this]; rfl
abbrev S_row_rises : Stmt := top 56
abbrev N_row_rises : List Str := ["joins", "row", "one", "other"]
omit T in
theorem sc_row_rises : FnScope N_row_rises ["joins", "row"] (defScope S_row_rises) := ⟨rfl, rfl, rfl, by decide +kernel, rfl, by decide +kernel, by decide +kernel⟩
def sp_row_rises : Sp := spD (α := List (List Int) × List Int) (fun ⟨js, row⟩ => [eTt js, eIs row]) (fun ⟨js, row⟩ => Tbl js.length js.length js.length js ∧ Mono js.length js row ∧ js.length ≤ 20) (fun ⟨js, row⟩ => .bl true)
omit T in
theorem d_row_rises {ρ : List Sl} {t : TA} {E : XK} {js : List (List Int)} {row : List Int} (h : DA t ρ [eTt js, eIs row]) (hp : Tbl js.length js.length js.length js ∧ Mono js.length js row ∧ js.length ≤ 20) : DE (tCall sp_row_rises [] E t) ρ (.bl true) := de_call (α := List (List Int) × List Int) (enc := fun ⟨js, row⟩ => [eTt js, eIs row]) (pre := fun ⟨js, row⟩ => Tbl js.length js.length js.length js ∧ Mono js.length js row ∧ js.length ≤ 20) (val := fun ⟨js, row⟩ => .bl true) ⟨js, row⟩ h rfl hp
theorem c_row_rises : Cal P w K mg base 1 "row_rises" sp_row_rises [] :=
  cal_def (α := List (List Int) × List Int) (enc := fun ⟨js, row⟩ => [eTt js, eIs row]) (pre := fun ⟨js, row⟩ => Tbl js.length js.length js.length js ∧ Mono js.length js row ∧ js.length ≤ 20) (val := fun ⟨js, row⟩ => .bl true) T.f_row_rises sc_row_rises (fun ⟨js, row⟩ => rfl) (fun _ _ _ _ _ _ us hl => match us, hl with | [_, _], _ => rfl) fun f cdv A outer s H E hr ⟨js, row⟩ hp => by
    (try dsimp only at hp)
    have nd := sc_row_rises.nd
    refine ⟨_, (pss_cons (ps_for PassesOwn.never rfl (pi_range1 rfl T.m_range (pa_cons (pe_callB (lenk K) rfl T.m_len (by decide +kernel) (pa_cons (pv 0) pa_nil)) pa_nil)) (pg_name (i := 2) nd rfl (.inl rfl))
    (pss_one (ps_for PassesOwn.never rfl (pi_range1 rfl T.m_range (pa_cons (pe_callB (lenk K) rfl T.m_len (by decide +kernel) (pa_cons (pv 0) pa_nil)) pa_nil)) (pg_name (i := 3) nd rfl (.inl rfl))
    (pss_one (ps_if (PW.pt (pw_and (pt_cmpR (eqk K hr) (pe_ix (ixk K) (pe_ix (ixk K) (pv 0) (pv 2) (fun _ _ => rfl)) (pv 3) (fun _ _ => rfl)) (pv 3) (nomark _)) (pw_and1 (pt_cmpR (nek K hr) (pe_ix (ixk K) (pe_ix (ixk K) (pv 0) (pe_ix (ixk K) (pv 1) (pv 2) (fun _ _ => rfl)) (fun _ _ => rfl)) (pe_ix (ixk K) (pv 1) (pv 3) (fun _ _ => rfl)) (fun _ _ => rfl)) (pe_ix (ixk K) (pv 1) (pv 3) (fun _ _ => rfl)) (nomark _))))) (pss_one (ps_ret pe_bl)) pss_nil)))))
    (pss_one (ps_ret pe_bl))), ?_⟩
    obtain ⟨hj, hm, hn⟩ := hp
    have hr := hm.row
    show DS _ [.val (eTt js), .val (eIs row), .any, .any] _
    refine ds_seq (ds_each [.val (eTt js), .val (eIs row), .any, .any] (dw_rangeN (da_cons (de_cb (db_cons (dq_of (de_var rfl)) db_nil) (by walk_at "rc")) da_nil) (by walk_at "si")) (by walk_at "wk") (fun x hx => ?_) ?_)
    · have hx : wd js.length x := wd_rg.mpr hx
      show DS _ [.val (eTt js), .val (eIs row), .val (.int x), .any] _
      refine ds_each [.val (eTt js), .val (eIs row), .val (.int x), .any] (dw_rangeN (da_cons (de_cb (db_cons (dq_of (de_var rfl)) db_nil) (by walk_at "rc")) da_nil) (by walk_at "si")) (by walk_at "wk") (fun y hy => ?_) (by walk_at "wk")
      have hy : wd js.length y := wd_rg.mpr hy
      show DS _ [.val (eTt js), .val (eIs row), .val (.int x), .val (.int y)] _
      refine ds_ifF' (dt_and (dt_test (de_op (dq_of (de_op (dq_of (de_op (dq_of (de_var rfl)) (dq_of (de_var rfl)) (by walk_at "ro"))) (dq_of (de_var rfl)) (by walk_at "ro"))) (dq_of (de_var rfl)) (by walk_at "ro"))) (fun _ => (dt_test (de_op (dq_of (de_op (dq_of (de_op (dq_of (de_var rfl)) (dq_of (de_op (dq_of (de_var rfl)) (dq_of (de_var rfl)) (by walk_at "ro"))) (by walk_at "ro"))) (dq_of (de_op (dq_of (de_var rfl)) (dq_of (de_var rfl)) (by walk_at "ro"))) (by walk_at "ro"))) (dq_of (de_op (dq_of (de_var rfl)) (dq_of (de_var rfl)) (by walk_at "ro"))) (by walk_at "ro"))))) ?_ (ds_next (by walk_at "wk"))
      by_cases h : gI (gL js x) y = y
      · rw [decide_eq_true h, decide_eq_true (hm.rise x y hx hy h)]; rfl
      · rw [decide_eq_false h]; rfl
    · exact ds_ret de_bl rfl
omit T in
theorem take_len {α : Type} (l : List α) (n : Nat) (h : n ≤ l.length) : (l.take n).length = n := by rw [List.length_take]; omega
omit T in
theorem gS_at {l : List Sy} {n : Nat} {s : Sy} (h : l[n]? = some s) : gS l (n : Int) = s := by
  unfold gS
  rw [Int.toNat_natCast, List.getD_eq_getElem?_getD, h]; rfl
omit T in
theorem nd_take {α : Type} {l : List α} (h : l.Nodup) {n : Nat} {x : α} (hx : l[n]? = some x) : x ∉ l.take n := fun hm => by
  obtain ⟨m, hm1, hm2⟩ := List.getElem_of_mem hm
  rw [List.length_take] at hm1
  have e1 : l[m]? = some x := by
    rw [List.getElem?_eq_getElem (by omega)]
    rw [List.getElem_take] at hm2
    rw [hm2]
  have := (List.getElem?_inj (by omega) h).mp (e1.trans hx.symm)
  omega
omit T in
theorem fold_take {ls : List Sy} : ∀ (n : Nat), n ≤ ls.length → (rgI 0 n).foldl (fun k x => k ++ [gS ls x]) [] = ls.take n := by
  intro n hn
  rw [foldl_app, List.nil_append]
  apply List.ext_getElem?
  intro i
  by_cases hi : i < n
  · have : (rgI 0 n)[i]? = some (i : Int) := by
      unfold rgI
      rw [List.getElem?_map, List.getElem?_range hi]
      simp
    rw [List.getElem?_map, this, List.getElem?_take, if_pos hi, List.getElem?_eq_getElem (by omega : i < ls.length)]
    show some (gS ls (i : Int)) = _
    rw [gS_at (List.getElem?_eq_getElem (by omega : i < ls.length))]
  · rw [List.getElem?_eq_none (by rw [List.length_map, rgI_len]; omega), List.getElem?_eq_none (by rw [List.length_take]; omega)]
abbrev S_checked_letters : Stmt := top 57
abbrev N_checked_letters : List Str := ["letters", "kept", "at", "letter"]
omit T in
theorem sc_checked_letters : FnScope N_checked_letters ["letters"] (defScope S_checked_letters) := ⟨rfl, rfl, rfl, by decide +kernel, rfl, by decide +kernel, by decide +kernel⟩
def sp_checked_letters : Sp := spD (α := List Sy) (fun ls => [eSys ls]) (fun ls => (∀ s ∈ ls, LetK 20 s) ∧ ls.Nodup ∧ (("set", [0]) : Sy) ∈ ls ∧ ls.length ≤ 10) (fun ls => .tup (ls.map eSy))
omit T in
theorem d_checked_letters {ρ : List Sl} {t : TA} {E : XK} {ls : List Sy} (h : DA t ρ [eSys ls]) (hp : (∀ s ∈ ls, LetK 20 s) ∧ ls.Nodup ∧ (("set", [0]) : Sy) ∈ ls ∧ ls.length ≤ 10) : DE (tCall sp_checked_letters [] E t) ρ (.tup (ls.map eSy)) := de_call (α := List Sy) (enc := fun ls => [eSys ls]) (pre := fun ls => (∀ s ∈ ls, LetK 20 s) ∧ ls.Nodup ∧ (("set", [0]) : Sy) ∈ ls ∧ ls.length ≤ 10) (val := fun ls => .tup (ls.map eSy)) ls h rfl hp
theorem c_checked_letters : Cal P w K mg base 3 "checked_letters" sp_checked_letters [] :=
  cal_def (α := List Sy) (enc := fun ls => [eSys ls]) (pre := fun ls => (∀ s ∈ ls, LetK 20 s) ∧ ls.Nodup ∧ (("set", [0]) : Sy) ∈ ls ∧ ls.length ≤ 10) (val := fun ls => .tup (ls.map eSy)) T.f_checked_letters sc_checked_letters (fun ls => rfl) (fun _ _ _ _ _ _ us hl => match us, hl with | [_], _ => rfl) fun f cdv A outer s H E hr ls hp => by
    (try dsimp only at hp)
    have nd := sc_checked_letters.nd
    refine ⟨_, (pss_cons (ps_if (PW.pt (pw_or (pt_not (pt_val (pe_callB (isitk K) rfl T.m_isinstance (by decide +kernel) (pa_cons (pv 0) (pa_cons (pe_tup (pa_cons (pe_bltn (v := .ty "list") rfl T.m_list (by decide +kernel) rfl) (pa_cons (pe_bltn (v := .ty "tuple") rfl T.m_tuple (by decide +kernel) rfl) pa_nil))) pa_nil))))) (pw_or1 (pt_not (pt_chain op_le op_le pe_int (pe_callB (lenk K) rfl T.m_len (by decide +kernel) (pa_cons (pv 0) pa_nil)) pe_int))))) (pss_one (ps_never)) pss_nil)
    (pss_cons (ps_set (i := 1) nd rfl (.inl rfl) (pe_lst pa_nil))
    (pss_cons (ps_for PassesOwn.never rfl (pi_range1 rfl T.m_range (pa_cons (pe_callB (lenk K) rfl T.m_len (by decide +kernel) (pa_cons (pv 0) pa_nil)) pa_nil)) (pg_name (i := 2) nd rfl (.inl rfl))
    (pss_cons (ps_try_thru0 (pss_one (ps_set (i := 3) nd rfl (.inl rfl) (pe_c (c_check_letter T) hr (by decide) rfl (pa_cons (pe_ix (ixk K) (pv 0) (pv 2) (fun _ _ => rfl)) pa_nil)))))
    (pss_cons (ps_if (pt_cmpR (ink K hr) (pv 3) (pv 1) (by rfl)) (pss_one (ps_never)) pss_nil)
    (pss_one (ps_expr (bmk K PySem.F.plainAttrs_list PySem.F.slot_list_append PySem.F.type_list_append mt_append (pv 1) (pa_cons (pv 3) pa_nil)))))))
    (pss_cons (ps_if (pt_cmpR (nik K hr) (pe_tup (pa_cons pe_str (pa_cons pe_int pa_nil))) (pv 1) (by rfl)) (pss_one (ps_never)) pss_nil)
    (pss_one (ps_ret (pe_callTy (tupk K) rfl T.m_tuple (by decide +kernel) (pa_cons (pv 1) pa_nil)))))))), ?_⟩
    obtain ⟨hk, hnd, h0, h10⟩ := hp
    have hpos := List.length_pos_of_mem h0
    have hok : ∀ s ∈ ls, okS s := fun s hs => (hk s hs).ok
    show DS _ [.val (eSys ls), .any, .any, .any] _
    refine ds_ifFS (dt_or (dt_not (dt_B (de_cb (db_cons (dq_of (de_var rfl)) (db_cons (dq_of (de_tup (da_cons de_ty (da_cons de_ty da_nil)) (Nat.le_of_ble_eq_true rfl))) db_nil)) (by walk_at "rc")))) (fun _ => (dt_not (dt_test (de_chain (dq_of de_int) (dq_of (de_cb (db_cons (dq_of (de_var rfl)) db_nil) (by walk_at "rc"))) ro_b0 (fun _ => (dq_of de_int)) (fun _ => ro_b0)))))) (by rw [decide_eq_true (by omega), decide_eq_true (by omega)]; rfl) ?_
    refine ds_setNS (ds := List.map eSy []) (dn_lst da_nil (Nat.le_of_ble_eq_true rfl)) ?_
    refine ds_seq (ds_fold (fun k => [.val (eSys ls), .mu none (.lst (k.map eSy)), .any, .any]) (fun k x => k ++ [gS ls x]) [] (fun n k => k = ls.take n) (dw_rangeN (da_cons (de_cb (db_cons (dq_of (de_var rfl)) db_nil) (by walk_at "rc")) da_nil) (by walk_at "si")) (by walk_at "wk") rfl (fun n k x hx hI => ?_) fun hI => ?_)
    · obtain ⟨rfl, hn⟩ := rgI_get hx
      have hg : ls[n]? = some ls[n] := List.getElem?_eq_getElem hn
      have hgs : gS ls (0 + (n : Int)) = ls[n] := by rw [Int.zero_add]; exact gS_at hg
      have hmem : gS ls (0 + (n : Int)) ∈ ls := by rw [hgs]; exact List.getElem_mem hn
      have hkl : k.length = n := by rw [hI, take_len _ _ (by omega)]
      have hkok : ∀ s ∈ k, okS s := fun s hs => hok s (by rw [hI] at hs; exact List.mem_of_mem_take hs)
      show DS _ [.val (eSys ls), .mu none (.lst (k.map eSy)), .val (.int (0 + (n : Int))), .any] _
      refine ds_setS (d := eSy (gS ls (0 + (n : Int)))) (d_check_letter (da_cons (de_op (dq_of (de_var rfl)) (dq_of (de_var rfl)) (ro_gS (by omega) (by omega))) da_nil) (hk _ hmem)       ) ?_
      refine ds_ifFS (dt_test (de_op (dq_of (de_var rfl)) (by first | exact dq_of (de_var rfl) | exact dq_own rfl) (ro_inSy (hok _ hmem) hkok))) (decide_eq_false (by rw [hgs, hI]; exact nd_take hnd hg)) ?_
      refine ds_appM (enc := eSy) (x := gS ls (0 + (n : Int))) rfl (de_var rfl) (by omega) ⟨by walk_at "wk", ?_⟩
      rw [hI, hgs, List.take_add_one, hg]; rfl
    · rw [fold_take _ (Nat.le_refl _), List.take_length]
      refine ds_ifFS (dt_test (de_op (dq_of (de_tup (da_cons de_str (da_cons de_int da_nil)) (Nat.le_of_ble_eq_true rfl))) (by first | exact dq_of (de_var rfl) | exact dq_own rfl) (ro_niSy (a := ("set", [0])) (hok _ h0) hok))) (by rw [decide_eq_true h0]; rfl) ?_
      refine ds_wk (ρ' := [.any, .val (eSys ls), .any, .any]) (by walk_at "wk") ?_
      exact ds_ret (de_cb (db_cons (by first | exact dq_of (de_var rfl) | exact dq_own rfl) db_nil) (by walk_at "rc")) rfl
abbrev S_checked_tests : Stmt := top 58
abbrev N_checked_tests : List Str := ["tests", "kept", "at", "test"]
omit T in
theorem sc_checked_tests : FnScope N_checked_tests ["tests"] (defScope S_checked_tests) := ⟨rfl, rfl, rfl, by decide +kernel, rfl, by decide +kernel, by decide +kernel⟩
def sp_checked_tests : Sp := spD (α := List Sy) (fun ls => [eSys ls]) (fun ls => (∀ s ∈ ls, TstK 20 s) ∧ ls.Nodup ∧ ls.length ≤ 6) (fun ls => .tup (ls.map eSy))
omit T in
theorem d_checked_tests {ρ : List Sl} {t : TA} {E : XK} {ls : List Sy} (h : DA t ρ [eSys ls]) (hp : (∀ s ∈ ls, TstK 20 s) ∧ ls.Nodup ∧ ls.length ≤ 6) : DE (tCall sp_checked_tests [] E t) ρ (.tup (ls.map eSy)) := de_call (α := List Sy) (enc := fun ls => [eSys ls]) (pre := fun ls => (∀ s ∈ ls, TstK 20 s) ∧ ls.Nodup ∧ ls.length ≤ 6) (val := fun ls => .tup (ls.map eSy)) ls h rfl hp
theorem c_checked_tests : Cal P w K mg base 3 "checked_tests" sp_checked_tests [] :=
  cal_def (α := List Sy) (enc := fun ls => [eSys ls]) (pre := fun ls => (∀ s ∈ ls, TstK 20 s) ∧ ls.Nodup ∧ ls.length ≤ 6) (val := fun ls => .tup (ls.map eSy)) T.f_checked_tests sc_checked_tests (fun ls => rfl) (fun _ _ _ _ _ _ us hl => match us, hl with | [_], _ => rfl) fun f cdv A outer s H E hr ls hp => by
    (try dsimp only at hp)
    have nd := sc_checked_tests.nd
    refine ⟨_, (pss_cons (ps_if (PW.pt (pw_or (pt_not (pt_val (pe_callB (isitk K) rfl T.m_isinstance (by decide +kernel) (pa_cons (pv 0) (pa_cons (pe_tup (pa_cons (pe_bltn (v := .ty "list") rfl T.m_list (by decide +kernel) rfl) (pa_cons (pe_bltn (v := .ty "tuple") rfl T.m_tuple (by decide +kernel) rfl) pa_nil))) pa_nil))))) (pw_or1 (pt_cmpR op_gt (pe_callB (lenk K) rfl T.m_len (by decide +kernel) (pa_cons (pv 0) pa_nil)) pe_int (nomark _))))) (pss_one (ps_never)) pss_nil)
    (pss_cons (ps_set (i := 1) nd rfl (.inl rfl) (pe_lst pa_nil))
    (pss_cons (ps_for PassesOwn.never rfl (pi_range1 rfl T.m_range (pa_cons (pe_callB (lenk K) rfl T.m_len (by decide +kernel) (pa_cons (pv 0) pa_nil)) pa_nil)) (pg_name (i := 2) nd rfl (.inl rfl))
    (pss_cons (ps_try_thru0 (pss_one (ps_set (i := 3) nd rfl (.inl rfl) (pe_c (c_check_test T) hr (by decide) rfl (pa_cons (pe_ix (ixk K) (pv 0) (pv 2) (fun _ _ => rfl)) pa_nil)))))
    (pss_cons (ps_if (pt_cmpR (ink K hr) (pv 3) (pv 1) (by rfl)) (pss_one (ps_never)) pss_nil)
    (pss_one (ps_expr (bmk K PySem.F.plainAttrs_list PySem.F.slot_list_append PySem.F.type_list_append mt_append (pv 1) (pa_cons (pv 3) pa_nil)))))))
    (pss_one (ps_ret (pe_callTy (tupk K) rfl T.m_tuple (by decide +kernel) (pa_cons (pv 1) pa_nil))))))), ?_⟩
    obtain ⟨hk, hnd, h10⟩ := hp
    have hok : ∀ s ∈ ls, okS s := fun s hs => (hk s hs).ok
    show DS _ [.val (eSys ls), .any, .any, .any] _
    refine ds_ifFS (dt_or (dt_not (dt_B (de_cb (db_cons (dq_of (de_var rfl)) (db_cons (dq_of (de_tup (da_cons de_ty (da_cons de_ty da_nil)) (Nat.le_of_ble_eq_true rfl))) db_nil)) (by walk_at "rc")))) (fun _ => (dt_test (de_op (dq_of (de_cb (db_cons (dq_of (de_var rfl)) db_nil) (by walk_at "rc"))) (dq_of de_int) ro_b0)))) (by rw [decide_eq_false (by omega)]; rfl) ?_
    refine ds_setNS (ds := List.map eSy []) (dn_lst da_nil (Nat.le_of_ble_eq_true rfl)) ?_
    refine ds_seq (ds_fold (fun k => [.val (eSys ls), .mu none (.lst (k.map eSy)), .any, .any]) (fun k x => k ++ [gS ls x]) [] (fun n k => k = ls.take n) (dw_rangeN (da_cons (de_cb (db_cons (dq_of (de_var rfl)) db_nil) (by walk_at "rc")) da_nil) (by walk_at "si")) (by walk_at "wk") rfl (fun n k x hx hI => ?_) fun hI => ?_)
    · obtain ⟨rfl, hn⟩ := rgI_get hx
      have hg : ls[n]? = some ls[n] := List.getElem?_eq_getElem hn
      have hgs : gS ls (0 + (n : Int)) = ls[n] := by rw [Int.zero_add]; exact gS_at hg
      have hmem : gS ls (0 + (n : Int)) ∈ ls := by rw [hgs]; exact List.getElem_mem hn
      have hkl : k.length = n := by rw [hI, take_len _ _ (by omega)]
      have hkok : ∀ s ∈ k, okS s := fun s hs => hok s (by rw [hI] at hs; exact List.mem_of_mem_take hs)
      show DS _ [.val (eSys ls), .mu none (.lst (k.map eSy)), .val (.int (0 + (n : Int))), .any] _
      refine ds_setS (d := eSy (gS ls (0 + (n : Int)))) (d_check_test (da_cons (de_op (dq_of (de_var rfl)) (dq_of (de_var rfl)) (ro_gS (by omega) (by omega))) da_nil) (hk _ hmem)       ) ?_
      refine ds_ifFS (dt_test (de_op (dq_of (de_var rfl)) (by first | exact dq_of (de_var rfl) | exact dq_own rfl) (ro_inSy (hok _ hmem) hkok))) (decide_eq_false (by rw [hgs, hI]; exact nd_take hnd hg)) ?_
      refine ds_appM (enc := eSy) (x := gS ls (0 + (n : Int))) rfl (de_var rfl) (by omega) ⟨by walk_at "wk", ?_⟩
      rw [hI, hgs, List.take_add_one, hg]; rfl
    · rw [fold_take _ (Nat.le_refl _), List.take_length]
      refine ds_wk (ρ' := [.any, .val (eSys ls), .any, .any]) (by walk_at "wk") ?_
      exact ds_ret (de_cb (db_cons (by first | exact dq_of (de_var rfl) | exact dq_own rfl) db_nil) (by walk_at "rc")) rfl
abbrev S_checked_joins : Stmt := top 59
abbrev N_checked_joins : List Str := ["joins", "many", "at", "words", "one", "other", "third", "row"]
omit T in
theorem sc_checked_joins : FnScope N_checked_joins ["joins"] (defScope S_checked_joins) := ⟨rfl, rfl, rfl, by decide +kernel, rfl, by decide +kernel, by decide +kernel⟩
def sp_checked_joins : Sp := spD (α := List (List Int)) (fun js => [eTb js]) (fun js => Lat js.length js ∧ 2 ≤ js.length ∧ js.length ≤ 12) (fun js => eTt js)
omit T in
theorem d_checked_joins {ρ : List Sl} {t : TA} {E : XK} {js : List (List Int)} (h : DA t ρ [eTb js]) (hp : Lat js.length js ∧ 2 ≤ js.length ∧ js.length ≤ 12) : DE (tCall sp_checked_joins [] E t) ρ (eTt js) := de_call (α := List (List Int)) (enc := fun js => [eTb js]) (pre := fun js => Lat js.length js ∧ 2 ≤ js.length ∧ js.length ≤ 12) (val := fun js => eTt js) js h rfl hp
theorem c_checked_joins : Cal P w K mg base 3 "checked_joins" sp_checked_joins [] :=
  cal_def (α := List (List Int)) (enc := fun js => [eTb js]) (pre := fun js => Lat js.length js ∧ 2 ≤ js.length ∧ js.length ≤ 12) (val := fun js => eTt js) T.f_checked_joins sc_checked_joins (fun js => rfl) (fun _ _ _ _ _ _ us hl => match us, hl with | [_], _ => rfl) fun f cdv A outer s H E hr js hp => by
    (try dsimp only at hp)
    have nd := sc_checked_joins.nd
    refine ⟨_, (pss_cons (ps_if (PW.pt (pw_or (pt_not (pt_val (pe_callB (isitk K) rfl T.m_isinstance (by decide +kernel) (pa_cons (pv 0) (pa_cons (pe_tup (pa_cons (pe_bltn (v := .ty "list") rfl T.m_list (by decide +kernel) rfl) (pa_cons (pe_bltn (v := .ty "tuple") rfl T.m_tuple (by decide +kernel) rfl) pa_nil))) pa_nil))))) (pw_or1 (pt_not (pt_chain op_le op_le pe_int (pe_callB (lenk K) rfl T.m_len (by decide +kernel) (pa_cons (pv 0) pa_nil)) pe_int))))) (pss_one (ps_never)) pss_nil)
    (pss_cons (ps_set (i := 1) nd rfl (.inl rfl) (pe_callB (lenk K) rfl T.m_len (by decide +kernel) (pa_cons (pv 0) pa_nil)))
    (pss_cons (ps_for PassesOwn.never rfl (pi_range1 rfl T.m_range (pa_cons (pv 1) pa_nil)) (pg_name (i := 2) nd rfl (.inl rfl))
    (pss_one (ps_if (pt_not (pt_val (pe_c (c_is_word_row T) hr (by decide) rfl (pa_cons (pe_ix (ixk K) (pv 0) (pv 2) (fun _ _ => rfl)) (pa_cons (pv 1) pa_nil))))) (pss_one (ps_never)) pss_nil)))
    (pss_cons (ps_set (i := 3) nd rfl (.inl rfl) (pe_callTy cr_range1 rfl T.m_range (by decide +kernel) (pa_cons (pv 1) pa_nil)))
    (pss_cons (ps_for PassesOwn.never rfl (pi_rng (pv 3)) (pg_name (i := 4) nd rfl (.inl rfl))
    (pss_one (ps_if (pt_cmpR (nek K hr) (pe_ix (ixk K) (pe_ix (ixk K) (pv 0) (pv 4) (fun _ _ => rfl)) (pv 4) (fun _ _ => rfl)) (pv 4) (nomark _)) (pss_one (ps_never)) pss_nil)))
    (pss_cons (ps_for PassesOwn.never rfl (pi_rng (pv 3)) (pg_name (i := 4) nd rfl (.inl rfl))
    (pss_one (ps_for PassesOwn.never rfl (pi_rng (pv 3)) (pg_name (i := 5) nd rfl (.inl rfl))
    (pss_one (ps_if (pt_cmpR (nek K hr) (pe_ix (ixk K) (pe_ix (ixk K) (pv 0) (pv 4) (fun _ _ => rfl)) (pv 5) (fun _ _ => rfl)) (pe_ix (ixk K) (pe_ix (ixk K) (pv 0) (pv 5) (fun _ _ => rfl)) (pv 4) (fun _ _ => rfl)) (nomark _)) (pss_one (ps_never)) pss_nil)))))
    (pss_cons (ps_for PassesOwn.never rfl (pi_rng (pv 3)) (pg_name (i := 4) nd rfl (.inl rfl))
    (pss_one (ps_if (pt_cmpR (nek K hr) (pe_ix (ixk K) (pe_ix (ixk K) (pv 0) pe_int (fun _ _ => rfl)) (pv 4) (fun _ _ => rfl)) (pv 4) (nomark _)) (pss_one (ps_never)) pss_nil)))
    (pss_cons (ps_for PassesOwn.never rfl (pi_rng (pv 3)) (pg_name (i := 4) nd rfl (.inl rfl))
    (pss_one (ps_for PassesOwn.never rfl (pi_rng (pv 3)) (pg_name (i := 5) nd rfl (.inl rfl))
    (pss_one (ps_for PassesOwn.never rfl (pi_rng (pv 3)) (pg_name (i := 6) nd rfl (.inl rfl))
    (pss_one (ps_if (pt_cmpR (nek K hr) (pe_ix (ixk K) (pe_ix (ixk K) (pv 0) (pe_ix (ixk K) (pe_ix (ixk K) (pv 0) (pv 4) (fun _ _ => rfl)) (pv 5) (fun _ _ => rfl)) (fun _ _ => rfl)) (pv 6) (fun _ _ => rfl)) (pe_ix (ixk K) (pe_ix (ixk K) (pv 0) (pv 4) (fun _ _ => rfl)) (pe_ix (ixk K) (pe_ix (ixk K) (pv 0) (pv 5) (fun _ _ => rfl)) (pv 6) (fun _ _ => rfl)) (fun _ _ => rfl)) (nomark _)) (pss_one (ps_never)) pss_nil)))))))
    (pss_one (ps_ret (pe_callTy (tupk K) rfl T.m_tuple (by decide +kernel) (pa_cons (pe_lc (own := [("row", 7)]) rfl nd (pilk K (pv 0)) (blkOk_by (sc := defScope S_checked_joins) (N := N_checked_joins) (own := [("row", 7)]) (by decide +kernel)) (fun _ _ _ _ _ => (pg_name (i := 7) nd rfl (by first | exact .inl rfl | exact .inr rfl))) (fun _ _ _ _ _ => pts_nil) (fun _ _ _ _ _ => (pe_callTy (tupk K) rfl T.m_tuple (by decide +kernel) (pa_cons (pv 7) pa_nil)))) pa_nil)))))))))))), ?_⟩
    obtain ⟨hL, n2, n12⟩ := hp
    have hj := hL.tbl
    show DS _ [.val (eTb js), .any, .any, .any, .any, .any, .any, .any] _
    refine ds_ifFS (dt_or (dt_not (dt_B (de_cb (db_cons (dq_of (de_var rfl)) (db_cons (dq_of (de_tup (da_cons de_ty (da_cons de_ty da_nil)) (Nat.le_of_ble_eq_true rfl))) db_nil)) (by walk_at "rc")))) (fun _ => (dt_not (dt_test (de_chain (dq_of de_int) (dq_of (de_cb (db_cons (dq_of (de_var rfl)) db_nil) (by walk_at "rc"))) ro_b0 (fun _ => (dq_of de_int)) (fun _ => ro_b0)))))) (by rw [decide_eq_true (by omega), decide_eq_true (by omega)]; rfl) ?_
    refine ds_setS (de_cb (db_cons (dq_of (de_var rfl)) db_nil) (by walk_at "rc")) ?_
    refine ds_seq (ds_each [.val (eTb js), .val (.int (js.length : Int)), .any, .any, .any, .any, .any, .any] (dw_rangeN (da_cons (de_var rfl) da_nil) (by walk_at "si")) (by walk_at "wk") (fun x hx => ?_) ?_)
    · have hx : wd js.length x := wd_rg.mpr hx
      show DS _ [.val (eTb js), .val (.int (js.length : Int)), .val (.int x), .any, .any, .any, .any, .any] _
      exact ds_ifF' (dt_not (dt_B (d_is_word_row (da_cons (de_op (dq_of (de_var rfl)) (dq_of (de_var rfl)) (by walk_at "ro")) (da_cons (de_var rfl) da_nil)) (⟨hj.get hx, by omega⟩)))) rfl (ds_next (by walk_at "wk"))
    refine ds_setS (de_cb (db_cons (dq_of (de_var rfl)) db_nil) (by walk_at "rc")) ?_
    show DS _ [.val (eTb js), .val (.int (js.length : Int)), .any, .val (.rng 0 (js.length : Int)), .any, .any, .any, .any] _
    have hW : ∀ x, x ∈ rgI 0 ((js.length : Int) - 0).toNat → wd js.length x := fun x hx => wd_rg.mpr (by rwa [Int.sub_zero, Int.toNat_natCast] at hx)
    refine ds_seq (ds_each [.val (eTb js), .val (.int (js.length : Int)), .any, .val (.rng 0 (js.length : Int)), .any, .any, .any, .any] (dw_rangeV (de_var rfl) (by walk_at "si")) (by walk_at "wk") (fun x hx => ?_) ?_)
    · have hx := hW x hx
      show DS _ [.val (eTb js), .val (.int (js.length : Int)), .any, .val (.rng 0 (js.length : Int)), .val (.int x), .any, .any, .any] _
      exact ds_ifF' (dt_test (de_op (dq_of (de_op (dq_of (de_op (dq_of (de_var rfl)) (dq_of (de_var rfl)) (by walk_at "ro"))) (dq_of (de_var rfl)) (by walk_at "ro"))) (dq_of (de_var rfl)) (by walk_at "ro"))) (by rw [decide_eq_true (hL.idem x hx)]; rfl) (ds_next (by walk_at "wk"))
    show DS _ [.val (eTb js), .val (.int (js.length : Int)), .any, .val (.rng 0 (js.length : Int)), .any, .any, .any, .any] _
    refine ds_seq (ds_each [.val (eTb js), .val (.int (js.length : Int)), .any, .val (.rng 0 (js.length : Int)), .any, .any, .any, .any] (dw_rangeV (de_var rfl) (by walk_at "si")) (by walk_at "wk") (fun x hx => ?_) ?_)
    · have hx := hW x hx
      show DS _ [.val (eTb js), .val (.int (js.length : Int)), .any, .val (.rng 0 (js.length : Int)), .val (.int x), .any, .any, .any] _
      refine ds_each [.val (eTb js), .val (.int (js.length : Int)), .any, .val (.rng 0 (js.length : Int)), .val (.int x), .any, .any, .any] (dw_rangeV (de_var rfl) (by walk_at "si")) (by walk_at "wk") (fun y hy => ?_) (by walk_at "wk")
      have hy := hW y hy
      show DS _ [.val (eTb js), .val (.int (js.length : Int)), .any, .val (.rng 0 (js.length : Int)), .val (.int x), .val (.int y), .any, .any] _
      exact ds_ifF' (dt_test (de_op (dq_of (de_op (dq_of (de_op (dq_of (de_var rfl)) (dq_of (de_var rfl)) (by walk_at "ro"))) (dq_of (de_var rfl)) (by walk_at "ro"))) (dq_of (de_op (dq_of (de_op (dq_of (de_var rfl)) (dq_of (de_var rfl)) (by walk_at "ro"))) (dq_of (de_var rfl)) (by walk_at "ro"))) (by walk_at "ro"))) (by rw [decide_eq_true (hL.comm x y hx hy)]; rfl) (ds_next (by walk_at "wk"))
    show DS _ [.val (eTb js), .val (.int (js.length : Int)), .any, .val (.rng 0 (js.length : Int)), .any, .any, .any, .any] _
    refine ds_seq (ds_each [.val (eTb js), .val (.int (js.length : Int)), .any, .val (.rng 0 (js.length : Int)), .any, .any, .any, .any] (dw_rangeV (de_var rfl) (by walk_at "si")) (by walk_at "wk") (fun x hx => ?_) ?_)
    · have hx := hW x hx
      show DS _ [.val (eTb js), .val (.int (js.length : Int)), .any, .val (.rng 0 (js.length : Int)), .val (.int x), .any, .any, .any] _
      exact ds_ifF' (dt_test (de_op (dq_of (de_op (dq_of (de_op (dq_of (de_var rfl)) (dq_of de_int) (ro_gLR hj (by omega)))) (dq_of (de_var rfl)) (by walk_at "ro"))) (dq_of (de_var rfl)) (by walk_at "ro"))) (by rw [decide_eq_true (hL.zero x hx)]; rfl) (ds_next (by walk_at "wk"))
    show DS _ [.val (eTb js), .val (.int (js.length : Int)), .any, .val (.rng 0 (js.length : Int)), .any, .any, .any, .any] _
    refine ds_seq (ds_each [.val (eTb js), .val (.int (js.length : Int)), .any, .val (.rng 0 (js.length : Int)), .any, .any, .any, .any] (dw_rangeV (de_var rfl) (by walk_at "si")) (by walk_at "wk") (fun x hx => ?_) ?_)
    · have hx := hW x hx
      show DS _ [.val (eTb js), .val (.int (js.length : Int)), .any, .val (.rng 0 (js.length : Int)), .val (.int x), .any, .any, .any] _
      refine ds_each [.val (eTb js), .val (.int (js.length : Int)), .any, .val (.rng 0 (js.length : Int)), .val (.int x), .any, .any, .any] (dw_rangeV (de_var rfl) (by walk_at "si")) (by walk_at "wk") (fun y hy => ?_) (by walk_at "wk")
      have hy := hW y hy
      show DS _ [.val (eTb js), .val (.int (js.length : Int)), .any, .val (.rng 0 (js.length : Int)), .val (.int x), .val (.int y), .any, .any] _
      refine ds_each [.val (eTb js), .val (.int (js.length : Int)), .any, .val (.rng 0 (js.length : Int)), .val (.int x), .val (.int y), .any, .any] (dw_rangeV (de_var rfl) (by walk_at "si")) (by walk_at "wk") (fun z hz => ?_) (by walk_at "wk")
      have hz := hW z hz
      show DS _ [.val (eTb js), .val (.int (js.length : Int)), .any, .val (.rng 0 (js.length : Int)), .val (.int x), .val (.int y), .val (.int z), .any] _
      exact ds_ifF' (dt_test (de_op (dq_of (de_op (dq_of (de_op (dq_of (de_var rfl)) (dq_of (de_op (dq_of (de_op (dq_of (de_var rfl)) (dq_of (de_var rfl)) (by walk_at "ro"))) (dq_of (de_var rfl)) (by walk_at "ro"))) (by walk_at "ro"))) (dq_of (de_var rfl)) (by walk_at "ro"))) (dq_of (de_op (dq_of (de_op (dq_of (de_var rfl)) (dq_of (de_var rfl)) (by walk_at "ro"))) (dq_of (de_op (dq_of (de_op (dq_of (de_var rfl)) (dq_of (de_var rfl)) (by walk_at "ro"))) (dq_of (de_var rfl)) (by walk_at "ro"))) (by walk_at "ro"))) (by walk_at "ro"))) (by rw [decide_eq_true (hL.assoc x y z hx hy hz)]; rfl) (ds_next (by walk_at "wk"))
    exact ds_ret (de_cb (db_cons (dn_dq (dn_lc2 eIt (dw_list (de_var rfl)) (by walk_at "sz") (by decide) (fun x_row hx_x_row => by (try rw [mem_rgI] at hx_x_row); exact (de_cb (db_cons (dq_of (de_var rfl)) db_nil) (by walk_at "rc"))))) db_nil) (by walk_at "rc")) (by rw [List.map_id'])
abbrev S_checked_rows : Stmt := top 61
abbrev N_checked_rows : List Str := ["joins", "rows", "many", "what", "one_what", "at", "row"]
omit T in
theorem sc_checked_rows : FnScope N_checked_rows ["joins", "rows", "many", "what", "one_what"] (defScope S_checked_rows) := ⟨rfl, rfl, rfl, by decide +kernel, rfl, by decide +kernel, by decide +kernel⟩
def sp_checked_rows : Sp := spD (α := List (List Int) × List (List Int) × Str × Str) (fun ⟨js, rows, w1, w2⟩ => [eTt js, eTb rows, .int (rows.length : Int), .str w1, .str w2]) (fun ⟨js, rows, w1, w2⟩ => Tbl js.length js.length js.length js ∧ js.length ≤ 20 ∧ 0 < js.length ∧ rows.length ≤ 20 ∧ ∀ r ∈ rows, Mono js.length js r) (fun ⟨js, rows, w1, w2⟩ => eTt rows)
omit T in
theorem d_checked_rows {ρ : List Sl} {t : TA} {E : XK} {js rows : List (List Int)} {w1 w2 : Str} (h : DA t ρ [eTt js, eTb rows, .int (rows.length : Int), .str w1, .str w2]) (hp : Tbl js.length js.length js.length js ∧ js.length ≤ 20 ∧ 0 < js.length ∧ rows.length ≤ 20 ∧ ∀ r ∈ rows, Mono js.length js r) : DE (tCall sp_checked_rows [] E t) ρ (eTt rows) := de_call (α := List (List Int) × List (List Int) × Str × Str) (enc := fun ⟨js, rows, w1, w2⟩ => [eTt js, eTb rows, .int (rows.length : Int), .str w1, .str w2]) (pre := fun ⟨js, rows, w1, w2⟩ => Tbl js.length js.length js.length js ∧ js.length ≤ 20 ∧ 0 < js.length ∧ rows.length ≤ 20 ∧ ∀ r ∈ rows, Mono js.length js r) (val := fun ⟨js, rows, w1, w2⟩ => eTt rows) ⟨js, rows, w1, w2⟩ h rfl hp
theorem c_checked_rows : Cal P w K mg base 3 "checked_rows" sp_checked_rows [] :=
  cal_def (α := List (List Int) × List (List Int) × Str × Str) (enc := fun ⟨js, rows, w1, w2⟩ => [eTt js, eTb rows, .int (rows.length : Int), .str w1, .str w2]) (pre := fun ⟨js, rows, w1, w2⟩ => Tbl js.length js.length js.length js ∧ js.length ≤ 20 ∧ 0 < js.length ∧ rows.length ≤ 20 ∧ ∀ r ∈ rows, Mono js.length js r) (val := fun ⟨js, rows, w1, w2⟩ => eTt rows) T.f_checked_rows sc_checked_rows (fun ⟨js, rows, w1, w2⟩ => rfl) (fun _ _ _ _ _ _ us hl => match us, hl with | [_, _, _, _, _], _ => rfl) fun f cdv A outer s H E hr ⟨js, rows, w1, w2⟩ hp => by
    (try dsimp only at hp)
    have nd := sc_checked_rows.nd
    refine ⟨_, (pss_cons (ps_if (PW.pt (pw_or (pt_not (pt_val (pe_callB (isitk K) rfl T.m_isinstance (by decide +kernel) (pa_cons (pv 1) (pa_cons (pe_tup (pa_cons (pe_bltn (v := .ty "list") rfl T.m_list (by decide +kernel) rfl) (pa_cons (pe_bltn (v := .ty "tuple") rfl T.m_tuple (by decide +kernel) rfl) pa_nil))) pa_nil))))) (pw_or1 (pt_cmpR (nek K hr) (pe_callB (lenk K) rfl T.m_len (by decide +kernel) (pa_cons (pv 1) pa_nil)) (pv 2) (nomark _))))) (pss_one (ps_never)) pss_nil)
    (pss_cons (ps_for PassesOwn.never rfl (pi_range1 rfl T.m_range (pa_cons (pv 2) pa_nil)) (pg_name (i := 5) nd rfl (.inl rfl))
    (pss_one (ps_if (pt_not (pt_val (pe_c (c_is_word_row T) hr (by decide) rfl (pa_cons (pe_ix (ixk K) (pv 1) (pv 5) (fun _ _ => rfl)) (pa_cons (pe_callB (lenk K) rfl T.m_len (by decide +kernel) (pa_cons (pv 0) pa_nil)) pa_nil))))) (pss_one (ps_never)) pss_nil)))
    (pss_cons (ps_for PassesOwn.never rfl (pi_range1 rfl T.m_range (pa_cons (pv 2) pa_nil)) (pg_name (i := 5) nd rfl (.inl rfl))
    (pss_one (ps_if (PW.pt (pw_or (pt_cmpR (nek K hr) (pe_ix (ixk K) (pe_ix (ixk K) (pv 1) (pv 5) (fun _ _ => rfl)) pe_int (fun _ _ => rfl)) pe_int (nomark _)) (pw_or1 (pt_not (pt_val (pe_c (c_row_rises T) hr (by decide) rfl (pa_cons (pv 0) (pa_cons (pe_ix (ixk K) (pv 1) (pv 5) (fun _ _ => rfl)) pa_nil)))))))) (pss_one (ps_never)) pss_nil)))
    (pss_one (ps_ret (pe_callTy (tupk K) rfl T.m_tuple (by decide +kernel) (pa_cons (pe_lc (own := [("row", 6)]) rfl nd (pilk K (pv 1)) (blkOk_by (sc := defScope S_checked_rows) (N := N_checked_rows) (own := [("row", 6)]) (by decide +kernel)) (fun _ _ _ _ _ => (pg_name (i := 6) nd rfl (by first | exact .inl rfl | exact .inr rfl))) (fun _ _ _ _ _ => pts_nil) (fun _ _ _ _ _ => (pe_callTy (tupk K) rfl T.m_tuple (by decide +kernel) (pa_cons (pv 6) pa_nil)))) pa_nil))))))), ?_⟩
    obtain ⟨hj, hn, hn0, hr, hM⟩ := hp
    have hR : Tbl rows.length js.length js.length rows := ⟨rfl, fun r hr => (hM r hr).row⟩
    show DS _ [.val (eTt js), .val (eTb rows), .val (.int (rows.length : Int)), .val (.str w1), .val (.str w2), .any, .any] _
    refine ds_ifFS (dt_or (dt_not (dt_B (de_cb (db_cons (dq_of (de_var rfl)) (db_cons (dq_of (de_tup (da_cons de_ty (da_cons de_ty da_nil)) (Nat.le_of_ble_eq_true rfl))) db_nil)) (by walk_at "rc")))) (fun _ => (dt_test (de_op (dq_of (de_cb (db_cons (dq_of (de_var rfl)) db_nil) (by walk_at "rc"))) (dq_of (de_var rfl)) (by walk_at "ro"))))) (by rw [decide_eq_true rfl]; rfl) ?_
    refine ds_seq (ds_each [.val (eTt js), .val (eTb rows), .val (.int (rows.length : Int)), .val (.str w1), .val (.str w2), .any, .any] (dw_rangeN (da_cons (de_var rfl) da_nil) (by walk_at "si")) (by walk_at "wk") (fun x hx => ?_) ?_)
    · have hx : wd rows.length x := wd_rg.mpr hx
      show DS _ [.val (eTt js), .val (eTb rows), .val (.int (rows.length : Int)), .val (.str w1), .val (.str w2), .val (.int x), .any] _
      exact ds_ifF' (dt_not (dt_B (d_is_word_row (da_cons (de_op (dq_of (de_var rfl)) (dq_of (de_var rfl)) (by walk_at "ro")) (da_cons (de_cb (db_cons (dq_of (de_var rfl)) db_nil) (by walk_at "rc")) da_nil)) (⟨hR.get hx, by omega⟩)))) rfl (ds_next (by walk_at "wk"))
    show DS _ [.val (eTt js), .val (eTb rows), .val (.int (rows.length : Int)), .val (.str w1), .val (.str w2), .any, .any] _
    refine ds_seq (ds_each [.val (eTt js), .val (eTb rows), .val (.int (rows.length : Int)), .val (.str w1), .val (.str w2), .any, .any] (dw_rangeN (da_cons (de_var rfl) da_nil) (by walk_at "si")) (by walk_at "wk") (fun x hx => ?_) ?_)
    · have hx : wd rows.length x := wd_rg.mpr hx
      have hm := hM (gL rows x) (getD_mem (by obtain ⟨h1, h2⟩ := hx; omega))
      show DS _ [.val (eTt js), .val (eTb rows), .val (.int (rows.length : Int)), .val (.str w1), .val (.str w2), .val (.int x), .any] _
      exact ds_ifF' (dt_or (dt_test (de_op (dq_of (de_op (dq_of (de_op (dq_of (de_var rfl)) (dq_of (de_var rfl)) (by walk_at "ro"))) (dq_of de_int) (ro_gIR hm.row (by omega)))) (dq_of de_int) (by walk_at "ro"))) (fun _ => (dt_not (dt_B (d_row_rises (da_cons (de_var rfl) (da_cons (de_op (dq_of (de_var rfl)) (dq_of (de_var rfl)) (by walk_at "ro")) da_nil)) (⟨hj, hm, hn⟩)    ))))) (by rw [decide_eq_true hm.zero]; rfl) (ds_next (by walk_at "wk"))
    exact ds_ret (de_cb (db_cons (dn_dq (dn_lc2 eIt (dw_list (de_var rfl)) (by walk_at "sz") (by decide) (fun x_row hx_x_row => by (try rw [mem_rgI] at hx_x_row); exact (de_cb (db_cons (dq_of (de_var rfl)) db_nil) (by walk_at "rc"))))) db_nil) (by walk_at "rc")) (by rw [List.map_id'])

end
end DL
end

section
set_option Elab.async false
set_option linter.all false
set_option maxRecDepth 100000
set_option maxHeartbeats 4000000
namespace DL
open PySem PySem.Spec PyProof.Rows L2
open C8 (Cal pe_c Mak pe_mk)
local macro_rules | `(tactic| walk_at "si") => `(tactic| first
  | with_reducible assumption | omega | (simp only [rgI_len, List.length_map]; omega) | (simp only [decide_eq_true_eq, Bool.and_eq_true, Bool.not_eq_true', decide_eq_false_iff_not] at *; omega))
local macro_rules | `(tactic| walk_at "sz") => `(tactic| first
  | with_reducible assumption | omega | (simp only [rgI_len, List.length_map, List.length_append, List.length_cons, List.length_nil]; omega))
local macro_rules | `(tactic| walk_at "row") => `(tactic| first | with_reducible assumption | ((with_reducible refine Tbl.get (by with_reducible assumption) ?_); walk_at "wd") | exact row_mem (by with_reducible assumption) (by with_reducible assumption))
local macro_rules | `(tactic| walk_at "wd") => `(tactic| first | with_reducible assumption | omega | (constructor <;> omega) | ((with_reducible refine wd_get (by walk_at "row") ?_); walk_at "wd") | exact wd_mem (by with_reducible assumption) (by with_reducible assumption))
local macro_rules | `(tactic| walk_at "rk") => `(tactic| first
  | ((with_reducible apply ro_xL (by decide)); exact rfl) | ((with_reducible apply ro_xT (by decide)); exact rfl) | walk_at "ro")
local macro_rules | `(tactic| walk_at "ro") => `(tactic| first
  | with_reducible exact ro_b0 | with_reducible exact ro_l ro_eqI | with_reducible exact ro_l ro_neI | with_reducible exact ro_l ro_eqB | with_reducible exact ro_l ro_neB | with_reducible exact ro_l ro_eqS | with_reducible exact ro_l ro_neS
  | ((with_reducible refine ro_gLR (by with_reducible assumption) ?_); walk_at "wd") | ((with_reducible refine ro_gIR (by walk_at "row") ?_); walk_at "wd")
  | ((with_reducible refine ro_gI ?_ ?_) <;> walk_at "si") | ((with_reducible refine ro_gL ?_ ?_) <;> walk_at "si") | ((with_reducible refine ro_gIT ?_ ?_) <;> walk_at "si")
  | with_reducible exact ro_gG (by with_reducible assumption) | ((with_reducible refine ro_gT ?_ ?_) <;> walk_at "si")
  | ((with_reducible refine ro_gB ?_ ?_) <;> walk_at "si")
  | ((with_reducible refine ro_gS ?_ ?_) <;> walk_at "si") | ((with_reducible refine ro_gST ?_ ?_) <;> walk_at "si")
  | ((with_reducible refine ro_xM ?_ ?_) <;> walk_at "si") | ((with_reducible refine ro_xTM ?_ ?_) <;> walk_at "si")
  | ((with_reducible apply ro_xL (by decide)); exact rfl) | ((with_reducible apply ro_xT (by decide)); exact rfl)
  | with_reducible exact ro_eqIs | with_reducible exact ro_l ro_inL | with_reducible exact ro_l ro_niL | with_reducible exact ro_l ro_inT | with_reducible exact ro_l ro_inS | with_reducible exact ro_isNN | with_reducible exact ro_notNN | with_reducible exact ro_isNI | with_reducible exact ro_notNI)
local macro_rules | `(tactic| walk_at "rc") => `(tactic| with_reducible first
  | exact rc_lenM | exact rc_lenTM | exact rc_lenL' | exact rc_lenT' | exact rc_ii _ | exact rc_ib _ | exact rc_ss _ | exact rc_tt _ | exact rc_ltl _ | exact rc_ltt _ | exact rc_int | exact rc_abs | exact rc_max2 | exact rc_min2 | exact rc_all | exact rc_sum | exact rc_tupL' | exact rc_tupT' | exact rc_range1)
local macro_rules | `(tactic| walk_at "rcn") => `(tactic| with_reducible first
  | exact rcn_listL' | exact rcn_listT' | exact rcn_sortP)
local macro_rules | `(tactic| walk_at "pre") => `(tactic| first | with_reducible assumption | exact trivial | (refine And.intro ?_ ?_ <;> walk_at "pre") | walk_at "wd" | walk_at "si")
local macro_rules | `(tactic| walk_at "cmod") => `(tactic| (show (0 : Int) < _; first | decide | walk_at "si"))
local macro_rules | `(tactic| walk_at "cd") => `(tactic| (refine And.intro ?_ ?_ <;> walk_at "si"))
local macro_rules | `(tactic| walk_at "cp") => `(tactic| exact ⟨by decide, by decide, by decide⟩)
local macro_rules | `(tactic| walk_at "cm") => `(tactic| first | (refine Or.inl (And.intro ?_ ?_) <;> omega) | (refine Or.inr (And.intro ?_ ?_) <;> omega))
local macro_rules | `(tactic| walk_at "wk") => `(tactic| (repeat (first | exact Wk.nil | exact Wk.refl _ | refine Wk.same ?_ | refine Wk.frz ?_ | refine Wk.drop ?_)))
section
variable {P : PySem.Program} {w : World} {K : PySem.W.Frag} {mg : Str → Option Value} {base : Heap} {CL CB : Addr} (T : Txt K mg CL CB)
include T
local macro_rules | `(tactic| walk_at "ro") => `(tactic| first
  | ((with_reducible refine ro_gLt (by with_reducible assumption) ?_); walk_at "wd") | ((with_reducible refine ro_gIt (by walk_at "row") ?_); walk_at "wd"))
abbrev S_bare : Stmt := inClass (top 15) 3
def sp_bare (CL : Addr) : Sp := spD (α := Int × Int) (fun x => [eLot CL x.1 x.2 []]) (fun _ => True) (fun _ => .bl true)
omit T in
theorem sc_bare : FnScope ["self"] ["self"] (defScope S_bare) := ⟨rfl, rfl, rfl, by decide +kernel, rfl, by decide +kernel, by decide +kernel⟩
omit T in
theorem ro_eqT0 {K : PySem.W.Frag} {r : R2} : RO (fun x y H Q => r x y H Q ∨ rEqD K x y H Q) (.tup []) (.tup []) (.bl true) := ro_r (ro_eqD (n := 1) (by decide) (.tup 0 _ fun d hd => by cases hd) (.tup 0 _ fun d hd => by cases hd) ⟨fun _ => rfl, fun _ => rfl⟩)
theorem ok_bare {g : Addr} {fd : FuncData} (F : FunD K "bare" "Lot.bare" (defArgs S_bare) (defBody S_bare) (defScope S_bare) [] [] g fd) : FnOk P w K mg base CX0 1 g fd ["self"] (sp_bare CL) :=
  ok_def (α := Int × Int) (enc := fun x => [eLot CL x.1 x.2 []]) (pre := fun _ => True) (val := fun _ => .bl true) (N := ["self"]) F sc_bare (fun _ => rfl) fun cdv A outer s H E hr x hp => by
    have nd := sc_bare.nd
    refine ⟨_, (pss_one (ps_ret (pe_and (pe_cmpR (eqk K hr) (fldk K (pv 0) rfl) (pe_tup pa_nil) (nomark _)) (pe_and (pe_cmpR (eqk K hr) (fldk K (pv 0) rfl) (pe_tup pa_nil) (nomark _)) (pe_one (pe_cmpR (eqk K hr) (fldk K (pv 0) rfl) (pe_tup pa_nil) (nomark _))))))), ?_⟩
    show DS _ [.val (eLot CL x.1 x.2 [])] _
    exact ds_ret (de_andV (de_op (dq_of (de_fld T.cls_Lot T.no_Lot_inside (de_var rfl) rfl)) (dq_of (de_tup da_nil (Nat.le_of_ble_eq_true rfl))) ro_eqT0) (fun _ => de_andV (de_op (dq_of (de_fld T.cls_Lot T.no_Lot_ups (de_var rfl) rfl)) (dq_of (de_tup da_nil (Nat.le_of_ble_eq_true rfl))) ro_eqT0) (fun _ => de_op (dq_of (de_fld T.cls_Lot T.no_Lot_downs (de_var rfl) rfl)) (dq_of (de_tup da_nil (Nat.le_of_ble_eq_true rfl))) ro_eqT0))) rfl
omit T in
theorem pe_bare {X : Cx} {CL CB : Addr} (T : Txt X.K X.mg CL CB) {j : Nat} {e : Expr} {pos : Pos} {ta : TE} (hr : Room j X.A) (hj : 2 ≤ j) (he : PE X e ta) (hab : attributeBase e "bare" X.env (eval e X.env) = eval e X.env) : PE X (.Attribute e "bare" pos) (tProp CL (sp_bare CL) [] C8.E0 ta) := by
  obtain ⟨p, g, fd, hp, F⟩ := T.bare
  have hb : Binds X.K fd ["self"] [] := F.bindsN fun _ _ _ _ _ _ us hl => match us, hl with | [_], _ => rfl
  exact pe_prop he T.cls_Lot hp (ok_bare (P := X.prog) (w := X.w) (base := X.base) T F) (hr.mono hj) hb .nil C8.pass0 hab
omit T in
theorem d_bare {ρ : List Sl} {ta : TE} {X : XK} {CL : Addr} {lo hi : Int} (h : DE ta ρ (eLot CL lo hi [])) (hp : True) : DE (tProp CL (sp_bare CL) [] X ta) ρ (.bl true) := de_prop (α := Int × Int) (enc := fun x => [eLot CL x.1 x.2 []]) (pre := fun _ => True) (val := fun _ => .bl true) (lo, hi) h rfl trivial
abbrev eLm (CL : Addr) (m : Int) : DV := eLot CL (nLo (mem4 m)) (nHi (mem4 m)) (mem4 m)
omit T in
theorem ro_gM {K : PySem.W.Frag} {CL : Addr} {ms : List Int} {i : Int} (h0 : 0 ≤ i) (h : i < ms.length) : RO (rIx K) (.lst (ms.map (eLm CL))) (.int i) (eLm CL (gI ms i)) := ro_xM (f := eLm CL) h0 (by omega)
omit T in
theorem rc_isC {C : Addr} {ns : List Str} {ds : List DV} : RC (fun xs H Q => ∃ a dx fs, xs = [V.ref a, .ref C] ∧ H a = some (.ins C dx fs) ∧ Q (.bl true) H) [.ins C ns ds, .cls C] (.bl true) := fun _ _ _ e r _ q => by
  obtain ⟨v, u, ev, rv, ru⟩ := r.two_inv
  obtain ⟨a, dx, fs, e1, ha, _, _⟩ := rv.ins.ins_inv
  exact ⟨a, dx, fs, by rw [ev, e1, ru.cls], e _ _ ha, q _ _ _ (Go.refl e) (.bl _)⟩
omit T in
theorem mem4_bd : ∀ m ∈ rgI 0 16, -5 ≤ nLo (mem4 m) ∧ nLo (mem4 m) ≤ 5 ∧ -5 ≤ nHi (mem4 m) ∧ nHi (mem4 m) ≤ 5 := by decide +kernel
omit T in
theorem mem4_sub : ∀ a ∈ rgI 0 16, ∀ b ∈ rgI 0 16, bd a b = a → ∀ n ∈ rgI (-6) 12, v_tr (nLo (mem4 a)) (nHi (mem4 a)) (mem4 a) n = true → v_tr (nLo (mem4 b)) (nHi (mem4 b)) (mem4 b) n = true := by decide +kernel
omit T in
theorem tr_rng {lo hi n : Int} {ns : List Int} (h : v_tr lo hi ns n = true) : lo ≤ n ∧ n ≤ hi := by
  unfold v_tr at h
  cases h1 : decide (n > hi) with
  | true => rw [h1] at h; cases h
  | false =>
    rw [h1] at h
    cases h2 : decide (n < lo) with
    | true => rw [h2] at h; cases h
    | false =>
      have h1 := of_decide_eq_false h1
      have h2 := of_decide_eq_false h2
      omega
omit T in
theorem within_pre {a b : Int} (ha : a ∈ rgI 0 16) (hb : b ∈ rgI 0 16) (h : bd a b = a) : (mem4 a).length ≤ 4 ∧ (mem4 b).length ≤ 4 ∧ (-5 ≤ nLo (mem4 a) ∧ nLo (mem4 a) ≤ 5 ∧ -5 ≤ nHi (mem4 a) ∧ nHi (mem4 a) ≤ 5 ∧ -5 ≤ nLo (mem4 b) ∧ nLo (mem4 b) ≤ 5 ∧ -5 ≤ nHi (mem4 b) ∧ nHi (mem4 b) ≤ 5) ∧ ∀ n, v_tr (nLo (mem4 a)) (nHi (mem4 a)) (mem4 a) n = true → v_tr (nLo (mem4 b)) (nHi (mem4 b)) (mem4 b) n = true := by
  obtain ⟨a1, a2, a3, a4⟩ := mem4_bd a ha
  obtain ⟨b1, b2, b3, b4⟩ := mem4_bd b hb
  refine ⟨mem4_len a ha, mem4_len b hb, ⟨a1, a2, a3, a4, b1, b2, b3, b4⟩, fun n hn => ?_⟩
  have := tr_rng hn
  exact mem4_sub a ha b hb h n (mem_rgI.mpr (by omega)) hn
omit T in
theorem eLm0 (CL : Addr) : eLm CL 0 = eLot CL 0 (-1) [] := by
  have h : mem4 0 = [] := by decide +kernel
  show eLot CL (nLo (mem4 0)) (nHi (mem4 0)) (mem4 0) = _
  rw [h]; rfl
abbrev S_checked_meanings : Stmt := top 60
abbrev N_checked_meanings : List Str := ["joins", "meanings", "many", "at", "lot", "one", "other"]
omit T in
theorem sc_checked_meanings : FnScope N_checked_meanings ["joins", "meanings"] (defScope S_checked_meanings) := ⟨rfl, rfl, rfl, by decide +kernel, rfl, by decide +kernel, by decide +kernel⟩
def sp_checked_meanings (CL CB : Addr) : Sp := spD (α := List (List Int) × List Int) (fun ⟨js, ms⟩ => [eTt js, .lst (ms.map (eLm CL))]) (fun ⟨js, ms⟩ => Tbl js.length js.length js.length js ∧ Msk js.length js ms ∧ js.length ≤ 20 ∧ 0 < js.length) (fun ⟨js, ms⟩ => .tup (ms.map (eLm CL)))
omit T in
theorem d_checked_meanings {ρ : List Sl} {t : TA} {E : XK} {js : List (List Int)} {ms : List Int} (h : DA t ρ [eTt js, .lst (ms.map (eLm CL))]) (hp : Tbl js.length js.length js.length js ∧ Msk js.length js ms ∧ js.length ≤ 20 ∧ 0 < js.length) : DE (tCall (sp_checked_meanings CL CB) [] E t) ρ (.tup (ms.map (eLm CL))) := de_call (α := List (List Int) × List Int) (enc := fun ⟨js, ms⟩ => [eTt js, .lst (ms.map (eLm CL))]) (pre := fun ⟨js, ms⟩ => Tbl js.length js.length js.length js ∧ Msk js.length js ms ∧ js.length ≤ 20 ∧ 0 < js.length) (val := fun ⟨js, ms⟩ => .tup (ms.map (eLm CL))) ⟨js, ms⟩ h rfl hp
theorem c_checked_meanings : Cal P w K mg base 4 "checked_meanings" (sp_checked_meanings CL CB) [] :=
  cal_def (α := List (List Int) × List Int) (enc := fun ⟨js, ms⟩ => [eTt js, .lst (ms.map (eLm CL))]) (pre := fun ⟨js, ms⟩ => Tbl js.length js.length js.length js ∧ Msk js.length js ms ∧ js.length ≤ 20 ∧ 0 < js.length) (val := fun ⟨js, ms⟩ => .tup (ms.map (eLm CL))) T.f_checked_meanings sc_checked_meanings (fun ⟨js, ms⟩ => rfl) (fun _ _ _ _ _ _ us hl => match us, hl with | [_, _], _ => rfl) fun f cdv A outer s H E hr ⟨js, ms⟩ hp => by
    (try dsimp only at hp)
    have nd := sc_checked_meanings.nd
    refine ⟨_, (pss_cons (ps_set (i := 2) nd rfl (.inl rfl) (pe_callB (lenk K) rfl T.m_len (by decide +kernel) (pa_cons (pv 0) pa_nil)))
    (pss_cons (ps_if (PW.pt (pw_or (pt_not (pt_val (pe_callB (isitk K) rfl T.m_isinstance (by decide +kernel) (pa_cons (pv 1) (pa_cons (pe_tup (pa_cons (pe_bltn (v := .ty "list") rfl T.m_list (by decide +kernel) rfl) (pa_cons (pe_bltn (v := .ty "tuple") rfl T.m_tuple (by decide +kernel) rfl) pa_nil))) pa_nil))))) (pw_or1 (pt_cmpR (nek K hr) (pe_callB (lenk K) rfl T.m_len (by decide +kernel) (pa_cons (pv 1) pa_nil)) (pv 2) (nomark _))))) (pss_one (ps_never)) pss_nil)
    (pss_cons (ps_for PassesOwn.never rfl (pi_range1 rfl T.m_range (pa_cons (pv 2) pa_nil)) (pg_name (i := 3) nd rfl (.inl rfl))
    (pss_cons (ps_set (i := 4) nd rfl (.inl rfl) (pe_ix (ixk K) (pv 1) (pv 3) (fun _ _ => rfl)))
    (pss_one (ps_if (PW.pt (pw_or (pt_not (pt_val (pe_callB (C8.call_isC T.isLot) rfl T.m_isinstance (by decide +kernel) (pa_cons (pv 4) (pa_cons (pe_glob (v := .ref CL) rfl T.g_Lot rfl) pa_nil))))) (pw_or (pt_cmpR op_gt (fldk K (pv 4) rfl) pe_int (nomark _)) (pw_or (pt_cmpR op_lt (fldk K (pv 4) rfl) (pe_un un_neg pe_int) (nomark _)) (pw_or1 (pt_cmpR op_gt (fldk K (pv 4) rfl) pe_int (nomark _))))))) (pss_one (ps_never)) pss_nil))))
    (pss_cons (ps_if (pt_not (pt_val (pe_bare T hr (by decide) (pe_ix (ixk K) (pv 1) pe_int (fun _ _ => rfl)) rfl))) (pss_one (ps_never)) pss_nil)
    (pss_cons (ps_for PassesOwn.never rfl (pi_range1 rfl T.m_range (pa_cons (pv 2) pa_nil)) (pg_name (i := 5) nd rfl (.inl rfl))
    (pss_one (ps_for PassesOwn.never rfl (pi_range1 rfl T.m_range (pa_cons (pv 2) pa_nil)) (pg_name (i := 6) nd rfl (.inl rfl))
    (pss_one (ps_if (PW.pt (pw_and (pt_cmpR (eqk K hr) (pe_ix (ixk K) (pe_ix (ixk K) (pv 0) (pv 6) (fun _ _ => rfl)) (pv 5) (fun _ _ => rfl)) (pv 5) (nomark _)) (pw_and1 (pt_cmpR op_notN (pe_c (c_within T) hr (by decide) rfl (pa_cons (pe_ix (ixk K) (pv 1) (pv 6) (fun _ _ => rfl)) (pa_cons (pe_ix (ixk K) (pv 1) (pv 5) (fun _ _ => rfl)) pa_nil))) pe_non (nomark _))))) (pss_one (ps_never)) pss_nil)))))
    (pss_one (ps_ret (pe_callTy (tupk K) rfl T.m_tuple (by decide +kernel) (pa_cons (pv 1) pa_nil))))))))), ?_⟩
    obtain ⟨hj, hM, hn, hn0⟩ := hp
    have hml := hM.len
    have hmr : ∀ x, wd js.length x → gI ms x ∈ rgI 0 16 := fun x hx => hM.rng _ (gI_mem (by rw [hml]; exact hx))
    show DS _ [.val (eTt js), .val (.lst (ms.map (eLm CL))), .any, .any, .any, .any, .any] _
    refine ds_setS (de_cb (db_cons (dq_of (de_var rfl)) db_nil) (by walk_at "rc")) ?_
    refine ds_ifFS (dt_or (dt_not (dt_B (de_cb (db_cons (dq_of (de_var rfl)) (db_cons (dq_of (de_tup (da_cons de_ty (da_cons de_ty da_nil)) (Nat.le_of_ble_eq_true rfl))) db_nil)) (by walk_at "rc")))) (fun _ => (dt_test (de_op (dq_of (de_cb (db_cons (dq_of (de_var rfl)) db_nil) (by walk_at "rc"))) (dq_of (de_var rfl)) (by walk_at "ro"))))) (by rw [decide_eq_true (by omega)]; rfl) ?_
    refine ds_seq (ds_each [.val (eTt js), .val (.lst (ms.map (eLm CL))), .val (.int (js.length : Int)), .any, .any, .any, .any] (dw_rangeN (da_cons (de_var rfl) da_nil) (by walk_at "si")) (by walk_at "wk") (fun x hx => ?_) ?_)
    · have hx : wd js.length x := wd_rg.mpr hx
      obtain ⟨b1, b2, b3, b4⟩ := mem4_bd _ (hmr x hx)
      show DS _ [.val (eTt js), .val (.lst (ms.map (eLm CL))), .val (.int (js.length : Int)), .val (.int x), .any, .any, .any] _
      refine ds_setS (d := eLm CL (gI ms x)) (de_op (dq_of (de_var rfl)) (dq_of (de_var rfl)) (ro_gM (by omega) (by omega))) ?_
      exact ds_ifF' (dt_or (dt_not (dt_B (de_cb (db_cons (dq_of (de_var rfl)) (db_cons (dq_of de_cls) db_nil)) (rc_isC)         ))) (fun _ => (dt_or (dt_test (de_op (dq_of (de_fld T.cls_Lot T.no_Lot_modulus (de_var rfl) rfl)) (dq_of de_int) ro_b0)) (fun _ => (dt_or (dt_test (de_op (dq_of (de_fld T.cls_Lot T.no_Lot_low (de_var rfl) rfl)) (dq_of (de_un (dq_of de_int) ru_i)) ro_b0)) (fun _ => (dt_test (de_op (dq_of (de_fld T.cls_Lot T.no_Lot_high (de_var rfl) rfl)) (dq_of de_int) ro_b0)))))))) (by rw [decide_eq_false (by omega), decide_eq_false (by omega), decide_eq_false (by omega)]; rfl) (ds_next (by walk_at "wk"))
    have hb0 : DE (tOp (rIx K) (tVar 1) (tC (V.int 0))) [.val (eTt js), .val (.lst (ms.map (eLm CL))), .val (.int (js.length : Int)), .any, .any, .any, .any] (eLot CL 0 (-1) []) := de_is (de_op (dq_of (de_var rfl)) (dq_of de_int) (ro_gM (by omega) (by omega))) (by rw [hM.zero]; exact eLm0 CL)
    refine ds_ifFS (dt_not (dt_B (d_bare hb0 trivial))) rfl ?_
    refine ds_seq (ds_each [.val (eTt js), .val (.lst (ms.map (eLm CL))), .val (.int (js.length : Int)), .any, .any, .any, .any] (dw_rangeN (da_cons (de_var rfl) da_nil) (by walk_at "si")) (by walk_at "wk") (fun x hx => ?_) ?_)
    · have hx : wd js.length x := wd_rg.mpr hx
      show DS _ [.val (eTt js), .val (.lst (ms.map (eLm CL))), .val (.int (js.length : Int)), .any, .any, .val (.int x), .any] _
      refine ds_each [.val (eTt js), .val (.lst (ms.map (eLm CL))), .val (.int (js.length : Int)), .any, .any, .val (.int x), .any] (dw_rangeN (da_cons (de_var rfl) da_nil) (by walk_at "si")) (by walk_at "wk") (fun y hy => ?_) (by walk_at "wk")
      have hy : wd js.length y := wd_rg.mpr hy
      show DS _ [.val (eTt js), .val (.lst (ms.map (eLm CL))), .val (.int (js.length : Int)), .any, .any, .val (.int x), .val (.int y)] _
      by_cases h : gI (gL js y) x = x
      · have hs := within_pre (hmr y hy) (hmr x hx) (hM.sub y x hy hx h)
        exact ds_ifF' (dt_and (dt_test (de_op (dq_of (de_op (dq_of (de_op (dq_of (de_var rfl)) (dq_of (de_var rfl)) (by walk_at "ro"))) (dq_of (de_var rfl)) (by walk_at "ro"))) (dq_of (de_var rfl)) (by walk_at "ro"))) (fun _ => (dt_test (de_op (dq_of (d_within (da_cons (de_op (dq_of (de_var rfl)) (dq_of (de_var rfl)) (ro_gM (by omega) (by omega))) (da_cons (de_op (dq_of (de_var rfl)) (dq_of (de_var rfl)) (ro_gM (by omega) (by omega))) da_nil)) (hs)              )) (dq_of de_non) (ro_notNN)       )))) (by rw [decide_eq_true h]; rfl) (ds_next (by walk_at "wk"))
      · refine ds_ifF' (dt_is (dt_and (b := false) (dt_test (de_is (de_op (dq_of (de_op (dq_of (de_op (dq_of (de_var rfl)) (dq_of (de_var rfl)) (by walk_at "ro"))) (dq_of (de_var rfl)) (by walk_at "ro"))) (dq_of (de_var rfl)) (by walk_at "ro")) (by rw [decide_eq_false h]))) (fun h => by cases h)) rfl) rfl (ds_next (by walk_at "wk"))
    exact ds_ret (de_cb (db_cons (dq_of (de_var rfl)) db_nil) (rc_tupL')       ) rfl

end
end DL
end

section
set_option Elab.async false
set_option linter.all false
set_option maxRecDepth 100000
set_option maxHeartbeats 4000000
namespace DL
open PySem PySem.Spec PyProof.Rows L2
open C8 (Cal pe_c Mak pe_mk)
local macro_rules | `(tactic| walk_at "si") => `(tactic| first
  | with_reducible assumption | omega | (simp only [rgI_len, List.length_map]; omega) | (simp only [decide_eq_true_eq, Bool.and_eq_true, Bool.not_eq_true', decide_eq_false_iff_not] at *; omega))
local macro_rules | `(tactic| walk_at "sz") => `(tactic| first
  | with_reducible assumption | omega | (simp only [rgI_len, List.length_map, List.length_append, List.length_cons, List.length_nil]; omega))
local macro_rules | `(tactic| walk_at "row") => `(tactic| first | with_reducible assumption | ((with_reducible refine Tbl.get (by with_reducible assumption) ?_); walk_at "wd") | exact row_mem (by with_reducible assumption) (by with_reducible assumption))
local macro_rules | `(tactic| walk_at "wd") => `(tactic| first | with_reducible assumption | omega | (constructor <;> omega) | ((with_reducible refine wd_get (by walk_at "row") ?_); walk_at "wd") | exact wd_mem (by with_reducible assumption) (by with_reducible assumption))
local macro_rules | `(tactic| walk_at "rk") => `(tactic| first
  | ((with_reducible apply ro_xL (by decide)); exact rfl) | ((with_reducible apply ro_xT (by decide)); exact rfl) | walk_at "ro")
local macro_rules | `(tactic| walk_at "ro") => `(tactic| first
  | with_reducible exact ro_b0 | with_reducible exact ro_l ro_eqI | with_reducible exact ro_l ro_neI | with_reducible exact ro_l ro_eqB | with_reducible exact ro_l ro_neB | with_reducible exact ro_l ro_eqS | with_reducible exact ro_l ro_neS
  | ((with_reducible refine ro_gLR (by with_reducible assumption) ?_); walk_at "wd") | ((with_reducible refine ro_gIR (by walk_at "row") ?_); walk_at "wd")
  | ((with_reducible refine ro_gI ?_ ?_) <;> walk_at "si") | ((with_reducible refine ro_gL ?_ ?_) <;> walk_at "si") | ((with_reducible refine ro_gIT ?_ ?_) <;> walk_at "si")
  | with_reducible exact ro_gG (by with_reducible assumption) | ((with_reducible refine ro_gT ?_ ?_) <;> walk_at "si")
  | ((with_reducible refine ro_gB ?_ ?_) <;> walk_at "si")
  | ((with_reducible refine ro_gS ?_ ?_) <;> walk_at "si") | ((with_reducible refine ro_gST ?_ ?_) <;> walk_at "si")
  | ((with_reducible refine ro_xM ?_ ?_) <;> walk_at "si") | ((with_reducible refine ro_xTM ?_ ?_) <;> walk_at "si")
  | ((with_reducible apply ro_xL (by decide)); exact rfl) | ((with_reducible apply ro_xT (by decide)); exact rfl)
  | with_reducible exact ro_eqIs | with_reducible exact ro_l ro_inL | with_reducible exact ro_l ro_niL | with_reducible exact ro_l ro_inT | with_reducible exact ro_l ro_inS | with_reducible exact ro_isNN | with_reducible exact ro_notNN | with_reducible exact ro_isNI | with_reducible exact ro_notNI)
local macro_rules | `(tactic| walk_at "rc") => `(tactic| with_reducible first
  | exact rc_lenM | exact rc_lenTM | exact rc_lenL' | exact rc_lenT' | exact rc_ii _ | exact rc_ib _ | exact rc_ss _ | exact rc_tt _ | exact rc_ltl _ | exact rc_ltt _ | exact rc_int | exact rc_abs | exact rc_max2 | exact rc_min2 | exact rc_all | exact rc_sum | exact rc_tupL' | exact rc_tupT' | exact rc_range1)
local macro_rules | `(tactic| walk_at "rcn") => `(tactic| with_reducible first
  | exact rcn_listL' | exact rcn_listT' | exact rcn_sortP)
local macro_rules | `(tactic| walk_at "pre") => `(tactic| first | with_reducible assumption | exact trivial | (refine And.intro ?_ ?_ <;> walk_at "pre") | walk_at "wd" | walk_at "si")
local macro_rules | `(tactic| walk_at "cmod") => `(tactic| (show (0 : Int) < _; first | decide | walk_at "si"))
local macro_rules | `(tactic| walk_at "cd") => `(tactic| (refine And.intro ?_ ?_ <;> walk_at "si"))
local macro_rules | `(tactic| walk_at "cp") => `(tactic| exact ⟨by decide, by decide, by decide⟩)
local macro_rules | `(tactic| walk_at "cm") => `(tactic| first | (refine Or.inl (And.intro ?_ ?_) <;> omega) | (refine Or.inr (And.intro ?_ ?_) <;> omega))
local macro_rules | `(tactic| walk_at "wk") => `(tactic| (repeat (first | exact Wk.nil | exact Wk.refl _ | refine Wk.same ?_ | refine Wk.frz ?_ | refine Wk.drop ?_)))
section
variable {P : PySem.Program} {w : World} {K : PySem.W.Frag} {mg : Str → Option Value} {base : Heap} {CL CB : Addr} (T : Txt K mg CL CB)
include T
local macro_rules | `(tactic| walk_at "ro") => `(tactic| first
  | ((with_reducible refine ro_gLt (by with_reducible assumption) ?_); walk_at "wd") | ((with_reducible refine ro_gIt (by walk_at "row") ?_); walk_at "wd"))
/-- a book that its maker takes -/
structure Val (b : LB) : Prop where
  wf : WF b
  alp : Alp 20 b.le b.te
  lat : Lat b.js.length b.js
  msk : Msk b.js.length b.js b.ms
  de : ∀ r ∈ b.de, Mono b.js.length b.js r
  so : ∀ r ∈ b.so, Mono b.js.length b.js r
  no : ∀ r ∈ b.no, Mono b.js.length b.js r
  fi : 0 < b.fi
abbrev nsBook : List Str := ["letters", "tests", "joins", "meanings", "deeds", "so", "not_so", "first"]
abbrev vBook (CL : Addr) (b : LB) : List DV := [.tup (b.le.map eSy), .tup (b.te.map eSy), eTt b.js, .tup (b.ms.map (eLm CL)), eTt b.de, eTt b.so, eTt b.no, .int b.fi]
abbrev eBook (CL CB : Addr) (b : LB) : DV := .ins CB nsBook (vBook CL b)
abbrev iBook (CL : Addr) (b : LB) : List DV := [eSys b.le, eSys b.te, eTb b.js, .lst (b.ms.map (eLm CL)), eTb b.de, eTb b.so, eTb b.no, .int b.fi]
def sp_mk_Book (CL CB : Addr) : Sp := spI (α := LB) CB nsBook (iBook CL) Val (vBook CL)
omit T in
theorem d_checked_rowsK {ρ : List Sl} {t : TA} {E : XK} {js rows : List (List Int)} {w1 w2 : Str} {k : Nat} (hk : rows.length = k) (h : DA t ρ [eTt js, eTb rows, .int (k : Int), .str w1, .str w2]) (hp : Tbl js.length js.length js.length js ∧ js.length ≤ 20 ∧ 0 < js.length ∧ rows.length ≤ 20 ∧ ∀ r ∈ rows, Mono js.length js r) : DE (tCall sp_checked_rows [] E t) ρ (eTt rows) := by
  subst hk; exact d_checked_rows h hp
abbrev NI_Book : List Str := ["self", "letters", "tests", "joins", "meanings", "deeds", "so", "not_so", "first"]
omit T in
theorem sci_Book : FnScope NI_Book ["self", "letters", "tests", "joins", "meanings", "deeds", "so", "not_so", "first"] (defScope (inClass (top 62) 0)) := ⟨rfl, rfl, rfl, by decide +kernel, rfl, by decide +kernel, by decide +kernel⟩


theorem mk_Book : Mak P w K mg base 5 "Book" CB (sp_mk_Book CL CB) [] :=
  mak_def (α := LB) (enc := iBook CL) (pre := Val) (val := vBook CL) T.mk_Book T.g_Book sci_Book (fun _ => rfl) (fun _ _ _ _ _ _ us hl => match us, hl with | [_, _, _, _, _, _, _, _, _], _ => rfl) fun f cdv A outer s H E hr x hp a => by
    (try dsimp only at hp)
    have nd := sci_Book.nd
    refine ⟨_, (pss_cons (ps_fld (pv 0) (pe_c (c_checked_letters T) hr (by decide) rfl (pa_cons (pv 1) pa_nil)) rfl)
    (pss_cons (ps_fld (pv 0) (pe_c (c_checked_tests T) hr (by decide) rfl (pa_cons (pv 2) pa_nil)) rfl)
    (pss_cons (ps_fld (pv 0) (pe_c (c_checked_joins T) hr (by decide) rfl (pa_cons (pv 3) pa_nil)) rfl)
    (pss_cons (ps_fld (pv 0) (pe_c (c_checked_meanings T) hr (by decide) rfl (pa_cons (fldk K (pv 0) rfl) (pa_cons (pv 4) pa_nil))) rfl)
    (pss_cons (ps_fld (pv 0) (pe_c (c_checked_rows T) hr (by decide) rfl (pa_cons (fldk K (pv 0) rfl) (pa_cons (pv 5) (pa_cons (pe_callB (lenk K) rfl T.m_len (by decide +kernel) (pa_cons (fldk K (pv 0) rfl) pa_nil)) (pa_cons pe_str (pa_cons pe_str pa_nil)))))) rfl)
    (pss_cons (ps_fld (pv 0) (pe_c (c_checked_rows T) hr (by decide) rfl (pa_cons (fldk K (pv 0) rfl) (pa_cons (pv 6) (pa_cons (pe_callB (lenk K) rfl T.m_len (by decide +kernel) (pa_cons (fldk K (pv 0) rfl) pa_nil)) (pa_cons pe_str (pa_cons pe_str pa_nil)))))) rfl)
    (pss_cons (ps_fld (pv 0) (pe_c (c_checked_rows T) hr (by decide) rfl (pa_cons (fldk K (pv 0) rfl) (pa_cons (pv 7) (pa_cons (pe_callB (lenk K) rfl T.m_len (by decide +kernel) (pa_cons (fldk K (pv 0) rfl) pa_nil)) (pa_cons pe_str (pa_cons pe_str pa_nil)))))) rfl)
    (pss_cons (ps_if (PW.pt (pw_or (pt_not (pt_val (pe_c (c_is_word T) hr (by decide) rfl (pa_cons (pv 8) (pa_cons (pe_callB (lenk K) rfl T.m_len (by decide +kernel) (pa_cons (fldk K (pv 0) rfl) pa_nil)) pa_nil))))) (pw_or1 (pt_cmpR (eqk K hr) (pv 8) pe_int (nomark _))))) (pss_one (ps_never)) pss_nil)
    (pss_one (ps_fld (pv 0) (pv 8) rfl)))))))))), ?_⟩
    obtain ⟨wf, alp, lat, msk, hde, hso, hno, hfi⟩ := hp
    obtain ⟨n2, n9, js, ms, le1, le4, te4, de, so, no, fi, okl, okt⟩ := wf
    obtain ⟨a1, a2, a3, a4, a5⟩ := alp
    have dl := de.len
    have sl := so.len
    have nl := no.len
    show DS _ [.mu (some a) (.obj CB [] []), .val (eSys x.le), .val (eSys x.te), .val (eTb x.js), .val (.lst (x.ms.map (eLm CL))), .val (eTb x.de), .val (eTb x.so), .val (eTb x.no), .val (.int x.fi)] _
    refine ds_seq (ds_fld T.cls_Book T.no_Book_letters rfl (d_checked_letters (da_cons (de_var rfl) da_nil) (⟨a1, a2, a3, by omega⟩)) (by decide) (by decide) ?_)
    refine ds_seq (ds_fld T.cls_Book T.no_Book_tests rfl (d_checked_tests (da_cons (de_var rfl) da_nil) (⟨a4, a5, by omega⟩)) (by decide) (by decide) ?_)
    refine ds_seq (ds_fld T.cls_Book T.no_Book_joins rfl (d_checked_joins (da_cons (de_var rfl) da_nil) (⟨lat, by omega, by omega⟩)) (by decide) (by decide) ?_)
    refine ds_seq (ds_fld T.cls_Book T.no_Book_meanings rfl (d_checked_meanings (da_cons (de_fldM T.cls_Book T.no_Book_joins rfl rfl) (da_cons (de_var rfl) da_nil)) (⟨js, msk, by omega, by omega⟩)) (by decide) (by decide) ?_)
    refine ds_seq (ds_fld T.cls_Book T.no_Book_deeds rfl (d_checked_rowsK dl (da_cons (de_fldM T.cls_Book T.no_Book_joins rfl rfl) (da_cons (de_var rfl) (da_cons (de_cb (db_cons (dq_of (de_fldM T.cls_Book T.no_Book_letters rfl rfl)) db_nil) (by walk_at "rc")) (da_cons de_str (da_cons de_str da_nil))))) (⟨js, by omega, by omega, by omega, hde⟩)) (by decide) (by decide) ?_)
    refine ds_seq (ds_fld T.cls_Book T.no_Book_so rfl (d_checked_rowsK sl (da_cons (de_fldM T.cls_Book T.no_Book_joins rfl rfl) (da_cons (de_var rfl) (da_cons (de_cb (db_cons (dq_of (de_fldM T.cls_Book T.no_Book_tests rfl rfl)) db_nil) (by walk_at "rc")) (da_cons de_str (da_cons de_str da_nil))))) (⟨js, by omega, by omega, by omega, hso⟩)) (by decide) (by decide) ?_)
    refine ds_seq (ds_fld T.cls_Book T.no_Book_not_so rfl (d_checked_rowsK nl (da_cons (de_fldM T.cls_Book T.no_Book_joins rfl rfl) (da_cons (de_var rfl) (da_cons (de_cb (db_cons (dq_of (de_fldM T.cls_Book T.no_Book_tests rfl rfl)) db_nil) (by walk_at "rc")) (da_cons de_str (da_cons de_str da_nil))))) (⟨js, by omega, by omega, by omega, hno⟩)) (by decide) (by decide) ?_)
    refine ds_ifFS (dt_or (dt_not (dt_B (d_is_word (da_cons (de_var rfl) (da_cons (de_cb (db_cons (dq_of (de_fldM T.cls_Book T.no_Book_joins rfl rfl)) db_nil) (by walk_at "rc")) da_nil)) (by walk_at "pre")))) (fun _ => (dt_test (de_op (dq_of (de_var rfl)) (dq_of de_int) (by walk_at "ro"))))) (by rw [decide_eq_true fi.1, decide_eq_true fi.2, decide_eq_false (by omega)]; rfl) ?_
    exact ds_fld T.cls_Book T.no_Book_first rfl (de_var rfl) (by decide) (by decide) rfl
omit T in
theorem d_just_lotM {CL CB : Addr} {ρ : List Sl} {t : TA} {E : XK} {m : Int} (h : DA t ρ [eIs ((mem4 m).map fun x => x)]) (hp : m ∈ rgI 0 16) : DE (tCall (sp_just_lot CL CB) [] E t) ρ (eLm CL m) := by
  rw [List.map_id'] at h; exact d_just_lot h ⟨m, hp, rfl⟩
omit T in
theorem d_mk_Book {CL CB : Addr} {ρ : List Sl} {t : TA} {E : XK} {b : LB} (h : DA t ρ [eSys b.le, eSys b.te, eTb (b.js.map fun r => r), .lst ((b.ms.map fun m => m).map (eLm CL)), eTb (b.de.map fun r => r), eTb (b.so.map fun r => r), eTb (b.no.map fun r => r), .int b.fi]) (hp : Val b) : DE (tMake CB (sp_mk_Book CL CB) [] E t) ρ (eBook CL CB b) := by
  rw [List.map_id', List.map_id', List.map_id', List.map_id', List.map_id'] at h
  exact de_mk (α := LB) b h rfl hp
abbrev S_law_small_made : Stmt := top 120
abbrev N_law_small_made : List Str := ["_law_book", "_law_lots", "_law_mask", "_law_row", "_law_k"]
omit T in
theorem sc__law_small_made : FnScope N_law_small_made ["_law_book"] (defScope S_law_small_made) := ⟨rfl, rfl, rfl, by decide +kernel, rfl, by decide +kernel, by decide +kernel⟩
def sp__law_small_made (CL CB : Addr) : Sp := spD (α := LB) (fun b => [eLB b]) (fun b => Val b) (fun b => eBook CL CB b)
omit T in
theorem d__law_small_made {ρ : List Sl} {t : TA} {E : XK} {b : LB} (h : DA t ρ [eLB b]) (hp : Val b) : DE (tCall (sp__law_small_made CL CB) [] E t) ρ (eBook CL CB b) := de_call (α := LB) (enc := fun b => [eLB b]) (pre := fun b => Val b) (val := fun b => eBook CL CB b) b h rfl hp
theorem c__law_small_made : Cal P w K mg base 7 "_law_small_made" (sp__law_small_made CL CB) [] :=
  cal_def (α := LB) (enc := fun b => [eLB b]) (pre := fun b => Val b) (val := fun b => eBook CL CB b) T.f__law_small_made sc__law_small_made (fun b => rfl) (fun _ _ _ _ _ _ us hl => match us, hl with | [_], _ => rfl) fun f cdv A outer s H E hr b hp => by
    (try dsimp only at hp)
    have nd := sc__law_small_made.nd
    refine ⟨_, (pss_cons (ps_setLc (i := 1) (own := [("_law_mask", 2)]) rfl nd rfl rfl (sw_true rfl rfl rfl (by decide +kernel)) (pilk K (pe_ix (ixk K) (pv 0) pe_int (fun _ _ => rfl))) (blkOk_by (sc := defScope S_law_small_made) (N := N_law_small_made) (own := [("_law_mask", 2)]) (by decide +kernel)) (fun _ _ _ _ _ => (pg_name (i := 2) nd rfl (by first | exact .inl rfl | exact .inr rfl))) (fun _ _ _ _ _ => pts_nil) (fun _ _ _ _ _ => (pe_c (c_just_lot T) hr (by decide) rfl (pa_cons (pe_lc (own := [("_law_k", 4)]) rfl nd (pi_range1 rfl T.m_range (pa_cons pe_int pa_nil)) (blkOk_by (sc := relS _ (defScope S_law_small_made)) (N := N_law_small_made) (own := [("_law_k", 4)]) (by decide +kernel)) (fun _ _ _ _ _ => (pg_name (i := 4) nd rfl (by first | exact .inl rfl | exact .inr rfl))) (fun _ _ _ _ _ => pts_one (pt_cmpR (eqk K hr) (pe_op op_and (pe_op op_shr (pv 2) (pv 4)) pe_int) pe_int (nomark _))) (fun _ _ _ _ _ => (pv 4))) pa_nil))))
    (pss_one (ps_ret (pe_mk (mk_Book T) hr (by decide) rfl (pa_cons (pe_callTy (lstk K) rfl T.m_list (by decide +kernel) (pa_cons (pe_ix (ixk K) (pv 0) pe_int (fun _ _ => rfl)) pa_nil)) (pa_cons (pe_callTy (lstk K) rfl T.m_list (by decide +kernel) (pa_cons (pe_ix (ixk K) (pv 0) pe_int (fun _ _ => rfl)) pa_nil)) (pa_cons (pe_lc (own := [("_law_row", 3)]) rfl nd (pilk K (pe_ix (ixk K) (pv 0) pe_int (fun _ _ => rfl))) (blkOk_by (sc := defScope S_law_small_made) (N := N_law_small_made) (own := [("_law_row", 3)]) (by decide +kernel)) (fun _ _ _ _ _ => (pg_name (i := 3) nd rfl (by first | exact .inl rfl | exact .inr rfl))) (fun _ _ _ _ _ => pts_nil) (fun _ _ _ _ _ => (pe_callTy (lstk K) rfl T.m_list (by decide +kernel) (pa_cons (pv 3) pa_nil)))) (pa_cons (pv 1) (pa_cons (pe_lc (own := [("_law_row", 3)]) rfl nd (pilk K (pe_ix (ixk K) (pv 0) pe_int (fun _ _ => rfl))) (blkOk_by (sc := defScope S_law_small_made) (N := N_law_small_made) (own := [("_law_row", 3)]) (by decide +kernel)) (fun _ _ _ _ _ => (pg_name (i := 3) nd rfl (by first | exact .inl rfl | exact .inr rfl))) (fun _ _ _ _ _ => pts_nil) (fun _ _ _ _ _ => (pe_callTy (lstk K) rfl T.m_list (by decide +kernel) (pa_cons (pv 3) pa_nil)))) (pa_cons (pe_lc (own := [("_law_row", 3)]) rfl nd (pilk K (pe_ix (ixk K) (pv 0) pe_int (fun _ _ => rfl))) (blkOk_by (sc := defScope S_law_small_made) (N := N_law_small_made) (own := [("_law_row", 3)]) (by decide +kernel)) (fun _ _ _ _ _ => (pg_name (i := 3) nd rfl (by first | exact .inl rfl | exact .inr rfl))) (fun _ _ _ _ _ => pts_nil) (fun _ _ _ _ _ => (pe_callTy (lstk K) rfl T.m_list (by decide +kernel) (pa_cons (pv 3) pa_nil)))) (pa_cons (pe_lc (own := [("_law_row", 3)]) rfl nd (pilk K (pe_ix (ixk K) (pv 0) pe_int (fun _ _ => rfl))) (blkOk_by (sc := defScope S_law_small_made) (N := N_law_small_made) (own := [("_law_row", 3)]) (by decide +kernel)) (fun _ _ _ _ _ => (pg_name (i := 3) nd rfl (by first | exact .inl rfl | exact .inr rfl))) (fun _ _ _ _ _ => pts_nil) (fun _ _ _ _ _ => (pe_callTy (lstk K) rfl T.m_list (by decide +kernel) (pa_cons (pv 3) pa_nil)))) (pa_cons (pe_ix (ixk K) (pv 0) pe_int (fun _ _ => rfl)) pa_nil)))))))))))), ?_⟩
    have hV := hp
    obtain ⟨wf, alp, lat, msk, hde, hso, hno, hfi⟩ := hp
    obtain ⟨n2, n9, js, ms, le1, le4, te4, de, so, no, fi, okl, okt⟩ := wf
    have dl := de.len
    have sl := so.len
    have nl := no.len
    show DS _ [.val (eLB b), .any, .any, .any, .any] _
    refine ds_setS (dn_de (dn_lc2 (e := fun m => m) (eLm CL) (dw_list (de_op (dq_of (de_var rfl)) (dq_of de_int) (by walk_at "rk"))) (by walk_at "sz") (by decide) (fun x_mask hx_x_mask => by (try rw [mem_rgI] at hx_x_mask); exact (d_just_lotM (m := x_mask) (da_cons (dn_de (dn_lcf2 DV.int (dw_range1 (da_cons de_int da_nil) (by walk_at "si")) (by walk_at "sz") (by decide) (fun x_k hx_x_k => by (try rw [mem_rgI] at hx_x_k); exact (dt_test (de_op (dq_of (de_op (dq_of (de_op (dq_of (de_var rfl)) (dq_of (de_var rfl)) (ro_i (by walk_at "si")))) (dq_of de_int) ro_i0)) (dq_of de_int) (by walk_at "ro")))) (fun x_k hx_x_k hf_x_k => by (try rw [mem_rgI] at hx_x_k); exact (de_var rfl)))) da_nil) (msk.rng _ hx_x_mask))))) ?_
    exact ds_ret (d_mk_Book (da_cons (dn_de (dn_cb (db_cons (dq_of (de_op (dq_of (de_var rfl)) (dq_of de_int) (by walk_at "rk"))) db_nil) (by walk_at "rcn"))) (da_cons (dn_de (dn_cb (db_cons (dq_of (de_op (dq_of (de_var rfl)) (dq_of de_int) (by walk_at "rk"))) db_nil) (by walk_at "rcn"))) (da_cons (dn_de (dn_lc2 eIs (dw_list (de_op (dq_of (de_var rfl)) (dq_of de_int) (by walk_at "rk"))) (by walk_at "sz") (by decide) (fun x_row hx_x_row => by (try rw [mem_rgI] at hx_x_row); exact (dn_de (dn_cb (db_cons (dq_of (de_var rfl)) db_nil) (by walk_at "rcn")))))) (da_cons (de_var rfl) (da_cons (dn_de (dn_lc2 eIs (dw_list (de_op (dq_of (de_var rfl)) (dq_of de_int) (by walk_at "rk"))) (by walk_at "sz") (by decide) (fun x_row hx_x_row => by (try rw [mem_rgI] at hx_x_row); exact (dn_de (dn_cb (db_cons (dq_of (de_var rfl)) db_nil) (by walk_at "rcn")))))) (da_cons (dn_de (dn_lc2 eIs (dw_list (de_op (dq_of (de_var rfl)) (dq_of de_int) (by walk_at "rk"))) (by walk_at "sz") (by decide) (fun x_row hx_x_row => by (try rw [mem_rgI] at hx_x_row); exact (dn_de (dn_cb (db_cons (dq_of (de_var rfl)) db_nil) (by walk_at "rcn")))))) (da_cons (dn_de (dn_lc2 eIs (dw_list (de_op (dq_of (de_var rfl)) (dq_of de_int) (by walk_at "rk"))) (by walk_at "sz") (by decide) (fun x_row hx_x_row => by (try rw [mem_rgI] at hx_x_row); exact (dn_de (dn_cb (db_cons (dq_of (de_var rfl)) db_nil) (by walk_at "rcn")))))) (da_cons (de_op (dq_of (de_var rfl)) (dq_of de_int) (by walk_at "rk")) da_nil)))))))) (hV)              ) rfl

end
end DL
end

section
set_option Elab.async false
set_option linter.all false
set_option maxRecDepth 100000
set_option maxHeartbeats 4000000
namespace DL
open PySem PySem.Spec PyProof.Rows L2
open C8 (Cal pe_c Mak pe_mk)
local macro_rules | `(tactic| walk_at "si") => `(tactic| first
  | with_reducible assumption | omega | (simp only [rgI_len, List.length_map]; omega) | (simp only [decide_eq_true_eq, Bool.and_eq_true, Bool.not_eq_true', decide_eq_false_iff_not] at *; omega))
local macro_rules | `(tactic| walk_at "sz") => `(tactic| first
  | with_reducible assumption | omega | (simp only [rgI_len, List.length_map, List.length_append, List.length_cons, List.length_nil]; omega))
local macro_rules | `(tactic| walk_at "row") => `(tactic| first | with_reducible assumption | ((with_reducible refine Tbl.get (by with_reducible assumption) ?_); walk_at "wd") | exact row_mem (by with_reducible assumption) (by with_reducible assumption))
local macro_rules | `(tactic| walk_at "wd") => `(tactic| first | with_reducible assumption | omega | (constructor <;> omega) | ((with_reducible refine wd_get (by walk_at "row") ?_); walk_at "wd") | exact wd_mem (by with_reducible assumption) (by with_reducible assumption))
local macro_rules | `(tactic| walk_at "rk") => `(tactic| first
  | ((with_reducible apply ro_xL (by decide)); exact rfl) | ((with_reducible apply ro_xT (by decide)); exact rfl) | walk_at "ro")
local macro_rules | `(tactic| walk_at "ro") => `(tactic| first
  | with_reducible exact ro_b0 | with_reducible exact ro_l ro_eqI | with_reducible exact ro_l ro_neI | with_reducible exact ro_l ro_eqB | with_reducible exact ro_l ro_neB | with_reducible exact ro_l ro_eqS | with_reducible exact ro_l ro_neS
  | ((with_reducible refine ro_gLR (by with_reducible assumption) ?_); walk_at "wd") | ((with_reducible refine ro_gIR (by walk_at "row") ?_); walk_at "wd")
  | ((with_reducible refine ro_gI ?_ ?_) <;> walk_at "si") | ((with_reducible refine ro_gL ?_ ?_) <;> walk_at "si") | ((with_reducible refine ro_gIT ?_ ?_) <;> walk_at "si")
  | with_reducible exact ro_gG (by with_reducible assumption) | ((with_reducible refine ro_gT ?_ ?_) <;> walk_at "si")
  | ((with_reducible refine ro_gB ?_ ?_) <;> walk_at "si")
  | ((with_reducible refine ro_gS ?_ ?_) <;> walk_at "si") | ((with_reducible refine ro_gST ?_ ?_) <;> walk_at "si")
  | ((with_reducible refine ro_xM ?_ ?_) <;> walk_at "si") | ((with_reducible refine ro_xTM ?_ ?_) <;> walk_at "si")
  | ((with_reducible apply ro_xL (by decide)); exact rfl) | ((with_reducible apply ro_xT (by decide)); exact rfl)
  | with_reducible exact ro_eqIs | with_reducible exact ro_l ro_inL | with_reducible exact ro_l ro_niL | with_reducible exact ro_l ro_inT | with_reducible exact ro_l ro_inS | with_reducible exact ro_isNN | with_reducible exact ro_notNN | with_reducible exact ro_isNI | with_reducible exact ro_notNI)
local macro_rules | `(tactic| walk_at "rc") => `(tactic| with_reducible first
  | exact rc_lenM | exact rc_lenTM | exact rc_lenL' | exact rc_lenT' | exact rc_ii _ | exact rc_ib _ | exact rc_ss _ | exact rc_tt _ | exact rc_ltl _ | exact rc_ltt _ | exact rc_int | exact rc_abs | exact rc_max2 | exact rc_min2 | exact rc_all | exact rc_sum | exact rc_tupL' | exact rc_tupT' | exact rc_range1)
local macro_rules | `(tactic| walk_at "rcn") => `(tactic| with_reducible first
  | exact rcn_listL' | exact rcn_listT' | exact rcn_sortP)
local macro_rules | `(tactic| walk_at "pre") => `(tactic| first | with_reducible assumption | exact trivial | (refine And.intro ?_ ?_ <;> walk_at "pre") | walk_at "wd" | walk_at "si")
local macro_rules | `(tactic| walk_at "cmod") => `(tactic| (show (0 : Int) < _; first | decide | walk_at "si"))
local macro_rules | `(tactic| walk_at "cd") => `(tactic| (refine And.intro ?_ ?_ <;> walk_at "si"))
local macro_rules | `(tactic| walk_at "cp") => `(tactic| exact ⟨by decide, by decide, by decide⟩)
local macro_rules | `(tactic| walk_at "cm") => `(tactic| first | (refine Or.inl (And.intro ?_ ?_) <;> omega) | (refine Or.inr (And.intro ?_ ?_) <;> omega))
local macro_rules | `(tactic| walk_at "wk") => `(tactic| (repeat (first | exact Wk.nil | exact Wk.refl _ | refine Wk.same ?_ | refine Wk.frz ?_ | refine Wk.drop ?_)))
section
variable {P : PySem.Program} {w : World} {K : PySem.W.Frag} {mg : Str → Option Value} {base : Heap} {CL CB : Addr} (T : Txt K mg CL CB)
include T
local macro_rules | `(tactic| walk_at "ro") => `(tactic| first
  | ((with_reducible refine ro_gLt (by with_reducible assumption) ?_); walk_at "wd") | ((with_reducible refine ro_gIt (by walk_at "row") ?_); walk_at "wd"))
omit T in
theorem gS_inj {l : List Sy} (h : l.Nodup) {i j : Nat} (hi : i < l.length) (hj : j < l.length) (e : gS l (i : Int) = gS l (j : Int)) : i = j := by
  rw [gS_at (List.getElem?_eq_getElem hi), gS_at (List.getElem?_eq_getElem hj)] at e
  exact (List.getElem?_inj hi h).mp (by rw [List.getElem?_eq_getElem hi, List.getElem?_eq_getElem hj, e])
abbrev S_join_two : Stmt := top 64
abbrev N_join_two : List Str := ["book", "one", "other"]
omit T in
theorem sc_join_two : FnScope N_join_two ["book", "one", "other"] (defScope S_join_two) := ⟨rfl, rfl, rfl, by decide +kernel, rfl, by decide +kernel, by decide +kernel⟩
def sp_join_two (CL CB : Addr) : Sp := spD (α := LB × Int × Int) (fun ⟨b, x, y⟩ => [eBook CL CB b, .int x, .int y]) (fun ⟨b, x, y⟩ => WF b ∧ wd b.js.length x ∧ wd b.js.length y) (fun ⟨b, x, y⟩ => .int (gI (gL b.js x) y))
omit T in
theorem d_join_two {ρ : List Sl} {t : TA} {E : XK} {b : LB} {x y : Int} (h : DA t ρ [eBook CL CB b, .int x, .int y]) (hp : WF b ∧ wd b.js.length x ∧ wd b.js.length y) : DE (tCall (sp_join_two CL CB) [] E t) ρ (.int (gI (gL b.js x) y)) := de_call (α := LB × Int × Int) (enc := fun ⟨b, x, y⟩ => [eBook CL CB b, .int x, .int y]) (pre := fun ⟨b, x, y⟩ => WF b ∧ wd b.js.length x ∧ wd b.js.length y) (val := fun ⟨b, x, y⟩ => .int (gI (gL b.js x) y)) ⟨b, x, y⟩ h rfl hp
theorem c_join_two : Cal P w K mg base 1 "join_two" (sp_join_two CL CB) [] :=
  cal_def (α := LB × Int × Int) (enc := fun ⟨b, x, y⟩ => [eBook CL CB b, .int x, .int y]) (pre := fun ⟨b, x, y⟩ => WF b ∧ wd b.js.length x ∧ wd b.js.length y) (val := fun ⟨b, x, y⟩ => .int (gI (gL b.js x) y)) T.f_join_two sc_join_two (fun ⟨b, x, y⟩ => rfl) (fun _ _ _ _ _ _ us hl => match us, hl with | [_, _, _], _ => rfl) fun f cdv A outer s H E hr ⟨b, x, y⟩ hp => by
    (try dsimp only at hp)
    have nd := sc_join_two.nd
    refine ⟨_, (pss_one (ps_ret (pe_ix (ixk K) (pe_ix (ixk K) (fldk K (pv 0) rfl) (pv 1) (fun _ _ => rfl)) (pv 2) (fun _ _ => rfl)))), ?_⟩
    obtain ⟨hb, hx, hy⟩ := hp
    have js := hb.js
    show DS _ [.val (eBook CL CB b), .val (.int x), .val (.int y)] _
    exact ds_ret (de_op (dq_of (de_op (dq_of (de_fld T.cls_Book T.no_Book_joins (de_var rfl) rfl)) (dq_of (de_var rfl)) (by walk_at "ro"))) (dq_of (de_var rfl)) (by walk_at "ro")) rfl
abbrev S_letter_place : Stmt := top 65
abbrev N_letter_place : List Str := ["book", "letter", "at"]
omit T in
theorem sc_letter_place : FnScope N_letter_place ["book", "letter"] (defScope S_letter_place) := ⟨rfl, rfl, rfl, by decide +kernel, rfl, by decide +kernel, by decide +kernel⟩
def sp_letter_place (CL CB : Addr) : Sp := spD (α := LB × Nat) (fun ⟨b, k⟩ => [eBook CL CB b, eSy (gS b.le (k : Int))]) (fun ⟨b, k⟩ => WF b ∧ b.le.Nodup ∧ k < b.le.length) (fun ⟨b, k⟩ => .int (k : Int))
omit T in
theorem d_letter_place {ρ : List Sl} {t : TA} {E : XK} {b : LB} {k : Nat} (h : DA t ρ [eBook CL CB b, eSy (gS b.le (k : Int))]) (hp : WF b ∧ b.le.Nodup ∧ k < b.le.length) : DE (tCall (sp_letter_place CL CB) [] E t) ρ (.int (k : Int)) := de_call (α := LB × Nat) (enc := fun ⟨b, k⟩ => [eBook CL CB b, eSy (gS b.le (k : Int))]) (pre := fun ⟨b, k⟩ => WF b ∧ b.le.Nodup ∧ k < b.le.length) (val := fun ⟨b, k⟩ => .int (k : Int)) ⟨b, k⟩ h rfl hp
theorem c_letter_place : Cal P w K mg base 1 "letter_place" (sp_letter_place CL CB) [] :=
  cal_def (α := LB × Nat) (enc := fun ⟨b, k⟩ => [eBook CL CB b, eSy (gS b.le (k : Int))]) (pre := fun ⟨b, k⟩ => WF b ∧ b.le.Nodup ∧ k < b.le.length) (val := fun ⟨b, k⟩ => .int (k : Int)) T.f_letter_place sc_letter_place (fun ⟨b, k⟩ => rfl) (fun _ _ _ _ _ _ us hl => match us, hl with | [_, _], _ => rfl) fun f cdv A outer s H E hr ⟨b, k⟩ hp => by
    (try dsimp only at hp)
    have nd := sc_letter_place.nd
    refine ⟨_, (pss_cons (ps_for PassesOwn.never rfl (pi_range1 rfl T.m_range (pa_cons (pe_callB (lenk K) rfl T.m_len (by decide +kernel) (pa_cons (fldk K (pv 0) rfl) pa_nil)) pa_nil)) (pg_name (i := 2) nd rfl (.inl rfl))
    (pss_one (ps_if (pt_cmpR (eqk K hr) (pe_ix (ixk K) (fldk K (pv 0) rfl) (pv 2) (fun _ _ => rfl)) (pv 1) (nomark _)) (pss_one (ps_ret (pv 2))) pss_nil)))
    (pss_one (ps_never))), ?_⟩
    obtain ⟨hb, hd, hk⟩ := hp
    have l4 := hb.le4
    show DS _ [.val (eBook CL CB b), .val (eSy (gS b.le (k : Int))), .any] _
    refine ds_seq (ds_for (rgI 0 b.le.length) DV.int (fun n ρ => n ≤ k ∧ ρ = [.val (eBook CL CB b), .val (eSy (gS b.le (k : Int))), .any]) (dw_rangeN (da_cons (de_cb (db_cons (dq_of (de_fld T.cls_Book T.no_Book_letters (de_var rfl) rfl)) db_nil) (by walk_at "rc")) da_nil) (by walk_at "si")) ⟨_, by walk_at "wk", Nat.zero_le _, rfl⟩ (fun n x ρ hx hJ => ?_) fun ρ hJ => ?_)
    · obtain ⟨hn, rfl⟩ := hJ
      obtain ⟨rfl, hn2⟩ := rgI_get hx
      rw [Int.zero_add]
      have o1 := hb.okl _ (gS_mem (l := b.le) (i := (n : Int)) (by omega) (by omega))
      have o2 := hb.okl _ (gS_mem (l := b.le) (i := (k : Int)) (by omega) (by omega))
      refine ⟨_, _, dg_name, ?_⟩
      show DS _ [.val (eBook CL CB b), .val (eSy (gS b.le (k : Int))), .val (.int (n : Int))] _
      refine ds_if (dt_test (de_op (dq_of (de_op (dq_of (de_fld T.cls_Book T.no_Book_letters (de_var rfl) rfl)) (dq_of (de_var rfl)) (ro_gST (by omega) (by omega)))) (dq_of (de_var rfl)) (ro_eqSy o1 o2)  )) (fun h => ds_ret (de_var rfl) ?_) fun h => ds_next ⟨_, by walk_at "wk", ?_, rfl⟩
      · have := gS_inj hd hn2 hk (of_decide_eq_true h)
        rw [this]
      · have := of_decide_eq_false h
        have : n ≠ k := fun z => this (by rw [z])
        omega
    · have := hJ.1
      rw [rgI_len] at this
      omega
abbrev S_test_place : Stmt := top 66
abbrev N_test_place : List Str := ["book", "test", "at"]
omit T in
theorem sc_test_place : FnScope N_test_place ["book", "test"] (defScope S_test_place) := ⟨rfl, rfl, rfl, by decide +kernel, rfl, by decide +kernel, by decide +kernel⟩
def sp_test_place (CL CB : Addr) : Sp := spD (α := LB × Nat) (fun ⟨b, k⟩ => [eBook CL CB b, eSy (gS b.te (k : Int))]) (fun ⟨b, k⟩ => WF b ∧ b.te.Nodup ∧ k < b.te.length) (fun ⟨b, k⟩ => .int (k : Int))
omit T in
theorem d_test_place {ρ : List Sl} {t : TA} {E : XK} {b : LB} {k : Nat} (h : DA t ρ [eBook CL CB b, eSy (gS b.te (k : Int))]) (hp : WF b ∧ b.te.Nodup ∧ k < b.te.length) : DE (tCall (sp_test_place CL CB) [] E t) ρ (.int (k : Int)) := de_call (α := LB × Nat) (enc := fun ⟨b, k⟩ => [eBook CL CB b, eSy (gS b.te (k : Int))]) (pre := fun ⟨b, k⟩ => WF b ∧ b.te.Nodup ∧ k < b.te.length) (val := fun ⟨b, k⟩ => .int (k : Int)) ⟨b, k⟩ h rfl hp
theorem c_test_place : Cal P w K mg base 1 "test_place" (sp_test_place CL CB) [] :=
  cal_def (α := LB × Nat) (enc := fun ⟨b, k⟩ => [eBook CL CB b, eSy (gS b.te (k : Int))]) (pre := fun ⟨b, k⟩ => WF b ∧ b.te.Nodup ∧ k < b.te.length) (val := fun ⟨b, k⟩ => .int (k : Int)) T.f_test_place sc_test_place (fun ⟨b, k⟩ => rfl) (fun _ _ _ _ _ _ us hl => match us, hl with | [_, _], _ => rfl) fun f cdv A outer s H E hr ⟨b, k⟩ hp => by
    (try dsimp only at hp)
    have nd := sc_test_place.nd
    refine ⟨_, (pss_cons (ps_for PassesOwn.never rfl (pi_range1 rfl T.m_range (pa_cons (pe_callB (lenk K) rfl T.m_len (by decide +kernel) (pa_cons (fldk K (pv 0) rfl) pa_nil)) pa_nil)) (pg_name (i := 2) nd rfl (.inl rfl))
    (pss_one (ps_if (pt_cmpR (eqk K hr) (pe_ix (ixk K) (fldk K (pv 0) rfl) (pv 2) (fun _ _ => rfl)) (pv 1) (nomark _)) (pss_one (ps_ret (pv 2))) pss_nil)))
    (pss_one (ps_never))), ?_⟩
    obtain ⟨hb, hd, hk⟩ := hp
    have l4 := hb.te4
    show DS _ [.val (eBook CL CB b), .val (eSy (gS b.te (k : Int))), .any] _
    refine ds_seq (ds_for (rgI 0 b.te.length) DV.int (fun n ρ => n ≤ k ∧ ρ = [.val (eBook CL CB b), .val (eSy (gS b.te (k : Int))), .any]) (dw_rangeN (da_cons (de_cb (db_cons (dq_of (de_fld T.cls_Book T.no_Book_tests (de_var rfl) rfl)) db_nil) (by walk_at "rc")) da_nil) (by walk_at "si")) ⟨_, by walk_at "wk", Nat.zero_le _, rfl⟩ (fun n x ρ hx hJ => ?_) fun ρ hJ => ?_)
    · obtain ⟨hn, rfl⟩ := hJ
      obtain ⟨rfl, hn2⟩ := rgI_get hx
      rw [Int.zero_add]
      have o1 := hb.okt _ (gS_mem (l := b.te) (i := (n : Int)) (by omega) (by omega))
      have o2 := hb.okt _ (gS_mem (l := b.te) (i := (k : Int)) (by omega) (by omega))
      refine ⟨_, _, dg_name, ?_⟩
      show DS _ [.val (eBook CL CB b), .val (eSy (gS b.te (k : Int))), .val (.int (n : Int))] _
      refine ds_if (dt_test (de_op (dq_of (de_op (dq_of (de_fld T.cls_Book T.no_Book_tests (de_var rfl) rfl)) (dq_of (de_var rfl)) (ro_gST (by omega) (by omega)))) (dq_of (de_var rfl)) (ro_eqSy o1 o2)  )) (fun h => ds_ret (de_var rfl) ?_) fun h => ds_next ⟨_, by walk_at "wk", ?_, rfl⟩
      · have := gS_inj hd hn2 hk (of_decide_eq_true h)
        rw [this]
      · have := of_decide_eq_false h
        have : n ≠ k := fun z => this (by rw [z])
        omega
    · have := hJ.1
      rw [rgI_len] at this
      omega
abbrev S_deed_word : Stmt := top 67
abbrev N_deed_word : List Str := ["book", "letter", "word"]
omit T in
theorem sc_deed_word : FnScope N_deed_word ["book", "letter", "word"] (defScope S_deed_word) := ⟨rfl, rfl, rfl, by decide +kernel, rfl, by decide +kernel, by decide +kernel⟩
def sp_deed_word (CL CB : Addr) : Sp := spD (α := LB × Nat × Int) (fun ⟨b, k, x⟩ => [eBook CL CB b, eSy (gS b.le (k : Int)), .int x]) (fun ⟨b, k, x⟩ => WF b ∧ b.le.Nodup ∧ k < b.le.length ∧ wd b.js.length x) (fun ⟨b, k, x⟩ => .int (gI (gL b.de (k : Int)) x))
omit T in
theorem d_deed_word {ρ : List Sl} {t : TA} {E : XK} {b : LB} {k : Nat} {x : Int} (h : DA t ρ [eBook CL CB b, eSy (gS b.le (k : Int)), .int x]) (hp : WF b ∧ b.le.Nodup ∧ k < b.le.length ∧ wd b.js.length x) : DE (tCall (sp_deed_word CL CB) [] E t) ρ (.int (gI (gL b.de (k : Int)) x)) := de_call (α := LB × Nat × Int) (enc := fun ⟨b, k, x⟩ => [eBook CL CB b, eSy (gS b.le (k : Int)), .int x]) (pre := fun ⟨b, k, x⟩ => WF b ∧ b.le.Nodup ∧ k < b.le.length ∧ wd b.js.length x) (val := fun ⟨b, k, x⟩ => .int (gI (gL b.de (k : Int)) x)) ⟨b, k, x⟩ h rfl hp
theorem c_deed_word : Cal P w K mg base 2 "deed_word" (sp_deed_word CL CB) [] :=
  cal_def (α := LB × Nat × Int) (enc := fun ⟨b, k, x⟩ => [eBook CL CB b, eSy (gS b.le (k : Int)), .int x]) (pre := fun ⟨b, k, x⟩ => WF b ∧ b.le.Nodup ∧ k < b.le.length ∧ wd b.js.length x) (val := fun ⟨b, k, x⟩ => .int (gI (gL b.de (k : Int)) x)) T.f_deed_word sc_deed_word (fun ⟨b, k, x⟩ => rfl) (fun _ _ _ _ _ _ us hl => match us, hl with | [_, _, _], _ => rfl) fun f cdv A outer s H E hr ⟨b, k, x⟩ hp => by
    (try dsimp only at hp)
    have nd := sc_deed_word.nd
    refine ⟨_, (pss_one (ps_ret (pe_ix (ixk K) (pe_ix (ixk K) (fldk K (pv 0) rfl) (pe_c (c_letter_place T) hr (by decide) rfl (pa_cons (pv 0) (pa_cons (pv 1) pa_nil))) (fun _ _ => rfl)) (pv 2) (fun _ _ => rfl)))), ?_⟩
    obtain ⟨hb, hd, hk, hx⟩ := hp
    have de := hb.de
    show DS _ [.val (eBook CL CB b), .val (eSy (gS b.le (k : Int))), .val (.int x)] _
    exact ds_ret (de_op (dq_of (de_op (dq_of (de_fld T.cls_Book T.no_Book_deeds (de_var rfl) rfl)) (dq_of (d_letter_place (da_cons (de_var rfl) (da_cons (de_var rfl) da_nil)) (⟨hb, hd, hk⟩)    )) (ro_gLt de (by omega)))) (dq_of (de_var rfl)) (ro_gIt (de.get (by omega)) hx)) rfl
abbrev S_test_word : Stmt := top 68
abbrev N_test_word : List Str := ["book", "test", "holds", "word", "at"]
omit T in
theorem sc_test_word : FnScope N_test_word ["book", "test", "holds", "word"] (defScope S_test_word) := ⟨rfl, rfl, rfl, by decide +kernel, rfl, by decide +kernel, by decide +kernel⟩
def sp_test_word (CL CB : Addr) : Sp := spD (α := LB × Nat × Bool × Int) (fun ⟨b, k, q, x⟩ => [eBook CL CB b, eSy (gS b.te (k : Int)), .bl q, .int x]) (fun ⟨b, k, q, x⟩ => WF b ∧ b.te.Nodup ∧ k < b.te.length ∧ wd b.js.length x) (fun ⟨b, k, q, x⟩ => .int (gI (gL (cond q b.so b.no) (k : Int)) x))
omit T in
theorem d_test_word {ρ : List Sl} {t : TA} {E : XK} {b : LB} {k : Nat} {q : Bool} {x : Int} (h : DA t ρ [eBook CL CB b, eSy (gS b.te (k : Int)), .bl q, .int x]) (hp : WF b ∧ b.te.Nodup ∧ k < b.te.length ∧ wd b.js.length x) : DE (tCall (sp_test_word CL CB) [] E t) ρ (.int (gI (gL (cond q b.so b.no) (k : Int)) x)) := de_call (α := LB × Nat × Bool × Int) (enc := fun ⟨b, k, q, x⟩ => [eBook CL CB b, eSy (gS b.te (k : Int)), .bl q, .int x]) (pre := fun ⟨b, k, q, x⟩ => WF b ∧ b.te.Nodup ∧ k < b.te.length ∧ wd b.js.length x) (val := fun ⟨b, k, q, x⟩ => .int (gI (gL (cond q b.so b.no) (k : Int)) x)) ⟨b, k, q, x⟩ h rfl hp
theorem c_test_word : Cal P w K mg base 2 "test_word" (sp_test_word CL CB) [] :=
  cal_def (α := LB × Nat × Bool × Int) (enc := fun ⟨b, k, q, x⟩ => [eBook CL CB b, eSy (gS b.te (k : Int)), .bl q, .int x]) (pre := fun ⟨b, k, q, x⟩ => WF b ∧ b.te.Nodup ∧ k < b.te.length ∧ wd b.js.length x) (val := fun ⟨b, k, q, x⟩ => .int (gI (gL (cond q b.so b.no) (k : Int)) x)) T.f_test_word sc_test_word (fun ⟨b, k, q, x⟩ => rfl) (fun _ _ _ _ _ _ us hl => match us, hl with | [_, _, _, _], _ => rfl) fun f cdv A outer s H E hr ⟨b, k, q, x⟩ hp => by
    (try dsimp only at hp)
    have nd := sc_test_word.nd
    refine ⟨_, (pss_cons (ps_set (i := 4) nd rfl (.inl rfl) (pe_c (c_test_place T) hr (by decide) rfl (pa_cons (pv 0) (pa_cons (pv 1) pa_nil))))
    (pss_cons (ps_if (pt_val (pv 2)) (pss_one (ps_ret (pe_ix (ixk K) (pe_ix (ixk K) (fldk K (pv 0) rfl) (pv 4) (fun _ _ => rfl)) (pv 3) (fun _ _ => rfl)))) pss_nil)
    (pss_one (ps_ret (pe_ix (ixk K) (pe_ix (ixk K) (fldk K (pv 0) rfl) (pv 4) (fun _ _ => rfl)) (pv 3) (fun _ _ => rfl)))))), ?_⟩
    obtain ⟨hb, hd, hk, hx⟩ := hp
    have so := hb.so
    have no := hb.no
    show DS _ [.val (eBook CL CB b), .val (eSy (gS b.te (k : Int))), .val (.bl q), .val (.int x), .any] _
    refine ds_setS (d_test_place (da_cons (de_var rfl) (da_cons (de_var rfl) da_nil)) (⟨hb, hd, hk⟩)    ) ?_
    refine ds_seq (ds_if (dt_B (de_var rfl)) (fun hh => ?_) fun hh => ds_next ?_)
    · subst hh
      exact ds_ret (de_op (dq_of (de_op (dq_of (de_fld T.cls_Book T.no_Book_so (de_var rfl) rfl)) (dq_of (de_var rfl)) (ro_gLt so (by omega)))) (dq_of (de_var rfl)) (ro_gIt (so.get (by omega)) hx)) rfl
    · subst hh
      exact ds_ret (de_op (dq_of (de_op (dq_of (de_fld T.cls_Book T.no_Book_not_so (de_var rfl) rfl)) (dq_of (de_var rfl)) (ro_gLt no (by omega)))) (dq_of (de_var rfl)) (ro_gIt (no.get (by omega)) hx)) rfl
abbrev Sk : Type := Str × Sy
abbrev eSk (s : Sk) : DV := .tup [.str s.1, eSy s.2]
/-- a step of a book, with its row -/
inductive StpOf (b : LB) : St → Prop
  | deed (k : Nat) (h : k < b.le.length) : StpOf b (("deed", gS b.le (k : Int)), gL b.de (k : Int))
  | so (k : Nat) (h : k < b.te.length) : StpOf b (("so", gS b.te (k : Int)), gL b.so (k : Int))
  | no (k : Nat) (h : k < b.te.length) : StpOf b (("not", gS b.te (k : Int)), gL b.no (k : Int))
abbrev S_step_word : Stmt := top 69
abbrev N_step_word : List Str := ["book", "step", "word"]
omit T in
theorem sc_step_word : FnScope N_step_word ["book", "step", "word"] (defScope S_step_word) := ⟨rfl, rfl, rfl, by decide +kernel, rfl, by decide +kernel, by decide +kernel⟩
def sp_step_word (CL CB : Addr) : Sp := spD (α := LB × St × Int) (fun ⟨b, s, x⟩ => [eBook CL CB b, eSk s.1, .int x]) (fun ⟨b, s, x⟩ => WF b ∧ b.le.Nodup ∧ b.te.Nodup ∧ StpOf b s ∧ wd b.js.length x) (fun ⟨b, s, x⟩ => .int (gI s.2 x))
omit T in
theorem d_step_word {ρ : List Sl} {t : TA} {E : XK} {b : LB} {s : St} {x : Int} (h : DA t ρ [eBook CL CB b, eSk s.1, .int x]) (hp : WF b ∧ b.le.Nodup ∧ b.te.Nodup ∧ StpOf b s ∧ wd b.js.length x) : DE (tCall (sp_step_word CL CB) [] E t) ρ (.int (gI s.2 x)) := de_call (α := LB × St × Int) (enc := fun ⟨b, s, x⟩ => [eBook CL CB b, eSk s.1, .int x]) (pre := fun ⟨b, s, x⟩ => WF b ∧ b.le.Nodup ∧ b.te.Nodup ∧ StpOf b s ∧ wd b.js.length x) (val := fun ⟨b, s, x⟩ => .int (gI s.2 x)) ⟨b, s, x⟩ h rfl hp
theorem c_step_word : Cal P w K mg base 3 "step_word" (sp_step_word CL CB) [] :=
  cal_def (α := LB × St × Int) (enc := fun ⟨b, s, x⟩ => [eBook CL CB b, eSk s.1, .int x]) (pre := fun ⟨b, s, x⟩ => WF b ∧ b.le.Nodup ∧ b.te.Nodup ∧ StpOf b s ∧ wd b.js.length x) (val := fun ⟨b, s, x⟩ => .int (gI s.2 x)) T.f_step_word sc_step_word (fun ⟨b, s, x⟩ => rfl) (fun _ _ _ _ _ _ us hl => match us, hl with | [_, _, _], _ => rfl) fun f cdv A outer s H E hr ⟨b, s, x⟩ hp => by
    (try dsimp only at hp)
    have nd := sc_step_word.nd
    refine ⟨_, (pss_cons (ps_if (pt_cmpR (eqk K hr) (pe_ix (ixk K) (pv 1) pe_int (fun _ _ => rfl)) pe_str (nomark _)) (pss_one (ps_ret (pe_c (c_deed_word T) hr (by decide) rfl (pa_cons (pv 0) (pa_cons (pe_ix (ixk K) (pv 1) pe_int (fun _ _ => rfl)) (pa_cons (pv 2) pa_nil)))))) pss_nil)
    (pss_cons (ps_if (pt_cmpR (eqk K hr) (pe_ix (ixk K) (pv 1) pe_int (fun _ _ => rfl)) pe_str (nomark _)) (pss_one (ps_ret (pe_c (c_test_word T) hr (by decide) rfl (pa_cons (pv 0) (pa_cons (pe_ix (ixk K) (pv 1) pe_int (fun _ _ => rfl)) (pa_cons pe_bl (pa_cons (pv 2) pa_nil))))))) pss_nil)
    (pss_cons (ps_if (pt_cmpR (eqk K hr) (pe_ix (ixk K) (pv 1) pe_int (fun _ _ => rfl)) pe_str (nomark _)) (pss_one (ps_ret (pe_c (c_test_word T) hr (by decide) rfl (pa_cons (pv 0) (pa_cons (pe_ix (ixk K) (pv 1) pe_int (fun _ _ => rfl)) (pa_cons pe_bl (pa_cons (pv 2) pa_nil))))))) pss_nil)
    (pss_cons (ps_if (pt_cmpR (eqk K hr) (pe_ix (ixk K) (pv 1) pe_int (fun _ _ => rfl)) pe_str (nomark _)) (pss_one (ps_ret (pe_ix (ixk K) (pe_ix (ixk K) (fldk K (pv 0) rfl) (pv 2) (fun _ _ => rfl)) (pe_ix (ixk K) (pv 1) pe_int (fun _ _ => rfl)) (fun _ _ => rfl)))) pss_nil)
    (pss_one (ps_ret (pv 2))))))), ?_⟩
    obtain ⟨hb, hd, ht, hs, hx⟩ := hp
    cases hs with
    | deed k hk =>
      show DS _ [.val (eBook CL CB b), .val (.tup [.str "deed", eSy (gS b.le (k : Int))]), .val (.int x)] _
      exact ds_ifTS (dt_test (de_op (dq_of (de_op (dq_of (de_var rfl)) (dq_of de_int) (by walk_at "rk"))) (dq_of de_str) (by walk_at "ro"))) (by decide +kernel) (ds_seq (ds_ret (d_deed_word (da_cons (de_var rfl) (da_cons (de_op (dq_of (de_var rfl)) (dq_of de_int) (by walk_at "rk")) (da_cons (de_var rfl) da_nil))) (⟨hb, hd, hk, hx⟩)) rfl))
    | so k hk =>
      show DS _ [.val (eBook CL CB b), .val (.tup [.str "so", eSy (gS b.te (k : Int))]), .val (.int x)] _
      refine ds_ifFS (dt_test (de_op (dq_of (de_op (dq_of (de_var rfl)) (dq_of de_int) (by walk_at "rk"))) (dq_of de_str) (by walk_at "ro"))) (by decide +kernel) ?_
      exact ds_ifTS (dt_test (de_op (dq_of (de_op (dq_of (de_var rfl)) (dq_of de_int) (by walk_at "rk"))) (dq_of de_str) (by walk_at "ro"))) (by decide +kernel) (ds_seq (ds_ret (d_test_word (da_cons (de_var rfl) (da_cons (de_op (dq_of (de_var rfl)) (dq_of de_int) (by walk_at "rk")) (da_cons de_bl (da_cons (de_var rfl) da_nil)))) (⟨hb, ht, hk, hx⟩)) rfl))
    | no k hk =>
      show DS _ [.val (eBook CL CB b), .val (.tup [.str "not", eSy (gS b.te (k : Int))]), .val (.int x)] _
      refine ds_ifFS (dt_test (de_op (dq_of (de_op (dq_of (de_var rfl)) (dq_of de_int) (by walk_at "rk"))) (dq_of de_str) (by walk_at "ro"))) (by decide +kernel) ?_
      refine ds_ifFS (dt_test (de_op (dq_of (de_op (dq_of (de_var rfl)) (dq_of de_int) (by walk_at "rk"))) (dq_of de_str) (by walk_at "ro"))) (by decide +kernel) ?_
      exact ds_ifTS (dt_test (de_op (dq_of (de_op (dq_of (de_var rfl)) (dq_of de_int) (by walk_at "rk"))) (dq_of de_str) (by walk_at "ro"))) (by decide +kernel) (ds_seq (ds_ret (d_test_word (da_cons (de_var rfl) (da_cons (de_op (dq_of (de_var rfl)) (dq_of de_int) (by walk_at "rk")) (da_cons de_bl (da_cons (de_var rfl) da_nil)))) (⟨hb, ht, hk, hx⟩)) rfl))
omit T in
theorem Pl.sysT {l : List Sy} (h : ∀ s ∈ l, okS s) : Pl 2 (.tup (l.map eSy)) := .tup 1 _ fun d hd => by
  obtain ⟨s, hs, rfl⟩ := List.mem_map.mp hd
  exact .sy (h s hs)
omit T in
theorem sysT_inj {a b : List Sy} : a = b ↔ DV.tup (a.map eSy) = .tup (b.map eSy) := by
  constructor
  · intro h; rw [h]
  · intro h
    injection h with h
    exact (List.map_inj_right (fun x y h => eSy_inj.mpr h)).mp h
omit T in
theorem ro_neSysT {K : PySem.W.Frag} {r : R2} {a b : List Sy} (ha : ∀ s ∈ a, okS s) (hb : ∀ s ∈ b, okS s) : RO (fun x y H Q => r x y H Q ∨ rNeD K x y H Q) (.tup (a.map eSy)) (.tup (b.map eSy)) (.bl (!decide (a = b))) := ro_r (ro_neD (n := 2) (by decide) (.sysT ha) (.sysT hb) (by rw [decide_eq_true_iff]; exact sysT_inj))
abbrev S_check_same_alphabet : Stmt := top 72
abbrev N_check_same_alphabet : List Str := ["one", "other"]
omit T in
theorem sc_check_same_alphabet : FnScope N_check_same_alphabet ["one", "other"] (defScope S_check_same_alphabet) := ⟨rfl, rfl, rfl, by decide +kernel, rfl, by decide +kernel, by decide +kernel⟩
def sp_check_same_alphabet (CL CB : Addr) : Sp := spD (α := LB × LB) (fun ⟨a, b⟩ => [eBook CL CB a, eBook CL CB b]) (fun ⟨a, b⟩ => WF a ∧ WF b ∧ a.le = b.le ∧ a.te = b.te) (fun ⟨a, b⟩ => .non)
omit T in
theorem d_check_same_alphabet {ρ : List Sl} {t : TA} {E : XK} {a b : LB} (h : DA t ρ [eBook CL CB a, eBook CL CB b]) (hp : WF a ∧ WF b ∧ a.le = b.le ∧ a.te = b.te) : DE (tCall (sp_check_same_alphabet CL CB) [] E t) ρ (.non) := de_call (α := LB × LB) (enc := fun ⟨a, b⟩ => [eBook CL CB a, eBook CL CB b]) (pre := fun ⟨a, b⟩ => WF a ∧ WF b ∧ a.le = b.le ∧ a.te = b.te) (val := fun ⟨a, b⟩ => .non) ⟨a, b⟩ h rfl hp
theorem c_check_same_alphabet : Cal P w K mg base 1 "check_same_alphabet" (sp_check_same_alphabet CL CB) [] :=
  cal_def (α := LB × LB) (enc := fun ⟨a, b⟩ => [eBook CL CB a, eBook CL CB b]) (pre := fun ⟨a, b⟩ => WF a ∧ WF b ∧ a.le = b.le ∧ a.te = b.te) (val := fun ⟨a, b⟩ => .non) T.f_check_same_alphabet sc_check_same_alphabet (fun ⟨a, b⟩ => rfl) (fun _ _ _ _ _ _ us hl => match us, hl with | [_, _], _ => rfl) fun f cdv A outer s H E hr ⟨a, b⟩ hp => by
    (try dsimp only at hp)
    have nd := sc_check_same_alphabet.nd
    refine ⟨_, (pss_one (ps_if (PW.pt (pw_or (pt_cmpR (nek K hr) (fldk K (pv 0) rfl) (fldk K (pv 1) rfl) (nomark _)) (pw_or1 (pt_cmpR (nek K hr) (fldk K (pv 0) rfl) (fldk K (pv 1) rfl) (nomark _))))) (pss_one (ps_never)) pss_nil)), ?_⟩
    obtain ⟨ha, hb, h1, h2⟩ := hp
    show DS _ [.val (eBook CL CB a), .val (eBook CL CB b)] _
    exact ds_ifF' (dt_or (dt_test (de_op (dq_of (de_fld T.cls_Book T.no_Book_letters (de_var rfl) rfl)) (dq_of (de_fld T.cls_Book T.no_Book_letters (de_var rfl) rfl)) (ro_neSysT ha.okl hb.okl))) (fun _ => (dt_test (de_op (dq_of (de_fld T.cls_Book T.no_Book_tests (de_var rfl) rfl)) (dq_of (de_fld T.cls_Book T.no_Book_tests (de_var rfl) rfl)) (ro_neSysT ha.okt hb.okt))))) (by rw [decide_eq_true h1, decide_eq_true h2]; rfl) (ds_next rfl)
def v_stk (b : LB) : List Sk := b.te.foldl (fun acc t => acc ++ [(("so" : Str), t)] ++ [(("not" : Str), t)]) (b.le.map fun s => (("deed" : Str), s))
abbrev S_steps_of_book : Stmt := top 73
abbrev N_steps_of_book : List Str := ["book", "steps", "test", "letter"]
omit T in
theorem sc_steps_of_book : FnScope N_steps_of_book ["book"] (defScope S_steps_of_book) := ⟨rfl, rfl, rfl, by decide +kernel, rfl, by decide +kernel, by decide +kernel⟩
def sp_steps_of_book (CL CB : Addr) : Sp := spD (α := LB) (fun b => [eBook CL CB b]) (fun b => WF b) (fun b => .tup ((v_stk b).map eSk))
omit T in
theorem d_steps_of_book {ρ : List Sl} {t : TA} {E : XK} {b : LB} (h : DA t ρ [eBook CL CB b]) (hp : WF b) : DE (tCall (sp_steps_of_book CL CB) [] E t) ρ (.tup ((v_stk b).map eSk)) := de_call (α := LB) (enc := fun b => [eBook CL CB b]) (pre := fun b => WF b) (val := fun b => .tup ((v_stk b).map eSk)) b h rfl hp
theorem c_steps_of_book : Cal P w K mg base 1 "steps_of_book" (sp_steps_of_book CL CB) [] :=
  cal_def (α := LB) (enc := fun b => [eBook CL CB b]) (pre := fun b => WF b) (val := fun b => .tup ((v_stk b).map eSk)) T.f_steps_of_book sc_steps_of_book (fun b => rfl) (fun _ _ _ _ _ _ us hl => match us, hl with | [_], _ => rfl) fun f cdv A outer s H E hr b hp => by
    (try dsimp only at hp)
    have nd := sc_steps_of_book.nd
    refine ⟨_, (pss_cons (ps_setLc (i := 1) (own := [("letter", 3)]) rfl nd rfl rfl (sw_true rfl rfl rfl (by decide +kernel)) (pitk K (fldk K (pv 0) rfl)) (blkOk_by (sc := defScope S_steps_of_book) (N := N_steps_of_book) (own := [("letter", 3)]) (by decide +kernel)) (fun _ _ _ _ _ => (pg_name (i := 3) nd rfl (by first | exact .inl rfl | exact .inr rfl))) (fun _ _ _ _ _ => pts_nil) (fun _ _ _ _ _ => (pe_tup (pa_cons pe_str (pa_cons (pv 3) pa_nil)))))
    (pss_cons (ps_for PassesOwn.never rfl (pitk K (fldk K (pv 0) rfl)) (pg_name (i := 2) nd rfl (.inl rfl))
    (pss_cons (ps_expr (bmk K PySem.F.plainAttrs_list PySem.F.slot_list_append PySem.F.type_list_append mt_append (pv 1) (pa_cons (pe_tup (pa_cons pe_str (pa_cons (pv 2) pa_nil))) pa_nil)))
    (pss_one (ps_expr (bmk K PySem.F.plainAttrs_list PySem.F.slot_list_append PySem.F.type_list_append mt_append (pv 1) (pa_cons (pe_tup (pa_cons pe_str (pa_cons (pv 2) pa_nil))) pa_nil))))))
    (pss_one (ps_ret (pe_callTy (tupk K) rfl T.m_tuple (by decide +kernel) (pa_cons (pv 1) pa_nil)))))), ?_⟩
    have l4 := hp.le4
    have t4 := hp.te4
    show DS _ [.val (eBook CL CB b), .any, .any, .any] _
    refine ds_setNS (ds := (b.le.map fun s => (("deed" : Str), s)).map eSk) (dn_lc2 (e := fun s => ("deed", s)) eSk (dw_tup (de_fld T.cls_Book T.no_Book_letters (de_var rfl) rfl)) (by walk_at "sz") (by decide) (fun x_letter hx_x_letter => by (try rw [mem_rgI] at hx_x_letter); exact (de_tup (da_cons de_str (da_cons (de_var rfl) da_nil)) (Nat.le_of_ble_eq_true rfl)))) ?_
    refine ds_seq (ds_fold (xs := b.te) (enc := eSy) (fun acc => [.val (eBook CL CB b), .mu none (.lst (acc.map eSk)), .any, .any]) (fun acc t => acc ++ [(("so" : Str), t)] ++ [(("not" : Str), t)]) (b.le.map fun s => (("deed" : Str), s)) (fun n acc => acc.length ≤ 4 + 2 * n) (dw_tup (de_fld T.cls_Book T.no_Book_tests (de_var rfl) rfl)) (by walk_at "wk") (by rw [List.length_map]; omega) (fun n acc t ht hl => ?_) fun hl => ?_)
    · have hn := getElem?_lt ht
      show DS _ [.val (eBook CL CB b), .mu none (.lst (acc.map eSk)), .val (eSy t), .any] _
      refine ds_appMS (enc := eSk) (x := (("so" : Str), t)) rfl (de_tup (da_cons de_str (da_cons (de_var rfl) da_nil)) (Nat.le_of_ble_eq_true rfl)) (by omega) ?_
      refine ds_appM (enc := eSk) (x := (("not" : Str), t)) rfl (de_tup (da_cons de_str (da_cons (de_var rfl) da_nil)) (Nat.le_of_ble_eq_true rfl)) (by rw [List.length_append, List.length_singleton]; omega) ⟨by walk_at "wk", ?_⟩
      rw [List.length_append, List.length_append, List.length_singleton, List.length_singleton]
      omega
    · refine ds_wk (ρ' := [.any, .val (.lst ((v_stk b).map eSk)), .any, .any]) (by walk_at "wk") ?_
      exact ds_ret (de_cb (db_cons (by first | exact dq_of (de_var rfl) | exact dq_own rfl) db_nil) (by walk_at "rc")) rfl

end
end DL
end

section
set_option Elab.async false
set_option linter.all false
set_option maxRecDepth 100000
set_option maxHeartbeats 4000000
namespace DL
open PySem PySem.Spec PyProof.Rows L2
open C8 (Cal pe_c Mak pe_mk)
local macro_rules | `(tactic| walk_at "si") => `(tactic| first
  | with_reducible assumption | omega | (simp only [rgI_len, List.length_map]; omega) | (simp only [decide_eq_true_eq, Bool.and_eq_true, Bool.not_eq_true', decide_eq_false_iff_not] at *; omega))
local macro_rules | `(tactic| walk_at "sz") => `(tactic| first
  | with_reducible assumption | omega | (simp only [rgI_len, List.length_map, List.length_append, List.length_cons, List.length_nil]; omega))
local macro_rules | `(tactic| walk_at "row") => `(tactic| first | with_reducible assumption | ((with_reducible refine Tbl.get (by with_reducible assumption) ?_); walk_at "wd") | exact row_mem (by with_reducible assumption) (by with_reducible assumption))
local macro_rules | `(tactic| walk_at "wd") => `(tactic| first | with_reducible assumption | omega | (constructor <;> omega) | ((with_reducible refine wd_get (by walk_at "row") ?_); walk_at "wd") | exact wd_mem (by with_reducible assumption) (by with_reducible assumption))
local macro_rules | `(tactic| walk_at "rk") => `(tactic| first
  | ((with_reducible apply ro_xL (by decide)); exact rfl) | ((with_reducible apply ro_xT (by decide)); exact rfl) | walk_at "ro")
local macro_rules | `(tactic| walk_at "ro") => `(tactic| first
  | with_reducible exact ro_b0 | with_reducible exact ro_l ro_eqI | with_reducible exact ro_l ro_neI | with_reducible exact ro_l ro_eqB | with_reducible exact ro_l ro_neB | with_reducible exact ro_l ro_eqS | with_reducible exact ro_l ro_neS
  | ((with_reducible refine ro_gLR (by with_reducible assumption) ?_); walk_at "wd") | ((with_reducible refine ro_gIR (by walk_at "row") ?_); walk_at "wd")
  | ((with_reducible refine ro_gI ?_ ?_) <;> walk_at "si") | ((with_reducible refine ro_gL ?_ ?_) <;> walk_at "si") | ((with_reducible refine ro_gIT ?_ ?_) <;> walk_at "si")
  | with_reducible exact ro_gG (by with_reducible assumption) | ((with_reducible refine ro_gT ?_ ?_) <;> walk_at "si")
  | ((with_reducible refine ro_gB ?_ ?_) <;> walk_at "si")
  | ((with_reducible refine ro_gS ?_ ?_) <;> walk_at "si") | ((with_reducible refine ro_gST ?_ ?_) <;> walk_at "si")
  | ((with_reducible refine ro_xM ?_ ?_) <;> walk_at "si") | ((with_reducible refine ro_xTM ?_ ?_) <;> walk_at "si")
  | ((with_reducible apply ro_xL (by decide)); exact rfl) | ((with_reducible apply ro_xT (by decide)); exact rfl)
  | with_reducible exact ro_eqIs | with_reducible exact ro_l ro_inL | with_reducible exact ro_l ro_niL | with_reducible exact ro_l ro_inT | with_reducible exact ro_l ro_inS | with_reducible exact ro_isNN | with_reducible exact ro_notNN | with_reducible exact ro_isNI | with_reducible exact ro_notNI)
local macro_rules | `(tactic| walk_at "rc") => `(tactic| with_reducible first
  | exact rc_lenM | exact rc_lenTM | exact rc_lenL' | exact rc_lenT' | exact rc_ii _ | exact rc_ib _ | exact rc_ss _ | exact rc_tt _ | exact rc_ltl _ | exact rc_ltt _ | exact rc_int | exact rc_abs | exact rc_max2 | exact rc_min2 | exact rc_all | exact rc_sum | exact rc_tupL' | exact rc_tupT' | exact rc_range1)
local macro_rules | `(tactic| walk_at "rcn") => `(tactic| with_reducible first
  | exact rcn_listL' | exact rcn_listT' | exact rcn_sortP)
local macro_rules | `(tactic| walk_at "pre") => `(tactic| first | with_reducible assumption | exact trivial | (refine And.intro ?_ ?_ <;> walk_at "pre") | walk_at "wd" | walk_at "si")
local macro_rules | `(tactic| walk_at "cmod") => `(tactic| (show (0 : Int) < _; first | decide | walk_at "si"))
local macro_rules | `(tactic| walk_at "cd") => `(tactic| (refine And.intro ?_ ?_ <;> walk_at "si"))
local macro_rules | `(tactic| walk_at "cp") => `(tactic| exact ⟨by decide, by decide, by decide⟩)
local macro_rules | `(tactic| walk_at "cm") => `(tactic| first | (refine Or.inl (And.intro ?_ ?_) <;> omega) | (refine Or.inr (And.intro ?_ ?_) <;> omega))
local macro_rules | `(tactic| walk_at "wk") => `(tactic| (repeat (first | exact Wk.nil | exact Wk.refl _ | refine Wk.same ?_ | refine Wk.frz ?_ | refine Wk.drop ?_)))
section
variable {P : PySem.Program} {w : World} {K : PySem.W.Frag} {mg : Str → Option Value} {base : Heap} {CL CB : Addr} (T : Txt K mg CL CB)
include T
local macro_rules | `(tactic| walk_at "ro") => `(tactic| first
  | ((with_reducible refine ro_gLt (by with_reducible assumption) ?_); walk_at "wd") | ((with_reducible refine ro_gIt (by walk_at "row") ?_); walk_at "wd"))
def v_put (ls : List Ln) (w p : Int) (y : DV) : List Ln := cond (!decide ((w, p) = ((0, 0) : Int × Int)) && !hasN (keyL ls) (kP (w, p))) (ls ++ [(w, p, y)]) ls
omit T in
theorem hasN_false {κ : Type} [DecidableEq κ] {ks : List κ} {n : κ} (h : hasN ks n = false) : putN ks n = ks ++ [n] := by
  unfold hasN at h
  unfold putN
  rw [if_neg (of_decide_eq_false h)]
omit T in
theorem keyL_app (ls : List Ln) (w p : Int) (y : DV) : keyL (ls ++ [(w, p, y)]) = keyL ls ++ [kP (w, p)] := by
  show ((ls ++ [(w, p, y)]).map _).map kP = _
  rw [List.map_append, List.map_append]; rfl
abbrev S_put_line : Stmt := top 75
abbrev N_put_line : List Str := ["lines", "met", "word", "partner", "why", "couple"]
omit T in
theorem sc_put_line : FnScope N_put_line ["lines", "met", "word", "partner", "why"] (defScope S_put_line) := ⟨rfl, rfl, rfl, by decide +kernel, rfl, by decide +kernel, by decide +kernel⟩
def sp_put_line : Sp := spL (α := List Ln × Int × Int × DV) (fun _ => []) (fun ⟨ls, w, p, y⟩ => [.int w, .int p, y]) (fun ⟨ls, w, p, y⟩ => ls) (fun ⟨ls, w, p, y⟩ => v_put ls w p y) (fun ⟨ls, w, p, y⟩ => ls.length ≤ 1000)
theorem c_put_line : Cal P w K mg base 1 "put_line" sp_put_line [] :=
  cal_defL (α := List Ln × Int × Int × DV) (e1 := fun _ => []) (e2 := fun ⟨ls, w, p, y⟩ => [.int w, .int p, y]) (ls := fun ⟨ls, w, p, y⟩ => ls) (ls' := fun ⟨ls, w, p, y⟩ => v_put ls w p y) (pre := fun ⟨ls, w, p, y⟩ => ls.length ≤ 1000) (n1 := 0) T.f_put_line sc_put_line (fun _ => rfl) (fun ⟨ls, w, p, y⟩ => rfl) (fun _ _ _ _ _ _ us hl => match us, hl with | [_, _, _, _, _], _ => rfl) fun f cdv A outer s H E hr ⟨ls, w, p, y⟩ hp aL aM => by
    (try dsimp only at hp)
    have nd := sc_put_line.nd
    refine ⟨_, (pss_cons (ps_set (i := 5) nd rfl (.inl rfl) (pe_tup (pa_cons (pv 2) (pa_cons (pv 3) pa_nil))))
    (pss_one (ps_if (PW.pt (pw_and (pt_cmpR (nek K hr) (pv 5) (pe_tup (pa_cons pe_int (pa_cons pe_int pa_nil))) (nomark _)) (pw_and1 (pt_cmp (pc_dnotin (hu_of hr) (pv 5) (pv 1)) rfl)))) (pss_cons (ps_dput (hu_of hr) (pv 1) (pv 5) pe_bl rfl)
    (pss_one (ps_expr (bmk K PySem.F.plainAttrs_list PySem.F.slot_list_append PySem.F.type_list_append mt_append (pv 0) (pa_cons (pe_tup (pa_cons (pv 2) (pa_cons (pv 3) (pa_cons (pv 4) pa_nil)))) pa_nil))))) pss_nil))), ?_⟩
    show DS _ [mL (some aL) ls, mK (some aM) ls, .val (.int w), .val (.int p), .val y, .any] _
    refine ds_setS (d := ePr (w, p)) (de_tup (da_cons (de_var rfl) (da_cons (de_var rfl) da_nil)) (Nat.le_of_ble_eq_true rfl)) ?_
    refine ds_if (dt_and (dt_test (de_op (dq_of (de_var rfl)) (dq_of (de_tup (da_cons de_int (da_cons de_int da_nil)) (Nat.le_of_ble_eq_true rfl))) (ro_nePr (p := (w, p)) (q := (0, 0))))) (fun _ => (dt_B (de_dniT rfl (de_var rfl))))) (fun hb => ?_) fun hb => ds_next ?_
    · have hb2 : v_put ls w p y = ls ++ [(w, p, y)] := by unfold v_put; rw [show (!decide ((w, p) = ((0, 0) : Int × Int)) && !hasN (keyL ls) (kP (w, p))) = true from hb]; rfl
      rw [Bool.and_eq_true, Bool.not_eq_true', Bool.not_eq_true'] at hb
      refine ds_seq (ds_dputT (kk := keyL ls) (a := w) (b := p) rfl de_bl (de_var rfl) (by rw [List.length_map, List.length_map]; omega) ?_)
      rw [show putN (keyL ls) [Sum.inl w, Sum.inl p] = keyL (ls ++ [(w, p, y)]) by rw [keyL_app]; exact hasN_false hb.2]
      refine ds_appM (enc := eLn) (xs := ls) (x := (w, p, y)) rfl (de_tup (da_cons (de_var rfl) (da_cons (de_var rfl) (da_cons (de_var rfl) da_nil))) (Nat.le_of_ble_eq_true rfl)) (by omega) ⟨?_, ?_⟩
      · show _ = some (mL (some aL) (v_put ls w p y)); rw [hb2]; rfl
      · show _ = some (mK (some aM) (v_put ls w p y)); rw [hb2]; rfl
    · have hb2 : v_put ls w p y = ls := by unfold v_put; rw [show (!decide ((w, p) = ((0, 0) : Int × Int)) && !hasN (keyL ls) (kP (w, p))) = false from hb]; rfl
      exact ⟨by show _ = some (mL (some aL) (v_put ls w p y)); rw [hb2]; rfl, by show _ = some (mK (some aM) (v_put ls w p y)); rw [hb2]; rfl⟩
def gN (ls : List Ln) (i : Int) : Ln := ls.getD i.toNat default
omit T in
theorem ro_gN {K : PySem.W.Frag} {ls : List Ln} {i : Int} (h0 : 0 ≤ i) (h : i < ls.length) : RO (rIx K) (.lst (ls.map eLn)) (.int i) (eLn (gN ls i)) := ro_xM h0 (by omega)
abbrev whyN (k a : Int) : DV := .tup [.str "none", .int k, .int a]
def v_kill (ls : List Ln) (a k : Int) : List Ln := cond (decide ((gN ls k).1 = 0)) (v_put ls 0 (gN ls a).2.1 (whyN k a)) (cond (decide ((gN ls k).2.1 = 0)) (v_put ls (gN ls a).1 0 (whyN k a)) ls)
omit T in
theorem no2 {a b : Option Addr} {ls : List Ln} {ρ : List Sl} (h : ∀ (k : Nat) (o : Option Addr) (m : Mu), ρ[k]? ≠ some (Sl.mu o m)) : ∀ (k : Nat) (o : Option Addr) (m : Mu), (mL a ls :: mK b ls :: ρ)[k]? = some (.mu o m) → k = 0 ∨ k = 1 := fun k o m hk => by
  match k, hk with
  | 0, _ => exact .inl rfl
  | 1, _ => exact .inr rfl
  | k + 2, hk => exact absurd hk (h k o m)
omit T in
theorem noMu_nil : ∀ (k : Nat) (o : Option Addr) (m : Mu), ([] : List Sl)[k]? ≠ some (Sl.mu o m) := fun k o m h => by cases h
omit T in
theorem noMu_val {d : DV} {ρ : List Sl} (h : ∀ (k : Nat) (o : Option Addr) (m : Mu), ρ[k]? ≠ some (Sl.mu o m)) : ∀ (k : Nat) (o : Option Addr) (m : Mu), (Sl.val d :: ρ)[k]? ≠ some (Sl.mu o m) := fun k o m hk => by
  cases k with
  | zero => cases hk
  | succ k => exact h k o m hk
omit T in
theorem noMu_any {ρ : List Sl} (h : ∀ (k : Nat) (o : Option Addr) (m : Mu), ρ[k]? ≠ some (Sl.mu o m)) : ∀ (k : Nat) (o : Option Addr) (m : Mu), (Sl.any :: ρ)[k]? ≠ some (Sl.mu o m) := fun k o m hk => by
  cases k with
  | zero => cases hk
  | succ k => exact h k o m hk
local macro_rules | `(tactic| walk_at "nomu") => `(tactic| (repeat (first | exact noMu_nil | refine noMu_val ?_ | refine noMu_any ?_)))
abbrev S_put_killed : Stmt := top 76
abbrev N_put_killed : List Str := ["lines", "met", "at", "with_none", "word", "partner", "_"]
omit T in
theorem sc_put_killed : FnScope N_put_killed ["lines", "met", "at", "with_none"] (defScope S_put_killed) := ⟨rfl, rfl, rfl, by decide +kernel, rfl, by decide +kernel, by decide +kernel⟩
def sp_put_killed : Sp := spL (α := List Ln × Int × Int) (fun _ => []) (fun ⟨ls, a, k⟩ => [.int a, .int k]) (fun ⟨ls, a, k⟩ => ls) (fun ⟨ls, a, k⟩ => v_kill ls a k) (fun ⟨ls, a, k⟩ => ls.length ≤ 1000 ∧ (0 ≤ a ∧ a < ls.length) ∧ 0 ≤ k ∧ k < ls.length)
theorem c_put_killed : Cal P w K mg base 2 "put_killed" sp_put_killed [] :=
  cal_defL (α := List Ln × Int × Int) (e1 := fun _ => []) (e2 := fun ⟨ls, a, k⟩ => [.int a, .int k]) (ls := fun ⟨ls, a, k⟩ => ls) (ls' := fun ⟨ls, a, k⟩ => v_kill ls a k) (pre := fun ⟨ls, a, k⟩ => ls.length ≤ 1000 ∧ (0 ≤ a ∧ a < ls.length) ∧ 0 ≤ k ∧ k < ls.length) (n1 := 0) T.f_put_killed sc_put_killed (fun _ => rfl) (fun ⟨ls, a, k⟩ => rfl) (fun _ _ _ _ _ _ us hl => match us, hl with | [_, _, _, _], _ => rfl) fun f cdv A outer s H E hr ⟨ls, a, k⟩ hp aL aM => by
    (try dsimp only at hp)
    have nd := sc_put_killed.nd
    refine ⟨_, (pss_cons (ps_asg (pe_ix (ixk K) (pv 0) (pv 3) (fun _ _ => rfl)) (pgtk (n := 3) K rfl (pgs_cons (pg_name (i := 4) nd rfl (.inl rfl)) (pgs_cons (pg_name (i := 5) nd rfl (.inl rfl)) (pgs_cons (pg_name (i := 6) nd rfl (.inl rfl)) pgs_nil)))))
    (pss_one (ps_if (pt_cmpR (eqk K hr) (pv 4) pe_int (nomark _)) (pss_one (ps_expr (pe_c (c_put_line T) hr (by decide) rfl (pa_cons (pv 0) (pa_cons (pv 1) (pa_cons pe_int (pa_cons (pe_ix (ixk K) (pe_ix (ixk K) (pv 0) (pv 2) (fun _ _ => rfl)) pe_int (fun _ _ => rfl)) (pa_cons (pe_tup (pa_cons pe_str (pa_cons (pv 3) (pa_cons (pv 2) pa_nil)))) pa_nil)))))))) (pss_one (ps_if (pt_cmpR (eqk K hr) (pv 5) pe_int (nomark _)) (pss_one (ps_expr (pe_c (c_put_line T) hr (by decide) rfl (pa_cons (pv 0) (pa_cons (pv 1) (pa_cons (pe_ix (ixk K) (pe_ix (ixk K) (pv 0) (pv 2) (fun _ _ => rfl)) pe_int (fun _ _ => rfl)) (pa_cons pe_int (pa_cons (pe_tup (pa_cons pe_str (pa_cons (pv 3) (pa_cons (pv 2) pa_nil)))) pa_nil)))))))) pss_nil))))), ?_⟩
    obtain ⟨h1, ⟨h2, h3⟩, h4, h5⟩ := hp
    show DS _ [mL (some aL) ls, mK (some aM) ls, .val (.int a), .val (.int k), .any, .any, .any] _
    refine ds_seq (ds_asg (de_op (by first | exact dq_of (de_var rfl) | exact dq_own rfl) (dq_of (de_var rfl)) (ro_gN (by omega) (by omega))) (dg_tup rfl (dgs_cons dg_name (dgs_cons dg_name (dgs_cons dg_name dgs_nil)))) ?_)
    show DS _ [mL (some aL) ls, mK (some aM) ls, .val (.int a), .val (.int k), .val (.int (gN ls k).1), .val (.int (gN ls k).2.1), .val (gN ls k).2.2] _
    have e0 : v_kill ls a k = cond (decide ((gN ls k).1 = 0)) (v_put ls 0 (gN ls a).2.1 (whyN k a)) (cond (decide ((gN ls k).2.1 = 0)) (v_put ls (gN ls a).1 0 (whyN k a)) ls) := rfl
    refine ds_if (dt_test (de_op (dq_of (de_var rfl)) (dq_of de_int) (by walk_at "ro"))) (fun hb => ?_) fun hb => ds_if (dt_test (de_op (dq_of (de_var rfl)) (dq_of de_int) (by walk_at "ro"))) (fun hb2 => ?_) fun hb2 => ds_next ?_
    · rw [hb] at e0
      refine ds_call0 (α := List Ln × Int × Int × DV) (ls, 0, (gN ls a).2.1, whyN k a) rfl rfl (by decide) (no2 (by walk_at "nomu")) (da_cons de_int (da_cons (de_op (dq_of (de_op (by first | exact dq_of (de_var rfl) | exact dq_own rfl) (dq_of (de_var rfl)) (ro_gN (by omega) (by omega)))) (dq_of de_int) (by walk_at "rk")) (da_cons (de_tup (da_cons de_str (da_cons (de_var rfl) (da_cons (de_var rfl) da_nil))) (Nat.le_of_ble_eq_true rfl)) da_nil))) h1 ⟨?_, ?_⟩
      · show _ = some (mL (some aL) (v_kill ls a k)); rw [e0]; rfl
      · show _ = some (mK (some aM) (v_kill ls a k)); rw [e0]; rfl
    · rw [hb, hb2] at e0
      refine ds_call0 (α := List Ln × Int × Int × DV) (ls, (gN ls a).1, 0, whyN k a) rfl rfl (by decide) (no2 (by walk_at "nomu")) (da_cons (de_op (dq_of (de_op (by first | exact dq_of (de_var rfl) | exact dq_own rfl) (dq_of (de_var rfl)) (ro_gN (by omega) (by omega)))) (dq_of de_int) (by walk_at "rk")) (da_cons de_int (da_cons (de_tup (da_cons de_str (da_cons (de_var rfl) (da_cons (de_var rfl) da_nil))) (Nat.le_of_ble_eq_true rfl)) da_nil))) h1 ⟨?_, ?_⟩
      · show _ = some (mL (some aL) (v_kill ls a k)); rw [e0]; rfl
      · show _ = some (mK (some aM) (v_kill ls a k)); rw [e0]; rfl
    · rw [hb, hb2] at e0
      exact ⟨by show _ = some (mL (some aL) (v_kill ls a k)); rw [e0]; rfl, by show _ = some (mK (some aM) (v_kill ls a k)); rw [e0]; rfl⟩

end
end DL
end

section
set_option Elab.async false
set_option linter.all false
set_option maxRecDepth 100000
set_option maxHeartbeats 4000000
namespace DL
open PySem PySem.Spec PyProof.Rows L2
/-! ### steps of two books with one alphabet -/
theorem foldl_app2 {α β : Type} (f g : α → β) : ∀ (xs : List α) (b : List β), xs.foldl (fun acc x => acc ++ [f x] ++ [g x]) b = b ++ xs.flatMap fun x => [f x, g x]
  | [], b => by simp
  | x :: xs, b => by rw [List.foldl_cons, foldl_app2 f g xs, List.flatMap_cons, List.append_assoc, List.append_assoc]; rfl
def sD (b : LB) (k : Int) : St := (("deed", gS b.le k), gL b.de k)
def sS (b : LB) (k : Int) : St := (("so", gS b.te k), gL b.so k)
def sN (b : LB) (k : Int) : St := (("not", gS b.te k), gL b.no k)
theorem steps_eq (b : LB) : v_steps b = (rgI 0 b.le.length).map (sD b) ++ (rgI 0 b.te.length).flatMap fun k => [sS b k, sN b k] := foldl_app2 (sS b) (sN b) _ _
theorem gS_list (l : List Sy) : (rgI 0 l.length).map (gS l) = l := by
  apply List.ext_getElem?
  intro i
  by_cases hi : i < l.length
  · have : (rgI 0 l.length)[i]? = some (i : Int) := by
      unfold rgI
      rw [List.getElem?_map, List.getElem?_range hi]
      simp
    rw [List.getElem?_map, this, List.getElem?_eq_getElem hi]
    show some (gS l (i : Int)) = _
    rw [gS_at (List.getElem?_eq_getElem hi)]
  · rw [List.getElem?_eq_none (by rw [List.length_map, rgI_len]; omega), List.getElem?_eq_none (by omega)]
theorem stk_eq (b : LB) : v_stk b = (v_steps b).map (·.1) := by
  rw [steps_eq, v_stk, foldl_app2, List.map_append, List.map_map, List.map_flatMap]
  congr 1
  · have := congrArg (List.map fun s => (("deed" : Str), s)) (gS_list b.le)
    rw [List.map_map] at this
    exact this.symm
  · have := congrArg (List.flatMap fun t => [(("so" : Str), t), (("not" : Str), t)]) (gS_list b.te)
    rw [List.flatMap_map] at this
    exact this.symm
def zs (a b : LB) : List (St × St) := (rgI 0 a.le.length).map (fun k => (sD a k, sD b k)) ++ (rgI 0 a.te.length).flatMap fun k => [(sS a k, sS b k), (sN a k, sN b k)]
structure Same (a b : LB) : Prop where
  wa : WF a
  wb : WF b
  le : a.le = b.le
  te : a.te = b.te
  nl : a.le.Nodup
  nt : a.te.Nodup
theorem zs_fst {a b : LB} : (zs a b).map (·.1) = v_steps a := by
  rw [steps_eq, zs, List.map_append, List.map_map, List.map_flatMap]; rfl
theorem zs_snd {a b : LB} (h : Same a b) : (zs a b).map (·.2) = v_steps b := by
  rw [steps_eq, zs, List.map_append, List.map_map, List.map_flatMap, h.le, h.te]; rfl
theorem zs_of {a b : LB} (h : Same a b) : ∀ q ∈ zs a b, StpOf a q.1 ∧ StpOf b q.2 ∧ q.1.1 = q.2.1 := fun q hq => by
  have hk : ∀ {n : Nat} {k : Int}, k ∈ rgI 0 n → ∃ m : Nat, k = (m : Int) ∧ m < n := fun {n k} hk => by
    have := mem_rgI.mp hk
    exact ⟨k.toNat, by omega, by omega⟩
  unfold zs at hq
  rcases List.mem_append.mp hq with hq | hq
  · obtain ⟨k, hk', rfl⟩ := List.mem_map.mp hq
    obtain ⟨m, rfl, hm⟩ := hk hk'
    refine ⟨.deed m hm, .deed m (by rw [← h.le]; exact hm), ?_⟩
    show (("deed" : Str), gS a.le (m : Int)) = (("deed" : Str), gS b.le (m : Int))
    rw [h.le]
  · obtain ⟨k, hk', hq⟩ := List.mem_flatMap.mp hq
    obtain ⟨m, rfl, hm⟩ := hk hk'
    rcases List.mem_cons.mp hq with rfl | hq
    · refine ⟨.so m hm, .so m (by rw [← h.te]; exact hm), ?_⟩
      show (("so" : Str), gS a.te (m : Int)) = (("so" : Str), gS b.te (m : Int))
      rw [h.te]
    · rw [List.mem_singleton.mp hq]
      refine ⟨.no m hm, .no m (by rw [← h.te]; exact hm), ?_⟩
      show (("not" : Str), gS a.te (m : Int)) = (("not" : Str), gS b.te (m : Int))
      rw [h.te]
theorem StpOf.row {b : LB} (hb : WF b) {s : St} (h : StpOf b s) : Row b.js.length b.js.length s.2 := by
  cases h with
  | deed k hk => exact hb.de.get (by omega)
  | so k hk => exact hb.so.get (by omega)
  | no k hk => exact hb.no.get (by omega)
/-! ### lines that are kept -/
structure LI (n m : Nat) (ls : List Ln) : Prop where
  wds : ∀ l ∈ ls, wd n l.1 ∧ wd m l.2.1
  nd : (prL ls).Nodup
  nz : ((0, 0) : Int × Int) ∉ prL ls
def allP (n m : Nat) : List (Int × Int) := (rgI 0 n).flatMap fun x => (rgI 0 m).map fun y => (x, y)
theorem flatMap_len {α β : Type} {f : α → List β} {c : Nat} (hf : ∀ x, (f x).length = c) : ∀ xs : List α, (xs.flatMap f).length = xs.length * c
  | [] => by simp
  | x :: xs => by rw [List.flatMap_cons, List.length_append, hf, flatMap_len hf xs, List.length_cons, Nat.add_mul]; omega
theorem allP_len (n m : Nat) : (allP n m).length = n * m := by
  unfold allP
  rw [flatMap_len (c := m) fun x => by rw [List.length_map, rgI_len], rgI_len]
theorem LI.len {n m : Nat} {ls : List Ln} (h : LI n m ls) : ls.length ≤ n * m := by
  have := List.Nodup.length_le_of_subset h.nd (l₂ := allP n m) fun p hp => by
    obtain ⟨l, hl, rfl⟩ := List.mem_map.mp hp
    obtain ⟨h1, h2⟩ := h.wds l hl
    exact List.mem_flatMap.mpr ⟨l.1, wd_rg.mp h1, List.mem_map.mpr ⟨l.2.1, wd_rg.mp h2, rfl⟩⟩
  rw [List.length_map, allP_len] at this
  exact this
theorem LI.len81 {n m : Nat} {ls : List Ln} (h : LI n m ls) (hn : n ≤ 9) (hm : m ≤ 9) : ls.length ≤ 81 := by
  have h1 := h.len
  have : n * m ≤ 9 * 9 := Nat.mul_le_mul hn hm
  omega
theorem kP_inj {p q : Int × Int} (h : kP p = kP q) : p = q := by
  injection h with h1 h2
  injection h2 with h2 _
  injection h1 with h1
  injection h2 with h2
  exact Prod.ext h1 h2
theorem has_key (ls : List Ln) (p : Int × Int) : hasN (keyL ls) (kP p) = decide (p ∈ prL ls) := by
  unfold hasN
  apply decide_eq_decide.mpr
  show kP p ∈ (prL ls).map kP ↔ _
  rw [List.mem_map]
  constructor
  · rintro ⟨q, hq, e⟩; rw [← kP_inj e]; exact hq
  · intro h; exact ⟨p, h, rfl⟩
theorem put_cases (ls : List Ln) (w p : Int) (y : DV) : (v_put ls w p y = ls ∧ ((w, p) = ((0, 0) : Int × Int) ∨ (w, p) ∈ prL ls)) ∨ (v_put ls w p y = ls ++ [(w, p, y)] ∧ (w, p) ≠ ((0, 0) : Int × Int) ∧ (w, p) ∉ prL ls) := by
  unfold v_put
  rw [has_key]
  by_cases h1 : (w, p) = ((0, 0) : Int × Int)
  · rw [decide_eq_true h1]; exact .inl ⟨rfl, .inl h1⟩
  · by_cases h2 : (w, p) ∈ prL ls
    · rw [decide_eq_false h1, decide_eq_true h2]; exact .inl ⟨rfl, .inr h2⟩
    · rw [decide_eq_false h1, decide_eq_false h2]; exact .inr ⟨rfl, h1, h2⟩
theorem LI.put {n m : Nat} {ls : List Ln} (h : LI n m ls) {w p : Int} {y : DV} (hw : wd n w) (hp : wd m p) : LI n m (v_put ls w p y) := by
  rcases put_cases ls w p y with ⟨e, _⟩ | ⟨e, h1, h2⟩
  · rw [e]; exact h
  · rw [e]
    refine ⟨fun l hl => ?_, ?_, ?_⟩
    · rcases List.mem_append.mp hl with hl | hl
      · exact h.wds l hl
      · rw [List.mem_singleton.mp hl]; exact ⟨hw, hp⟩
    · show ((ls ++ [(w, p, y)]).map fun l => (l.1, l.2.1)).Nodup
      rw [List.map_append, List.nodup_append]
      refine ⟨h.nd, by simp, fun a ha b hb e => h2 ?_⟩
      have hb : b = (w, p) := List.mem_singleton.mp hb
      rw [hb] at e
      rw [← e]; exact ha
    · show (0, 0) ∉ (ls ++ [(w, p, y)]).map fun l => (l.1, l.2.1)
      rw [List.map_append]
      intro hm
      rcases List.mem_append.mp hm with hm | hm
      · exact h.nz hm
      · exact h1 (List.mem_singleton.mp hm).symm
theorem gN_mem {ls : List Ln} {i : Int} (h0 : 0 ≤ i) (h : i < ls.length) : gN ls i ∈ ls := getD_mem (by omega)
theorem LI.kill {n m : Nat} {ls : List Ln} (h : LI n m ls) {a k : Int} (ha : 0 ≤ a ∧ a < ls.length) (hn : 0 < n) (hm : 0 < m) : LI n m (v_kill ls a k) := by
  obtain ⟨h1, h2⟩ := h.wds _ (gN_mem ha.1 ha.2)
  unfold v_kill
  cases decide ((gN ls k).1 = 0)
  · cases decide ((gN ls k).2.1 = 0)
    · exact h
    · exact h.put h1 (by omega)
  · exact h.put (by omega) h2
/-- longer at the end -/
def Pre (a b : List Ln) : Prop := ∃ c, b = a ++ c
theorem Pre.refl (a : List Ln) : Pre a a := ⟨[], by simp⟩
theorem Pre.trans {a b c : List Ln} (h : Pre a b) (k : Pre b c) : Pre a c := by
  obtain ⟨x, rfl⟩ := h
  obtain ⟨y, rfl⟩ := k
  exact ⟨x ++ y, by rw [List.append_assoc]⟩
theorem put_pre (ls : List Ln) (w p : Int) (y : DV) : Pre ls (v_put ls w p y) := by
  rcases put_cases ls w p y with ⟨e, _⟩ | ⟨e, _⟩
  · rw [e]; exact .refl _
  · rw [e]; exact ⟨_, rfl⟩
theorem kill_pre (ls : List Ln) (a k : Int) : Pre ls (v_kill ls a k) := by
  unfold v_kill
  cases decide ((gN ls k).1 = 0)
  · cases decide ((gN ls k).2.1 = 0)
    · exact .refl _
    · exact put_pre _ _ _ _
  · exact put_pre _ _ _ _
theorem Pre.get {a b : List Ln} (h : Pre a b) {i : Int} (hi : i.toNat < a.length) : gN b i = gN a i := by
  obtain ⟨c, rfl⟩ := h
  unfold gN
  rw [List.getD_eq_getElem?_getD, List.getD_eq_getElem?_getD, List.getElem?_append_left hi]
theorem Pre.len {a b : List Ln} (h : Pre a b) : a.length ≤ b.length := by
  obtain ⟨c, rfl⟩ := h
  rw [List.length_append]; omega
/-! ### one line led on -/
abbrev whyS (a : Int) (s : Sk) : DV := .tup [.str "step", .int a, eSk s]
abbrev whyJ (k a : Int) : DV := .tup [.str "join", .int k, .int a]
def v_ls1 (a : Int) (l : Ln) (ls : List Ln) (q : St × St) : List Ln := v_put ls (gI q.1.2 l.1) (gI q.2.2 l.2.1) (whyS a q.1.1)
def v_ls2 (x y : LB) (a : Int) (l : Ln) (ls : List Ln) (k : Int) : List Ln :=
  let ls1 := v_put ls (gI (gL x.js l.1) (gN ls k).1) (gI (gL y.js l.2.1) (gN ls k).2.1) (whyJ k a)
  v_kill (v_kill ls1 a k) k a
def v_lead (x y : LB) (ls : List Ln) (a : Int) : List Ln := (rgI 0 (a + 1).toNat).foldl (v_ls2 x y a (gN ls a)) ((zs x y).foldl (v_ls1 a (gN ls a)) ls)
structure L2I (n m : Nat) (ls0 ls : List Ln) : Prop where
  li : LI n m ls
  pre : Pre ls0 ls
theorem ls1_I {x y : LB} (h : Same x y) {ls0 ls : List Ln} {a : Int} {l : Ln} (hl : wd x.js.length l.1 ∧ wd y.js.length l.2.1) {q : St × St} (hq : q ∈ zs x y) (hI : L2I x.js.length y.js.length ls0 ls) : L2I x.js.length y.js.length ls0 (v_ls1 a l ls q) := by
  obtain ⟨q1, q2, _⟩ := zs_of h q hq
  exact ⟨hI.li.put ((q1.row h.wa).get hl.1) ((q2.row h.wb).get hl.2), hI.pre.trans (put_pre _ _ _ _)⟩
theorem ls2_I {x y : LB} (h : Same x y) {ls0 ls : List Ln} {a k : Int} {l : Ln} (hl : wd x.js.length l.1 ∧ wd y.js.length l.2.1) (ha : 0 ≤ a ∧ a < ls0.length) (hk : 0 ≤ k ∧ k < ls0.length) (hI : L2I x.js.length y.js.length ls0 ls) : L2I x.js.length y.js.length ls0 (v_ls2 x y a l ls k) := by
  have n2 := h.wa.n2
  have m2 := h.wb.n2
  have hlen := hI.pre.len
  obtain ⟨g1, g2⟩ := hI.li.wds _ (gN_mem (ls := ls) hk.1 (by omega))
  have i1 := hI.li.put (y := whyJ k a) ((h.wa.js.get hl.1).get g1) ((h.wb.js.get hl.2).get g2)
  have p1 := put_pre ls (gI (gL x.js l.1) (gN ls k).1) (gI (gL y.js l.2.1) (gN ls k).2.1) (whyJ k a)
  have l1 := p1.len
  have i2 := i1.kill (a := a) (k := k) (by omega) (by omega) (by omega)
  have p2 := kill_pre (v_put ls (gI (gL x.js l.1) (gN ls k).1) (gI (gL y.js l.2.1) (gN ls k).2.1) (whyJ k a)) a k
  have l2 := p2.len
  have i3 := i2.kill (a := k) (k := a) (by omega) (by omega) (by omega)
  have p3 := kill_pre (v_kill (v_put ls (gI (gL x.js l.1) (gN ls k).1) (gI (gL y.js l.2.1) (gN ls k).2.1) (whyJ k a)) a k) k a
  exact ⟨i3, ((hI.pre.trans p1).trans p2).trans p3⟩
theorem lead_I {x y : LB} (h : Same x y) {ls : List Ln} {a : Int} (ha : 0 ≤ a ∧ a < ls.length) (hI : LI x.js.length y.js.length ls) : L2I x.js.length y.js.length ls (v_lead x y ls a) := by
  have hl := hI.wds _ (gN_mem ha.1 ha.2)
  unfold v_lead
  refine foldl_inv (L2I x.js.length y.js.length ls) _ _ (foldl_inv (L2I x.js.length y.js.length ls) _ _ ⟨hI, .refl _⟩ fun b q hq hb => ls1_I h hl hq hb) fun b k hk hb => ls2_I h hl ha ?_ hb
  have := mem_rgI.mp hk
  omega
def v_run (x y : LB) : Nat → Int → List Ln → List Ln
  | 0, _, ls => ls
  | f + 1, a, ls => if a < ls.length then v_run x y f (a + 1) (v_lead x y ls a) else ls
def v_l0 (x y : LB) : List Ln := v_put [] x.fi y.fi (.tup [.str "first"])
def v_lines (x y : LB) : List Ln := v_run x y 100 0 (v_l0 x y)
theorem l0_I {x y : LB} (h : Same x y) : LI x.js.length y.js.length (v_l0 x y) := LI.put ⟨fun _ h => absurd h List.not_mem_nil, List.nodup_nil, List.not_mem_nil⟩ h.wa.fi h.wb.fi
end DL
end

section
set_option Elab.async false
set_option linter.all false
set_option maxRecDepth 100000
set_option maxHeartbeats 4000000
namespace DL
open PySem PySem.Spec PyProof.Rows L2
open C8 (Cal pe_c Mak pe_mk)
local macro_rules | `(tactic| walk_at "si") => `(tactic| first
  | with_reducible assumption | omega | (simp only [rgI_len, List.length_map]; omega) | (simp only [decide_eq_true_eq, Bool.and_eq_true, Bool.not_eq_true', decide_eq_false_iff_not] at *; omega))
local macro_rules | `(tactic| walk_at "sz") => `(tactic| first
  | with_reducible assumption | omega | (simp only [rgI_len, List.length_map, List.length_append, List.length_cons, List.length_nil]; omega))
local macro_rules | `(tactic| walk_at "row") => `(tactic| first | with_reducible assumption | ((with_reducible refine Tbl.get (by with_reducible assumption) ?_); walk_at "wd") | exact row_mem (by with_reducible assumption) (by with_reducible assumption))
local macro_rules | `(tactic| walk_at "wd") => `(tactic| first | with_reducible assumption | omega | (constructor <;> omega) | ((with_reducible refine wd_get (by walk_at "row") ?_); walk_at "wd") | exact wd_mem (by with_reducible assumption) (by with_reducible assumption))
local macro_rules | `(tactic| walk_at "rk") => `(tactic| first
  | ((with_reducible apply ro_xL (by decide)); exact rfl) | ((with_reducible apply ro_xT (by decide)); exact rfl) | walk_at "ro")
local macro_rules | `(tactic| walk_at "ro") => `(tactic| first
  | with_reducible exact ro_b0 | with_reducible exact ro_l ro_eqI | with_reducible exact ro_l ro_neI | with_reducible exact ro_l ro_eqB | with_reducible exact ro_l ro_neB | with_reducible exact ro_l ro_eqS | with_reducible exact ro_l ro_neS
  | ((with_reducible refine ro_gLR (by with_reducible assumption) ?_); walk_at "wd") | ((with_reducible refine ro_gIR (by walk_at "row") ?_); walk_at "wd")
  | ((with_reducible refine ro_gI ?_ ?_) <;> walk_at "si") | ((with_reducible refine ro_gL ?_ ?_) <;> walk_at "si") | ((with_reducible refine ro_gIT ?_ ?_) <;> walk_at "si")
  | with_reducible exact ro_gG (by with_reducible assumption) | ((with_reducible refine ro_gT ?_ ?_) <;> walk_at "si")
  | ((with_reducible refine ro_gB ?_ ?_) <;> walk_at "si")
  | ((with_reducible refine ro_gS ?_ ?_) <;> walk_at "si") | ((with_reducible refine ro_gST ?_ ?_) <;> walk_at "si")
  | ((with_reducible refine ro_xM ?_ ?_) <;> walk_at "si") | ((with_reducible refine ro_xTM ?_ ?_) <;> walk_at "si")
  | ((with_reducible apply ro_xL (by decide)); exact rfl) | ((with_reducible apply ro_xT (by decide)); exact rfl)
  | with_reducible exact ro_eqIs | with_reducible exact ro_l ro_inL | with_reducible exact ro_l ro_niL | with_reducible exact ro_l ro_inT | with_reducible exact ro_l ro_inS | with_reducible exact ro_isNN | with_reducible exact ro_notNN | with_reducible exact ro_isNI | with_reducible exact ro_notNI)
local macro_rules | `(tactic| walk_at "rc") => `(tactic| with_reducible first
  | exact rc_lenM | exact rc_lenTM | exact rc_lenL' | exact rc_lenT' | exact rc_ii _ | exact rc_ib _ | exact rc_ss _ | exact rc_tt _ | exact rc_ltl _ | exact rc_ltt _ | exact rc_int | exact rc_abs | exact rc_max2 | exact rc_min2 | exact rc_all | exact rc_sum | exact rc_tupL' | exact rc_tupT' | exact rc_range1)
local macro_rules | `(tactic| walk_at "rcn") => `(tactic| with_reducible first
  | exact rcn_listL' | exact rcn_listT' | exact rcn_sortP)
local macro_rules | `(tactic| walk_at "pre") => `(tactic| first | with_reducible assumption | exact trivial | (refine And.intro ?_ ?_ <;> walk_at "pre") | walk_at "wd" | walk_at "si")
local macro_rules | `(tactic| walk_at "cmod") => `(tactic| (show (0 : Int) < _; first | decide | walk_at "si"))
local macro_rules | `(tactic| walk_at "cd") => `(tactic| (refine And.intro ?_ ?_ <;> walk_at "si"))
local macro_rules | `(tactic| walk_at "cp") => `(tactic| exact ⟨by decide, by decide, by decide⟩)
local macro_rules | `(tactic| walk_at "cm") => `(tactic| first | (refine Or.inl (And.intro ?_ ?_) <;> omega) | (refine Or.inr (And.intro ?_ ?_) <;> omega))
local macro_rules | `(tactic| walk_at "wk") => `(tactic| (repeat (first | exact Wk.nil | exact Wk.refl _ | refine Wk.same ?_ | refine Wk.frz ?_ | refine Wk.drop ?_)))
section
variable {P : PySem.Program} {w : World} {K : PySem.W.Frag} {mg : Str → Option Value} {base : Heap} {CL CB : Addr} (T : Txt K mg CL CB)
include T
local macro_rules | `(tactic| walk_at "nomu") => `(tactic| (repeat (first | exact noMu_nil | refine noMu_val ?_ | refine noMu_any ?_)))
omit T in
theorem no4 {a b : Option Addr} {ls : List Ln} {d1 d2 : DV} {ρ : List Sl} (h : ∀ (k : Nat) (o : Option Addr) (m : Mu), ρ[k]? ≠ some (Sl.mu o m)) : ∀ (k : Nat) (o : Option Addr) (m : Mu), (Sl.val d1 :: Sl.val d2 :: mL a ls :: mK b ls :: ρ)[k]? = some (Sl.mu o m) → k = 2 ∨ k = 3 := fun k o m hk => by
  match k, hk with
  | 0, hk => cases hk
  | 1, hk => cases hk
  | 2, _ => exact .inl rfl
  | 3, _ => exact .inr rfl
  | k + 4, hk => exact absurd hk (h k o m)
abbrev S_lead_line : Stmt := top 77
abbrev N_lead_line : List Str := ["one", "other", "lines", "met", "at", "word", "partner", "_", "step", "k", "mate"]
omit T in
theorem sc_lead_line : FnScope N_lead_line ["one", "other", "lines", "met", "at"] (defScope S_lead_line) := ⟨rfl, rfl, rfl, by decide +kernel, rfl, by decide +kernel, by decide +kernel⟩
def sp_lead_line (CL CB : Addr) : Sp := spL (α := LB × LB × List Ln × Int) (fun ⟨x, y, ls, a⟩ => [eBook CL CB x, eBook CL CB y]) (fun ⟨x, y, ls, a⟩ => [.int a]) (fun ⟨x, y, ls, a⟩ => ls) (fun ⟨x, y, ls, a⟩ => v_lead x y ls a) (fun ⟨x, y, ls, a⟩ => Same x y ∧ LI x.js.length y.js.length ls ∧ 0 ≤ a ∧ a < ls.length)
theorem c_lead_line : Cal P w K mg base 4 "lead_line" (sp_lead_line CL CB) [] :=
  cal_defL (α := LB × LB × List Ln × Int) (e1 := fun ⟨x, y, ls, a⟩ => [eBook CL CB x, eBook CL CB y]) (e2 := fun ⟨x, y, ls, a⟩ => [.int a]) (ls := fun ⟨x, y, ls, a⟩ => ls) (ls' := fun ⟨x, y, ls, a⟩ => v_lead x y ls a) (pre := fun ⟨x, y, ls, a⟩ => Same x y ∧ LI x.js.length y.js.length ls ∧ 0 ≤ a ∧ a < ls.length) (n1 := 2) T.f_lead_line sc_lead_line (fun _ => rfl) (fun ⟨x, y, ls, a⟩ => rfl) (fun _ _ _ _ _ _ us hl => match us, hl with | [_, _, _, _, _], _ => rfl) fun f cdv A outer s H E hr ⟨x, y, ls, a⟩ hp aL aM => by
    (try dsimp only at hp)
    have nd := sc_lead_line.nd
    refine ⟨_, (pss_cons (ps_asg (pe_ix (ixk K) (pv 2) (pv 4) (fun _ _ => rfl)) (pgtk (n := 3) K rfl (pgs_cons (pg_name (i := 5) nd rfl (.inl rfl)) (pgs_cons (pg_name (i := 6) nd rfl (.inl rfl)) (pgs_cons (pg_name (i := 7) nd rfl (.inl rfl)) pgs_nil)))))
    (pss_cons (ps_for PassesOwn.never rfl (pitk K (pe_c (c_steps_of_book T) hr (by decide) rfl (pa_cons (pv 0) pa_nil))) (pg_name (i := 8) nd rfl (.inl rfl))
    (pss_one (ps_expr (pe_c (c_put_line T) hr (by decide) rfl (pa_cons (pv 2) (pa_cons (pv 3) (pa_cons (pe_c (c_step_word T) hr (by decide) rfl (pa_cons (pv 0) (pa_cons (pv 8) (pa_cons (pv 5) pa_nil)))) (pa_cons (pe_c (c_step_word T) hr (by decide) rfl (pa_cons (pv 1) (pa_cons (pv 8) (pa_cons (pv 6) pa_nil)))) (pa_cons (pe_tup (pa_cons pe_str (pa_cons (pv 4) (pa_cons (pv 8) pa_nil)))) pa_nil)))))))))
    (pss_one (ps_for PassesOwn.never rfl (pi_range1 rfl T.m_range (pa_cons (pe_op op_addA (pv 4) pe_int) pa_nil)) (pg_name (i := 9) nd rfl (.inl rfl))
    (pss_cons (ps_set (i := 10) nd rfl (.inl rfl) (pe_ix (ixk K) (pv 2) (pv 9) (fun _ _ => rfl)))
    (pss_cons (ps_expr (pe_c (c_put_line T) hr (by decide) rfl (pa_cons (pv 2) (pa_cons (pv 3) (pa_cons (pe_c (c_join_two T) hr (by decide) rfl (pa_cons (pv 0) (pa_cons (pv 5) (pa_cons (pe_ix (ixk K) (pv 10) pe_int (fun _ _ => rfl)) pa_nil)))) (pa_cons (pe_c (c_join_two T) hr (by decide) rfl (pa_cons (pv 1) (pa_cons (pv 6) (pa_cons (pe_ix (ixk K) (pv 10) pe_int (fun _ _ => rfl)) pa_nil)))) (pa_cons (pe_tup (pa_cons pe_str (pa_cons (pv 9) (pa_cons (pv 4) pa_nil)))) pa_nil)))))))
    (pss_cons (ps_expr (pe_c (c_put_killed T) hr (by decide) rfl (pa_cons (pv 2) (pa_cons (pv 3) (pa_cons (pv 4) (pa_cons (pv 9) pa_nil))))))
    (pss_one (ps_expr (pe_c (c_put_killed T) hr (by decide) rfl (pa_cons (pv 2) (pa_cons (pv 3) (pa_cons (pv 9) (pa_cons (pv 4) pa_nil)))))))))))))), ?_⟩
    obtain ⟨hS, hI, ha, ha2⟩ := hp
    have n9 := hS.wa.n9
    have m9 := hS.wb.n9
    have hl81 := hI.len81 n9 m9
    have hw := hI.wds _ (gN_mem ha ha2)
    show DS _ [.val (eBook CL CB x), .val (eBook CL CB y), mL (some aL) ls, mK (some aM) ls, .val (.int a), .any, .any, .any, .any, .any, .any] _
    refine ds_seq (ds_asg (de_op (by first | exact dq_of (de_var rfl) | exact dq_own rfl) (dq_of (de_var rfl)) (ro_gN (by omega) (by omega))) (dg_tup rfl (dgs_cons dg_name (dgs_cons dg_name (dgs_cons dg_name dgs_nil)))) ?_)
    have e0 : v_lead x y ls a = (rgI 0 (a + 1).toNat).foldl (v_ls2 x y a (gN ls a)) ((zs x y).foldl (v_ls1 a (gN ls a)) ls) := rfl
    generalize hl : gN ls a = l at hw e0
    show DS _ [.val (eBook CL CB x), .val (eBook CL CB y), mL (some aL) ls, mK (some aM) ls, .val (.int a), .val (.int l.1), .val (.int l.2.1), .val l.2.2, .any, .any, .any] _
    have hst : (v_stk x).map eSk = (zs x y).map fun q => eSk q.1.1 := by rw [stk_eq, ← zs_fst (a := x) (b := y), List.map_map, List.map_map]; rfl
    refine ds_seq (ds_fold (xs := zs x y) (enc := fun q => eSk q.1.1) (fun ls => [.val (eBook CL CB x), .val (eBook CL CB y), mL (some aL) ls, mK (some aM) ls, .val (.int a), .val (.int l.1), .val (.int l.2.1), .val l.2.2, .any, .any, .any]) (v_ls1 a l) ls (fun _ ls1 => L2I x.js.length y.js.length ls ls1) (dw_is (dw_tup (d_steps_of_book (da_cons (de_var rfl) da_nil) (hS.wa)           )) hst) (by walk_at "wk") ⟨hI, .refl _⟩ (fun n ls1 q hq hI1 => ?_) fun hI1 => ?_)
    · have hq := List.mem_of_getElem? hq
      obtain ⟨q1, q2, q3⟩ := zs_of hS q hq
      have hN := ls1_I (a := a) hS hw hq hI1
      have l1 := hI1.li.len81 n9 m9
      show DS _ [.val (eBook CL CB x), .val (eBook CL CB y), mL (some aL) ls1, mK (some aM) ls1, .val (.int a), .val (.int l.1), .val (.int l.2.1), .val l.2.2, .val (eSk q.1.1), .any, .any] _
      refine ds_call0 (α := List Ln × Int × Int × DV) (ls1, gI q.1.2 l.1, gI q.2.2 l.2.1, whyS a q.1.1) rfl rfl (by decide) (no4 (by walk_at "nomu")) (da_cons (d_step_word (s := q.1) (da_cons (de_var rfl) (da_cons (de_var rfl) (da_cons (de_var rfl) da_nil))) ⟨hS.wa, hS.nl, hS.nt, q1, hw.1⟩) (da_cons (d_step_word (s := q.2) (da_cons (de_var rfl) (da_cons (de_var (by rw [← q3]; rfl)) (da_cons (de_var rfl) da_nil))) ⟨hS.wb, hS.le ▸ hS.nl, hS.te ▸ hS.nt, q2, hw.2⟩) (da_cons (de_tup (da_cons de_str (da_cons (de_var rfl) (da_cons (de_var rfl) da_nil))) (Nat.le_of_ble_eq_true rfl)) da_nil))) (by show ls1.length ≤ 1000; omega) ⟨?_, hN⟩
      show Wk _ [.val (eBook CL CB x), .val (eBook CL CB y), mL (some aL) (v_ls1 a l ls1 q), mK (some aM) (v_ls1 a l ls1 q), .val (.int a), .val (.int l.1), .val (.int l.2.1), .val l.2.2, .any, .any, .any]
      walk_at "wk"
    · generalize hls1 : (zs x y).foldl (v_ls1 a l) ls = ls1 at hI1 e0
      show DS _ [.val (eBook CL CB x), .val (eBook CL CB y), mL (some aL) ls1, mK (some aM) ls1, .val (.int a), .val (.int l.1), .val (.int l.2.1), .val l.2.2, .any, .any, .any] _
      refine ds_fold (fun ls => [.val (eBook CL CB x), .val (eBook CL CB y), mL (some aL) ls, mK (some aM) ls, .val (.int a), .val (.int l.1), .val (.int l.2.1), .val l.2.2, .any, .any, .any]) (v_ls2 x y a l) ls1 (fun _ ls2 => L2I x.js.length y.js.length ls ls2) (dw_range1 (da_cons (de_op (dq_of (de_var rfl)) (dq_of de_int) (ro_l ro_i0)) da_nil) (by walk_at "si")) (by walk_at "wk") hI1 (fun n ls2 k hk hI2 => ?_) fun hI2 => ?_
      · have hk := mem_rgI.mp (List.mem_of_getElem? hk)
        have hk2 : 0 ≤ k ∧ k < ls.length := by omega
        have hN := ls2_I (a := a) hS hw ⟨ha, ha2⟩ hk2 hI2
        have hlen := hI2.pre.len
        have l2 := hI2.li.len81 n9 m9
        obtain ⟨g1, g2⟩ := hI2.li.wds _ (gN_mem (ls := ls2) hk2.1 (by omega))
        have i1 := hI2.li.put (y := whyJ k a) ((hS.wa.js.get hw.1).get g1) ((hS.wb.js.get hw.2).get g2)
        have l3 := i1.len81 n9 m9
        have p1 := (put_pre ls2 (gI (gL x.js l.1) (gN ls2 k).1) (gI (gL y.js l.2.1) (gN ls2 k).2.1) (whyJ k a)).len
        have e1 : v_ls2 x y a l ls2 k = v_kill (v_kill (v_put ls2 (gI (gL x.js l.1) (gN ls2 k).1) (gI (gL y.js l.2.1) (gN ls2 k).2.1) (whyJ k a)) a k) k a := rfl
        show DS _ [.val (eBook CL CB x), .val (eBook CL CB y), mL (some aL) ls2, mK (some aM) ls2, .val (.int a), .val (.int l.1), .val (.int l.2.1), .val l.2.2, .any, .val (.int k), .any] _
        refine ds_setS (de_op (by first | exact dq_of (de_var rfl) | exact dq_own rfl) (dq_of (de_var rfl)) (ro_gN (by omega) (by omega))) ?_
        show DS _ [.val (eBook CL CB x), .val (eBook CL CB y), mL (some aL) ls2, mK (some aM) ls2, .val (.int a), .val (.int l.1), .val (.int l.2.1), .val l.2.2, .any, .val (.int k), .val (eLn (gN ls2 k))] _
        refine ds_seq (ds_call0 (α := List Ln × Int × Int × DV) (ls2, gI (gL x.js l.1) (gN ls2 k).1, gI (gL y.js l.2.1) (gN ls2 k).2.1, whyJ k a) rfl rfl (by decide) (no4 (by walk_at "nomu")) (da_cons (d_join_two (da_cons (de_var rfl) (da_cons (de_var rfl) (da_cons (de_op (dq_of (de_var rfl)) (dq_of de_int) (by walk_at "rk")) da_nil))) (⟨hS.wa, hw.1, g1⟩)) (da_cons (d_join_two (da_cons (de_var rfl) (da_cons (de_var rfl) (da_cons (de_op (dq_of (de_var rfl)) (dq_of de_int) (by walk_at "rk")) da_nil))) (⟨hS.wb, hw.2, g2⟩)) (da_cons (de_tup (da_cons de_str (da_cons (de_var rfl) (da_cons (de_var rfl) da_nil))) (Nat.le_of_ble_eq_true rfl)) da_nil))) (by show ls2.length ≤ 1000; omega) ?_)
        show DS _ [.val (eBook CL CB x), .val (eBook CL CB y), mL (some aL) (v_put ls2 (gI (gL x.js l.1) (gN ls2 k).1) (gI (gL y.js l.2.1) (gN ls2 k).2.1) (whyJ k a)), mK (some aM) (v_put ls2 (gI (gL x.js l.1) (gN ls2 k).1) (gI (gL y.js l.2.1) (gN ls2 k).2.1) (whyJ k a)), .val (.int a), .val (.int l.1), .val (.int l.2.1), .val l.2.2, .any, .val (.int k), .val (eLn (gN ls2 k))] _
        generalize hlp : v_put ls2 (gI (gL x.js l.1) (gN ls2 k).1) (gI (gL y.js l.2.1) (gN ls2 k).2.1) (whyJ k a) = lp at *
        refine ds_seq (ds_call0 (α := List Ln × Int × Int) (lp, a, k) rfl rfl (by decide) (no4 (by walk_at "nomu")) (da_cons (de_var rfl) (da_cons (de_var rfl) da_nil)) ⟨by show lp.length ≤ 1000; omega, ⟨ha, by show a < (lp.length : Int); omega⟩, hk2.1, by show k < (lp.length : Int); omega⟩ ?_)
        have i2 := i1.kill (a := a) (k := k) ⟨ha, by omega⟩ (by have := hS.wa.n2; omega) (by have := hS.wb.n2; omega)
        have l4 := i2.len81 n9 m9
        have p2 := (kill_pre lp a k).len
        show DS _ [.val (eBook CL CB x), .val (eBook CL CB y), mL (some aL) (v_kill lp a k), mK (some aM) (v_kill lp a k), .val (.int a), .val (.int l.1), .val (.int l.2.1), .val l.2.2, .any, .val (.int k), .val (eLn (gN ls2 k))] _
        refine ds_call0 (α := List Ln × Int × Int) (v_kill lp a k, k, a) rfl rfl (by decide) (no4 (by walk_at "nomu")) (da_cons (de_var rfl) (da_cons (de_var rfl) da_nil)) ⟨by show (v_kill lp a k).length ≤ 1000; omega, ⟨hk2.1, by show k < ((v_kill lp a k).length : Int); omega⟩, ha, by show a < ((v_kill lp a k).length : Int); omega⟩ ⟨?_, hN⟩
        show Wk _ [.val (eBook CL CB x), .val (eBook CL CB y), mL (some aL) (v_ls2 x y a l ls2 k), mK (some aM) (v_ls2 x y a l ls2 k), .val (.int a), .val (.int l.1), .val (.int l.2.1), .val l.2.2, .any, .any, .any]
        rw [e1]
        walk_at "wk"
      · exact ⟨by show _ = some (mL (some aL) (v_lead x y ls a)); rw [e0]; rfl, by show _ = some (mK (some aM) (v_lead x y ls a)); rw [e0]; rfl⟩

end
end DL
end

section
set_option Elab.async false
set_option linter.all false
set_option maxRecDepth 100000
set_option maxHeartbeats 4000000
namespace DL
open PySem PySem.Spec PyProof.Rows L2
open C8 (Cal pe_c Mak pe_mk)
local macro_rules | `(tactic| walk_at "si") => `(tactic| first
  | with_reducible assumption | omega | (simp only [rgI_len, List.length_map]; omega) | (simp only [decide_eq_true_eq, Bool.and_eq_true, Bool.not_eq_true', decide_eq_false_iff_not] at *; omega))
local macro_rules | `(tactic| walk_at "sz") => `(tactic| first
  | with_reducible assumption | omega | (simp only [rgI_len, List.length_map, List.length_append, List.length_cons, List.length_nil]; omega))
local macro_rules | `(tactic| walk_at "row") => `(tactic| first | with_reducible assumption | ((with_reducible refine Tbl.get (by with_reducible assumption) ?_); walk_at "wd") | exact row_mem (by with_reducible assumption) (by with_reducible assumption))
local macro_rules | `(tactic| walk_at "wd") => `(tactic| first | with_reducible assumption | omega | (constructor <;> omega) | ((with_reducible refine wd_get (by walk_at "row") ?_); walk_at "wd") | exact wd_mem (by with_reducible assumption) (by with_reducible assumption))
local macro_rules | `(tactic| walk_at "rk") => `(tactic| first
  | ((with_reducible apply ro_xL (by decide)); exact rfl) | ((with_reducible apply ro_xT (by decide)); exact rfl) | walk_at "ro")
local macro_rules | `(tactic| walk_at "ro") => `(tactic| first
  | with_reducible exact ro_b0 | with_reducible exact ro_l ro_eqI | with_reducible exact ro_l ro_neI | with_reducible exact ro_l ro_eqB | with_reducible exact ro_l ro_neB | with_reducible exact ro_l ro_eqS | with_reducible exact ro_l ro_neS
  | ((with_reducible refine ro_gLR (by with_reducible assumption) ?_); walk_at "wd") | ((with_reducible refine ro_gIR (by walk_at "row") ?_); walk_at "wd")
  | ((with_reducible refine ro_gI ?_ ?_) <;> walk_at "si") | ((with_reducible refine ro_gL ?_ ?_) <;> walk_at "si") | ((with_reducible refine ro_gIT ?_ ?_) <;> walk_at "si")
  | with_reducible exact ro_gG (by with_reducible assumption) | ((with_reducible refine ro_gT ?_ ?_) <;> walk_at "si")
  | ((with_reducible refine ro_gB ?_ ?_) <;> walk_at "si")
  | ((with_reducible refine ro_gS ?_ ?_) <;> walk_at "si") | ((with_reducible refine ro_gST ?_ ?_) <;> walk_at "si")
  | ((with_reducible refine ro_xM ?_ ?_) <;> walk_at "si") | ((with_reducible refine ro_xTM ?_ ?_) <;> walk_at "si")
  | ((with_reducible apply ro_xL (by decide)); exact rfl) | ((with_reducible apply ro_xT (by decide)); exact rfl)
  | with_reducible exact ro_eqIs | with_reducible exact ro_l ro_inL | with_reducible exact ro_l ro_niL | with_reducible exact ro_l ro_inT | with_reducible exact ro_l ro_inS | with_reducible exact ro_isNN | with_reducible exact ro_notNN | with_reducible exact ro_isNI | with_reducible exact ro_notNI)
local macro_rules | `(tactic| walk_at "rc") => `(tactic| with_reducible first
  | exact rc_lenM | exact rc_lenTM | exact rc_lenL' | exact rc_lenT' | exact rc_ii _ | exact rc_ib _ | exact rc_ss _ | exact rc_tt _ | exact rc_ltl _ | exact rc_ltt _ | exact rc_int | exact rc_abs | exact rc_max2 | exact rc_min2 | exact rc_all | exact rc_sum | exact rc_tupL' | exact rc_tupT' | exact rc_range1)
local macro_rules | `(tactic| walk_at "rcn") => `(tactic| with_reducible first
  | exact rcn_listL' | exact rcn_listT' | exact rcn_sortP)
local macro_rules | `(tactic| walk_at "pre") => `(tactic| first | with_reducible assumption | exact trivial | (refine And.intro ?_ ?_ <;> walk_at "pre") | walk_at "wd" | walk_at "si")
local macro_rules | `(tactic| walk_at "cmod") => `(tactic| (show (0 : Int) < _; first | decide | walk_at "si"))
local macro_rules | `(tactic| walk_at "cd") => `(tactic| (refine And.intro ?_ ?_ <;> walk_at "si"))
local macro_rules | `(tactic| walk_at "cp") => `(tactic| exact ⟨by decide, by decide, by decide⟩)
local macro_rules | `(tactic| walk_at "cm") => `(tactic| first | (refine Or.inl (And.intro ?_ ?_) <;> omega) | (refine Or.inr (And.intro ?_ ?_) <;> omega))
local macro_rules | `(tactic| walk_at "wk") => `(tactic| (repeat (first | exact Wk.nil | exact Wk.refl _ | refine Wk.same ?_ | refine Wk.frz ?_ | refine Wk.drop ?_)))
section
variable {P : PySem.Program} {w : World} {K : PySem.W.Frag} {mg : Str → Option Value} {base : Heap} {CL CB : Addr} (T : Txt K mg CL CB)
include T
local macro_rules | `(tactic| walk_at "nomu") => `(tactic| (repeat (first | exact noMu_nil | refine noMu_val ?_ | refine noMu_any ?_)))
abbrev S_couple_lines : Stmt := top 78
abbrev N_couple_lines : List Str := ["one", "other", "lines", "met", "at"]
omit T in
theorem sc_couple_lines : FnScope N_couple_lines ["one", "other"] (defScope S_couple_lines) := ⟨rfl, rfl, rfl, by decide +kernel, rfl, by decide +kernel, by decide +kernel⟩
def sp_couple_lines (CL CB : Addr) : Sp := spD (α := LB × LB) (fun ⟨x, y⟩ => [eBook CL CB x, eBook CL CB y]) (fun ⟨x, y⟩ => Same x y) (fun ⟨x, y⟩ => .tup (eLns (v_lines x y)))
omit T in
theorem d_couple_lines {ρ : List Sl} {t : TA} {E : XK} {x y : LB} (h : DA t ρ [eBook CL CB x, eBook CL CB y]) (hp : Same x y) : DE (tCall (sp_couple_lines CL CB) [] E t) ρ (.tup (eLns (v_lines x y))) := de_call (α := LB × LB) (enc := fun ⟨x, y⟩ => [eBook CL CB x, eBook CL CB y]) (pre := fun ⟨x, y⟩ => Same x y) (val := fun ⟨x, y⟩ => .tup (eLns (v_lines x y))) ⟨x, y⟩ h rfl hp
theorem c_couple_lines : Cal P w K mg base 5 "couple_lines" (sp_couple_lines CL CB) [] :=
  cal_def (α := LB × LB) (enc := fun ⟨x, y⟩ => [eBook CL CB x, eBook CL CB y]) (pre := fun ⟨x, y⟩ => Same x y) (val := fun ⟨x, y⟩ => .tup (eLns (v_lines x y))) T.f_couple_lines sc_couple_lines (fun ⟨x, y⟩ => rfl) (fun _ _ _ _ _ _ us hl => match us, hl with | [_, _], _ => rfl) fun f cdv A outer s H E hr ⟨x, y⟩ hp => by
    (try dsimp only at hp)
    have nd := sc_couple_lines.nd
    refine ⟨_, (pss_cons (ps_expr (pe_c (c_check_same_alphabet T) hr (by decide) rfl (pa_cons (pv 0) (pa_cons (pv 1) pa_nil))))
    (pss_cons (ps_set (i := 2) nd rfl (.inl rfl) (pe_lst pa_nil))
    (pss_cons (ps_set (i := 3) nd rfl (.inl rfl) pe_dnewT)
    (pss_cons (ps_expr (pe_c (c_put_line T) hr (by decide) rfl (pa_cons (pv 2) (pa_cons (pv 3) (pa_cons (fldk K (pv 0) rfl) (pa_cons (fldk K (pv 1) rfl) (pa_cons (pe_tup (pa_cons pe_str pa_nil)) pa_nil)))))))
    (pss_cons (ps_set (i := 4) nd rfl (.inl rfl) pe_int)
    (pss_cons (ps_while PassesOwn.never (pt_cmpR op_lt (pv 4) (pe_callB (lenk K) rfl T.m_len (by decide +kernel) (pa_cons (pv 2) pa_nil)) (nomark _)) (pss_cons (ps_expr (pe_c (c_lead_line T) hr (by decide) rfl (pa_cons (pv 0) (pa_cons (pv 1) (pa_cons (pv 2) (pa_cons (pv 3) (pa_cons (pv 4) pa_nil)))))))
    (pss_one (ps_aug (i := 4) nd rfl (.inl rfl) pe_int ip_add))))
    (pss_one (ps_ret (pe_callTy (tupk K) rfl T.m_tuple (by decide +kernel) (pa_cons (pv 2) pa_nil)))))))))), ?_⟩
    have n9 := hp.wa.n9
    have m9 := hp.wb.n9
    show DS _ [.val (eBook CL CB x), .val (eBook CL CB y), .any, .any, .any] _
    refine ds_seq (ds_drop (d_check_same_alphabet (da_cons (de_var rfl) (da_cons (de_var rfl) da_nil)) (⟨hp.wa, hp.wb, hp.le, hp.te⟩)) ?_)
    refine ds_setNS (ds := List.map eLn []) (dn_lst da_nil (Nat.le_of_ble_eq_true rfl)) ?_
    refine ds_seq (ds_dnewT ?_)
    show DS _ [.val (eBook CL CB x), .val (eBook CL CB y), mL none [], mK none [], .any] _
    refine ds_seq (ds_call0 (α := List Ln × Int × Int × DV) ([], x.fi, y.fi, .tup [.str "first"]) rfl rfl (by decide) (no4 (by walk_at "nomu")) (da_cons (de_fld T.cls_Book T.no_Book_first (de_var rfl) rfl) (da_cons (de_fld T.cls_Book T.no_Book_first (de_var rfl) rfl) (da_cons (de_tup (da_cons de_str da_nil) (Nat.le_of_ble_eq_true rfl)) da_nil))) (Nat.zero_le _) ?_)
    show DS _ [.val (eBook CL CB x), .val (eBook CL CB y), mL none (v_l0 x y), mK none (v_l0 x y), .any] _
    refine ds_setS de_int ?_
    refine ds_seq (ds_while (fun m ρ => ∃ (a : Nat) (ls : List Ln), ρ = [.val (eBook CL CB x), .val (eBook CL CB y), mL none ls, mK none ls, .val (.int (a : Int))] ∧ LI x.js.length y.js.length ls ∧ a ≤ ls.length ∧ a + m = 100 ∧ v_run x y m (a : Int) ls = v_lines x y) 100 ⟨_, by walk_at "wk", 0, v_l0 x y, rfl, l0_I hp, Nat.zero_le _, rfl, rfl⟩ fun m ρ ⟨a, ls, e, hI, ha, hm, hr⟩ => ?_)
    subst e
    have hl := hI.len81 n9 m9
    obtain ⟨m', rfl⟩ : ∃ m', m = m' + 1 := ⟨m - 1, by omega⟩
    refine ⟨decide ((a : Int) < (ls.length : Int)), (dt_test (de_op (dq_of (de_var rfl)) (dq_of (de_cb (db_cons (by first | exact dq_of (de_var rfl) | exact dq_own rfl) db_nil) (by walk_at "rc"))) ro_b0)), fun hb => ?_, fun hb => ?_⟩
    · have hlt := of_decide_eq_true hb
      have hL := lead_I hp (a := (a : Int)) ⟨by omega, hlt⟩ hI
      have e1 : v_run x y (m' + 1) (a : Int) ls = v_run x y m' ((a : Int) + 1) (v_lead x y ls (a : Int)) := by
        show (if (a : Int) < ls.length then _ else _) = _
        rw [if_pos hlt]
      refine ds_seq (ds_call2 (α := LB × LB × List Ln × Int) (x, y, ls, (a : Int)) rfl rfl (by decide) (no4 (by walk_at "nomu")) rfl rfl rfl (da_cons (de_var rfl) da_nil) ⟨hp, hI, by omega, hlt⟩ ?_)
      show DS _ [.val (eBook CL CB x), .val (eBook CL CB y), mL none (v_lead x y ls (a : Int)), mK none (v_lead x y ls (a : Int)), .val (.int (a : Int))] _
      refine ds_aug (f := fun i j => i + j) rfl de_int ⟨_, m', by walk_at "wk", by omega, a + 1, v_lead x y ls (a : Int), rfl, hL.li, ?_, by omega, ?_⟩
      · have := hL.pre.len
        omega
      · rw [← hr, e1]; rfl
    · have hge := of_decide_eq_false hb
      have e1 : ls = v_lines x y := by
        rw [← hr]
        show _ = (if (a : Int) < ls.length then _ else ls)
        rw [if_neg hge]
      show DS _ [.val (eBook CL CB x), .val (eBook CL CB y), mL none ls, mK none ls, .val (.int (a : Int))] _
      refine ds_wk (ρ' := [.any, .any, .val (.lst (eLns ls)), .any, .any]) (by walk_at "wk") ?_
      exact ds_ret (de_cb (db_cons (by first | exact dq_of (de_var rfl) | exact dq_own rfl) db_nil) (by walk_at "rc")) (show DV.tup (eLns ls) = .tup (eLns (v_lines x y)) by rw [← e1])
omit T in
theorem run_I {x y : LB} (h : Same x y) : ∀ (f : Nat) (a : Int) (ls : List Ln), 0 ≤ a → LI x.js.length y.js.length ls → LI x.js.length y.js.length (v_run x y f a ls)
  | 0, _, _, _, hI => hI
  | f + 1, a, ls, ha, hI => by
    show LI _ _ (if a < ls.length then v_run x y f (a + 1) (v_lead x y ls a) else ls)
    by_cases hlt : a < ls.length
    · rw [if_pos hlt]
      exact run_I h f (a + 1) _ (by omega) (lead_I h ⟨ha, hlt⟩ hI).li
    · rw [if_neg hlt]; exact hI
omit T in
theorem lines_I {x y : LB} (h : Same x y) : LI x.js.length y.js.length (v_lines x y) := run_I h 100 0 _ (Int.le_refl 0) (l0_I h)
def v_ct (x y : LB) : List (Int × Int) := srtP (prL (v_lines x y))
abbrev S_couples_told : Stmt := top 79
abbrev N_couples_told : List Str := ["one", "other", "word", "partner", "why"]
omit T in
theorem sc_couples_told : FnScope N_couples_told ["one", "other"] (defScope S_couples_told) := ⟨rfl, rfl, rfl, by decide +kernel, rfl, by decide +kernel, by decide +kernel⟩
def sp_couples_told (CL CB : Addr) : Sp := spD (α := LB × LB) (fun ⟨x, y⟩ => [eBook CL CB x, eBook CL CB y]) (fun ⟨x, y⟩ => Same x y) (fun ⟨x, y⟩ => .tup ((v_ct x y).map ePr))
omit T in
theorem d_couples_told {ρ : List Sl} {t : TA} {E : XK} {x y : LB} (h : DA t ρ [eBook CL CB x, eBook CL CB y]) (hp : Same x y) : DE (tCall (sp_couples_told CL CB) [] E t) ρ (.tup ((v_ct x y).map ePr)) := de_call (α := LB × LB) (enc := fun ⟨x, y⟩ => [eBook CL CB x, eBook CL CB y]) (pre := fun ⟨x, y⟩ => Same x y) (val := fun ⟨x, y⟩ => .tup ((v_ct x y).map ePr)) ⟨x, y⟩ h rfl hp
theorem c_couples_told : Cal P w K mg base 6 "couples_told" (sp_couples_told CL CB) [] :=
  cal_def (α := LB × LB) (enc := fun ⟨x, y⟩ => [eBook CL CB x, eBook CL CB y]) (pre := fun ⟨x, y⟩ => Same x y) (val := fun ⟨x, y⟩ => .tup ((v_ct x y).map ePr)) T.f_couples_told sc_couples_told (fun ⟨x, y⟩ => rfl) (fun _ _ _ _ _ _ us hl => match us, hl with | [_, _], _ => rfl) fun f cdv A outer s H E hr ⟨x, y⟩ hp => by
    (try dsimp only at hp)
    have nd := sc_couples_told.nd
    refine ⟨_, (pss_one (ps_ret (pe_callTy (tupk K) rfl T.m_tuple (by decide +kernel) (pa_cons (pe_callB (srPk K) rfl T.m_sorted (by decide +kernel) (pa_cons (pe_lc (own := [("word", 2), ("partner", 3), ("why", 4)]) rfl nd (pitk K (pe_c (c_couple_lines T) hr (by decide) rfl (pa_cons (pv 0) (pa_cons (pv 1) pa_nil)))) (blkOk_by (sc := defScope S_couples_told) (N := N_couples_told) (own := [("word", 2), ("partner", 3), ("why", 4)]) (by decide +kernel)) (fun _ _ _ _ _ => (pgtk (n := 3) K rfl (pgs_cons (pg_name (i := 2) nd rfl (by first | exact .inl rfl | exact .inr rfl)) (pgs_cons (pg_name (i := 3) nd rfl (by first | exact .inl rfl | exact .inr rfl)) (pgs_cons (pg_name (i := 4) nd rfl (by first | exact .inl rfl | exact .inr rfl)) pgs_nil))))) (fun _ _ _ _ _ => pts_nil) (fun _ _ _ _ _ => (pe_tup (pa_cons (pv 2) (pa_cons (pv 3) pa_nil))))) pa_nil)) pa_nil)))), ?_⟩
    have hl := (lines_I hp).len81 hp.wa.n9 hp.wb.n9
    show DS _ [.val (eBook CL CB x), .val (eBook CL CB y), .any, .any, .any] _
    refine ds_ret (d := .tup ((v_ct x y).map ePr)) ?_ rfl
    refine de_cb (db_cons (dn_dq (dn_cb (db_cons (dn_dq (dn_is (dn_lc (v_lines x y) eLn (fun l => ePr (l.1, l.2.1)) (dw_tup (d_couple_lines (da_cons (de_var rfl) (da_cons (de_var rfl) da_nil)) hp)) (by omega) (by decide) fun l hl => ⟨_, dg_tup rfl (dgs_cons dg_name (dgs_cons dg_name (dgs_cons dg_name dgs_nil))), de_tup (da_cons (de_var rfl) (da_cons (de_var rfl) da_nil)) (Nat.le_of_ble_eq_true rfl)⟩) (show _ = (prL (v_lines x y)).map ePr by rw [List.map_map]; rfl))) db_nil) rcn_sortP)) db_nil) rc_tupL'

end
end DL
end

section
set_option Elab.async false
set_option linter.all false
set_option maxRecDepth 100000
set_option maxHeartbeats 4000000
namespace DL
open PySem PySem.Spec PyProof.Rows L2
open C8 (Cal pe_c Mak pe_mk)
local macro_rules | `(tactic| walk_at "si") => `(tactic| first
  | with_reducible assumption | omega | (simp only [rgI_len, List.length_map]; omega) | (simp only [decide_eq_true_eq, Bool.and_eq_true, Bool.not_eq_true', decide_eq_false_iff_not] at *; omega))
local macro_rules | `(tactic| walk_at "sz") => `(tactic| first
  | with_reducible assumption | omega | (simp only [rgI_len, List.length_map, List.length_append, List.length_cons, List.length_nil]; omega))
local macro_rules | `(tactic| walk_at "row") => `(tactic| first | with_reducible assumption | ((with_reducible refine Tbl.get (by with_reducible assumption) ?_); walk_at "wd") | exact row_mem (by with_reducible assumption) (by with_reducible assumption))
local macro_rules | `(tactic| walk_at "wd") => `(tactic| first | with_reducible assumption | omega | (constructor <;> omega) | ((with_reducible refine wd_get (by walk_at "row") ?_); walk_at "wd") | exact wd_mem (by with_reducible assumption) (by with_reducible assumption))
local macro_rules | `(tactic| walk_at "rk") => `(tactic| first
  | ((with_reducible apply ro_xL (by decide)); exact rfl) | ((with_reducible apply ro_xT (by decide)); exact rfl) | walk_at "ro")
local macro_rules | `(tactic| walk_at "ro") => `(tactic| first
  | with_reducible exact ro_b0 | with_reducible exact ro_l ro_eqI | with_reducible exact ro_l ro_neI | with_reducible exact ro_l ro_eqB | with_reducible exact ro_l ro_neB | with_reducible exact ro_l ro_eqS | with_reducible exact ro_l ro_neS
  | ((with_reducible refine ro_gLR (by with_reducible assumption) ?_); walk_at "wd") | ((with_reducible refine ro_gIR (by walk_at "row") ?_); walk_at "wd")
  | ((with_reducible refine ro_gI ?_ ?_) <;> walk_at "si") | ((with_reducible refine ro_gL ?_ ?_) <;> walk_at "si") | ((with_reducible refine ro_gIT ?_ ?_) <;> walk_at "si")
  | with_reducible exact ro_gG (by with_reducible assumption) | ((with_reducible refine ro_gT ?_ ?_) <;> walk_at "si")
  | ((with_reducible refine ro_gB ?_ ?_) <;> walk_at "si")
  | ((with_reducible refine ro_gS ?_ ?_) <;> walk_at "si") | ((with_reducible refine ro_gST ?_ ?_) <;> walk_at "si")
  | ((with_reducible refine ro_xM ?_ ?_) <;> walk_at "si") | ((with_reducible refine ro_xTM ?_ ?_) <;> walk_at "si")
  | ((with_reducible apply ro_xL (by decide)); exact rfl) | ((with_reducible apply ro_xT (by decide)); exact rfl)
  | with_reducible exact ro_eqIs | with_reducible exact ro_l ro_inL | with_reducible exact ro_l ro_niL | with_reducible exact ro_l ro_inT | with_reducible exact ro_l ro_inS | with_reducible exact ro_isNN | with_reducible exact ro_notNN | with_reducible exact ro_isNI | with_reducible exact ro_notNI)
local macro_rules | `(tactic| walk_at "rc") => `(tactic| with_reducible first
  | exact rc_lenM | exact rc_lenTM | exact rc_lenL' | exact rc_lenT' | exact rc_ii _ | exact rc_ib _ | exact rc_ss _ | exact rc_tt _ | exact rc_ltl _ | exact rc_ltt _ | exact rc_int | exact rc_abs | exact rc_max2 | exact rc_min2 | exact rc_all | exact rc_sum | exact rc_tupL' | exact rc_tupT' | exact rc_range1)
local macro_rules | `(tactic| walk_at "rcn") => `(tactic| with_reducible first
  | exact rcn_listL' | exact rcn_listT' | exact rcn_sortP)
local macro_rules | `(tactic| walk_at "pre") => `(tactic| first | with_reducible assumption | exact trivial | (refine And.intro ?_ ?_ <;> walk_at "pre") | walk_at "wd" | walk_at "si")
local macro_rules | `(tactic| walk_at "cmod") => `(tactic| (show (0 : Int) < _; first | decide | walk_at "si"))
local macro_rules | `(tactic| walk_at "cd") => `(tactic| (refine And.intro ?_ ?_ <;> walk_at "si"))
local macro_rules | `(tactic| walk_at "cp") => `(tactic| exact ⟨by decide, by decide, by decide⟩)
local macro_rules | `(tactic| walk_at "cm") => `(tactic| first | (refine Or.inl (And.intro ?_ ?_) <;> omega) | (refine Or.inr (And.intro ?_ ?_) <;> omega))
local macro_rules | `(tactic| walk_at "wk") => `(tactic| (repeat (first | exact Wk.nil | exact Wk.refl _ | refine Wk.same ?_ | refine Wk.frz ?_ | refine Wk.drop ?_)))
section
variable {P : PySem.Program} {w : World} {K : PySem.W.Frag} {mg : Str → Option Value} {base : Heap} {CL CB : Addr} (T : Txt K mg CL CB)
include T
structure FI (n m : Nat) (ps : List (Int × Int)) : Prop where
  wds : ∀ p ∈ ps, wd n p.1 ∧ wd m p.2
  nd : ps.Nodup
  nz : ((0, 0) : Int × Int) ∉ ps
omit T in
theorem FI.len {n m : Nat} {ps : List (Int × Int)} (h : FI n m ps) : ps.length ≤ n * m := by
  have := List.Nodup.length_le_of_subset h.nd (l₂ := allP n m) fun p hp => by
    obtain ⟨h1, h2⟩ := h.wds p hp
    exact List.mem_flatMap.mpr ⟨p.1, wd_rg.mp h1, List.mem_map.mpr ⟨p.2, wd_rg.mp h2, rfl⟩⟩
  rwa [allP_len] at this
omit T in
theorem FI.len81 {n m : Nat} {ps : List (Int × Int)} (h : FI n m ps) (hn : n ≤ 9) (hm : m ≤ 9) : ps.length ≤ 81 := by
  have h1 := h.len
  have : n * m ≤ 9 * 9 := Nat.mul_le_mul hn hm
  omega
def putP (f : List (Int × Int)) (c : Int × Int) : List (Int × Int) := cond (!decide (c = ((0, 0) : Int × Int)) && !hasN (f.map kP) (kP c)) (f ++ [c]) f
omit T in
theorem has_keyP (f : List (Int × Int)) (p : Int × Int) : hasN (f.map kP) (kP p) = decide (p ∈ f) := by
  unfold hasN
  apply decide_eq_decide.mpr
  rw [List.mem_map]
  constructor
  · rintro ⟨q, hq, e⟩; rw [← kP_inj e]; exact hq
  · intro h; exact ⟨p, h, rfl⟩
omit T in
theorem putP_cases (f : List (Int × Int)) (c : Int × Int) : (putP f c = f ∧ (c = (0, 0) ∨ c ∈ f)) ∨ (putP f c = f ++ [c] ∧ c ≠ (0, 0) ∧ c ∉ f) := by
  unfold putP
  rw [has_keyP]
  by_cases h1 : c = ((0, 0) : Int × Int)
  · rw [decide_eq_true h1]; exact .inl ⟨rfl, .inl h1⟩
  · by_cases h2 : c ∈ f
    · rw [decide_eq_false h1, decide_eq_true h2]; exact .inl ⟨rfl, .inr h2⟩
    · rw [decide_eq_false h1, decide_eq_false h2]; exact .inr ⟨rfl, h1, h2⟩
omit T in
theorem FI.put {n m : Nat} {f : List (Int × Int)} (h : FI n m f) {c : Int × Int} (hc : wd n c.1 ∧ wd m c.2) : FI n m (putP f c) := by
  rcases putP_cases f c with ⟨e, _⟩ | ⟨e, h1, h2⟩
  · rw [e]; exact h
  · rw [e]
    refine ⟨fun l hl => ?_, ?_, fun hm => ?_⟩
    · rcases List.mem_append.mp hl with hl | hl
      · exact h.wds l hl
      · rw [List.mem_singleton.mp hl]; exact hc
    · rw [List.nodup_append]
      exact ⟨h.nd, by simp, fun a ha b hb e => h2 (by rw [← List.mem_singleton.mp hb, ← e]; exact ha)⟩
    · rcases List.mem_append.mp hm with hm | hm
      · exact h.nz hm
      · exact h1 (List.mem_singleton.mp hm).symm
abbrev kA (w p m f : Int) : Int × Int := (cond (decide (m = 0)) 0 w, cond (decide (f = 0)) 0 p)
abbrev kB (w p m f : Int) : Int × Int := (cond (decide (w = 0)) 0 m, cond (decide (p = 0)) 0 f)
def v_nst (x y : LB) (c : Int × Int) (new : List (Int × Int)) (q : Int × Int) : List (Int × Int) :=
  let n1 := new ++ [(gI (gL x.js c.1) q.1, gI (gL y.js c.2) q.2)]
  let n2 := cond (!decide (decide (q.1 = 0) = decide (q.2 = 0))) (n1 ++ [kA c.1 c.2 q.1 q.2]) n1
  cond (!decide (decide (c.1 = 0) = decide (c.2 = 0))) (n2 ++ [kB c.1 c.2 q.1 q.2]) n2
def v_n0 (x y : LB) (w p : Int) : List (Int × Int) := (rgI 0 (v_rows x).length).map fun k => (gI (gL (v_rows x) k) w, gI (gL (v_rows y) k) p)
def gP (f : List (Int × Int)) (i : Int) : Int × Int := f.getD i.toNat default
def v_news (x y : LB) (f : List (Int × Int)) (a : Int) : List (Int × Int) := (cutD f none (some (a + 1))).foldl (v_nst x y (gP f a)) (v_n0 x y (gP f a).1 (gP f a).2)
def v_cs (x y : LB) (f : List (Int × Int)) (a : Int) : List (Int × Int) := if a < f.length then (v_news x y f a).foldl putP f else f
def v_found (x y : LB) : List (Int × Int) := (rgI 0 (x.js.length * y.js.length)).foldl (v_cs x y) [(x.fi, y.fi)]
omit T in
theorem ro_gP {K : PySem.W.Frag} {f : List (Int × Int)} {i : Int} (h0 : 0 ≤ i) (h : i < f.length) : RO (rIx K) (.lst (f.map ePr)) (.int i) (ePr (gP f i)) := ro_xM h0 (by omega)
omit T in
theorem gP_mem {f : List (Int × Int)} {i : Int} (h0 : 0 ≤ i) (h : i < f.length) : gP f i ∈ f := getD_mem (by omega)
structure NwI (n m k : Nat) (ps : List (Int × Int)) : Prop where
  wds : ∀ p ∈ ps, wd n p.1 ∧ wd m p.2
  len : ps.length ≤ k
omit T in
theorem NwI.app {n m k : Nat} {ps : List (Int × Int)} (h : NwI n m k ps) {c : Int × Int} (hc : wd n c.1 ∧ wd m c.2) : NwI n m (k + 1) (ps ++ [c]) := ⟨fun l hl => by
  rcases List.mem_append.mp hl with hl | hl
  · exact h.wds l hl
  · rw [List.mem_singleton.mp hl]; exact hc, by have := h.len; rw [List.length_append, List.length_singleton]; omega⟩
omit T in
theorem NwI.mono {n m k k' : Nat} {ps : List (Int × Int)} (h : NwI n m k ps) (hk : k ≤ k') : NwI n m k' ps := ⟨h.wds, Nat.le_trans h.len hk⟩
omit T in
theorem NwI.cond {n m k : Nat} {ps : List (Int × Int)} (h : NwI n m k ps) {c : Int × Int} (hc : wd n c.1 ∧ wd m c.2) (b : Bool) : NwI n m (k + 1) (cond b (ps ++ [c]) ps) := by
  cases b
  · exact h.mono (by omega)
  · exact h.app hc
omit T in
theorem wd_cond {n : Nat} {b : Bool} {x : Int} (hx : wd n x) (hn : 0 < n) : wd n (cond b 0 x) := by
  cases b
  · exact hx
  · exact ⟨Int.le_refl 0, by show (0 : Int) < n; omega⟩
omit T in
theorem nst_I {x y : LB} (hx : WF x) (hy : WF y) {c q : Int × Int} {k : Nat} {new : List (Int × Int)} (hc : wd x.js.length c.1 ∧ wd y.js.length c.2) (hq : wd x.js.length q.1 ∧ wd y.js.length q.2) (h : NwI x.js.length y.js.length k new) : NwI x.js.length y.js.length (k + 3) (v_nst x y c new q) := by
  have n2 := hx.n2
  have m2 := hy.n2
  exact ((h.app ⟨(hx.js.get hc.1).get hq.1, (hy.js.get hc.2).get hq.2⟩).cond (c := kA c.1 c.2 q.1 q.2) ⟨wd_cond hc.1 (by omega), wd_cond hc.2 (by omega)⟩ _).cond (c := kB c.1 c.2 q.1 q.2) ⟨wd_cond hq.1 (by omega), wd_cond hq.2 (by omega)⟩ _
omit T in
theorem n0_I {x y : LB} (hx : WF x) (hy : WF y) (hl : (v_rows x).length = (v_rows y).length) {w p : Int} (hw : wd x.js.length w) (hp : wd y.js.length p) : NwI x.js.length y.js.length 12 (v_n0 x y w p) := by
  refine ⟨fun q hq => ?_, by unfold v_n0; rw [List.length_map, rgI_len]; exact rows_len hx⟩
  obtain ⟨k, hk, rfl⟩ := List.mem_map.mp hq
  have hk := wd_rg.mpr hk
  exact ⟨((rows_tbl hx).get hk).get hw, ((rows_tbl hy).get (hl ▸ hk)).get hp⟩
omit T in
theorem fold_id {α β : Type} {f : β → α → β} {b : β} : ∀ {xs : List α}, (∀ x ∈ xs, f b x = b) → xs.foldl f b = b
  | [], _ => rfl
  | x :: xs, h => by rw [List.foldl_cons, h x List.mem_cons_self]; exact fold_id fun y hy => h y (List.mem_cons_of_mem _ hy)
omit T in
theorem cs_stop {x y : LB} {f : List (Int × Int)} {n N : Nat} (h : f.length ≤ n) : ((rgI 0 N).drop n).foldl (v_cs x y) f = f := fold_id fun a ha => by
  have : (n : Int) ≤ a := by
    obtain ⟨i, hi, rfl⟩ := List.getElem_of_mem ha
    have hi' := hi
    rw [List.length_drop] at hi'
    have := (rgI_get (lo := 0) (n := N) (i := n + i) (x := ((rgI 0 N).drop n)[i]) (by rw [← List.getElem?_drop, List.getElem?_eq_getElem hi])).1
    omega
  unfold v_cs
  rw [if_neg (by omega)]
def v_due (x y : LB) : List (Int × Int) := srtP (v_found x y)
omit T in
theorem cs_I {x y : LB} (h : WF x) (h2 : WF y) (hl : (v_rows x).length = (v_rows y).length) {f : List (Int × Int)} {a : Int} (ha : 0 ≤ a) (hI : FI x.js.length y.js.length f) : FI x.js.length y.js.length (v_cs x y f a) := by
  unfold v_cs
  by_cases hlt : a < f.length
  · rw [if_pos hlt]
    have hc := hI.wds _ (gP_mem ha hlt)
    have hN : NwI x.js.length y.js.length (12 + 3 * (cutD f none (some (a + 1))).length) (v_news x y f a) := by
      have : ∀ (qs : List (Int × Int)) (k : Nat) (new : List (Int × Int)), (∀ q ∈ qs, q ∈ f) → NwI x.js.length y.js.length k new → NwI x.js.length y.js.length (k + 3 * qs.length) (qs.foldl (v_nst x y (gP f a)) new) := by
        intro qs
        induction qs with
        | nil => intro k new _ hn; exact hn
        | cons q qs ih =>
          intro k new hq hn
          have := ih (k + 3) _ (fun r hr => hq r (List.mem_cons_of_mem _ hr)) (nst_I h h2 hc (hI.wds q (hq q List.mem_cons_self)) hn)
          rw [List.length_cons, show k + 3 * (qs.length + 1) = k + 3 + 3 * qs.length by omega]
          exact this
      exact this _ _ _ (fun q hq => cutD_mem hq) (n0_I h h2 hl hc.1 hc.2)
    exact foldl_inv (FI x.js.length y.js.length) _ _ hI fun f' c hc' hf => hf.put (hN.wds c hc')
  · rw [if_neg hlt]; exact hI
abbrev S_law_couples : Stmt := top 117
abbrev N_law_couples : List Str := ["_law_one", "_law_other", "_law_left", "_law_right", "_law_found", "_law_had", "_law_at", "_law_word", "_law_partner", "_law_new", "_law_mate", "_law_friend", "_law_couple", "_law_pair", "_law_k"]
omit T in
theorem sc__law_couples : FnScope N_law_couples ["_law_one", "_law_other"] (defScope S_law_couples) := ⟨rfl, rfl, rfl, by decide +kernel, rfl, by decide +kernel, by decide +kernel⟩
def sp__law_couples : Sp := spD (α := LB × LB) (fun ⟨x, y⟩ => [eLB x, eLB y]) (fun ⟨x, y⟩ => WF x ∧ WF y ∧ (v_rows x).length = (v_rows y).length ∧ 0 < x.fi) (fun ⟨x, y⟩ => .lst ((v_due x y).map ePr))
omit T in
theorem d__law_couples {ρ : List Sl} {t : TA} {E : XK} {x y : LB} (h : DA t ρ [eLB x, eLB y]) (hp : WF x ∧ WF y ∧ (v_rows x).length = (v_rows y).length ∧ 0 < x.fi) : DE (tCall sp__law_couples [] E t) ρ (.lst ((v_due x y).map ePr)) := de_call (α := LB × LB) (enc := fun ⟨x, y⟩ => [eLB x, eLB y]) (pre := fun ⟨x, y⟩ => WF x ∧ WF y ∧ (v_rows x).length = (v_rows y).length ∧ 0 < x.fi) (val := fun ⟨x, y⟩ => .lst ((v_due x y).map ePr)) ⟨x, y⟩ h rfl hp
theorem c__law_couples : Cal P w K mg base 2 "_law_couples" sp__law_couples [] :=
  cal_def (α := LB × LB) (enc := fun ⟨x, y⟩ => [eLB x, eLB y]) (pre := fun ⟨x, y⟩ => WF x ∧ WF y ∧ (v_rows x).length = (v_rows y).length ∧ 0 < x.fi) (val := fun ⟨x, y⟩ => .lst ((v_due x y).map ePr)) T.f__law_couples sc__law_couples (fun ⟨x, y⟩ => rfl) (fun _ _ _ _ _ _ us hl => match us, hl with | [_, _], _ => rfl) fun f cdv A outer s H E hr ⟨x, y⟩ hp => by
    (try dsimp only at hp)
    have nd := sc__law_couples.nd
    refine ⟨_, (pss_cons (ps_set (i := 2) nd rfl (.inr rfl) (pe_lc (own := [("_law_pair", 13)]) rfl nd (pilk K (pe_c (c__law_steps T) hr (by decide) rfl (pa_cons (pv 0) pa_nil))) (blkOk_by (sc := defScope S_law_couples) (N := N_law_couples) (own := [("_law_pair", 13)]) (by decide +kernel)) (fun _ _ _ _ _ => (pg_name (i := 13) nd rfl (by first | exact .inl rfl | exact .inr rfl))) (fun _ _ _ _ _ => pts_nil) (fun _ _ _ _ _ => (pe_ix (ixk K) (pv 13) pe_int (fun _ _ => rfl)))))
    (pss_cons (ps_set (i := 3) nd rfl (.inr rfl) (pe_lc (own := [("_law_pair", 13)]) rfl nd (pilk K (pe_c (c__law_steps T) hr (by decide) rfl (pa_cons (pv 1) pa_nil))) (blkOk_by (sc := defScope S_law_couples) (N := N_law_couples) (own := [("_law_pair", 13)]) (by decide +kernel)) (fun _ _ _ _ _ => (pg_name (i := 13) nd rfl (by first | exact .inl rfl | exact .inr rfl))) (fun _ _ _ _ _ => pts_nil) (fun _ _ _ _ _ => (pe_ix (ixk K) (pv 13) pe_int (fun _ _ => rfl)))))
    (pss_cons (ps_set (i := 4) nd rfl (.inl rfl) (pe_lst (pa_cons (pe_tup (pa_cons (pe_ix (ixk K) (pv 0) pe_int (fun _ _ => rfl)) (pa_cons (pe_ix (ixk K) (pv 1) pe_int (fun _ _ => rfl)) pa_nil))) pa_nil)))
    (pss_cons (ps_set (i := 5) nd rfl (.inl rfl) (pe_dispT1 (hu_of hr) (pe_ix (ixk K) (pv 4) pe_int (fun _ _ => rfl)) pe_bl))
    (pss_cons (ps_for PassesOwn.never rfl (pi_range1 rfl T.m_range (pa_cons (pe_op op_mulA (pe_callB (lenk K) rfl T.m_len (by decide +kernel) (pa_cons (pe_ix (ixk K) (pv 0) pe_int (fun _ _ => rfl)) pa_nil)) (pe_callB (lenk K) rfl T.m_len (by decide +kernel) (pa_cons (pe_ix (ixk K) (pv 1) pe_int (fun _ _ => rfl)) pa_nil))) pa_nil)) (pg_name (i := 6) nd rfl (.inl rfl))
    (pss_cons (ps_if (pt_cmpR op_ge (pv 6) (pe_callB (lenk K) rfl T.m_len (by decide +kernel) (pa_cons (pv 4) pa_nil)) (nomark _)) (pss_one (ps_break)) pss_nil)
    (pss_cons (ps_asg (pe_ix (ixk K) (pv 4) (pv 6) (fun _ _ => rfl)) (pgtk (n := 2) K rfl (pgs_cons (pg_name (i := 7) nd rfl (.inr rfl)) (pgs_cons (pg_name (i := 8) nd rfl (.inr rfl)) pgs_nil))))
    (pss_cons (ps_setLc (i := 9) (own := [("_law_k", 14)]) rfl nd rfl rfl (sw_true rfl rfl rfl (by decide +kernel)) (pi_range1 rfl T.m_range (pa_cons (pe_callB (lenk K) rfl T.m_len (by decide +kernel) (pa_cons (pv 2) pa_nil)) pa_nil)) (blkOk_by (sc := defScope S_law_couples) (N := N_law_couples) (own := [("_law_k", 14)]) (by decide +kernel)) (fun _ _ _ _ _ => (pg_name (i := 14) nd rfl (by first | exact .inl rfl | exact .inr rfl))) (fun _ _ _ _ _ => pts_nil) (fun _ _ _ _ _ => (pe_tup (pa_cons (pe_ix (ixk K) (pe_ix (ixk K) (pv 2) (pv 14) (fun _ _ => rfl)) (pv 7) (fun _ _ => rfl)) (pa_cons (pe_ix (ixk K) (pe_ix (ixk K) (pv 3) (pv 14) (fun _ _ => rfl)) (pv 8) (fun _ _ => rfl)) pa_nil)))))
    (pss_cons (ps_for PassesOwn.never rfl (pilk K (pe_slice (slk K) (pv 4) po_none (po_some (pe_op op_addA (pv 6) pe_int)))) (pgtk (n := 2) K rfl (pgs_cons (pg_name (i := 10) nd rfl (.inl rfl)) (pgs_cons (pg_name (i := 11) nd rfl (.inl rfl)) pgs_nil)))
    (pss_cons (ps_expr (bmk K PySem.F.plainAttrs_list PySem.F.slot_list_append PySem.F.type_list_append mt_append (pv 9) (pa_cons (pe_tup (pa_cons (pe_ix (ixk K) (pe_ix (ixk K) (pe_ix (ixk K) (pv 0) pe_int (fun _ _ => rfl)) (pv 7) (fun _ _ => rfl)) (pv 10) (fun _ _ => rfl)) (pa_cons (pe_ix (ixk K) (pe_ix (ixk K) (pe_ix (ixk K) (pv 1) pe_int (fun _ _ => rfl)) (pv 8) (fun _ _ => rfl)) (pv 11) (fun _ _ => rfl)) pa_nil))) pa_nil)))
    (pss_cons (ps_if (pt_cmpR (nek K hr) (pe_cmpR (eqk K hr) (pv 10) pe_int (nomark _)) (pe_cmpR (eqk K hr) (pv 11) pe_int (nomark _)) (nomark _)) (pss_one (ps_expr (bmk K PySem.F.plainAttrs_list PySem.F.slot_list_append PySem.F.type_list_append mt_append (pv 9) (pa_cons (pe_tup (pa_cons (pe_ifExp (pt_cmpR (eqk K hr) (pv 10) pe_int (nomark _)) pe_int (pv 7)) (pa_cons (pe_ifExp (pt_cmpR (eqk K hr) (pv 11) pe_int (nomark _)) pe_int (pv 8)) pa_nil))) pa_nil)))) pss_nil)
    (pss_one (ps_if (pt_cmpR (nek K hr) (pe_cmpR (eqk K hr) (pv 7) pe_int (nomark _)) (pe_cmpR (eqk K hr) (pv 8) pe_int (nomark _)) (nomark _)) (pss_one (ps_expr (bmk K PySem.F.plainAttrs_list PySem.F.slot_list_append PySem.F.type_list_append mt_append (pv 9) (pa_cons (pe_tup (pa_cons (pe_ifExp (pt_cmpR (eqk K hr) (pv 7) pe_int (nomark _)) pe_int (pv 10)) (pa_cons (pe_ifExp (pt_cmpR (eqk K hr) (pv 8) pe_int (nomark _)) pe_int (pv 11)) pa_nil))) pa_nil)))) pss_nil)))))
    (pss_one (ps_for PassesOwn.never rfl (pilk K (pv 9)) (pg_name (i := 12) nd rfl (.inl rfl))
    (pss_one (ps_if (PW.pt (pw_and (pt_cmpR (nek K hr) (pv 12) (pe_tup (pa_cons pe_int (pa_cons pe_int pa_nil))) (nomark _)) (pw_and1 (pt_cmp (pc_dnotin (hu_of hr) (pv 12) (pv 5)) rfl)))) (pss_cons (ps_dput (hu_of hr) (pv 5) (pv 12) pe_bl rfl)
    (pss_one (ps_expr (bmk K PySem.F.plainAttrs_list PySem.F.slot_list_append PySem.F.type_list_append mt_append (pv 4) (pa_cons (pv 12) pa_nil))))) pss_nil)))))))))
    (pss_one (ps_ret (pe_callB (srPk K) rfl T.m_sorted (by decide +kernel) (pa_cons (pv 4) pa_nil))))))))), ?_⟩
    obtain ⟨hx, hy, hl, hfi⟩ := hp
    have n9 := hx.n9
    have m9 := hy.n9
    have hr12 := rows_len hx
    have tx := rows_tbl hx
    have ty := rows_tbl hy
    have jx := hx.js
    have jy := hy.js
    have hs1 : (v_steps x).length ≤ 50000 := by have := hr12; unfold v_rows at this; rw [List.length_map] at this; omega
    have hs2 : (v_steps y).length ≤ 50000 := by have := rows_len hy; unfold v_rows at this; rw [List.length_map] at this; omega
    have nm : x.js.length * y.js.length ≤ 81 := Nat.mul_le_mul n9 m9
    have hrange : -1000000 < (x.js.length : Int) * (y.js.length : Int) ∧ (x.js.length : Int) * (y.js.length : Int) < 1000000 := by
      have h : ((x.js.length * y.js.length : Nat) : Int) ≤ 81 := by omega
      have h2 := Int.natCast_nonneg (x.js.length * y.js.length)
      rw [Int.natCast_mul] at h h2
      omega
    show DS _ [.val (eLB x), .val (eLB y), .any, .any, .any, .any, .any, .any, .any, .any, .any, .any, .any, .any, .any] _
    refine ds_setS (d := eTb (v_rows x)) (dn_de (dn_lc2 eIs (dw_list (d__law_steps (da_cons (de_var rfl) da_nil) (hx)              )) (by walk_at "sz") (by decide) (fun x_pair hx_x_pair => by (try rw [mem_rgI] at hx_x_pair); exact (de_op (dq_of (de_var rfl)) (dq_of de_int) (by walk_at "rk"))))) ?_
    refine ds_setS (d := eTb (v_rows y)) (dn_de (dn_lc2 eIs (dw_list (d__law_steps (da_cons (de_var rfl) da_nil) (hy)              )) (by walk_at "sz") (by decide) (fun x_pair hx_x_pair => by (try rw [mem_rgI] at hx_x_pair); exact (de_op (dq_of (de_var rfl)) (dq_of de_int) (by walk_at "rk"))))) ?_
    refine ds_setNS (ds := List.map ePr [(x.fi, y.fi)]) (dn_is (dn_lst (da_cons (de_tup (da_cons (de_op (dq_of (de_var rfl)) (dq_of de_int) (by walk_at "rk")) (da_cons (de_op (dq_of (de_var rfl)) (dq_of de_int) (by walk_at "rk")) da_nil)) (Nat.le_of_ble_eq_true rfl)) da_nil) (Nat.le_of_ble_eq_true rfl)) (rfl : _ = List.map ePr [(x.fi, y.fi)])) ?_
    refine ds_seq (ds_disp (a := x.fi) (b := y.fi) (de_op (by first | exact dq_of (de_var rfl) | exact dq_own rfl) (dq_of de_int) (by walk_at "rk")) de_bl ?_)
    have F0 : FI x.js.length y.js.length [(x.fi, y.fi)] := ⟨fun p hp => by rw [List.mem_singleton.mp hp]; exact ⟨hx.fi, hy.fi⟩, by simp, fun h => by
      have := List.mem_singleton.mp h
      injection this with h1 _
      omega⟩
    show DS _ [.val (eLB x), .val (eLB y), .val (eTb (v_rows x)), .val (eTb (v_rows y)), .mu none (.lst ([(x.fi, y.fi)].map ePr)), .mu none (.dic ([(x.fi, y.fi)].map kP)), .any, .any, .any, .any, .any, .any, .any, .any, .any] _
    refine ds_seq (ds_for (rgI 0 (x.js.length * y.js.length)) DV.int (fun n ρ => ∃ f, ρ = [.val (eLB x), .val (eLB y), .val (eTb (v_rows x)), .val (eTb (v_rows y)), .mu none (.lst (f.map ePr)), .mu none (.dic (f.map kP)), .any, .any, .any, .any, .any, .any, .any, .any, .any] ∧ FI x.js.length y.js.length f ∧ f = ((rgI 0 (x.js.length * y.js.length)).take n).foldl (v_cs x y) [(x.fi, y.fi)]) (dw_is (dw_range1 (da_cons (de_op (dq_of (de_cb (db_cons (dq_of (de_op (dq_of (de_var rfl)) (dq_of de_int) (by walk_at "rk"))) db_nil) (by walk_at "rc"))) (dq_of (de_cb (db_cons (dq_of (de_op (dq_of (de_var rfl)) (dq_of de_int) (by walk_at "rk"))) db_nil) (by walk_at "rc"))) (ro_l (ro_i (by walk_at "cm")))) da_nil) (by walk_at "si")) (by rw [← Int.natCast_mul, Int.toNat_natCast])) ⟨_, by walk_at "wk", _, rfl, F0, rfl⟩ (fun n a ρ ha hJ => ?_) fun ρ hJ => ?_)
    · obtain ⟨f, rfl, hI, hf⟩ := hJ
      have ha2 := ha
      obtain ⟨rfl, hn⟩ := rgI_get ha
      have hlen := hI.len81 n9 m9
      refine ⟨_, _, dg_name, ?_⟩
      rw [Int.zero_add]
      rw [Int.zero_add] at ha2
      show DS _ [.val (eLB x), .val (eLB y), .val (eTb (v_rows x)), .val (eTb (v_rows y)), .mu none (.lst (f.map ePr)), .mu none (.dic (f.map kP)), .val (.int (n : Int)), .any, .any, .any, .any, .any, .any, .any, .any] _
      have hnx := foldl_take (v_cs x y) [(x.fi, y.fi)] ha2
      refine ds_seq (ds_if (dt_test (de_op (dq_of (de_var rfl)) (dq_of (de_cb (db_cons (by first | exact dq_of (de_var rfl) | exact dq_own rfl) db_nil) (by walk_at "rc"))) ro_b0)) (fun hb => ds_brk ?_) fun hb => ds_next ?_)
      · have hge := of_decide_eq_true hb
        have e1 : v_found x y = f := by
          unfold v_found
          rw [← List.take_append_drop n (rgI 0 (x.js.length * y.js.length)), List.foldl_append, ← hf]
          exact cs_stop (by omega)
        refine ds_wk (ρ' := [.any, .any, .any, .any, .val (.lst (f.map ePr)), .any, .any, .any, .any, .any, .any, .any, .any, .any, .any]) (by walk_at "wk") ?_
        exact ds_ret (dn_de (dn_cb (db_cons (by first | exact dq_of (de_var rfl) | exact dq_own rfl) db_nil) (by walk_at "rcn"))) (show DV.lst ((srtP f).map ePr) = .lst ((v_due x y).map ePr) by rw [v_due, e1])
      · have hlt : (n : Int) < f.length := by have := of_decide_eq_false hb; omega
        have hcs := cs_I hx hy hl (a := (n : Int)) (by omega) hI
        have ecs : v_cs x y f (n : Int) = (v_news x y f (n : Int)).foldl putP f := by unfold v_cs; rw [if_pos hlt]
        have hc := hI.wds _ (gP_mem (i := (n : Int)) (by omega) hlt)
        have enw : v_news x y f (n : Int) = (cutD f none (some ((n : Int) + 1))).foldl (v_nst x y (gP f (n : Int))) (v_n0 x y (gP f (n : Int)).1 (gP f (n : Int)).2) := rfl
        have hcut := cutD_len f none (some ((n : Int) + 1))
        have hcm : ∀ q ∈ cutD f none (some ((n : Int) + 1)), q ∈ f := fun q hq => cutD_mem hq
        have h0 := n0_I hx hy hl hc.1 hc.2
        show DS _ [.val (eLB x), .val (eLB y), .val (eTb (v_rows x)), .val (eTb (v_rows y)), .mu none (.lst (f.map ePr)), .mu none (.dic (f.map kP)), .val (.int (n : Int)), .any, .any, .any, .any, .any, .any, .any, .any] _
        refine ds_seq (ds_asg (de_op (by first | exact dq_of (de_var rfl) | exact dq_own rfl) (dq_of (de_var rfl)) (ro_gP (by omega) (by omega))) (dg_tup rfl (dgs_cons dg_name (dgs_cons dg_name dgs_nil))) ?_)
        rcases hwp : gP f (n : Int) with ⟨w, p⟩
        rw [hwp] at hc enw h0
        dsimp only at hc h0
        obtain ⟨hw, hp⟩ := hc
        show DS _ [.val (eLB x), .val (eLB y), .val (eTb (v_rows x)), .val (eTb (v_rows y)), .mu none (.lst (f.map ePr)), .mu none (.dic (f.map kP)), .val (.int (n : Int)), .val (.int w), .val (.int p), .any, .any, .any, .any, .any, .any] _
        have hkx : ∀ k, k ∈ rgI 0 (v_rows x).length → wd (v_rows x).length k ∧ wd (v_rows y).length k := fun k hk => ⟨wd_rg.mpr hk, hl ▸ wd_rg.mpr hk⟩
        refine ds_setNS (ds := (v_n0 x y w p).map ePr) (dn_lc2 (e := fun k => (gI (gL (v_rows x) k) w, gI (gL (v_rows y) k) p)) ePr (dw_rangeN (da_cons (de_cb (db_cons (dq_of (de_var rfl)) db_nil) (by walk_at "rc")) da_nil) (by walk_at "si")) (by walk_at "sz") (by decide) (fun x_k hx_x_k => by (try rw [mem_rgI] at hx_x_k); exact (de_tup (da_cons (de_op (dq_of (de_op (dq_of (de_var rfl)) (dq_of (de_var rfl)) (by walk_at "ro"))) (dq_of (de_var rfl)) (by walk_at "ro")) (da_cons (de_op (dq_of (de_op (dq_of (de_var rfl)) (dq_of (de_var rfl)) (ro_gLR ty (hkx _ (mem_rgI.mpr hx_x_k)).2))) (dq_of (de_var rfl)) (ro_gIR (ty.get (hkx _ (mem_rgI.mpr hx_x_k)).2) hp)) da_nil)) (Nat.le_of_ble_eq_true rfl)))) ?_
        refine ds_seq (ds_foldT (xs := cutD f none (some ((n : Int) + 1))) (enc := ePr) (fun new => [.val (eLB x), .val (eLB y), .val (eTb (v_rows x)), .val (eTb (v_rows y)), .mu none (.lst (f.map ePr)), .mu none (.dic (f.map kP)), .val (.int (n : Int)), .val (.int w), .val (.int p), .mu none (.lst ((new).map ePr)), .any, .any, .any, .any, .any]) (v_nst x y (w, p)) (v_n0 x y w p) (fun k new => NwI x.js.length y.js.length (12 + 3 * k) new) (dw_list (dn_de (dn_slM (by first | exact dq_of (de_var rfl) | exact dq_own rfl) do_none (do_some (de_op (dq_of (de_var rfl)) (dq_of de_int) (ro_l ro_i0)))))) (by walk_at "wk") h0 (fun k new q hq hN => ?_) fun hN => ?_)
        · have hk := getElem?_lt hq
          have hq := hI.wds q (hcm q (List.mem_of_getElem? hq))
          obtain ⟨m1, f1⟩ := q
          dsimp only at hq
          obtain ⟨hm1, hf1⟩ := hq
          have hnl := hN.len
          have hst := nst_I hx hy (c := (w, p)) (q := (m1, f1)) ⟨hw, hp⟩ ⟨hm1, hf1⟩ hN
          refine ⟨_, _, dg_tup rfl (dgs_cons dg_name (dgs_cons dg_name dgs_nil)), ?_⟩
          show DS _ [.val (eLB x), .val (eLB y), .val (eTb (v_rows x)), .val (eTb (v_rows y)), .mu none (.lst (f.map ePr)), .mu none (.dic (f.map kP)), .val (.int (n : Int)), .val (.int w), .val (.int p), .mu none (.lst ((new).map ePr)), .val (.int m1), .val (.int f1), .any, .any, .any] _
          refine ds_appMS (enc := ePr) (x := (gI (gL x.js w) m1, gI (gL y.js p) f1)) rfl (de_tup (da_cons (de_op (dq_of (de_op (dq_of (de_op (dq_of (de_var rfl)) (dq_of de_int) (by walk_at "rk"))) (dq_of (de_var rfl)) (by walk_at "ro"))) (dq_of (de_var rfl)) (by walk_at "ro")) (da_cons (de_op (dq_of (de_op (dq_of (de_op (dq_of (de_var rfl)) (dq_of de_int) (by walk_at "rk"))) (dq_of (de_var rfl)) (by walk_at "ro"))) (dq_of (de_var rfl)) (by walk_at "ro")) da_nil)) (Nat.le_of_ble_eq_true rfl)) (by omega) ?_
          have e0 : v_nst x y (w, p) new (m1, f1) = cond (!decide (decide (w = 0) = decide (p = 0))) (cond (!decide (decide (m1 = 0) = decide (f1 = 0))) (new ++ [(gI (gL x.js w) m1, gI (gL y.js p) f1)] ++ [kA w p m1 f1]) (new ++ [(gI (gL x.js w) m1, gI (gL y.js p) f1)]) ++ [kB w p m1 f1]) (cond (!decide (decide (m1 = 0) = decide (f1 = 0))) (new ++ [(gI (gL x.js w) m1, gI (gL y.js p) f1)] ++ [kA w p m1 f1]) (new ++ [(gI (gL x.js w) m1, gI (gL y.js p) f1)])) := rfl
          have l1 : (new ++ [(gI (gL x.js w) m1, gI (gL y.js p) f1)]).length ≤ 1000 := by rw [List.length_append, List.length_singleton]; omega
          generalize new ++ [(gI (gL x.js w) m1, gI (gL y.js p) f1)] = n1 at e0 l1
          show DS _ [.val (eLB x), .val (eLB y), .val (eTb (v_rows x)), .val (eTb (v_rows y)), .mu none (.lst (f.map ePr)), .mu none (.dic (f.map kP)), .val (.int (n : Int)), .val (.int w), .val (.int p), .mu none (.lst ((n1).map ePr)), .val (.int m1), .val (.int f1), .any, .any, .any] _
          refine ds_ifM (fun b => [.val (eLB x), .val (eLB y), .val (eTb (v_rows x)), .val (eTb (v_rows y)), .mu none (.lst (f.map ePr)), .mu none (.dic (f.map kP)), .val (.int (n : Int)), .val (.int w), .val (.int p), .mu none (.lst ((cond b (n1 ++ [kA w p m1 f1]) n1).map ePr)), .val (.int m1), .val (.int f1), .any, .any, .any]) (dt_test (de_op (dq_of (de_op (dq_of (de_var rfl)) (dq_of de_int) (by walk_at "ro"))) (dq_of (de_op (dq_of (de_var rfl)) (dq_of de_int) (by walk_at "ro"))) (by walk_at "ro"))) (fun _ => ds_appM (enc := ePr) (x := kA w p m1 f1) rfl (de_tup (da_cons (de_ifI (dt_test (de_op (dq_of (de_var rfl)) (dq_of de_int) (by walk_at "ro"))) (fun hi => de_int) (fun hi => (de_var rfl))) (da_cons (de_ifI (dt_test (de_op (dq_of (de_var rfl)) (dq_of de_int) (by walk_at "ro"))) (fun hi => de_int) (fun hi => (de_var rfl))) da_nil)) (Nat.le_of_ble_eq_true rfl)) (by omega) (by walk_at "wk")) (fun _ => by walk_at "wk") ?_
          have l2 : (cond (!decide (decide (m1 = 0) = decide (f1 = 0))) (n1 ++ [kA w p m1 f1]) n1).length ≤ 2000 := by
            cases (!decide (decide (m1 = 0) = decide (f1 = 0)))
            · show n1.length ≤ _; omega
            · show (n1 ++ [_]).length ≤ _; rw [List.length_append, List.length_singleton]; omega
          generalize cond (!decide (decide (m1 = 0) = decide (f1 = 0))) (n1 ++ [kA w p m1 f1]) n1 = n2 at e0 l2
          show DS _ [.val (eLB x), .val (eLB y), .val (eTb (v_rows x)), .val (eTb (v_rows y)), .mu none (.lst (f.map ePr)), .mu none (.dic (f.map kP)), .val (.int (n : Int)), .val (.int w), .val (.int p), .mu none (.lst ((n2).map ePr)), .val (.int m1), .val (.int f1), .any, .any, .any] _
          have hst2 : NwI x.js.length y.js.length (12 + 3 * (k + 1)) (v_nst x y (w, p) new (m1, f1)) := hst.mono (by omega)
          refine ds_if (dt_test (de_op (dq_of (de_op (dq_of (de_var rfl)) (dq_of de_int) (by walk_at "ro"))) (dq_of (de_op (dq_of (de_var rfl)) (dq_of de_int) (by walk_at "ro"))) (by walk_at "ro"))) (fun hb => ds_appM (enc := ePr) (x := kB w p m1 f1) rfl (de_tup (da_cons (de_ifI (dt_test (de_op (dq_of (de_var rfl)) (dq_of de_int) (by walk_at "ro"))) (fun hi => de_int) (fun hi => (de_var rfl))) (da_cons (de_ifI (dt_test (de_op (dq_of (de_var rfl)) (dq_of de_int) (by walk_at "ro"))) (fun hi => de_int) (fun hi => (de_var rfl))) da_nil)) (Nat.le_of_ble_eq_true rfl)) (by omega) ⟨?_, hst2⟩) fun hb => ds_next ⟨?_, hst2⟩
          · rw [e0, hb]; walk_at "wk"
          · rw [e0, hb]; walk_at "wk"
        · have hN : NwI x.js.length y.js.length (12 + 3 * (cutD f none (some ((n : Int) + 1))).length) (v_news x y f (n : Int)) := by rw [enw]; exact hN
          generalize hnw : (cutD f none (some ((n : Int) + 1))).foldl (v_nst x y (w, p)) (v_n0 x y w p) = nw at enw
          rw [enw] at hN ecs
          have hnl := hN.len
          refine ds_wk (ρ' := [.val (eLB x), .val (eLB y), .val (eTb (v_rows x)), .val (eTb (v_rows y)), .mu none (.lst (f.map ePr)), .mu none (.dic (f.map kP)), .any, .any, .any, .val (.lst (nw.map ePr)), .any, .any, .any, .any, .any]) (by walk_at "wk") ?_
          refine ds_fold (xs := nw) (enc := ePr) (fun f => [.val (eLB x), .val (eLB y), .val (eTb (v_rows x)), .val (eTb (v_rows y)), .mu none (.lst (f.map ePr)), .mu none (.dic (f.map kP)), .any, .any, .any, .val (.lst (nw.map ePr)), .any, .any, .any, .any, .any]) putP f (fun _ f => FI x.js.length y.js.length f) (dw_list (de_var rfl)) (by walk_at "wk") hI (fun k f1 c hc hF => ?_) fun hF => ⟨_, ?_, nw.foldl putP f, rfl, hF, ?_⟩
          · have hc := hN.wds c (List.mem_of_getElem? hc)
            have hfl := hF.len81 n9 m9
            have hFn := hF.put hc
            obtain ⟨c1, c2⟩ := c
            show DS _ [.val (eLB x), .val (eLB y), .val (eTb (v_rows x)), .val (eTb (v_rows y)), .mu none (.lst (f1.map ePr)), .mu none (.dic (f1.map kP)), .any, .any, .any, .val (.lst (nw.map ePr)), .any, .any, .val (ePr (c1, c2)), .any, .any] _
            refine ds_if (dt_and (dt_test (de_op (dq_of (de_var rfl)) (dq_of (de_tup (da_cons de_int (da_cons de_int da_nil)) (Nat.le_of_ble_eq_true rfl))) (ro_nePr (p := (c1, c2)) (q := (0, 0))))) (fun _ => (dt_B (de_dniT rfl (de_var rfl))))) (fun hb => ?_) fun hb => ds_next ⟨?_, hFn⟩
            · have hb2 : putP f1 (c1, c2) = f1 ++ [(c1, c2)] := by unfold putP; rw [show (!decide ((c1, c2) = ((0, 0) : Int × Int)) && !hasN (f1.map kP) (kP (c1, c2))) = true from hb]; rfl
              rw [Bool.and_eq_true, Bool.not_eq_true', Bool.not_eq_true'] at hb
              refine ds_seq (ds_dputT (kk := f1.map kP) (a := c1) (b := c2) rfl de_bl (de_var rfl) (by rw [List.length_map]; omega) ?_)
              rw [show putN (f1.map kP) [Sum.inl c1, Sum.inl c2] = (f1 ++ [(c1, c2)]).map kP by rw [List.map_append]; exact hasN_false hb.2]
              refine ds_appM (enc := ePr) (x := (c1, c2)) rfl (de_var rfl) (by omega) ⟨?_, hFn⟩
              rw [hb2]; walk_at "wk"
            · have hb2 : putP f1 (c1, c2) = f1 := by unfold putP; rw [show (!decide ((c1, c2) = ((0, 0) : Int × Int)) && !hasN (f1.map kP) (kP (c1, c2))) = false from hb]; rfl
              rw [hb2]; walk_at "wk"
          · walk_at "wk"
          · rw [hnx, ← hf, ecs]
    · obtain ⟨f, rfl, hI, hf⟩ := hJ
      rw [List.take_length] at hf
      refine ds_wk (ρ' := [.any, .any, .any, .any, .val (.lst (f.map ePr)), .any, .any, .any, .any, .any, .any, .any, .any, .any, .any]) (by walk_at "wk") ?_
      exact ds_ret (dn_de (dn_cb (db_cons (by first | exact dq_of (de_var rfl) | exact dq_own rfl) db_nil) (by walk_at "rcn"))) (show DV.lst ((srtP f).map ePr) = .lst ((v_due x y).map ePr) by rw [v_due, v_found, hf])

end
end DL
end

section
set_option Elab.async false
set_option linter.all false
set_option maxRecDepth 100000
set_option maxHeartbeats 4000000
namespace DL
open PySem PySem.Spec PyProof.Rows L2
/-! ### tables by a function -/
theorem gI_rg0 {n : Nat} {x : Int} (h : wd n x) : gI (rgI 0 n) x = x := by
  obtain ⟨h1, h2⟩ := h
  unfold gI rgI
  rw [List.getD_eq_getElem?_getD, List.getElem?_map, List.getElem?_range (by omega : x.toNat < n)]
  show (0 : Int) + ((x.toNat : Nat) : Int) = x
  omega
theorem gI_rg {n : Nat} {f : Int → Int} {x : Int} (h : wd n x) : gI ((rgI 0 n).map f) x = f x := by
  rw [gI_map (by rw [rgI_len]; exact h), gI_rg0 h]
theorem gL_rg {n : Nat} {f : Int → List Int} {x : Int} (h : wd n x) : gL ((rgI 0 n).map f) x = f x := by
  rw [gL_map (by rw [rgI_len]; exact h), gI_rg0 h]
theorem row_rg {n m : Nat} {f : Int → Int} (h : ∀ x, wd n x → wd m (f x)) : Row n m ((rgI 0 n).map f) := ⟨by rw [List.length_map, rgI_len], fun y hy => by
  obtain ⟨x, hx, rfl⟩ := List.mem_map.mp hy
  exact h x (wd_rg.mpr hx)⟩
theorem tbl_rg {k n m : Nat} {f : Int → List Int} (h : ∀ x, wd k x → Row n m (f x)) : Tbl k n m ((rgI 0 k).map f) := ⟨by rw [List.length_map, rgI_len], fun r hr => by
  obtain ⟨x, hx, rfl⟩ := List.mem_map.mp hr
  exact h x (wd_rg.mpr hx)⟩
/-! ### the order -/
section
variable {n : Nat} {js : List (List Int)} (L : Lat n js)
include L
abbrev J (js : List (List Int)) (x y : Int) : Int := gI (gL js x) y
theorem j_wd {x y : Int} (hx : wd n x) (hy : wd n y) : wd n (J js x y) := (L.tbl.get hx).get hy
theorem le_trans' {x y z : Int} (hx : wd n x) (hy : wd n y) (hz : wd n z) (h1 : J js x y = y) (h2 : J js y z = z) : J js x z = z := by
  have := L.assoc x y z hx hy hz
  rw [show gI (gL js x) y = y from h1, show gI (gL js y) z = z from h2] at this
  exact this.symm
theorem le_anti {x y : Int} (hx : wd n x) (hy : wd n y) (h1 : J js x y = y) (h2 : J js y x = x) : x = y := by
  have := L.comm x y hx hy
  rw [show gI (gL js x) y = y from h1, show gI (gL js y) x = x from h2] at this
  exact this.symm
theorem j_left {x y : Int} (hx : wd n x) (hy : wd n y) : J js x (J js x y) = J js x y := by
  have := L.assoc x x y hx hx hy
  rw [L.idem x hx] at this
  exact this.symm
theorem j_right {x y : Int} (hx : wd n x) (hy : wd n y) : J js y (J js x y) = J js x y := by
  have h := L.comm x y hx hy
  rw [show J js x y = J js y x from h]
  exact j_left L hy hx
theorem j_lub {x y z : Int} (hx : wd n x) (hy : wd n y) (hz : wd n z) (h1 : J js x z = z) (h2 : J js y z = z) : J js (J js x y) z = z := by
  have := L.assoc x y z hx hy hz
  rw [show gI (gL js y) z = z from h2, show gI (gL js x) z = z from h1] at this
  exact this
theorem j_mono {x x' y y' : Int} (hx : wd n x) (hx' : wd n x') (hy : wd n y) (hy' : wd n y') (h1 : J js x x' = x') (h2 : J js y y' = y') : J js (J js x y) (J js x' y') = J js x' y' := by
  have hj := j_wd L hx' hy'
  exact j_lub L hx hy hj (le_trans' L hx hx' hj h1 (j_left L hx' hy')) (le_trans' L hy hy' hj h2 (j_right L hx' hy'))
theorem le_zero {x : Int} (hx : wd n x) (h : J js x 0 = 0) : x = 0 := by
  have h0 : wd n 0 := ⟨Int.le_refl 0, by have := hx.1; have := hx.2; omega⟩
  have h1 := L.comm x 0 hx h0
  rw [show gI (gL js 0) x = x from L.zero x hx] at h1
  rw [← h1]; exact h
/-! ### led up -/
theorem joinall_fold : ∀ (ws : List Int) (o : Int), wd n o → (∀ w ∈ ws, wd n w) → wd n (ws.foldl (fun o x => gI (gL js o) x) o) ∧ J js o (ws.foldl (fun o x => gI (gL js o) x) o) = ws.foldl (fun o x => gI (gL js o) x) o ∧ (∀ w ∈ ws, J js w (ws.foldl (fun o x => gI (gL js o) x) o) = ws.foldl (fun o x => gI (gL js o) x) o) ∧
    ∀ z, wd n z → J js o z = z → (∀ w ∈ ws, J js w z = z) → J js (ws.foldl (fun o x => gI (gL js o) x) o) z = z
  | [], o, ho, _ => ⟨ho, L.idem o ho, fun _ h => absurd h List.not_mem_nil, fun z _ h _ => h⟩
  | w :: ws, o, ho, hw => by
    have hw0 := hw w List.mem_cons_self
    have hj := j_wd L ho hw0
    obtain ⟨h1, h2, h3, h4⟩ := joinall_fold ws (J js o w) hj fun x hx => hw x (List.mem_cons_of_mem _ hx)
    refine ⟨h1, le_trans' L ho hj h1 (j_left L ho hw0) h2, fun x hx => ?_, fun z hz hoz hwz => ?_⟩
    · rcases List.mem_cons.mp hx with rfl | hx
      · exact le_trans' L hw0 hj h1 (j_right L ho hw0) h2
      · exact h3 x hx
    · exact h4 z hz (j_lub L ho hw0 hz hoz (hwz w List.mem_cons_self)) fun x hx => hwz x (List.mem_cons_of_mem _ hx)
theorem below_mem {x l : Int} (hl : js.length = n) : l ∈ v_below js x ↔ wd n l ∧ J js l x = x := by
  unfold v_below
  rw [List.mem_filter, ← wd_rg, hl, decide_eq_true_iff]
theorem ledup_mono (hl : js.length = n) (hn : 0 < n) {ws : List Int} (hw : Row n n ws) : Mono n js (v_ledup js ws) := by
  have h0 : wd n (0 : Int) := by omega
  have hws : ∀ x, ∀ w ∈ ((v_below js x).filter fun l => decide (l > 0)).map fun l => gI ws l, wd n w := fun x => wds_map hw fun l hl' => ((below_mem L hl).mp (List.mem_filter.mp hl').1).1
  have hv : ∀ x, wd n x → gI (v_ledup js ws) x = v_joinall js (((v_below js x).filter fun l => decide (l > 0)).map fun l => gI ws l) := fun x hx => by
    unfold v_ledup
    rw [hl]; exact gI_rg hx
  refine ⟨?_, ?_, fun x y hx hy hxy => ?_⟩
  · unfold v_ledup
    rw [hl]
    exact row_rg fun x hx => (joinall_fold L _ 0 h0 (hws x)).1
  · rw [hv 0 h0]
    have : (v_below js 0).filter (fun l => decide (l > 0)) = [] := by
      rw [List.filter_eq_nil_iff]
      intro l hl'
      obtain ⟨h1, h2⟩ := (below_mem L hl).mp hl'
      rw [le_zero L h1 h2]; decide
    rw [this]; rfl
  · rw [hv x hx, hv y hy]
    have hy' := joinall_fold L _ 0 h0 (hws y)
    refine (joinall_fold L _ 0 h0 (hws x)).2.2.2 _ hy'.1 (L.zero _ hy'.1) fun w hw' => ?_
    refine hy'.2.2.1 w ?_
    obtain ⟨l, hl', rfl⟩ := List.mem_map.mp hw'
    obtain ⟨l1, l2⟩ := List.mem_filter.mp hl'
    obtain ⟨l3, l4⟩ := (below_mem L hl).mp l1
    exact List.mem_map.mpr ⟨l, List.mem_filter.mpr ⟨(below_mem L hl).mpr ⟨l3, le_trans' L l3 hx hy l4 hxy⟩, l2⟩, rfl⟩
/-! ### a row lifted -/
theorem lrow_mono (hl : js.length = n) {row : List Int} (h : Mono n js row) {x hi : Int} (hx : wd n x) (hx1 : 0 < x) (hh : wd n hi) : Mono n js (v_lrow js row x hi) := by
  have hv : ∀ u, wd n u → gI (v_lrow js row x hi) u = cond (decide (gI (gL js x) u = u)) (gI (gL js (gI row u)) hi) (gI row u) := fun u hu => by
    unfold v_lrow
    rw [hl]; exact gI_rg hu
  have h0 : wd n (0 : Int) := ⟨Int.le_refl 0, by have := hx.1; have := hx.2; omega⟩
  refine ⟨?_, ?_, fun u v hu hv' huv => ?_⟩
  · unfold v_lrow
    rw [hl]
    refine row_rg fun u hu => ?_
    cases decide (gI (gL js x) u = u)
    · exact h.row.get hu
    · exact j_wd L (h.row.get hu) hh
  · rw [hv 0 h0, decide_eq_false (fun e => by have := le_zero L hx e; omega)]
    exact h.zero
  · rw [hv u hu, hv v hv']
    have ru := h.row.get hu
    have rv := h.row.get hv'
    have hr := h.rise u v hu hv' huv
    by_cases h1 : gI (gL js x) u = u
    · have h2 : gI (gL js x) v = v := le_trans' L hx hu hv' h1 huv
      rw [decide_eq_true h1, decide_eq_true h2]
      exact j_mono L ru rv hh hh hr (L.idem hi hh)
    · rw [decide_eq_false h1]
      by_cases h2 : gI (gL js x) v = v
      · rw [decide_eq_true h2]
        exact le_trans' L ru rv (j_wd L rv hh) hr (j_left L rv hh)
      · rw [decide_eq_false h2]; exact hr
theorem id_mono (hn : 0 < n) : Mono n js (rgI 0 n) := ⟨rg_row n, gI_rg0 (by omega), fun x y hx hy h => by rw [gI_rg0 hx, gI_rg0 hy]; exact h⟩
end
/-! ### valid books -/
theorem mem_cut {α : Type} {P : α → Prop} {l : List α} (h : ∀ r ∈ l, P r) {lo hi : Option Int} : ∀ r ∈ cutD l lo hi, P r := fun r hr => h r (cutD_mem hr)
theorem with_val {b : LB} (h : Val b) {rows : List (List Int)} (hl : rows.length = b.le.length + b.te.length + b.te.length) (hr : ∀ r ∈ rows, Mono b.js.length b.js r) : Val (v_with b rows) := by
  obtain ⟨wf, alp, lat, msk, de, so, no, fi⟩ := h
  have T : ∀ {k : Nat} {l : List (List Int)}, l.length = k → (∀ r ∈ l, Mono b.js.length b.js r) → Tbl k b.js.length b.js.length l := fun h1 h2 => ⟨h1, fun r hr => (h2 r hr).row⟩
  have l1 : (cutD rows none (some (b.le.length : Int))).length = b.le.length := by rw [cut_to (by omega), List.length_take]; omega
  have l2 : (cutD rows (some (b.le.length : Int)) (some ((b.le.length : Int) + (b.te.length : Int)))).length = b.te.length := by rw [cut_mid (by omega) (by omega) (by omega), List.length_take, List.length_drop]; omega
  have l3 : (cutD rows (some ((b.le.length : Int) + (b.te.length : Int))) none).length = b.te.length := by rw [cut_from (by omega), List.length_drop]; omega
  exact ⟨⟨wf.n2, wf.n9, wf.js, wf.ms, wf.le1, wf.le4, wf.te4, T l1 (mem_cut hr), T l2 (mem_cut hr), T l3 (mem_cut hr), wf.fi, wf.okl, wf.okt⟩, alp, lat, msk, mem_cut hr, mem_cut hr, mem_cut hr, fi⟩
theorem all_mono {b : LB} (h : Val b) : ∀ r ∈ v_all b, Mono b.js.length b.js r := fun r hr => by
  unfold v_all at hr
  rcases List.mem_append.mp hr with hr | hr
  · rcases List.mem_append.mp hr with hr | hr
    · exact h.de r hr
    · exact h.so r hr
  · exact h.no r hr
theorem mem_set {α : Type} {P : α → Prop} {l : List α} (h : ∀ r ∈ l, P r) {x : α} (hx : P x) {i : Nat} : ∀ r ∈ l.set i x, P r := fun r hr => by
  rcases List.mem_or_eq_of_mem_set hr with hr | rfl
  · exact h r hr
  · exact hx
theorem lifted_val {b : LB} (h : Val b) (ds : List Int) : Val (v_lifted b ds) := by
  obtain ⟨hA, hA1, hA2, hA3⟩ := all_tbl h.wf
  have n2 := h.wf.n2
  have hpk := mod_wd (n := (v_all b).length) (by omega) (gI ds 20)
  have hhi := mod_wd (n := b.js.length) (by omega) (gI ds (20 + 2))
  have h1 := Int.emod_nonneg (gI ds (20 + 1)) (b := (b.js.length : Int) - 1) (by omega)
  have h2 := Int.emod_lt_of_pos (gI ds (20 + 1)) (b := (b.js.length : Int) - 1) (by omega)
  exact with_val h (by rw [List.length_set]; exact hA3) (mem_set (all_mono h) (lrow_mono h.lat rfl (all_mono h _ (getD_mem (by obtain ⟨h1, h2⟩ := hpk; omega))) (by omega) (by omega) hhi))
theorem ledanew_val {b : LB} (h : Val b) (ds : List Int) : Val (v_ledanew b ds) := by
  obtain ⟨hA, hA1, hA2, hA3⟩ := all_tbl h.wf
  have n2 := h.wf.n2
  exact with_val h (by rw [List.length_set]; exact hA3) (mem_set (all_mono h) (ledup_mono h.lat rfl (by omega) (row_rg fun x hx => mod_wd (by omega) _)))
theorem untold_val {b : LB} (h : Val b) : Val (v_untold b) := by
  obtain ⟨hA, hA1, hA2, hA3⟩ := all_tbl h.wf
  have n2 := h.wf.n2
  refine with_val h (by rw [List.length_map]; exact hA3) fun r hr => ?_
  obtain ⟨row, hrow, rfl⟩ := List.mem_map.mp hr
  exact ledup_mono h.lat rfl (by omega) (low_row (hA.rows row hrow) (by omega))
theorem strange_val {b d : LB} (hb : Val b) (h : Val d) : Val (v_strange b d) := by
  have n2 := h.wf.n2
  have hde : ∀ k, wd d.de.length (k % (d.de.length : Int)) := fun k => mod_wd (by have := h.wf.de.len; have := h.wf.le1; omega) k
  have m1 : ∀ r ∈ (rgI 0 b.le.length).map fun k => gL d.de (k % (d.de.length : Int)), Mono d.js.length d.js r := fun r hr => by
    obtain ⟨k, _, rfl⟩ := List.mem_map.mp hr
    exact h.de _ (getD_mem (by obtain ⟨h1, h2⟩ := hde k; omega))
  have m2 : ∀ {m : Nat} {rows : List (List Int)}, (∀ r ∈ rows, Mono d.js.length d.js r) → ∀ r ∈ v_strR d.js.length m rows, Mono d.js.length d.js r := fun {m rows} hrows r hr => by
    obtain ⟨k, _, rfl⟩ := List.mem_map.mp hr
    cases hc : (!(rows.map eIs).isEmpty)
    · exact id_mono h.lat (by omega)
    · have := mod_wd (ne_pos hc) k
      exact hrows _ (getD_mem (by obtain ⟨h1, h2⟩ := this; omega))
  have T : ∀ {k : Nat} {l : List (List Int)}, l.length = k → (∀ r ∈ l, Mono d.js.length d.js r) → Tbl k d.js.length d.js.length l := fun h1 h2 => ⟨h1, fun r hr => (h2 r hr).row⟩
  exact ⟨⟨h.wf.n2, h.wf.n9, h.wf.js, h.wf.ms, hb.wf.le1, hb.wf.le4, hb.wf.te4, T (by show ((rgI 0 b.le.length).map _).length = _; rw [List.length_map, rgI_len]; rfl) m1, T (by show (v_strR d.js.length b.te.length d.so).length = _; unfold v_strR; rw [List.length_map, rgI_len]; rfl) (m2 h.so), T (by show (v_strR d.js.length b.te.length d.no).length = _; unfold v_strR; rw [List.length_map, rgI_len]; rfl) (m2 h.no), h.wf.fi, hb.wf.okl, hb.wf.okt⟩, hb.alp, h.lat, h.msk, m1, m2 h.so, m2 h.no, h.fi⟩
end DL
end

section
set_option Elab.async false
set_option linter.all false
set_option maxRecDepth 100000
set_option maxHeartbeats 4000000
namespace DL
open PySem PySem.Spec PyProof.Rows L2
theorem Alp.up {le te : List Sy} (h : Alp 3 le te) : Alp 20 le te := ⟨fun s hs => by
  cases h.ok s hs with
  | add n hn => exact .add n (by omega)
  | set n hn => exact .set n (by omega)
  | turn => exact .turn
  | mod n hn => exact .mod n hn, h.nd, h.set0, fun s hs => by
  cases h.okt s hs with
  | below n hn => exact .below n (by omega)
  | is n hn => exact .is n (by omega)
  | rest n r h1 h2 => exact .rest n r h1 h2, h.ndt⟩
structure Small (b : LB) : Prop where
  val : Val b
  alp : Alp 3 b.le b.te
  n5 : b.js.length ≤ 5
  le3 : b.le.length ≤ 3
  te3 : b.te.length ≤ 3
theorem small_ok (c : Int) : Small (v_small c) := by
  unfold v_small
  generalize v_digits c 120 = ds
  obtain ⟨hA, hA1, hA2, hA3⟩ := small_alp ds
  have hC := M0_cl ds
  have hF : FamOk (v_M ds) := okM_fam (fam_ok hC)
  have hp : (v_M ds).Perm (v_M0 ds) := sortM_perm _
  have hl5 : (v_M ds).length ≤ 5 := by rw [hp.length_eq]; exact hC.len
  have hn2 := hF.n2
  have hjl : (v_joinsM (v_M ds)).length = (v_M ds).length := hF.lat.tbl.len
  have hlat : Lat (v_joinsM (v_M ds)).length (v_joinsM (v_M ds)) := by rw [hjl]; exact hF.lat
  have hmsk : Msk (v_joinsM (v_M ds)).length (v_joinsM (v_M ds)) (v_M ds) := by
    rw [hjl]
    exact ⟨rfl, fun m hm => hC.rng m (hp.mem_iff.mp hm), hF.zero, hF.sub⟩
  have hrl : (v_sR ds).length = (v_alR ds).length + 2 * (v_te ds).length := by unfold v_sR v_srows; rw [List.length_map, rgI_len]
  have hr : ∀ r ∈ v_sR ds, Mono (v_joinsM (v_M ds)).length (v_joinsM (v_M ds)) r := fun r hr => by
    unfold v_sR v_srows at hr
    obtain ⟨k, _, rfl⟩ := List.mem_map.mp hr
    exact ledup_mono hlat rfl (by omega) (foldl_inv (fun w => Row _ _ w) _ _ (rg_row _) fun w x _ hw => wstep_row (by omega) hw)
  have T : ∀ {k : Nat} {l : List (List Int)}, l.length = k → (∀ r ∈ l, Mono (v_joinsM (v_M ds)).length (v_joinsM (v_M ds)) r) → Tbl k (v_joinsM (v_M ds)).length (v_joinsM (v_M ds)).length l := fun h1 h2 => ⟨h1, fun r hr => (h2 r hr).row⟩
  have l1 : (cutD (v_sR ds) none (some ((v_alR ds).length : Int))).length = (v_alR ds).length := by rw [cut_to (by omega), List.length_take]; omega
  have l2 : (cutD (v_sR ds) (some ((v_alR ds).length : Int)) (some (((v_alR ds).length : Int) + ((v_te ds).length : Int)))).length = (v_te ds).length := by rw [cut_mid (by omega) (by omega) (by omega), List.length_take, List.length_drop]; omega
  have l3 : (cutD (v_sR ds) (some (((v_alR ds).length : Int) + ((v_te ds).length : Int))) none).length = (v_te ds).length := by rw [cut_from (by omega), List.length_drop]; omega
  have f1 := Int.emod_nonneg (gI ds 2) (b := ((v_M ds).length : Int) - 1) (by omega)
  have f2 := Int.emod_lt_of_pos (gI ds 2) (b := ((v_M ds).length : Int) - 1) (by omega)
  refine ⟨⟨⟨?_, ?_, hlat.tbl, hmsk.len, hA1, ?_, ?_, T l1 (mem_cut hr), T l2 (mem_cut hr), T l3 (mem_cut hr), ?_, fun s hs => (hA.ok s hs).ok, fun s hs => (hA.okt s hs).ok⟩, hA.up, hlat, hmsk, mem_cut hr, mem_cut hr, mem_cut hr, ?_⟩, hA, ?_, hA2, hA3⟩
  · show 2 ≤ (v_joinsM (v_M ds)).length; omega
  · show (v_joinsM (v_M ds)).length ≤ 9; omega
  · show (v_alR ds).length ≤ 4; omega
  · show (v_te ds).length ≤ 4; omega
  · show wd (v_joinsM (v_M ds)).length (1 + gI ds 2 % (((v_M ds).length : Int) - 1)); omega
  · show 0 < 1 + gI ds 2 % (((v_M ds).length : Int) - 1); omega
  · show (v_joinsM (v_M ds)).length ≤ 5; omega
/-! ### doubled -/
def un (i : Int) : Int := (i + 1) / 2
def ub (i : Int) : Int := if i = 0 then 0 else (i + 1) % 2
theorem half_pos {x c : Int} (hx : x ≠ 0) : v_half x c = 2 * x - 1 + c := by unfold v_half; rw [decide_eq_false hx]; rfl
theorem half_zero {c : Int} : v_half 0 c = 0 := rfl
theorem un_half {x c : Int} (hx : 0 ≤ x) (hc : 0 ≤ c ∧ c ≤ 1) : un (v_half x c) = x := by
  by_cases h : x = 0
  · subst h; rfl
  · rw [half_pos h]; unfold un; omega
theorem ub_half {x c : Int} (hx : 0 ≤ x) (hc : 0 ≤ c ∧ c ≤ 1) (h : x ≠ 0) : ub (v_half x c) = c := by
  rw [half_pos h]; unfold ub; rw [if_neg (by omega)]; omega
theorem half_un {i : Int} (hi : 0 ≤ i) : v_half (un i) (ub i) = i := by
  by_cases h : i = 0
  · subst h; rfl
  · rw [half_pos (by unfold un; omega)]; unfold un ub; rw [if_neg h]; omega
theorem ub_rng (i : Int) : 0 ≤ ub i ∧ ub i ≤ 1 := by unfold ub; split <;> omega
theorem un_wd {n : Nat} {i : Int} (h : wd (2 * n - 1) i) (hn : 0 < n) : wd n (un i) := by unfold un; omega
theorem half_wd {n : Nat} {x c : Int} (hx : wd n x) (hc : 0 ≤ c ∧ c ≤ 1) : wd (2 * n - 1) (v_half x c) := by
  by_cases h : x = 0
  · subst h
    have : v_half 0 c = 0 := rfl
    rw [this]; omega
  · rw [half_pos h]; omega
theorem un_zero {i : Int} (hi : 0 ≤ i) : un i = 0 ↔ i = 0 := by unfold un; omega
theorem rgI_snoc (lo : Int) (n : Nat) : rgI lo (n + 1) = rgI lo n ++ [lo + (n : Int)] := by
  unfold rgI
  rw [List.range_succ, List.map_append]; rfl
theorem dw_eq (ms : List Int) : ∀ n : Nat, v_dw (n + 1) ms = ((rgI 0 (2 * n + 1)).map fun i => (un i, ub i), (rgI 0 (2 * n + 1)).map fun i => gI ms (un i))
  | 0 => rfl
  | n + 1 => by
    have ih := dw_eq ms n
    unfold v_dw at ih ⊢
    rw [show (((n + 1 : Nat) : Int) - 1).toNat = n by omega] at ih
    rw [show (((n + 1 + 1 : Nat) : Int) - 1).toNat = n + 1 by omega, rgI_snoc, List.foldl_append, ih]
    have e : rgI 0 (2 * (n + 1) + 1) = rgI 0 (2 * n + 1) ++ [((2 * n + 1 : Nat) : Int), ((2 * n + 2 : Nat) : Int)] := by
      rw [show 2 * (n + 1) + 1 = (2 * n + 1) + 1 + 1 by omega, rgI_snoc, rgI_snoc, List.append_assoc]
      congr 1
      rw [Int.zero_add, Int.zero_add]; rfl
    rw [e, List.map_append, List.map_append]
    have u1 : un ((2 * n + 1 : Nat) : Int) = 1 + (n : Int) := by unfold un; omega
    have u2 : un ((2 * n + 2 : Nat) : Int) = 1 + (n : Int) := by unfold un; omega
    have b1 : ub ((2 * n + 1 : Nat) : Int) = 0 := by unfold ub; rw [if_neg (by omega)]; omega
    have b2 : ub ((2 * n + 2 : Nat) : Int) = 1 := by unfold ub; rw [if_neg (by omega)]; omega
    show v_dw1 ms _ (1 + (n : Int)) = _
    unfold v_dw1
    show ((_ ++ [(1 + (n : Int), (0 : Int))]) ++ [(1 + (n : Int), (0 : Int) + ((1 : Nat) : Int))], (_ ++ [gI ms (1 + (n : Int))]) ++ [gI ms (1 + (n : Int))]) = _
    rw [List.append_assoc, List.append_assoc, List.map_cons, List.map_cons, List.map_nil, List.map_cons, List.map_cons, List.map_nil, u1, u2, b1, b2]; rfl
theorem dj_eq {js : List (List Int)} {n : Nat} (hn : 1 ≤ n) (ms : List Int) : v_dj js (v_dw n ms).1 = (rgI 0 (2 * n - 1)).map fun i => (rgI 0 (2 * n - 1)).map fun k => v_half (J js (un i) (un k)) (v_max (ub i) (ub k)) := by
  obtain ⟨m, rfl⟩ : ∃ m, n = m + 1 := ⟨n - 1, by omega⟩
  rw [dw_eq, v_dj, List.map_map, show 2 * (m + 1) - 1 = 2 * m + 1 by omega]
  apply List.map_congr_left
  intro i _
  show ((rgI 0 (2 * m + 1)).map fun i => (un i, ub i)).map _ = _
  rw [List.map_map]; rfl
theorem max_as (a b c : Int) : v_max (v_max a b) c = v_max a (v_max b c) := by
  unfold v_max
  (repeat' split) <;> omega
theorem max_rng {a b : Int} (ha : 0 ≤ a ∧ a ≤ 1) (hb : 0 ≤ b ∧ b ≤ 1) : 0 ≤ v_max a b ∧ v_max a b ≤ 1 := by unfold v_max; split <;> omega
section
variable {n : Nat} {js : List (List Int)} (L : Lat n js) (hn : 0 < n)
include L hn
/-- the join of halves -/
def dJ (js : List (List Int)) (i k : Int) : Int := v_half (J js (un i) (un k)) (v_max (ub i) (ub k))
theorem j_zero {x y : Int} (hx : wd n x) (hy : wd n y) (h : J js x y = 0) : x = 0 ∧ y = 0 := by
  have h1 := j_left L hx hy
  have h2 := j_right L hx hy
  rw [h] at h1 h2
  exact ⟨le_zero L hx h1, le_zero L hy h2⟩
theorem dJ_un {i k : Int} (hi : wd (2 * n - 1) i) (hk : wd (2 * n - 1) k) : un (dJ js i k) = J js (un i) (un k) := un_half (j_wd L (un_wd hi hn) (un_wd hk hn)).1 (max_rng (ub_rng i) (ub_rng k))
theorem dJ_ub {i k : Int} (hi : wd (2 * n - 1) i) (hk : wd (2 * n - 1) k) : ub (dJ js i k) = v_max (ub i) (ub k) := by
  by_cases h : J js (un i) (un k) = 0
  · obtain ⟨h1, h2⟩ := j_zero L hn (un_wd hi hn) (un_wd hk hn) h
    have e1 := (un_zero hi.1).mp h1
    have e2 := (un_zero hk.1).mp h2
    subst e1 e2
    unfold dJ
    rw [h]; rfl
  · exact ub_half (j_wd L (un_wd hi hn) (un_wd hk hn)).1 (max_rng (ub_rng i) (ub_rng k)) h
theorem dJ_wd {i k : Int} (hi : wd (2 * n - 1) i) (hk : wd (2 * n - 1) k) : wd (2 * n - 1) (dJ js i k) := half_wd (j_wd L (un_wd hi hn) (un_wd hk hn)) (max_rng (ub_rng i) (ub_rng k))
theorem dlat : Lat (2 * n - 1) ((rgI 0 (2 * n - 1)).map fun i => (rgI 0 (2 * n - 1)).map fun k => dJ js i k) := by
  have hv : ∀ x y, wd (2 * n - 1) x → wd (2 * n - 1) y → gI (gL ((rgI 0 (2 * n - 1)).map fun i => (rgI 0 (2 * n - 1)).map fun k => dJ js i k) x) y = dJ js x y := fun x y hx hy => by rw [gL_rg hx, gI_rg hy]
  have h0 : wd (2 * n - 1) (0 : Int) := by omega
  refine ⟨tbl_rg fun i hi => row_rg fun k hk => dJ_wd L hn hi hk, fun x hx => ?_, fun x hx => ?_, fun x y hx hy => ?_, fun x y z hx hy hz => ?_⟩
  · rw [hv x x hx hx]
    unfold dJ
    rw [show J js (un x) (un x) = un x from L.idem _ (un_wd hx hn), show v_max (ub x) (ub x) = ub x by unfold v_max; split <;> omega]
    exact half_un hx.1
  · rw [hv 0 x h0 hx]
    unfold dJ
    rw [show un 0 = 0 from rfl, show J js 0 (un x) = un x from L.zero _ (un_wd hx hn), show v_max (ub 0) (ub x) = ub x by have := ub_rng x; have : ub 0 = 0 := rfl; unfold v_max; split <;> omega]
    exact half_un hx.1
  · rw [hv x y hx hy, hv y x hy hx]
    unfold dJ
    rw [show J js (un x) (un y) = J js (un y) (un x) from L.comm _ _ (un_wd hx hn) (un_wd hy hn), show v_max (ub x) (ub y) = v_max (ub y) (ub x) by unfold v_max; split <;> split <;> omega]
  · have hxy := dJ_wd L hn hx hy
    have hyz := dJ_wd L hn hy hz
    rw [hv x y hx hy, hv y z hy hz, hv _ z hxy hz, hv x _ hx hyz]
    show v_half (J js (un (dJ js x y)) (un z)) (v_max (ub (dJ js x y)) (ub z)) = v_half (J js (un x) (un (dJ js y z))) (v_max (ub x) (ub (dJ js y z)))
    rw [dJ_un L hn hx hy, dJ_un L hn hy hz, dJ_ub L hn hx hy, dJ_ub L hn hy hz, show J js (J js (un x) (un y)) (un z) = J js (un x) (J js (un y) (un z)) from L.assoc _ _ _ (un_wd hx hn) (un_wd hy hn) (un_wd hz hn),
      max_as]
/-- the order of halves -/
theorem dJ_le {i k : Int} (hi : wd (2 * n - 1) i) (hk : wd (2 * n - 1) k) (h : dJ js i k = k) : J js (un i) (un k) = un k ∧ ub i ≤ ub k := by
  have h1 := dJ_un L hn hi hk
  have h2 := dJ_ub L hn hi hk
  rw [h] at h1 h2
  refine ⟨h1.symm, ?_⟩
  unfold v_max at h2
  split at h2 <;> omega
theorem le_dJ {x y c d : Int} (hx : wd n x) (hy : wd n y) (hc : 0 ≤ c ∧ c ≤ 1) (hd : 0 ≤ d ∧ d ≤ 1) (h : J js x y = y) (hcd : c ≤ d) : dJ js (v_half x c) (v_half y d) = v_half y d := by
  unfold dJ
  rw [un_half hx.1 hc, un_half hy.1 hd, h]
  by_cases hy0 : y = 0
  · subst hy0; rfl
  · rw [ub_half hy.1 hd hy0]
    have : ub (v_half x c) ≤ c := by
      by_cases hx0 : x = 0
      · subst hx0; show ub 0 ≤ c; have : ub 0 = 0 := rfl; omega
      · rw [ub_half hx.1 hc hx0]; omega
    rw [show v_max (ub (v_half x c)) d = d by unfold v_max; split <;> omega]
end
theorem nbit_rng {js : List (List Int)} {st mk x c : Int} (hs : 0 ≤ st ∧ st < 4) (hc : 0 ≤ c ∧ c ≤ 1) : 0 ≤ v_nbit js st mk x c ∧ v_nbit js st mk x c ≤ 1 := by
  unfold v_nbit
  have h4 : st = 0 ∨ st = 1 ∨ st = 2 ∨ st = 3 := by omega
  rcases h4 with rfl | rfl | rfl | rfl
  · exact hc
  · show (0 : Int) ≤ 1 ∧ (1 : Int) ≤ 1; omega
  · show (0 : Int) ≤ 0 ∧ (0 : Int) ≤ 1; omega
  · show 0 ≤ cond (decide (gI (gL js mk) x = x)) 1 c ∧ cond (decide (gI (gL js mk) x = x)) 1 c ≤ 1
    cases decide (gI (gL js mk) x = x)
    · exact hc
    · show (0 : Int) ≤ 1 ∧ (1 : Int) ≤ 1; omega
theorem nbit_mono {n : Nat} {js : List (List Int)} (L : Lat n js) {st mk x y c d : Int} (hs : 0 ≤ st ∧ st < 4) (hm : wd n mk) (hx : wd n x) (hy : wd n y) (hc : 0 ≤ c ∧ c ≤ 1) (hd : 0 ≤ d ∧ d ≤ 1) (h : J js x y = y) (hcd : c ≤ d) : v_nbit js st mk x c ≤ v_nbit js st mk y d := by
  unfold v_nbit
  have h4 : st = 0 ∨ st = 1 ∨ st = 2 ∨ st = 3 := by omega
  rcases h4 with rfl | rfl | rfl | rfl
  · exact hcd
  · exact Int.le_refl _
  · exact Int.le_refl _
  · show cond (decide (gI (gL js mk) x = x)) 1 c ≤ cond (decide (gI (gL js mk) y = y)) 1 d
    by_cases h1 : gI (gL js mk) x = x
    · rw [decide_eq_true h1, decide_eq_true (le_trans' L hm hx hy h1 h : gI (gL js mk) y = y)]; exact Int.le_refl _
    · rw [decide_eq_false h1]
      cases decide (gI (gL js mk) y = y)
      · exact hcd
      · exact hc.2
theorem drow_eq (js : List (List Int)) (row : List Int) (st mk : Int) : ∀ n : Nat, (rgI 1 n).foldl (fun out x => (rgI 0 (2 : Int).toNat).foldl (fun out c => out ++ [v_half (gI row x) (v_nbit js st mk x c)]) out) [0] = (rgI 0 (2 * n + 1)).map fun i => if i = 0 then 0 else v_half (gI row (un i)) (v_nbit js st mk (un i) (ub i))
  | 0 => rfl
  | n + 1 => by
    rw [rgI_snoc, List.foldl_append, drow_eq js row st mk n]
    have e : rgI 0 (2 * (n + 1) + 1) = rgI 0 (2 * n + 1) ++ [((2 * n + 1 : Nat) : Int), ((2 * n + 2 : Nat) : Int)] := by
      rw [show 2 * (n + 1) + 1 = (2 * n + 1) + 1 + 1 by omega, rgI_snoc, rgI_snoc, List.append_assoc]
      congr 1
      rw [Int.zero_add, Int.zero_add]; rfl
    rw [e, List.map_append]
    have u1 : un ((2 * n + 1 : Nat) : Int) = 1 + (n : Int) := by unfold un; omega
    have u2 : un ((2 * n + 2 : Nat) : Int) = 1 + (n : Int) := by unfold un; omega
    have b1 : ub ((2 * n + 1 : Nat) : Int) = 0 := by unfold ub; rw [if_neg (by omega)]; omega
    have b2 : ub ((2 * n + 2 : Nat) : Int) = 1 := by unfold ub; rw [if_neg (by omega)]; omega
    show (_ ++ [v_half (gI row (1 + (n : Int))) (v_nbit js st mk (1 + (n : Int)) 0)]) ++ [v_half (gI row (1 + (n : Int))) (v_nbit js st mk (1 + (n : Int)) ((0 : Int) + ((1 : Nat) : Int)))] = _
    rw [List.append_assoc, List.map_cons, List.map_cons, List.map_nil, u1, u2, b1, b2, if_neg (by omega), if_neg (by omega)]; rfl
theorem drow_mono {n : Nat} {js : List (List Int)} (L : Lat n js) (hn : 0 < n) {row : List Int} (h : Mono n js row) {st mk : Int} (hs : 0 ≤ st ∧ st < 4) (hm : wd n mk) : Mono (2 * n - 1) ((rgI 0 (2 * n - 1)).map fun i => (rgI 0 (2 * n - 1)).map fun k => dJ js i k) (v_drow js row st mk) := by
  have e : v_drow js row st mk = (rgI 0 (2 * n - 1)).map fun i => if i = 0 then 0 else v_half (gI row (un i)) (v_nbit js st mk (un i) (ub i)) := by
    unfold v_drow
    rw [h.row.len, drow_eq, show 2 * ((n : Int) - 1).toNat + 1 = 2 * n - 1 by omega]
  have hv : ∀ i, wd (2 * n - 1) i → gI (v_drow js row st mk) i = v_half (gI row (un i)) (v_nbit js st mk (un i) (ub i)) := fun i hi => by
    rw [e, gI_rg hi]
    by_cases h0 : i = 0
    · subst h0
      rw [if_pos rfl, show un 0 = 0 from rfl, h.zero]; rfl
    · rw [if_neg h0]
  have h0 : wd (2 * n - 1) (0 : Int) := by omega
  have hw : ∀ i, wd (2 * n - 1) i → wd (2 * n - 1) (v_half (gI row (un i)) (v_nbit js st mk (un i) (ub i))) := fun i hi => half_wd (h.row.get (un_wd hi hn)) (nbit_rng hs (ub_rng i))
  refine ⟨?_, ?_, fun i k hi hk hik => ?_⟩
  · rw [e]
    refine row_rg fun i hi => ?_
    by_cases h1 : i = 0
    · rw [if_pos h1]; exact h0
    · rw [if_neg h1]; exact hw i hi
  · rw [hv 0 h0, show un 0 = 0 from rfl, h.zero]; rfl
  · rw [gL_rg hi, gI_rg hk] at hik
    obtain ⟨h1, h2⟩ := dJ_le L hn hi hk hik
    rw [hv i hi, hv k hk, gL_rg (hw i hi), gI_rg (hw k hk)]
    exact le_dJ L hn (h.row.get (un_wd hi hn)) (h.row.get (un_wd hk hn)) (nbit_rng hs (ub_rng i)) (nbit_rng hs (ub_rng k)) (h.rise _ _ (un_wd hi hn) (un_wd hk hn) h1) (nbit_mono L hs hm (un_wd hi hn) (un_wd hk hn) (ub_rng i) (ub_rng k) h1 h2)
theorem drs_mem {js : List (List Int)} {ds : List Int} : ∀ (rows : List (List Int)) (acc : List (List Int)) (t : Int), ∀ r ∈ (rows.foldl (fun s row => (s.1 ++ [v_drow js row (gI ds s.2 % 4) (1 + gI ds s.2 / 4 % ((js.length : Int) - 1))], s.2 + 1)) (acc, t)).1, r ∈ acc ∨ ∃ row ∈ rows, ∃ t, r = v_drow js row (gI ds t % 4) (1 + gI ds t / 4 % ((js.length : Int) - 1))
  | [], _, _, r, h => .inl h
  | row :: rows, acc, t, r, h => by
    rcases drs_mem rows _ _ r h with h | ⟨row', h1, h2⟩
    · rcases List.mem_append.mp h with h | h
      · exact .inl h
      · exact .inr ⟨row, List.mem_cons_self, t, List.mem_singleton.mp h⟩
    · exact .inr ⟨row', List.mem_cons_of_mem _ h1, h2⟩
theorem drs_len {js : List (List Int)} {ds : List Int} : ∀ (rows : List (List Int)) (acc : List (List Int)) (t : Int), (rows.foldl (fun s row => (s.1 ++ [v_drow js row (gI ds s.2 % 4) (1 + gI ds s.2 / 4 % ((js.length : Int) - 1))], s.2 + 1)) (acc, t)).1.length = acc.length + rows.length
  | [], _, _ => rfl
  | row :: rows, acc, t => by
    rw [List.foldl_cons, drs_len rows, List.length_append, List.length_cons]
    show acc.length + 1 + rows.length = acc.length + (rows.length + 1)
    omega
theorem doubled_val {b : LB} (h : Val b) (n5 : b.js.length ≤ 5) (ds : List Int) : Val (v_doubled b ds) := by
  have n2 := h.wf.n2
  have hn : 0 < b.js.length := by omega
  have ej : (v_doubled b ds).js = (rgI 0 (2 * b.js.length - 1)).map fun i => (rgI 0 (2 * b.js.length - 1)).map fun k => dJ b.js i k := dj_eq (by omega) b.ms
  have el : (v_doubled b ds).js.length = 2 * b.js.length - 1 := by rw [ej, List.length_map, rgI_len]
  have L := dlat h.lat hn
  rw [← ej, ← el] at L
  have hmk : ∀ t, wd b.js.length (1 + gI ds t / 4 % ((b.js.length : Int) - 1)) := fun t => by
    have h1 := Int.emod_nonneg (gI ds t / 4) (b := (b.js.length : Int) - 1) (by omega)
    have h2 := Int.emod_lt_of_pos (gI ds t / 4) (b := (b.js.length : Int) - 1) (by omega)
    omega
  have hdr : ∀ (rows : List (List Int)) (t : Int), (∀ r ∈ rows, Mono b.js.length b.js r) → ∀ r ∈ (v_drs b.js ds rows t).1, Mono (v_doubled b ds).js.length (v_doubled b ds).js r := fun rows t hrows r hr => by
    rcases drs_mem rows [] t r hr with hr | ⟨row, h1, t', rfl⟩
    · cases hr
    · rw [el, ej]
      exact drow_mono h.lat hn (hrows row h1) ⟨Int.emod_nonneg _ (by omega), Int.emod_lt_of_pos _ (by omega)⟩ (hmk t')
  have hdl : ∀ (rows : List (List Int)) (t : Int), (v_drs b.js ds rows t).1.length = rows.length := fun rows t => by
    have := drs_len (js := b.js) (ds := ds) rows [] t
    rw [List.length_nil, Nat.zero_add] at this
    exact this
  have T : ∀ {k : Nat} {l : List (List Int)}, l.length = k → (∀ r ∈ l, Mono (v_doubled b ds).js.length (v_doubled b ds).js r) → Tbl k (v_doubled b ds).js.length (v_doubled b ds).js.length l := fun h1 h2 => ⟨h1, fun r hr => (h2 r hr).row⟩
  have d0 : (v_doubled b ds).de = (v_drs b.js ds b.de 3).1 := rfl
  have d1 : (v_doubled b ds).so = (v_drs b.js ds b.so (v_drs b.js ds b.de 3).2).1 := rfl
  have d2 : (v_doubled b ds).no = (v_drs b.js ds b.no (v_drs b.js ds b.so (v_drs b.js ds b.de 3).2).2).1 := rfl
  have em : (v_doubled b ds).ms = (rgI 0 (2 * b.js.length - 1)).map fun i => gI b.ms (un i) := by
    show (v_dw b.js.length b.ms).2 = _
    obtain ⟨m, hm⟩ : ∃ m, b.js.length = m + 1 := ⟨b.js.length - 1, by omega⟩
    rw [hm, dw_eq, show 2 * (m + 1) - 1 = 2 * m + 1 by omega]
  have m0 := hdr b.de 3 h.de
  have m1 := hdr b.so (v_drs b.js ds b.de 3).2 h.so
  have m2 := hdr b.no (v_drs b.js ds b.so (v_drs b.js ds b.de 3).2).2 h.no
  have M : Msk (v_doubled b ds).js.length (v_doubled b ds).js (v_doubled b ds).ms := by
    have hw : ∀ i, wd (2 * b.js.length - 1) i → gI (v_doubled b ds).ms i = gI b.ms (un i) := fun i hi => by rw [em, gI_rg hi]
    refine ⟨by rw [em, List.length_map, rgI_len, el], fun m hm => ?_, ?_, fun i k hi hk hik => ?_⟩
    · rw [em] at hm
      obtain ⟨i, hi, rfl⟩ := List.mem_map.mp hm
      exact h.msk.rng _ (gI_mem (by rw [h.msk.len]; exact un_wd (wd_rg.mpr hi) hn))
    · rw [hw 0 (by omega)]
      exact h.msk.zero
    · rw [el] at hi hk
      rw [hw i hi, hw k hk]
      rw [ej, gL_rg hi, gI_rg hk] at hik
      exact h.msk.sub _ _ (un_wd hi hn) (un_wd hk hn) (dJ_le h.lat hn hi hk hik).1
  have hfi : wd (v_doubled b ds).js.length (v_doubled b ds).fi := by
    rw [el]
    exact half_wd h.wf.fi (by omega)
  refine ⟨⟨by rw [el]; omega, by rw [el]; omega, L.tbl, M.len, h.wf.le1, h.wf.le4, h.wf.te4, T (by rw [d0, hdl]; exact h.wf.de.len) m0, T (by rw [d1, hdl]; exact h.wf.so.len) m1, T (by rw [d2, hdl]; exact h.wf.no.len) m2, hfi, h.wf.okl, h.wf.okt⟩, h.alp, L, M, m0, m1, m2, ?_⟩
  show 0 < v_half b.fi (gI ds (v_dtab b ds).2 % 2)
  have := h.fi
  rw [half_pos (by omega)]
  omega
end DL
end

section
set_option Elab.async false
set_option linter.all false
set_option maxRecDepth 100000
set_option maxHeartbeats 4000000
namespace DL
open PySem PySem.Spec PyProof.Rows L2
theorem pl_fold {ds : List Int} {n : Nat} (hn : 1 ≤ n) : ∀ k, 1 + k ≤ n → PlI n (1 + k) ((rgI 1 k).foldl (v_pstep ds) (List.replicate n 0, rgI 1 ((n : Int) - 1).toNat))
  | 0, _ => pl_start hn
  | k + 1, hk => by
    rw [rgI_snoc, List.foldl_append]
    have := pl_step (ds := ds) (m := 1 + k) (by omega) (pl_fold (ds := ds) hn k (by omega)) (by omega)
    rw [show ((1 + k : Nat) : Int) = 1 + (k : Int) by omega] at this
    exact this
theorem P_ok (ds : List Int) {n : Nat} (hn : 1 ≤ n) : (v_P ds n).Perm (rgI 0 n) ∧ (v_P ds n).length = n ∧ gI (v_P ds n) 0 = 0 := by
  have := pl_fold (ds := ds) hn (((n : Int) - 1).toNat) (by omega)
  rw [show 1 + ((n : Int) - 1).toNat = n by omega] at this
  exact pl_end this
theorem rgI_nodup (lo : Int) (n : Nat) : (rgI lo n).Nodup := by
  unfold rgI
  rw [List.nodup_iff_pairwise_ne, List.pairwise_map]
  exact List.pairwise_lt_range.imp fun h e => by omega
theorem gI_inj {l : List Int} (h : l.Nodup) {x y : Int} (hx : wd l.length x) (hy : wd l.length y) (e : gI l x = gI l y) : x = y := by
  obtain ⟨x1, x2⟩ := hx
  obtain ⟨y1, y2⟩ := hy
  have hxl : x.toNat < l.length := by omega
  have hyl : y.toNat < l.length := by omega
  unfold gI at e
  rw [List.getD_eq_getElem?_getD, List.getD_eq_getElem?_getD, List.getElem?_eq_getElem hxl, List.getElem?_eq_getElem hyl] at e
  have : x.toNat = y.toNat := (List.getElem?_inj hxl h).mp (by rw [List.getElem?_eq_getElem hxl, List.getElem?_eq_getElem hyl]; exact congrArg some e)
  omega
/-- a renaming -/
structure Ren (n : Nat) (P B : List Int) : Prop where
  rP : Row n n P
  rB : Row n n B
  PB : ∀ x, wd n x → gI P (gI B x) = x
  BP : ∀ x, wd n x → gI B (gI P x) = x
  P0 : gI P 0 = 0
  B0 : gI B 0 = 0
theorem ren_ok (ds : List Int) {n : Nat} (hn : 1 ≤ n) : Ren n (v_P ds n) (v_B ds n) := by
  obtain ⟨hP, hl, h0⟩ := P_ok ds hn
  have rP := perm_row hP
  have rB : Row n n (v_B ds n) := back_row hP
  have hB : ∀ x, wd n x → gI (v_B ds n) x = v_idx (v_P ds n) x := fun x hx => by unfold v_B; exact gI_rg hx
  have hm : ∀ x, wd n x → x ∈ v_P ds n := fun x hx => hP.mem_iff.mpr (wd_rg.mp hx)
  have PB : ∀ x, wd n x → gI (v_P ds n) (gI (v_B ds n) x) = x := fun x hx => by rw [hB x hx]; exact v_idx_get (hm x hx)
  have nd : (v_P ds n).Nodup := hP.nodup_iff.mpr (rgI_nodup 0 n)
  have BP : ∀ x, wd n x → gI (v_B ds n) (gI (v_P ds n) x) = x := fun x hx => by
    have h1 := rP.get hx
    exact gI_inj nd (by rw [hl]; exact rB.get h1) (by rw [hl]; exact hx) (PB _ h1)
  refine ⟨rP, rB, PB, BP, h0, ?_⟩
  have := BP 0 ⟨Int.le_refl 0, by omega⟩
  rwa [h0] at this
theorem ren_val {b : LB} (h : Val b) (ds : List Int) : Val (v_ren b ds) := by
  have n2 := h.wf.n2
  have hn : 0 < b.js.length := by omega
  have R := ren_ok ds (n := b.js.length) (by omega)
  have ej : (v_ren b ds).js = (rgI 0 b.js.length).map fun o => (rgI 0 b.js.length).map fun p => gI (v_P ds b.js.length) (gI (gL b.js (gI (v_B ds b.js.length) o)) (gI (v_B ds b.js.length) p)) := rfl
  have em : (v_ren b ds).ms = (rgI 0 b.js.length).map fun x => gI b.ms (gI (v_B ds b.js.length) x) := rfl
  have ed : (v_ren b ds).de = v_renT (v_P ds b.js.length) (v_B ds b.js.length) b.js.length b.de := rfl
  have es : (v_ren b ds).so = v_renT (v_P ds b.js.length) (v_B ds b.js.length) b.js.length b.so := rfl
  have eo : (v_ren b ds).no = v_renT (v_P ds b.js.length) (v_B ds b.js.length) b.js.length b.no := rfl
  have ef : (v_ren b ds).fi = gI (v_P ds b.js.length) b.fi := rfl
  have ele : (v_ren b ds).le = b.le := rfl
  have ete : (v_ren b ds).te = b.te := rfl
  generalize v_ren b ds = r at *
  generalize v_P ds b.js.length = P at *
  generalize v_B ds b.js.length = B at *
  have el : r.js.length = b.js.length := by rw [ej, List.length_map, rgI_len]
  have hB := fun x (hx : wd b.js.length x) => R.rB.get hx
  have hv : ∀ x y, wd b.js.length x → wd b.js.length y → gI (gL r.js x) y = gI P (J b.js (gI B x) (gI B y)) := fun x y hx hy => by rw [ej, gL_rg hx, gI_rg hy]
  have hj : ∀ x y, wd b.js.length x → wd b.js.length y → wd b.js.length (J b.js (gI B x) (gI B y)) := fun x y hx hy => j_wd h.lat (hB x hx) (hB y hy)
  have L : Lat b.js.length r.js := by
    refine ⟨?_, fun x hx => ?_, fun x hx => ?_, fun x y hx hy => ?_, fun x y z hx hy hz => ?_⟩
    · rw [ej]
      exact tbl_rg fun o ho => row_rg fun p hp => R.rP.get (hj o p ho hp)
    · rw [hv x x hx hx, show J b.js (gI B x) (gI B x) = gI B x from h.lat.idem _ (hB x hx), R.PB x hx]
    · rw [hv 0 x (by omega) hx, R.B0, show J b.js 0 (gI B x) = gI B x from h.lat.zero _ (hB x hx), R.PB x hx]
    · rw [hv x y hx hy, hv y x hy hx, show J b.js (gI B x) (gI B y) = J b.js (gI B y) (gI B x) from h.lat.comm _ _ (hB x hx) (hB y hy)]
    · rw [hv x y hx hy, hv y z hy hz, hv _ z (R.rP.get (hj x y hx hy)) hz, hv x _ hx (R.rP.get (hj y z hy hz)), R.BP _ (hj x y hx hy), R.BP _ (hj y z hy hz),
        show J b.js (J b.js (gI B x) (gI B y)) (gI B z) = J b.js (gI B x) (J b.js (gI B y) (gI B z)) from h.lat.assoc _ _ _ (hB x hx) (hB y hy) (hB z hz)]
  have ord : ∀ x y, wd b.js.length x → wd b.js.length y → gI (gL r.js x) y = y → J b.js (gI B x) (gI B y) = gI B y := fun x y hx hy e => by
    rw [hv x y hx hy] at e
    have := R.BP _ (hj x y hx hy)
    rw [e] at this
    exact this.symm
  have M : Msk b.js.length r.js r.ms := by
    refine ⟨by rw [em, List.length_map, rgI_len], fun m hm => ?_, ?_, fun x y hx hy e => ?_⟩
    · rw [em] at hm
      obtain ⟨x, hx, rfl⟩ := List.mem_map.mp hm
      exact h.msk.rng _ (gI_mem (by rw [h.msk.len]; exact hB x (wd_rg.mpr hx)))
    · rw [em, gI_rg (by omega), R.B0]; exact h.msk.zero
    · rw [em, gI_rg hx, gI_rg hy]
      exact h.msk.sub _ _ (hB x hx) (hB y hy) (ord x y hx hy e)
  have mono : ∀ {rows : List (List Int)}, (∀ r ∈ rows, Mono b.js.length b.js r) → ∀ q ∈ v_renT P B b.js.length rows, Mono b.js.length r.js q := fun {rows} hrows q hq => by
    obtain ⟨row, hrow, rfl⟩ := List.mem_map.mp hq
    have hm := hrows row hrow
    have hrv : ∀ x, wd b.js.length x → gI ((rgI 0 b.js.length).map fun x => gI P (gI row (gI B x))) x = gI P (gI row (gI B x)) := fun x hx => gI_rg hx
    have hrw : ∀ x, wd b.js.length x → wd b.js.length (gI row (gI B x)) := fun x hx => hm.row.get (hB x hx)
    refine ⟨row_rg fun x hx => R.rP.get (hrw x hx), ?_, fun x y hx hy e => ?_⟩
    · rw [hrv 0 (by omega), R.B0, hm.zero, R.P0]
    · rw [hrv x hx, hrv y hy, hv _ _ (R.rP.get (hrw x hx)) (R.rP.get (hrw y hy)), R.BP _ (hrw x hx), R.BP _ (hrw y hy)]
      rw [show J b.js (gI row (gI B x)) (gI row (gI B y)) = gI row (gI B y) from hm.rise _ _ (hB x hx) (hB y hy) (ord x y hx hy e)]
  have md := mono h.de
  have ms := mono h.so
  have mo := mono h.no
  have lr : ∀ rows : List (List Int), (v_renT P B b.js.length rows).length = rows.length := fun rows => by unfold v_renT; rw [List.length_map]
  rw [← ed] at md
  rw [← es] at ms
  rw [← eo] at mo
  rw [← el] at L M md ms mo
  have T : ∀ {k : Nat} {l : List (List Int)}, l.length = k → (∀ q ∈ l, Mono r.js.length r.js q) → Tbl k r.js.length r.js.length l := fun h1 h2 => ⟨h1, fun q hq => (h2 q hq).row⟩
  have n9 := h.wf.n9
  refine ⟨⟨by omega, by omega, L.tbl, M.len, by rw [ele]; exact h.wf.le1, by rw [ele]; exact h.wf.le4, by rw [ete]; exact h.wf.te4, T (by rw [ed, lr, ele]; exact h.wf.de.len) md, T (by rw [es, lr, ete]; exact h.wf.so.len) ms, T (by rw [eo, lr, ete]; exact h.wf.no.len) mo, ?_, by rw [ele]; exact h.wf.okl, by rw [ete]; exact h.wf.okt⟩, by rw [ele, ete]; exact h.alp, L, M, md, ms, mo, ?_⟩
  · rw [ef, el]; exact R.rP.get h.wf.fi
  · rw [ef]
    have hw := R.rP.get h.wf.fi
    have := R.BP _ h.wf.fi
    have hf := h.fi
    by_cases e : gI P b.fi = 0
    · rw [e, R.B0] at this; omega
    · omega
/-! ### more letters, more tests, turned -/
theorem moreL_val {b : LB} (h : Small b) : Val (v_moreL b) := by
  obtain ⟨⟨wf, alp, lat, msk, de, so, no, fi⟩, a3, n5, le3, te3⟩ := h
  have n2 := wf.n2
  have md : ∀ r ∈ b.de ++ [rgI 0 b.js.length], Mono b.js.length b.js r := fun r hr => by
    rcases List.mem_append.mp hr with hr | hr
    · exact de r hr
    · rw [List.mem_singleton.mp hr]; exact id_mono lat (by omega)
  have okl : ∀ s ∈ b.le ++ [(("add", [20]) : Sy)], LetK 20 s := fun s hs => by
    rcases List.mem_append.mp hs with hs | hs
    · exact alp.ok s hs
    · rw [List.mem_singleton.mp hs]; exact .add 20 (by omega)
  refine ⟨⟨wf.n2, wf.n9, wf.js, wf.ms, ?_, ?_, wf.te4, ⟨?_, fun r hr => (md r hr).row⟩, wf.so, wf.no, wf.fi, fun s hs => (okl s hs).ok, wf.okt⟩, ⟨okl, ?_, List.mem_append_left _ alp.set0, alp.okt, alp.ndt⟩, lat, msk, md, so, no, fi⟩
  · show 1 ≤ (b.le ++ [(("add", [20]) : Sy)]).length; rw [List.length_append]; have := wf.le1; omega
  · show (b.le ++ [(("add", [20]) : Sy)]).length ≤ 4; rw [List.length_append, List.length_singleton]; omega
  · show (b.de ++ [rgI 0 b.js.length]).length = (b.le ++ [(("add", [20]) : Sy)]).length; rw [List.length_append, List.length_append, List.length_singleton, List.length_singleton, wf.de.len]
  · show (b.le ++ [(("add", [20]) : Sy)]).Nodup
    rw [List.nodup_append]
    refine ⟨alp.nd, by simp, fun a ha c hc e => ?_⟩
    rw [List.mem_singleton.mp hc] at e
    subst e
    cases a3.ok _ ha with
    | add n hn => omega
theorem moreT_val {b : LB} (h : Small b) : Val (v_moreT b) := by
  obtain ⟨⟨wf, alp, lat, msk, de, so, no, fi⟩, a3, n5, le3, te3⟩ := h
  have n2 := wf.n2
  have app : ∀ {l : List (List Int)}, (∀ r ∈ l, Mono b.js.length b.js r) → ∀ r ∈ l ++ [rgI 0 b.js.length], Mono b.js.length b.js r := fun {l} hl r hr => by
    rcases List.mem_append.mp hr with hr | hr
    · exact hl r hr
    · rw [List.mem_singleton.mp hr]; exact id_mono lat (by omega)
  have okt : ∀ s ∈ b.te ++ [(("is", [20]) : Sy)], TstK 20 s := fun s hs => by
    rcases List.mem_append.mp hs with hs | hs
    · exact alp.okt s hs
    · rw [List.mem_singleton.mp hs]; exact .is 20 (by omega)
  refine ⟨⟨wf.n2, wf.n9, wf.js, wf.ms, wf.le1, wf.le4, ?_, wf.de, ⟨?_, fun r hr => (app so r hr).row⟩, ⟨?_, fun r hr => (app no r hr).row⟩, wf.fi, wf.okl, fun s hs => (okt s hs).ok⟩, ⟨alp.ok, alp.nd, alp.set0, okt, ?_⟩, lat, msk, de, app so, app no, fi⟩
  · show (b.te ++ [(("is", [20]) : Sy)]).length ≤ 4; rw [List.length_append, List.length_singleton]; omega
  · show (b.so ++ [rgI 0 b.js.length]).length = (b.te ++ [(("is", [20]) : Sy)]).length; rw [List.length_append, List.length_append, List.length_singleton, List.length_singleton, wf.so.len]
  · show (b.no ++ [rgI 0 b.js.length]).length = (b.te ++ [(("is", [20]) : Sy)]).length; rw [List.length_append, List.length_append, List.length_singleton, List.length_singleton, wf.no.len]
  · show (b.te ++ [(("is", [20]) : Sy)]).Nodup
    rw [List.nodup_append]
    refine ⟨alp.ndt, by simp, fun a ha c hc e => ?_⟩
    rw [List.mem_singleton.mp hc] at e
    subst e
    cases a3.okt _ ha with
    | is n hn => omega
theorem turnL_val {b : LB} (h : Val b) : Val (v_turnL b) := by
  obtain ⟨wf, alp, lat, msk, de, so, no, fi⟩ := h
  have md : ∀ r ∈ b.de.reverse, Mono b.js.length b.js r := fun r hr => de r (List.mem_reverse.mp hr)
  refine ⟨⟨wf.n2, wf.n9, wf.js, wf.ms, by show 1 ≤ b.le.reverse.length; rw [List.length_reverse]; exact wf.le1, by show b.le.reverse.length ≤ 4; rw [List.length_reverse]; exact wf.le4, wf.te4, ⟨by show b.de.reverse.length = b.le.reverse.length; rw [List.length_reverse, List.length_reverse]; exact wf.de.len, fun r hr => (md r hr).row⟩, wf.so, wf.no, wf.fi, fun s hs => wf.okl s (List.mem_reverse.mp hs), wf.okt⟩, ⟨fun s hs => alp.ok s (List.mem_reverse.mp hs), ?_, List.mem_reverse.mpr alp.set0, alp.okt, alp.ndt⟩, lat, msk, md, so, no, fi⟩
  exact (List.reverse_perm _).nodup_iff.mpr alp.nd
theorem turnT_val {b : LB} (h : Val b) : Val (v_turnT b) := by
  obtain ⟨wf, alp, lat, msk, de, so, no, fi⟩ := h
  have ms : ∀ r ∈ b.so.reverse, Mono b.js.length b.js r := fun r hr => so r (List.mem_reverse.mp hr)
  have mo : ∀ r ∈ b.no.reverse, Mono b.js.length b.js r := fun r hr => no r (List.mem_reverse.mp hr)
  refine ⟨⟨wf.n2, wf.n9, wf.js, wf.ms, wf.le1, wf.le4, by show b.te.reverse.length ≤ 4; rw [List.length_reverse]; exact wf.te4, wf.de, ⟨by show b.so.reverse.length = b.te.reverse.length; rw [List.length_reverse, List.length_reverse]; exact wf.so.len, fun r hr => (ms r hr).row⟩, ⟨by show b.no.reverse.length = b.te.reverse.length; rw [List.length_reverse, List.length_reverse]; exact wf.no.len, fun r hr => (mo r hr).row⟩, wf.fi, wf.okl, fun s hs => wf.okt s (List.mem_reverse.mp hs)⟩, ⟨alp.ok, alp.nd, alp.set0, fun s hs => alp.okt s (List.mem_reverse.mp hs), ?_⟩, lat, msk, de, ms, mo, fi⟩
  exact (List.reverse_perm _).nodup_iff.mpr alp.ndt
end DL
end

section
set_option Elab.async false
set_option linter.all false
set_option maxRecDepth 100000
set_option maxHeartbeats 4000000
namespace DL
open PySem PySem.Spec PyProof.Rows L2
open C8 (Cal pe_c Mak pe_mk)
local macro_rules | `(tactic| walk_at "si") => `(tactic| first
  | with_reducible assumption | omega | (simp only [rgI_len, List.length_map]; omega) | (simp only [decide_eq_true_eq, Bool.and_eq_true, Bool.not_eq_true', decide_eq_false_iff_not] at *; omega))
local macro_rules | `(tactic| walk_at "sz") => `(tactic| first
  | with_reducible assumption | omega | (simp only [rgI_len, List.length_map, List.length_append, List.length_cons, List.length_nil]; omega))
local macro_rules | `(tactic| walk_at "row") => `(tactic| first | with_reducible assumption | ((with_reducible refine Tbl.get (by with_reducible assumption) ?_); walk_at "wd") | exact row_mem (by with_reducible assumption) (by with_reducible assumption))
local macro_rules | `(tactic| walk_at "wd") => `(tactic| first | with_reducible assumption | omega | (constructor <;> omega) | ((with_reducible refine wd_get (by walk_at "row") ?_); walk_at "wd") | exact wd_mem (by with_reducible assumption) (by with_reducible assumption))
local macro_rules | `(tactic| walk_at "rk") => `(tactic| first
  | ((with_reducible apply ro_xL (by decide)); exact rfl) | ((with_reducible apply ro_xT (by decide)); exact rfl) | walk_at "ro")
local macro_rules | `(tactic| walk_at "ro") => `(tactic| first
  | with_reducible exact ro_b0 | with_reducible exact ro_l ro_eqI | with_reducible exact ro_l ro_neI | with_reducible exact ro_l ro_eqB | with_reducible exact ro_l ro_neB | with_reducible exact ro_l ro_eqS | with_reducible exact ro_l ro_neS
  | ((with_reducible refine ro_gLR (by with_reducible assumption) ?_); walk_at "wd") | ((with_reducible refine ro_gIR (by walk_at "row") ?_); walk_at "wd")
  | ((with_reducible refine ro_gI ?_ ?_) <;> walk_at "si") | ((with_reducible refine ro_gL ?_ ?_) <;> walk_at "si") | ((with_reducible refine ro_gIT ?_ ?_) <;> walk_at "si")
  | with_reducible exact ro_gG (by with_reducible assumption) | ((with_reducible refine ro_gT ?_ ?_) <;> walk_at "si")
  | ((with_reducible refine ro_gB ?_ ?_) <;> walk_at "si")
  | ((with_reducible refine ro_gS ?_ ?_) <;> walk_at "si") | ((with_reducible refine ro_gST ?_ ?_) <;> walk_at "si")
  | ((with_reducible refine ro_xM ?_ ?_) <;> walk_at "si") | ((with_reducible refine ro_xTM ?_ ?_) <;> walk_at "si")
  | ((with_reducible apply ro_xL (by decide)); exact rfl) | ((with_reducible apply ro_xT (by decide)); exact rfl)
  | with_reducible exact ro_eqIs | with_reducible exact ro_l ro_inL | with_reducible exact ro_l ro_niL | with_reducible exact ro_l ro_inT | with_reducible exact ro_l ro_inS | with_reducible exact ro_isNN | with_reducible exact ro_notNN | with_reducible exact ro_isNI | with_reducible exact ro_notNI)
local macro_rules | `(tactic| walk_at "rc") => `(tactic| with_reducible first
  | exact rc_lenM | exact rc_lenTM | exact rc_lenL' | exact rc_lenT' | exact rc_ii _ | exact rc_ib _ | exact rc_ss _ | exact rc_tt _ | exact rc_ltl _ | exact rc_ltt _ | exact rc_int | exact rc_abs | exact rc_max2 | exact rc_min2 | exact rc_all | exact rc_sum | exact rc_tupL' | exact rc_tupT' | exact rc_range1)
local macro_rules | `(tactic| walk_at "rcn") => `(tactic| with_reducible first
  | exact rcn_listL' | exact rcn_listT' | exact rcn_sortP)
local macro_rules | `(tactic| walk_at "pre") => `(tactic| first | with_reducible assumption | exact trivial | (refine And.intro ?_ ?_ <;> walk_at "pre") | walk_at "wd" | walk_at "si")
local macro_rules | `(tactic| walk_at "cmod") => `(tactic| (show (0 : Int) < _; first | decide | walk_at "si"))
local macro_rules | `(tactic| walk_at "cd") => `(tactic| (refine And.intro ?_ ?_ <;> walk_at "si"))
local macro_rules | `(tactic| walk_at "cp") => `(tactic| exact ⟨by decide, by decide, by decide⟩)
local macro_rules | `(tactic| walk_at "cm") => `(tactic| first | (refine Or.inl (And.intro ?_ ?_) <;> omega) | (refine Or.inr (And.intro ?_ ?_) <;> omega))
local macro_rules | `(tactic| walk_at "wk") => `(tactic| (repeat (first | exact Wk.nil | exact Wk.refl _ | refine Wk.same ?_ | refine Wk.frz ?_ | refine Wk.drop ?_)))
section
variable {P : PySem.Program} {w : World} {K : PySem.W.Frag} {mg : Str → Option Value} {base : Heap} {CL CB : Addr} (T : Txt K mg CL CB)
include T
def tw1 (b : LB) (ds : List Int) (k : Int) : LB := cond (decide (k ∈ [0, 1, 6, 7])) (v_doubled b ds) b
def tw2 (b : LB) (ds : List Int) (k : Int) : LB := cond (decide (k = 2)) (v_untold b) (tw1 b ds k)
def tw3 (b : LB) (ds : List Int) (k : Int) : LB := cond (decide (k ∈ [3, 6])) (v_lifted (tw2 b ds k) ds) (tw2 b ds k)
def tw4 (b : LB) (ds : List Int) (k : Int) : LB := cond (decide (k ∈ [4, 7])) (v_ledanew (tw3 b ds k) ds) (tw3 b ds k)
def twD (b : LB) (ds : List Int) : LB := cond (decide (gI ds 0 % 8 = 5)) (v_strange b (v_small (gI ds 1 * 997 + gI ds 2))) (v_ren (tw4 b ds (gI ds 0 % 8)) ds)
def v_twin (c : Int) (b : LB) : LB := twD b (v_digits c 60)
omit T in
theorem tw1_val {b : LB} (h : Small b) (ds : List Int) (k : Int) : Val (tw1 b ds k) := by
  unfold tw1
  cases decide (k ∈ [0, 1, 6, 7])
  · exact h.val
  · exact doubled_val h.val h.n5 ds
omit T in
theorem tw2_val {b : LB} (h : Small b) (ds : List Int) (k : Int) : Val (tw2 b ds k) := by
  unfold tw2
  cases decide (k = 2)
  · exact tw1_val h ds k
  · exact untold_val h.val
omit T in
theorem tw3_val {b : LB} (h : Small b) (ds : List Int) (k : Int) : Val (tw3 b ds k) := by
  unfold tw3
  cases decide (k ∈ [3, 6])
  · exact tw2_val h ds k
  · exact lifted_val (tw2_val h ds k) ds
omit T in
theorem tw4_val {b : LB} (h : Small b) (ds : List Int) (k : Int) : Val (tw4 b ds k) := by
  unfold tw4
  cases decide (k ∈ [4, 7])
  · exact tw3_val h ds k
  · exact ledanew_val (tw3_val h ds k) ds
omit T in
theorem twin_val {b : LB} (h : Small b) (c : Int) : Val (v_twin c b) := by
  unfold v_twin twD
  generalize v_digits c 60 = ds
  cases decide (gI ds 0 % 8 = 5)
  · exact ren_val (tw4_val h ds _) ds
  · exact strange_val h.val (small_ok _).val
omit T in
theorem tw4_alp (b : LB) (ds : List Int) (k : Int) : (tw4 b ds k).le = b.le ∧ (tw4 b ds k).te = b.te := by
  have h1 : (tw1 b ds k).le = b.le ∧ (tw1 b ds k).te = b.te := by
    unfold tw1; cases decide (k ∈ [0, 1, 6, 7]) <;> exact ⟨rfl, rfl⟩
  have h2 : (tw2 b ds k).le = b.le ∧ (tw2 b ds k).te = b.te := by
    unfold tw2
    cases decide (k = 2)
    · exact h1
    · exact ⟨rfl, rfl⟩
  have h3 : (tw3 b ds k).le = b.le ∧ (tw3 b ds k).te = b.te := by
    unfold tw3
    cases decide (k ∈ [3, 6])
    · exact h2
    · exact h2
  unfold tw4
  cases decide (k ∈ [4, 7])
  · exact h3
  · exact h3
omit T in
theorem twin_alp (b : LB) (c : Int) : (v_twin c b).le = b.le ∧ (v_twin c b).te = b.te := by
  unfold v_twin twD
  generalize v_digits c 60 = ds
  cases decide (gI ds 0 % 8 = 5)
  · exact tw4_alp b ds _
  · exact ⟨rfl, rfl⟩
omit T in
theorem in_ns {x : Int} {ns : List Int} : (decide (x ∈ ns) = true) ↔ x ∈ ns := decide_eq_true_iff
abbrev S_law_twin : Stmt := top 116
abbrev N_law_twin : List Str := ["_law_cell_here", "_law_book", "_law_cap", "_law_ds", "_law_kind", "_law_mate"]
omit T in
theorem sc__law_twin : FnScope N_law_twin ["_law_cell_here", "_law_book", "_law_cap"] (defScope S_law_twin) := ⟨rfl, rfl, rfl, by decide +kernel, rfl, by decide +kernel, by decide +kernel⟩
def sp__law_twin : Sp := spD (α := Int × LB) (fun ⟨c, b⟩ => [.int c, eLB b, .int 5]) (fun ⟨c, b⟩ => Small b) (fun ⟨c, b⟩ => eLB (v_twin c b))
omit T in
theorem d__law_twin {ρ : List Sl} {t : TA} {E : XK} {c : Int} {b : LB} (h : DA t ρ [.int c, eLB b, .int 5]) (hp : Small b) : DE (tCall sp__law_twin [] E t) ρ (eLB (v_twin c b)) := de_call (α := Int × LB) (enc := fun ⟨c, b⟩ => [.int c, eLB b, .int 5]) (pre := fun ⟨c, b⟩ => Small b) (val := fun ⟨c, b⟩ => eLB (v_twin c b)) ⟨c, b⟩ h rfl hp
theorem c__law_twin : Cal P w K mg base 5 "_law_twin" sp__law_twin [] :=
  cal_def (α := Int × LB) (enc := fun ⟨c, b⟩ => [.int c, eLB b, .int 5]) (pre := fun ⟨c, b⟩ => Small b) (val := fun ⟨c, b⟩ => eLB (v_twin c b)) T.f__law_twin sc__law_twin (fun ⟨c, b⟩ => rfl) (fun _ _ _ _ _ _ us hl => match us, hl with | [_, _, _], _ => rfl) fun f cdv A outer s H E hr ⟨c, b⟩ hp => by
    (try dsimp only at hp)
    have nd := sc__law_twin.nd
    refine ⟨_, (pss_cons (ps_set (i := 3) nd rfl (.inl rfl) (pe_c (c__law_digits T) hr (by decide) rfl (pa_cons (pv 0) (pa_cons pe_int pa_nil))))
    (pss_cons (ps_set (i := 4) nd rfl (.inl rfl) (pe_op op_mod (pe_callTy call_int1 rfl T.m_int (by decide +kernel) (pa_cons (pe_ix (ixk K) (pv 3) pe_int (fun _ _ => rfl)) pa_nil)) pe_int))
    (pss_cons (ps_if (pt_cmpR (eqk K hr) (pv 4) pe_int (nomark _)) (pss_one (ps_ret (pe_c (c__law_strange T) hr (by decide) rfl (pa_cons (pv 1) (pa_cons (pe_c (c__law_small_book T) hr (by decide) rfl (pa_cons (pe_op op_addA (pe_op op_mulA (pe_callTy call_int1 rfl T.m_int (by decide +kernel) (pa_cons (pe_ix (ixk K) (pv 3) pe_int (fun _ _ => rfl)) pa_nil)) pe_int) (pe_callTy call_int1 rfl T.m_int (by decide +kernel) (pa_cons (pe_ix (ixk K) (pv 3) pe_int (fun _ _ => rfl)) pa_nil))) (pa_cons (pv 2) pa_nil))) pa_nil))))) pss_nil)
    (pss_cons (ps_set (i := 5) nd rfl (.inl rfl) (pv 1))
    (pss_cons (ps_if (pt_cmpR (ink K hr) (pv 4) (pe_tup (pa_cons pe_int (pa_cons pe_int (pa_cons pe_int (pa_cons pe_int pa_nil))))) (by rfl)) (pss_one (ps_set (i := 5) nd rfl (.inl rfl) (pe_c (c__law_doubled T) hr (by decide) rfl (pa_cons (pv 1) (pa_cons (pv 3) (pa_cons pe_int pa_nil)))))) pss_nil)
    (pss_cons (ps_if (pt_cmpR (eqk K hr) (pv 4) pe_int (nomark _)) (pss_one (ps_set (i := 5) nd rfl (.inl rfl) (pe_c (c__law_untold_lowered T) hr (by decide) rfl (pa_cons (pv 1) pa_nil)))) pss_nil)
    (pss_cons (ps_if (pt_cmpR (ink K hr) (pv 4) (pe_tup (pa_cons pe_int (pa_cons pe_int pa_nil))) (by rfl)) (pss_one (ps_set (i := 5) nd rfl (.inl rfl) (pe_c (c__law_lifted T) hr (by decide) rfl (pa_cons (pv 5) (pa_cons (pv 3) (pa_cons pe_int pa_nil)))))) pss_nil)
    (pss_cons (ps_if (pt_cmpR (ink K hr) (pv 4) (pe_tup (pa_cons pe_int (pa_cons pe_int pa_nil))) (by rfl)) (pss_one (ps_set (i := 5) nd rfl (.inl rfl) (pe_c (c__law_led_anew T) hr (by decide) rfl (pa_cons (pv 5) (pa_cons (pv 3) (pa_cons pe_int pa_nil)))))) pss_nil)
    (pss_one (ps_ret (pe_c (c__law_renamed T) hr (by decide) rfl (pa_cons (pv 5) (pa_cons (pv 3) (pa_cons pe_int pa_nil)))))))))))))), ?_⟩
    have hS := hp
    have hd := digits_len c 60
    have ev : v_twin c b = twD b (v_digits c 60) := rfl
    show DS _ [.val (.int c), .val (eLB b), .val (.int 5), .any, .any, .any] _
    refine ds_setS (d := eIs (v_digits c 60)) (d__law_digits (da_cons (de_var rfl) (da_cons de_int da_nil)) (by walk_at "pre")) ?_
    generalize v_digits c 60 = ds at *
    refine ds_setS (de_op (dq_of (de_cb (db_cons (dq_of (de_op (dq_of (de_var rfl)) (dq_of de_int) (ro_gI (by omega) (by omega)))) db_nil) (by walk_at "rc"))) (dq_of de_int) (ro_i (by walk_at "cmod"))) ?_
    have e1 := tw1_val hS ds (gI ds 0 % 8)
    have e2 := tw2_val hS ds (gI ds 0 % 8)
    have e3 := tw3_val hS ds (gI ds 0 % 8)
    have e4 := tw4_val hS ds (gI ds 0 % 8)
    have etw : twD b ds = cond (decide (gI ds 0 % 8 = 5)) (v_strange b (v_small (gI ds 1 * 997 + gI ds 2))) (v_ren (tw4 b ds (gI ds 0 % 8)) ds) := rfl
    generalize hk : gI ds 0 % 8 = k at *
    show DS _ [.val (.int c), .val (eLB b), .val (.int 5), .val (eIs ds), .val (.int k), .any] _
    refine ds_seq (ds_if (dt_test (de_op (dq_of (de_var rfl)) (dq_of de_int) (by walk_at "ro"))) (fun hb => ds_ret (d__law_strange (da_cons (de_var rfl) (da_cons (d__law_small_book (da_cons (de_op (dq_of (de_op (dq_of (de_cb (db_cons (dq_of (de_op (dq_of (de_var rfl)) (dq_of de_int) (ro_gI (by omega) (by omega)))) db_nil) (by walk_at "rc"))) (dq_of de_int) (ro_l (ro_i (by walk_at "cm"))))) (dq_of (de_cb (db_cons (dq_of (de_op (dq_of (de_var rfl)) (dq_of de_int) (ro_gI (by omega) (by omega)))) db_nil) (by walk_at "rc"))) (ro_l ro_i0)) (da_cons (de_var rfl) da_nil)) (trivial)         ) da_nil)) (⟨hS.val.wf, (small_ok _).val.wf⟩)) (by show _ = eLB (v_twin c b); rw [ev, etw, hb]; rfl)) fun hb => ds_next ?_)
    show DS _ [.val (.int c), .val (eLB b), .val (.int 5), .val (eIs ds), .val (.int k), .any] _
    refine ds_setS (de_var rfl) ?_
    refine ds_ifM (fun q => [.val (.int c), .val (eLB b), .val (.int 5), .val (eIs ds), .val (.int k), .val (eLB (cond q (v_doubled b ds) b))]) (dt_test (de_op (dq_of (de_var rfl)) (dq_of (de_tup (da_cons de_int (da_cons de_int (da_cons de_int (da_cons de_int da_nil)))) (Nat.le_of_ble_eq_true rfl))) (ro_l (ro_inT (ns := [0, 1, 6, 7]))))) (fun _ => ds_set (d__law_doubled (da_cons (de_var rfl) (da_cons (de_var rfl) (da_cons de_int da_nil))) (⟨hS.val.wf, hd⟩) ) (by walk_at "wk")) (fun _ => by walk_at "wk") ?_
    refine ds_ifM (fun q => [.val (.int c), .val (eLB b), .val (.int 5), .val (eIs ds), .val (.int k), .val (eLB (cond q (v_untold b) (tw1 b ds k)))]) (dt_test (de_op (dq_of (de_var rfl)) (dq_of de_int) (by walk_at "ro"))) (fun _ => ds_set (d__law_untold_lowered (da_cons (de_var rfl) da_nil) (hS.val.wf)       ) (by walk_at "wk")) (fun _ => by walk_at "wk") ?_
    refine ds_ifM (fun q => [.val (.int c), .val (eLB b), .val (.int 5), .val (eIs ds), .val (.int k), .val (eLB (cond q (v_lifted (tw2 b ds k) ds) (tw2 b ds k)))]) (dt_test (de_op (dq_of (de_var rfl)) (dq_of (de_tup (da_cons de_int (da_cons de_int da_nil)) (Nat.le_of_ble_eq_true rfl))) (ro_l (ro_inT (ns := [3, 6]))))) (fun _ => ds_set (d := eLB (v_lifted (tw2 b ds k) ds)) (d__law_lifted (da_cons (de_var (d := eLB (tw2 b ds k)) rfl) (da_cons (de_var rfl) (da_cons de_int da_nil))) ⟨e2.wf, hd⟩) (by walk_at "wk")) (fun _ => by walk_at "wk") ?_
    refine ds_ifM (fun q => [.val (.int c), .val (eLB b), .val (.int 5), .val (eIs ds), .val (.int k), .val (eLB (cond q (v_ledanew (tw3 b ds k) ds) (tw3 b ds k)))]) (dt_test (de_op (dq_of (de_var rfl)) (dq_of (de_tup (da_cons de_int (da_cons de_int da_nil)) (Nat.le_of_ble_eq_true rfl))) (ro_l (ro_inT (ns := [4, 7]))))) (fun _ => ds_set (d := eLB (v_ledanew (tw3 b ds k) ds)) (d__law_led_anew (da_cons (de_var (d := eLB (tw3 b ds k)) rfl) (da_cons (de_var rfl) (da_cons de_int da_nil))) ⟨e3.wf, hd⟩) (by walk_at "wk")) (fun _ => by walk_at "wk") ?_
    show DS _ [.val (.int c), .val (eLB b), .val (.int 5), .val (eIs ds), .val (.int k), .val (eLB (tw4 b ds k))] _
    exact ds_ret (d__law_renamed (da_cons (de_var rfl) (da_cons (de_var rfl) (da_cons de_int da_nil))) (⟨e4.wf, hd⟩)     ) (by show _ = eLB (v_twin c b); rw [ev, etw, hb]; rfl)

end
end DL
end

section
set_option Elab.async false
set_option linter.all false
set_option maxRecDepth 100000
set_option maxHeartbeats 4000000
namespace DL
open PySem PySem.Spec PyProof.Rows L2
open C8 (Cal pe_c Mak pe_mk)
/-! ### what raises -/
structure TxE (K : PySem.W.Frag) (mg : Str → Option Value) (CE CK : Addr) : Prop where
  q : PySem.W.excIn K CE [.type "ValueError", .type "Exception", .type "BaseException", .type "object"] "ValueError.__new__" = true
  g : mg "OtherAlphabet" = some (.ref CE)
  kp : PySem.W.keepIn K (.ref CE) = true
  sub : PySem.W.subIn K (.ref CE) (.type "BaseException") = some true
  ty : PySem.W.typeIn K (.ref CE) = some (.type "type")
  exm : PySem.W.exmOne K (.ref CE) (.ref CE) = some true
  ec : ExcC K CE
  gK : mg "BookError" = some (.ref CK)
  is1 : PySem.W.kitOne K (.ref CE) (.ref CK) = some true
  is2 : PySem.W.kitOne K (.ref CE) (.type "ValueError") = some true
  m_VE : mg "ValueError" = none
section
variable {X : Cx} {C : Addr} {bmB : List Value} {B newId initId : String}
/-- X() -/
theorem pmk_own0 {x : Str} {p pos : Pos} (F : ExcBaseFacts B newId initId bmB) (q : PySem.W.excIn X.K C bmB newId = true) (gC : X.mg x = some (.ref C)) (kC : PySem.W.keepIn X.K (.ref C) = true) (r : Raises X (.ref C)) (hg : Gl X x)
    (hdb : (x == ("__debug__" : Str)) = false := by decide) : PMk X (.Call (.Name x p) [] [] pos) (fun _ H Q => Q (.ref C) none H) := by
  intro pins s σ H Q I h
  refine wpAny_Call_Name_kw (ld_glob I hg gC ?_ hdb)
  refine PySem.W.callWith_K0 I.kIn kC ?_
  show wpAny _ _ (call (.ref C) []) _ _ _
  obtain ⟨bm, N, nm, qn, bs, hdct, sn, sub, ab, col, dd, k0, k1, k2, k3, k5, mN, hC, hN, hni, T⟩ := exc_obj I.kIn q
  refine wpAny_call_exc_subT F T hC hN hni (fun h' e hm => ?_) (by show 0 ≤ sizeLine; rw [sizeLine_eq]; omega)
  exact mk_of I hm r h (I.hok.gone hm.new)
theorem takes0 {X : Cx} : Takes X (fun _ _ _ _ => False) := fun _ _ x => by
  obtain ⟨_, _, _, _, _, _, _, _, _, _, _, _, _, _, _, _, z⟩ := x
  exact z.elim
theorem pss_nv {ss : List Stmt} : PSs X ss tNever := ⟨fun _ _ _ _ _ _ h => h.elim⟩
theorem pss_when {p : Prop} {ss : List Stmt} {t : TS} (h : p → PSs X ss t) : PSs X ss (fun D σ H => p ∧ t D σ H) := ⟨fun pins s σ H D I q => (h q.1).run pins s σ H D I q.2⟩
end
def spX {α : Type} (C : Addr) (enc : α → List DV) (pre : α → Prop) : Sp := fun vs H _ E => ∃ (x : α) (Hs : Hp), Ex Hs H ∧ RpA Hs vs (enc x) ∧ pre x ∧ ∀ Hs' H', Go Hs H Hs' H' → E (.ref C) none H'
section
variable {P : PySem.Program} {w : World} {K : PySem.W.Frag} {mg : Str → Option Value} {base : Heap}
structure CalX (P : PySem.Program) (w : World) (K : PySem.W.Frag) (mg : Str → Option Value) (base : Heap) (k : Nat) (x : Str) (sp : Sp) : Prop where
  ex : ∃ (f : Addr) (fd : FuncData) (ps : List Str), FnOk P w K mg base (CX P w) k f fd ps sp ∧ mg x = some (.ref f) ∧ PySem.W.keepIn K (.ref f) = true ∧ Binds K fd ps []
theorem cal_defX {α : Type} {C : Addr} {enc : α → List DV} {pre : α → Prop} {i : Nat} {x : Str} {N ps : List Str} {k : Nat} (T : FnAt K mg i x) (S : FnScope N ps (defScope (top i))) (hl : ∀ x, (enc x).length = ps.length)
    (hbd : ∀ (kV doc pm : Value) (an : Option Addr) (cdv ct : Value) (us : List Value), us.length = ps.length → bindArgs (PySem.W.fnOf x x (defArgs (top i)) (defBody (top i)) (defScope (top i)) .none kV doc pm an cdv ct) ⟨us, []⟩ = pure (ps.zip us))
    (hb : ∀ (f : Addr) (cdv : Value) (A : Around) (outer : List Env) (s : Shared) (H : Hp) (E : XK), Room k (A.deeper (envOfC x (defScope (top i)) s.heap.objs.size f cdv)) → ∀ x', pre x' →
      ∃ t, PSs (cxOf (CX P w) P w K mg base N x (defScope (top i)) f cdv A outer s H E) (defBody (top i)) t ∧ ∀ (Hs : Hp) (σ : L2.St) (D : Ends), Ok Hs H Hs H σ (startR N (enc x')) → (∀ Hs' H', Go Hs H Hs' H' → E (.ref C) none H') → t D σ H) : CalX P w K mg base (k + 1) x (spX C enc pre) := by
  obtain ⟨f, fd, F, hm⟩ := T.ex
  refine ⟨f, fd, ps, F.ok S (fun vs H Q E h => ?_) (fun cdv A outer s H vs Q E hr h => ?_), hm, F.kp, F.bindsN hbd⟩
  · obtain ⟨x, Hs, e, r, _⟩ := h
    rw [r.len, hl]
  · obtain ⟨x, Hs, e, r, hp, q⟩ := h
    obtain ⟨t, h1, h2⟩ := hb f cdv A outer s H E hr x hp
    exact ⟨t, h1, h2 Hs _ _ (ok_start e r) q⟩
theorem tcallX {α : Type} {C : Addr} {enc : α → List DV} {pre : α → Prop} {ρ : List Sl} {ta : TA} {E : XK} (x : α) (h : DA ta ρ (enc x)) (hp : pre x) {Hj Hi Hs H : Hp} {σ : L2.St} (o : Ok Hj Hi Hs H σ ρ) (hE : ∀ Hs' H', Go Hs H Hs' H' → E (.ref C) none H') (Q : VK) : tCall (spX C enc pre) [] E ta σ H Q :=
  h _ _ _ _ _ o _ fun vs Hs' H' g r => ⟨x, Hs', g.i, by rw [List.append_nil]; exact r, hp, fun Hs2 H2 g2 => hE _ _ (g.trans g2)⟩
theorem tcallXS {α : Type} {C : Addr} {enc : α → List DV} {pre : α → Prop} {ρ : List Sl} {ta : TA} {E : L2.St → XK} (x : α) (h : DA ta ρ (enc x)) (hp : pre x) {Hj Hi Hs H : Hp} {σ : L2.St} (o : Ok Hj Hi Hs H σ ρ) (hE : ∀ Hs' H', Go Hs H Hs' H' → E σ (.ref C) none H') (Q : VK) : tCallS (spX C enc pre) E ta σ H Q :=
  h _ _ _ _ _ o _ fun vs Hs' H' g r => ⟨x, Hs', g.i, r, hp, fun Hs2 H2 g2 => hE _ _ (g.trans g2)⟩
section
variable {X : Cx} {k j : Nat} {x : Str} {sp : Sp} {p pos : Pos} {e : Expr} {es : List Expr} {t : TA}
theorem pe_cX {E : XK} (c : CalX X.prog X.w X.K X.mg X.base k x sp) (hr : Room j X.A) (hk : k ≤ j) (hg : Gl X x) (hx : Passes (CX X.prog X.w) X E) (ha : PA X (e :: es) t)
    (hdb : (x == ("__debug__" : Str)) = false := by decide) (he : starEach (e :: es) X.env = (false, eval e X.env) :: starEach es X.env := by rfl) (hpl : (backTo pos (starEach es X.env)).any (·.1) = false := by rfl) :
    PE X (.Call (.Name x p) (e :: es) [] pos) (tCall sp [] E t) := by
  obtain ⟨f, fd, ps, F, hm, kp, b⟩ := c.ex
  exact pe_call F (hr.mono hk) hg hm kp b .nil hx ha hdb he hpl
theorem pe_cS {W : WX} (c : CalX X.prog X.w X.K X.mg X.base k x sp) (hr : Room j X.A) (hk : k ≤ j) (hg : Gl X x) (tk : Takes X W) (ha : PA X (e :: es) t)
    (hdb : (x == ("__debug__" : Str)) = false := by decide) (he : starEach (e :: es) X.env = (false, eval e X.env) :: starEach es X.env := by rfl) (hpl : (backTo pos (starEach es X.env)).any (·.1) = false := by rfl) :
    PE X (.Call (.Name x p) (e :: es) [] pos) (tCallS sp (WE W) t) := by
  obtain ⟨f, fd, ps, F, hm, kp, b⟩ := c.ex
  exact pe_callS F (hr.mono hk) hg hm kp b (fun σ => passAt tk σ) ha hdb he hpl
end
end
end DL
end

section
set_option Elab.async false
set_option linter.all false
set_option maxRecDepth 100000
set_option maxHeartbeats 4000000
namespace DL
open PySem PySem.Spec PyProof.Rows L2
open C8 (Cal pe_c Mak pe_mk)
local macro_rules | `(tactic| walk_at "si") => `(tactic| first
  | with_reducible assumption | omega | (simp only [rgI_len, List.length_map]; omega) | (simp only [decide_eq_true_eq, Bool.and_eq_true, Bool.not_eq_true', decide_eq_false_iff_not] at *; omega))
local macro_rules | `(tactic| walk_at "sz") => `(tactic| first
  | with_reducible assumption | omega | (simp only [rgI_len, List.length_map, List.length_append, List.length_cons, List.length_nil]; omega))
local macro_rules | `(tactic| walk_at "row") => `(tactic| first | with_reducible assumption | ((with_reducible refine Tbl.get (by with_reducible assumption) ?_); walk_at "wd") | exact row_mem (by with_reducible assumption) (by with_reducible assumption))
local macro_rules | `(tactic| walk_at "wd") => `(tactic| first | with_reducible assumption | omega | (constructor <;> omega) | ((with_reducible refine wd_get (by walk_at "row") ?_); walk_at "wd") | exact wd_mem (by with_reducible assumption) (by with_reducible assumption))
local macro_rules | `(tactic| walk_at "rk") => `(tactic| first
  | ((with_reducible apply ro_xL (by decide)); exact rfl) | ((with_reducible apply ro_xT (by decide)); exact rfl) | walk_at "ro")
local macro_rules | `(tactic| walk_at "ro") => `(tactic| first
  | with_reducible exact ro_b0 | with_reducible exact ro_l ro_eqI | with_reducible exact ro_l ro_neI | with_reducible exact ro_l ro_eqB | with_reducible exact ro_l ro_neB | with_reducible exact ro_l ro_eqS | with_reducible exact ro_l ro_neS
  | ((with_reducible refine ro_gLR (by with_reducible assumption) ?_); walk_at "wd") | ((with_reducible refine ro_gIR (by walk_at "row") ?_); walk_at "wd")
  | ((with_reducible refine ro_gI ?_ ?_) <;> walk_at "si") | ((with_reducible refine ro_gL ?_ ?_) <;> walk_at "si") | ((with_reducible refine ro_gIT ?_ ?_) <;> walk_at "si")
  | with_reducible exact ro_gG (by with_reducible assumption) | ((with_reducible refine ro_gT ?_ ?_) <;> walk_at "si")
  | ((with_reducible refine ro_gB ?_ ?_) <;> walk_at "si")
  | ((with_reducible refine ro_gS ?_ ?_) <;> walk_at "si") | ((with_reducible refine ro_gST ?_ ?_) <;> walk_at "si")
  | ((with_reducible refine ro_xM ?_ ?_) <;> walk_at "si") | ((with_reducible refine ro_xTM ?_ ?_) <;> walk_at "si")
  | ((with_reducible apply ro_xL (by decide)); exact rfl) | ((with_reducible apply ro_xT (by decide)); exact rfl)
  | with_reducible exact ro_eqIs | with_reducible exact ro_l ro_inL | with_reducible exact ro_l ro_niL | with_reducible exact ro_l ro_inT | with_reducible exact ro_l ro_inS | with_reducible exact ro_isNN | with_reducible exact ro_notNN | with_reducible exact ro_isNI | with_reducible exact ro_notNI)
local macro_rules | `(tactic| walk_at "rc") => `(tactic| with_reducible first
  | exact rc_lenM | exact rc_lenTM | exact rc_lenL' | exact rc_lenT' | exact rc_ii _ | exact rc_ib _ | exact rc_ss _ | exact rc_tt _ | exact rc_ltl _ | exact rc_ltt _ | exact rc_int | exact rc_abs | exact rc_max2 | exact rc_min2 | exact rc_all | exact rc_sum | exact rc_tupL' | exact rc_tupT' | exact rc_range1)
local macro_rules | `(tactic| walk_at "rcn") => `(tactic| with_reducible first
  | exact rcn_listL' | exact rcn_listT' | exact rcn_sortP)
local macro_rules | `(tactic| walk_at "pre") => `(tactic| first | with_reducible assumption | exact trivial | (refine And.intro ?_ ?_ <;> walk_at "pre") | walk_at "wd" | walk_at "si")
local macro_rules | `(tactic| walk_at "cmod") => `(tactic| (show (0 : Int) < _; first | decide | walk_at "si"))
local macro_rules | `(tactic| walk_at "cd") => `(tactic| (refine And.intro ?_ ?_ <;> walk_at "si"))
local macro_rules | `(tactic| walk_at "cp") => `(tactic| exact ⟨by decide, by decide, by decide⟩)
local macro_rules | `(tactic| walk_at "cm") => `(tactic| first | (refine Or.inl (And.intro ?_ ?_) <;> omega) | (refine Or.inr (And.intro ?_ ?_) <;> omega))
local macro_rules | `(tactic| walk_at "wk") => `(tactic| (repeat (first | exact Wk.nil | exact Wk.refl _ | refine Wk.same ?_ | refine Wk.frz ?_ | refine Wk.drop ?_)))
section
variable {P : PySem.Program} {w : World} {K : PySem.W.Frag} {mg : Str → Option Value} {base : Heap} {CL CB : Addr} (T : Txt K mg CL CB)
include T
abbrev Dif (a b : LB) : Prop := WF a ∧ WF b ∧ (a.le ≠ b.le ∨ a.te ≠ b.te)
abbrev encX (CL CB : Addr) (x : LB × LB) : List DV := [eBook CL CB x.1, eBook CL CB x.2]
def spXX (CL CB CE : Addr) : Sp := spX (α := LB × LB) CE (encX CL CB) (fun x => Dif x.1 x.2)
abbrev encY (CL CB : Addr) (x : LB × LB × Int × Int) : List DV := [eBook CL CB x.1, eBook CL CB x.2.1, .int x.2.2.1, .int x.2.2.2]
def spXY (CL CB CE : Addr) : Sp := spX (α := LB × LB × Int × Int) CE (encY CL CB) (fun x => Dif x.1 x.2.1)
variable {CE CK : Addr} (TE : TxE K mg CE CK)
include TE
theorem cx_check_same_alphabet : CalX P w K mg base 1 "check_same_alphabet" (spXX CL CB CE) :=
  cal_defX (α := LB × LB) (enc := encX CL CB) (pre := fun x => Dif x.1 x.2) T.f_check_same_alphabet sc_check_same_alphabet (fun _ => rfl) (fun _ _ _ _ _ _ us hl => match us, hl with | [_, _], _ => rfl) fun f cdv A outer s H E hr x hp => by
    obtain ⟨ha, hb, hd⟩ := hp
    refine ⟨_, (pss_one (ps_if (PW.pt (pw_or (pt_cmpR (nek K hr) (fldk K (pv 0) rfl) (fldk K (pv 1) rfl) (nomark _)) (pw_or1 (pt_cmpR (nek K hr) (fldk K (pv 0) rfl) (fldk K (pv 1) rfl) (nomark _))))) (pss_one (ps_raise rfl (takes_of rfl rfl rfl rfl) (pmk_own0 PySem.F.excBase_ValueError TE.q TE.g TE.kp (raises_own TE.sub TE.ty) rfl))) pss_nil)), fun Hs σ D o hE => ?_⟩
    have h0 : DT (tOr (tTest (tOp (fun x y H Q => rNe x y H Q ∨ rNeD K x y H Q) (tFld K (tVar 0) "letters") (tFld K (tVar 1) "letters"))) (tTest (tOp (fun x y H Q => rNe x y H Q ∨ rNeD K x y H Q) (tFld K (tVar 0) "tests") (tFld K (tVar 1) "tests")))) [.val (eBook CL CB x.1), .val (eBook CL CB x.2)] _ := (dt_or (dt_test (de_op (dq_of (de_fld T.cls_Book T.no_Book_letters (de_var rfl) rfl)) (dq_of (de_fld T.cls_Book T.no_Book_letters (de_var rfl) rfl)) (ro_neSysT (K := K) ha.okl hb.okl))) (fun _ => (dt_test (de_op (dq_of (de_fld T.cls_Book T.no_Book_tests (de_var rfl) rfl)) (dq_of (de_fld T.cls_Book T.no_Book_tests (de_var rfl) rfl)) (ro_neSysT (K := K) ha.okt hb.okt)))))
    refine h0 _ _ _ _ _ o _ fun Hs1 H1 g1 => ?_
    have hb : ((!decide (x.1.le = x.2.le)) || (!decide (x.1.te = x.2.te))) = true := by
      rcases hd with h | h
      · rw [decide_eq_false h]; rfl
      · rw [decide_eq_false h, Bool.or_comm]; rfl
    rw [hb]
    exact iteT (hE _ _ g1)
theorem cx_couple_lines : CalX P w K mg base 2 "couple_lines" (spXX CL CB CE) :=
  cal_defX (α := LB × LB) (enc := encX CL CB) (pre := fun x => Dif x.1 x.2) T.f_couple_lines sc_couple_lines (fun _ => rfl) (fun _ _ _ _ _ _ us hl => match us, hl with | [_, _], _ => rfl) fun f cdv A outer s H E hr x hp => by
    have nd := sc_couple_lines.nd
    refine ⟨_, (pss_cons (ps_expr (pe_cX (cx_check_same_alphabet T TE) hr (by decide) rfl (passes_call (takes_of rfl rfl rfl rfl) fun _ _ _ _ h => h) (pa_cons (pv 0) (pa_cons (pv 1) pa_nil)))) pss_nv), fun Hs σ D o hE => ?_⟩
    exact tcallX (α := LB × LB) (ρ := startR N_couple_lines (encX CL CB x)) (x.1, x.2) (da_cons (de_var rfl) (da_cons (de_var rfl) da_nil)) hp o hE _
theorem cx_couples_told : CalX P w K mg base 3 "couples_told" (spXX CL CB CE) :=
  cal_defX (α := LB × LB) (enc := encX CL CB) (pre := fun x => Dif x.1 x.2) T.f_couples_told sc_couples_told (fun _ => rfl) (fun _ _ _ _ _ _ us hl => match us, hl with | [_, _], _ => rfl) fun f cdv A outer s H E hr x hp => by
    have nd := sc_couples_told.nd
    refine ⟨_, (pss_one (ps_ret (pe_callTy (tupk K) rfl T.m_tuple (by decide +kernel) (pa_cons (pe_callB (srPk K) rfl T.m_sorted (by decide +kernel) (pa_cons (pe_lc (own := [("word", 2), ("partner", 3), ("why", 4)]) rfl nd (pitk K (pe_cX (cx_couple_lines T TE) hr (by decide) rfl (passes_call (takes_of rfl rfl rfl rfl) fun _ _ _ _ h => h) (pa_cons (pv 0) (pa_cons (pv 1) pa_nil)))) (blkOk_by (sc := defScope S_couples_told) (N := N_couples_told) (own := [("word", 2), ("partner", 3), ("why", 4)]) (by decide +kernel)) (fun _ _ _ _ _ => (pgtk (n := 3) K rfl (pgs_cons (pg_name (i := 2) nd rfl (by first | exact .inl rfl | exact .inr rfl)) (pgs_cons (pg_name (i := 3) nd rfl (by first | exact .inl rfl | exact .inr rfl)) (pgs_cons (pg_name (i := 4) nd rfl (by first | exact .inl rfl | exact .inr rfl)) pgs_nil))))) (fun _ _ _ _ _ => pts_nil) (fun _ _ _ _ _ => (pe_tup (pa_cons (pv 2) (pa_cons (pv 3) pa_nil))))) pa_nil)) pa_nil)))), fun Hs σ D o hE => ?_⟩
    exact tcallX (α := LB × LB) (ρ := startR N_couples_told (encX CL CB x)) (x.1, x.2) (da_cons (de_var rfl) (da_cons (de_var rfl) da_nil)) hp o hE _
abbrev S_couple_program : Stmt := top 84
abbrev N_couple_program : List Str := ["one", "other", "word", "partner", "lines", "at"]
omit T TE in
theorem sc_couple_program : FnScope N_couple_program ["one", "other", "word", "partner"] (defScope S_couple_program) := ⟨rfl, rfl, rfl, by decide +kernel, rfl, by decide +kernel, by decide +kernel⟩
theorem cx_couple_program : CalX P w K mg base 3 "couple_program" (spXY CL CB CE) :=
  cal_defX (α := LB × LB × Int × Int) (enc := encY CL CB) (pre := fun x => Dif x.1 x.2.1) T.f_couple_program sc_couple_program (fun _ => rfl) (fun _ _ _ _ _ _ us hl => match us, hl with | [_, _, _, _], _ => rfl) fun f cdv A outer s H E hr x hp => by
    have nd := sc_couple_program.nd
    refine ⟨_, (pss_cons (ps_set (i := 4) nd rfl (.inl rfl) (pe_cX (cx_couple_lines T TE) hr (by decide) rfl (passes_call (takes_of rfl rfl rfl rfl) fun _ _ _ _ h => h) (pa_cons (pv 0) (pa_cons (pv 1) pa_nil)))) pss_nv), fun Hs σ D o hE => ?_⟩
    exact tcallX (α := LB × LB) (ρ := startR N_couple_program (encY CL CB x)) (x.1, x.2.1) (da_cons (de_var rfl) (da_cons (de_var rfl) da_nil)) hp o hE _
abbrev S_alike : Stmt := top 89
abbrev N_alike : List Str := ["one", "other", "lines", "at", "word", "partner", "_", "test"]
omit T TE in
theorem sc_alike : FnScope N_alike ["one", "other"] (defScope S_alike) := ⟨rfl, rfl, rfl, by decide +kernel, rfl, by decide +kernel, by decide +kernel⟩
theorem cx_alike : CalX P w K mg base 3 "alike" (spXX CL CB CE) :=
  cal_defX (α := LB × LB) (enc := encX CL CB) (pre := fun x => Dif x.1 x.2) T.f_alike sc_alike (fun _ => rfl) (fun _ _ _ _ _ _ us hl => match us, hl with | [_, _], _ => rfl) fun f cdv A outer s H E hr x hp => by
    have nd := sc_alike.nd
    refine ⟨_, (pss_cons (ps_set (i := 2) nd rfl (.inl rfl) (pe_cX (cx_couple_lines T TE) hr (by decide) rfl (passes_call (takes_of rfl rfl rfl rfl) fun _ _ _ _ h => h) (pa_cons (pv 0) (pa_cons (pv 1) pa_nil)))) pss_nv), fun Hs σ D o hE => ?_⟩
    exact tcallX (α := LB × LB) (ρ := startR N_alike (encX CL CB x)) (x.1, x.2) (da_cons (de_var rfl) (da_cons (de_var rfl) da_nil)) hp o hE _
abbrev S_finer : Stmt := top 88
abbrev N_finer : List Str := ["one", "other", "lines", "at", "word", "partner", "_", "test"]
omit T TE in
theorem sc_finer : FnScope N_finer ["one", "other"] (defScope S_finer) := ⟨rfl, rfl, rfl, by decide +kernel, rfl, by decide +kernel, by decide +kernel⟩
theorem cx_finer : CalX P w K mg base 3 "finer" (spXX CL CB CE) :=
  cal_defX (α := LB × LB) (enc := encX CL CB) (pre := fun x => Dif x.1 x.2) T.f_finer sc_finer (fun _ => rfl) (fun _ _ _ _ _ _ us hl => match us, hl with | [_, _], _ => rfl) fun f cdv A outer s H E hr x hp => by
    have nd := sc_finer.nd
    refine ⟨_, (pss_cons (ps_set (i := 2) nd rfl (.inl rfl) (pe_cX (cx_couple_lines T TE) hr (by decide) rfl (passes_call (takes_of rfl rfl rfl rfl) fun _ _ _ _ h => h) (pa_cons (pv 0) (pa_cons (pv 1) pa_nil)))) pss_nv), fun Hs σ D o hE => ?_⟩
    exact tcallX (α := LB × LB) (ρ := startR N_finer (encX CL CB x)) (x.1, x.2) (da_cons (de_var rfl) (da_cons (de_var rfl) da_nil)) hp o hE _
abbrev S_told_match : Stmt := top 93
abbrev N_told_match : List Str := ["one", "other", "there", "back", "before", "word"]
omit T TE in
theorem sc_told_match : FnScope N_told_match ["one", "other"] (defScope S_told_match) := ⟨rfl, rfl, rfl, by decide +kernel, rfl, by decide +kernel, by decide +kernel⟩
theorem cx_told_match : CalX P w K mg base 2 "told_match" (spXX CL CB CE) :=
  cal_defX (α := LB × LB) (enc := encX CL CB) (pre := fun x => Dif x.1 x.2) T.f_told_match sc_told_match (fun _ => rfl) (fun _ _ _ _ _ _ us hl => match us, hl with | [_, _], _ => rfl) fun f cdv A outer s H E hr x hp => by
    have nd := sc_told_match.nd
    refine ⟨_, (pss_cons (ps_expr (pe_cX (cx_check_same_alphabet T TE) hr (by decide) rfl (passes_call (takes_of rfl rfl rfl rfl) fun _ _ _ _ h => h) (pa_cons (pv 0) (pa_cons (pv 1) pa_nil)))) pss_nv), fun Hs σ D o hE => ?_⟩
    exact tcallX (α := LB × LB) (ρ := startR N_told_match (encX CL CB x)) (x.1, x.2) (da_cons (de_var rfl) (da_cons (de_var rfl) da_nil)) hp o hE _


end
end DL
end

section
set_option Elab.async false
set_option linter.all false
set_option maxRecDepth 100000
set_option maxHeartbeats 4000000
namespace DL
open PySem PySem.Spec PyProof.Rows L2
open C8 (Cal pe_c Mak pe_mk)
local macro_rules | `(tactic| walk_at "si") => `(tactic| first
  | with_reducible assumption | omega | (simp only [rgI_len, List.length_map]; omega) | (simp only [decide_eq_true_eq, Bool.and_eq_true, Bool.not_eq_true', decide_eq_false_iff_not] at *; omega))
local macro_rules | `(tactic| walk_at "sz") => `(tactic| first
  | with_reducible assumption | omega | (simp only [rgI_len, List.length_map, List.length_append, List.length_cons, List.length_nil]; omega))
local macro_rules | `(tactic| walk_at "row") => `(tactic| first | with_reducible assumption | ((with_reducible refine Tbl.get (by with_reducible assumption) ?_); walk_at "wd") | exact row_mem (by with_reducible assumption) (by with_reducible assumption))
local macro_rules | `(tactic| walk_at "wd") => `(tactic| first | with_reducible assumption | omega | (constructor <;> omega) | ((with_reducible refine wd_get (by walk_at "row") ?_); walk_at "wd") | exact wd_mem (by with_reducible assumption) (by with_reducible assumption))
local macro_rules | `(tactic| walk_at "rk") => `(tactic| first
  | ((with_reducible apply ro_xL (by decide)); exact rfl) | ((with_reducible apply ro_xT (by decide)); exact rfl) | walk_at "ro")
local macro_rules | `(tactic| walk_at "ro") => `(tactic| first
  | with_reducible exact ro_b0 | with_reducible exact ro_l ro_eqI | with_reducible exact ro_l ro_neI | with_reducible exact ro_l ro_eqB | with_reducible exact ro_l ro_neB | with_reducible exact ro_l ro_eqS | with_reducible exact ro_l ro_neS
  | ((with_reducible refine ro_gLR (by with_reducible assumption) ?_); walk_at "wd") | ((with_reducible refine ro_gIR (by walk_at "row") ?_); walk_at "wd")
  | ((with_reducible refine ro_gI ?_ ?_) <;> walk_at "si") | ((with_reducible refine ro_gL ?_ ?_) <;> walk_at "si") | ((with_reducible refine ro_gIT ?_ ?_) <;> walk_at "si")
  | with_reducible exact ro_gG (by with_reducible assumption) | ((with_reducible refine ro_gT ?_ ?_) <;> walk_at "si")
  | ((with_reducible refine ro_gB ?_ ?_) <;> walk_at "si")
  | ((with_reducible refine ro_gS ?_ ?_) <;> walk_at "si") | ((with_reducible refine ro_gST ?_ ?_) <;> walk_at "si")
  | ((with_reducible refine ro_xM ?_ ?_) <;> walk_at "si") | ((with_reducible refine ro_xTM ?_ ?_) <;> walk_at "si")
  | ((with_reducible apply ro_xL (by decide)); exact rfl) | ((with_reducible apply ro_xT (by decide)); exact rfl)
  | with_reducible exact ro_eqIs | with_reducible exact ro_l ro_inL | with_reducible exact ro_l ro_niL | with_reducible exact ro_l ro_inT | with_reducible exact ro_l ro_inS | with_reducible exact ro_isNN | with_reducible exact ro_notNN | with_reducible exact ro_isNI | with_reducible exact ro_notNI)
local macro_rules | `(tactic| walk_at "rc") => `(tactic| with_reducible first
  | exact rc_lenM | exact rc_lenTM | exact rc_lenL' | exact rc_lenT' | exact rc_ii _ | exact rc_ib _ | exact rc_ss _ | exact rc_tt _ | exact rc_ltl _ | exact rc_ltt _ | exact rc_int | exact rc_abs | exact rc_max2 | exact rc_min2 | exact rc_all | exact rc_sum | exact rc_tupL' | exact rc_tupT' | exact rc_range1)
local macro_rules | `(tactic| walk_at "rcn") => `(tactic| with_reducible first
  | exact rcn_listL' | exact rcn_listT' | exact rcn_sortP)
local macro_rules | `(tactic| walk_at "pre") => `(tactic| first | with_reducible assumption | exact trivial | (refine And.intro ?_ ?_ <;> walk_at "pre") | walk_at "wd" | walk_at "si")
local macro_rules | `(tactic| walk_at "cmod") => `(tactic| (show (0 : Int) < _; first | decide | walk_at "si"))
local macro_rules | `(tactic| walk_at "cd") => `(tactic| (refine And.intro ?_ ?_ <;> walk_at "si"))
local macro_rules | `(tactic| walk_at "cp") => `(tactic| exact ⟨by decide, by decide, by decide⟩)
local macro_rules | `(tactic| walk_at "cm") => `(tactic| first | (refine Or.inl (And.intro ?_ ?_) <;> omega) | (refine Or.inr (And.intro ?_ ?_) <;> omega))
local macro_rules | `(tactic| walk_at "wk") => `(tactic| (repeat (first | exact Wk.nil | exact Wk.refl _ | refine Wk.same ?_ | refine Wk.frz ?_ | refine Wk.drop ?_)))
section
variable {P : PySem.Program} {w : World} {K : PySem.W.Frag} {mg : Str → Option Value} {base : Heap} {CL CB : Addr} (T : Txt K mg CL CB)
include T
variable {CE CK : Addr} (TE : TxE K mg CE CK)
abbrev S_law_refused : Stmt := top 121
abbrev N_law_refused : List Str := ["_law_one", "_law_other", "_law_pick", "_law_word", "_law_partner", "_law_caught", "raised"]
omit T in
theorem sc__law_refused : FnScope N_law_refused ["_law_one", "_law_other", "_law_pick", "_law_word", "_law_partner"] (defScope S_law_refused) := ⟨rfl, rfl, rfl, by decide +kernel, rfl, by decide +kernel, by decide +kernel⟩
abbrev encR (CL CB : Addr) (x : LB × LB × Int × Int × Int) : List DV := [eBook CL CB x.1, eBook CL CB x.2.1, .int x.2.2.1, .int x.2.2.2.1, .int x.2.2.2.2]
def sp__law_refused (CL CB : Addr) : Sp := spD (α := LB × LB × Int × Int × Int) (encR CL CB) (fun x => Dif x.1 x.2.1) (fun _ => .bl true)
omit T in
theorem d__law_refused {ρ : List Sl} {t : TA} {E : XK} {a b : LB} {k w p : Int} (h : DA t ρ [eBook CL CB a, eBook CL CB b, .int k, .int w, .int p]) (hp : Dif a b) : DE (tCall (sp__law_refused CL CB) [] E t) ρ (.bl true) := de_call (α := LB × LB × Int × Int × Int) (enc := encR CL CB) (pre := fun x => Dif x.1 x.2.1) (val := fun _ => .bl true) (a, b, k, w, p) h rfl hp
omit T in
theorem if_raw {Hj Hi Hs H : Hp} {σ : L2.St} {ρ : List Sl} {D : Ends} {tt : TT} {t u : TS} {b : Bool} (h : DT tt ρ b) (o : Ok Hj Hi Hs H σ ρ) (h1 : ∀ Hs H, Ok Hj Hi Hs H σ ρ → t D σ H) (h2 : ∀ Hs H, Ok Hj Hi Hs H σ ρ → u D σ H) : tIfS tt t u D σ H :=
  h _ _ _ _ _ o _ fun Hs1 H1 g1 => by
    cases b with
    | true => exact iteT (h1 _ _ (o.up g1))
    | false => exact iteF (h2 _ _ (o.up g1))
include TE
theorem c__law_refused : Cal P w K mg base 4 "_law_refused" (sp__law_refused CL CB) [] :=
  cal_def (α := LB × LB × Int × Int × Int) (enc := encR CL CB) (pre := fun x => Dif x.1 x.2.1) (val := fun _ => .bl true) T.f__law_refused sc__law_refused (fun _ => rfl) (fun _ _ _ _ _ _ us hl => match us, hl with | [_, _, _, _, _], _ => rfl) fun f cdv A outer s H E hr x hp => by
    have nd := sc__law_refused.nd
    refine ⟨_, (pss_cons (ps_set (i := 5) nd rfl (.inl rfl) pe_bl)
    (pss_cons (ps_try_as (i := 6) (Wout := fun _ _ _ _ => False) rfl rfl nd rfl rfl ⟨rfl, by decide, .inl TE.g⟩ takes0
      (fun W pn xe tk _ => (pss_one (ps_if (pt_cmpR (eqk K hr) (pv 2) pe_int (nomark _)) (pss_one (ps_expr (pe_cS (W := W) (cx_couples_told T TE) hr (by decide) rfl tk (pa_cons (pv 0) (pa_cons (pv 1) pa_nil))))) (pss_one (ps_if (pt_cmpR (eqk K hr) (pv 2) pe_int (nomark _)) (pss_one (ps_expr (pe_cS (W := W) (cx_couple_program T TE) hr (by decide) rfl tk (pa_cons (pv 0) (pa_cons (pv 1) (pa_cons (pv 3) (pa_cons (pv 4) pa_nil))))))) (pss_one (ps_if (pt_cmpR (eqk K hr) (pv 2) pe_int (nomark _)) (pss_one (ps_expr (pe_cS (W := W) (cx_alike T TE) hr (by decide) rfl tk (pa_cons (pv 0) (pa_cons (pv 1) pa_nil))))) (pss_one (ps_if (pt_cmpR (eqk K hr) (pv 2) pe_int (nomark _)) (pss_one (ps_expr (pe_cS (W := W) (cx_finer T TE) hr (by decide) rfl tk (pa_cons (pv 0) (pa_cons (pv 1) pa_nil))))) (pss_one (ps_expr (pe_cS (W := W) (cx_told_match T TE) hr (by decide) rfl tk (pa_cons (pv 0) (pa_cons (pv 1) pa_nil))))))))))))))
      (fun a oe cls d pn hz hf => pss_when (p := cls = .ref CE ∧ d = none) fun hc => (pss_one (ps_set (i := 5) nd rfl (.inl rfl) (pe_and (pe_callB (r := rIsE K CE a) (call_isE TE.ec (by rw [← hc.1, ← hc.2]; exact hz) hf) rfl T.m_isinstance (by decide +kernel) (pa_cons (pv 6) (pa_cons (pe_glob (v := .ref CK) rfl TE.gK rfl) pa_nil))) (pe_one (pe_callB (r := rIsE K CE a) (call_isE TE.ec (by rw [← hc.1, ← hc.2]; exact hz) hf) rfl T.m_isinstance (by decide +kernel) (pa_cons (pv 6) (pa_cons (pe_bltn (v := .ty "ValueError") rfl TE.m_VE (by decide +kernel) rfl) pa_nil)))))))))
    (pss_one (ps_ret (pv 5))))), ?_⟩
    refine ds_seq (ds_set de_bl ?_)
    refine ds_seq fun Hj Hi D S σ Hs H o => ?_
    have hW : ∀ Hs1 H1, Ok Hj Hi Hs1 H1 σ ([.val (eBook CL CB x.1), .val (eBook CL CB x.2.1), .val (.int x.2.2.1), .val (.int x.2.2.2.1), .val (.int x.2.2.2.2), .val (.bl false), .any]) → wAs K (.ref CE) 6 (fun a cls d D σ H => (cls = .ref CE ∧ d = none) ∧ tAsg (tAndV (tCB (rIsE K CE a) (tCons (tVar 6) (tCons (tC (.ref CK)) tNil))) (tCB (rIsE K CE a) (tCons (tVar 6) (tCons (tC (.ty "ValueError")) tNil)))) (gName 5) D σ H) (fun _ _ _ _ => False) D (.ref CE) none σ H1 := fun Hs1 H1 o1 => by
      refine ⟨true, TE.exm, fun _ a ha => ⟨⟨rfl, rfl⟩, ?_⟩, fun z => by cases z⟩
      have hl : σ.length = 7 := o1.len
      have e6 : (σ.set 6 (some (.ref a)))[6]? = some (some (.ref a)) := by rw [List.getElem?_set_self (by omega)]
      refine ⟨.ref a, e6, .ref CK, .ref CK, true, rfl, fun _ q => q, TE.is1, true, rfl, ?_⟩
      refine iteT ⟨.ref a, e6, .ty "ValueError", .type "ValueError", true, rfl, fun _ q => q, TE.is2, ?_⟩
      exact S.nx _ _ _ _ (ds_ret (de_var rfl) rfl) (((o1.drop 6 (some (.ref a))).put 5 (.bl true)).drop 6 none)
    refine if_raw (dt_test (de_op (dq_of (de_var rfl)) (dq_of de_int) (by walk_at "ro"))) o (fun Hs1 H1 o1 => tcallXS (x.1, x.2.1) (da_cons (de_var rfl) (da_cons (de_var rfl) da_nil)) hp o1 (fun _ _ g => hW _ _ (o1.up g)) _) fun Hs1 H1 o1 => ?_
    refine if_raw (dt_test (de_op (dq_of (de_var rfl)) (dq_of de_int) (by walk_at "ro"))) o1 (fun Hs1 H1 o1 => tcallXS (x.1, x.2.1, x.2.2.2.1, x.2.2.2.2) (da_cons (de_var rfl) (da_cons (de_var rfl) (da_cons (de_var rfl) (da_cons (de_var rfl) da_nil)))) hp o1 (fun _ _ g => hW _ _ (o1.up g)) _) fun Hs1 H1 o1 => ?_
    refine if_raw (dt_test (de_op (dq_of (de_var rfl)) (dq_of de_int) (by walk_at "ro"))) o1 (fun Hs1 H1 o1 => tcallXS (x.1, x.2.1) (da_cons (de_var rfl) (da_cons (de_var rfl) da_nil)) hp o1 (fun _ _ g => hW _ _ (o1.up g)) _) fun Hs1 H1 o1 => ?_
    refine if_raw (dt_test (de_op (dq_of (de_var rfl)) (dq_of de_int) (by walk_at "ro"))) o1 (fun Hs1 H1 o1 => tcallXS (x.1, x.2.1) (da_cons (de_var rfl) (da_cons (de_var rfl) da_nil)) hp o1 (fun _ _ g => hW _ _ (o1.up g)) _) fun Hs1 H1 o1 => ?_
    exact tcallXS (x.1, x.2.1) (da_cons (de_var rfl) (da_cons (de_var rfl) da_nil)) hp o1 (fun _ _ g => hW _ _ (o1.up g)) _

end
end DL
end

section
set_option Elab.async false
set_option linter.all false
set_option maxRecDepth 100000
set_option maxHeartbeats 4000000
namespace DL
open PySem PySem.Spec PyProof.Rows L2
/-! ### the program's lines and the law's couples run in lock-step -/
theorem prL_put (ls : List Ln) (w p : Int) (y : DV) : prL (v_put ls w p y) = putP (prL ls) (w, p) := by
  rcases put_cases ls w p y with ⟨e, h⟩ | ⟨e, h1, h2⟩
  · rw [e]
    rcases putP_cases (prL ls) (w, p) with ⟨e2, _⟩ | ⟨e2, k1, k2⟩
    · rw [e2]
    · rcases h with h | h
      · exact absurd h k1
      · exact absurd h k2
  · rw [e]
    rcases putP_cases (prL ls) (w, p) with ⟨e2, h⟩ | ⟨e2, k1, k2⟩
    · rcases h with h | h
      · exact absurd h h1
      · exact absurd h h2
    · rw [e2]
      show (ls ++ [(w, p, y)]).map _ = _
      rw [List.map_append]; rfl
theorem gP_prL (ls : List Ln) {i : Int} (h : 0 ≤ i ∧ i < ls.length) : gP (prL ls) i = ((gN ls i).1, (gN ls i).2.1) := by
  unfold gP gN
  have hi : i.toNat < ls.length := by omega
  rw [List.getD_eq_getElem?_getD, List.getD_eq_getElem?_getD]
  show (((ls.map fun l => (l.1, l.2.1))[i.toNat]?).getD default) = _
  rw [List.getElem?_map, List.getElem?_eq_getElem hi]
  rfl
def killP (f : List (Int × Int)) (c : Int × Int) (b : Bool) : List (Int × Int) := cond b (putP f c) f
theorem prL_kill {ls : List Ln} {w p m q a k : Int} (ha : 0 ≤ a ∧ a < ls.length) (hk : 0 ≤ k ∧ k < ls.length) (ea : gP (prL ls) a = (w, p)) (ek : gP (prL ls) k = (m, q)) (nz : ¬ (m = 0 ∧ q = 0)) :
    prL (v_kill ls a k) = killP (prL ls) (kA w p m q) (!decide (decide (m = 0) = decide (q = 0))) := by
  rw [gP_prL ls ha] at ea
  rw [gP_prL ls hk] at ek
  injection ea with e1 e2
  injection ek with e3 e4
  unfold v_kill killP kA
  rw [e1, e2, e3, e4]
  by_cases h1 : m = 0
  · have h2 : q ≠ 0 := fun h => nz ⟨h1, h⟩
    rw [decide_eq_true h1, decide_eq_false h2]
    exact prL_put _ _ _ _
  · by_cases h2 : q = 0
    · rw [decide_eq_false h1, decide_eq_true h2]
      exact prL_put _ _ _ _
    · rw [decide_eq_false h1, decide_eq_false h2]
      rfl
theorem kB_kA (w p m f : Int) : kB w p m f = kA m f w p := rfl
/-- what the couple c gives with the mate q -/
def gvn (x y : LB) (c q : Int × Int) : List (Int × Int) :=
  (gI (gL x.js c.1) q.1, gI (gL y.js c.2) q.2) :: ((cond (!decide (decide (q.1 = 0) = decide (q.2 = 0))) [kA c.1 c.2 q.1 q.2] []) ++ cond (!decide (decide (c.1 = 0) = decide (c.2 = 0))) [kB c.1 c.2 q.1 q.2] [])
theorem nst_eq (x y : LB) (c q : Int × Int) (new : List (Int × Int)) : v_nst x y c new q = new ++ gvn x y c q := by
  unfold v_nst gvn
  cases (!decide (decide (q.1 = 0) = decide (q.2 = 0))) <;> cases (!decide (decide (c.1 = 0) = decide (c.2 = 0))) <;> simp
theorem news_fold (x y : LB) (c : Int × Int) : ∀ (qs : List (Int × Int)) (new f : List (Int × Int)), (qs.foldl (v_nst x y c) new).foldl putP f = qs.foldl (fun f q => (gvn x y c q).foldl putP f) (new.foldl putP f)
  | [], _, _ => rfl
  | q :: qs, new, f => by
    rw [List.foldl_cons, nst_eq, news_fold x y c qs, List.foldl_append, List.foldl_cons]
theorem gvn_fold (x y : LB) (c q : Int × Int) (f : List (Int × Int)) : (gvn x y c q).foldl putP f = killP (killP (putP f (gI (gL x.js c.1) q.1, gI (gL y.js c.2) q.2)) (kA c.1 c.2 q.1 q.2) (!decide (decide (q.1 = 0) = decide (q.2 = 0)))) (kB c.1 c.2 q.1 q.2) (!decide (decide (c.1 = 0) = decide (c.2 = 0))) := by
  unfold gvn killP
  cases (!decide (decide (q.1 = 0) = decide (q.2 = 0))) <;> cases (!decide (decide (c.1 = 0) = decide (c.2 = 0))) <;> rfl
theorem n0_eq {x y : LB} (h : Same x y) (w p : Int) : v_n0 x y w p = (zs x y).map fun q => (gI q.1.2 w, gI q.2.2 p) := by
  have e1 : v_rows x = (zs x y).map fun q => q.1.2 := by
    unfold v_rows
    rw [← zs_fst (a := x) (b := y), List.map_map]; rfl
  have e2 : v_rows y = (zs x y).map fun q => q.2.2 := by
    unfold v_rows
    rw [← zs_snd h, List.map_map]; rfl
  unfold v_n0
  rw [e1, e2, List.length_map]
  generalize zs x y = l
  apply List.ext_getElem?
  intro i
  by_cases hi : i < l.length
  · have : (rgI 0 l.length)[i]? = some (i : Int) := by
      unfold rgI
      rw [List.getElem?_map, List.getElem?_range hi]
      simp
    rw [List.getElem?_map, this, List.getElem?_map, List.getElem?_eq_getElem hi]
    show some _ = some _
    unfold gL
    dsimp only
    rw [List.getD_eq_getElem?_getD, List.getD_eq_getElem?_getD, List.getElem?_map, List.getElem?_map, show ((i : Int)).toNat = i from rfl, List.getElem?_eq_getElem hi]
    rfl
  · rw [List.getElem?_eq_none (by rw [List.length_map, rgI_len]; omega), List.getElem?_eq_none (by rw [List.length_map]; omega)]
theorem cut_take {α : Type} (f : List α) {n : Nat} (h : n < f.length) : cutD f none (some ((n : Int) + 1)) = f.take (n + 1) := by
  show (f.drop (HT.sIx f.length 0 none)).take (HT.sIx f.length f.length (some ((n + 1 : Nat) : Int)) - HT.sIx f.length 0 none) = _
  rw [HT.sIx_none, HT.sIx_nat, Nat.min_eq_left (by omega)]
  rfl
theorem take_gP {f : List (Int × Int)} {n : Nat} (h : n ≤ f.length) : (rgI 0 n).map (gP f) = f.take n := by
  apply List.ext_getElem?
  intro i
  by_cases hi : i < n
  · have : (rgI 0 n)[i]? = some (i : Int) := by
      unfold rgI
      rw [List.getElem?_map, List.getElem?_range hi]
      simp
    rw [List.getElem?_map, this, List.getElem?_take, if_pos hi, List.getElem?_eq_getElem (by omega)]
    show some (gP f (i : Int)) = _
    unfold gP
    rw [List.getD_eq_getElem?_getD, show ((i : Int)).toNat = i from rfl, List.getElem?_eq_getElem (by omega)]
    rfl
  · rw [List.getElem?_eq_none (by rw [List.length_map, rgI_len]; omega), List.getElem?_eq_none (by rw [List.length_take]; omega)]
theorem ls1_fold (a : Int) (l : Ln) : ∀ (qs : List (St × St)) (ls : List Ln), prL (qs.foldl (v_ls1 a l) ls) = (qs.map fun q => (gI q.1.2 l.1, gI q.2.2 l.2.1)).foldl putP (prL ls)
  | [], _ => rfl
  | q :: qs, ls => by
    rw [List.foldl_cons, ls1_fold a l qs, List.map_cons, List.foldl_cons]
    show List.foldl putP (prL (v_put ls _ _ _)) _ = _
    rw [prL_put]
theorem ls2_one {x y : LB} {ls ls2 : List Ln} {a k : Int} {w p : Int} {d : DV} (hp : Pre ls ls2) (ha : 0 ≤ a ∧ a < ls.length) (hk : 0 ≤ k ∧ k < ls.length) (nz : ∀ q ∈ prL ls, ¬ (q.1 = 0 ∧ q.2 = 0)) (e : gN ls a = (w, p, d)) :
    prL (v_ls2 x y a (w, p, d) ls2 k) = (gvn x y (w, p) (gP (prL ls) k)).foldl putP (prL ls2) := by
  have hlen := hp.len
  rw [gvn_fold]
  have gk := gP_prL ls hk
  have ga : gP (prL ls) a = (w, p) := by rw [gP_prL ls ha, e]
  have mk : gP (prL ls) k ∈ prL ls := gP_mem hk.1 (by rw [List.length_map]; exact hk.2)
  have ma : gP (prL ls) a ∈ prL ls := gP_mem ha.1 (by rw [List.length_map]; exact ha.2)
  have zk := nz _ mk
  have za := nz _ ma
  rw [ga] at za
  have e2 : gN ls2 k = gN ls k := hp.get (by omega)
  have p1 := put_pre ls2 (gI (gL x.js w) (gN ls2 k).1) (gI (gL y.js p) (gN ls2 k).2.1) (whyJ k a)
  have l1 := p1.len
  have q1 := hp.trans p1
  have p2 := kill_pre (v_put ls2 (gI (gL x.js w) (gN ls2 k).1) (gI (gL y.js p) (gN ls2 k).2.1) (whyJ k a)) a k
  have l2 := p2.len
  have q2 := q1.trans p2
  have at1 : ∀ {ls' : List Ln} {i : Int}, Pre ls ls' → (0 ≤ i ∧ i < ls.length) → gP (prL ls') i = gP (prL ls) i := fun {ls' i} hp' hi => by
    have := hp'.len
    rw [gP_prL ls' (by omega), gP_prL ls hi, hp'.get (by omega)]
  show prL (v_kill (v_kill (v_put ls2 (gI (gL x.js w) (gN ls2 k).1) (gI (gL y.js p) (gN ls2 k).2.1) (whyJ k a)) a k) k a) = _
  rcases hmq : gP (prL ls) k with ⟨m, q⟩
  rw [hmq] at zk
  rw [prL_kill (w := m) (p := q) (m := w) (q := p) (by omega) (by omega) (by rw [at1 q2 hk, hmq]) (by rw [at1 q2 ha, ga]) za]
  rw [prL_kill (w := w) (p := p) (m := m) (q := q) (by omega) (by omega) (by rw [at1 q1 ha, ga]) (by rw [at1 q1 hk, hmq]) zk, prL_put]
  rw [hmq] at gk
  injection gk with g1 g2
  rw [e2, ← g1, ← g2]
theorem lead_eq {x y : LB} (h : Same x y) {ls : List Ln} {n : Nat} (hn : n < ls.length) (hI : LI x.js.length y.js.length ls) : prL (v_lead x y ls (n : Int)) = v_cs x y (prL ls) (n : Int) := by
  have ha : 0 ≤ (n : Int) ∧ (n : Int) < ls.length := by omega
  have hl := hI.wds _ (gN_mem ha.1 ha.2)
  have nz : ∀ q ∈ prL ls, ¬ (q.1 = 0 ∧ q.2 = 0) := fun q hq hz => hI.nz ((Prod.ext hz.1 hz.2 : q = (0, 0)) ▸ hq)
  have hlen : (prL ls).length = ls.length := List.length_map _
  unfold v_lead v_cs
  rw [if_pos (by rw [hlen]; exact ha.2)]
  unfold v_news
  rw [cut_take _ (by rw [hlen]; exact hn), news_fold, ← take_gP (by rw [hlen]; omega), List.foldl_map]
  rcases e : gN ls (n : Int) with ⟨w, p, d⟩
  rw [e] at hl
  have ga : gP (prL ls) (n : Int) = (w, p) := by rw [gP_prL ls ha, e]
  rw [ga]
  have hs1 := ls1_fold (n : Int) (w, p, d) (zs x y) ls
  rw [← n0_eq h] at hs1
  have i1 : L2I x.js.length y.js.length ls ((zs x y).foldl (v_ls1 (n : Int) (w, p, d)) ls) := foldl_inv (L2I x.js.length y.js.length ls) _ _ ⟨hI, .refl _⟩ fun b q hq hb => ls1_I h hl hq hb
  show prL ((rgI 0 ((n : Int) + 1).toNat).foldl _ _) = _
  rw [← hs1]
  have en : ((n : Int) + 1).toNat = n + 1 := by omega
  rw [en]
  have go : ∀ (ks : List Int) (ls2 : List Ln), (∀ k ∈ ks, 0 ≤ k ∧ k < ls.length) → L2I x.js.length y.js.length ls ls2 → prL (ks.foldl (v_ls2 x y (n : Int) (w, p, d)) ls2) = ks.foldl (fun f k => (gvn x y (w, p) (gP (prL ls) k)).foldl putP f) (prL ls2) := by
    intro ks
    induction ks with
    | nil => intro _ _ _; rfl
    | cons k ks ih =>
      intro ls2 hk hI2
      rw [List.foldl_cons, List.foldl_cons, ih _ (fun j hj => hk j (List.mem_cons_of_mem _ hj)) (ls2_I h hl ha (hk k List.mem_cons_self) hI2), ls2_one hI2.pre ha (hk k List.mem_cons_self) nz e]
  exact go _ _ (fun k hk => by have := mem_rgI.mp hk; omega) i1
theorem run_eq {x y : LB} (h : Same x y) : ∀ (f n : Nat) (ls : List Ln), LI x.js.length y.js.length ls → prL (v_run x y f (n : Int) ls) = (rgI (n : Int) f).foldl (v_cs x y) (prL ls)
  | 0, _, _, _ => rfl
  | f + 1, n, ls, hI => by
    have e : rgI (n : Int) (f + 1) = (n : Int) :: rgI ((n + 1 : Nat) : Int) f := by
      unfold rgI
      rw [List.range_succ_eq_map, List.map_cons, List.map_map]
      rw [show (n : Int) + ((0 : Nat) : Int) = n by omega]
      refine congrArg (List.cons _) (List.map_congr_left fun i _ => ?_)
      show (n : Int) + ((i + 1 : Nat) : Int) = ((n + 1 : Nat) : Int) + (i : Int)
      omega
    rw [e, List.foldl_cons]
    show prL (if (n : Int) < ls.length then v_run x y f ((n : Int) + 1) (v_lead x y ls (n : Int)) else ls) = _
    by_cases hlt : n < ls.length
    · rw [if_pos (by omega), ← lead_eq h hlt hI]
      exact run_eq h f (n + 1) _ (lead_I h ⟨by omega, by omega⟩ hI).li
    · rw [if_neg (by omega)]
      have : v_cs x y (prL ls) (n : Int) = prL ls := by
        unfold v_cs
        rw [if_neg (by rw [List.length_map]; omega)]
      rw [this]
      refine (fold_id fun a ha => ?_).symm
      have := mem_rgI.mp ha
      unfold v_cs
      rw [if_neg (by rw [List.length_map]; omega)]
theorem lines_eq {x y : LB} (h : Same x y) (hfi : 0 < x.fi) (hl : (v_rows x).length = (v_rows y).length) : prL (v_lines x y) = v_found x y := by
  have e0 : prL (v_l0 x y) = [(x.fi, y.fi)] := by
    unfold v_l0
    rw [prL_put]
    rcases putP_cases (prL []) (x.fi, y.fi) with ⟨_, k | k⟩ | ⟨e, _⟩
    · injection k with k _; omega
    · cases k
    · rw [e]; rfl
  unfold v_lines v_found
  have hr := run_eq h 100 0 (v_l0 x y) (l0_I h)
  rw [e0] at hr
  have nm : x.js.length * y.js.length ≤ 81 := Nat.mul_le_mul h.wa.n9 h.wb.n9
  have e1 : rgI (0 : Int) 100 = rgI 0 (x.js.length * y.js.length) ++ (rgI 0 100).drop (x.js.length * y.js.length) := by
    rw [← List.take_append_drop (x.js.length * y.js.length) (rgI 0 100)]
    congr 1
    · unfold rgI
      rw [← List.map_take, List.take_range, Nat.min_eq_left (by omega)]
    · rw [List.take_append_drop]
  show prL (v_run x y 100 ((0 : Nat) : Int) (v_l0 x y)) = _
  rw [hr]
  show (rgI (0 : Int) 100).foldl (v_cs x y) _ = _
  rw [e1, List.foldl_append]
  refine cs_stop ?_
  have F0 : FI x.js.length y.js.length [(x.fi, y.fi)] := ⟨fun p hp => by rw [List.mem_singleton.mp hp]; exact ⟨h.wa.fi, h.wb.fi⟩, by simp, fun h => by
    have := List.mem_singleton.mp h
    injection this with h1 _
    omega⟩
  exact (foldl_inv (FI x.js.length y.js.length) _ _ F0 fun f a ha hf => cs_I h.wa h.wb hl (mem_rgI.mp ha).1 hf).len
theorem ct_due {x y : LB} (h : Same x y) (hfi : 0 < x.fi) (hl : (v_rows x).length = (v_rows y).length) : v_ct x y = v_due x y := by
  unfold v_ct v_due
  rw [lines_eq h hfi hl]
end DL
end

section
set_option Elab.async false
set_option linter.all false
set_option maxRecDepth 100000
set_option maxHeartbeats 4000000
namespace DL
open PySem PySem.Spec PyProof.Rows L2
/-! ### turned -/
def sw (p : Int × Int) : Int × Int := (p.2, p.1)
theorem sw_inj {p q : Int × Int} (h : sw p = sw q) : p = q := by
  injection h with h1 h2
  exact Prod.ext h2 h1
theorem sw_mem {f : List (Int × Int)} {c : Int × Int} : sw c ∈ f.map sw ↔ c ∈ f := by
  rw [List.mem_map]
  exact ⟨fun ⟨q, hq, e⟩ => sw_inj e ▸ hq, fun h => ⟨c, h, rfl⟩⟩
theorem put_sw (f : List (Int × Int)) (c : Int × Int) : putP (f.map sw) (sw c) = (putP f c).map sw := by
  rcases putP_cases f c with ⟨e, h⟩ | ⟨e, h1, h2⟩
  · rw [e]
    rcases putP_cases (f.map sw) (sw c) with ⟨e2, _⟩ | ⟨e2, k1, k2⟩
    · exact e2
    · rcases h with h | h
      · exact absurd (by rw [h]; rfl) k1
      · exact absurd (sw_mem.mpr h) k2
  · rw [e]
    rcases putP_cases (f.map sw) (sw c) with ⟨e2, h⟩ | ⟨e2, k1, k2⟩
    · rcases h with h | h
      · exact absurd (sw_inj (q := ((0, 0) : Int × Int)) h) h1
      · exact absurd (sw_mem.mp h) h2
    · rw [e2, List.map_append]; rfl
theorem puts_sw : ∀ (cs f : List (Int × Int)), (cs.map sw).foldl putP (f.map sw) = (cs.foldl putP f).map sw
  | [], _ => rfl
  | c :: cs, f => by rw [List.map_cons, List.foldl_cons, List.foldl_cons, put_sw, puts_sw cs]
theorem gP_sw (f : List (Int × Int)) {a : Int} (h : 0 ≤ a ∧ a < f.length) : gP (f.map sw) a = sw (gP f a) := by
  unfold gP
  have hi : a.toNat < f.length := by omega
  rw [List.getD_eq_getElem?_getD, List.getD_eq_getElem?_getD, List.getElem?_map, List.getElem?_eq_getElem hi]
  rfl
theorem eq_sym (a b : Bool) : decide (a = b) = decide (b = a) := by cases a <;> cases b <;> rfl
theorem gvn_sw (x y : LB) (c q : Int × Int) : gvn y x (sw c) (sw q) = (gvn x y c q).map sw := by
  unfold gvn
  show (gI (gL y.js c.2) q.2, gI (gL x.js c.1) q.1) :: ((cond (!decide (decide (q.2 = 0) = decide (q.1 = 0))) [kA c.2 c.1 q.2 q.1] []) ++ cond (!decide (decide (c.2 = 0) = decide (c.1 = 0))) [kB c.2 c.1 q.2 q.1] []) = _
  rw [eq_sym (decide (q.2 = 0)), eq_sym (decide (c.2 = 0))]
  cases (!decide (decide (q.1 = 0) = decide (q.2 = 0))) <;> cases (!decide (decide (c.1 = 0) = decide (c.2 = 0))) <;> rfl
theorem n0_sw (x y : LB) (hl : (v_rows x).length = (v_rows y).length) (w p : Int) : v_n0 y x p w = (v_n0 x y w p).map sw := by
  unfold v_n0
  rw [hl, List.map_map]; rfl
theorem news_eq (x y : LB) (c : Int × Int) : ∀ (qs new : List (Int × Int)), qs.foldl (v_nst x y c) new = new ++ qs.flatMap (gvn x y c)
  | [], new => by simp
  | q :: qs, new => by rw [List.foldl_cons, nst_eq, news_eq x y c qs, List.flatMap_cons, List.append_assoc]
theorem cutG {α β : Type} (g : α → β) (l : List α) (lo hi : Option Int) : cutD (l.map g) lo hi = (cutD l lo hi).map g := by
  unfold cutD
  rw [List.length_map, List.map_take, List.map_drop]
theorem cs_sw (x y : LB) (hl : (v_rows x).length = (v_rows y).length) (f : List (Int × Int)) {a : Int} (ha : 0 ≤ a) : v_cs y x (f.map sw) a = (v_cs x y f a).map sw := by
  unfold v_cs
  rw [List.length_map]
  by_cases h : a < f.length
  · rw [if_pos h, if_pos h, ← puts_sw]
    congr 1
    unfold v_news
    rw [gP_sw f ⟨ha, h⟩, news_eq, news_eq, List.map_append]
    congr 1
    · exact n0_sw x y hl _ _
    · rw [cutG, List.map_flatMap, List.flatMap_map]
      congr 1
      funext q
      exact gvn_sw x y _ q
  · rw [if_neg h, if_neg h]
theorem css_sw (x y : LB) (hl : (v_rows x).length = (v_rows y).length) : ∀ (ks : List Int) (f : List (Int × Int)), (∀ k ∈ ks, 0 ≤ k) → ks.foldl (v_cs y x) (f.map sw) = (ks.foldl (v_cs x y) f).map sw
  | [], _, _ => rfl
  | k :: ks, f, h => by rw [List.foldl_cons, List.foldl_cons, cs_sw x y hl f (h k List.mem_cons_self), css_sw x y hl ks _ fun j hj => h j (List.mem_cons_of_mem _ hj)]
theorem found_sw (x y : LB) (hl : (v_rows x).length = (v_rows y).length) : v_found y x = (v_found x y).map sw := by
  unfold v_found
  rw [← css_sw x y hl _ _ fun k hk => (mem_rgI.mp hk).1, Nat.mul_comm]
  rfl
theorem due_sw (x y : LB) (hl : (v_rows x).length = (v_rows y).length) : v_due y x = srtP ((v_due x y).map sw) := by
  unfold v_due
  rw [found_sw x y hl]
  exact srtP_eq ((srtP_perm _).map sw).symm
end DL
end

section
set_option Elab.async false
set_option linter.all false
set_option maxRecDepth 100000
set_option maxHeartbeats 4000000
namespace DL
open PySem PySem.Spec PyProof.Rows L2
/-! ### a book with itself -/
theorem mem_put {f : List (Int × Int)} {c d : Int × Int} : c ∈ putP f d ↔ c ∈ f ∨ (c = d ∧ c ≠ (0, 0)) := by
  rcases putP_cases f d with ⟨e, h⟩ | ⟨e, h1, h2⟩
  · rw [e]
    refine ⟨.inl, fun k => k.elim id fun ⟨k1, k2⟩ => ?_⟩
    subst k1
    rcases h with h | h
    · exact absurd h k2
    · exact h
  · rw [e, List.mem_append, List.mem_singleton]
    exact ⟨fun k => k.imp id fun k => ⟨k, by rw [k]; exact h1⟩, fun k => k.imp id (·.1)⟩
theorem mem_puts : ∀ {cs f : List (Int × Int)} {c : Int × Int}, c ∈ cs.foldl putP f ↔ c ∈ f ∨ (c ∈ cs ∧ c ≠ (0, 0))
  | [], f, c => by simp
  | d :: cs, f, c => by
    rw [List.foldl_cons, mem_puts, mem_put, List.mem_cons]
    constructor
    · rintro ((h | ⟨h, k⟩) | ⟨h, k⟩)
      · exact .inl h
      · exact .inr ⟨.inl h, k⟩
      · exact .inr ⟨.inr h, k⟩
    · rintro (h | ⟨h | h, k⟩)
      · exact .inl (.inl h)
      · exact .inl (.inr ⟨h, k⟩)
      · exact .inr ⟨h, k⟩
theorem puts_pre : ∀ (cs f : List (Int × Int)), f <+: cs.foldl putP f
  | [], f => List.prefix_rfl
  | d :: cs, f => by
    rw [List.foldl_cons]
    refine List.IsPrefix.trans ?_ (puts_pre cs _)
    rcases putP_cases f d with ⟨e, _⟩ | ⟨e, _⟩
    · rw [e]; exact List.prefix_rfl
    · rw [e]; exact List.prefix_append _ _
theorem cs_pre (x y : LB) (f : List (Int × Int)) (a : Int) : f <+: v_cs x y f a := by
  unfold v_cs
  split
  · exact puts_pre _ _
  · exact List.prefix_rfl
theorem css_pre (x y : LB) : ∀ (ks : List Int) (f : List (Int × Int)), f <+: ks.foldl (v_cs x y) f
  | [], _ => List.prefix_rfl
  | k :: ks, f => (cs_pre x y f k).trans (css_pre x y ks _)
theorem gP_pre {f g : List (Int × Int)} (h : f <+: g) {i : Int} (hi : i.toNat < f.length) : gP g i = gP f i := by
  obtain ⟨c, rfl⟩ := h
  unfold gP
  rw [List.getD_eq_getElem?_getD, List.getD_eq_getElem?_getD, List.getElem?_append_left hi]
/-- the law's told words, a turn -/
theorem mem_foldB (A B : Int → List Int) : ∀ (cs : List Int) (acc : List Int) (x : Int), x ∈ cs.foldl (fun new w => new ++ A w ++ B w) acc ↔ x ∈ acc ∨ ∃ w ∈ cs, x ∈ A w ∨ x ∈ B w
  | [], acc, x => by simp
  | c :: cs, acc, x => by
    rw [List.foldl_cons, mem_foldB A B cs, List.mem_append, List.mem_append]
    constructor
    · rintro (((h | h) | h) | ⟨w, hw, h⟩)
      · exact .inl h
      · exact .inr ⟨c, List.mem_cons_self, .inl h⟩
      · exact .inr ⟨c, List.mem_cons_self, .inr h⟩
      · exact .inr ⟨w, List.mem_cons_of_mem _ hw, h⟩
    · rintro (h | ⟨w, hw, h⟩)
      · exact .inl (.inl (.inl h))
      · rcases List.mem_cons.mp hw with rfl | hw
        · rcases h with h | h
          · exact .inl (.inl (.inr h))
          · exact .inl (.inr h)
        · exact .inr ⟨w, hw, h⟩
theorem mem_tnew {js rows : List (List Int)} {cur : List Int} {x : Int} : x ∈ v_tnew js rows cur ↔ x ∈ cur ∨ ∃ w ∈ cur, (∃ r ∈ rows, gI r w = x) ∨ ∃ o ∈ cur, J js w o = x := by
  unfold v_tnew
  rw [mem_foldB]
  simp only [List.mem_map]
theorem mem_tstep {js rows : List (List Int)} {cur : List Int} {x : Int} : x ∈ v_tstep js rows cur ↔ (0 < x ∧ x < js.length) ∧ x ∈ v_tnew js rows cur := by
  unfold v_tstep
  rw [List.mem_filter, decide_eq_true_iff, mem_rgI]
  constructor
  · rintro ⟨h, k⟩; exact ⟨by omega, k⟩
  · rintro ⟨h, k⟩; exact ⟨by omega, k⟩
def tT (js rows : List (List Int)) (f0 : Int) (t : Nat) : List Int := v_iter (v_tstep js rows) t [f0]
structure TI2 (n : Nat) (l : List Int) : Prop where
  rg : ∀ x ∈ l, 0 < x ∧ x < (n : Int)
  st : l.Pairwise (· < ·)
theorem rgI_lt (lo : Int) (n : Nat) : (rgI lo n).Pairwise (· < ·) := by
  unfold rgI
  rw [List.pairwise_map]
  exact List.pairwise_lt_range.imp fun h => by omega
theorem tstep_I {js rows : List (List Int)} {cur : List Int} : TI2 js.length (v_tstep js rows cur) := ⟨fun x hx => (mem_tstep.mp hx).1, (rgI_lt _ _).sublist List.filter_sublist⟩
theorem tT_I {js rows : List (List Int)} {f0 : Int} (h : 0 < f0 ∧ f0 < js.length) : ∀ t, TI2 js.length (tT js rows f0 t)
  | 0 => ⟨fun x hx => by rw [List.mem_singleton.mp hx]; exact h, List.pairwise_singleton _ _⟩
  | t + 1 => tstep_I
theorem tstep_sub {js rows : List (List Int)} {cur : List Int} (h : TI2 js.length cur) {x : Int} (hx : x ∈ cur) : x ∈ v_tstep js rows cur := mem_tstep.mpr ⟨h.rg x hx, mem_tnew.mpr (.inl hx)⟩
theorem lt_uniq {a b : List Int} (h : ∀ x, x ∈ a ↔ x ∈ b) (ha : a.Pairwise (· < ·)) (hb : b.Pairwise (· < ·)) : a = b := by
  have na : a.Nodup := ha.imp fun h e => by omega
  have nb : b.Nodup := hb.imp fun h e => by omega
  exact ((List.perm_ext_iff_of_nodup na nb).mpr h).eq_of_pairwise (le := fun x y => x < y) (fun x y _ _ h1 h2 => by omega) ha hb
theorem TI2.nd {n : Nat} {l : List Int} (h : TI2 n l) : l.Nodup := h.st.imp fun h e => by omega
theorem TI2.len {n : Nat} {l : List Int} (h : TI2 n l) : l.length ≤ n := by
  have := List.Nodup.length_le_of_subset h.nd (l₂ := rgI 0 n) fun x hx => mem_rgI.mpr (by have := h.rg x hx; omega)
  rwa [rgI_len] at this
theorem grow {a b : List Int} (ha : a.Pairwise (· < ·)) (hb : b.Pairwise (· < ·)) (h : ∀ x ∈ a, x ∈ b) (ne : b ≠ a) : a.length + 1 ≤ b.length := by
  have na : a.Nodup := ha.imp fun h e => by omega
  have nb : b.Nodup := hb.imp fun h e => by omega
  by_cases hx : ∃ x ∈ b, x ∉ a
  · obtain ⟨x, hx, hxa⟩ := hx
    have := List.Nodup.length_le_of_subset (List.nodup_cons.mpr ⟨hxa, na⟩) (l₂ := b) fun y hy => by
      rcases List.mem_cons.mp hy with rfl | hy
      · exact hx
      · exact h y hy
    exact this
  · exfalso
    exact ne (lt_uniq (fun x => ⟨fun k => Classical.byContradiction fun z => hx ⟨x, k, z⟩, h x⟩) hb ha)
theorem tT_fix {js rows : List (List Int)} {f0 : Int} (h : 0 < f0 ∧ f0 < js.length) (hn : js.length ≤ 20) : v_tstep js rows (tT js rows f0 40) = tT js rows f0 40 := by
  have hI := tT_I (rows := rows) h
  have key : ∀ t, (∃ s, s ≤ t ∧ v_tstep js rows (tT js rows f0 s) = tT js rows f0 s) ∨ t + 1 ≤ (tT js rows f0 t).length := by
    intro t
    induction t with
    | zero => exact .inr (Nat.le_refl 1)
    | succ t ih =>
      rcases ih with ⟨s, hs, e⟩ | ih
      · exact .inl ⟨s, by omega, e⟩
      · by_cases e : v_tstep js rows (tT js rows f0 t) = tT js rows f0 t
        · exact .inl ⟨t, by omega, e⟩
        · have := grow (hI t).st (hI (t + 1)).st (fun x hx => tstep_sub (hI t) hx) e
          exact .inr (by omega)
  rcases key 40 with ⟨s, hs, e⟩ | k
  · have e2 : tT js rows f0 40 = tT js rows f0 s := iter_fix' (n := s) e hs
    rw [e2]; exact e
  · have := (hI 40).len
    omega
theorem told_tT {js rows : List (List Int)} {f0 : Int} (h : 0 < f0) : v_told js rows f0 = tT js rows f0 40 := by
  unfold v_told tT
  rw [decide_eq_true (show f0 > 0 from h)]; rfl
end DL
end

section
set_option Elab.async false
set_option linter.all false
set_option maxRecDepth 100000
set_option maxHeartbeats 4000000
namespace DL
open PySem PySem.Spec PyProof.Rows L2
theorem f0_FI {x y : LB} (hx : WF x) (hy : WF y) (hfi : 0 < x.fi) : FI x.js.length y.js.length [(x.fi, y.fi)] := ⟨fun p hp => by rw [List.mem_singleton.mp hp]; exact ⟨hx.fi, hy.fi⟩, by simp, fun h => by
  have := List.mem_singleton.mp h
  injection this with h1 _
  omega⟩
theorem found_FI {x y : LB} (hx : WF x) (hy : WF y) (hl : (v_rows x).length = (v_rows y).length) (hfi : 0 < x.fi) : FI x.js.length y.js.length (v_found x y) :=
  foldl_inv (FI x.js.length y.js.length) _ _ (f0_FI hx hy hfi) fun f a ha hf => cs_I hx hy hl (mem_rgI.mp ha).1 hf
theorem gP_ix {f : List (Int × Int)} {p : Int × Int} (h : p ∈ f) : ∃ a : Nat, a < f.length ∧ gP f (a : Int) = p := by
  obtain ⟨i, hi, rfl⟩ := List.getElem_of_mem h
  refine ⟨i, hi, ?_⟩
  unfold gP
  rw [List.getD_eq_getElem?_getD, show ((i : Int)).toNat = i from rfl, List.getElem?_eq_getElem hi]
  rfl
theorem gL_ix {rows : List (List Int)} {r : List Int} (h : r ∈ rows) : ∃ k ∈ rgI 0 rows.length, gL rows k = r := by
  obtain ⟨i, hi, rfl⟩ := List.getElem_of_mem h
  refine ⟨(i : Int), mem_rgI.mpr (by omega), ?_⟩
  unfold gL
  rw [List.getD_eq_getElem?_getD, show ((i : Int)).toNat = i from rfl, List.getElem?_eq_getElem hi]
  rfl
theorem found_clo (x y : LB) (hlen : (v_found x y).length ≤ x.js.length * y.js.length) {a : Nat} (ha : a < (v_found x y).length) :
    (∀ c ∈ v_n0 x y (gP (v_found x y) a).1 (gP (v_found x y) a).2, c ≠ (0, 0) → c ∈ v_found x y) ∧ ∀ k : Nat, k ≤ a → ∀ c ∈ gvn x y (gP (v_found x y) a) (gP (v_found x y) k), c ≠ (0, 0) → c ∈ v_found x y := by
  generalize hN : x.js.length * y.js.length = N at hlen
  have hF : v_found x y = (rgI 0 N).foldl (v_cs x y) [(x.fi, y.fi)] := by unfold v_found; rw [hN]
  have hd : (rgI 0 N).drop a = (a : Int) :: (rgI 0 N).drop (a + 1) := by
    have hg : (rgI 0 N)[a]? = some (a : Int) := by
      unfold rgI
      rw [List.getElem?_map, List.getElem?_range (by omega)]
      simp
    obtain ⟨h1, h2⟩ := List.getElem?_eq_some_iff.mp hg
    rw [List.drop_eq_getElem_cons h1, h2]
  have hF2 : v_found x y = ((rgI 0 N).drop a).foldl (v_cs x y) (((rgI 0 N).take a).foldl (v_cs x y) [(x.fi, y.fi)]) := by
    rw [← List.foldl_append, List.take_append_drop]; exact hF
  generalize ((rgI 0 N).take a).foldl (v_cs x y) [(x.fi, y.fi)] = f at hF2
  have hlt : a < f.length := by
    rcases Nat.lt_or_ge a f.length with h | h
    · exact h
    · rw [cs_stop h] at hF2
      rw [hF2] at ha
      omega
  rw [hd, List.foldl_cons] at hF2
  have hp1 : v_cs x y f (a : Int) <+: v_found x y := by rw [hF2]; exact css_pre x y _ _
  have hp0 : f <+: v_found x y := (cs_pre x y f (a : Int)).trans hp1
  have gk : ∀ k : Nat, k ≤ a → gP (v_found x y) (k : Int) = gP f (k : Int) := fun k hk => gP_pre hp0 (by omega)
  have hin : ∀ c ∈ v_news x y f (a : Int), c ≠ (0, 0) → c ∈ v_found x y := fun c hc hz => hp1.subset (by
    unfold v_cs
    rw [if_pos (by omega)]
    exact mem_puts.mpr (.inr ⟨hc, hz⟩))
  have hnew : v_news x y f (a : Int) = v_n0 x y (gP f (a : Int)).1 (gP f (a : Int)).2 ++ ((rgI 0 (a + 1)).map (gP f)).flatMap (gvn x y (gP f (a : Int))) := by
    unfold v_news
    rw [news_eq, cut_take _ hlt, take_gP (by omega)]
  rw [hnew] at hin
  refine ⟨fun c hc hz => hin c (List.mem_append_left _ ?_) hz, fun k hk c hc hz => hin c (List.mem_append_right _ (List.mem_flatMap.mpr ⟨gP f (k : Int), List.mem_map.mpr ⟨(k : Int), mem_rgI.mpr (by omega), rfl⟩, ?_⟩)) hz⟩
  · rw [gk a (Nat.le_refl a)] at hc; exact hc
  · rw [gk a (Nat.le_refl a), gk k hk] at hc; exact hc
abbrev dup (w : Int) : Int × Int := (w, w)
theorem gvn_dup (x : LB) (w o : Int) : gvn x x (dup w) (dup o) = [dup (gI (gL x.js w) o)] := by
  unfold gvn dup
  rw [decide_eq_true (p := (decide ((w, w).1 = 0) = decide ((w, w).2 = 0))) rfl, decide_eq_true (p := (decide ((o, o).1 = 0) = decide ((o, o).2 = 0))) rfl]
  rfl
theorem self_due {b : LB} (h : Val b) : v_due b b = (v_words b).map dup := by
  have hf := h.fi
  have wf := h.wf
  have hfi := wf.fi
  have n9 := wf.n9
  have rt := rows_tbl wf
  have hT : v_words b = tT b.js (v_rows b) b.fi 40 := told_tT hf
  have hfix := tT_fix (rows := v_rows b) (js := b.js) (f0 := b.fi) ⟨hf, hfi.2⟩ (by omega)
  have hI := tT_I (rows := v_rows b) (js := b.js) (f0 := b.fi) ⟨hf, hfi.2⟩
  have FI0 := found_FI wf wf rfl hf
  rw [hT]
  have clo : ∀ x, wd b.js.length x → x ≠ 0 → x ∈ v_tnew b.js (v_rows b) (tT b.js (v_rows b) b.fi 40) → x ∈ tT b.js (v_rows b) b.fi 40 := fun x hx hz hm => by
    rw [← hfix]
    exact mem_tstep.mpr ⟨by obtain ⟨h1, h2⟩ := hx; omega, hm⟩
  have wdT : ∀ x ∈ tT b.js (v_rows b) b.fi 40, wd b.js.length x := fun x hx => by have := (hI 40).rg x hx; omega
  have sub0 : ∀ t x, x ∈ tT b.js (v_rows b) b.fi t → x ∈ tT b.js (v_rows b) b.fi (t + 1) := fun t x hx => tstep_sub (hI t) hx
  have fiT : b.fi ∈ tT b.js (v_rows b) b.fi 40 := by
    have : ∀ t, b.fi ∈ tT b.js (v_rows b) b.fi t := fun t => by
      induction t with
      | zero => exact List.mem_cons_self
      | succ t ih => exact sub0 t _ ih
    exact this 40
  have A : FI b.js.length b.js.length (v_found b b) ∧ ∀ p ∈ v_found b b, p.1 = p.2 ∧ p.1 ∈ tT b.js (v_rows b) b.fi 40 := by
    refine foldl_inv (fun f => FI b.js.length b.js.length f ∧ ∀ p ∈ f, p.1 = p.2 ∧ p.1 ∈ tT b.js (v_rows b) b.fi 40) _ _ ⟨f0_FI wf wf hf, fun p hp => by rw [List.mem_singleton.mp hp]; exact ⟨rfl, fiT⟩⟩ fun f a ha hP => ⟨cs_I wf wf rfl (mem_rgI.mp ha).1 hP.1, ?_⟩
    have ha0 := (mem_rgI.mp ha).1
    intro c hc
    unfold v_cs at hc
    by_cases hlt : a < f.length
    · rw [if_pos hlt] at hc
      rcases mem_puts.mp hc with hc | ⟨hc, hz⟩
      · exact hP.2 c hc
      · obtain ⟨e1, e2⟩ := hP.2 _ (gP_mem ha0 hlt)
        rcases hwp : gP f a with ⟨w, p⟩
        rw [hwp] at e1 e2
        dsimp only at e1 e2
        subst e1
        unfold v_news at hc
        rw [hwp, news_eq] at hc
        rcases List.mem_append.mp hc with hc | hc
        · obtain ⟨k, hk, rfl⟩ := List.mem_map.mp hc
          refine ⟨rfl, clo _ ((rt.get (wd_rg.mpr hk)).get (wdT _ e2)) (fun z => hz (Prod.ext z z)) (mem_tnew.mpr (.inr ⟨w, e2, .inl ⟨gL (v_rows b) k, ?_, rfl⟩⟩))⟩
          exact getD_mem (by have := mem_rgI.mp hk; omega)
        · obtain ⟨q, hq, hc⟩ := List.mem_flatMap.mp hc
          obtain ⟨q1, q2⟩ := hP.2 _ (cutD_mem hq)
          obtain ⟨m, o⟩ := q
          dsimp only at q1 q2
          subst q1
          rw [show gvn b b (w, w) (m, m) = _ from gvn_dup b w m] at hc
          rw [List.mem_singleton.mp hc] at hz ⊢
          exact ⟨rfl, clo _ ((wf.js.get (wdT _ e2)).get (wdT _ q2)) (fun z => hz (Prod.ext z z)) (mem_tnew.mpr (.inr ⟨w, e2, .inr ⟨m, q2, rfl⟩⟩))⟩
    · rw [if_neg hlt] at hc; exact hP.2 c hc
  have B : ∀ t x, x ∈ tT b.js (v_rows b) b.fi t → dup x ∈ v_found b b := by
    have cl := fun a ha => found_clo b b FI0.len (a := a) ha
    intro t
    induction t with
    | zero =>
      intro x hx
      rw [List.mem_singleton.mp hx]
      exact (css_pre b b _ _).subset List.mem_cons_self
    | succ t ih =>
      intro x hx
      obtain ⟨h1, h2⟩ := mem_tstep.mp hx
      have xz : dup x ≠ (0, 0) := fun e => by injection e with e _; omega
      rcases mem_tnew.mp h2 with h2 | ⟨w, hw, ⟨r, hr, e⟩ | ⟨o, ho, e⟩⟩
      · exact ih x h2
      · obtain ⟨a, ha, ea⟩ := gP_ix (ih w hw)
        obtain ⟨k, hk, ek⟩ := gL_ix hr
        refine (cl a ha).1 _ ?_ xz
        rw [ea]
        exact List.mem_map.mpr ⟨k, hk, by rw [ek, e]⟩
      · obtain ⟨a, ha, ea⟩ := gP_ix (ih w hw)
        obtain ⟨k, hk, ek⟩ := gP_ix (ih o ho)
        rcases Nat.lt_or_ge a k with hlt | hle
        · refine (cl k hk).2 a (by omega) _ ?_ xz
          rw [ea, ek, gvn_dup]
          have hw' := (hI t).rg w hw
          have ho' := (hI t).rg o ho
          rw [show gI (gL b.js o) w = x by rw [h.lat.comm o w (by omega) (by omega)]; exact e]
          exact List.mem_singleton.mpr rfl
        · refine (cl a ha).2 k hle _ ?_ xz
          rw [ea, ek, gvn_dup, show gI (gL b.js w) o = x from e]
          exact List.mem_singleton.mpr rfl
  unfold v_due
  have hp : (v_found b b).Perm ((tT b.js (v_rows b) b.fi 40).map dup) := by
    refine (List.perm_ext_iff_of_nodup A.1.nd ?_).mpr fun p => ?_
    · exact List.pairwise_map.mpr ((hI 40).nd.imp fun h e => h (by injection e))
    · constructor
      · intro hp
        obtain ⟨e1, e2⟩ := A.2 p hp
        exact List.mem_map.mpr ⟨p.1, e2, Prod.ext rfl e1⟩
      · intro hp
        obtain ⟨w, hw, rfl⟩ := List.mem_map.mp hp
        exact B 40 w hw
  refine srtP_uniq ((srtP_perm _).trans hp) (srtP_sorted _) ?_
  refine List.pairwise_map.mpr ((hI 40).st.imp fun {x y} h => ?_)
  unfold leP
  exact decide_eq_true (.inl h)
/-! ### a letter more tells the same -/
theorem told_same {js r1 r2 : List (List Int)} {f0 : Int} (h : 0 < f0 ∧ f0 < js.length) (hr : ∀ cur, TI2 js.length cur → ∀ x, x ∈ v_tnew js r1 cur ↔ x ∈ v_tnew js r2 cur) : v_told js r1 f0 = v_told js r2 f0 := by
  rw [told_tT h.1, told_tT h.1]
  have : ∀ t, tT js r1 f0 t = tT js r2 f0 t := fun t => by
    induction t with
    | zero => rfl
    | succ t ih =>
      show v_tstep js r1 (tT js r1 f0 t) = v_tstep js r2 (tT js r2 f0 t)
      rw [ih]
      exact lt_uniq (fun x => by rw [mem_tstep, mem_tstep, hr _ (tT_I h t)]) tstep_I.st tstep_I.st
  exact this 40
end DL
end

section
set_option Elab.async false
set_option linter.all false
set_option maxRecDepth 100000
set_option maxHeartbeats 4000000
namespace DL
open PySem PySem.Spec PyProof.Rows L2
theorem gL_list (l : List (List Int)) : (rgI 0 l.length).map (gL l) = l := by
  apply List.ext_getElem?
  intro i
  by_cases hi : i < l.length
  · have : (rgI 0 l.length)[i]? = some (i : Int) := by
      unfold rgI
      rw [List.getElem?_map, List.getElem?_range hi]
      simp
    rw [List.getElem?_map, this, List.getElem?_eq_getElem hi]
    show some (gL l (i : Int)) = _
    unfold gL
    rw [List.getD_eq_getElem?_getD, show ((i : Int)).toNat = i from rfl, List.getElem?_eq_getElem hi]
    rfl
  · rw [List.getElem?_eq_none (by rw [List.length_map, rgI_len]; omega), List.getElem?_eq_none (by omega)]
theorem rows_eq {b : LB} (h : b.de.length = b.le.length) : v_rows b = b.de ++ (rgI 0 b.te.length).flatMap fun k => [gL b.so k, gL b.no k] := by
  unfold v_rows
  rw [steps_eq, List.map_append, List.map_map, List.map_flatMap]
  congr 1
  rw [← h]
  exact gL_list b.de
theorem rows_lenE (b : LB) : (v_rows b).length = b.le.length + b.te.length * 2 := by
  unfold v_rows
  rw [List.length_map, steps_len]
theorem words_moreL {b : LB} (h : Small b) : v_words (v_moreL b) = v_words b := by
  have hv := h.val
  have hv' := moreL_val h
  unfold v_words
  rw [rows_eq hv.wf.de.len, rows_eq hv'.wf.de.len]
  refine told_same (js := b.js) (f0 := b.fi) ⟨hv.fi, hv.wf.fi.2⟩ fun cur hI x => ?_
  show x ∈ v_tnew b.js ((b.de ++ [rgI 0 b.js.length]) ++ _) cur ↔ _
  rw [mem_tnew, mem_tnew]
  constructor
  · rintro (h1 | ⟨w, hw, ⟨r, hr, e⟩ | h1⟩)
    · exact .inl h1
    · rcases List.mem_append.mp hr with hr | hr
      · rcases List.mem_append.mp hr with hr | hr
        · exact .inr ⟨w, hw, .inl ⟨r, List.mem_append_left _ hr, e⟩⟩
        · rw [List.mem_singleton.mp hr] at e
          have := hI.rg w hw
          rw [gI_rg0 (by omega)] at e
          exact .inl (e ▸ hw)
      · exact .inr ⟨w, hw, .inl ⟨r, List.mem_append_right _ hr, e⟩⟩
    · exact .inr ⟨w, hw, .inr h1⟩
  · rintro (h1 | ⟨w, hw, ⟨r, hr, e⟩ | h1⟩)
    · exact .inl h1
    · refine .inr ⟨w, hw, .inl ⟨r, ?_, e⟩⟩
      rcases List.mem_append.mp hr with hr | hr
      · exact List.mem_append_left _ (List.mem_append_left _ hr)
      · exact List.mem_append_right _ hr
    · exact .inr ⟨w, hw, .inr h1⟩
end DL
end

section
set_option Elab.async false
set_option linter.all false
set_option maxRecDepth 100000
set_option maxHeartbeats 4000000
namespace DL
open PySem PySem.Spec PyProof.Rows L2
theorem same_twin {b : LB} (h : Small b) (c : Int) : Same b (v_twin c b) ∧ Same (v_twin c b) b := by
  have hv := twin_val h c
  obtain ⟨e1, e2⟩ := twin_alp b c
  have hb := h.val
  exact ⟨⟨hb.wf, hv.wf, e1.symm, e2.symm, hb.alp.nd, hb.alp.ndt⟩, ⟨hv.wf, hb.wf, e1, e2, hv.alp.nd, hv.alp.ndt⟩⟩
theorem same_self {b : LB} (h : Val b) : Same b b := ⟨h.wf, h.wf, rfl, rfl, h.alp.nd, h.alp.ndt⟩
theorem Dif.symm {a b : LB} (h : Dif a b) : Dif b a := ⟨h.2.1, h.1, h.2.2.imp (fun h e => h e.symm) fun h e => h e.symm⟩
theorem rev_ne {α : Type} {l : List α} (h : l.Nodup) (h2 : 1 < l.length) : l ≠ l.reverse := fun e => by
  match l, h, h2, e with
  | a :: b :: t, h, _, e =>
    have h1 : (a :: b :: t).head? = (a :: b :: t).reverse.head? := congrArg List.head? e
    rw [List.head?_reverse] at h1
    have hm : a ∈ b :: t := by
      rw [List.head?_cons, List.getLast?_cons_cons] at h1
      exact List.mem_of_getLast? h1.symm
    exact (List.nodup_cons.mp h).1 hm
theorem dif_moreL {b : LB} (h : Small b) : Dif b (v_moreL b) := ⟨h.val.wf, (moreL_val h).wf, .inl fun e => by
  have := congrArg List.length e
  rw [show (v_moreL b).le = b.le ++ [(("add", [20]) : Sy)] from rfl, List.length_append, List.length_singleton] at this
  omega⟩
theorem dif_moreT {b : LB} (h : Small b) : Dif b (v_moreT b) := ⟨h.val.wf, (moreT_val h).wf, .inr fun e => by
  have := congrArg List.length e
  rw [show (v_moreT b).te = b.te ++ [(("is", [20]) : Sy)] from rfl, List.length_append, List.length_singleton] at this
  omega⟩
theorem dif_turnL {b : LB} (h : Val b) (h2 : 1 < b.le.length) : Dif b (v_turnL b) := ⟨h.wf, (turnL_val h).wf, .inl (rev_ne h.alp.nd h2)⟩
theorem dif_turnT {b : LB} (h : Val b) (h2 : 1 < b.te.length) : Dif b (v_turnT b) := ⟨h.wf, (turnT_val h).wf, .inr (rev_ne h.alp.ndt h2)⟩
def v_st (b : LB) : List LB := ([v_moreL b] ++ (if 1 < b.le.length then [v_turnL b] else []) ++ [v_moreT b]) ++ (if 1 < b.te.length then [v_turnT b] else [])
theorem prs_inj : ∀ {l m : List (Int × Int)}, l.map ePr = m.map ePr → l = m
  | [], [], _ => rfl
  | [], _ :: _, e => by cases e
  | _ :: _, [], e => by cases e
  | p :: l, q :: m, e => by
    rw [List.map_cons, List.map_cons] at e
    injection e with e1 e2
    rw [ePr_inj.mpr e1, prs_inj e2]
theorem ro_nePrs {K : PySem.W.Frag} {r : R2} {l m : List (Int × Int)} : RO (fun x y H Q => r x y H Q ∨ rNeD K x y H Q) (.lst (l.map ePr)) (.lst (m.map ePr)) (.bl (!decide (l = m))) := ro_r (ro_neD (n := 2) (by decide) (.lst 1 _ fun d hd => by obtain ⟨p, _, rfl⟩ := List.mem_map.mp hd; exact .pr p) (.lst 1 _ fun d hd => by obtain ⟨p, _, rfl⟩ := List.mem_map.mp hd; exact .pr p) (by
  rw [decide_eq_true_iff]
  exact ⟨fun h => by rw [h], fun h => prs_inj (by injection h)⟩))
theorem ro_eqPrs {K : PySem.W.Frag} {r : R2} {l m : List (Int × Int)} : RO (fun x y H Q => r x y H Q ∨ rEqD K x y H Q) (.lst (l.map ePr)) (.lst (m.map ePr)) (.bl (decide (l = m))) := ro_r (ro_eqD (n := 2) (by decide) (.lst 1 _ fun d hd => by obtain ⟨p, _, rfl⟩ := List.mem_map.mp hd; exact .pr p) (.lst 1 _ fun d hd => by obtain ⟨p, _, rfl⟩ := List.mem_map.mp hd; exact .pr p) (by
  rw [decide_eq_true_iff]
  exact ⟨fun h => by rw [h], fun h => prs_inj (by injection h)⟩))
end DL
end

section
set_option Elab.async false
set_option linter.all false
set_option maxRecDepth 100000
set_option maxHeartbeats 4000000
namespace DL
open PySem PySem.Spec PyProof.Rows L2
open C8 (Cal pe_c Mak pe_mk)
local macro_rules | `(tactic| walk_at "si") => `(tactic| first
  | with_reducible assumption | omega | (simp only [rgI_len, List.length_map]; omega) | (simp only [decide_eq_true_eq, Bool.and_eq_true, Bool.not_eq_true', decide_eq_false_iff_not] at *; omega))
local macro_rules | `(tactic| walk_at "sz") => `(tactic| first
  | with_reducible assumption | omega | (simp only [rgI_len, List.length_map, List.length_append, List.length_cons, List.length_nil]; omega))
local macro_rules | `(tactic| walk_at "row") => `(tactic| first | with_reducible assumption | ((with_reducible refine Tbl.get (by with_reducible assumption) ?_); walk_at "wd") | exact row_mem (by with_reducible assumption) (by with_reducible assumption))
local macro_rules | `(tactic| walk_at "wd") => `(tactic| first | with_reducible assumption | omega | (constructor <;> omega) | ((with_reducible refine wd_get (by walk_at "row") ?_); walk_at "wd") | exact wd_mem (by with_reducible assumption) (by with_reducible assumption))
local macro_rules | `(tactic| walk_at "rk") => `(tactic| first
  | ((with_reducible apply ro_xL (by decide)); exact rfl) | ((with_reducible apply ro_xT (by decide)); exact rfl) | walk_at "ro")
local macro_rules | `(tactic| walk_at "ro") => `(tactic| first
  | with_reducible exact ro_b0 | with_reducible exact ro_l ro_eqI | with_reducible exact ro_l ro_neI | with_reducible exact ro_l ro_eqB | with_reducible exact ro_l ro_neB | with_reducible exact ro_l ro_eqS | with_reducible exact ro_l ro_neS
  | ((with_reducible refine ro_gLR (by with_reducible assumption) ?_); walk_at "wd") | ((with_reducible refine ro_gIR (by walk_at "row") ?_); walk_at "wd")
  | ((with_reducible refine ro_gI ?_ ?_) <;> walk_at "si") | ((with_reducible refine ro_gL ?_ ?_) <;> walk_at "si") | ((with_reducible refine ro_gIT ?_ ?_) <;> walk_at "si")
  | with_reducible exact ro_gG (by with_reducible assumption) | ((with_reducible refine ro_gT ?_ ?_) <;> walk_at "si")
  | ((with_reducible refine ro_gB ?_ ?_) <;> walk_at "si")
  | ((with_reducible refine ro_gS ?_ ?_) <;> walk_at "si") | ((with_reducible refine ro_gST ?_ ?_) <;> walk_at "si")
  | ((with_reducible refine ro_xM ?_ ?_) <;> walk_at "si") | ((with_reducible refine ro_xTM ?_ ?_) <;> walk_at "si")
  | ((with_reducible apply ro_xL (by decide)); exact rfl) | ((with_reducible apply ro_xT (by decide)); exact rfl)
  | with_reducible exact ro_eqIs | with_reducible exact ro_l ro_inL | with_reducible exact ro_l ro_niL | with_reducible exact ro_l ro_inT | with_reducible exact ro_l ro_inS | with_reducible exact ro_isNN | with_reducible exact ro_notNN | with_reducible exact ro_isNI | with_reducible exact ro_notNI)
local macro_rules | `(tactic| walk_at "rc") => `(tactic| with_reducible first
  | exact rc_lenM | exact rc_lenTM | exact rc_lenL' | exact rc_lenT' | exact rc_ii _ | exact rc_ib _ | exact rc_ss _ | exact rc_tt _ | exact rc_ltl _ | exact rc_ltt _ | exact rc_int | exact rc_abs | exact rc_max2 | exact rc_min2 | exact rc_all | exact rc_sum | exact rc_tupL' | exact rc_tupT' | exact rc_range1)
local macro_rules | `(tactic| walk_at "rcn") => `(tactic| with_reducible first
  | exact rcn_listL' | exact rcn_listT' | exact rcn_sortP)
local macro_rules | `(tactic| walk_at "pre") => `(tactic| first | with_reducible assumption | exact trivial | (refine And.intro ?_ ?_ <;> walk_at "pre") | walk_at "wd" | walk_at "si")
local macro_rules | `(tactic| walk_at "cmod") => `(tactic| (show (0 : Int) < _; first | decide | walk_at "si"))
local macro_rules | `(tactic| walk_at "cd") => `(tactic| (refine And.intro ?_ ?_ <;> walk_at "si"))
local macro_rules | `(tactic| walk_at "cp") => `(tactic| exact ⟨by decide, by decide, by decide⟩)
local macro_rules | `(tactic| walk_at "cm") => `(tactic| first | (refine Or.inl (And.intro ?_ ?_) <;> omega) | (refine Or.inr (And.intro ?_ ?_) <;> omega))
local macro_rules | `(tactic| walk_at "wk") => `(tactic| (repeat (first | exact Wk.nil | exact Wk.refl _ | refine Wk.same ?_ | refine Wk.frz ?_ | refine Wk.drop ?_)))
section
variable {P : PySem.Program} {w : World} {K : PySem.W.Frag} {mg : Str → Option Value} {base : Heap} {CL CB : Addr} (T : Txt K mg CL CB)
include T
/-- the script, as the head hands it over -/
def spS (K : PySem.W.Frag) : Sp := fun vs H Q _ => ∃ (a : Addr) (ns : List Int) (i : Int), vs = [.ref a, .int i] ∧ SqL K H a (ns.map V.int) ∧ (0 ≤ i ∧ i < 1000) ∧ Q (.int (v_cell ns i)) H
theorem c_cellS : Cal P w K mg base 1 "_law_cell" (spS K) [] := by
  obtain ⟨f, fd, F, hm⟩ := T.f__law_cell.ex
  refine ⟨f, fd, ["_law_script", "_law_at"], [], F.ok sc__law_cell (fun vs H Q E h => ?_) (fun cdv A outer s H vs Q E hr h => ⟨_, PSs.nox (pss_one (ps_ret (pe_ifExp (pt_cmpR op_lt (pv 1) (pe_callB (lenk K) rfl T.m_len (by decide +kernel) (pa_cons (pv 0) pa_nil)) (nomark _)) (pe_callTy call_int1 rfl T.m_int (by decide +kernel) (pa_cons (pe_ix (ixk K) (pv 0) (pv 1) (fun _ _ => rfl)) pa_nil)) (pe_op op_addA (pe_op op_mulA pe_int (pv 1)) pe_int)))), ?_⟩), hm, F.kp, F.bindsN (fun _ _ _ _ _ _ us hl => match us, hl with | [_, _], _ => rfl), .nil⟩
  · obtain ⟨_, _, _, rfl, _⟩ := h; rfl
  · obtain ⟨a, ns, i, rfl, hs, hi, q⟩ := h
    refine ⟨.int i, rfl, .ref a, rfl, a, _, rfl, .inl hs, i, _, rfl, rfl, _, rfl, ?_⟩
    by_cases hlt : i < (ns.length : Int)
    · have e : v_cell ns i = gI ns i := by unfold v_cell; rw [decide_eq_true hlt]; rfl
      rw [e] at q
      refine (show ∀ b : Bool, b = true → _ → (if b = true then _ else _) from fun b hb h => by rw [if_pos hb]; exact h) _ (decide_eq_true (by rw [List.length_map]; exact hlt)) ?_
      refine ⟨.ref a, rfl, .int i, rfl, .inl ⟨a, _, i, .int (gI ns i), rfl, rfl, hs, ?_, .inl ⟨_, rfl, q⟩⟩⟩
      have ei : (ns.map V.int)[i.toNat]? = some (.int (gI ns i)) := by
        have hlt' : i.toNat < ns.length := by omega
        unfold gI
        rw [List.getElem?_map, List.getD_eq_getElem?_getD, List.getElem?_eq_getElem hlt']
        rfl
      have := atI_nat ei
      rwa [Int.toNat_of_nonneg hi.1] at this
    · have e : v_cell ns i = 1000003 * i + 7 := by unfold v_cell; rw [decide_eq_false hlt]; rfl
      rw [e] at q
      refine (show ∀ b : Bool, b = false → _ → (if b = true then _ else _) from fun b hb h => by rw [hb]; exact h) _ (decide_eq_false (by rw [List.length_map]; exact hlt)) ?_
      exact ⟨.int i, rfl, .inl ⟨1000003, i, rfl, rfl, .inl ⟨by decide, by decide⟩, .inl ⟨_, _, rfl, rfl, q⟩⟩⟩

end
end DL
end

section
set_option Elab.async false
set_option linter.all false
set_option maxRecDepth 100000
set_option maxHeartbeats 4000000
namespace DL
open PySem PySem.Spec PyProof.Rows L2
open C8 (Cal pe_c Mak pe_mk)
local macro_rules | `(tactic| walk_at "si") => `(tactic| first
  | with_reducible assumption | omega | (simp only [rgI_len, List.length_map]; omega) | (simp only [decide_eq_true_eq, Bool.and_eq_true, Bool.not_eq_true', decide_eq_false_iff_not] at *; omega))
local macro_rules | `(tactic| walk_at "sz") => `(tactic| first
  | with_reducible assumption | omega | (simp only [rgI_len, List.length_map, List.length_append, List.length_cons, List.length_nil]; omega))
local macro_rules | `(tactic| walk_at "row") => `(tactic| first | with_reducible assumption | ((with_reducible refine Tbl.get (by with_reducible assumption) ?_); walk_at "wd") | exact row_mem (by with_reducible assumption) (by with_reducible assumption))
local macro_rules | `(tactic| walk_at "wd") => `(tactic| first | with_reducible assumption | omega | (constructor <;> omega) | ((with_reducible refine wd_get (by walk_at "row") ?_); walk_at "wd") | exact wd_mem (by with_reducible assumption) (by with_reducible assumption))
local macro_rules | `(tactic| walk_at "rk") => `(tactic| first
  | ((with_reducible apply ro_xL (by decide)); exact rfl) | ((with_reducible apply ro_xT (by decide)); exact rfl) | walk_at "ro")
local macro_rules | `(tactic| walk_at "ro") => `(tactic| first
  | with_reducible exact ro_b0 | with_reducible exact ro_l ro_eqI | with_reducible exact ro_l ro_neI | with_reducible exact ro_l ro_eqB | with_reducible exact ro_l ro_neB | with_reducible exact ro_l ro_eqS | with_reducible exact ro_l ro_neS
  | ((with_reducible refine ro_gLR (by with_reducible assumption) ?_); walk_at "wd") | ((with_reducible refine ro_gIR (by walk_at "row") ?_); walk_at "wd")
  | ((with_reducible refine ro_gI ?_ ?_) <;> walk_at "si") | ((with_reducible refine ro_gL ?_ ?_) <;> walk_at "si") | ((with_reducible refine ro_gIT ?_ ?_) <;> walk_at "si")
  | with_reducible exact ro_gG (by with_reducible assumption) | ((with_reducible refine ro_gT ?_ ?_) <;> walk_at "si")
  | ((with_reducible refine ro_gB ?_ ?_) <;> walk_at "si")
  | ((with_reducible refine ro_gS ?_ ?_) <;> walk_at "si") | ((with_reducible refine ro_gST ?_ ?_) <;> walk_at "si")
  | ((with_reducible refine ro_xM ?_ ?_) <;> walk_at "si") | ((with_reducible refine ro_xTM ?_ ?_) <;> walk_at "si")
  | ((with_reducible apply ro_xL (by decide)); exact rfl) | ((with_reducible apply ro_xT (by decide)); exact rfl)
  | with_reducible exact ro_eqIs | with_reducible exact ro_l ro_inL | with_reducible exact ro_l ro_niL | with_reducible exact ro_l ro_inT | with_reducible exact ro_l ro_inS | with_reducible exact ro_isNN | with_reducible exact ro_notNN | with_reducible exact ro_isNI | with_reducible exact ro_notNI)
local macro_rules | `(tactic| walk_at "rc") => `(tactic| with_reducible first
  | exact rc_lenM | exact rc_lenTM | exact rc_lenL' | exact rc_lenT' | exact rc_ii _ | exact rc_ib _ | exact rc_ss _ | exact rc_tt _ | exact rc_ltl _ | exact rc_ltt _ | exact rc_int | exact rc_abs | exact rc_max2 | exact rc_min2 | exact rc_all | exact rc_sum | exact rc_tupL' | exact rc_tupT' | exact rc_range1)
local macro_rules | `(tactic| walk_at "rcn") => `(tactic| with_reducible first
  | exact rcn_listL' | exact rcn_listT' | exact rcn_sortP)
local macro_rules | `(tactic| walk_at "pre") => `(tactic| first | with_reducible assumption | exact trivial | (refine And.intro ?_ ?_ <;> walk_at "pre") | walk_at "wd" | walk_at "si")
local macro_rules | `(tactic| walk_at "cmod") => `(tactic| (show (0 : Int) < _; first | decide | walk_at "si"))
local macro_rules | `(tactic| walk_at "cd") => `(tactic| (refine And.intro ?_ ?_ <;> walk_at "si"))
local macro_rules | `(tactic| walk_at "cp") => `(tactic| exact ⟨by decide, by decide, by decide⟩)
local macro_rules | `(tactic| walk_at "cm") => `(tactic| first | (refine Or.inl (And.intro ?_ ?_) <;> omega) | (refine Or.inr (And.intro ?_ ?_) <;> omega))
local macro_rules | `(tactic| walk_at "wk") => `(tactic| (repeat (first | exact Wk.nil | exact Wk.refl _ | refine Wk.same ?_ | refine Wk.frz ?_ | refine Wk.drop ?_)))
section
variable {P : PySem.Program} {w : World} {K : PySem.W.Frag} {mg : Str → Option Value} {base : Heap} {CL CB : Addr} (T : Txt K mg CL CB)
include T
omit T in
theorem cell_raw {Hj Hi Hs H : Hp} {σ : L2.St} {ρ : List Sl} {a : Addr} {ns : List Int} {E : XK} (o : Ok Hj Hi Hs H σ ρ) (e : σ[0]? = some (some (.ref a))) (hs : SqL K Hi a (ns.map V.int)) (i : Int) (hi : 0 ≤ i ∧ i < 1000)
    {Q : VK} (q : Q (.int (v_cell ns i)) H) : tCall (spS K) [] E (tCons (tVar 0) (tCons (tC (.int i)) tNil)) σ H Q := ⟨.ref a, e, a, ns, i, rfl, Evl.ex_l o.go.h hs, hi, q⟩
omit T in
theorem asg_raw {α : Type} {enc : α → List DV} {pre : α → Prop} {val : α → DV} {Hj Hi Hs H : Hp} {σ : L2.St} {ρ : List Sl} {D : Ends} {ta : TA} {E : XK} {u : TS} {i : Nat} (x : α) (hp : pre x) (o : Ok Hj Hi Hs H σ ρ)
    (ht : ∀ Q : List V → Hp → Prop, (∀ vs Hs' H', Go Hs H Hs' H' → RpA Hs' vs (enc x) → Q vs H') → ta σ H Q)
    (k : ∀ Hs1 H1 v, Ok Hj Hi Hs1 H1 (σ.set i (some v)) (ρ.set i (.val (val x))) → u D (σ.set i (some v)) H1) : tSeq (tAsg (tCall (spD enc pre val) [] E ta) (gName i)) u D σ H :=
  ht _ fun vs Hs' H' g r => ⟨x, Hs', g.i, by rw [List.append_nil]; exact r, hp, fun v Hs2 H2 g2 r2 => k Hs2 H2 v (((o.up g).up g2).put i r2)⟩
variable {CE CK : Addr} (TE : TxE K mg CE CK)
include TE
abbrev S_law : Stmt := top 127
abbrev N_law : List Str := ["_law_script", "_law_book", "_law_mate", "_law_one", "_law_other", "_law_due", "_law_told_here", "_law_turned", "_law_strange_here", "_law_third", "_law_pick", "_law_word", "_law_pair"]
omit T TE in
theorem sc_law : FnScope N_law ["_law_script"] (defScope S_law) := ⟨rfl, rfl, rfl, by decide +kernel, rfl, by decide +kernel, by decide +kernel⟩
def sp_lawR (K : PySem.W.Frag) : Sp := fun vs H Q _ => ∃ (a : Addr) (ns : List Int), vs = [.ref a] ∧ SqL K H a (ns.map V.int) ∧ ∀ H', Q (.bl true) H'
theorem fn_law {f : Addr} {fd : FuncData} (F : FunD K "law" "law" (defArgs (top 127)) (defBody (top 127)) (defScope (top 127)) [] [] f fd) : FnOk P w K mg base CX0 8 f fd ["_law_script"] (sp_lawR K) := by
  refine F.ok sc_law (fun vs H Q E h => ?_) (fun cdv A outer s H vs Q E hr h => ?_)
  · obtain ⟨_, _, rfl, _⟩ := h; rfl
  · obtain ⟨a, ns, rfl, hs, q⟩ := h
    have nd := sc_law.nd
    refine ⟨_, PSs.nox (pss_cons (ps_set (i := 1) nd rfl (.inl rfl) (pe_c (c__law_small_book T) hr (by decide) rfl (pa_cons (pe_c (c_cellS T) hr (by decide) rfl (pa_cons (pv 0) (pa_cons pe_int pa_nil))) (pa_cons pe_int pa_nil))))
    (pss_cons (ps_set (i := 2) nd rfl (.inl rfl) (pe_c (c__law_twin T) hr (by decide) rfl (pa_cons (pe_c (c_cellS T) hr (by decide) rfl (pa_cons (pv 0) (pa_cons pe_int pa_nil))) (pa_cons (pv 1) (pa_cons pe_int pa_nil)))))
    (pss_cons (ps_set (i := 3) nd rfl (.inl rfl) (pe_c (c__law_small_made T) hr (by decide) rfl (pa_cons (pv 1) pa_nil)))
    (pss_cons (ps_set (i := 4) nd rfl (.inl rfl) (pe_c (c__law_small_made T) hr (by decide) rfl (pa_cons (pv 2) pa_nil)))
    (pss_cons (ps_set (i := 5) nd rfl (.inl rfl) (pe_c (c__law_couples T) hr (by decide) rfl (pa_cons (pv 1) (pa_cons (pv 2) pa_nil))))
    (pss_cons (ps_set (i := 6) nd rfl (.inl rfl) (pe_c (c_couples_told T) hr (by decide) rfl (pa_cons (pv 3) (pa_cons (pv 4) pa_nil))))
    (pss_cons (ps_if (PW.pt (pw_or (pt_not (pt_val (pe_c (c__law_couples_in_form T) hr (by decide) rfl (pa_cons (pv 6) pa_nil)))) (pw_or1 (pt_cmpR (nek K hr) (pe_callTy (lstk K) rfl T.m_list (by decide +kernel) (pa_cons (pv 6) pa_nil)) (pv 5) (nomark _))))) (pss_one (ps_ret pe_bl)) pss_nil)
    (pss_cons (ps_set (i := 7) nd rfl (.inl rfl) (pe_c (c_couples_told T) hr (by decide) rfl (pa_cons (pv 4) (pa_cons (pv 3) pa_nil))))
    (pss_cons (ps_if (PW.pt (pw_or (pt_not (pt_val (pe_c (c__law_couples_in_form T) hr (by decide) rfl (pa_cons (pv 7) pa_nil)))) (pw_or1 (pt_cmpR (nek K hr) (pe_callTy (lstk K) rfl T.m_list (by decide +kernel) (pa_cons (pv 7) pa_nil)) (pe_callB (srPk K) rfl T.m_sorted (by decide +kernel) (pa_cons (pe_lc (own := [("_law_pair", 12)]) rfl nd (pilk K (pv 5)) (blkOk_by (sc := defScope S_law) (N := N_law) (own := [("_law_pair", 12)]) (by decide +kernel)) (fun _ _ _ _ _ => (pg_name (i := 12) nd rfl (by first | exact .inl rfl | exact .inr rfl))) (fun _ _ _ _ _ => pts_nil) (fun _ _ _ _ _ => (pe_tup (pa_cons (pe_ix (ixk K) (pv 12) pe_int (fun _ _ => rfl)) (pa_cons (pe_ix (ixk K) (pv 12) pe_int (fun _ _ => rfl)) pa_nil))))) pa_nil)) (nomark _))))) (pss_one (ps_ret pe_bl)) pss_nil)
    (pss_cons (ps_if (pt_cmpR (nek K hr) (pe_callTy (lstk K) rfl T.m_list (by decide +kernel) (pa_cons (pe_c (c_couples_told T) hr (by decide) rfl (pa_cons (pv 3) (pa_cons (pv 3) pa_nil))) pa_nil)) (pe_lc (own := [("_law_word", 11)]) rfl nd (pilk K (pe_c (c__law_words T) hr (by decide) rfl (pa_cons (pv 1) pa_nil))) (blkOk_by (sc := defScope S_law) (N := N_law) (own := [("_law_word", 11)]) (by decide +kernel)) (fun _ _ _ _ _ => (pg_name (i := 11) nd rfl (by first | exact .inl rfl | exact .inr rfl))) (fun _ _ _ _ _ => pts_nil) (fun _ _ _ _ _ => (pe_tup (pa_cons (pv 11) (pa_cons (pv 11) pa_nil))))) (nomark _)) (pss_one (ps_ret pe_bl)) pss_nil)
    (pss_cons (ps_set (i := 8) nd rfl (.inl rfl) (pe_lst (pa_cons (pe_c (c__law_small_made T) hr (by decide) rfl (pa_cons (pe_c (c__law_more_letters T) hr (by decide) rfl (pa_cons (pv 1) pa_nil)) pa_nil)) pa_nil)))
    (pss_cons (ps_if (pt_cmpR op_gt (pe_callB (lenk K) rfl T.m_len (by decide +kernel) (pa_cons (pe_ix (ixk K) (pv 1) pe_int (fun _ _ => rfl)) pa_nil)) pe_int (nomark _)) (pss_one (ps_expr (bmk K PySem.F.plainAttrs_list PySem.F.slot_list_append PySem.F.type_list_append mt_append (pv 8) (pa_cons (pe_c (c__law_small_made T) hr (by decide) rfl (pa_cons (pe_c (c__law_turned_letters T) hr (by decide) rfl (pa_cons (pv 1) pa_nil)) pa_nil)) pa_nil)))) pss_nil)
    (pss_cons (ps_expr (bmk K PySem.F.plainAttrs_list PySem.F.slot_list_append PySem.F.type_list_append mt_append (pv 8) (pa_cons (pe_c (c__law_small_made T) hr (by decide) rfl (pa_cons (pe_c (c__law_more_tests T) hr (by decide) rfl (pa_cons (pv 1) pa_nil)) pa_nil)) pa_nil)))
    (pss_cons (ps_if (pt_cmpR op_gt (pe_callB (lenk K) rfl T.m_len (by decide +kernel) (pa_cons (pe_ix (ixk K) (pv 1) pe_int (fun _ _ => rfl)) pa_nil)) pe_int (nomark _)) (pss_one (ps_expr (bmk K PySem.F.plainAttrs_list PySem.F.slot_list_append PySem.F.type_list_append mt_append (pv 8) (pa_cons (pe_c (c__law_small_made T) hr (by decide) rfl (pa_cons (pe_c (c__law_turned_tests T) hr (by decide) rfl (pa_cons (pv 1) pa_nil)) pa_nil)) pa_nil)))) pss_nil)
    (pss_cons (ps_for PassesOwn.never rfl (pilk K (pv 8)) (pg_name (i := 9) nd rfl (.inl rfl))
    (pss_one (ps_for PassesOwn.never rfl (pi_range1 rfl T.m_range (pa_cons pe_int pa_nil)) (pg_name (i := 10) nd rfl (.inl rfl))
    (pss_one (ps_if (PW.pt (pw_or (pt_not (pt_val (pe_c (c__law_refused T TE) hr (by decide) rfl (pa_cons (pv 3) (pa_cons (pv 9) (pa_cons (pv 10) (pa_cons (pe_ix (ixk K) (pv 1) pe_int (fun _ _ => rfl)) (pa_cons (pe_ix (ixk K) (pv 1) pe_int (fun _ _ => rfl)) pa_nil)))))))) (pw_or1 (pt_not (pt_val (pe_c (c__law_refused T TE) hr (by decide) rfl (pa_cons (pv 9) (pa_cons (pv 3) (pa_cons (pv 10) (pa_cons (pe_ix (ixk K) (pv 1) pe_int (fun _ _ => rfl)) (pa_cons (pe_ix (ixk K) (pv 1) pe_int (fun _ _ => rfl)) pa_nil))))))))))) (pss_one (ps_ret pe_bl)) pss_nil)))))
    (pss_cons (ps_if (pt_cmpR (nek K hr) (pe_callTy (lstk K) rfl T.m_list (by decide +kernel) (pa_cons (pe_c (c_couples_told T) hr (by decide) rfl (pa_cons (pv 3) (pa_cons (pv 4) pa_nil))) pa_nil)) (pv 5) (nomark _)) (pss_one (ps_ret pe_bl)) pss_nil)
    (pss_one (ps_ret (pe_cmpR (eqk K hr) (pe_callTy (lstk K) rfl T.m_list (by decide +kernel) (pa_cons (pe_c (c_couples_told T) hr (by decide) rfl (pa_cons (pe_ix (ixk K) (pv 8) pe_int (fun _ _ => rfl)) (pa_cons (pe_ix (ixk K) (pv 8) pe_int (fun _ _ => rfl)) pa_nil))) pa_nil)) (pe_lc (own := [("_law_word", 11)]) rfl nd (pilk K (pe_c (c__law_words T) hr (by decide) rfl (pa_cons (pv 1) pa_nil))) (blkOk_by (sc := defScope S_law) (N := N_law) (own := [("_law_word", 11)]) (by decide +kernel)) (fun _ _ _ _ _ => (pg_name (i := 11) nd rfl (by first | exact .inl rfl | exact .inr rfl))) (fun _ _ _ _ _ => pts_nil) (fun _ _ _ _ _ => (pe_tup (pa_cons (pv 11) (pa_cons (pv 11) pa_nil))))) (nomark _)))))))))))))))))))), ?_⟩
    have hS := small_ok (v_cell ns 0)
    have e0 : v_small (v_cell ns 0) = v_small (v_cell ns 0) := rfl
    generalize hb : v_small (v_cell ns 0) = b at hS
    generalize hm : v_twin (v_cell ns 1) b = m
    obtain ⟨sm, ms⟩ := same_twin hS (v_cell ns 1)
    have vm := twin_val hS (v_cell ns 1)
    rw [hm] at sm ms vm
    have vb := hS.val
    have sb := same_self vb
    have vl := moreL_val hS
    have sl := same_self vl
    have hrl : (v_rows b).length = (v_rows m).length := by rw [rows_lenE, rows_lenE, sm.le, sm.te]
    have k1 : v_ct b m = v_due b m := ct_due sm vb.fi hrl
    have k2 : v_ct m b = srtP ((v_due b m).map sw) := by rw [ct_due ms vm.fi hrl.symm, due_sw b m hrl]
    have k3 : v_ct b b = (v_words b).map dup := by rw [ct_due sb vb.fi rfl, self_due vb]
    have k4 : v_ct (v_moreL b) (v_moreL b) = (v_words b).map dup := by rw [ct_due sl vl.fi rfl, self_due vl, words_moreL hS]
    have z1 : (v_due b m).length ≤ 50000 := by
      have h1 := (found_FI vb.wf vm.wf hrl vb.fi).len
      have : b.js.length * m.js.length ≤ 81 := Nat.mul_le_mul vb.wf.n9 vm.wf.n9
      unfold v_due
      rw [srtP_len]; omega
    have z2 : (v_words b).length ≤ 50000 := by
      have h1 : v_words b = tT b.js (v_rows b) b.fi 40 := told_tT vb.fi
      have := (tT_I (rows := v_rows b) (js := b.js) (f0 := b.fi) ⟨vb.fi, vb.wf.fi.2⟩ 40).len
      have := vb.wf.n9
      rw [h1]; omega
    have o0 : Ok (fun _ => none) H (fun _ => none) H (L2.start N_law [V.ref a]) [.any, .any, .any, .any, .any, .any, .any, .any, .any, .any, .any, .any, .any] := {
      go := ⟨Evl.Ex.refl _, Evl.Ex.refl _, fun _ _ z => (by cases z), fun _ _ => rfl⟩
      sl := fun i s e => by
        have : s = .any := by
          match i, e with
          | 0, e | 1, e | 2, e | 3, e | 4, e | 5, e | 6, e | 7, e | 8, e | 9, e | 10, e | 11, e | 12, e => exact (Option.some.inj e).symm
          | n + 13, e => cases e
        subst this
        trivial
      ap := fun i j b b' m m' p e _ _ _ => by
        match i, e with
        | 0, e | 1, e | 2, e | 3, e | 4, e | 5, e | 6, e | 7, e | 8, e | 9, e | 10, e | 11, e | 12, e => cases e
        | n + 13, e => cases e
      len := rfl }
    refine asg_raw (v_cell ns 0) trivial o0 (fun Q q => cell_raw o0 rfl hs 0 (by decide) (q _ _ _ (Go.refl o0.go.i) (.cons (.int _) (.cons (.int _) .nil)))) fun Hs1 H1 v1 o1 => ?_
    rw [hb] at o1
    refine asg_raw (α := Int × LB) (enc := fun ⟨c, b⟩ => [.int c, eLB b, .int 5]) (pre := fun ⟨c, b⟩ => Small b) (val := fun ⟨c, b⟩ => eLB (v_twin c b)) (v_cell ns 1, b) hS o1 (fun Q q => ?_) fun Hs2 H2 v2 o2 => ?_
    · obtain ⟨u, eu, ru⟩ := o1.sl 1 _ rfl
      exact cell_raw o1 rfl hs 1 (by decide) ⟨u, eu, q _ _ _ (Go.refl o1.go.i) (.cons (.int _) (.cons ru (.cons (.int _) .nil)))⟩
    dsimp only at o2
    rw [hm] at o2
    refine (show DS _ [.any, .val (eLB b), .val (eLB m), .any, .any, .any, .any, .any, .any, .any, .any, .any, .any] { nx := fun _ => False, rt := fun d => d = .bl true } from ?_) _ _ _ ⟨fun _ _ _ _ z => False.elim z, fun d v Hs H e g r => by subst e; rw [Rp.bl_inv r]; exact q H, fun _ _ _ _ z => False.elim z, fun _ _ _ _ z => False.elim z⟩ _ _ _ o2
    refine ds_setS (d__law_small_made (da_cons (de_var rfl) da_nil) (vb)              ) ?_
    refine ds_setS (d__law_small_made (da_cons (de_var rfl) da_nil) (vm)              ) ?_
    refine ds_setS (d__law_couples (da_cons (de_var rfl) (da_cons (de_var rfl) da_nil)) (⟨vb.wf, vm.wf, hrl, vb.fi⟩)) ?_
    refine ds_setS (d_couples_told (da_cons (de_var rfl) (da_cons (de_var rfl) da_nil)) (sm)              ) ?_
    refine ds_ifFS (dt_or (dt_not (dt_B (d__law_couples_in_form (da_cons (de_var rfl) da_nil) (by walk_at "pre")))) (fun _ => (dt_test (de_op (dn_dq (dn_cb (db_cons (dq_of (de_var rfl)) db_nil) (by walk_at "rcn"))) (dq_of (de_var rfl)) (ro_nePrs)       )))) (by rw [k1, decide_eq_true rfl]; rfl) ?_
    refine ds_setS (d_couples_told (da_cons (de_var rfl) (da_cons (de_var rfl) da_nil)) (ms)              ) ?_
    refine ds_ifFS (dt_or (dt_not (dt_B (d__law_couples_in_form (da_cons (de_var rfl) da_nil) (by walk_at "pre")))) (fun _ => (dt_test (de_op (dn_dq (dn_cb (db_cons (dq_of (de_var rfl)) db_nil) (by walk_at "rcn"))) (dn_dq (dn_cb (db_cons (dn_dq (dn_lc2 (e := sw) ePr (dw_list (de_var rfl)) (by walk_at "sz") (by decide) (fun x_pair hx_x_pair => by (try rw [mem_rgI] at hx_x_pair); exact (de_tup (da_cons (de_op (dq_of (de_var rfl)) (dq_of de_int) (by walk_at "rk")) (da_cons (de_op (dq_of (de_var rfl)) (dq_of de_int) (by walk_at "rk")) da_nil)) (Nat.le_of_ble_eq_true rfl))))) db_nil) (by walk_at "rcn"))) (ro_nePrs)       )))) (by rw [k2, decide_eq_true rfl]; rfl) ?_
    refine ds_ifFS (dt_test (de_op (dn_dq (dn_cb (db_cons (dq_of (d_couples_told (da_cons (de_var rfl) (da_cons (de_var rfl) da_nil)) (sb)              )) db_nil) (by walk_at "rcn"))) (dn_dq (dn_lc2 (e := dup) ePr (dw_list (d__law_words (da_cons (de_var rfl) da_nil) (vb.wf)           )) (by walk_at "sz") (by decide) (fun x_word hx_x_word => by (try rw [mem_rgI] at hx_x_word); exact (de_tup (da_cons (de_var rfl) (da_cons (de_var rfl) da_nil)) (Nat.le_of_ble_eq_true rfl))))) (ro_nePrs)       )) (by rw [k3, decide_eq_true rfl]; rfl) ?_
    refine ds_setNS (ds := [v_moreL b].map (eBook CL CB)) (dn_lst (da_cons (d__law_small_made (da_cons (d__law_more_letters (da_cons (de_var rfl) da_nil) (vb.wf)           ) da_nil) (vl)              ) da_nil) (Nat.le_of_ble_eq_true rfl)) ?_
    show DS _ [.any, .val (eLB b), .val (eLB m), .val (eBook CL CB b), .val (eBook CL CB m), .val (.lst ((v_due b m).map ePr)), .val (.tup ((v_ct b m).map ePr)), .val (.tup ((v_ct m b).map ePr)), .mu none (.lst ([v_moreL b].map (eBook CL CB))), .any, .any, .any, .any] _
    refine ds_ifM (fun q => [.any, .val (eLB b), .val (eLB m), .val (eBook CL CB b), .val (eBook CL CB m), .val (.lst ((v_due b m).map ePr)), .val (.tup ((v_ct b m).map ePr)), .val (.tup ((v_ct m b).map ePr)), .mu none (.lst ((cond q ([v_moreL b] ++ [v_turnL b]) [v_moreL b]).map (eBook CL CB))), .any, .any, .any, .any]) (dt_test (de_op (dq_of (de_cb (db_cons (dq_of (de_op (dq_of (de_var rfl)) (dq_of de_int) (by walk_at "rk"))) db_nil) (by walk_at "rc"))) (dq_of de_int) ro_b0)) (fun _ => ds_appM (enc := eBook CL CB) (x := v_turnL b) rfl (d__law_small_made (da_cons (d__law_turned_letters (da_cons (de_var rfl) da_nil) (vb.wf)           ) da_nil) (turnL_val vb)    ) (by show 1 < 100000; decide) (by walk_at "wk")) (fun _ => by walk_at "wk") ?_
    have X1 : ∀ t ∈ cond (decide ((b.le.length : Int) > 1)) ([v_moreL b] ++ [v_turnL b]) [v_moreL b], Dif b t := fun t ht => by
      by_cases h : (b.le.length : Int) > 1
      · rw [decide_eq_true h] at ht
        rcases List.mem_append.mp ht with ht | ht
        · rw [List.mem_singleton.mp ht]; exact dif_moreL hS
        · rw [List.mem_singleton.mp ht]; exact dif_turnL vb (by omega)
      · rw [decide_eq_false h] at ht
        rw [List.mem_singleton.mp ht]; exact dif_moreL hS
    have X2 : ∃ r, cond (decide ((b.le.length : Int) > 1)) ([v_moreL b] ++ [v_turnL b]) [v_moreL b] = v_moreL b :: r ∧ r.length ≤ 1 := by
      cases decide ((b.le.length : Int) > 1)
      · exact ⟨_, rfl, Nat.zero_le _⟩
      · exact ⟨_, rfl, Nat.le_refl _⟩
    generalize cond (decide ((b.le.length : Int) > 1)) ([v_moreL b] ++ [v_turnL b]) [v_moreL b] = x1 at X1 X2
    obtain ⟨r1, e1, l1⟩ := X2
    refine ds_appMS (enc := eBook CL CB) (xs := x1) (x := v_moreT b) rfl (d__law_small_made (da_cons (d__law_more_tests (da_cons (de_var rfl) da_nil) (vb.wf)           ) da_nil) (moreT_val hS)    ) (by rw [e1, List.length_cons]; omega) ?_
    have X3 : ∀ t ∈ x1 ++ [v_moreT b], Dif b t := fun t ht => by
      rcases List.mem_append.mp ht with ht | ht
      · exact X1 t ht
      · rw [List.mem_singleton.mp ht]; exact dif_moreT hS
    have e2 : x1 ++ [v_moreT b] = v_moreL b :: (r1 ++ [v_moreT b]) := by rw [e1]; rfl
    have l2 : (r1 ++ [v_moreT b]).length ≤ 2 := by rw [List.length_append, List.length_singleton]; omega
    generalize x1 ++ [v_moreT b] = x2 at X3 e2
    generalize r1 ++ [v_moreT b] = r2 at e2 l2
    show DS _ [.any, .val (eLB b), .val (eLB m), .val (eBook CL CB b), .val (eBook CL CB m), .val (.lst ((v_due b m).map ePr)), .val (.tup ((v_ct b m).map ePr)), .val (.tup ((v_ct m b).map ePr)), .mu none (.lst (x2.map (eBook CL CB))), .any, .any, .any, .any] _
    refine ds_ifM (fun q => [.any, .val (eLB b), .val (eLB m), .val (eBook CL CB b), .val (eBook CL CB m), .val (.lst ((v_due b m).map ePr)), .val (.tup ((v_ct b m).map ePr)), .val (.tup ((v_ct m b).map ePr)), .mu none (.lst ((cond q (x2 ++ [v_turnT b]) x2).map (eBook CL CB))), .any, .any, .any, .any]) (dt_test (de_op (dq_of (de_cb (db_cons (dq_of (de_op (dq_of (de_var rfl)) (dq_of de_int) (by walk_at "rk"))) db_nil) (by walk_at "rc"))) (dq_of de_int) ro_b0)) (fun _ => ds_appM (enc := eBook CL CB) (x := v_turnT b) rfl (d__law_small_made (da_cons (d__law_turned_tests (da_cons (de_var rfl) da_nil) (vb.wf)           ) da_nil) (turnT_val vb)    ) (by rw [e2, List.length_cons]; omega) (by walk_at "wk")) (fun _ => by walk_at "wk") ?_
    have X4 : ∀ t ∈ cond (decide ((b.te.length : Int) > 1)) (x2 ++ [v_turnT b]) x2, Dif b t := fun t ht => by
      by_cases h : (b.te.length : Int) > 1
      · rw [decide_eq_true h] at ht
        rcases List.mem_append.mp ht with ht | ht
        · exact X3 t ht
        · rw [List.mem_singleton.mp ht]; exact dif_turnT vb (by omega)
      · rw [decide_eq_false h] at ht
        exact X3 t ht
    have X5 : ∃ r, cond (decide ((b.te.length : Int) > 1)) (x2 ++ [v_turnT b]) x2 = v_moreL b :: r := by
      cases decide ((b.te.length : Int) > 1)
      · exact ⟨_, e2⟩
      · exact ⟨r2 ++ [v_turnT b], by rw [e2]; rfl⟩
    generalize cond (decide ((b.te.length : Int) > 1)) (x2 ++ [v_turnT b]) x2 = x3 at X4 X5
    obtain ⟨r3, e3⟩ := X5
    refine ds_wk (ρ' := [.any, .val (eLB b), .val (eLB m), .val (eBook CL CB b), .val (eBook CL CB m), .val (.lst ((v_due b m).map ePr)), .any, .any, .val (.lst (x3.map (eBook CL CB))), .any, .any, .any, .any]) (by walk_at "wk") ?_
    refine ds_seq (ds_each (xs := x3) (enc := eBook CL CB) [.any, .val (eLB b), .val (eLB m), .val (eBook CL CB b), .val (eBook CL CB m), .val (.lst ((v_due b m).map ePr)), .any, .any, .val (.lst (x3.map (eBook CL CB))), .any, .any, .any, .any] (dw_list (de_var rfl)) (by walk_at "wk") (fun t ht => ?_) ?_)
    · have hd := X4 t ht
      show DS _ [.any, .val (eLB b), .val (eLB m), .val (eBook CL CB b), .val (eBook CL CB m), .val (.lst ((v_due b m).map ePr)), .any, .any, .val (.lst (x3.map (eBook CL CB))), .val (eBook CL CB t), .any, .any, .any] _
      refine ds_each (enc := DV.int) [.any, .val (eLB b), .val (eLB m), .val (eBook CL CB b), .val (eBook CL CB m), .val (.lst ((v_due b m).map ePr)), .any, .any, .val (.lst (x3.map (eBook CL CB))), .val (eBook CL CB t), .any, .any, .any] (dw_range1 (da_cons de_int da_nil) (by walk_at "si")) (by walk_at "wk") (fun k hk => ?_) (by walk_at "wk")
      show DS _ [.any, .val (eLB b), .val (eLB m), .val (eBook CL CB b), .val (eBook CL CB m), .val (.lst ((v_due b m).map ePr)), .any, .any, .val (.lst (x3.map (eBook CL CB))), .val (eBook CL CB t), .val (.int k), .any, .any] _
      exact ds_ifF (dt_or (dt_not (dt_B (d__law_refused (da_cons (de_var rfl) (da_cons (de_var rfl) (da_cons (de_var rfl) (da_cons (de_op (dq_of (de_var rfl)) (dq_of de_int) (by walk_at "rk")) (da_cons (de_op (dq_of (de_var rfl)) (dq_of de_int) (by walk_at "rk")) da_nil))))) (hd)              ))) (fun _ => (dt_not (dt_B (d__law_refused (da_cons (de_var rfl) (da_cons (de_var rfl) (da_cons (de_var rfl) (da_cons (de_op (dq_of (de_var rfl)) (dq_of de_int) (by walk_at "rk")) (da_cons (de_op (dq_of (de_var rfl)) (dq_of de_int) (by walk_at "rk")) da_nil))))) (hd.symm)         ))))) (ds_next (by walk_at "wk"))
    · show DS _ [.any, .val (eLB b), .val (eLB m), .val (eBook CL CB b), .val (eBook CL CB m), .val (.lst ((v_due b m).map ePr)), .any, .any, .val (.lst (x3.map (eBook CL CB))), .any, .any, .any, .any] _
      refine ds_ifFS (dt_test (de_op (dn_dq (dn_cb (db_cons (dq_of (d_couples_told (da_cons (de_var rfl) (da_cons (de_var rfl) da_nil)) (sm)              )) db_nil) (by walk_at "rcn"))) (dq_of (de_var rfl)) (ro_nePrs)       )) (by rw [k1, decide_eq_true rfl]; rfl) ?_
      subst e3
      refine ds_ret (d := .bl true) (de_is (de_op (dn_dq (dn_cb (db_cons (dq_of (d_couples_told (da_cons (de_op (by first | exact dq_of (de_var rfl) | exact dq_own rfl) (dq_of de_int) (by walk_at "rk")) (da_cons (de_op (by first | exact dq_of (de_var rfl) | exact dq_own rfl) (dq_of de_int) (by walk_at "rk")) da_nil)) (sl)              )) db_nil) (by walk_at "rcn"))) (dn_dq (dn_lc2 (e := dup) ePr (dw_list (d__law_words (da_cons (de_var rfl) da_nil) (vb.wf)           )) (by walk_at "sz") (by decide) (fun x_word hx_x_word => by (try rw [mem_rgI] at hx_x_word); exact (de_tup (da_cons (de_var rfl) (da_cons (de_var rfl) da_nil)) (Nat.le_of_ble_eq_true rfl))))) (ro_eqPrs)       ) (by rw [k4, decide_eq_true rfl])) rfl

end
end DL
end

section
set_option Elab.async false
set_option linter.all false
set_option maxRecDepth 100000
set_option maxHeartbeats 4000000
namespace DL
open PySem PySem.Spec PyProof.Rows L2
section
variable {K : PySem.W.Frag} {h : Heap} {mg : Str → Option Value} (X : K.In h) (G : h.Ns mainGlobals mg) (S : He.SaysD HT.fa HT.fn K) (xc : HT.xB K = true ∧ HT.fvG K = HT.fvV)
include X G S xc
theorem y_f_least_period : FnAt K mg 17 "least_period" := by
  obtain ⟨fd, F⟩ := S.def_ 0 (d := HT.dD 17 "least_period") rfl
  exact ⟨⟨_, fd, F, He.glo_ok X G (S.fact 43 (f := .glo "least_period") rfl)⟩⟩
theorem y_f_flag_row : FnAt K mg 18 "flag_row" := by
  obtain ⟨fd, F⟩ := S.def_ 1 (d := HT.dD 18 "flag_row") rfl
  exact ⟨⟨_, fd, F, He.glo_ok X G (S.fact 44 (f := .glo "flag_row") rfl)⟩⟩
theorem y_f_shape_lot : FnAt K mg 19 "shape_lot" := by
  obtain ⟨fd, F⟩ := S.def_ 2 (d := HT.dD 19 "shape_lot") rfl
  exact ⟨⟨_, fd, F, He.glo_ok X G (S.fact 45 (f := .glo "shape_lot") rfl)⟩⟩
theorem y_f_told_by : FnAt K mg 20 "told_by" := by
  obtain ⟨fd, F⟩ := S.def_ 3 (d := HT.dD 20 "told_by") rfl
  exact ⟨⟨_, fd, F, He.glo_ok X G (S.fact 46 (f := .glo "told_by") rfl)⟩⟩
theorem y_f_rim_numbers : FnAt K mg 21 "rim_numbers" := by
  obtain ⟨fd, F⟩ := S.def_ 4 (d := HT.dD 21 "rim_numbers") rfl
  exact ⟨⟨_, fd, F, He.glo_ok X G (S.fact 47 (f := .glo "rim_numbers") rfl)⟩⟩
theorem y_f_empty_lot : FnAt K mg 22 "empty_lot" := by
  obtain ⟨fd, F⟩ := S.def_ 5 (d := HT.dD 22 "empty_lot") rfl
  exact ⟨⟨_, fd, F, He.glo_ok X G (S.fact 48 (f := .glo "empty_lot") rfl)⟩⟩
theorem y_f_just_lot : FnAt K mg 23 "just_lot" := by
  obtain ⟨fd, F⟩ := S.def_ 6 (d := HT.dD 23 "just_lot") rfl
  exact ⟨⟨_, fd, F, He.glo_ok X G (S.fact 49 (f := .glo "just_lot") rfl)⟩⟩
theorem y_f_truth_row : FnAt K mg 24 "truth_row" := by
  obtain ⟨fd, F⟩ := S.def_ 7 (d := HT.dD 24 "truth_row") rfl
  exact ⟨⟨_, fd, F, He.glo_ok X G (S.fact 50 (f := .glo "truth_row") rfl)⟩⟩
theorem y_f_common_modulus : FnAt K mg 25 "common_modulus" := by
  obtain ⟨fd, F⟩ := S.def_ 8 (d := HT.dD 25 "common_modulus") rfl
  exact ⟨⟨_, fd, F, He.glo_ok X G (S.fact 51 (f := .glo "common_modulus") rfl)⟩⟩
theorem y_f_within : FnAt K mg 26 "within" := by
  obtain ⟨fd, F⟩ := S.def_ 9 (d := HT.dD 26 "within") rfl
  exact ⟨⟨_, fd, F, He.glo_ok X G (S.fact 52 (f := .glo "within") rfl)⟩⟩
theorem y_f_whole_within : FnAt K mg 28 "whole_within" := by
  obtain ⟨fd, F⟩ := S.def_ 10 (d := HT.dD 28 "whole_within") rfl
  exact ⟨⟨_, fd, F, He.glo_ok X G (S.fact 53 (f := .glo "whole_within") rfl)⟩⟩
theorem y_f_check_letter : FnAt K mg 29 "check_letter" := by
  obtain ⟨fd, F⟩ := S.def_ 11 (d := HT.dD 29 "check_letter") rfl
  exact ⟨⟨_, fd, F, He.glo_ok X G (S.fact 54 (f := .glo "check_letter") rfl)⟩⟩
theorem y_f_check_test : FnAt K mg 30 "check_test" := by
  obtain ⟨fd, F⟩ := S.def_ 12 (d := HT.dD 30 "check_test") rfl
  exact ⟨⟨_, fd, F, He.glo_ok X G (S.fact 55 (f := .glo "check_test") rfl)⟩⟩
theorem y_f_is_word : FnAt K mg 54 "is_word" := by
  obtain ⟨fd, F⟩ := S.def_ 13 (d := HT.dD 54 "is_word") rfl
  exact ⟨⟨_, fd, F, He.glo_ok X G (S.fact 56 (f := .glo "is_word") rfl)⟩⟩
theorem y_f_is_word_row : FnAt K mg 55 "is_word_row" := by
  obtain ⟨fd, F⟩ := S.def_ 14 (d := HT.dD 55 "is_word_row") rfl
  exact ⟨⟨_, fd, F, He.glo_ok X G (S.fact 57 (f := .glo "is_word_row") rfl)⟩⟩
theorem y_f_row_rises : FnAt K mg 56 "row_rises" := by
  obtain ⟨fd, F⟩ := S.def_ 15 (d := HT.dD 56 "row_rises") rfl
  exact ⟨⟨_, fd, F, He.glo_ok X G (S.fact 58 (f := .glo "row_rises") rfl)⟩⟩
theorem y_f_checked_letters : FnAt K mg 57 "checked_letters" := by
  obtain ⟨fd, F⟩ := S.def_ 16 (d := HT.dD 57 "checked_letters") rfl
  exact ⟨⟨_, fd, F, He.glo_ok X G (S.fact 59 (f := .glo "checked_letters") rfl)⟩⟩
theorem y_f_checked_tests : FnAt K mg 58 "checked_tests" := by
  obtain ⟨fd, F⟩ := S.def_ 17 (d := HT.dD 58 "checked_tests") rfl
  exact ⟨⟨_, fd, F, He.glo_ok X G (S.fact 60 (f := .glo "checked_tests") rfl)⟩⟩
theorem y_f_checked_joins : FnAt K mg 59 "checked_joins" := by
  obtain ⟨fd, F⟩ := S.def_ 18 (d := HT.dD 59 "checked_joins") rfl
  exact ⟨⟨_, fd, F, He.glo_ok X G (S.fact 61 (f := .glo "checked_joins") rfl)⟩⟩
theorem y_f_checked_meanings : FnAt K mg 60 "checked_meanings" := by
  obtain ⟨fd, F⟩ := S.def_ 19 (d := HT.dD 60 "checked_meanings") rfl
  exact ⟨⟨_, fd, F, He.glo_ok X G (S.fact 62 (f := .glo "checked_meanings") rfl)⟩⟩
theorem y_f_checked_rows : FnAt K mg 61 "checked_rows" := by
  obtain ⟨fd, F⟩ := S.def_ 20 (d := HT.dD 61 "checked_rows") rfl
  exact ⟨⟨_, fd, F, He.glo_ok X G (S.fact 63 (f := .glo "checked_rows") rfl)⟩⟩
theorem y_f_join_two : FnAt K mg 64 "join_two" := by
  obtain ⟨fd, F⟩ := S.def_ 21 (d := HT.dD 64 "join_two") rfl
  exact ⟨⟨_, fd, F, He.glo_ok X G (S.fact 64 (f := .glo "join_two") rfl)⟩⟩
theorem y_f_letter_place : FnAt K mg 65 "letter_place" := by
  obtain ⟨fd, F⟩ := S.def_ 22 (d := HT.dD 65 "letter_place") rfl
  exact ⟨⟨_, fd, F, He.glo_ok X G (S.fact 65 (f := .glo "letter_place") rfl)⟩⟩
theorem y_f_test_place : FnAt K mg 66 "test_place" := by
  obtain ⟨fd, F⟩ := S.def_ 23 (d := HT.dD 66 "test_place") rfl
  exact ⟨⟨_, fd, F, He.glo_ok X G (S.fact 66 (f := .glo "test_place") rfl)⟩⟩
theorem y_f_deed_word : FnAt K mg 67 "deed_word" := by
  obtain ⟨fd, F⟩ := S.def_ 24 (d := HT.dD 67 "deed_word") rfl
  exact ⟨⟨_, fd, F, He.glo_ok X G (S.fact 67 (f := .glo "deed_word") rfl)⟩⟩
theorem y_f_test_word : FnAt K mg 68 "test_word" := by
  obtain ⟨fd, F⟩ := S.def_ 25 (d := HT.dD 68 "test_word") rfl
  exact ⟨⟨_, fd, F, He.glo_ok X G (S.fact 68 (f := .glo "test_word") rfl)⟩⟩
theorem y_f_step_word : FnAt K mg 69 "step_word" := by
  obtain ⟨fd, F⟩ := S.def_ 26 (d := HT.dD 69 "step_word") rfl
  exact ⟨⟨_, fd, F, He.glo_ok X G (S.fact 69 (f := .glo "step_word") rfl)⟩⟩
theorem y_f_check_same_alphabet : FnAt K mg 72 "check_same_alphabet" := by
  obtain ⟨fd, F⟩ := S.def_ 27 (d := HT.dD 72 "check_same_alphabet") rfl
  exact ⟨⟨_, fd, F, He.glo_ok X G (S.fact 70 (f := .glo "check_same_alphabet") rfl)⟩⟩
theorem y_f_steps_of_book : FnAt K mg 73 "steps_of_book" := by
  obtain ⟨fd, F⟩ := S.def_ 28 (d := HT.dD 73 "steps_of_book") rfl
  exact ⟨⟨_, fd, F, He.glo_ok X G (S.fact 71 (f := .glo "steps_of_book") rfl)⟩⟩
theorem y_f_put_line : FnAt K mg 75 "put_line" := by
  obtain ⟨fd, F⟩ := S.def_ 29 (d := HT.dD 75 "put_line") rfl
  exact ⟨⟨_, fd, F, He.glo_ok X G (S.fact 72 (f := .glo "put_line") rfl)⟩⟩
theorem y_f_put_killed : FnAt K mg 76 "put_killed" := by
  obtain ⟨fd, F⟩ := S.def_ 30 (d := HT.dD 76 "put_killed") rfl
  exact ⟨⟨_, fd, F, He.glo_ok X G (S.fact 73 (f := .glo "put_killed") rfl)⟩⟩
theorem y_f_lead_line : FnAt K mg 77 "lead_line" := by
  obtain ⟨fd, F⟩ := S.def_ 31 (d := HT.dD 77 "lead_line") rfl
  exact ⟨⟨_, fd, F, He.glo_ok X G (S.fact 74 (f := .glo "lead_line") rfl)⟩⟩
theorem y_f_couple_lines : FnAt K mg 78 "couple_lines" := by
  obtain ⟨fd, F⟩ := S.def_ 32 (d := HT.dD 78 "couple_lines") rfl
  exact ⟨⟨_, fd, F, He.glo_ok X G (S.fact 75 (f := .glo "couple_lines") rfl)⟩⟩
theorem y_f_couples_told : FnAt K mg 79 "couples_told" := by
  obtain ⟨fd, F⟩ := S.def_ 33 (d := HT.dD 79 "couples_told") rfl
  exact ⟨⟨_, fd, F, He.glo_ok X G (S.fact 76 (f := .glo "couples_told") rfl)⟩⟩
theorem y_f_couple_program : FnAt K mg 84 "couple_program" := by
  obtain ⟨fd, F⟩ := S.def_ 34 (d := HT.dD 84 "couple_program") rfl
  exact ⟨⟨_, fd, F, He.glo_ok X G (S.fact 77 (f := .glo "couple_program") rfl)⟩⟩
theorem y_f_finer : FnAt K mg 88 "finer" := by
  obtain ⟨fd, F⟩ := S.def_ 35 (d := HT.dD 88 "finer") rfl
  exact ⟨⟨_, fd, F, He.glo_ok X G (S.fact 78 (f := .glo "finer") rfl)⟩⟩
theorem y_f_alike : FnAt K mg 89 "alike" := by
  obtain ⟨fd, F⟩ := S.def_ 36 (d := HT.dD 89 "alike") rfl
  exact ⟨⟨_, fd, F, He.glo_ok X G (S.fact 79 (f := .glo "alike") rfl)⟩⟩
theorem y_f_told_match : FnAt K mg 93 "told_match" := by
  obtain ⟨fd, F⟩ := S.def_ 37 (d := HT.dD 93 "told_match") rfl
  exact ⟨⟨_, fd, F, He.glo_ok X G (S.fact 80 (f := .glo "told_match") rfl)⟩⟩
theorem y_f__law_digits : FnAt K mg 95 "_law_digits" := by
  obtain ⟨fd, F⟩ := S.def_ 38 (d := HT.dD 95 "_law_digits") rfl
  exact ⟨⟨_, fd, F, He.glo_ok X G (S.fact 81 (f := .glo "_law_digits") rfl)⟩⟩
theorem y_f__law_cell : FnAt K mg 96 "_law_cell" := by
  obtain ⟨fd, F⟩ := S.def_ 39 (d := HT.dD 96 "_law_cell") rfl
  exact ⟨⟨_, fd, F, He.glo_ok X G (S.fact 82 (f := .glo "_law_cell") rfl)⟩⟩
theorem y_f__law_letter : FnAt K mg 97 "_law_letter" := by
  obtain ⟨fd, F⟩ := S.def_ 40 (d := HT.dD 97 "_law_letter") rfl
  exact ⟨⟨_, fd, F, He.glo_ok X G (S.fact 83 (f := .glo "_law_letter") rfl)⟩⟩
theorem y_f__law_test : FnAt K mg 98 "_law_test" := by
  obtain ⟨fd, F⟩ := S.def_ 41 (d := HT.dD 98 "_law_test") rfl
  exact ⟨⟨_, fd, F, He.glo_ok X G (S.fact 84 (f := .glo "_law_test") rfl)⟩⟩
theorem y_f__law_alphabet : FnAt K mg 99 "_law_alphabet" := by
  obtain ⟨fd, F⟩ := S.def_ 42 (d := HT.dD 99 "_law_alphabet") rfl
  exact ⟨⟨_, fd, F, He.glo_ok X G (S.fact 85 (f := .glo "_law_alphabet") rfl)⟩⟩
theorem y_f__law_join_all : FnAt K mg 100 "_law_join_all" := by
  obtain ⟨fd, F⟩ := S.def_ 43 (d := HT.dD 100 "_law_join_all") rfl
  exact ⟨⟨_, fd, F, He.glo_ok X G (S.fact 86 (f := .glo "_law_join_all") rfl)⟩⟩
theorem y_f__law_below : FnAt K mg 101 "_law_below" := by
  obtain ⟨fd, F⟩ := S.def_ 44 (d := HT.dD 101 "_law_below") rfl
  exact ⟨⟨_, fd, F, He.glo_ok X G (S.fact 87 (f := .glo "_law_below") rfl)⟩⟩
theorem y_f__law_led_up : FnAt K mg 102 "_law_led_up" := by
  obtain ⟨fd, F⟩ := S.def_ 45 (d := HT.dD 102 "_law_led_up") rfl
  exact ⟨⟨_, fd, F, He.glo_ok X G (S.fact 88 (f := .glo "_law_led_up") rfl)⟩⟩
theorem y_f__law_told : FnAt K mg 103 "_law_told" := by
  obtain ⟨fd, F⟩ := S.def_ 46 (d := HT.dD 103 "_law_told") rfl
  exact ⟨⟨_, fd, F, He.glo_ok X G (S.fact 89 (f := .glo "_law_told") rfl)⟩⟩
theorem y_f__law_whole : FnAt K mg 104 "_law_whole" := by
  obtain ⟨fd, F⟩ := S.def_ 47 (d := HT.dD 104 "_law_whole") rfl
  exact ⟨⟨_, fd, F, He.glo_ok X G (S.fact 90 (f := .glo "_law_whole") rfl)⟩⟩
theorem y_f__law_steps : FnAt K mg 105 "_law_steps" := by
  obtain ⟨fd, F⟩ := S.def_ 48 (d := HT.dD 105 "_law_steps") rfl
  exact ⟨⟨_, fd, F, He.glo_ok X G (S.fact 91 (f := .glo "_law_steps") rfl)⟩⟩
theorem y_f__law_words : FnAt K mg 106 "_law_words" := by
  obtain ⟨fd, F⟩ := S.def_ 49 (d := HT.dD 106 "_law_words") rfl
  exact ⟨⟨_, fd, F, He.glo_ok X G (S.fact 92 (f := .glo "_law_words") rfl)⟩⟩
theorem y_f__law_half : FnAt K mg 107 "_law_half" := by
  obtain ⟨fd, F⟩ := S.def_ 50 (d := HT.dD 107 "_law_half") rfl
  exact ⟨⟨_, fd, F, He.glo_ok X G (S.fact 93 (f := .glo "_law_half") rfl)⟩⟩
theorem y_f__law_doubled_row : FnAt K mg 108 "_law_doubled_row" := by
  obtain ⟨fd, F⟩ := S.def_ 51 (d := HT.dD 108 "_law_doubled_row") rfl
  exact ⟨⟨_, fd, F, He.glo_ok X G (S.fact 94 (f := .glo "_law_doubled_row") rfl)⟩⟩
theorem y_f__law_doubled : FnAt K mg 109 "_law_doubled" := by
  obtain ⟨fd, F⟩ := S.def_ 52 (d := HT.dD 109 "_law_doubled") rfl
  exact ⟨⟨_, fd, F, He.glo_ok X G (S.fact 95 (f := .glo "_law_doubled") rfl)⟩⟩
theorem y_f__law_renamed : FnAt K mg 110 "_law_renamed" := by
  obtain ⟨fd, F⟩ := S.def_ 53 (d := HT.dD 110 "_law_renamed") rfl
  exact ⟨⟨_, fd, F, He.glo_ok X G (S.fact 96 (f := .glo "_law_renamed") rfl)⟩⟩
theorem y_f__law_with_rows : FnAt K mg 111 "_law_with_rows" := by
  obtain ⟨fd, F⟩ := S.def_ 54 (d := HT.dD 111 "_law_with_rows") rfl
  exact ⟨⟨_, fd, F, He.glo_ok X G (S.fact 97 (f := .glo "_law_with_rows") rfl)⟩⟩
theorem y_f__law_lifted : FnAt K mg 112 "_law_lifted" := by
  obtain ⟨fd, F⟩ := S.def_ 55 (d := HT.dD 112 "_law_lifted") rfl
  exact ⟨⟨_, fd, F, He.glo_ok X G (S.fact 98 (f := .glo "_law_lifted") rfl)⟩⟩
theorem y_f__law_led_anew : FnAt K mg 113 "_law_led_anew" := by
  obtain ⟨fd, F⟩ := S.def_ 56 (d := HT.dD 113 "_law_led_anew") rfl
  exact ⟨⟨_, fd, F, He.glo_ok X G (S.fact 99 (f := .glo "_law_led_anew") rfl)⟩⟩
theorem y_f__law_untold_lowered : FnAt K mg 114 "_law_untold_lowered" := by
  obtain ⟨fd, F⟩ := S.def_ 57 (d := HT.dD 114 "_law_untold_lowered") rfl
  exact ⟨⟨_, fd, F, He.glo_ok X G (S.fact 100 (f := .glo "_law_untold_lowered") rfl)⟩⟩
theorem y_f__law_strange : FnAt K mg 115 "_law_strange" := by
  obtain ⟨fd, F⟩ := S.def_ 58 (d := HT.dD 115 "_law_strange") rfl
  exact ⟨⟨_, fd, F, He.glo_ok X G (S.fact 101 (f := .glo "_law_strange") rfl)⟩⟩
theorem y_f__law_twin : FnAt K mg 116 "_law_twin" := by
  obtain ⟨fd, F⟩ := S.def_ 59 (d := HT.dD 116 "_law_twin") rfl
  exact ⟨⟨_, fd, F, He.glo_ok X G (S.fact 102 (f := .glo "_law_twin") rfl)⟩⟩
theorem y_f__law_couples : FnAt K mg 117 "_law_couples" := by
  obtain ⟨fd, F⟩ := S.def_ 60 (d := HT.dD 117 "_law_couples") rfl
  exact ⟨⟨_, fd, F, He.glo_ok X G (S.fact 103 (f := .glo "_law_couples") rfl)⟩⟩
theorem y_f__law_small_rows : FnAt K mg 118 "_law_small_rows" := by
  obtain ⟨fd, F⟩ := S.def_ 61 (d := HT.dD 118 "_law_small_rows") rfl
  exact ⟨⟨_, fd, F, He.glo_ok X G (S.fact 104 (f := .glo "_law_small_rows") rfl)⟩⟩
theorem y_f__law_small_book : FnAt K mg 119 "_law_small_book" := by
  obtain ⟨fd, F⟩ := S.def_ 62 (d := HT.dD 119 "_law_small_book") rfl
  exact ⟨⟨_, fd, F, He.glo_ok X G (S.fact 105 (f := .glo "_law_small_book") rfl)⟩⟩
theorem y_f__law_small_made : FnAt K mg 120 "_law_small_made" := by
  obtain ⟨fd, F⟩ := S.def_ 63 (d := HT.dD 120 "_law_small_made") rfl
  exact ⟨⟨_, fd, F, He.glo_ok X G (S.fact 106 (f := .glo "_law_small_made") rfl)⟩⟩
theorem y_f__law_refused : FnAt K mg 121 "_law_refused" := by
  obtain ⟨fd, F⟩ := S.def_ 64 (d := HT.dD 121 "_law_refused") rfl
  exact ⟨⟨_, fd, F, He.glo_ok X G (S.fact 107 (f := .glo "_law_refused") rfl)⟩⟩
theorem y_f__law_more_letters : FnAt K mg 122 "_law_more_letters" := by
  obtain ⟨fd, F⟩ := S.def_ 65 (d := HT.dD 122 "_law_more_letters") rfl
  exact ⟨⟨_, fd, F, He.glo_ok X G (S.fact 108 (f := .glo "_law_more_letters") rfl)⟩⟩
theorem y_f__law_turned_letters : FnAt K mg 123 "_law_turned_letters" := by
  obtain ⟨fd, F⟩ := S.def_ 66 (d := HT.dD 123 "_law_turned_letters") rfl
  exact ⟨⟨_, fd, F, He.glo_ok X G (S.fact 109 (f := .glo "_law_turned_letters") rfl)⟩⟩
theorem y_f__law_more_tests : FnAt K mg 124 "_law_more_tests" := by
  obtain ⟨fd, F⟩ := S.def_ 67 (d := HT.dD 124 "_law_more_tests") rfl
  exact ⟨⟨_, fd, F, He.glo_ok X G (S.fact 110 (f := .glo "_law_more_tests") rfl)⟩⟩
theorem y_f__law_turned_tests : FnAt K mg 125 "_law_turned_tests" := by
  obtain ⟨fd, F⟩ := S.def_ 68 (d := HT.dD 125 "_law_turned_tests") rfl
  exact ⟨⟨_, fd, F, He.glo_ok X G (S.fact 111 (f := .glo "_law_turned_tests") rfl)⟩⟩
theorem y_f__law_couples_in_form : FnAt K mg 126 "_law_couples_in_form" := by
  obtain ⟨fd, F⟩ := S.def_ 69 (d := HT.dD 126 "_law_couples_in_form") rfl
  exact ⟨⟨_, fd, F, He.glo_ok X G (S.fact 112 (f := .glo "_law_couples_in_form") rfl)⟩⟩
theorem y_f_law : FnAt K mg 127 "law" := by
  obtain ⟨fd, F⟩ := S.def_ 70 (d := HT.dD 127 "law") rfl
  exact ⟨⟨_, fd, F, He.glo_ok X G (S.fact 113 (f := .glo "law") rfl)⟩⟩
theorem y_m_len : mg "len" = none := He.free_ok X G (S.fact 28 (f := .free "len") rfl)
theorem y_m_range : mg "range" = none := He.free_ok X G (S.fact 29 (f := .free "range") rfl)
theorem y_m_isinstance : mg "isinstance" = none := He.free_ok X G (S.fact 30 (f := .free "isinstance") rfl)
theorem y_m_int : mg "int" = none := He.free_ok X G (S.fact 31 (f := .free "int") rfl)
theorem y_m_list : mg "list" = none := He.free_ok X G (S.fact 32 (f := .free "list") rfl)
theorem y_m_tuple : mg "tuple" = none := He.free_ok X G (S.fact 33 (f := .free "tuple") rfl)
theorem y_m_sorted : mg "sorted" = none := He.free_ok X G (S.fact 34 (f := .free "sorted") rfl)
theorem y_m_sum : mg "sum" = none := He.free_ok X G (S.fact 35 (f := .free "sum") rfl)
theorem y_m_max : mg "max" = none := He.free_ok X G (S.fact 36 (f := .free "max") rfl)
theorem y_m_min : mg "min" = none := He.free_ok X G (S.fact 37 (f := .free "min") rfl)
theorem y_m_abs : mg "abs" = none := He.free_ok X G (S.fact 38 (f := .free "abs") rfl)
theorem y_m_all : mg "all" = none := He.free_ok X G (S.fact 39 (f := .free "all") rfl)
theorem y_m_bool : mg "bool" = none := He.free_ok X G (S.fact 40 (f := .free "bool") rfl)
theorem y_m_str : mg "str" = none := He.free_ok X G (S.fact 41 (f := .free "str") rfl)
theorem y_cls_Lot : Cls K (He.ga K "Lot") := He.cls_ok (S.fact 4 (f := .cls "Lot") rfl)
theorem y_cls_Book : Cls K (He.ga K "Book") := He.cls_ok (S.fact 5 (f := .cls "Book") rfl)
theorem y_no_Lot_low : NoAttr K (He.ga K "Lot") "low" := He.noat_ok (S.fact 14 (f := .noat "Lot" "low") rfl)
theorem y_no_Lot_high : NoAttr K (He.ga K "Lot") "high" := He.noat_ok (S.fact 15 (f := .noat "Lot" "high") rfl)
theorem y_no_Lot_inside : NoAttr K (He.ga K "Lot") "inside" := He.noat_ok (S.fact 16 (f := .noat "Lot" "inside") rfl)
theorem y_no_Lot_modulus : NoAttr K (He.ga K "Lot") "modulus" := He.noat_ok (S.fact 17 (f := .noat "Lot" "modulus") rfl)
theorem y_no_Lot_ups : NoAttr K (He.ga K "Lot") "ups" := He.noat_ok (S.fact 18 (f := .noat "Lot" "ups") rfl)
theorem y_no_Lot_downs : NoAttr K (He.ga K "Lot") "downs" := He.noat_ok (S.fact 19 (f := .noat "Lot" "downs") rfl)
theorem y_no_Book_letters : NoAttr K (He.ga K "Book") "letters" := He.noat_ok (S.fact 20 (f := .noat "Book" "letters") rfl)
theorem y_no_Book_tests : NoAttr K (He.ga K "Book") "tests" := He.noat_ok (S.fact 21 (f := .noat "Book" "tests") rfl)
theorem y_no_Book_joins : NoAttr K (He.ga K "Book") "joins" := He.noat_ok (S.fact 22 (f := .noat "Book" "joins") rfl)
theorem y_no_Book_meanings : NoAttr K (He.ga K "Book") "meanings" := He.noat_ok (S.fact 23 (f := .noat "Book" "meanings") rfl)
theorem y_no_Book_deeds : NoAttr K (He.ga K "Book") "deeds" := He.noat_ok (S.fact 24 (f := .noat "Book" "deeds") rfl)
theorem y_no_Book_so : NoAttr K (He.ga K "Book") "so" := He.noat_ok (S.fact 25 (f := .noat "Book" "so") rfl)
theorem y_no_Book_not_so : NoAttr K (He.ga K "Book") "not_so" := He.noat_ok (S.fact 26 (f := .noat "Book" "not_so") rfl)
theorem y_no_Book_first : NoAttr K (He.ga K "Book") "first" := He.noat_ok (S.fact 27 (f := .noat "Book" "first") rfl)
theorem y_g_MOST_CORE : ∃ u, mg "MOST_CORE" = some u ∧ RelV (.int 20000) u := by
  obtain ⟨t, h⟩ := He.int_ok X G (S.fact 10 (f := .int "MOST_CORE" 20000) rfl)
  exact ⟨_, h, t, rfl⟩
theorem y_g_MOST_MODULUS : ∃ u, mg "MOST_MODULUS" = some u ∧ RelV (.int 10080) u := by
  obtain ⟨t, h⟩ := He.int_ok X G (S.fact 11 (f := .int "MOST_MODULUS" 10080) rfl)
  exact ⟨_, h, t, rfl⟩
theorem y_bare : ∃ p g fd, PropOf K (He.ga K "Lot") "bare" p g ∧ FunD K "bare" "Lot.bare" (defArgs (inClass (top 15) 3)) (defBody (inClass (top 15) 3)) (defScope (inClass (top 15) 3)) [] [] g fd := by
  obtain ⟨fd, F⟩ := HT.xFun (K := K) xc.2 (HT.ba2 (HT.ba2 (HT.ba2 xc.1).2).2).1
  exact ⟨_, _, fd, HT.xPropOf (HT.ba2 (HT.ba2 xc.1).2).1, F⟩
theorem y_mk_Lot : MkAt K (He.ga K "Lot") 15 "Lot.__init__" := by
  obtain ⟨fd, F⟩ := S.def_ 71 rfl
  exact ⟨⟨_, fd, F, He.mkr_ok (S.fact 6 (f := .mkr "Lot") rfl)⟩⟩
theorem y_mk_Book : MkAt K (He.ga K "Book") 62 "Book.__init__" := by
  obtain ⟨fd, F⟩ := S.def_ 72 rfl
  exact ⟨⟨_, fd, F, He.mkr_ok (S.fact 7 (f := .mkr "Book") rfl)⟩⟩
theorem y_g_lcm : mg "lcm" = some (.builtin "math.lcm") := PySem.W.mg_of X G (of_decide_eq_true (HT.ba2 xc.1).1)
theorem y_g_Lot : mg "Lot" = some (.ref (He.ga K "Lot")) := He.glo_ok X G (S.fact 0 (f := .glo "Lot") rfl)
theorem y_g_Book : mg "Book" = some (.ref (He.ga K "Book")) := He.glo_ok X G (S.fact 1 (f := .glo "Book") rfl)
theorem y_isLot : C8.InsC K (He.ga K "Lot") := HT.xInsC (He.cls_ok (S.fact 4 (f := .cls "Lot") rfl)) (HT.ba2 (HT.ba2 (HT.ba2 (HT.ba2 xc.1).2).2).2).1
theorem y_txt : Txt K mg (He.ga K "Lot") (He.ga K "Book") := ⟨y_f_least_period X G S xc, y_f_flag_row X G S xc, y_f_shape_lot X G S xc, y_f_told_by X G S xc, y_f_rim_numbers X G S xc, y_f_empty_lot X G S xc, y_f_just_lot X G S xc, y_f_truth_row X G S xc, y_f_common_modulus X G S xc, y_f_within X G S xc, y_f_whole_within X G S xc, y_f_check_letter X G S xc, y_f_check_test X G S xc, y_f_is_word X G S xc, y_f_is_word_row X G S xc, y_f_row_rises X G S xc, y_f_checked_letters X G S xc, y_f_checked_tests X G S xc, y_f_checked_joins X G S xc, y_f_checked_meanings X G S xc, y_f_checked_rows X G S xc, y_f_join_two X G S xc, y_f_letter_place X G S xc, y_f_test_place X G S xc, y_f_deed_word X G S xc, y_f_test_word X G S xc, y_f_step_word X G S xc, y_f_check_same_alphabet X G S xc, y_f_steps_of_book X G S xc, y_f_put_line X G S xc, y_f_put_killed X G S xc, y_f_lead_line X G S xc, y_f_couple_lines X G S xc, y_f_couples_told X G S xc, y_f_couple_program X G S xc, y_f_finer X G S xc, y_f_alike X G S xc, y_f_told_match X G S xc, y_f__law_digits X G S xc, y_f__law_cell X G S xc, y_f__law_letter X G S xc, y_f__law_test X G S xc, y_f__law_alphabet X G S xc, y_f__law_join_all X G S xc, y_f__law_below X G S xc, y_f__law_led_up X G S xc, y_f__law_told X G S xc, y_f__law_whole X G S xc, y_f__law_steps X G S xc, y_f__law_words X G S xc, y_f__law_half X G S xc, y_f__law_doubled_row X G S xc, y_f__law_doubled X G S xc, y_f__law_renamed X G S xc, y_f__law_with_rows X G S xc, y_f__law_lifted X G S xc, y_f__law_led_anew X G S xc, y_f__law_untold_lowered X G S xc, y_f__law_strange X G S xc, y_f__law_twin X G S xc, y_f__law_couples X G S xc, y_f__law_small_rows X G S xc, y_f__law_small_book X G S xc, y_f__law_small_made X G S xc, y_f__law_refused X G S xc, y_f__law_more_letters X G S xc, y_f__law_turned_letters X G S xc, y_f__law_more_tests X G S xc, y_f__law_turned_tests X G S xc, y_f__law_couples_in_form X G S xc, y_f_law X G S xc, y_m_len X G S xc, y_m_range X G S xc, y_m_isinstance X G S xc, y_m_int X G S xc, y_m_list X G S xc, y_m_tuple X G S xc, y_m_sorted X G S xc, y_m_sum X G S xc, y_m_max X G S xc, y_m_min X G S xc, y_m_abs X G S xc, y_m_all X G S xc, y_m_bool X G S xc, y_m_str X G S xc, y_cls_Lot X G S xc, y_cls_Book X G S xc, y_no_Lot_low X G S xc, y_no_Lot_high X G S xc, y_no_Lot_inside X G S xc, y_no_Lot_modulus X G S xc, y_no_Lot_ups X G S xc, y_no_Lot_downs X G S xc, y_no_Book_letters X G S xc, y_no_Book_tests X G S xc, y_no_Book_joins X G S xc, y_no_Book_meanings X G S xc, y_no_Book_deeds X G S xc, y_no_Book_so X G S xc, y_no_Book_not_so X G S xc, y_no_Book_first X G S xc, y_g_MOST_CORE X G S xc, y_g_MOST_MODULUS X G S xc, y_bare X G S xc, y_mk_Lot X G S xc, y_mk_Book X G S xc, y_g_lcm X G S xc, y_g_Lot X G S xc, y_g_Book X G S xc, y_isLot X G S xc⟩
theorem y_txe : TxE K mg (He.ga K "OtherAlphabet") (He.ga K "BookError") := by
  obtain ⟨q, kp, sub, ty⟩ := He.exc_ok (S.fact 8 (f := .exc "OtherAlphabet") rfl)
  have x4 := HT.ba2 (HT.ba2 (HT.ba2 (HT.ba2 xc.1).2).2).2
  obtain ⟨e1, e2, e3⟩ := HT.xExcC x4.1 x4.2
  exact ⟨q, He.glo_ok X G (S.fact 2 (f := .glo "OtherAlphabet") rfl), kp, sub, ty, He.exm_ok (S.fact 9 (f := .exm "OtherAlphabet" "OtherAlphabet" true) rfl), e1, He.glo_ok X G (S.fact 3 (f := .glo "BookError") rfl), e2, e3, He.free_ok X G (S.fact 42 (f := .free "ValueError") rfl)⟩
end
end DL
end

section
set_option Elab.async false
set_option linter.all false
set_option maxRecDepth 100000
set_option maxHeartbeats 0
namespace DL
open PySem PySem.Spec PyProof.Rows L2
theorem y_facts {P : PySem.Program} {w : World} {K : PySem.W.Frag} {h : Heap} {mg : Str → Option Value} {f : Addr} (X : K.In h) (G : h.Ns mainGlobals mg) (hfa : mg ("law" : Str) = some (.ref f)) (c : HT.obK K = HT.vlK) :
    ∃ fd : FuncData, (∀ (s : Shared) (v : Value), BindsTo s fd ⟨[v], []⟩ [("_law_script", v)]) ∧ ∀ base : Heap, K.In base → base.Ns mainGlobals mg → FnOk P w K mg base CX0 8 f fd ["_law_script"] (sp_lawR K) := by
  have S : He.SaysD HT.fa HT.fn K := congrArg (fun z : HT.AX => z.1) c
  have xc : HT.xB K = true ∧ HT.fvG K = HT.fvV := ⟨congrArg (fun z : HT.AX => z.2.1) c, congrArg (fun z : HT.AX => z.2.2) c⟩
  have T := y_txt X G S xc
  have TE := y_txe X G S xc
  obtain ⟨f2, fd, F, hm⟩ := T.f_law.ex
  have e := hfa.symm.trans hm
  cases e
  have b := FunD.bindsA (ps := ["_law_script"]) F fun _ _ _ _ _ _ us hl => match us, hl with | [_], _ => rfl
  exact ⟨fd, fun s v => b s [v] rfl, fun base _ _ => fn_law T TE F⟩
end DL
open PySem PySem.W PySem.Calls PyProof.Rows
theorem PySem.Challenge.cw_truebooks_k36_whole_couples_are_the_leas_holds : PySem.Challenge.rw_truebooks_k36_whole_couples_are_the_leas.Holds := by
  w_on; o_law
  refine HandSHeadRun.head_imp (r := OpenLaw.row PySem.Challenge.rw_truebooks_k36_whole_couples_are_the_leas) (q := HT.qv) (H := HT.hk) (ob := HT.ob) (M := 7000) (loose := HT.loose) (d := HandSHeadRun.topDef (OpenLaw.row PySem.Challenge.rw_truebooks_k36_whole_couples_are_the_leas).prog 127) (kwd := []) HT.ob_eq
    HT.run (by kernel_rfl) (by kernel_rfl) (by kernel_rfl) (by rfl) (by first | assumption | decide +kernel) (by decide +kernel) ⟨rfl, rfl, rfl, rfl, rfl, by decide +kernel⟩ ?hw ?hc
  case hw => w_witness2
  case hc =>
    refine L2.walk_ofE (l := PySem.Challenge.rw_truebooks_k36_whole_couples_are_the_leas) (n := 63) (k := 8) (x := "_law_script") (CX := L2.CX0) rfl (by decide) (by kernel_rfl) ⟨rfl, by decide, by decide⟩ ?F (fun _ _ _ _ z => z)
    intro w mg fa h Y G hmg0
    obtain ⟨K, KX, c⟩ := Y
    have hmg : mg ("law" : PySem.Str) = some (.ref fa) := by
      have e : (HandSHeadRun.topDef (OpenLaw.row PySem.Challenge.rw_truebooks_k36_whole_couples_are_the_leas).prog 127).name = ("law" : PySem.Str) := by kernel_rfl
      rw [← e]
      exact hmg0
    obtain ⟨fd, hb, hF⟩ := DL.y_facts (P := (PySem.Challenge.rw_truebooks_k36_whole_couples_are_the_leas).prog) (w := w) KX G hmg c
    exact ⟨K, fd, DL.sp_lawR K, KX, hb, fun H a ns hl _ hS => ⟨a, ns, rfl, hS, fun _ => rfl⟩, hF⟩
end
