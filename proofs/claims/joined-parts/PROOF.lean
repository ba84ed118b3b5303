import PyProof.Rows.All
import Wide.All
import OpenK.AllK
import Wide.FinOn
import HandS.ForMost
import HandS.Defaults
import HandS.HeadHook4
import KE.KStateDown
import HandS.Ends
import HandS.More
import HandS.Words
import HandS.WordsExc
import HandS.Head0
import HandS.Head1
import HandS.Head2
import HandS.HeadEnd
import HandS.HeadHook1
import HandS.HeadHook2
import HandS.HeadHook3
import HandS.HeadWalk
import HandS.Head3
import HandS.Gcd
import HandS.Wide
import HandS.OwnEq
import HandS.SlotsOwn
import HandS.Codes
import HandS.Zip
import HandS.Conv
import HandS.TupAny
import HandS.Dict
import KE.KDictPairs
import KE.KIndexOf
import HandS.Lambda
import HandS.SortKw
import HandS.RaiseMore
import KE.SortKeyHeap
import HandS.WideBits
import HandS.IsInst
import HandS.Style
import PySem.Challenge.RW_plumbnet_k63_whole_the_form_of_joined_pa
set_option Elab.async false
set_option linter.all false
section
set_option maxRecDepth 100000
namespace PN
open PySem L2
/-! ### the text by places -/
def top (i : Nat) : Stmt := PySem.Challenge.pw_plumbnet_k63_whole_the_form_of_joined_pa.main.body.getD i (.Pass ⟨0, 0, 0, 0⟩)
abbrev sRInit : Stmt := inClass (top 15) 0
abbrev sRAdd : Stmt := inClass (top 15) 1
abbrev sRSub : Stmt := inClass (top 15) 2
abbrev sRMul : Stmt := inClass (top 15) 3
abbrev sREq : Stmt := inClass (top 15) 6
abbrev sROver : Stmt := inClass (top 15) 12
abbrev sRdInit : Stmt := inClass (top 20) 0
abbrev sTermsFit : Stmt := top 21
abbrev sBInit : Stmt := inClass (top 22) 0
abbrev sBReq : Stmt := inClass (top 22) 2
abbrev sBPoint : Stmt := inClass (top 22) 3
abbrev sBReading : Stmt := inClass (top 22) 4
abbrev sRowOf : Stmt := top 23
abbrev sDot : Stmt := top 25
abbrev sScale : Stmt := top 26
abbrev sPlus : Stmt := top 27
abbrev sMinus : Stmt := top 28
abbrev sZero : Stmt := top 29
abbrev sUnit : Stmt := top 30
abbrev sTranspose : Stmt := top 32
abbrev sApply : Stmt := top 33
abbrev sProduct : Stmt := top 34
abbrev sIdentity : Stmt := top 35
abbrev sZeros : Stmt := top 36
abbrev sOuter : Stmt := top 37
abbrev sSumOf : Stmt := top 38
abbrev sScaled : Stmt := top 39
abbrev sPivotRow : Stmt := top 41
abbrev sCleared : Stmt := top 42
abbrev sReduced : Stmt := top 43
abbrev sInverseOf : Stmt := top 45
abbrev sPseudo : Stmt := top 46
abbrev sAddTerm : Stmt := top 47
abbrev sFInit : Stmt := inClass (top 49) 0
abbrev sReqPoints : Stmt := top 50
abbrev sSumsOf : Stmt := top 51
abbrev sBlock : Stmt := top 52
abbrev sPick : Stmt := top 53
abbrev sPlacesOf : Stmt := top 54
abbrev sBorderForm : Stmt := top 55
abbrev sSpread : Stmt := top 56
abbrev sEntry : Stmt := top 57
abbrev sJoin : Stmt := top 58
abbrev sLTape : Stmt := top 60
abbrev sLDraw : Stmt := top 61
abbrev sLTake : Stmt := top 62
abbrev sLCommon : Stmt := top 63
abbrev sLPair : Stmt := top 64
abbrev sLNumber : Stmt := top 65
abbrev sLMade : Stmt := top 66
abbrev sLTerms : Stmt := top 67
abbrev sLSurvey : Stmt := top 68
abbrev sLBook : Stmt := top 69
abbrev sLParts : Stmt := top 70
abbrev sLSame : Stmt := top 71
abbrev sLaw : Stmt := top 72

/-- a def of the top, a method -/
abbrev dG (x : Str) (st : Stmt) : He.DefD := ⟨(x, none), x, x, defArgs st, defBody st, defScope st, [], []⟩
abbrev dM (C m q : Str) (st : Stmt) : He.DefD := ⟨(C, some m), m, q, defArgs st, defBody st, defScope st, [], []⟩
def fn : List He.DefD := [
  ⟨("Ratio", some "__init__"), "__init__", "Ratio.__init__", defArgs sRInit, defBody sRInit, defScope sRInit, [.int 1], []⟩,
  dM "Ratio" "__add__" "Ratio.__add__" sRAdd, dM "Ratio" "__sub__" "Ratio.__sub__" sRSub, dM "Ratio" "__mul__" "Ratio.__mul__" sRMul,
  dM "Ratio" "__eq__" "Ratio.__eq__" sREq, dM "Ratio" "over" "Ratio.over" sROver,
  dM "Reading" "__init__" "Reading.__init__" sRdInit, dG "terms_fit" sTermsFit,
  dM "Book" "__init__" "Book.__init__" sBInit, dM "Book" "require_point" "Book.require_point" sBReq, dM "Book" "add_point" "Book.add_point" sBPoint, dM "Book" "add_reading" "Book.add_reading" sBReading,
  dG "row_of" sRowOf, dG "dot" sDot, dG "scale" sScale, dG "plus" sPlus, dG "minus" sMinus, dG "zero" sZero, dG "unit" sUnit,
  dG "transpose" sTranspose, dG "apply" sApply, dG "product" sProduct, dG "identity" sIdentity, dG "zeros" sZeros, dG "outer" sOuter, dG "sum_of" sSumOf, dG "scaled" sScaled,
  dG "pivot_row" sPivotRow, dG "cleared" sCleared, dG "reduced" sReduced, dG "inverse_of" sInverseOf, dG "pseudo_inverse" sPseudo, dG "add_term" sAddTerm,
  dM "Form" "__init__" "Form.__init__" sFInit, dG "require_points" sReqPoints, dG "sums_of" sSumsOf, dG "block" sBlock, dG "pick" sPick, dG "places_of" sPlacesOf,
  dG "border_form" sBorderForm, dG "spread" sSpread, dG "entry" sEntry, dG "join" sJoin,
  dG "_law_tape" sLTape, dG "_law_draw" sLDraw, dG "_law_take" sLTake, dG "_law_common" sLCommon, dG "_law_pair" sLPair, dG "_law_number" sLNumber, dG "_law_made" sLMade,
  dG "_law_terms" sLTerms, dG "_law_survey" sLSurvey, dG "_law_book" sLBook, dG "_law_parts" sLParts, dG "_law_same" sLSame, dG "law" sLaw]
def clsNames : List Str := ["Ratio", "Reading", "Book", "Form"]
def gloNames : List Str := ["terms_fit", "row_of", "dot", "scale", "plus", "minus", "zero", "unit", "transpose", "apply", "product", "identity", "zeros", "outer", "sum_of", "scaled",
  "pivot_row", "cleared", "reduced", "inverse_of", "pseudo_inverse", "add_term", "require_points", "sums_of", "block", "pick", "places_of", "border_form", "spread", "entry", "join"]
def gloNames2 : List Str := ["_law_tape", "_law_draw", "_law_take", "_law_common", "_law_pair", "_law_number", "_law_made", "_law_terms", "_law_survey", "_law_book", "_law_parts", "_law_same", "law"]
def freeNames : List Str := ["len", "tuple", "range", "zip", "enumerate", "list", "dict", "sorted", "str", "int", "abs", "isinstance"]
def fa : List He.Fa := clsNames.map He.Fa.glo ++ gloNames.map He.Fa.glo ++ gloNames2.map He.Fa.glo ++ freeNames.map He.Fa.free ++ clsNames.map He.Fa.cls ++ clsNames.map He.Fa.mkr
  ++ [.int "MOST_POINTS" 12, .int "MOST_READINGS" 24, .int "MOST_COEFFICIENT" 9,
   .noat "Ratio" "top", .noat "Ratio" "bottom", .noat "Reading" "name", .noat "Reading" "terms", .noat "Reading" "value", .noat "Reading" "weight",
   .noat "Book" "points", .noat "Book" "approximations", .noat "Book" "readings", .noat "Form" "names", .noat "Form" "matrix", .noat "Form" "vector", .noat "Form" "constant",
   .meth "Ratio" "__add__", .meth "Ratio" "__sub__", .meth "Ratio" "__mul__", .meth "Ratio" "__eq__", .meth "Ratio" "over",
   .meth "Book" "require_point", .meth "Book" "add_point", .meth "Book" "add_reading"]
def tf : List He.Defn := [("border_form", none), ("join", none)]
def cBF (K : PySem.W.Frag) : Addr := He.codeOf K ("border_form", none)
def cJ (K : PySem.W.Frag) : Addr := He.codeOf K ("join", none)
def ex2 (K : PySem.W.Frag) : Bool := !decide (He.tabOf K (cBF K) = He.tabOf K (cJ K)) && (He.eqO (PySem.W.findIn K (.ref (He.ga K "Ratio")) "__class__") (some (some (.builtin "object.__class__"))) &&
  (He.eqO (PySem.W.specialIn K (.builtin "object.__class__") "__get__") (some (some (.builtin "getset_descriptor.__get__"))) && (decide (PySem.W.takesIn K (.builtin "object.__class__") = some true) &&
    decide (PySem.W.mroIn K (He.ga K "Ratio") (.type "object") = some true))))
def ex (K : PySem.W.Frag) : Bool := PySem.W.selfFirst K (He.ga K "Ratio") && (He.eqO (PySem.W.nsIn K mainGlobals "gcd") (some (some (.builtin "math.gcd"))) && ex2 K)
end PN
end
section
set_option maxRecDepth 100000
set_option maxHeartbeats 0
namespace PN
open PySem PySem.Spec PyProof.Rows L2
abbrev R : PySem.W.OpenRow := PySem.W.OpenLaw.row PySem.Challenge.rw_plumbnet_k63_whole_the_form_of_joined_pa
abbrev hk : PySem.W.Hook := He.hookX 5 fa fn [] tf ex
def ob (s : PySem.W.SharedT) : He.AlX := He.obsX 5 fa fn [] tf ex (HandSHeadRun.getT s)
theorem ob_eq (s : PySem.W.SharedT) : ob s = hk.obs s.abs := He.obsX_eq (HandSHeadRun.getT_eq s)
def names1 : List Str := ["_wall", "__name__", "SurveyError", "BadNumber", "ZeroDivisor", "UnknownPoint", "UnknownReading", "DuplicateName", "BadReading", "LimitReached", "MOST_DIGITS", "DIGITS", "read_digits", "Ratio", "MOST_POINTS", "MOST_READINGS", "MOST_COEFFICIENT", "Reading", "terms_fit"]
def names2 : List Str := ["Book", "row_of", "dot", "scale", "plus", "minus", "zero", "unit", "transpose", "apply", "product", "identity", "zeros", "outer", "sum_of", "scaled", "pivot_row", "cleared", "reduced", "inverse_of"]
def names3 : List Str := ["pseudo_inverse", "add_term", "Form", "require_points", "sums_of", "block", "pick", "places_of", "border_form", "spread", "entry", "join", "_law_tape", "_law_draw", "_law_take", "_law_common", "_law_pair", "_law_number", "_law_made", "_law_terms"]
def names4 : List Str := ["_law_survey", "_law_book", "_law_parts", "_law_same"]
def names : List Str := names1 ++ (names2 ++ (names3 ++ (names4)))
noncomputable abbrev whl (w : World) := HandSHeadRun.wholeF (fun p => HandSHeadRun.stepQ (HandSHeadRun.denQ HandSHeadRun.tabQ) p w) HandSHeadRun.fenceQ 6000 R.prog
abbrev kk (s : PySem.W.SharedT) : PySem.W.Frag := He.frT (HandSHeadRun.getT s) (He.asD (HandSHeadRun.getT s) 5)
theorem runA (w : World) : (whl w).map (fun x => (HandSHeadRun.looksF R.prog x.1.heap x.2.abs, HandSHeadRun.seenQ (PySem.W.view R.prog [0, 72]) names (importedModules R.prog.main.body) (fun s => PySem.W.xlAt (PySem.W.view R.prog [0, 72]) [] s && PySem.W.recOk R.toRowW.records s) x.2.abs)) = some (true, PySem.W.openGood (PySem.W.view R.prog [0, 72]) names) := by
  kernel_rfl
theorem runB (w : World) : (whl w).map (fun x => ((fa.all fun f => f.ok (kk x.2)), ex (kk x.2) && He.tabsB (HandSHeadRun.getT x.2) tf (kk x.2))) = some (true, true) := by
  kernel_rfl
theorem runC (w : World) : (whl w).map (fun x => ((fn.all fun d => d.ok (kk x.2)), fn.map fun d => He.fnW (kk x.2) d.at_)) = some (true, fn.map He.DefD.val) := by
  kernel_rfl
theorem run (w : World) : HandSHeadRun.RunEqI R (PySem.W.view R.prog [0, 72]) hk ob 6000 names w := by
  have a := runA w
  have b := runB w
  have c := runC w
  unfold HandSHeadRun.RunEqI
  show (whl w).map _ = _
  cases e : whl w with
  | none => rw [e] at a; cases a
  | some x =>
    rw [e] at a b c
    have a' := Option.some.inj a
    have b' := Option.some.inj b
    have c' := Option.some.inj c
    have a1 := (Prod.mk.inj a').1
    have a2 := (Prod.mk.inj a').2
    have b1 := (Prod.mk.inj b').1
    have b2 := (Prod.mk.inj b').2
    have c1 := (Prod.mk.inj c').1
    have c2 := (Prod.mk.inj c').2
    refine congrArg some (Prod.ext a1 (Prod.ext a2 ?_))
    show ((((fa.all fun f => f.ok (kk x.2)) && fn.all fun d => d.ok (kk x.2), fn.map fun d => He.fnW (kk x.2) d.at_), ([] : List (Option (List (Option (Str × Int)))))), ex (kk x.2) && He.tabsB (HandSHeadRun.getT x.2) tf (kk x.2)) = (((true, fn.map He.DefD.val), []), true)
    rw [b1, b2, c1, c2]
    rfl
end PN
end
section
set_option maxRecDepth 100000
set_option maxHeartbeats 4000000
namespace PN
open PySem PySem.Spec PyProof.Rows L2
/-! ### what the top has written, by names -/
structure TX (w : World) (K : PySem.W.Frag) (mg : Str → Option Value) : Prop where
  ex : ∃ h : Heap, K.In h ∧ h.Ns mainGlobals mg ∧ He.SaysX fa fn [] tf ex w h K
section
variable {w : World} {K : PySem.W.Frag} {mg : Str → Option Value}
theorem TX.fact (T : TX w K mg) (i : Nat) {f : He.Fa} (h : fa[i]? = some f := by rfl) : f.ok K = true := by
  obtain ⟨hp, X, G, c⟩ := T.ex
  exact c.t.d.fact i h
theorem TX.glo (T : TX w K mg) (i : Nat) {x : Str} (h : fa[i]? = some (.glo x) := by rfl) : mg x = some (.ref (He.ga K x)) := by
  obtain ⟨hp, X, G, c⟩ := T.ex
  exact He.glo_ok X G (c.t.d.fact i h)
theorem TX.free (T : TX w K mg) (i : Nat) {x : Str} (h : fa[i]? = some (.free x) := by rfl) : mg x = none := by
  obtain ⟨hp, X, G, c⟩ := T.ex
  exact He.free_ok X G (c.t.d.fact i h)
theorem TX.int (T : TX w K mg) (i : Nat) {x : Str} {j : Int} (h : fa[i]? = some (.int x j) := by rfl) : ∃ t, mg x = some (.int j t) := by
  obtain ⟨hp, X, G, c⟩ := T.ex
  exact He.int_ok X G (c.t.d.fact i h)
theorem TX.dfn (T : TX w K mg) (i : Nat) {d : He.DefD} (h : fn[i]? = some d := by rfl) : ∃ fd, FunD K d.name d.qual d.params d.body d.scope (d.dvs K) (d.kws K) (He.fAd K d.at_) fd := by
  obtain ⟨hp, X, G, c⟩ := T.ex
  exact c.t.d.def_ i h
theorem TX.exs (T : TX w K mg) : PySem.W.selfFirst K (He.ga K "Ratio") = true ∧ He.eqO (PySem.W.nsIn K mainGlobals "gcd") (some (some (.builtin "math.gcd"))) = true ∧ ex2 K = true := by
  obtain ⟨hp, X, G, c⟩ := T.ex
  have h := He.ba (show (PySem.W.selfFirst K (He.ga K "Ratio") && (_ && _)) = true from c.more)
  exact ⟨h.1, He.ba h.2⟩
theorem TX.first (T : TX w K mg) : PySem.W.selfFirst K (He.ga K "Ratio") = true := T.exs.1
theorem TX.gcd (T : TX w K mg) : mg "gcd" = some (.builtin "math.gcd") := by
  obtain ⟨hp, X, G, c⟩ := T.ex
  exact PySem.W.mg_of X G (He.eqO_ok T.exs.2.1)
theorem TX.ex2 (T : TX w K mg) : He.tabOf K (cBF K) ≠ He.tabOf K (cJ K) ∧ PySem.W.findIn K (.ref (He.ga K "Ratio")) "__class__" = some (some (.builtin "object.__class__")) ∧ PySem.W.specialIn K (.builtin "object.__class__") "__get__" = some (some (.builtin "getset_descriptor.__get__")) ∧
    PySem.W.takesIn K (.builtin "object.__class__") = some true ∧ PySem.W.mroIn K (He.ga K "Ratio") (.type "object") = some true := by
  have h := T.exs.2.2
  unfold PN.ex2 at h
  have h1 := He.ba h
  have h2 := He.ba h1.2
  have h3 := He.ba h2.2
  have h4 := He.ba h3.2
  refine ⟨?_, He.eqO_ok h2.1, He.eqO_ok h3.1, of_decide_eq_true h4.1, of_decide_eq_true h4.2⟩
  have h5 := h1.1
  simpa using h5
theorem g_Ratio (T : TX w K mg) : mg "Ratio" = some (.ref (He.ga K "Ratio")) := T.glo 0
theorem g_Reading (T : TX w K mg) : mg "Reading" = some (.ref (He.ga K "Reading")) := T.glo 1
theorem g_Book (T : TX w K mg) : mg "Book" = some (.ref (He.ga K "Book")) := T.glo 2
theorem g_Form (T : TX w K mg) : mg "Form" = some (.ref (He.ga K "Form")) := T.glo 3
theorem g_terms_fit (T : TX w K mg) : mg "terms_fit" = some (.ref (He.ga K "terms_fit")) := T.glo 4
theorem g_row_of (T : TX w K mg) : mg "row_of" = some (.ref (He.ga K "row_of")) := T.glo 5
theorem g_dot (T : TX w K mg) : mg "dot" = some (.ref (He.ga K "dot")) := T.glo 6
theorem g_scale (T : TX w K mg) : mg "scale" = some (.ref (He.ga K "scale")) := T.glo 7
theorem g_plus (T : TX w K mg) : mg "plus" = some (.ref (He.ga K "plus")) := T.glo 8
theorem g_minus (T : TX w K mg) : mg "minus" = some (.ref (He.ga K "minus")) := T.glo 9
theorem g_zero (T : TX w K mg) : mg "zero" = some (.ref (He.ga K "zero")) := T.glo 10
theorem g_unit (T : TX w K mg) : mg "unit" = some (.ref (He.ga K "unit")) := T.glo 11
theorem g_transpose (T : TX w K mg) : mg "transpose" = some (.ref (He.ga K "transpose")) := T.glo 12
theorem g_apply (T : TX w K mg) : mg "apply" = some (.ref (He.ga K "apply")) := T.glo 13
theorem g_product (T : TX w K mg) : mg "product" = some (.ref (He.ga K "product")) := T.glo 14
theorem g_identity (T : TX w K mg) : mg "identity" = some (.ref (He.ga K "identity")) := T.glo 15
theorem g_zeros (T : TX w K mg) : mg "zeros" = some (.ref (He.ga K "zeros")) := T.glo 16
theorem g_outer (T : TX w K mg) : mg "outer" = some (.ref (He.ga K "outer")) := T.glo 17
theorem g_sum_of (T : TX w K mg) : mg "sum_of" = some (.ref (He.ga K "sum_of")) := T.glo 18
theorem g_scaled (T : TX w K mg) : mg "scaled" = some (.ref (He.ga K "scaled")) := T.glo 19
theorem g_pivot_row (T : TX w K mg) : mg "pivot_row" = some (.ref (He.ga K "pivot_row")) := T.glo 20
theorem g_cleared (T : TX w K mg) : mg "cleared" = some (.ref (He.ga K "cleared")) := T.glo 21
theorem g_reduced (T : TX w K mg) : mg "reduced" = some (.ref (He.ga K "reduced")) := T.glo 22
theorem g_inverse_of (T : TX w K mg) : mg "inverse_of" = some (.ref (He.ga K "inverse_of")) := T.glo 23
theorem g_pseudo_inverse (T : TX w K mg) : mg "pseudo_inverse" = some (.ref (He.ga K "pseudo_inverse")) := T.glo 24
theorem g_add_term (T : TX w K mg) : mg "add_term" = some (.ref (He.ga K "add_term")) := T.glo 25
theorem g_require_points (T : TX w K mg) : mg "require_points" = some (.ref (He.ga K "require_points")) := T.glo 26
theorem g_sums_of (T : TX w K mg) : mg "sums_of" = some (.ref (He.ga K "sums_of")) := T.glo 27
theorem g_block (T : TX w K mg) : mg "block" = some (.ref (He.ga K "block")) := T.glo 28
theorem g_pick (T : TX w K mg) : mg "pick" = some (.ref (He.ga K "pick")) := T.glo 29
theorem g_places_of (T : TX w K mg) : mg "places_of" = some (.ref (He.ga K "places_of")) := T.glo 30
theorem g_border_form (T : TX w K mg) : mg "border_form" = some (.ref (He.ga K "border_form")) := T.glo 31
theorem g_spread (T : TX w K mg) : mg "spread" = some (.ref (He.ga K "spread")) := T.glo 32
theorem g_entry (T : TX w K mg) : mg "entry" = some (.ref (He.ga K "entry")) := T.glo 33
theorem g_join (T : TX w K mg) : mg "join" = some (.ref (He.ga K "join")) := T.glo 34
theorem g__law_tape (T : TX w K mg) : mg "_law_tape" = some (.ref (He.ga K "_law_tape")) := T.glo 35
theorem g__law_draw (T : TX w K mg) : mg "_law_draw" = some (.ref (He.ga K "_law_draw")) := T.glo 36
theorem g__law_take (T : TX w K mg) : mg "_law_take" = some (.ref (He.ga K "_law_take")) := T.glo 37
theorem g__law_common (T : TX w K mg) : mg "_law_common" = some (.ref (He.ga K "_law_common")) := T.glo 38
theorem g__law_pair (T : TX w K mg) : mg "_law_pair" = some (.ref (He.ga K "_law_pair")) := T.glo 39
theorem g__law_number (T : TX w K mg) : mg "_law_number" = some (.ref (He.ga K "_law_number")) := T.glo 40
theorem g__law_made (T : TX w K mg) : mg "_law_made" = some (.ref (He.ga K "_law_made")) := T.glo 41
theorem g__law_terms (T : TX w K mg) : mg "_law_terms" = some (.ref (He.ga K "_law_terms")) := T.glo 42
theorem g__law_survey (T : TX w K mg) : mg "_law_survey" = some (.ref (He.ga K "_law_survey")) := T.glo 43
theorem g__law_book (T : TX w K mg) : mg "_law_book" = some (.ref (He.ga K "_law_book")) := T.glo 44
theorem g__law_parts (T : TX w K mg) : mg "_law_parts" = some (.ref (He.ga K "_law_parts")) := T.glo 45
theorem g__law_same (T : TX w K mg) : mg "_law_same" = some (.ref (He.ga K "_law_same")) := T.glo 46
theorem g_law (T : TX w K mg) : mg "law" = some (.ref (He.ga K "law")) := T.glo 47
theorem n_len (T : TX w K mg) : mg "len" = none := T.free 48
theorem n_tuple (T : TX w K mg) : mg "tuple" = none := T.free 49
theorem n_range (T : TX w K mg) : mg "range" = none := T.free 50
theorem n_zip (T : TX w K mg) : mg "zip" = none := T.free 51
theorem n_enumerate (T : TX w K mg) : mg "enumerate" = none := T.free 52
theorem n_list (T : TX w K mg) : mg "list" = none := T.free 53
theorem n_dict (T : TX w K mg) : mg "dict" = none := T.free 54
theorem n_sorted (T : TX w K mg) : mg "sorted" = none := T.free 55
theorem n_str (T : TX w K mg) : mg "str" = none := T.free 56
theorem n_int (T : TX w K mg) : mg "int" = none := T.free 57
theorem n_abs (T : TX w K mg) : mg "abs" = none := T.free 58
theorem n_isinstance (T : TX w K mg) : mg "isinstance" = none := T.free 59
theorem c_Ratio (T : TX w K mg) : Cls K (He.ga K "Ratio") := He.cls_ok (T.fact 60 (f := .cls "Ratio"))
theorem c_Reading (T : TX w K mg) : Cls K (He.ga K "Reading") := He.cls_ok (T.fact 61 (f := .cls "Reading"))
theorem c_Book (T : TX w K mg) : Cls K (He.ga K "Book") := He.cls_ok (T.fact 62 (f := .cls "Book"))
theorem c_Form (T : TX w K mg) : Cls K (He.ga K "Form") := He.cls_ok (T.fact 63 (f := .cls "Form"))
theorem mk_Ratio (T : TX w K mg) : Mk K (He.ga K "Ratio") (He.ma K (He.ga K "Ratio") "__init__") := He.mkr_ok (T.fact 64 (f := .mkr "Ratio"))
theorem mk_Reading (T : TX w K mg) : Mk K (He.ga K "Reading") (He.ma K (He.ga K "Reading") "__init__") := He.mkr_ok (T.fact 65 (f := .mkr "Reading"))
theorem mk_Book (T : TX w K mg) : Mk K (He.ga K "Book") (He.ma K (He.ga K "Book") "__init__") := He.mkr_ok (T.fact 66 (f := .mkr "Book"))
theorem mk_Form (T : TX w K mg) : Mk K (He.ga K "Form") (He.ma K (He.ga K "Form") "__init__") := He.mkr_ok (T.fact 67 (f := .mkr "Form"))
theorem i_MOST_POINTS (T : TX w K mg) : ∃ t, mg "MOST_POINTS" = some (.int 12 t) := T.int 68
theorem i_MOST_READINGS (T : TX w K mg) : ∃ t, mg "MOST_READINGS" = some (.int 24 t) := T.int 69
theorem i_MOST_COEFFICIENT (T : TX w K mg) : ∃ t, mg "MOST_COEFFICIENT" = some (.int 9 t) := T.int 70
theorem na_Ratio_top (T : TX w K mg) : NoAttr K (He.ga K "Ratio") "top" := He.noat_ok (T.fact 71 (f := .noat "Ratio" "top"))
theorem na_Ratio_bottom (T : TX w K mg) : NoAttr K (He.ga K "Ratio") "bottom" := He.noat_ok (T.fact 72 (f := .noat "Ratio" "bottom"))
theorem na_Reading_name (T : TX w K mg) : NoAttr K (He.ga K "Reading") "name" := He.noat_ok (T.fact 73 (f := .noat "Reading" "name"))
theorem na_Reading_terms (T : TX w K mg) : NoAttr K (He.ga K "Reading") "terms" := He.noat_ok (T.fact 74 (f := .noat "Reading" "terms"))
theorem na_Reading_value (T : TX w K mg) : NoAttr K (He.ga K "Reading") "value" := He.noat_ok (T.fact 75 (f := .noat "Reading" "value"))
theorem na_Reading_weight (T : TX w K mg) : NoAttr K (He.ga K "Reading") "weight" := He.noat_ok (T.fact 76 (f := .noat "Reading" "weight"))
theorem na_Book_points (T : TX w K mg) : NoAttr K (He.ga K "Book") "points" := He.noat_ok (T.fact 77 (f := .noat "Book" "points"))
theorem na_Book_approximations (T : TX w K mg) : NoAttr K (He.ga K "Book") "approximations" := He.noat_ok (T.fact 78 (f := .noat "Book" "approximations"))
theorem na_Book_readings (T : TX w K mg) : NoAttr K (He.ga K "Book") "readings" := He.noat_ok (T.fact 79 (f := .noat "Book" "readings"))
theorem na_Form_names (T : TX w K mg) : NoAttr K (He.ga K "Form") "names" := He.noat_ok (T.fact 80 (f := .noat "Form" "names"))
theorem na_Form_matrix (T : TX w K mg) : NoAttr K (He.ga K "Form") "matrix" := He.noat_ok (T.fact 81 (f := .noat "Form" "matrix"))
theorem na_Form_vector (T : TX w K mg) : NoAttr K (He.ga K "Form") "vector" := He.noat_ok (T.fact 82 (f := .noat "Form" "vector"))
theorem na_Form_constant (T : TX w K mg) : NoAttr K (He.ga K "Form") "constant" := He.noat_ok (T.fact 83 (f := .noat "Form" "constant"))
theorem me_Ratio___add__ (T : TX w K mg) : Meth K (He.ga K "Ratio") "__add__" (He.ma K (He.ga K "Ratio") "__add__") := He.meth_ok (T.fact 84 (f := .meth "Ratio" "__add__"))
theorem me_Ratio___sub__ (T : TX w K mg) : Meth K (He.ga K "Ratio") "__sub__" (He.ma K (He.ga K "Ratio") "__sub__") := He.meth_ok (T.fact 85 (f := .meth "Ratio" "__sub__"))
theorem me_Ratio___mul__ (T : TX w K mg) : Meth K (He.ga K "Ratio") "__mul__" (He.ma K (He.ga K "Ratio") "__mul__") := He.meth_ok (T.fact 86 (f := .meth "Ratio" "__mul__"))
theorem me_Ratio___eq__ (T : TX w K mg) : Meth K (He.ga K "Ratio") "__eq__" (He.ma K (He.ga K "Ratio") "__eq__") := He.meth_ok (T.fact 87 (f := .meth "Ratio" "__eq__"))
theorem me_Ratio_over (T : TX w K mg) : Meth K (He.ga K "Ratio") "over" (He.ma K (He.ga K "Ratio") "over") := He.meth_ok (T.fact 88 (f := .meth "Ratio" "over"))
theorem me_Book_require_point (T : TX w K mg) : Meth K (He.ga K "Book") "require_point" (He.ma K (He.ga K "Book") "require_point") := He.meth_ok (T.fact 89 (f := .meth "Book" "require_point"))
theorem me_Book_add_point (T : TX w K mg) : Meth K (He.ga K "Book") "add_point" (He.ma K (He.ga K "Book") "add_point") := He.meth_ok (T.fact 90 (f := .meth "Book" "add_point"))
theorem me_Book_add_reading (T : TX w K mg) : Meth K (He.ga K "Book") "add_reading" (He.ma K (He.ga K "Book") "add_reading") := He.meth_ok (T.fact 91 (f := .meth "Book" "add_reading"))
theorem d_Ratio___init__ (T : TX w K mg) : ∃ fd, FunD K "__init__" "Ratio.__init__" (defArgs sRInit) (defBody sRInit) (defScope sRInit) [V.int 1] [] (He.fAd K ("Ratio", some "__init__")) fd := T.dfn 0
theorem d_Ratio___add__ (T : TX w K mg) : ∃ fd, FunD K "__add__" "Ratio.__add__" (defArgs sRAdd) (defBody sRAdd) (defScope sRAdd) [] [] (He.fAd K ("Ratio", some "__add__")) fd := T.dfn 1
theorem d_Ratio___sub__ (T : TX w K mg) : ∃ fd, FunD K "__sub__" "Ratio.__sub__" (defArgs sRSub) (defBody sRSub) (defScope sRSub) [] [] (He.fAd K ("Ratio", some "__sub__")) fd := T.dfn 2
theorem d_Ratio___mul__ (T : TX w K mg) : ∃ fd, FunD K "__mul__" "Ratio.__mul__" (defArgs sRMul) (defBody sRMul) (defScope sRMul) [] [] (He.fAd K ("Ratio", some "__mul__")) fd := T.dfn 3
theorem d_Ratio___eq__ (T : TX w K mg) : ∃ fd, FunD K "__eq__" "Ratio.__eq__" (defArgs sREq) (defBody sREq) (defScope sREq) [] [] (He.fAd K ("Ratio", some "__eq__")) fd := T.dfn 4
theorem d_Ratio_over (T : TX w K mg) : ∃ fd, FunD K "over" "Ratio.over" (defArgs sROver) (defBody sROver) (defScope sROver) [] [] (He.fAd K ("Ratio", some "over")) fd := T.dfn 5
theorem d_Reading___init__ (T : TX w K mg) : ∃ fd, FunD K "__init__" "Reading.__init__" (defArgs sRdInit) (defBody sRdInit) (defScope sRdInit) [] [] (He.fAd K ("Reading", some "__init__")) fd := T.dfn 6
theorem d_terms_fit (T : TX w K mg) : ∃ fd, FunD K "terms_fit" "terms_fit" (defArgs sTermsFit) (defBody sTermsFit) (defScope sTermsFit) [] [] (He.fAd K ("terms_fit", none)) fd := T.dfn 7
theorem d_Book___init__ (T : TX w K mg) : ∃ fd, FunD K "__init__" "Book.__init__" (defArgs sBInit) (defBody sBInit) (defScope sBInit) [] [] (He.fAd K ("Book", some "__init__")) fd := T.dfn 8
theorem d_Book_require_point (T : TX w K mg) : ∃ fd, FunD K "require_point" "Book.require_point" (defArgs sBReq) (defBody sBReq) (defScope sBReq) [] [] (He.fAd K ("Book", some "require_point")) fd := T.dfn 9
theorem d_Book_add_point (T : TX w K mg) : ∃ fd, FunD K "add_point" "Book.add_point" (defArgs sBPoint) (defBody sBPoint) (defScope sBPoint) [] [] (He.fAd K ("Book", some "add_point")) fd := T.dfn 10
theorem d_Book_add_reading (T : TX w K mg) : ∃ fd, FunD K "add_reading" "Book.add_reading" (defArgs sBReading) (defBody sBReading) (defScope sBReading) [] [] (He.fAd K ("Book", some "add_reading")) fd := T.dfn 11
theorem d_row_of (T : TX w K mg) : ∃ fd, FunD K "row_of" "row_of" (defArgs sRowOf) (defBody sRowOf) (defScope sRowOf) [] [] (He.fAd K ("row_of", none)) fd := T.dfn 12
theorem d_dot (T : TX w K mg) : ∃ fd, FunD K "dot" "dot" (defArgs sDot) (defBody sDot) (defScope sDot) [] [] (He.fAd K ("dot", none)) fd := T.dfn 13
theorem d_scale (T : TX w K mg) : ∃ fd, FunD K "scale" "scale" (defArgs sScale) (defBody sScale) (defScope sScale) [] [] (He.fAd K ("scale", none)) fd := T.dfn 14
theorem d_plus (T : TX w K mg) : ∃ fd, FunD K "plus" "plus" (defArgs sPlus) (defBody sPlus) (defScope sPlus) [] [] (He.fAd K ("plus", none)) fd := T.dfn 15
theorem d_minus (T : TX w K mg) : ∃ fd, FunD K "minus" "minus" (defArgs sMinus) (defBody sMinus) (defScope sMinus) [] [] (He.fAd K ("minus", none)) fd := T.dfn 16
theorem d_zero (T : TX w K mg) : ∃ fd, FunD K "zero" "zero" (defArgs sZero) (defBody sZero) (defScope sZero) [] [] (He.fAd K ("zero", none)) fd := T.dfn 17
theorem d_unit (T : TX w K mg) : ∃ fd, FunD K "unit" "unit" (defArgs sUnit) (defBody sUnit) (defScope sUnit) [] [] (He.fAd K ("unit", none)) fd := T.dfn 18
theorem d_transpose (T : TX w K mg) : ∃ fd, FunD K "transpose" "transpose" (defArgs sTranspose) (defBody sTranspose) (defScope sTranspose) [] [] (He.fAd K ("transpose", none)) fd := T.dfn 19
theorem d_apply (T : TX w K mg) : ∃ fd, FunD K "apply" "apply" (defArgs sApply) (defBody sApply) (defScope sApply) [] [] (He.fAd K ("apply", none)) fd := T.dfn 20
theorem d_product (T : TX w K mg) : ∃ fd, FunD K "product" "product" (defArgs sProduct) (defBody sProduct) (defScope sProduct) [] [] (He.fAd K ("product", none)) fd := T.dfn 21
theorem d_identity (T : TX w K mg) : ∃ fd, FunD K "identity" "identity" (defArgs sIdentity) (defBody sIdentity) (defScope sIdentity) [] [] (He.fAd K ("identity", none)) fd := T.dfn 22
theorem d_zeros (T : TX w K mg) : ∃ fd, FunD K "zeros" "zeros" (defArgs sZeros) (defBody sZeros) (defScope sZeros) [] [] (He.fAd K ("zeros", none)) fd := T.dfn 23
theorem d_outer (T : TX w K mg) : ∃ fd, FunD K "outer" "outer" (defArgs sOuter) (defBody sOuter) (defScope sOuter) [] [] (He.fAd K ("outer", none)) fd := T.dfn 24
theorem d_sum_of (T : TX w K mg) : ∃ fd, FunD K "sum_of" "sum_of" (defArgs sSumOf) (defBody sSumOf) (defScope sSumOf) [] [] (He.fAd K ("sum_of", none)) fd := T.dfn 25
theorem d_scaled (T : TX w K mg) : ∃ fd, FunD K "scaled" "scaled" (defArgs sScaled) (defBody sScaled) (defScope sScaled) [] [] (He.fAd K ("scaled", none)) fd := T.dfn 26
theorem d_pivot_row (T : TX w K mg) : ∃ fd, FunD K "pivot_row" "pivot_row" (defArgs sPivotRow) (defBody sPivotRow) (defScope sPivotRow) [] [] (He.fAd K ("pivot_row", none)) fd := T.dfn 27
theorem d_cleared (T : TX w K mg) : ∃ fd, FunD K "cleared" "cleared" (defArgs sCleared) (defBody sCleared) (defScope sCleared) [] [] (He.fAd K ("cleared", none)) fd := T.dfn 28
theorem d_reduced (T : TX w K mg) : ∃ fd, FunD K "reduced" "reduced" (defArgs sReduced) (defBody sReduced) (defScope sReduced) [] [] (He.fAd K ("reduced", none)) fd := T.dfn 29
theorem d_inverse_of (T : TX w K mg) : ∃ fd, FunD K "inverse_of" "inverse_of" (defArgs sInverseOf) (defBody sInverseOf) (defScope sInverseOf) [] [] (He.fAd K ("inverse_of", none)) fd := T.dfn 30
theorem d_pseudo_inverse (T : TX w K mg) : ∃ fd, FunD K "pseudo_inverse" "pseudo_inverse" (defArgs sPseudo) (defBody sPseudo) (defScope sPseudo) [] [] (He.fAd K ("pseudo_inverse", none)) fd := T.dfn 31
theorem d_add_term (T : TX w K mg) : ∃ fd, FunD K "add_term" "add_term" (defArgs sAddTerm) (defBody sAddTerm) (defScope sAddTerm) [] [] (He.fAd K ("add_term", none)) fd := T.dfn 32
theorem d_Form___init__ (T : TX w K mg) : ∃ fd, FunD K "__init__" "Form.__init__" (defArgs sFInit) (defBody sFInit) (defScope sFInit) [] [] (He.fAd K ("Form", some "__init__")) fd := T.dfn 33
theorem d_require_points (T : TX w K mg) : ∃ fd, FunD K "require_points" "require_points" (defArgs sReqPoints) (defBody sReqPoints) (defScope sReqPoints) [] [] (He.fAd K ("require_points", none)) fd := T.dfn 34
theorem d_sums_of (T : TX w K mg) : ∃ fd, FunD K "sums_of" "sums_of" (defArgs sSumsOf) (defBody sSumsOf) (defScope sSumsOf) [] [] (He.fAd K ("sums_of", none)) fd := T.dfn 35
theorem d_block (T : TX w K mg) : ∃ fd, FunD K "block" "block" (defArgs sBlock) (defBody sBlock) (defScope sBlock) [] [] (He.fAd K ("block", none)) fd := T.dfn 36
theorem d_pick (T : TX w K mg) : ∃ fd, FunD K "pick" "pick" (defArgs sPick) (defBody sPick) (defScope sPick) [] [] (He.fAd K ("pick", none)) fd := T.dfn 37
theorem d_places_of (T : TX w K mg) : ∃ fd, FunD K "places_of" "places_of" (defArgs sPlacesOf) (defBody sPlacesOf) (defScope sPlacesOf) [] [] (He.fAd K ("places_of", none)) fd := T.dfn 38
theorem d_border_form (T : TX w K mg) : ∃ fd, FunD K "border_form" "border_form" (defArgs sBorderForm) (defBody sBorderForm) (defScope sBorderForm) [] [] (He.fAd K ("border_form", none)) fd := T.dfn 39
theorem d_spread (T : TX w K mg) : ∃ fd, FunD K "spread" "spread" (defArgs sSpread) (defBody sSpread) (defScope sSpread) [] [] (He.fAd K ("spread", none)) fd := T.dfn 40
theorem d_entry (T : TX w K mg) : ∃ fd, FunD K "entry" "entry" (defArgs sEntry) (defBody sEntry) (defScope sEntry) [] [] (He.fAd K ("entry", none)) fd := T.dfn 41
theorem d_join (T : TX w K mg) : ∃ fd, FunD K "join" "join" (defArgs sJoin) (defBody sJoin) (defScope sJoin) [] [] (He.fAd K ("join", none)) fd := T.dfn 42
theorem d__law_tape (T : TX w K mg) : ∃ fd, FunD K "_law_tape" "_law_tape" (defArgs sLTape) (defBody sLTape) (defScope sLTape) [] [] (He.fAd K ("_law_tape", none)) fd := T.dfn 43
theorem d__law_draw (T : TX w K mg) : ∃ fd, FunD K "_law_draw" "_law_draw" (defArgs sLDraw) (defBody sLDraw) (defScope sLDraw) [] [] (He.fAd K ("_law_draw", none)) fd := T.dfn 44
theorem d__law_take (T : TX w K mg) : ∃ fd, FunD K "_law_take" "_law_take" (defArgs sLTake) (defBody sLTake) (defScope sLTake) [] [] (He.fAd K ("_law_take", none)) fd := T.dfn 45
theorem d__law_common (T : TX w K mg) : ∃ fd, FunD K "_law_common" "_law_common" (defArgs sLCommon) (defBody sLCommon) (defScope sLCommon) [] [] (He.fAd K ("_law_common", none)) fd := T.dfn 46
theorem d__law_pair (T : TX w K mg) : ∃ fd, FunD K "_law_pair" "_law_pair" (defArgs sLPair) (defBody sLPair) (defScope sLPair) [] [] (He.fAd K ("_law_pair", none)) fd := T.dfn 47
theorem d__law_number (T : TX w K mg) : ∃ fd, FunD K "_law_number" "_law_number" (defArgs sLNumber) (defBody sLNumber) (defScope sLNumber) [] [] (He.fAd K ("_law_number", none)) fd := T.dfn 48
theorem d__law_made (T : TX w K mg) : ∃ fd, FunD K "_law_made" "_law_made" (defArgs sLMade) (defBody sLMade) (defScope sLMade) [] [] (He.fAd K ("_law_made", none)) fd := T.dfn 49
theorem d__law_terms (T : TX w K mg) : ∃ fd, FunD K "_law_terms" "_law_terms" (defArgs sLTerms) (defBody sLTerms) (defScope sLTerms) [] [] (He.fAd K ("_law_terms", none)) fd := T.dfn 50
theorem d__law_survey (T : TX w K mg) : ∃ fd, FunD K "_law_survey" "_law_survey" (defArgs sLSurvey) (defBody sLSurvey) (defScope sLSurvey) [] [] (He.fAd K ("_law_survey", none)) fd := T.dfn 51
theorem d__law_book (T : TX w K mg) : ∃ fd, FunD K "_law_book" "_law_book" (defArgs sLBook) (defBody sLBook) (defScope sLBook) [] [] (He.fAd K ("_law_book", none)) fd := T.dfn 52
theorem d__law_parts (T : TX w K mg) : ∃ fd, FunD K "_law_parts" "_law_parts" (defArgs sLParts) (defBody sLParts) (defScope sLParts) [] [] (He.fAd K ("_law_parts", none)) fd := T.dfn 53
theorem d__law_same (T : TX w K mg) : ∃ fd, FunD K "_law_same" "_law_same" (defArgs sLSame) (defBody sLSame) (defScope sLSame) [] [] (He.fAd K ("_law_same", none)) fd := T.dfn 54
theorem d_law (T : TX w K mg) : ∃ fd, FunD K "law" "law" (defArgs sLaw) (defBody sLaw) (defScope sLaw) [] [] (He.fAd K ("law", none)) fd := T.dfn 55
end
/-! ### a def by its body -/
section
variable {P : Program} {w : World} {K : PySem.W.Frag} {mg : Str → Option Value} {base : Heap}
theorem cal1 {x : Str} {st : Stmt} {N ps : List Str} {k : Nat} {sp : Sp} (F : ∃ fd, FunD K x x (defArgs st) (defBody st) (defScope st) [] [] (He.fAd K (x, none)) fd) (hm : mg x = some (.ref (He.ga K x)))
    (hb : ∀ (kV doc pm : Value) (an : Option Addr) (cdv ct : Value) (us : List Value), us.length = ps.length → bindArgs (PySem.W.fnOf x x (defArgs st) (defBody st) (defScope st) .none kV doc pm an cdv ct) ⟨us, []⟩ = pure (ps.zip us))
    (S : FnScope N ps (defScope st)) (len : ∀ vs H Q E, sp vs H Q E → vs.length = ps.length)
    (hbody : ∀ (cdv : Value) (A : Around) (outer : List Env) (s : Shared) (H : Hp) (vs : List V) (Q : VK) (E : XK), Room k (A.deeper (envOfC x (defScope st) s.heap.objs.size (He.ga K x) cdv)) → sp vs H Q E →
      ∃ t, PSs (cxOf C8.CX0 P w K mg base N x (defScope st) (He.ga K x) cdv A outer s H E).nox (defBody st) t ∧ t { nx := fun _ H' => Q .non H', rt := Q } (start N vs) H) : C8.Cal P w K mg base (k + 1) x sp [] := by
  obtain ⟨fd, F⟩ := F
  exact ⟨He.ga K x, fd, ps, [], F.ok S len fun cdv A outer s H vs Q E hr h => (let ⟨t, a, b⟩ := hbody cdv A outer s H vs Q E hr h; ⟨t, a.nox, b⟩), hm, F.kp, FunD.bindsN F hb, .nil⟩
theorem met1 {C m q : Str} {st : Stmt} {N ps : List Str} {k : Nat} {sp : Sp} (c : Cls K (He.ga K C)) (me : Meth K (He.ga K C) m (He.ma K (He.ga K C) m)) (F : ∃ fd, FunD K m q (defArgs st) (defBody st) (defScope st) [] [] (He.fAd K (C, some m)) fd)
    (hb : ∀ (kV doc pm : Value) (an : Option Addr) (cdv ct : Value) (us : List Value), us.length = ps.length → bindArgs (PySem.W.fnOf m q (defArgs st) (defBody st) (defScope st) .none kV doc pm an cdv ct) ⟨us, []⟩ = pure (ps.zip us))
    (S : FnScope N ps (defScope st)) (len : ∀ vs H Q E, sp vs H Q E → vs.length = ps.length)
    (hbody : ∀ (cdv : Value) (A : Around) (outer : List Env) (s : Shared) (H : Hp) (vs : List V) (Q : VK) (E : XK), Room k (A.deeper (envOfC q (defScope st) s.heap.objs.size (He.ma K (He.ga K C) m) cdv)) → sp vs H Q E →
      ∃ t, PSs (cxOf C8.CX0 P w K mg base N q (defScope st) (He.ma K (He.ga K C) m) cdv A outer s H E).nox (defBody st) t ∧ t { nx := fun _ H' => Q .non H', rt := Q } (start N vs) H) : C8.Met P w K mg base (k + 1) (He.ga K C) m sp [] := by
  obtain ⟨fd, F⟩ := F
  exact ⟨He.ma K (He.ga K C) m, fd, ps, [], c, me, F.ok S len fun cdv A outer s H vs Q E hr h => (let ⟨t, a, b⟩ := hbody cdv A outer s H vs Q E hr h; ⟨t, a.nox, b⟩), FunD.bindsN F hb, .nil⟩
theorem mak1 {C q : Str} {st : Stmt} {N ps : List Str} {k : Nat} {sp : Sp} (M : Mk K (He.ga K C) (He.ma K (He.ga K C) "__init__")) (hm : mg C = some (.ref (He.ga K C))) (F : ∃ fd, FunD K "__init__" q (defArgs st) (defBody st) (defScope st) [] [] (He.fAd K (C, some "__init__")) fd)
    (hb : ∀ (kV doc pm : Value) (an : Option Addr) (cdv ct : Value) (us : List Value), us.length = ps.length → bindArgs (PySem.W.fnOf "__init__" q (defArgs st) (defBody st) (defScope st) .none kV doc pm an cdv ct) ⟨us, []⟩ = pure (ps.zip us))
    (S : FnScope N ps (defScope st)) (len : ∀ vs H Q E, sp vs H Q E → vs.length = ps.length)
    (hbody : ∀ (cdv : Value) (A : Around) (outer : List Env) (s : Shared) (H : Hp) (vs : List V) (Q : VK) (E : XK), Room k (A.deeper (envOfC q (defScope st) s.heap.objs.size (He.ma K (He.ga K C) "__init__") cdv)) → sp vs H Q E →
      ∃ t, PSs (cxOf C8.CX0 P w K mg base N q (defScope st) (He.ma K (He.ga K C) "__init__") cdv A outer s H E).nox (defBody st) t ∧ t { nx := fun _ H' => Q .non H', rt := Q } (start N vs) H) : C8.Mak P w K mg base (k + 1) C (He.ga K C) sp [] := by
  obtain ⟨fd, F⟩ := F
  exact ⟨He.ma K (He.ga K C) "__init__", fd, ps, [], M, F.ok S len fun cdv A outer s H vs Q E hr h => (let ⟨t, a, b⟩ := hbody cdv A outer s H vs Q E hr h; ⟨t, a.nox, b⟩), hm, FunD.bindsN F hb, .nil⟩
end
/-! ### own steps: x op y by the class's own def; // by a wide divisor of any sign -/
section
variable {X : Cx} {CX : CXT} {C g : Addr} {n : Nat} {sp : Sp} {E : XK}
def rBin (C : Addr) (sp : Sp) (E : XK) : R2 := fun x y H Q => ∃ a dx fs b dy gs, x = .ref a ∧ y = .ref b ∧ H a = some (.ins C dx fs) ∧ H b = some (.ins C dy gs) ∧ sp [x, y] H Q E
theorem op_bin {op : Operator} (hc : PySem.W.selfFirst X.K C = true) (hs : PySem.W.findIn X.K (.ref C) (PySem.dunder op.info.2) = some (some (.ref g))) (hf : PySem.W.isFn X.K (.ref g) = true) (F : FnR X.prog X.w X.K X.mg X.base CX n g sp)
    (hr : Room n X.A) (hx : Passes CX X E) : OpR X (binaryOp op) (rBin C sp E) := by
  intro pins s σ H x y v u Q I rx ry h
  obtain ⟨a, dx, fs, b, dy, gs, rfl, rfl, ha, hb, q⟩ := h
  cases (show v = Value.ref a from rx)
  cases (show u = Value.ref b from ry)
  obtain ⟨mA, J, _⟩ := ins_get I.hok ha
  obtain ⟨mB, J', _⟩ := ins_get I.hok hb
  obtain ⟨od, J, _⟩ := J.look
  obtain ⟨od', J', _⟩ := J'.look
  obtain ⟨m, hF⟩ := I.fr
  refine PySem.W.binop_K (op := op) hF I.ok.mod.kin J J'.type hc hs hf ?_
  refine wpAny_mono (wpAny_call (run_fnR (us := [.ref a, .ref b]) (vs := [.ref a, .ref b]) F hr hx I (.cons rfl (.cons rfl .nil)) q)) (fun w s' z => ?_) fun _ _ x => x
  obtain ⟨z', H', I', rz, qz⟩ := z
  exact SlX.cmpback rz ⟨z', H', I', rz, qz⟩
/-- .. of a method -/
theorem op_met {op : Operator} {m : Str} {k j : Nat} (e : PySem.dunder op.info.2 = m) (hc : PySem.W.selfFirst X.K C = true) (c : C8.Met X.prog X.w X.K X.mg X.base k C m sp []) (hr : Room j X.A) (hk : k ≤ j) : OpR X (binaryOp op) (rBin C sp C8.E0) := by
  obtain ⟨f, fd, ps, ds, hcl, hm, F, b, d⟩ := c.ex
  exact op_bin hc (by rw [e]; exact hm.at_) hm.fn ((FnOk.raw F b d).imp fun vs H Q E h => (by rw [List.append_nil]; exact h)) (hr.mono hk) C8.pass0
def CDivX (_ j : Int) : Prop := j ≠ 0 ∧ j.natAbs.log2 < 9000
theorem op_fdivX : OpR X (binaryOp .FloorDiv) (rI CDivX fun i j => .int (i.fdiv j)) := opI fun i j _ _ _ _ _ hc q => floordiv_int hc.1 q (.inl (PyProof.noPylong_of_log2 hc.2))
end
end PN
end
section
set_option maxRecDepth 100000
set_option maxHeartbeats 4000000
namespace PN
open PySem PySem.Spec PyProof.Rows L2
/-! ### data that never changes, over the abstract heap -/
abbrev Rp (α : Type) := Hp → V → α → Prop
def Fro : HO → Prop
  | .tup _ => True
  | .ins _ _ _ => True
  | .frz _ _ => True
  | _ => False
/-- tuples and instances stand -/
def Fz (H H' : Hp) : Prop := ∀ b o, H b = some o → Fro o → H' b = some o
theorem Fz.of {H H' : Hp} (s : Same H H') : Fz H H' := fun b o h _ => s b o h
theorem Fz.lst {H : Hp} {D : Addr} {xs ys : List V} (h : H D = some (.lst xs)) : Fz H (upd H D (.lst ys)) := fun b o e f => by
  rw [upd_ne (ne_of e h (fun z => by subst z; exact f))]; exact e
theorem Fz.dK {H : Hp} {D : Addr} {xs ys : List (Key × V)} (h : H D = some (.dK xs)) : Fz H (upd H D (.dK ys)) := fun b o e f => by
  rw [upd_ne (ne_of e h (fun z => by subst z; exact f))]; exact e
theorem Fz.trans {H H1 H2 : Hp} (a : Fz H H1) (b : Fz H1 H2) : Fz H H2 := fun c o h f => b c o (a c o h f) f
def Fzm {α : Type} (R : Rp α) : Prop := ∀ (H H' : Hp) (v : V) (d : α), Fz H H' → R H v d → R H' v d
/-- item by item -/
def Al {α : Type} (R : Rp α) (H : Hp) (xs : List V) (ds : List α) : Prop := xs.length = ds.length ∧ ∀ (i : Nat) x d, xs[i]? = some x → ds[i]? = some d → R H x d
section
variable {α : Type} {R : Rp α} {H H' : Hp} {xs xs' : List V} {ds ds' : List α}
theorem Al.nil : Al R H [] [] := ⟨rfl, fun i x d h _ => by simp at h⟩
theorem Al.mono (hR : Fzm R) (f : Fz H H') (a : Al R H xs ds) : Al R H' xs ds := ⟨a.1, fun i x d h1 h2 => hR _ _ _ _ f (a.2 i x d h1 h2)⟩
theorem Al.app (a : Al R H xs ds) (b : Al R H xs' ds') : Al R H (xs ++ xs') (ds ++ ds') := by
  refine ⟨by rw [List.length_append, List.length_append, a.1, b.1], fun i x d h1 h2 => ?_⟩
  by_cases hi : i < xs.length
  · rw [List.getElem?_append_left hi] at h1
    rw [List.getElem?_append_left (by rw [← a.1]; exact hi)] at h2
    exact a.2 i x d h1 h2
  · rw [List.getElem?_append_right (by omega)] at h1
    rw [List.getElem?_append_right (by rw [← a.1]; omega), ← a.1] at h2
    exact b.2 _ x d h1 h2
theorem Al.one {x : V} {d : α} (h : R H x d) : Al R H [x] [d] := ⟨rfl, fun i a b h1 h2 => by
  cases i with
  | zero => simp at h1 h2; subst h1; subst h2; exact h
  | succ i => simp at h1⟩
theorem Al.cons {x : V} {d : α} (h : R H x d) (a : Al R H xs ds) : Al R H (x :: xs) (d :: ds) := Al.app (Al.one h) a
theorem Al.get (a : Al R H xs ds) {i : Nat} {x : V} (h : xs[i]? = some x) : ∃ d, ds[i]? = some d ∧ R H x d := by
  obtain ⟨hi, _⟩ := List.getElem?_eq_some_iff.mp h
  have e := List.getElem?_eq_getElem (l := ds) (i := i) (by rw [← a.1]; exact hi)
  exact ⟨_, e, a.2 i x _ h e⟩
theorem Al.at (a : Al R H xs ds) {i : Nat} {d : α} (h : ds[i]? = some d) : ∃ x, xs[i]? = some x ∧ R H x d := by
  obtain ⟨hi, _⟩ := List.getElem?_eq_some_iff.mp h
  have e := List.getElem?_eq_getElem (l := xs) (i := i) (by rw [a.1]; exact hi)
  exact ⟨_, e, a.2 i _ d e h⟩
theorem Al.take (a : Al R H xs ds) (n : Nat) : Al R H (xs.take n) (ds.take n) := by
  refine ⟨by rw [List.length_take, List.length_take, a.1], fun i x d h1 h2 => ?_⟩
  rw [List.getElem?_take] at h1 h2
  by_cases hi : i < n
  · rw [if_pos hi] at h1 h2; exact a.2 i x d h1 h2
  · rw [if_neg hi] at h1; cases h1
theorem Al.drop (a : Al R H xs ds) (n : Nat) : Al R H (xs.drop n) (ds.drop n) := by
  refine ⟨by rw [List.length_drop, List.length_drop, a.1], fun i x d h1 h2 => ?_⟩
  rw [List.getElem?_drop] at h1 h2
  exact a.2 _ x d h1 h2
theorem Al.set (a : Al R H xs ds) {x : V} {d : α} (n : Nat) (h : R H x d) : Al R H (xs.set n x) (ds.set n d) := by
  refine ⟨by rw [List.length_set, List.length_set, a.1], fun i y e h1 h2 => ?_⟩
  rw [List.getElem?_set] at h1 h2
  by_cases hi : n = i
  · rw [if_pos hi] at h1 h2
    by_cases hl : n < xs.length
    · rw [if_pos hl] at h1
      rw [if_pos (by rw [← a.1]; exact hl)] at h2
      cases h1; cases h2; exact h
    · rw [if_neg hl] at h1; cases h1
  · rw [if_neg hi] at h1 h2; exact a.2 i y e h1 h2
end
/-- a tuple of such -/
def Tup {α : Type} (R : Rp α) : Rp (List α) := fun H v ds => ∃ a xs, v = .ref a ∧ H a = some (.tup xs) ∧ Al R H xs ds
theorem Tup.fz {α : Type} {R : Rp α} (hR : Fzm R) : Fzm (Tup R) := fun _ _ _ _ f ⟨a, xs, e, h, al⟩ => ⟨a, xs, e, f _ _ h trivial, al.mono hR f⟩
/-- a fraction: its instance -/
def qf (q : Rat) : List (Str × V) := [("top", .int q.num), ("bottom", .int (q.den : Int))]
def IsQ (C : Addr) : Rp Rat := fun H v q => ∃ a dx, v = .ref a ∧ H a = some (.ins C dx (qf q))
theorem IsQ.fz {C : Addr} : Fzm (IsQ C) := fun _ _ _ _ f ⟨a, dx, e, h⟩ => ⟨a, dx, e, f _ _ h trivial⟩
abbrev IsV (C : Addr) : Rp (List Rat) := Tup (IsQ C)
abbrev IsM (C : Addr) : Rp (List (List Rat)) := Tup (IsV C)
theorem IsV.fz {C : Addr} : Fzm (IsV C) := Tup.fz IsQ.fz
theorem IsM.fz {C : Addr} : Fzm (IsM C) := Tup.fz IsV.fz
def IsInt : Rp Int := fun _ v i => v = .int i
theorem IsInt.fz : Fzm IsInt := fun _ _ _ _ _ h => h
def IsStr : Rp Str := fun _ v i => v = .str i
theorem IsStr.fz : Fzm IsStr := fun _ _ _ _ _ h => h
theorem Al.str {H : Hp} {xs : List V} {ds : List Str} (a : Al IsStr H xs ds) : xs = ds.map V.str := by
  refine List.ext_getElem? fun i => ?_
  rw [List.getElem?_map]
  cases e : xs[i]? with
  | none => rw [List.getElem?_eq_none (by rw [← a.1]; exact List.getElem?_eq_none_iff.mp e)]; rfl
  | some x => obtain ⟨d, h1, h2⟩ := a.get e; rw [h1]; exact congrArg some h2
theorem Al.of_str {H : Hp} (ds : List Str) : Al IsStr H (ds.map V.str) ds := ⟨List.length_map .., fun i x d h1 h2 => by
  rw [List.getElem?_map, h2] at h1; exact (Option.some.inj h1).symm⟩
theorem Al.of_int {H : Hp} (ds : List Int) : Al IsInt H (ds.map V.int) ds := ⟨List.length_map .., fun i x d h1 h2 => by
  rw [List.getElem?_map, h2] at h1; exact (Option.some.inj h1).symm⟩
theorem Al.int {H : Hp} {xs : List V} {ds : List Int} (a : Al IsInt H xs ds) : xs = ds.map V.int := by
  refine List.ext_getElem? fun i => ?_
  rw [List.getElem?_map]
  cases e : xs[i]? with
  | none => rw [List.getElem?_eq_none (by rw [← a.1]; exact List.getElem?_eq_none_iff.mp e)]; rfl
  | some x => obtain ⟨d, h1, h2⟩ := a.get e; rw [h1]; exact congrArg some h2
theorem sm_upd {H : Hp} {p : Addr} {o : HO} (h : H p = none) : Same H (L2.upd H p o) := fun a u e => by rw [upd_ne (ne_of_none e h)]; exact e
theorem sm_upd' {H H1 : Hp} {p : Addr} {o : HO} (s : Same H H1) (h : H1 p = none) : Same H (L2.upd H1 p o) := s.trans (sm_upd h)
/-- a new object written anew: what stood ahead of it stands -/
theorem sm_upn {H H1 : Hp} {p : Addr} {o : HO} (s : Same H H1) (h : H p = none) : Same H (L2.upd H1 p o) := fun a u e => by rw [upd_ne (ne_of_none e h)]; exact s a u e
/-! ### a comprehension that makes a list of such data, one item a turn -/
theorem take_snoc {α : Type} : ∀ {l : List α} {i : Nat} {x : α}, l[i]? = some x → l.take (i + 1) = l.take i ++ [x]
  | [], i, x, h => by simp at h
  | a :: l, 0, x, h => by
    have e : a = x := Option.some.inj h
    subst e
    rfl
  | a :: l, i + 1, x, h => by
    have ih := take_snoc (l := l) (i := i) (x := x) h
    show a :: l.take (i + 1) = a :: l.take i ++ [x]
    rw [ih]
    rfl
theorem lc_gen {β : Type} {R : Rp β} (hR : Fzm R) {J : It} {n : Nat} {ys : List β} {te : TE} {g : TG} {vs : List Nat} {σ : L2.St} {H1 : Hp} {D : Addr} {Qd : Hp → Prop} (hD : H1 D = none) (hn : ys.length = n) (hsz : n ≤ 1000)
    (go : ∀ i H, Same H1 H → i < n → J.go i H) (stop : ∀ H, Same H1 H → J.stop n H)
    (turn : ∀ i y H x H', ys[i]? = some y → Same H1 H → J.yld i H x H' → Same H H' ∧ ∀ Qg : L2.St → Hp → Prop,
      (∀ σ2, wipe σ2 vs = wipe σ vs → (∀ k : VK, (∀ v H4, Same H' H4 → R H4 v y → k v H4) → te σ2 H' k) → Qg σ2 H') → g x (wipe σ vs) H' Qg)
    (done : ∀ H acc, Same H1 H → H D = some (.lst acc) → Al R H acc ys → Qd H) :
    ∃ W : Nat → Nat → Hp → Prop, (∃ m, W 0 m (upd H1 D (.lst []))) ∧ ∀ i m H, W i m H →
      (J.stop i H ∧ Qd H) ∨ (J.go i H ∧ ∃ Nx : Hp → Prop, (∀ H', Nx H' → ∃ m', m' < m ∧ W (i + 1) m' H') ∧ ∀ x H', J.yld i H x H' → g x (wipe σ vs) H' fun σ2 H2 => wipe σ2 vs = wipe σ vs ∧ tYes σ2 H2 fun b H3 =>
        if b = true then te σ2 H3 fun y H4 => ∃ acc, H4 D = some (.lst acc) ∧ acc.length < sizeLine ∧ Nx (upd H4 D (.lst (acc ++ [y]))) else Nx H3) := by
  refine ⟨fun i m H => m = n - i ∧ i ≤ n ∧ Same H1 H ∧ ∃ acc, H D = some (.lst acc) ∧ Al R H acc (ys.take i), ⟨n, rfl, Nat.zero_le _, sm_upd hD, [], upd_same, Al.nil⟩, ?_⟩
  rintro i m H ⟨rfl, hi, sm, acc, hacc, al⟩
  by_cases hlt : i < n
  · refine .inr ⟨go i H sm hlt, fun H' => ∃ m', m' < n - i ∧ (m' = n - (i + 1) ∧ i + 1 ≤ n ∧ Same H1 H' ∧ ∃ acc, H' D = some (.lst acc) ∧ Al R H' acc (ys.take (i + 1))), fun H' h => h, fun x H' y => ?_⟩
    have ey := List.getElem?_eq_getElem (l := ys) (i := i) (by omega)
    obtain ⟨s1, tn⟩ := turn i _ H x H' ey sm y
    refine tn _ fun σ2 hw ht => ⟨hw, ?_⟩
    show te σ2 H' _
    refine ht _ fun v H4 s4 r => ⟨acc, s4 _ _ (s1 _ _ hacc), ?_, n - (i + 1), by omega, rfl, hlt, ?_, acc ++ [v], upd_same, ?_⟩
    · have e := al.1
      rw [List.length_take] at e
      exact small1000 (by omega)
    · exact sm_upn ((sm.trans s1).trans s4) hD
    · have f : Fz H4 (upd H4 D (.lst (acc ++ [v]))) := Fz.lst (s4 _ _ (s1 _ _ hacc))
      rw [take_snoc ey]
      exact (al.mono hR (((Fz.of s1).trans (Fz.of s4)).trans f)).app (Al.one (hR _ _ _ _ f r))
  · have e : i = n := by omega
    subst e
    refine .inl ⟨stop H sm, done H acc sm hacc ?_⟩
    rw [← hn, List.take_length] at al
    exact al
section
variable {β : Type} {R : Rp β} {n : Nat} {ys : List β} {te : TE} {i j : Nat} {σ : L2.St} {H1 : Hp} {D : Addr} {Qd : Hp → Prop} {K : PySem.W.Frag} {a b : Addr} {xs zs : List V}
theorem wipe1 {σ : L2.St} {i : Nat} {x : V} : wipe ((wipe σ [i]).set i (some x)) [i] = wipe σ [i] := by
  show ((σ.set i none).set i (some x)).set i none = σ.set i none
  rw [List.set_set, List.set_set]
theorem wipe2 {σ : L2.St} {i j : Nat} {x y : V} (h : i ≠ j) : wipe (((wipe σ [i, j]).set i (some x)).set j (some y)) [i, j] = wipe σ [i, j] := by
  show (((((σ.set j none).set i none).set i (some x)).set j (some y)).set j none).set i none = (σ.set j none).set i none
  rw [List.set_set, List.set_set, List.set_comm _ _ (Ne.symm h), List.set_set, List.set_comm _ _ h, List.set_set]
/-- over a tuple -/
theorem lcT (hR : Fzm R) (hD : H1 D = none) (hq : SqT K H1 a xs) (hn : xs.length = ys.length) (hsz : ys.length ≤ 1000)
    (turn : ∀ (t : Nat) x y H, xs[t]? = some x → ys[t]? = some y → Same H1 H → ∀ k : VK, (∀ v H4, Same H H4 → R H4 v y → k v H4) → te ((wipe σ [i]).set i (some x)) H k)
    (done : ∀ H acc, Same H1 H → H D = some (.lst acc) → Al R H acc ys → Qd H) :
    ∃ W : Nat → Nat → Hp → Prop, (∃ m, W 0 m (upd H1 D (.lst []))) ∧ ∀ t m H, W t m H →
      ((Itt K a).stop t H ∧ Qd H) ∨ ((Itt K a).go t H ∧ ∃ Nx : Hp → Prop, (∀ H', Nx H' → ∃ m', m' < m ∧ W (t + 1) m' H') ∧ ∀ x H', (Itt K a).yld t H x H' → gName i x (wipe σ [i]) H' fun σ2 H2 => wipe σ2 [i] = wipe σ [i] ∧ tYes σ2 H2 fun b H3 =>
        if b = true then te σ2 H3 fun y H4 => ∃ acc, H4 D = some (.lst acc) ∧ acc.length < sizeLine ∧ Nx (upd H4 D (.lst (acc ++ [y]))) else Nx H3) := by
  have sq : ∀ H, Same H1 H → SqT K H a xs := fun H s => by
    rcases hq with (h | ⟨o, h⟩) | h
    · exact .inl (.inl (s _ _ h))
    · exact .inl (.inr ⟨o, s _ _ h⟩)
    · exact .inr h
  refine lc_gen (J := Itt K a) (vs := [i]) (g := gName i) hR hD hn.symm (hn ▸ hsz) (fun t H s ht => ⟨xs, _, sq H s, List.getElem?_eq_getElem ht⟩) (fun H s => ⟨xs, sq H s, Nat.le_refl _⟩) (fun t y H x H' hy s yl => ?_) done
  obtain ⟨e, yl⟩ := yl
  subst e
  exact ⟨Same.refl _, fun Qg h => h _ wipe1 fun k hk => turn t x y H' (yl xs (sq _ s)) hy s k hk⟩
/-- over a list -/
theorem lcL (hR : Fzm R) (hD : H1 D = none) (hq : SqL K H1 a xs) (hn : xs.length = ys.length) (hsz : ys.length ≤ 1000)
    (turn : ∀ (t : Nat) x y H, xs[t]? = some x → ys[t]? = some y → Same H1 H → ∀ k : VK, (∀ v H4, Same H H4 → R H4 v y → k v H4) → te ((wipe σ [i]).set i (some x)) H k)
    (done : ∀ H acc, Same H1 H → H D = some (.lst acc) → Al R H acc ys → Qd H) :
    ∃ W : Nat → Nat → Hp → Prop, (∃ m, W 0 m (upd H1 D (.lst []))) ∧ ∀ t m H, W t m H →
      ((Itl K a).stop t H ∧ Qd H) ∨ ((Itl K a).go t H ∧ ∃ Nx : Hp → Prop, (∀ H', Nx H' → ∃ m', m' < m ∧ W (t + 1) m' H') ∧ ∀ x H', (Itl K a).yld t H x H' → gName i x (wipe σ [i]) H' fun σ2 H2 => wipe σ2 [i] = wipe σ [i] ∧ tYes σ2 H2 fun b H3 =>
        if b = true then te σ2 H3 fun y H4 => ∃ acc, H4 D = some (.lst acc) ∧ acc.length < sizeLine ∧ Nx (upd H4 D (.lst (acc ++ [y]))) else Nx H3) := by
  refine lc_gen (J := Itl K a) (vs := [i]) (g := gName i) hR hD hn.symm (hn ▸ hsz) (fun t H s ht => ⟨xs, _, s.seq hq, List.getElem?_eq_getElem ht⟩) (fun H s => ⟨xs, s.seq hq, Nat.le_refl _⟩) (fun t y H x H' hy s yl => ?_) done
  obtain ⟨e, yl⟩ := yl
  subst e
  exact ⟨Same.refl _, fun Qg h => h _ wipe1 fun k hk => turn t x y H' (yl xs (s.seq hq)) hy s k hk⟩
/-- over a range -/
theorem lcR (hR : Fzm R) (hD : H1 D = none) (hn : n = ys.length) (hsz : ys.length ≤ 1000)
    (turn : ∀ (t : Nat) y H, ys[t]? = some y → Same H1 H → ∀ k : VK, (∀ v H4, Same H H4 → R H4 v y → k v H4) → te ((wipe σ [i]).set i (some (.int (0 + (t : Int))))) H k)
    (done : ∀ H acc, Same H1 H → H D = some (.lst acc) → Al R H acc ys → Qd H) :
    ∃ W : Nat → Nat → Hp → Prop, (∃ m, W 0 m (upd H1 D (.lst []))) ∧ ∀ t m H, W t m H →
      ((Itr 0 n).stop t H ∧ Qd H) ∨ ((Itr 0 n).go t H ∧ ∃ Nx : Hp → Prop, (∀ H', Nx H' → ∃ m', m' < m ∧ W (t + 1) m' H') ∧ ∀ x H', (Itr 0 n).yld t H x H' → gName i x (wipe σ [i]) H' fun σ2 H2 => wipe σ2 [i] = wipe σ [i] ∧ tYes σ2 H2 fun b H3 =>
        if b = true then te σ2 H3 fun y H4 => ∃ acc, H4 D = some (.lst acc) ∧ acc.length < sizeLine ∧ Nx (upd H4 D (.lst (acc ++ [y]))) else Nx H3) := by
  refine lc_gen (J := Itr 0 n) (vs := [i]) (g := gName i) hR hD hn.symm (by omega) (fun t H s ht => ht) (fun H s => Nat.le_refl _) (fun t y H x H' hy s yl => ?_) done
  obtain ⟨e, rfl⟩ := yl
  subst e
  exact ⟨Same.refl _, fun Qg h => h _ wipe1 fun k hk => turn t y H' hy s k hk⟩
/-- over zip of two tuples, to two names -/
abbrev gPair (K : PySem.W.Frag) (i j : Nat) : TG := gTup K 2 (gCons (gName i) (gCons (gName j) gNil))
theorem lcZ (hij : i ≠ j) (hR : Fzm R) (hD : H1 D = none) (hq : SqT K H1 a xs) (hq2 : SqT K H1 b zs) (hl : xs.length = zs.length) (hn : xs.length = ys.length) (hsz : ys.length ≤ 1000)
    (turn : ∀ (t : Nat) x z y H, xs[t]? = some x → zs[t]? = some z → ys[t]? = some y → Same H1 H → ∀ k : VK, (∀ v H4, Same H H4 → R H4 v y → k v H4) → te (((wipe σ [i, j]).set i (some x)).set j (some z)) H k)
    (done : ∀ H acc, Same H1 H → H D = some (.lst acc) → Al R H acc ys → Qd H) :
    ∃ W : Nat → Nat → Hp → Prop, (∃ m, W 0 m (upd H1 D (.lst []))) ∧ ∀ t m H, W t m H →
      ((RZ.ItzT K a b).stop t H ∧ Qd H) ∨ ((RZ.ItzT K a b).go t H ∧ ∃ Nx : Hp → Prop, (∀ H', Nx H' → ∃ m', m' < m ∧ W (t + 1) m' H') ∧ ∀ x H', (RZ.ItzT K a b).yld t H x H' → gPair K i j x (wipe σ [i, j]) H' fun σ2 H2 => wipe σ2 [i, j] = wipe σ [i, j] ∧ tYes σ2 H2 fun b H3 =>
        if b = true then te σ2 H3 fun y H4 => ∃ acc, H4 D = some (.lst acc) ∧ acc.length < sizeLine ∧ Nx (upd H4 D (.lst (acc ++ [y]))) else Nx H3) := by
  have sq : ∀ {a : Addr} {xs : List V} H, SqT K H1 a xs → Same H1 H → SqT K H a xs := fun {a xs} H hq s => by
    rcases hq with (h | ⟨o, h⟩) | h
    · exact .inl (.inl (s _ _ h))
    · exact .inl (.inr ⟨o, s _ _ h⟩)
    · exact .inr h
  refine lc_gen (J := RZ.ItzT K a b) (vs := [i, j]) (g := gPair K i j) hR hD hn.symm (hn ▸ hsz) (fun t H s ht => ⟨xs, zs, _, _, sq H hq s, sq H hq2 s, List.getElem?_eq_getElem ht, List.getElem?_eq_getElem (by omega)⟩) (fun H s => ⟨xs, zs, sq H hq s, sq H hq2 s, .inl (Nat.le_refl _)⟩) (fun t y H x H' hy s yl => ?_) done
  obtain ⟨T, u, z, rfl, hT, rfl, f1, f2⟩ := yl
  refine ⟨sm_upd hT, fun Qg h => ⟨T, [u, z], rfl, SqT.of upd_same, rfl, u, [z], rfl, z, [], rfl, rfl, ?_⟩⟩
  exact h _ (wipe2 hij) fun k hk => turn t u z y _ (f1 xs (sq H hq s)) (f2 zs (sq H hq2 s)) hy (sm_upd' s hT) k hk
end
end PN
end
section
namespace PN
/-! ### fractions: what the program's own making gives; sizes -/
theorem gsgn (b : Int) (g : Int) (hb : b ≠ 0) : b.sign * (if b < 0 then -g else g) = g := by
  by_cases h : b < 0
  · rw [if_pos h, Int.sign_eq_neg_one_of_neg h]; omega
  · rw [if_neg h, Int.sign_eq_one_of_pos (by omega)]; omega
theorem fdiv_exact {a g k : Int} (hg : g ≠ 0) (h : a = k * g) : a.fdiv g = k := by
  rw [h, Int.mul_fdiv_cancel _ hg]
theorem gcd_ne {a b : Int} (hb : b ≠ 0) : ((Nat.gcd a.natAbs b.natAbs : Nat) : Int) ≠ 0 := by
  have : 0 < Nat.gcd a.natAbs b.natAbs := Nat.gcd_pos_of_pos_right _ (by omega)
  omega
theorem mk_top {a b : Int} (hb : b ≠ 0) : a.fdiv (if b < 0 then -((Nat.gcd a.natAbs b.natAbs : Nat) : Int) else ((Nat.gcd a.natAbs b.natAbs : Nat) : Int)) = (Rat.divInt a b).num := by
  have hg := gcd_ne (a := a) hb
  have hd : ((Nat.gcd a.natAbs b.natAbs : Nat) : Int) ∣ a := Int.ofNat_dvd_left.mpr (Nat.gcd_dvd_left _ _)
  obtain ⟨k, hk⟩ := hd
  have e : Int.gcd b a = Nat.gcd a.natAbs b.natAbs := by rw [Int.gcd_comm]; rfl
  rw [Rat.num_divInt, e]
  generalize ((Nat.gcd a.natAbs b.natAbs : Nat) : Int) = g at *
  have h1 : b.sign * a / g = b.sign * k := by
    rw [hk, Int.mul_comm g k, ← Int.mul_assoc, Int.mul_ediv_cancel _ hg]
  rw [h1]
  by_cases h : b < 0
  · rw [if_pos h]
    exact fdiv_exact (by omega) (by rw [Int.sign_eq_neg_one_of_neg h, hk]; grind)
  · rw [if_neg h]
    exact fdiv_exact hg (by rw [Int.sign_eq_one_of_pos (by omega), hk]; simp [Int.mul_comm])
theorem mk_bottom {a b : Int} (hb : b ≠ 0) : b.fdiv (if b < 0 then -((Nat.gcd a.natAbs b.natAbs : Nat) : Int) else ((Nat.gcd a.natAbs b.natAbs : Nat) : Int)) = ((Rat.divInt a b).den : Int) := by
  have hg := gcd_ne (a := a) hb
  have hd : Nat.gcd a.natAbs b.natAbs ∣ b.natAbs := Nat.gcd_dvd_right _ _
  obtain ⟨k, hk⟩ := hd
  have e : Int.gcd b a = Nat.gcd a.natAbs b.natAbs := by rw [Int.gcd_comm]; rfl
  rw [Rat.den_divInt, if_neg hb, e]
  have hg' : Nat.gcd a.natAbs b.natAbs ≠ 0 := by omega
  generalize Nat.gcd a.natAbs b.natAbs = g at *
  rw [hk, Nat.mul_div_cancel_left _ (by omega)]
  by_cases h : b < 0
  · rw [if_pos h]
    refine fdiv_exact (by omega) ?_
    have : b = -((g * k : Nat) : Int) := by omega
    rw [this, Int.natCast_mul]; grind
  · rw [if_neg h]
    refine fdiv_exact hg ?_
    have : b = ((g * k : Nat) : Int) := by omega
    rw [this]; simp [Int.mul_comm]
theorem d_add (a b : Rat) : Rat.divInt (a.num * b.den + b.num * a.den) (a.den * b.den) = a + b := by
  rw [Rat.add_def', ← Int.natCast_mul, Rat.divInt_ofNat]
theorem d_sub (a b : Rat) : Rat.divInt (a.num * b.den - b.num * a.den) (a.den * b.den) = a - b := by
  rw [Rat.sub_def', ← Int.natCast_mul, Rat.divInt_ofNat]
theorem d_mul (a b : Rat) : Rat.divInt (a.num * b.num) (a.den * b.den) = a * b := by
  rw [Rat.mul_def', ← Int.natCast_mul, Rat.divInt_ofNat]
theorem d_int (i : Int) : Rat.divInt i 1 = (i : Rat) := by
  rw [show (1 : Int) = ((1 : Nat) : Int) from rfl, Rat.divInt_ofNat]; exact Rat.mkRat_one i
theorem den_ne (a : Rat) : (a.den : Int) ≠ 0 := by have := a.den_nz; omega
theorem num_ne {a : Rat} (h : a ≠ 0) : a.num ≠ 0 := fun e => h (Rat.num_eq_zero.mp e)
theorem d_div (a b : Rat) (h : b ≠ 0) : Rat.divInt (a.num * b.den) (a.den * b.num) = a / b := by
  rw [Rat.divInt_eq_div]
  have ha : a = a.num / (a.den : Int) := by rw [← Rat.divInt_eq_div, Rat.num_divInt_den]
  have hb : b = b.num / (b.den : Int) := by rw [← Rat.divInt_eq_div, Rat.num_divInt_den]
  have h1 : ((a.den : Int) : Rat) ≠ 0 := by exact_mod_cast den_ne a
  have h2 : ((b.den : Int) : Rat) ≠ 0 := by exact_mod_cast den_ne b
  have h3 : ((b.num : Int) : Rat) ≠ 0 := by exact_mod_cast num_ne h
  rw [Rat.intCast_mul, Rat.intCast_mul]
  generalize ((a.den : Int) : Rat) = x at *
  generalize ((b.den : Int) : Rat) = y at *
  generalize ((a.num : Int) : Rat) = u at *
  generalize ((b.num : Int) : Rat) = v at *
  subst ha hb
  grind
/-- top and bottom below 2 ^ n -/
def Bd (n : Nat) (q : Rat) : Prop := q.num.natAbs < 2 ^ n ∧ q.den < 2 ^ n
theorem Bd.mono {n m : Nat} {q : Rat} (h : Bd n q) (l : n ≤ m) : Bd m q :=
  ⟨Nat.lt_of_lt_of_le h.1 (Nat.pow_le_pow_right (by decide) l), Nat.lt_of_lt_of_le h.2 (Nat.pow_le_pow_right (by decide) l)⟩
/-- a fraction is no greater than what it was made of -/
theorem divInt_le (p d : Int) (hd : d ≠ 0) : (Rat.divInt p d).num.natAbs ≤ p.natAbs ∧ (Rat.divInt p d).den ≤ d.natAbs := by
  constructor
  · rw [Rat.num_divInt, Int.natAbs_ediv_of_dvd]
    · rw [Int.natAbs_mul, Int.natAbs_sign_of_ne_zero hd, Nat.one_mul]
      exact Nat.div_le_self _ _
    · exact Int.dvd_trans (Int.gcd_dvd_right ..) (Int.dvd_mul_left ..)
  · rw [Rat.den_divInt, if_neg hd]
    exact Nat.div_le_self _ _
theorem bd_of {p d : Int} {n : Nat} {q : Rat} (hd : d ≠ 0) (e : q = Rat.divInt p d) (h1 : p.natAbs < 2 ^ n) (h2 : d.natAbs < 2 ^ n) : Bd n q := by
  subst e
  exact ⟨Nat.lt_of_le_of_lt (divInt_le p d hd).1 h1, Nat.lt_of_le_of_lt (divInt_le p d hd).2 h2⟩
theorem mul_lt2 {a b n m : Nat} (h1 : a < 2 ^ n) (h2 : b < 2 ^ m) : a * b < 2 ^ (n + m) := by
  rw [Nat.pow_add]; exact Nat.mul_lt_mul'' h1 h2
theorem Bd.mul {n m : Nat} {a b : Rat} (ha : Bd n a) (hb : Bd m b) : Bd (n + m) (a * b) := by
  refine bd_of ?_ (d_mul a b).symm ?_ ?_
  · exact Int.mul_ne_zero (den_ne a) (den_ne b)
  · rw [Int.natAbs_mul]; exact mul_lt2 ha.1 hb.1
  · rw [Int.natAbs_mul]; exact mul_lt2 ha.2 hb.2
theorem add_lt2 {x y n m : Nat} (h1 : x < 2 ^ (n + m)) (h2 : y < 2 ^ (n + m)) : x + y < 2 ^ (n + m + 1) := by
  rw [Nat.pow_succ]; omega
theorem Bd.add {n m : Nat} {a b : Rat} (ha : Bd n a) (hb : Bd m b) : Bd (n + m + 1) (a + b) := by
  refine bd_of ?_ (d_add a b).symm ?_ ?_
  · exact Int.mul_ne_zero (den_ne a) (den_ne b)
  · refine Nat.lt_of_le_of_lt (Int.natAbs_add_le _ _) (add_lt2 ?_ ?_)
    · rw [Int.natAbs_mul]; exact mul_lt2 ha.1 hb.2
    · rw [Int.natAbs_mul, Nat.add_comm n m]; exact mul_lt2 hb.1 ha.2
  · rw [Int.natAbs_mul]
    exact Nat.lt_of_lt_of_le (mul_lt2 ha.2 hb.2) (Nat.pow_le_pow_right (by decide) (by omega))
theorem Bd.neg {n : Nat} {a : Rat} (ha : Bd n a) : Bd n (-a) := by
  refine ⟨?_, ?_⟩
  · rw [Rat.neg_num, Int.natAbs_neg]; exact ha.1
  · rw [Rat.neg_den]; exact ha.2
theorem Bd.sub {n m : Nat} {a b : Rat} (ha : Bd n a) (hb : Bd m b) : Bd (n + m + 1) (a - b) := by
  rw [Rat.sub_eq_add_neg]; exact ha.add hb.neg
theorem Bd.div {n m : Nat} {a b : Rat} (ha : Bd n a) (hb : Bd m b) (h : b ≠ 0) : Bd (n + m) (a / b) := by
  refine bd_of ?_ (d_div a b h).symm ?_ ?_
  · exact Int.mul_ne_zero (den_ne a) (num_ne h)
  · rw [Int.natAbs_mul]; exact mul_lt2 ha.1 hb.2
  · rw [Int.natAbs_mul]; exact mul_lt2 ha.2 hb.1
theorem Bd.zero {n : Nat} (h : 0 < n) : Bd n 0 := ⟨by show (0 : Int).natAbs < _; exact Nat.pow_pos (by decide), by show 1 < 2 ^ n; exact Nat.one_lt_pow (by omega) (by decide)⟩
theorem Bd.one {n : Nat} (h : 0 < n) : Bd n 1 := ⟨by show (1 : Int).natAbs < _; exact Nat.one_lt_pow (by omega) (by decide), by show 1 < 2 ^ n; exact Nat.one_lt_pow (by omega) (by decide)⟩
/-- small enough for one more operation -/
abbrev Sm (q : Rat) : Prop := Bd 4400 q
end PN
end
section
set_option maxRecDepth 100000
set_option maxHeartbeats 4000000
namespace PN
open PySem PySem.Spec PyProof.Rows L2
/-! ### Ratio.__init__ -/
theorem qf_put (a b : V) : putF "bottom" b (putF "top" a []) = ([("top", a), ("bottom", b)] : List (Str × V)) := by
  show (if ("top" : Str) = "bottom" then _ else (("top" : Str), a) :: putF "bottom" b []) = _
  rw [if_neg (by decide +kernel)]
  rfl
theorem qf_top (q : Rat) : (qf q).lookup ("top" : Str) = some (V.int q.num) := rfl
theorem qf_bottom (q : Rat) : (qf q).lookup ("bottom" : Str) = some (V.int (q.den : Int)) := by
  have e : (("bottom" : Str) == "top") = false := by decide +kernel
  unfold qf
  rw [List.lookup_cons, e]
  rfl
def spRInit (C : Addr) : Sp := fun vs H Q _ => ∃ (x dx : Addr) (t b : Int), vs = [.ref x, .int t, .int b] ∧ H x = some (.ins C dx []) ∧ b ≠ 0 ∧ b.natAbs.log2 < 9000 ∧ Q .non (upd H x (.ins C dx (qf (Rat.divInt t b))))
theorem log2_le {a b : Nat} (h : a ≤ b) (hb : b.log2 < 9000) : a.log2 < 9000 := by
  by_cases h0 : a = 0
  · subst h0; decide +kernel
  · exact Nat.lt_of_le_of_lt ((Nat.le_log2 (by omega)).mpr (Nat.le_trans (Nat.log2_self_le h0) h)) hb
section
variable {P : Program} {w : World} {K : PySem.W.Frag} {mg : Str → Option Value} {base : Heap}
abbrev cR (K : PySem.W.Frag) : Addr := He.ga K "Ratio"
theorem sc_rinit : FnScope ["self", "top", "bottom", "common"] ["self", "top", "bottom"] (defScope sRInit) := ⟨rfl, rfl, rfl, by decide +kernel, rfl, by decide +kernel, by decide +kernel⟩
theorem ok_rinit (T : TX w K mg) {fd : FuncData} {dvs : List V} (F : FunD K "__init__" "Ratio.__init__" (defArgs sRInit) (defBody sRInit) (defScope sRInit) dvs [] (He.fAd K ("Ratio", some "__init__")) fd) :
    FnOk P w K mg base C8.CX0 1 (He.ma K (cR K) "__init__") fd ["self", "top", "bottom"] (spRInit (cR K)) := by
  refine F.ok sc_rinit (fun vs H Q E h => ?_) (fun cdv A outer s H vs Q E hr h => ?_)
  · obtain ⟨x, dx, t, b, rfl, _⟩ := h
    rfl
  · obtain ⟨x, dx, t, b, rfl, hx, hb, hl, k⟩ := h
    refine ⟨_, PSs.nox (pss_cons (ps_if (pt_cmpR op_eq (pv 2) pe_int (nomark _)) (pss_one ps_never) pss_nil)
      (pss_cons (ps_set (i := 3) sc_rinit.nd rfl (Or.inl rfl) (pe_callBfun cr_gcd rfl T.gcd (pa_cons (pv 1) (pa_cons (pv 2) pa_nil))))
      (pss_cons (ps_if (pt_cmpR op_lt (pv 2) pe_int (nomark _)) (pss_one (ps_set (i := 3) sc_rinit.nd rfl (Or.inl rfl) (pe_un un_neg (pv 3)))) pss_nil)
      (pss_cons (ps_fld (pv 0) (pe_op op_fdivX (pv 1) (pv 3)) rfl)
      (pss_one (ps_fld (pv 0) (pe_op op_fdivX (pv 2) (pv 3)) rfl)))))), ?_⟩
    have hg := gcd_ne (a := t) hb
    have hgl : Nat.gcd t.natAbs b.natAbs ≤ b.natAbs := Nat.le_of_dvd (by omega) (Nat.gcd_dvd_right _ _)
    refine ⟨_, rfl, rfl, _, rfl, ?_⟩
    have hd : decide (V.int b = V.int 0) = false := decide_eq_false fun e => hb (by injection e)
    rw [hd]
    refine iteF ?_
    refine ⟨_, rfl, _, rfl, t, b, rfl, ?_⟩
    refine ⟨_, rfl, _, _, rfl, rfl, _, rfl, ?_⟩
    have fin : ∀ g : Int, g ≠ 0 → g.natAbs ≤ b.natAbs → t.fdiv g = (Rat.divInt t b).num → b.fdiv g = ((Rat.divInt t b).den : Int) →
        tSeq (sFld K (tVar 0) (tOp (rI CDivX fun i j => V.int (i.fdiv j)) (tVar 1) (tVar 3)) "top") (sFld K (tVar 0) (tOp (rI CDivX fun i j => V.int (i.fdiv j)) (tVar 2) (tVar 3)) "bottom") { nx := fun _ H' => Q .non H', rt := Q } [some (.ref x), some (.int t), some (.int b), some (.int g)] H := fun g hg hgl e1 e2 => by
      have cd : ∀ i, CDivX i g := fun i => ⟨hg, log2_le hgl hl⟩
      refine ⟨_, rfl, _, rfl, _, _, rfl, rfl, cd _, _, rfl, x, _, dx, _, rfl, hx, c_Ratio T, na_Ratio_top T, by show 0 < 1000; decide, ?_⟩
      refine ⟨_, rfl, _, rfl, _, _, rfl, rfl, cd _, _, rfl, x, _, dx, _, rfl, upd_same, c_Ratio T, na_Ratio_bottom T, by show 1 < 1000; decide, ?_⟩
      show Q .non (upd (upd H x (.ins (cR K) dx (putF "top" (.int (t.fdiv g)) []))) x (.ins (cR K) dx (putF "bottom" (.int (b.fdiv g)) (putF "top" (.int (t.fdiv g)) []))))
      rw [upd_upd, e1, e2, qf_put]
      exact k
    have m1 := mk_top (a := t) hb
    have m2 := mk_bottom (a := t) hb
    refine ite2 (fun hneg => ?_) (fun hneg => ?_)
    · have hn : b < 0 := of_decide_eq_true hneg
      rw [if_pos hn] at m1 m2
      exact ⟨_, rfl, _, rfl, fin _ (by omega) (by omega) m1 m2⟩
    · have hn : ¬ b < 0 := fun q => hneg (decide_eq_true q)
      rw [if_neg hn] at m1 m2
      exact fin _ hg (by omega) m1 m2
/-- Ratio(t, b) and Ratio(t) -/
theorem mk_R2 (T : TX w K mg) : C8.Mak P w K mg base 1 "Ratio" (cR K) (spRInit (cR K)) [] := by
  obtain ⟨fd, F⟩ := d_Ratio___init__ T
  obtain ⟨ds, hv, hb⟩ := F.binds1 (ps := ["self", "top", "bottom"]) 3 1 (by simp) rfl fun _ _ _ _ _ _ _ us its h1 h2 => match us, its, h1, h2 with
    | [_, _, _], [_], _, _ => ⟨_, rfl, rfl⟩
  exact ⟨_, fd, _, ds, mk_Ratio T, ok_rinit T F, g_Ratio T, hb, hv⟩
theorem mk_R1 (T : TX w K mg) : C8.Mak P w K mg base 1 "Ratio" (cR K) (spRInit (cR K)) [.int 1] := by
  obtain ⟨fd, F⟩ := d_Ratio___init__ T
  obtain ⟨ds, hv, hb⟩ := F.binds1 (ps := ["self", "top", "bottom"]) 2 0 (by simp) rfl fun _ _ _ _ _ _ _ us its h1 h2 => match us, its, h1, h2 with
    | [_, _], [_], _, _ => ⟨_, rfl, rfl⟩
  exact ⟨_, fd, _, ds, mk_Ratio T, ok_rinit T F, g_Ratio T, hb, hv⟩
/-- what its making leaves -/
theorem made_Q {C : Addr} {H : Hp} {x dx : Addr} {q : Rat} (nx : H x = none) (nd : H dx = none) :
    Same H (upd (upd (upd H dx (.own x)) x (.ins C dx [])) x (.ins C dx (qf q))) ∧ IsQ C (upd (upd (upd H dx (.own x)) x (.ins C dx [])) x (.ins C dx (qf q))) (.ref x) q := by
  refine ⟨fun b o e => ?_, x, dx, rfl, upd_same⟩
  rw [upd_upd, upd_ne (ne_of_none e nx), upd_ne (ne_of_none e nd)]
  exact e
/-- the reading of Ratio(t, b), behind its arguments -/
theorem rd_make {C : Addr} {H : Hp} {t b : Int} {q : Rat} {Q : VK} {E : XK} (hb : b ≠ 0) (hl : b.natAbs.log2 < 9000) (e : Rat.divInt t b = q) (k : ∀ H' z, Same H H' → IsQ C H' z q → Q z H') :
    ∀ x dx, H x = none → H dx = none → dx ≠ x → spRInit C [.ref x, .int t, .int b] (upd (upd H dx (.own x)) x (.ins C dx [])) (fun v H2 => v = .non ∧ Q (.ref x) H2) E := fun x dx nx nd ne => by
  refine ⟨x, dx, t, b, rfl, upd_same, hb, hl, rfl, ?_⟩
  rw [e]
  obtain ⟨h1, h2⟩ := made_Q (C := C) (q := q) nx nd
  exact k _ _ h1 h2
/-- .. for what follows at once -/
theorem rd_mk {C : Addr} {H : Hp} {t b : Int} {q : Rat} {R : Hp → Prop} {E : XK} {x dx : Addr} (nx : H x = none) (nd : H dx = none) (hb : b ≠ 0) (hl : b.natAbs.log2 < 9000) (e : Rat.divInt t b = q) (k : ∀ H', Same H H' → IsQ C H' (.ref x) q → R H') :
    spRInit C [.ref x, .int t, .int b] (upd (upd H dx (.own x)) x (.ins C dx [])) (fun v H2 => v = .non ∧ R H2) E := by
  refine ⟨x, dx, t, b, rfl, upd_same, hb, hl, rfl, ?_⟩
  rw [e]
  obtain ⟨h1, h2⟩ := made_Q (C := C) (q := q) nx nd
  exact k _ h1 h2
theorem rd_top (T : TX w K mg) {H : Hp} {v : V} {q : Rat} {x : Option (Option V)} {Q : V → Prop} (h : IsQ (cR K) H v q) (e : x = some (some v)) (k : Q (.int q.num)) :
    ∃ u, x = some (some u) ∧ ∃ (a C dx : Addr) (fs : List (Str × V)) (z : V), u = V.ref a ∧ H a = some (.ins C dx fs) ∧ Cls K C ∧ NoAttr K C "top" ∧ fs.lookup ("top" : Str) = some z ∧ Q z := by
  obtain ⟨a, dx, rfl, ha⟩ := h
  exact ⟨_, e, a, _, dx, _, _, rfl, ha, c_Ratio T, na_Ratio_top T, qf_top q, k⟩
theorem rd_bottom (T : TX w K mg) {H : Hp} {v : V} {q : Rat} {x : Option (Option V)} {Q : V → Prop} (h : IsQ (cR K) H v q) (e : x = some (some v)) (k : Q (.int (q.den : Int))) :
    ∃ u, x = some (some u) ∧ ∃ (a C dx : Addr) (fs : List (Str × V)) (z : V), u = V.ref a ∧ H a = some (.ins C dx fs) ∧ Cls K C ∧ NoAttr K C "bottom" ∧ fs.lookup ("bottom" : Str) = some z ∧ Q z := by
  obtain ⟨a, dx, rfl, ha⟩ := h
  exact ⟨_, e, a, _, dx, _, _, rfl, ha, c_Ratio T, na_Ratio_bottom T, qf_bottom q, k⟩
/-- v op u of two small fractions -/
def spQ2 (C : Addr) (ok : Rat → Rat → Prop) (f : Rat → Rat → Rat) : Sp := fun vs H Q _ => ∃ (v u : V) (p q : Rat), vs = [v, u] ∧ IsQ C H v p ∧ IsQ C H u q ∧ Sm p ∧ Sm q ∧ ok p q ∧ ∀ H' z, Same H H' → IsQ C H' z (f p q) → Q z H'
theorem sm_mulW {a b : Int} (ha : a.natAbs < 2 ^ 4400) (hb : b.natAbs < 2 ^ 4400) : CMulW a b := wide_mul ha hb (by decide) (by decide) (by decide)
theorem sm_den {q : Rat} (h : Sm q) : ((q.den : Int)).natAbs < 2 ^ 4400 := h.2
theorem sm_log {a b : Int} (ha : a.natAbs < 2 ^ 4400) (hb : b.natAbs < 2 ^ 4400) : (a * b).natAbs.log2 < 9000 :=
  Nat.lt_of_lt_of_le (PySem.Flt.log2_lt_of (by decide) (wide_lt ha hb)) (by decide)
theorem sc_radd : FnScope ["self", "other"] ["self", "other"] (defScope sRAdd) := ⟨rfl, rfl, rfl, by decide +kernel, rfl, by decide +kernel, by decide +kernel⟩
theorem ok_radd (T : TX w K mg) : C8.Met P w K mg base 3 (cR K) "__add__" (spQ2 (cR K) (fun _ _ => True) (· + ·)) [] := by
  refine met1 (c_Ratio T) (me_Ratio___add__ T) (d_Ratio___add__ T) (ps := ["self", "other"]) (fun _ _ _ _ _ _ us hl => match us, hl with | [_, _], _ => rfl) sc_radd (fun vs H Q E h => ?_) (fun cdv A outer s H vs Q E hr h => ?_)
  · obtain ⟨v, u, p, q, rfl, _⟩ := h
    rfl
  · obtain ⟨v, u, p, q, rfl, hv, hu, sp, sq, _, k⟩ := h
    refine ⟨_, pss_one (ps_ret (C8.pe_mk (mk_R2 T) hr (by decide) rfl (pa_cons (pe_op op_add (pe_op op_mulW (pe_fld (pv 0) rfl) (pe_fld (pv 1) rfl)) (pe_op op_mulW (pe_fld (pv 1) rfl) (pe_fld (pv 0) rfl))) (pa_cons (pe_op op_mulW (pe_fld (pv 0) rfl) (pe_fld (pv 1) rfl)) pa_nil)))), ?_⟩
    refine rd_top T hv (by rfl) ?_
    refine rd_bottom T hu (by rfl) ?_
    refine ⟨_, _, rfl, rfl, sm_mulW sp.1 (sm_den sq), ?_⟩
    refine rd_top T hu (by rfl) ?_
    refine rd_bottom T hv (by rfl) ?_
    refine ⟨_, _, rfl, rfl, sm_mulW sq.1 (sm_den sp), _, _, rfl, rfl, ?_⟩
    refine rd_bottom T hv (by rfl) ?_
    refine rd_bottom T hu (by rfl) ?_
    refine ⟨_, _, rfl, rfl, sm_mulW (sm_den sp) (sm_den sq), ?_⟩
    exact rd_make (Int.mul_ne_zero (den_ne p) (den_ne q)) (sm_log (sm_den sp) (sm_den sq)) (d_add p q) k
theorem sc_rsub : FnScope ["self", "other"] ["self", "other"] (defScope sRSub) := ⟨rfl, rfl, rfl, by decide +kernel, rfl, by decide +kernel, by decide +kernel⟩
theorem ok_rsub (T : TX w K mg) : C8.Met P w K mg base 3 (cR K) "__sub__" (spQ2 (cR K) (fun _ _ => True) (· - ·)) [] := by
  refine met1 (c_Ratio T) (me_Ratio___sub__ T) (d_Ratio___sub__ T) (ps := ["self", "other"]) (fun _ _ _ _ _ _ us hl => match us, hl with | [_, _], _ => rfl) sc_rsub (fun vs H Q E h => ?_) (fun cdv A outer s H vs Q E hr h => ?_)
  · obtain ⟨v, u, p, q, rfl, _⟩ := h
    rfl
  · obtain ⟨v, u, p, q, rfl, hv, hu, sp, sq, _, k⟩ := h
    refine ⟨_, pss_one (ps_ret (C8.pe_mk (mk_R2 T) hr (by decide) rfl (pa_cons (pe_op op_sub (pe_op op_mulW (pe_fld (pv 0) rfl) (pe_fld (pv 1) rfl)) (pe_op op_mulW (pe_fld (pv 1) rfl) (pe_fld (pv 0) rfl))) (pa_cons (pe_op op_mulW (pe_fld (pv 0) rfl) (pe_fld (pv 1) rfl)) pa_nil)))), ?_⟩
    refine rd_top T hv (by rfl) ?_
    refine rd_bottom T hu (by rfl) ?_
    refine ⟨_, _, rfl, rfl, sm_mulW sp.1 (sm_den sq), ?_⟩
    refine rd_top T hu (by rfl) ?_
    refine rd_bottom T hv (by rfl) ?_
    refine ⟨_, _, rfl, rfl, sm_mulW sq.1 (sm_den sp), _, _, rfl, rfl, ?_⟩
    refine rd_bottom T hv (by rfl) ?_
    refine rd_bottom T hu (by rfl) ?_
    refine ⟨_, _, rfl, rfl, sm_mulW (sm_den sp) (sm_den sq), ?_⟩
    exact rd_make (Int.mul_ne_zero (den_ne p) (den_ne q)) (sm_log (sm_den sp) (sm_den sq)) (d_sub p q) k
theorem sc_rmul : FnScope ["self", "other"] ["self", "other"] (defScope sRMul) := ⟨rfl, rfl, rfl, by decide +kernel, rfl, by decide +kernel, by decide +kernel⟩
theorem ok_rmul (T : TX w K mg) : C8.Met P w K mg base 3 (cR K) "__mul__" (spQ2 (cR K) (fun _ _ => True) (· * ·)) [] := by
  refine met1 (c_Ratio T) (me_Ratio___mul__ T) (d_Ratio___mul__ T) (ps := ["self", "other"]) (fun _ _ _ _ _ _ us hl => match us, hl with | [_, _], _ => rfl) sc_rmul (fun vs H Q E h => ?_) (fun cdv A outer s H vs Q E hr h => ?_)
  · obtain ⟨v, u, p, q, rfl, _⟩ := h
    rfl
  · obtain ⟨v, u, p, q, rfl, hv, hu, sp, sq, _, k⟩ := h
    refine ⟨_, pss_one (ps_ret (C8.pe_mk (mk_R2 T) hr (by decide) rfl (pa_cons (pe_op op_mulW (pe_fld (pv 0) rfl) (pe_fld (pv 1) rfl)) (pa_cons (pe_op op_mulW (pe_fld (pv 0) rfl) (pe_fld (pv 1) rfl)) pa_nil)))), ?_⟩
    refine rd_top T hv (by rfl) ?_
    refine rd_top T hu (by rfl) ?_
    refine ⟨_, _, rfl, rfl, sm_mulW sp.1 sq.1, ?_⟩
    refine rd_bottom T hv (by rfl) ?_
    refine rd_bottom T hu (by rfl) ?_
    refine ⟨_, _, rfl, rfl, sm_mulW (sm_den sp) (sm_den sq), ?_⟩
    exact rd_make (Int.mul_ne_zero (den_ne p) (den_ne q)) (sm_log (sm_den sp) (sm_den sq)) (d_mul p q) k
theorem sc_rover : FnScope ["self", "other"] ["self", "other"] (defScope sROver) := ⟨rfl, rfl, rfl, by decide +kernel, rfl, by decide +kernel, by decide +kernel⟩
theorem ok_rover (T : TX w K mg) : C8.Met P w K mg base 3 (cR K) "over" (spQ2 (cR K) (fun _ q => q ≠ 0) (· / ·)) [] := by
  refine met1 (c_Ratio T) (me_Ratio_over T) (d_Ratio_over T) (ps := ["self", "other"]) (fun _ _ _ _ _ _ us hl => match us, hl with | [_, _], _ => rfl) sc_rover (fun vs H Q E h => ?_) (fun cdv A outer s H vs Q E hr h => ?_)
  · obtain ⟨v, u, p, q, rfl, _⟩ := h
    rfl
  · obtain ⟨v, u, p, q, rfl, hv, hu, sp, sq, h0, k⟩ := h
    refine ⟨_, pss_one (ps_ret (C8.pe_mk (mk_R2 T) hr (by decide) rfl (pa_cons (pe_op op_mulW (pe_fld (pv 0) rfl) (pe_fld (pv 1) rfl)) (pa_cons (pe_op op_mulW (pe_fld (pv 0) rfl) (pe_fld (pv 1) rfl)) pa_nil)))), ?_⟩
    refine rd_top T hv (by rfl) ?_
    refine rd_bottom T hu (by rfl) ?_
    refine ⟨_, _, rfl, rfl, sm_mulW sp.1 (sm_den sq), ?_⟩
    refine rd_bottom T hv (by rfl) ?_
    refine rd_top T hu (by rfl) ?_
    refine ⟨_, _, rfl, rfl, sm_mulW (sm_den sp) sq.1, ?_⟩
    exact rd_make (Int.mul_ne_zero (den_ne p) (num_ne h0)) (sm_log (sm_den sp) sq.1) (d_div p q h0) k
/-- the operators on fractions -/
theorem op_qadd {X : Cx} {j : Nat} (T : TX w K mg) (hr : Room j X.A) (hj : 3 ≤ j) (e1 : X.w = w := by rfl) (e2 : X.K = K := by rfl) (e3 : X.mg = mg := by rfl) : OpR X (binaryOp .Add) (rBin (cR K) (spQ2 (cR K) (fun _ _ => True) (· + ·)) C8.E0) := by
  subst e1 e2 e3; exact op_met (by rfl) T.first (ok_radd T) hr hj
theorem op_qsub {X : Cx} {j : Nat} (T : TX w K mg) (hr : Room j X.A) (hj : 3 ≤ j) (e1 : X.w = w := by rfl) (e2 : X.K = K := by rfl) (e3 : X.mg = mg := by rfl) : OpR X (binaryOp .Sub) (rBin (cR K) (spQ2 (cR K) (fun _ _ => True) (· - ·)) C8.E0) := by
  subst e1 e2 e3; exact op_met (by rfl) T.first (ok_rsub T) hr hj
theorem op_qmul {X : Cx} {j : Nat} (T : TX w K mg) (hr : Room j X.A) (hj : 3 ≤ j) (e1 : X.w = w := by rfl) (e2 : X.K = K := by rfl) (e3 : X.mg = mg := by rfl) : OpR X (binaryOp .Mult) (rBin (cR K) (spQ2 (cR K) (fun _ _ => True) (· * ·)) C8.E0) := by
  subst e1 e2 e3; exact op_met (by rfl) T.first (ok_rmul T) hr hj
theorem rd_q2 {C : Addr} {f : Rat → Rat → Rat} {H : Hp} {v u : V} {p q : Rat} {Q : VK} (hv : IsQ C H v p) (hu : IsQ C H u q) (sp : Sm p) (sq : Sm q) (k : ∀ H' z, Same H H' → IsQ C H' z (f p q) → Q z H') : rBin C (spQ2 C (fun _ _ => True) f) C8.E0 v u H Q := by
  obtain ⟨a, dx, e1, ha⟩ := id hv
  obtain ⟨b, dy, e2, hb⟩ := id hu
  exact ⟨a, dx, _, b, dy, _, e1, e2, ha, hb, v, u, p, q, rfl, hv, hu, sp, sq, trivial, k⟩
end
/-! ### rules whose reading names the written part, said of a K of one's own (for the blocks of comprehensions) -/
section
variable {X : Cx} {K : PySem.W.Frag}
theorem pe_tupK {a : Expr} {ta : TE} {p pos : Pos} (hg : Gl X "tuple") (hm : X.mg "tuple" = none) (ha : PE X a ta) (e : X.K = K := by rfl) (na : starEach [a] X.env = (false, eval a X.env) :: starEach [] X.env := by rfl) : PE X (.Call (.Name "tuple" p) [a] [] pos) (tThen ta (kTup K)) := by
  subst e; exact pe_tupleOf hg hm ha na
theorem pi_tupK {tg l : Expr} {tl : TE} (hl : PE X l tl) (e : X.K = K := by rfl) : PI X tg l (iTup K tl) := by subst e; exact pi_tup hl
theorem pi_listK {tg l : Expr} {tl : TE} (hl : PE X l tl) (e : X.K = K := by rfl) : PI X tg l (iList K tl) := by subst e; exact pi_list hl
theorem pe_ixTK {a b : Expr} {ta tb : TE} {pos : Pos} (ha : PE X a ta) (hb : PE X b tb) (hs : PlainIx b) (e : X.K = K := by rfl) : PE X (.Subscript a b pos) (tOp (rIxT K) ta tb) := by subst e; exact pe_ix ix_tup ha hb hs
theorem pe_ixLK {a b : Expr} {ta tb : TE} {pos : Pos} (ha : PE X a ta) (hb : PE X b tb) (hs : PlainIx b) (e : X.K = K := by rfl) : PE X (.Subscript a b pos) (tOp (rIxL K) ta tb) := by subst e; exact pe_ix ix_list ha hb hs
theorem pe_fldK {e : Expr} {f : Str} {ta : TE} {pos : Pos} (he : PE X e ta) (hb : attributeBase e f X.env (eval e X.env) = eval e X.env) (eK : X.K = K := by rfl) : PE X (.Attribute e f pos) (tFld K ta f) := by subst eK; exact pe_fld he hb
theorem pg_pairK {a b : Expr} {k : Nat} {pos : Pos} {ta tb : TG} (hc : X.calm = true) (h1 : PG X a ta) (h2 : PG X b tb) (e : X.K = K := by rfl)
    (hs1 : (assignEach [a, b] X.env).map (·.2) = assign a X.env :: (assignEach [b] X.env).map (·.2) := by rfl) (hs2 : (assignEach [b] X.env).map (·.2) = assign b X.env :: (assignEach [] X.env).map (·.2) := by rfl)
    (hn : (assignEach [a, b] X.env).length = 2 := by rfl) (hst : (assignEach [a, b] X.env).findIdx? (·.1) = none := by rfl) : PG X (.Tuple [a, b] k pos) (gTup K 2 (gCons ta (gCons tb gNil))) := by
  subst e; exact pg_tup hc (pgs_cons h1 (pgs_cons h2 pgs_nil hs2) hs1) hn hst
theorem pi_zipK {e e2 : Expr} {ta : TA} {p pos tpos : Pos} {elts : List Expr} {kk : Nat} (hg : Gl X "zip") (hm : X.mg "zip" = none) (ha : PA X [e, e2] ta) (eK : X.K = K := by rfl)
    (hs : starEach [e, e2] X.env = (false, eval e X.env) :: starEach [e2] X.env := by rfl) (hpl : (backTo pos (starEach [e2] X.env)).any (·.1) = false := by rfl) :
    PI X (.Tuple elts kk tpos) (.Call (.Name "zip" p) [e, e2] [] pos) (RZ.iZipA K ta) := by subst eK; exact RZ.pi_zipA hg hm ha hs hpl
end
end PN
end
section
namespace PN
/-! ### the program's vectors and matrices as plain lists -/
def dotA (t : Rat) : List Rat → List Rat → Rat
  | x :: xs, y :: ys => dotA (t + x * y) xs ys
  | _, _ => t
def dot (a b : List Rat) : Rat := dotA 0 a b
def scale (f : Rat) (a : List Rat) : List Rat := a.map (f * ·)
def plus (a b : List Rat) : List Rat := List.zipWith (· + ·) a b
def minus (a b : List Rat) : List Rat := List.zipWith (· - ·) a b
def zero (w : Nat) : List Rat := List.replicate w 0
def unit (w i : Nat) : List Rat := (List.range w).map fun k => if k = i then 1 else 0
abbrev Mat := List (List Rat)
def col (m : Mat) (c : Nat) : List Rat := m.map (·.getD c 0)
def transpose (m : Mat) (w : Nat) : Mat := (List.range w).map (col m)
def apply (m : Mat) (v : List Rat) : List Rat := m.map (dot · v)
def product (f s : Mat) (w : Nat) : Mat := f.map (apply (transpose s w))
def identity (w : Nat) : Mat := (List.range w).map (unit w)
def zeros (h w : Nat) : Mat := List.replicate h (zero w)
def outer (a b : List Rat) : Mat := a.map (scale · b)
def sumOf (f s : Mat) : Mat := List.zipWith plus f s
def scaled (f : Rat) (m : Mat) : Mat := m.map (scale f)
/-! ### sizes -/
def Vb (n : Nat) (a : List Rat) : Prop := a.length ≤ 100 ∧ ∀ x ∈ a, Bd n x
def Mb (n : Nat) (m : Mat) : Prop := m.length ≤ 100 ∧ ∀ r ∈ m, Vb n r
theorem Vb.mono {n m : Nat} {a : List Rat} (h : Vb n a) (l : n ≤ m) : Vb m a := ⟨h.1, fun x hx => (h.2 x hx).mono l⟩
theorem Mb.mono {n m : Nat} {a : Mat} (h : Mb n a) (l : n ≤ m) : Mb m a := ⟨h.1, fun x hx => (h.2 x hx).mono l⟩
theorem Vb.at {n : Nat} {a : List Rat} {i : Nat} {x : Rat} (h : Vb n a) (e : a[i]? = some x) : Bd n x := h.2 x (List.mem_of_getElem? e)
theorem Mb.at {n : Nat} {m : Mat} {i : Nat} {r : List Rat} (h : Mb n m) (e : m[i]? = some r) : Vb n r := h.2 r (List.mem_of_getElem? e)
theorem dotA_snoc : ∀ {a b : List Rat} {t : Rat} {i : Nat} {x y : Rat}, a[i]? = some x → b[i]? = some y → dotA t (a.take (i + 1)) (b.take (i + 1)) = dotA t (a.take i) (b.take i) + x * y
  | [], _, _, _, _, _, h, _ => by simp at h
  | _ :: _, [], _, _, _, _, _, h => by simp at h
  | a :: as, b :: bs, t, 0, x, y, h1, h2 => by
    simp at h1 h2; subst h1; subst h2; rfl
  | a :: as, b :: bs, t, i + 1, x, y, h1, h2 => by
    have ih := dotA_snoc (a := as) (b := bs) (t := t + a * b) (i := i) (x := x) (y := y) (by simpa using h1) (by simpa using h2)
    exact ih
theorem dotA_bd {n m : Nat} {a b : List Rat} (ha : ∀ x ∈ a, Bd n x) (hb : ∀ x ∈ b, Bd m x) (hl : a.length = b.length) : ∀ i, i ≤ a.length → Bd (i * (n + m + 1) + 1) (dotA 0 (a.take i) (b.take i))
  | 0, _ => by
    show Bd _ (dotA 0 [] [])
    exact Bd.zero (by omega)
  | i + 1, h => by
    have ih := dotA_bd ha hb hl i (by omega)
    have e1 : a[i]? = some a[i] := List.getElem?_eq_getElem (by omega)
    have e2 : b[i]? = some b[i] := List.getElem?_eq_getElem (by omega)
    rw [dotA_snoc e1 e2]
    refine (ih.add ((ha _ (List.getElem_mem (by omega))).mul (hb _ (List.getElem_mem (by omega))))).mono ?_
    rw [Nat.add_mul]; omega
theorem dot_bd {n m : Nat} {a b : List Rat} (ha : ∀ x ∈ a, Bd n x) (hb : ∀ x ∈ b, Bd m x) (hl : a.length = b.length) : Bd (a.length * (n + m + 1) + 1) (dot a b) := by
  have h := dotA_bd ha hb hl a.length (Nat.le_refl _)
  rw [List.take_length, hl, List.take_length] at h
  rw [hl]
  exact h
end PN
end
section
set_option maxRecDepth 100000
set_option maxHeartbeats 4000000
namespace PN
open PySem PySem.Spec PyProof.Rows L2
theorem IsV.len {C : Addr} {H : Hp} {v : V} {a : List Rat} (h : IsV C H v a) : ∃ p xs, v = .ref p ∧ H p = some (.tup xs) ∧ Al (IsQ C) H xs a := h
/-- behind the list of a comprehension: its tuple -/
theorem tup_done {α : Type} {R : Rp α} (hR : Fzm R) {K : PySem.W.Frag} {H1 H' : Hp} {D : Addr} {acc : List V} {ys : List α} {Q : VK} (s' : Same H1 H') (hacc : H' D = some (.lst acc)) (al : Al R H' acc ys) (k : ∀ H'' z, Same H1 H'' → Tup R H'' z ys → Q z H'') : kTup K (.ref D) H' Q :=
  .inl ⟨D, acc, rfl, SqL.of hacc, fun q hq => k _ _ (sm_upd' s' hq) ⟨q, acc, rfl, upd_same, al.mono hR (Fz.of (sm_upd hq))⟩⟩
theorem get_map {α β : Type} {f : α → β} {l : List α} {i : Nat} {x : α} {y : β} (h1 : l[i]? = some x) (h2 : (l.map f)[i]? = some y) : y = f x := by
  rw [List.getElem?_map, h1] at h2; exact (Option.some.inj h2).symm
theorem get_zip {α β γ : Type} {f : α → β → γ} {l : List α} {m : List β} {i : Nat} {x : α} {y : β} {z : γ} (h1 : l[i]? = some x) (h2 : m[i]? = some y) (h3 : (List.zipWith f l m)[i]? = some z) : z = f x y := by
  rw [List.getElem?_zipWith, h1, h2] at h3; exact (Option.some.inj h3).symm
theorem get_rep {α : Type} {n i : Nat} {x y : α} (h : (List.replicate n x)[i]? = some y) : y = x := by
  have := List.mem_of_getElem? h
  exact List.eq_of_mem_replicate this
theorem get_range {β : Type} {f : Nat → β} {n i : Nat} {y : β} (h : ((List.range n).map f)[i]? = some y) : i < n ∧ y = f i := by
  have hi : i < n := by have := (List.getElem?_eq_some_iff.mp h).1; simpa using this
  rw [List.getElem?_map, List.getElem?_range hi] at h
  exact ⟨hi, (Option.some.inj h).symm⟩
section
variable {P : Program} {w : World} {K : PySem.W.Frag} {mg : Str → Option Value} {base : Heap}
/-! ### dot -/
def spDot (C : Addr) : Sp := fun vs H Q _ => ∃ (v u : V) (a b : List Rat) (n m : Nat), vs = [v, u] ∧ IsV C H v a ∧ IsV C H u b ∧ Vb n a ∧ Vb m b ∧ a.length = b.length ∧ a.length * (n + m + 1) + n + m + 1 ≤ 4400 ∧ ∀ H' z, Same H H' → IsQ C H' z (dot a b) → Q z H'
theorem sc_dot : FnScope ["a", "b", "total", "x", "y"] ["a", "b"] (defScope sDot) := ⟨rfl, rfl, rfl, by decide +kernel, rfl, by decide +kernel, by decide +kernel⟩
theorem ok_dot (T : TX w K mg) : C8.Cal P w K mg base 4 "dot" (spDot (cR K)) [] := by
  refine cal1 (d_dot T) (g_dot T) (ps := ["a", "b"]) (fun _ _ _ _ _ _ us hl => match us, hl with | [_, _], _ => rfl) sc_dot (fun vs H Q E h => ?_) (fun cdv A outer s H vs Q E hr h => ?_)
  · obtain ⟨v, u, a, b, n, m, rfl, _⟩ := h
    rfl
  · obtain ⟨v, u, a, b, n, m, rfl, hv, hu, va, vb, hl, hsz, k⟩ := h
    refine ⟨_, pss_cons (ps_set (i := 2) sc_dot.nd rfl (Or.inl rfl) (C8.pe_mk (mk_R1 T) hr (by decide) rfl (pa_cons pe_int pa_nil)))
      (pss_cons (ps_for PassesOwn.never rfl (RZ.pi_zipA rfl (n_zip T) (pa_cons (pv 0) (pa_cons (pv 1) pa_nil))) (pg_tup rfl (pgs_cons (pg_name (i := 3) sc_dot.nd rfl (Or.inl rfl)) (pgs_cons (pg_name (i := 4) sc_dot.nd rfl (Or.inl rfl)) pgs_nil)))
        (pss_one (ps_set (i := 2) sc_dot.nd rfl (Or.inl rfl) (pe_op (op_qadd (j := 3) T hr (by decide)) (pv 2) (pe_op (op_qmul (j := 3) T hr (by decide)) (pv 3) (pv 4))))))
      (pss_one (ps_ret (pv 2)))), ?_⟩
    obtain ⟨p, xs, rfl, hp, ax⟩ := hv
    obtain ⟨q, ys, rfl, hq, ay⟩ := hu
    refine fun x0 dx0 nx0 nd0 ne0 => rd_mk (q := 0) nx0 nd0 (by decide) (by decide +kernel) (d_int 0) fun H1 s1 hz => ?_
    refine ⟨_, rfl, _, rfl, p, q, xs, ys, rfl, .inr ⟨SqT.of (s1 _ _ hp), SqT.of (s1 _ _ hq), ?_⟩⟩
    refine RZ.for_zipT (by rw [ax.1, ay.1, hl]) (fun i σ H' => ∃ (t : V) (x y : Option V), σ = [some (.ref p), some (.ref q), some t, x, y] ∧ Same H H' ∧ IsQ (cR K) H' t (dotA 0 (a.take i) (b.take i)))
      ⟨_, none, none, rfl, s1, hz⟩ (fun i σ H' ⟨_, _, _, _, s', _⟩ => ⟨SqT.of (s' _ _ hp), SqT.of (s' _ _ hq)⟩) ?_ ?_
    · rintro i x y T' σ H' hx hy ⟨t, x0, y0, rfl, s', ht⟩ hT
      obtain ⟨qx, ex, rx⟩ := ax.get hx
      obtain ⟨qy, ey, ry⟩ := ay.get hy
      have hi : i < a.length := (List.getElem?_eq_some_iff.mp ex).1
      have f : Fz H (upd H' T' (.tup [x, y])) := Fz.of (sm_upd' s' hT)
      have bx := va.at ex
      have b_y := vb.at ey
      have bt := dotA_bd va.2 vb.2 hl i (by omega)
      have hm : i * (n + m + 1) ≤ a.length * (n + m + 1) := Nat.mul_le_mul_right _ (by omega)
      refine ⟨T', _, rfl, SqT.of upd_same, rfl, x, _, rfl, y, _, rfl, rfl, ?_⟩
      refine ⟨_, rfl, _, rfl, _, rfl, ?_⟩
      refine rd_q2 (IsQ.fz _ _ _ _ f rx) (IsQ.fz _ _ _ _ f ry) (bx.mono (by omega)) (b_y.mono (by omega)) fun H2 z2 s2 h2 => ?_
      refine rd_q2 (IsQ.fz _ _ _ _ (Fz.of ((sm_upd hT).trans s2)) ht) h2 (bt.mono (by omega)) ((bx.mul b_y).mono (by omega)) fun H3 z3 s3 h3 => ?_
      refine ⟨z3, some x, some y, rfl, ((sm_upd' s' hT).trans s2).trans s3, ?_⟩
      rw [dotA_snoc ex ey]
      exact h3
    · rintro σ H' ⟨t, x0, y0, rfl, s', ht⟩
      refine ⟨_, rfl, k _ _ s' ?_⟩
      have e : dotA 0 (a.take xs.length) (b.take xs.length) = dot a b := by
        rw [ax.1, List.take_length, hl, List.take_length]; rfl
      rw [← e]
      exact ht
/-! ### scale -/
def spScale (C : Addr) : Sp := fun vs H Q _ => ∃ (v u : V) (f : Rat) (a : List Rat), vs = [v, u] ∧ IsQ C H v f ∧ IsV C H u a ∧ Sm f ∧ Vb 4400 a ∧ ∀ H' z, Same H H' → IsV C H' z (scale f a) → Q z H'
theorem sc_scale : FnScope ["factor", "a", "x"] ["factor", "a"] (defScope sScale) := ⟨rfl, rfl, rfl, by decide +kernel, rfl, by decide +kernel, by decide +kernel⟩
theorem ok_scale (T : TX w K mg) : C8.Cal P w K mg base 4 "scale" (spScale (cR K)) [] := by
  refine cal1 (d_scale T) (g_scale T) (ps := ["factor", "a"]) (fun _ _ _ _ _ _ us hl => match us, hl with | [_, _], _ => rfl) sc_scale (fun vs H Q E h => ?_) (fun cdv A outer s H vs Q E hr h => ?_)
  · obtain ⟨v, u, f, a, rfl, _⟩ := h
    rfl
  · obtain ⟨v, u, f, a, rfl, hv, hu, sf, va, k⟩ := h
    refine ⟨_, pss_one (ps_ret (pe_tupleOf rfl (n_tuple T) (pe_lc (own := [("x", 2)]) (g := gName 2) (by rfl) sc_scale.nd (pi_tup (pv 1)) (blkOk_by (own := [("x", 2)]) (N := ["factor", "a", "x"]) (sc := defScope sScale) (by decide +kernel))
      (fun _ _ _ _ _ => pg_name (i := 2) sc_scale.nd rfl (Or.inl rfl)) (fun _ _ _ _ _ => pts_nil) (fun _ _ _ _ _ => pe_op (op_qmul (j := 3) T hr (by decide)) (pv 0) (pv 2))))), ?_⟩
    obtain ⟨p, xs, rfl, hp, ax⟩ := hu
    refine ⟨_, rfl, p, rfl, ⟨_, SqT.of hp⟩, fun D hD => ?_⟩
    refine lcT (R := IsQ (cR K)) (ys := scale f a) IsQ.fz hD (SqT.of hp) (by rw [ax.1]; exact (List.length_map ..).symm) (by show (a.map _).length ≤ 1000; rw [List.length_map]; have := va.1; omega) ?_ ?_
    · intro t x y H' hx hy s' k' hk
      obtain ⟨qx, ex, rx⟩ := ax.get hx
      have ey : y = f * qx := by
        have h2 : (a.map (f * ·))[t]? = some y := hy
        rw [List.getElem?_map, ex] at h2
        exact (Option.some.inj h2).symm
      subst ey
      refine ⟨_, rfl, _, rfl, ?_⟩
      exact rd_q2 (IsQ.fz _ _ _ _ (Fz.of s') hv) (IsQ.fz _ _ _ _ (Fz.of s') rx) sf (va.at ex) fun H2 z2 s2 h2 => hk _ _ s2 h2
    · intro H' acc s' hacc al
      refine .inl ⟨D, acc, rfl, SqL.of hacc, fun q hq => ?_⟩
      exact k _ _ (sm_upd' s' hq) ⟨q, acc, rfl, upd_same, al.mono IsQ.fz (Fz.of (sm_upd hq))⟩
/-! ### plus -/
def spPlus (C : Addr) : Sp := fun vs H Q _ => ∃ (v u : V) (a b : List Rat), vs = [v, u] ∧ IsV C H v a ∧ IsV C H u b ∧ Vb 4400 a ∧ Vb 4400 b ∧ a.length = b.length ∧ ∀ H' z, Same H H' → IsV C H' z (plus a b) → Q z H'
theorem sc_plus : FnScope ["a", "b", "x", "y"] ["a", "b"] (defScope sPlus) := ⟨rfl, rfl, rfl, by decide +kernel, rfl, by decide +kernel, by decide +kernel⟩
theorem ok_plus (T : TX w K mg) : C8.Cal P w K mg base 4 "plus" (spPlus (cR K)) [] := by
  refine cal1 (d_plus T) (g_plus T) (ps := ["a", "b"]) (fun _ _ _ _ _ _ us hl => match us, hl with | [_, _], _ => rfl) sc_plus (fun vs H Q E h => ?_) (fun cdv A outer s H vs Q E hr h => ?_)
  · obtain ⟨v, u, a, b, rfl, _⟩ := h
    rfl
  · obtain ⟨v, u, a, b, rfl, hv, hu, va, vb, hl, k⟩ := h
    refine ⟨_, pss_one (ps_ret (pe_tupleOf rfl (n_tuple T) (pe_lc (own := [("x", 2), ("y", 3)]) (g := gPair K 2 3) (by rfl) sc_plus.nd (RZ.pi_zipA rfl (n_zip T) (pa_cons (pv 0) (pa_cons (pv 1) pa_nil))) (blkOk_by (own := [("x", 2), ("y", 3)]) (N := ["a", "b", "x", "y"]) (sc := defScope sPlus) (by decide +kernel))
      (fun _ _ _ _ _ => pg_pairK rfl (pg_name (i := 2) sc_plus.nd rfl (Or.inl rfl)) (pg_name (i := 3) sc_plus.nd rfl (Or.inl rfl))) (fun _ _ _ _ _ => pts_nil) (fun _ _ _ _ _ => pe_op (op_qadd (j := 3) T hr (by decide)) (pv 2) (pv 3))))), ?_⟩
    obtain ⟨p, xs, rfl, hp, ax⟩ := hv
    obtain ⟨q, zs, rfl, hq, az⟩ := hu
    have la := va.1
    have ll : (plus a b).length = a.length := by unfold plus; rw [List.length_zipWith]; omega
    refine ⟨_, rfl, _, rfl, p, q, xs, zs, rfl, .inr ⟨SqT.of hp, SqT.of hq, fun D hD => ?_⟩⟩
    refine lcZ (R := IsQ (cR K)) (ys := plus a b) (by decide) IsQ.fz hD (SqT.of hp) (SqT.of hq) (by rw [ax.1, az.1, hl]) (by rw [ax.1, ll]) (by rw [ll]; omega) ?_ ?_
    · intro t x z y H' hx hz hy s' k' hk
      obtain ⟨qx, ex, rx⟩ := ax.get hx
      obtain ⟨qz, ez, rz⟩ := az.get hz
      have ey := get_zip ex ez hy
      subst ey
      refine ⟨_, rfl, _, rfl, ?_⟩
      exact rd_q2 (IsQ.fz _ _ _ _ (Fz.of s') rx) (IsQ.fz _ _ _ _ (Fz.of s') rz) (va.at ex) (vb.at ez) fun H2 z2 s2 h2 => hk _ _ s2 h2
    · intro H' acc s' hacc al
      exact tup_done IsQ.fz s' hacc al k

/-! ### minus -/
def spMinus (C : Addr) : Sp := fun vs H Q _ => ∃ (v u : V) (a b : List Rat), vs = [v, u] ∧ IsV C H v a ∧ IsV C H u b ∧ Vb 4400 a ∧ Vb 4400 b ∧ a.length = b.length ∧ ∀ H' z, Same H H' → IsV C H' z (minus a b) → Q z H'
theorem sc_minus : FnScope ["a", "b", "x", "y"] ["a", "b"] (defScope sMinus) := ⟨rfl, rfl, rfl, by decide +kernel, rfl, by decide +kernel, by decide +kernel⟩
theorem ok_minus (T : TX w K mg) : C8.Cal P w K mg base 4 "minus" (spMinus (cR K)) [] := by
  refine cal1 (d_minus T) (g_minus T) (ps := ["a", "b"]) (fun _ _ _ _ _ _ us hl => match us, hl with | [_, _], _ => rfl) sc_minus (fun vs H Q E h => ?_) (fun cdv A outer s H vs Q E hr h => ?_)
  · obtain ⟨v, u, a, b, rfl, _⟩ := h
    rfl
  · obtain ⟨v, u, a, b, rfl, hv, hu, va, vb, hl, k⟩ := h
    refine ⟨_, pss_one (ps_ret (pe_tupleOf rfl (n_tuple T) (pe_lc (own := [("x", 2), ("y", 3)]) (g := gPair K 2 3) (by rfl) sc_minus.nd (RZ.pi_zipA rfl (n_zip T) (pa_cons (pv 0) (pa_cons (pv 1) pa_nil))) (blkOk_by (own := [("x", 2), ("y", 3)]) (N := ["a", "b", "x", "y"]) (sc := defScope sMinus) (by decide +kernel))
      (fun _ _ _ _ _ => pg_pairK rfl (pg_name (i := 2) sc_minus.nd rfl (Or.inl rfl)) (pg_name (i := 3) sc_minus.nd rfl (Or.inl rfl))) (fun _ _ _ _ _ => pts_nil) (fun _ _ _ _ _ => pe_op (op_qsub (j := 3) T hr (by decide)) (pv 2) (pv 3))))), ?_⟩
    obtain ⟨p, xs, rfl, hp, ax⟩ := hv
    obtain ⟨q, zs, rfl, hq, az⟩ := hu
    have la := va.1
    have ll : (minus a b).length = a.length := by unfold minus; rw [List.length_zipWith]; omega
    refine ⟨_, rfl, _, rfl, p, q, xs, zs, rfl, .inr ⟨SqT.of hp, SqT.of hq, fun D hD => ?_⟩⟩
    refine lcZ (R := IsQ (cR K)) (ys := minus a b) (by decide) IsQ.fz hD (SqT.of hp) (SqT.of hq) (by rw [ax.1, az.1, hl]) (by rw [ax.1, ll]) (by rw [ll]; omega) ?_ ?_
    · intro t x z y H' hx hz hy s' k' hk
      obtain ⟨qx, ex, rx⟩ := ax.get hx
      obtain ⟨qz, ez, rz⟩ := az.get hz
      have ey := get_zip ex ez hy
      subst ey
      refine ⟨_, rfl, _, rfl, ?_⟩
      exact rd_q2 (IsQ.fz _ _ _ _ (Fz.of s') rx) (IsQ.fz _ _ _ _ (Fz.of s') rz) (va.at ex) (vb.at ez) fun H2 z2 s2 h2 => hk _ _ s2 h2
    · intro H' acc s' hacc al
      exact tup_done IsQ.fz s' hacc al k

/-! ### zero, unit -/
def spZero (C : Addr) : Sp := fun vs H Q _ => ∃ (n : Nat), vs = [.int (n : Int)] ∧ n ≤ 100 ∧ ∀ H' z, Same H H' → IsV C H' z (zero n) → Q z H'
theorem sc_zero : FnScope ["width", "_"] ["width"] (defScope sZero) := ⟨rfl, rfl, rfl, by decide +kernel, rfl, by decide +kernel, by decide +kernel⟩
theorem ok_zero (T : TX w K mg) : C8.Cal P w K mg base 3 "zero" (spZero (cR K)) [] := by
  refine cal1 (d_zero T) (g_zero T) (ps := ["width"]) (fun _ _ _ _ _ _ us hl => match us, hl with | [_], _ => rfl) sc_zero (fun vs H Q E h => ?_) (fun cdv A outer s H vs Q E hr h => ?_)
  · obtain ⟨n, rfl, _⟩ := h
    rfl
  · obtain ⟨n, rfl, hn, k⟩ := h
    refine ⟨_, pss_one (ps_ret (pe_tupleOf rfl (n_tuple T) (pe_lc (own := [("_", 1)]) (g := gName 1) (by rfl) sc_zero.nd (pi_range1 rfl (n_range T) (pa_cons (pv 0) pa_nil)) (blkOk_by (own := [("_", 1)]) (N := ["width", "_"]) (sc := defScope sZero) (by decide +kernel))
      (fun _ _ _ _ _ => pg_name (i := 1) sc_zero.nd rfl (Or.inl rfl)) (fun _ _ _ _ _ => pts_nil) (fun _ _ _ _ _ => C8.pe_mk (j := 2) (mk_R1 T) hr (by decide) rfl (pa_cons pe_int pa_nil))))), ?_⟩
    refine ⟨_, rfl, _, rfl, by omega, by omega, fun D hD => ?_⟩
    refine lcR (R := IsQ (cR K)) (ys := zero n) IsQ.fz hD (by unfold zero; rw [List.length_replicate]; omega) (by unfold zero; rw [List.length_replicate]; omega) ?_ ?_
    · intro t y H' hy s' k' hk
      have ey := get_rep hy
      subst ey
      exact fun x0 dx0 nx0 nd0 ne0 => rd_mk (q := 0) nx0 nd0 (by decide) (by decide +kernel) (d_int 0) fun H1 s1 hz => hk _ _ s1 hz
    · intro H' acc s' hacc al
      exact tup_done IsQ.fz s' hacc al k
def spUnit (C : Addr) : Sp := fun vs H Q _ => ∃ (n i : Nat), vs = [.int (n : Int), .int (i : Int)] ∧ n ≤ 100 ∧ ∀ H' z, Same H H' → IsV C H' z (unit n i) → Q z H'
theorem sc_unit : FnScope ["width", "index", "k"] ["width", "index"] (defScope sUnit) := ⟨rfl, rfl, rfl, by decide +kernel, rfl, by decide +kernel, by decide +kernel⟩
theorem ok_unit (T : TX w K mg) : C8.Cal P w K mg base 3 "unit" (spUnit (cR K)) [] := by
  refine cal1 (d_unit T) (g_unit T) (ps := ["width", "index"]) (fun _ _ _ _ _ _ us hl => match us, hl with | [_, _], _ => rfl) sc_unit (fun vs H Q E h => ?_) (fun cdv A outer s H vs Q E hr h => ?_)
  · obtain ⟨n, i, rfl, _⟩ := h
    rfl
  · obtain ⟨n, i, rfl, hn, k⟩ := h
    refine ⟨_, pss_one (ps_ret (pe_tupleOf rfl (n_tuple T) (pe_lc (own := [("k", 2)]) (g := gName 2) (by rfl) sc_unit.nd (pi_range1 rfl (n_range T) (pa_cons (pv 0) pa_nil)) (blkOk_by (own := [("k", 2)]) (N := ["width", "index", "k"]) (sc := defScope sUnit) (by decide +kernel))
      (fun _ _ _ _ _ => pg_name (i := 2) sc_unit.nd rfl (Or.inl rfl)) (fun _ _ _ _ _ => pts_nil) (fun _ _ _ _ _ => pe_ifExp (pt_cmpR op_eq (pv 2) (pv 1) (nomark _)) (C8.pe_mk (j := 2) (mk_R1 T) hr (by decide) rfl (pa_cons pe_int pa_nil)) (C8.pe_mk (j := 2) (mk_R1 T) hr (by decide) rfl (pa_cons pe_int pa_nil)))))), ?_⟩
    refine ⟨_, rfl, _, rfl, by omega, by omega, fun D hD => ?_⟩
    refine lcR (R := IsQ (cR K)) (ys := unit n i) IsQ.fz hD (by unfold unit; rw [List.length_map, List.length_range]; omega) (by unfold unit; rw [List.length_map, List.length_range]; omega) ?_ ?_
    · intro t y H' hy s' k' hk
      obtain ⟨ht, ey⟩ := get_range hy
      refine ⟨_, rfl, _, rfl, rfl, _, rfl, ?_⟩
      have e : decide (V.int (0 + (t : Int)) = V.int (i : Int)) = decide (t = i) := decide_eq_decide.mpr ⟨fun q => by injection q with q; omega, fun q => by rw [q, Int.zero_add]⟩
      rw [e]
      by_cases hti : t = i
      · rw [decide_eq_true hti]
        rw [if_pos hti] at ey
        subst ey
        exact iteT fun x0 dx0 nx0 nd0 ne0 => rd_mk (q := 1) nx0 nd0 (by decide) (by decide +kernel) (d_int 1) fun H1 s1 hz => hk _ _ s1 hz
      · rw [decide_eq_false hti]
        rw [if_neg hti] at ey
        subst ey
        exact iteF fun x0 dx0 nx0 nd0 ne0 => rd_mk (q := 0) nx0 nd0 (by decide) (by decide +kernel) (d_int 0) fun H1 s1 hz => hk _ _ s1 hz
    · intro H' acc s' hacc al
      exact tup_done IsQ.fz s' hacc al k
end
end PN
end
section
set_option maxRecDepth 100000
set_option maxHeartbeats 4000000
namespace PN
open PySem PySem.Spec PyProof.Rows L2
section
variable {P : Program} {w : World} {K : PySem.W.Frag} {mg : Str → Option Value} {base : Heap}

/-! ### transpose -/
def spTranspose (C : Addr) : Sp := fun vs H Q _ => ∃ (v : V) (m : Mat) (n : Nat), vs = [v, .int (n : Int)] ∧ IsM C H v m ∧ m.length ≤ 100 ∧ n ≤ 100 ∧ (∀ r ∈ m, n ≤ r.length) ∧ ∀ H' z, Same H H' → IsM C H' z (transpose m n) → Q z H'
theorem sc_transpose : FnScope ["matrix", "width", "column", "row"] ["matrix", "width"] (defScope sTranspose) := ⟨rfl, rfl, rfl, by decide +kernel, rfl, by decide +kernel, by decide +kernel⟩
theorem ok_transpose (T : TX w K mg) : C8.Cal P w K mg base 2 "transpose" (spTranspose (cR K)) [] := by
  refine cal1 (d_transpose T) (g_transpose T) (ps := ["matrix", "width"]) (fun _ _ _ _ _ _ us hl => match us, hl with | [_, _], _ => rfl) sc_transpose (fun vs H Q E h => ?_) (fun cdv A outr s H vs Q E hr h => ?_)
  · obtain ⟨v, m, n, rfl, _⟩ := h
    rfl
  · obtain ⟨v, m, n, rfl, hv, hm, hn, hr2, k⟩ := h
    refine ⟨_, pss_one (ps_ret (pe_tupleOf rfl (n_tuple T) (pe_lc (own := [("column", 2)]) (g := gName 2) (by rfl) sc_transpose.nd (pi_range1 rfl (n_range T) (pa_cons (pv 1) pa_nil)) (blkOk_by (own := [("column", 2)]) (N := ["matrix", "width", "column", "row"]) (sc := defScope sTranspose) (by decide +kernel))
      (fun _ _ _ _ _ => pg_name (i := 2) sc_transpose.nd rfl (Or.inr rfl)) (fun _ _ _ _ _ => pts_nil) (fun _ _ _ _ _ =>
        pe_tupK rfl (n_tuple T) (pe_lc (own := [("row", 3)]) (g := gName 3) (by rfl) sc_transpose.nd (pi_tupK (pv 0)) (blkOk_by (own := [("row", 3)]) (N := ["matrix", "width", "column", "row"]) (by rfl))
          (fun _ _ _ _ _ => pg_name (i := 3) sc_transpose.nd rfl (Or.inl rfl)) (fun _ _ _ _ _ => pts_nil) (fun _ _ _ _ _ => pe_ixTK (pv 3) (pv 2) (fun _ _ => rfl))))))), ?_⟩
    obtain ⟨p, xs, rfl, hp, ax⟩ := hv
    refine ⟨_, rfl, _, rfl, by omega, by omega, fun D hD => ?_⟩
    refine lcR (R := IsV (cR K)) (ys := transpose m n) IsV.fz hD (by unfold transpose; rw [List.length_map, List.length_range]; omega) (by unfold transpose; rw [List.length_map, List.length_range]; omega) ?_ ?_
    · intro t y H' hy s' k' hk
      obtain ⟨ht, ey⟩ := get_range hy
      subst ey
      refine ⟨_, rfl, p, rfl, ⟨_, SqT.of (s' _ _ hp)⟩, fun D' hD' => ?_⟩
      refine lcT (R := IsQ (cR K)) (ys := col m t) IsQ.fz hD' (SqT.of (s' _ _ hp)) (by rw [ax.1]; exact (List.length_map ..).symm) (by unfold col; rw [List.length_map]; omega) ?_ ?_
      · intro t2 x2 y2 H2 hx2 hy2 s2 k2 hk2
        obtain ⟨r, er, rr⟩ := ax.get hx2
        have ey2 := get_map er hy2
        subst ey2
        obtain ⟨a, rs, rfl, ha, ar⟩ := IsV.fz _ _ _ _ (Fz.of (s'.trans s2)) rr
        have hlen := hr2 r (List.mem_of_getElem? er)
        have e1 : r[t]? = some (r.getD t 0) := by rw [List.getD_eq_getElem?_getD, List.getElem?_eq_getElem (by omega)]; rfl
        obtain ⟨z, ez, rz⟩ := ar.at e1
        refine ⟨_, rfl, _, rfl, a, rs, _, z, rfl, rfl, SqT.of ha, at_of (Int.zero_add _) ez, ?_⟩
        exact hk2 _ _ (Same.refl _) rz
      · intro H2 acc2 s2 hacc2 al2
        exact tup_done IsQ.fz s2 hacc2 al2 fun H3 z3 s3 h3 => hk _ _ s3 h3
    · intro H' acc s' hacc al
      exact tup_done IsV.fz s' hacc al k

/-! ### apply -/
def spApply (C : Addr) : Sp := fun vs H Q _ => ∃ (v u : V) (m : Mat) (a : List Rat) (n l : Nat), vs = [v, u] ∧ IsM C H v m ∧ IsV C H u a ∧ Mb n m ∧ Vb l a ∧ (∀ r ∈ m, r.length = a.length) ∧ a.length * (n + l + 1) + n + l + 1 ≤ 4400 ∧ ∀ H' z, Same H H' → IsV C H' z (apply m a) → Q z H'
theorem sc_apply : FnScope ["matrix", "vector", "row"] ["matrix", "vector"] (defScope sApply) := ⟨rfl, rfl, rfl, by decide +kernel, rfl, by decide +kernel, by decide +kernel⟩
theorem ok_apply (T : TX w K mg) : C8.Cal P w K mg base 5 "apply" (spApply (cR K)) [] := by
  refine cal1 (d_apply T) (g_apply T) (ps := ["matrix", "vector"]) (fun _ _ _ _ _ _ us hl => match us, hl with | [_, _], _ => rfl) sc_apply (fun vs H Q E h => ?_) (fun cdv A outr s H vs Q E hr h => ?_)
  · obtain ⟨v, u, m, a, n, l, rfl, _⟩ := h
    rfl
  · obtain ⟨v, u, m, a, n, l, rfl, hv, hu, hm, hb, hl, hsz, k⟩ := h
    refine ⟨_, pss_one (ps_ret (pe_tupleOf rfl (n_tuple T) (pe_lc (own := [("row", 2)]) (g := gName 2) (by rfl) sc_apply.nd (pi_tup (pv 0)) (blkOk_by (own := [("row", 2)]) (N := ["matrix", "vector", "row"]) (sc := defScope sApply) (by decide +kernel))
      (fun _ _ _ _ _ => pg_name (i := 2) sc_apply.nd rfl (Or.inl rfl)) (fun _ _ _ _ _ => pts_nil) (fun _ _ _ _ _ => C8.pe_c (j := 4) (ok_dot T) hr (by decide) rfl (pa_cons (pv 2) (pa_cons (pv 1) pa_nil)))))), ?_⟩
    obtain ⟨p, xs, rfl, hp, ax⟩ := hv
    have hm1 := hm.1
    refine ⟨_, rfl, p, rfl, ⟨_, SqT.of hp⟩, fun D hD => ?_⟩
    refine lcT (R := IsQ (cR K)) (ys := apply m a) IsQ.fz hD (SqT.of hp) (by rw [ax.1]; exact (List.length_map ..).symm) (by unfold apply; rw [List.length_map]; omega) ?_ ?_
    · intro t x y H' hx hy s' k' hk
      obtain ⟨r, er, rr⟩ := ax.get hx
      have ey := get_map er hy
      subst ey
      have e2 := hl r (List.mem_of_getElem? er)
      refine ⟨_, rfl, _, rfl, _, _, r, a, n, l, rfl, IsV.fz _ _ _ _ (Fz.of s') rr, IsV.fz _ _ _ _ (Fz.of s') hu, hm.at er, hb, e2, by rw [e2]; exact hsz, fun H2 z2 s2 h2 => ?_⟩
      exact hk _ _ s2 h2
    · intro H' acc s' hacc al
      exact tup_done IsQ.fz s' hacc al k

/-! ### product -/
def spProduct (C : Addr) : Sp := fun vs H Q _ => ∃ (v u : V) (f g : Mat) (c n l : Nat), vs = [v, u, .int (c : Int)] ∧ IsM C H v f ∧ IsM C H u g ∧ Mb n f ∧ Mb l g ∧ c ≤ 100 ∧ (∀ r ∈ f, r.length = g.length) ∧ (∀ r ∈ g, c ≤ r.length) ∧ g.length * (n + l + 1) + n + l + 1 ≤ 4400 ∧ ∀ H' z, Same H H' → IsM C H' z (product f g c) → Q z H'
theorem col_len (m : Mat) (c : Nat) : (col m c).length = m.length := List.length_map ..
theorem transpose_mb {l c : Nat} {g : Mat} (hg : Mb l g) (hc : c ≤ 100) (hl : ∀ r ∈ g, c ≤ r.length) : Mb l (transpose g c) := by
  refine ⟨by unfold transpose; rw [List.length_map, List.length_range]; exact hc, fun r hr => ?_⟩
  obtain ⟨i, hi, rfl⟩ := List.mem_map.mp hr
  have hi := List.mem_range.mp hi
  refine ⟨by rw [col_len]; exact hg.1, fun x hx => ?_⟩
  obtain ⟨r2, h2, rfl⟩ := List.mem_map.mp hx
  have := hl r2 h2
  have e1 : r2[i]? = some (r2.getD i 0) := by rw [List.getD_eq_getElem?_getD, List.getElem?_eq_getElem (by omega)]; rfl
  exact (hg.2 r2 h2).at e1
theorem sc_product : FnScope ["first", "second", "width", "columns", "row"] ["first", "second", "width"] (defScope sProduct) := ⟨rfl, rfl, rfl, by decide +kernel, rfl, by decide +kernel, by decide +kernel⟩
theorem ok_product (T : TX w K mg) : C8.Cal P w K mg base 6 "product" (spProduct (cR K)) [] := by
  refine cal1 (d_product T) (g_product T) (ps := ["first", "second", "width"]) (fun _ _ _ _ _ _ us hl => match us, hl with | [_, _, _], _ => rfl) sc_product (fun vs H Q E h => ?_) (fun cdv A outr s H vs Q E hr h => ?_)
  · obtain ⟨v, u, f, g, c, n, l, rfl, _⟩ := h
    rfl
  · obtain ⟨v, u, f, g, c, n, l, rfl, hv, hu, hf, hg, hc, hl, hl2, hsz, k⟩ := h
    refine ⟨_, pss_cons (ps_set (i := 3) sc_product.nd rfl (Or.inr rfl) (C8.pe_c (j := 5) (ok_transpose T) hr (by decide) rfl (pa_cons (pv 1) (pa_cons (pv 2) pa_nil))))
      (pss_one (ps_ret (pe_tupleOf rfl (n_tuple T) (pe_lc (own := [("row", 4)]) (g := gName 4) (by rfl) sc_product.nd (pi_tup (pv 0)) (blkOk_by (own := [("row", 4)]) (N := ["first", "second", "width", "columns", "row"]) (sc := defScope sProduct) (by decide +kernel))
      (fun _ _ _ _ _ => pg_name (i := 4) sc_product.nd rfl (Or.inl rfl)) (fun _ _ _ _ _ => pts_nil) (fun _ _ _ _ _ => C8.pe_c (j := 5) (ok_apply T) hr (by decide) rfl (pa_cons (pv 3) (pa_cons (pv 4) pa_nil))))))), ?_⟩
    obtain ⟨p, xs, rfl, hp, ax⟩ := hv
    have hf1 := hf.1
    refine ⟨_, rfl, _, rfl, u, g, c, rfl, hu, hg.1, hc, hl2, fun H1 z1 s1 h1 => ?_⟩
    refine ⟨_, rfl, p, rfl, ⟨_, SqT.of (s1 _ _ hp)⟩, fun D hD => ?_⟩
    refine lcT (R := IsV (cR K)) (ys := product f g c) IsV.fz hD (SqT.of (s1 _ _ hp)) (by rw [ax.1]; exact (List.length_map ..).symm) (by unfold product; rw [List.length_map]; omega) ?_ ?_
    · intro t x y H' hx hy s' k' hk
      obtain ⟨r, er, rr⟩ := ax.get hx
      have ey := get_map er hy
      subst ey
      have e2 := hl r (List.mem_of_getElem? er)
      refine ⟨_, rfl, _, rfl, _, _, transpose g c, r, l, n, rfl, IsM.fz _ _ _ _ (Fz.of s') h1, IsV.fz _ _ _ _ (Fz.of (s1.trans s')) rr, transpose_mb hg hc hl2, hf.at er, ?_, by rw [e2, Nat.add_comm l n]; omega, fun H2 z2 s2 h2 => ?_⟩
      · intro r' hr'
        obtain ⟨i, _, rfl⟩ := List.mem_map.mp hr'
        rw [col_len, e2]
      · exact hk _ _ s2 h2
    · intro H' acc s' hacc al
      exact tup_done IsV.fz s' hacc al fun H2 z2 s2 h2 => k _ _ (s1.trans s2) h2

/-! ### identity, zeros -/
def spIdentity (C : Addr) : Sp := fun vs H Q _ => ∃ (n : Nat), vs = [.int (n : Int)] ∧ n ≤ 100 ∧ ∀ H' z, Same H H' → IsM C H' z (identity n) → Q z H'
theorem sc_identity : FnScope ["width", "index"] ["width"] (defScope sIdentity) := ⟨rfl, rfl, rfl, by decide +kernel, rfl, by decide +kernel, by decide +kernel⟩
theorem ok_identity (T : TX w K mg) : C8.Cal P w K mg base 4 "identity" (spIdentity (cR K)) [] := by
  refine cal1 (d_identity T) (g_identity T) (ps := ["width"]) (fun _ _ _ _ _ _ us hl => match us, hl with | [_], _ => rfl) sc_identity (fun vs H Q E h => ?_) (fun cdv A outr s H vs Q E hr h => ?_)
  · obtain ⟨n, rfl, _⟩ := h
    rfl
  · obtain ⟨n, rfl, hn, k⟩ := h
    refine ⟨_, pss_one (ps_ret (pe_tupleOf rfl (n_tuple T) (pe_lc (own := [("index", 1)]) (g := gName 1) (by rfl) sc_identity.nd (pi_range1 rfl (n_range T) (pa_cons (pv 0) pa_nil)) (blkOk_by (own := [("index", 1)]) (N := ["width", "index"]) (sc := defScope sIdentity) (by decide +kernel))
      (fun _ _ _ _ _ => pg_name (i := 1) sc_identity.nd rfl (Or.inl rfl)) (fun _ _ _ _ _ => pts_nil) (fun _ _ _ _ _ => C8.pe_c (j := 3) (ok_unit T) hr (by decide) rfl (pa_cons (pv 0) (pa_cons (pv 1) pa_nil)))))), ?_⟩
    refine ⟨_, rfl, _, rfl, by omega, by omega, fun D hD => ?_⟩
    refine lcR (R := IsV (cR K)) (ys := identity n) IsV.fz hD (by unfold identity; rw [List.length_map, List.length_range]; omega) (by unfold identity; rw [List.length_map, List.length_range]; omega) ?_ ?_
    · intro t y H' hy s' k' hk
      obtain ⟨ht, ey⟩ := get_range hy
      subst ey
      refine ⟨_, rfl, _, rfl, n, t, by rw [Int.zero_add]; rfl, hn, fun H2 z2 s2 h2 => ?_⟩
      exact hk _ _ s2 h2
    · intro H' acc s' hacc al
      exact tup_done IsV.fz s' hacc al k
def spZeros (C : Addr) : Sp := fun vs H Q _ => ∃ (h n : Nat), vs = [.int (h : Int), .int (n : Int)] ∧ h ≤ 100 ∧ n ≤ 100 ∧ ∀ H' z, Same H H' → IsM C H' z (zeros h n) → Q z H'
theorem sc_zeros : FnScope ["height", "width", "_"] ["height", "width"] (defScope sZeros) := ⟨rfl, rfl, rfl, by decide +kernel, rfl, by decide +kernel, by decide +kernel⟩
theorem ok_zeros (T : TX w K mg) : C8.Cal P w K mg base 4 "zeros" (spZeros (cR K)) [] := by
  refine cal1 (d_zeros T) (g_zeros T) (ps := ["height", "width"]) (fun _ _ _ _ _ _ us hl => match us, hl with | [_, _], _ => rfl) sc_zeros (fun vs H Q E h => ?_) (fun cdv A outr s H vs Q E hr h => ?_)
  · obtain ⟨h, n, rfl, _⟩ := h
    rfl
  · obtain ⟨h, n, rfl, hh, hn, k⟩ := h
    refine ⟨_, pss_one (ps_ret (pe_tupleOf rfl (n_tuple T) (pe_lc (own := [("_", 2)]) (g := gName 2) (by rfl) sc_zeros.nd (pi_range1 rfl (n_range T) (pa_cons (pv 0) pa_nil)) (blkOk_by (own := [("_", 2)]) (N := ["height", "width", "_"]) (sc := defScope sZeros) (by decide +kernel))
      (fun _ _ _ _ _ => pg_name (i := 2) sc_zeros.nd rfl (Or.inl rfl)) (fun _ _ _ _ _ => pts_nil) (fun _ _ _ _ _ => C8.pe_c (j := 3) (ok_zero T) hr (by decide) rfl (pa_cons (pv 1) pa_nil))))), ?_⟩
    refine ⟨_, rfl, _, rfl, by omega, by omega, fun D hD => ?_⟩
    refine lcR (R := IsV (cR K)) (ys := zeros h n) IsV.fz hD (by unfold zeros; rw [List.length_replicate]; omega) (by unfold zeros; rw [List.length_replicate]; omega) ?_ ?_
    · intro t y H' hy s' k' hk
      have ey := get_rep hy
      subst ey
      refine ⟨_, rfl, n, rfl, hn, fun H2 z2 s2 h2 => ?_⟩
      exact hk _ _ s2 h2
    · intro H' acc s' hacc al
      exact tup_done IsV.fz s' hacc al k

/-! ### outer, sum_of, scaled -/
def spOuter (C : Addr) : Sp := fun vs H Q _ => ∃ (v u : V) (a b : List Rat), vs = [v, u] ∧ IsV C H v a ∧ IsV C H u b ∧ Vb 4400 a ∧ Vb 4400 b ∧ ∀ H' z, Same H H' → IsM C H' z (outer a b) → Q z H'
theorem sc_outer : FnScope ["a", "b", "x"] ["a", "b"] (defScope sOuter) := ⟨rfl, rfl, rfl, by decide +kernel, rfl, by decide +kernel, by decide +kernel⟩
theorem ok_outer (T : TX w K mg) : C8.Cal P w K mg base 5 "outer" (spOuter (cR K)) [] := by
  refine cal1 (d_outer T) (g_outer T) (ps := ["a", "b"]) (fun _ _ _ _ _ _ us hl => match us, hl with | [_, _], _ => rfl) sc_outer (fun vs H Q E h => ?_) (fun cdv A outr s H vs Q E hr h => ?_)
  · obtain ⟨v, u, a, b, rfl, _⟩ := h
    rfl
  · obtain ⟨v, u, a, b, rfl, hv, hu, ha, hb, k⟩ := h
    refine ⟨_, pss_one (ps_ret (pe_tupleOf rfl (n_tuple T) (pe_lc (own := [("x", 2)]) (g := gName 2) (by rfl) sc_outer.nd (pi_tup (pv 0)) (blkOk_by (own := [("x", 2)]) (N := ["a", "b", "x"]) (sc := defScope sOuter) (by decide +kernel))
      (fun _ _ _ _ _ => pg_name (i := 2) sc_outer.nd rfl (Or.inl rfl)) (fun _ _ _ _ _ => pts_nil) (fun _ _ _ _ _ => C8.pe_c (j := 4) (ok_scale T) hr (by decide) rfl (pa_cons (pv 2) (pa_cons (pv 1) pa_nil)))))), ?_⟩
    obtain ⟨p, xs, rfl, hp, ax⟩ := hv
    have ha1 := ha.1
    refine ⟨_, rfl, p, rfl, ⟨_, SqT.of hp⟩, fun D hD => ?_⟩
    refine lcT (R := IsV (cR K)) (ys := outer a b) IsV.fz hD (SqT.of hp) (by rw [ax.1]; exact (List.length_map ..).symm) (by unfold outer; rw [List.length_map]; omega) ?_ ?_
    · intro t x y H' hx hy s' k' hk
      obtain ⟨q, eq, rq⟩ := ax.get hx
      have ey := get_map eq hy
      subst ey
      refine ⟨_, rfl, _, rfl, _, _, q, b, rfl, IsQ.fz _ _ _ _ (Fz.of s') rq, IsV.fz _ _ _ _ (Fz.of s') hu, ha.at eq, hb, fun H2 z2 s2 h2 => ?_⟩
      exact hk _ _ s2 h2
    · intro H' acc s' hacc al
      exact tup_done IsV.fz s' hacc al k
def spSumOf (C : Addr) : Sp := fun vs H Q _ => ∃ (v u : V) (a b : Mat), vs = [v, u] ∧ IsM C H v a ∧ IsM C H u b ∧ Mb 4400 a ∧ Mb 4400 b ∧ a.length = b.length ∧ (∀ (i : Nat) r s, a[i]? = some r → b[i]? = some s → r.length = s.length) ∧ ∀ H' z, Same H H' → IsM C H' z (sumOf a b) → Q z H'
theorem sc_sum_of : FnScope ["first", "second", "one", "other"] ["first", "second"] (defScope sSumOf) := ⟨rfl, rfl, rfl, by decide +kernel, rfl, by decide +kernel, by decide +kernel⟩
theorem ok_sum_of (T : TX w K mg) : C8.Cal P w K mg base 5 "sum_of" (spSumOf (cR K)) [] := by
  refine cal1 (d_sum_of T) (g_sum_of T) (ps := ["first", "second"]) (fun _ _ _ _ _ _ us hl => match us, hl with | [_, _], _ => rfl) sc_sum_of (fun vs H Q E h => ?_) (fun cdv A outr s H vs Q E hr h => ?_)
  · obtain ⟨v, u, a, b, rfl, _⟩ := h
    rfl
  · obtain ⟨v, u, a, b, rfl, hv, hu, va, vb, hl, hl2, k⟩ := h
    refine ⟨_, pss_one (ps_ret (pe_tupleOf rfl (n_tuple T) (pe_lc (own := [("one", 2), ("other", 3)]) (g := gPair K 2 3) (by rfl) sc_sum_of.nd (RZ.pi_zipA rfl (n_zip T) (pa_cons (pv 0) (pa_cons (pv 1) pa_nil))) (blkOk_by (own := [("one", 2), ("other", 3)]) (N := ["first", "second", "one", "other"]) (sc := defScope sSumOf) (by decide +kernel))
      (fun _ _ _ _ _ => pg_pairK rfl (pg_name (i := 2) sc_sum_of.nd rfl (Or.inl rfl)) (pg_name (i := 3) sc_sum_of.nd rfl (Or.inl rfl))) (fun _ _ _ _ _ => pts_nil) (fun _ _ _ _ _ => C8.pe_c (j := 4) (ok_plus T) hr (by decide) rfl (pa_cons (pv 2) (pa_cons (pv 3) pa_nil)))))), ?_⟩
    obtain ⟨p, xs, rfl, hp, ax⟩ := hv
    obtain ⟨q, zs, rfl, hq, az⟩ := hu
    have la := va.1
    have ll : (sumOf a b).length = a.length := by unfold sumOf; rw [List.length_zipWith]; omega
    refine ⟨_, rfl, _, rfl, p, q, xs, zs, rfl, .inr ⟨SqT.of hp, SqT.of hq, fun D hD => ?_⟩⟩
    refine lcZ (R := IsV (cR K)) (ys := sumOf a b) (by decide) IsV.fz hD (SqT.of hp) (SqT.of hq) (by rw [ax.1, az.1, hl]) (by rw [ax.1, ll]) (by rw [ll]; omega) ?_ ?_
    · intro t x z y H' hx hz hy s' k' hk
      obtain ⟨qx, ex, rx⟩ := ax.get hx
      obtain ⟨qz, ez, rz⟩ := az.get hz
      have ey := get_zip ex ez hy
      subst ey
      refine ⟨_, rfl, _, rfl, _, _, qx, qz, rfl, IsV.fz _ _ _ _ (Fz.of s') rx, IsV.fz _ _ _ _ (Fz.of s') rz, va.at ex, vb.at ez, hl2 t _ _ ex ez, fun H2 z2 s2 h2 => ?_⟩
      exact hk _ _ s2 h2
    · intro H' acc s' hacc al
      exact tup_done IsV.fz s' hacc al k
def spScaled (C : Addr) : Sp := fun vs H Q _ => ∃ (v u : V) (f : Rat) (m : Mat), vs = [v, u] ∧ IsQ C H v f ∧ IsM C H u m ∧ Sm f ∧ Mb 4400 m ∧ ∀ H' z, Same H H' → IsM C H' z (scaled f m) → Q z H'
theorem sc_scaled : FnScope ["factor", "matrix", "row"] ["factor", "matrix"] (defScope sScaled) := ⟨rfl, rfl, rfl, by decide +kernel, rfl, by decide +kernel, by decide +kernel⟩
theorem ok_scaled (T : TX w K mg) : C8.Cal P w K mg base 5 "scaled" (spScaled (cR K)) [] := by
  refine cal1 (d_scaled T) (g_scaled T) (ps := ["factor", "matrix"]) (fun _ _ _ _ _ _ us hl => match us, hl with | [_, _], _ => rfl) sc_scaled (fun vs H Q E h => ?_) (fun cdv A outr s H vs Q E hr h => ?_)
  · obtain ⟨v, u, f, m, rfl, _⟩ := h
    rfl
  · obtain ⟨v, u, f, m, rfl, hv, hu, hf, hm, k⟩ := h
    refine ⟨_, pss_one (ps_ret (pe_tupleOf rfl (n_tuple T) (pe_lc (own := [("row", 2)]) (g := gName 2) (by rfl) sc_scaled.nd (pi_tup (pv 1)) (blkOk_by (own := [("row", 2)]) (N := ["factor", "matrix", "row"]) (sc := defScope sScaled) (by decide +kernel))
      (fun _ _ _ _ _ => pg_name (i := 2) sc_scaled.nd rfl (Or.inl rfl)) (fun _ _ _ _ _ => pts_nil) (fun _ _ _ _ _ => C8.pe_c (j := 4) (ok_scale T) hr (by decide) rfl (pa_cons (pv 0) (pa_cons (pv 2) pa_nil)))))), ?_⟩
    obtain ⟨p, xs, rfl, hp, ax⟩ := hu
    have hm1 := hm.1
    refine ⟨_, rfl, p, rfl, ⟨_, SqT.of hp⟩, fun D hD => ?_⟩
    refine lcT (R := IsV (cR K)) (ys := scaled f m) IsV.fz hD (SqT.of hp) (by rw [ax.1]; exact (List.length_map ..).symm) (by unfold scaled; rw [List.length_map]; omega) ?_ ?_
    · intro t x y H' hx hy s' k' hk
      obtain ⟨r, er, rr⟩ := ax.get hx
      have ey := get_map er hy
      subst ey
      refine ⟨_, rfl, _, rfl, _, _, f, r, rfl, IsQ.fz _ _ _ _ (Fz.of s') hv, IsV.fz _ _ _ _ (Fz.of s') rr, hf, hm.at er, fun H2 z2 s2 h2 => ?_⟩
      exact hk _ _ s2 h2
    · intro H' acc s' hacc al
      exact tup_done IsV.fz s' hacc al k

end
end PN
end
section
namespace PN
/-! ### the program's elimination as plain functions -/
def gt (r : List Rat) (c : Nat) : Rat := r.getD c 0
def pivotF (m : Mat) (c : Nat) : Nat → Nat → Option Nat
  | _, 0 => none
  | i, n + 1 => if gt (m.getD i []) c ≠ 0 then some i else pivotF m c (i + 1) n
def pivotRow (m : Mat) (st c : Nat) : Option Nat := pivotF m c st (m.length - st)
def clr (c : Nat) (u x : List Rat) : List Rat := if gt x c = 0 then x else minus x (scale (gt x c) u)
def cleared (m : Mat) (place c : Nat) : Mat := m.mapIdx fun i x => if i = place then scale (1 / gt (m.getD place []) c) (m.getD place []) else clr c (scale (1 / gt (m.getD place []) c) (m.getD place [])) x
def swp (m : Mat) (i j : Nat) : Mat := (m.set i (m.getD j [])).set j (m.getD i [])
def redStep (st : Mat × List Nat) (c : Nat) : Mat × List Nat := match pivotRow st.1 st.2.length c with
  | none => st
  | some f => (cleared (swp st.1 st.2.length f) st.2.length c, st.2 ++ [c])
def redState (m : Mat) (c : Nat) : Mat × List Nat := (List.range c).foldl redStep (m, [])
def reduced (m : Mat) (w : Nat) : Mat × List Nat := ((redState m w).1.take (redState m w).2.length, (redState m w).2)
theorem redState_succ (m : Mat) (c : Nat) : redState m (c + 1) = redStep (redState m c) c := by
  unfold redState; rw [List.range_succ, List.foldl_append]; rfl
theorem pivotF_some {m : Mat} {c : Nat} : ∀ {n i f : Nat}, pivotF m c i n = some f → i ≤ f ∧ f < i + n ∧ gt (m.getD f []) c ≠ 0
  | 0, _, _, h => by simp [pivotF] at h
  | n + 1, i, f, h => by
    unfold pivotF at h
    by_cases e : gt (m.getD i []) c ≠ 0
    · rw [if_pos e] at h
      cases h
      exact ⟨Nat.le_refl _, by omega, e⟩
    · rw [if_neg e] at h
      have ih := pivotF_some h
      exact ⟨by omega, by omega, ih.2.2⟩
theorem pivotRow_some {m : Mat} {st c f : Nat} (h : pivotRow m st c = some f) : st ≤ f ∧ f < m.length ∧ gt (m.getD f []) c ≠ 0 := by
  obtain ⟨h1, h2, h3⟩ := pivotF_some h
  exact ⟨h1, by omega, h3⟩
/-- all rows of one width -/
def Wd (W : Nat) (m : Mat) : Prop := ∀ r ∈ m, r.length = W
theorem Wd.at {W : Nat} {m : Mat} (h : Wd W m) {i : Nat} {r : List Rat} (e : m[i]? = some r) : r.length = W := h r (List.mem_of_getElem? e)
theorem getD_mem {m : Mat} {i : Nat} (h : i < m.length) : m[i]? = some (m.getD i []) := by
  rw [List.getD_eq_getElem?_getD, List.getElem?_eq_getElem h]; rfl
theorem gt_at {r : List Rat} {c : Nat} (h : c < r.length) : r[c]? = some (gt r c) := by
  unfold gt; rw [List.getD_eq_getElem?_getD, List.getElem?_eq_getElem h]; rfl
theorem scale_len (f : Rat) (a : List Rat) : (scale f a).length = a.length := List.length_map ..
theorem minus_len {a b : List Rat} (h : a.length = b.length) : (minus a b).length = a.length := by unfold minus; rw [List.length_zipWith]; omega
theorem plus_len {a b : List Rat} (h : a.length = b.length) : (plus a b).length = a.length := by unfold plus; rw [List.length_zipWith]; omega
theorem clr_len {c : Nat} {u x : List Rat} (h : x.length = u.length) : (clr c u x).length = x.length := by
  unfold clr; split
  · rfl
  · exact minus_len (by rw [scale_len, h])
theorem swp_len (m : Mat) (i j : Nat) : (swp m i j).length = m.length := by unfold swp; rw [List.length_set, List.length_set]
theorem swp_mem {m : Mat} {i j : Nat} (hi : i < m.length) (hj : j < m.length) {r : List Rat} (h : r ∈ swp m i j) : r ∈ m := by
  unfold swp at h
  rcases List.mem_or_eq_of_mem_set h with h | h
  · rcases List.mem_or_eq_of_mem_set h with h | h
    · exact h
    · rw [h]; exact List.mem_of_getElem? (getD_mem hj)
  · rw [h]; exact List.mem_of_getElem? (getD_mem hi)
theorem swp_at {m : Mat} {i j : Nat} (hi : i < m.length) (hj : j < m.length) : (swp m i j).getD i [] = m.getD j [] := by
  unfold swp
  by_cases e : j = i
  · subst e
    rw [List.getD_eq_getElem?_getD, List.getElem?_set_self (by rw [List.length_set]; exact hi)]; rfl
  · rw [List.getD_eq_getElem?_getD, List.getElem?_set_ne e, List.getElem?_set_self hi]; rfl
theorem cleared_len (m : Mat) (p c : Nat) : (cleared m p c).length = m.length := by unfold cleared; rw [List.length_mapIdx]
theorem cleared_wd {W : Nat} {m : Mat} {p c : Nat} (h : Wd W m) (hp : p < m.length) : Wd W (cleared m p c) := by
  intro r hr
  unfold cleared at hr
  obtain ⟨i, hi, e⟩ := List.mem_mapIdx.mp hr
  have hl := h.at (getD_mem hp)
  subst e
  split
  · rw [scale_len, hl]
  · rw [clr_len (by rw [scale_len, hl]; exact h _ (List.getElem_mem hi))]; exact h _ (List.getElem_mem hi)
theorem redStep_wd {W c : Nat} {st : Mat × List Nat} (h : Wd W st.1) (hl : st.2.length ≤ st.1.length) :
    Wd W (redStep st c).1 ∧ (redStep st c).1.length = st.1.length ∧ (redStep st c).2.length ≤ st.1.length := by
  unfold redStep
  cases e : pivotRow st.1 st.2.length c with
  | none => exact ⟨h, rfl, hl⟩
  | some f =>
    obtain ⟨h1, h2, h3⟩ := pivotRow_some e
    refine ⟨cleared_wd (fun r hr => h r (swp_mem (by omega) h2 hr)) (by rw [swp_len]; omega), by show (cleared _ _ _).length = _; rw [cleared_len, swp_len], ?_⟩
    show (st.2 ++ [c]).length ≤ _
    rw [List.length_append, List.length_singleton]; omega
theorem redState_wd {W : Nat} {m : Mat} (h : Wd W m) : ∀ c, Wd W (redState m c).1 ∧ (redState m c).1.length = m.length ∧ (redState m c).2.length ≤ m.length
  | 0 => ⟨h, rfl, Nat.zero_le _⟩
  | c + 1 => by
    obtain ⟨h1, h2, h3⟩ := redState_wd h c
    rw [redState_succ]
    obtain ⟨k1, k2, k3⟩ := redStep_wd (c := c) h1 (by omega)
    exact ⟨k1, by omega, by omega⟩
theorem redState_piv {m : Mat} : ∀ c, ∀ x ∈ (redState m c).2, x < c
  | 0, x, h => by simp [redState] at h
  | c + 1, x, h => by
    rw [redState_succ] at h
    unfold redStep at h
    have ih := redState_piv (m := m) c x
    cases e : pivotRow (redState m c).1 (redState m c).2.length c with
    | none => rw [e] at h; have := ih h; omega
    | some f =>
      rw [e] at h
      rcases List.mem_append.mp h with h | h
      · have := ih h; omega
      · simp at h; omega
theorem Vb.scale {n m : Nat} {f : Rat} {a : List Rat} (hf : Bd n f) (ha : Vb m a) : Vb (n + m) (scale f a) := by
  refine ⟨by rw [scale_len]; exact ha.1, fun x hx => ?_⟩
  obtain ⟨y, hy, rfl⟩ := List.mem_map.mp hx
  exact hf.mul (ha.2 y hy)
end PN
end
section
set_option maxRecDepth 100000
set_option maxHeartbeats 4000000
namespace PN
open PySem PySem.Spec PyProof.Rows L2
theorem cut_take {xs : List V} {n : Nat} (h : n ≤ xs.length) : cutV xs none (some (n : Int)) = xs.take n := by
  unfold cutV
  have e1 : HT.sIx xs.length 0 none = 0 := rfl
  have e2 : HT.sIx xs.length xs.length (some (n : Int)) = n := by
    unfold HT.sIx
    simp only []
    split <;> omega
  rw [e1, e2]
  simp
theorem ixN_nat {n i : Nat} (h : i < n) : ixN n (i : Int) = some i := by
  unfold ixN
  rw [if_pos (by omega), if_pos (by omega)]
  simp
/-- a loop over enumerate of a list -/
theorem for_enum {K : PySem.W.Frag} {a : Addr} {xs : List V} {g : TG} {tb : TS} {D : Ends} {σ : L2.St} {H : Hp} (Pv : Nat → L2.St → Hp → Prop) (h0 : Pv 0 σ H) (hq : ∀ i σ H, Pv i σ H → SqL K H a xs)
    (hs : ∀ (i : Nat) (x : V) (T : Addr) (σ : L2.St) (H : Hp), xs[i]? = some x → Pv i σ H → H T = none → g (.ref T) σ (upd H T (.tup [.int (i : Nat), x])) fun σ2 H2 => tb { D with nx := Pv (i + 1), ct := Pv (i + 1), bk := D.nx } σ2 H2) (hd : ∀ σ H, Pv xs.length σ H → D.nx σ H) :
    ∃ W : Nat → Nat → L2.St → Hp → Prop, (∃ m, W 0 m σ H) ∧ ∀ i m σ H, W i m σ H →
      ((Ite K a).stop i H ∧ D.nx σ H) ∨ ((Ite K a).go i H ∧ ∃ N : L2.St → Hp → Prop, (∀ σ' H', N σ' H' → ∃ m', m' < m ∧ W (i + 1) m' σ' H') ∧ ∀ v H', (Ite K a).yld i H v H' → g v σ H' fun σ2 H2 => tb { D with nx := N, ct := N, bk := D.nx } σ2 H2) := by
  refine ⟨fun i m σ H => m = xs.length - i ∧ i ≤ xs.length ∧ Pv i σ H, ⟨xs.length, rfl, Nat.zero_le _, h0⟩, ?_⟩
  rintro i m σ H ⟨rfl, hi, p⟩
  have qx := hq i σ H p
  by_cases hlt : i < xs.length
  · have hx : xs[i]? = some xs[i] := List.getElem?_eq_getElem hlt
    refine .inr ⟨⟨xs, _, qx, hx⟩, Pv (i + 1), fun σ' H' p' => ⟨xs.length - (i + 1), by omega, rfl, hlt, p'⟩, fun v H' y => ?_⟩
    obtain ⟨T, x', rfl, hT, rfl, f1⟩ := y
    exact hs i x' T σ H (f1 xs qx) p hT
  · have e : i = xs.length := by omega
    subst e
    exact .inl ⟨⟨xs, qx, Nat.le_refl _⟩, hd σ H p⟩
section
variable {P : Program} {w : World} {K : PySem.W.Frag} {mg : Str → Option Value} {base : Heap}

/-! ### pivot_row -/
def spPivotRow (C : Addr) : Sp := fun vs H Q _ => ∃ (l : Addr) (xs : List V) (m : Mat) (st c : Nat), vs = [.ref l, .int (st : Int), .int (c : Int)] ∧ H l = some (.lst xs) ∧ Al (IsV C) H xs m ∧ m.length ≤ 100 ∧ st ≤ m.length ∧ (∀ r ∈ m, c < r.length) ∧
  (∀ f, pivotRow m st c = some f → Q (.int (f : Int)) H) ∧ (pivotRow m st c = none → Q .non H)
theorem sc_pivot_row : FnScope ["rows", "start", "column", "index"] ["rows", "start", "column"] (defScope sPivotRow) := ⟨rfl, rfl, rfl, by decide +kernel, rfl, by decide +kernel, by decide +kernel⟩
theorem ok_pivot_row (T : TX w K mg) : C8.Cal P w K mg base 1 "pivot_row" (spPivotRow (cR K)) [] := by
  refine cal1 (d_pivot_row T) (g_pivot_row T) (ps := ["rows", "start", "column"]) (fun _ _ _ _ _ _ us hl => match us, hl with | [_, _, _], _ => rfl) sc_pivot_row (fun vs H Q E h => ?_) (fun cdv A outr s H vs Q E hr h => ?_)
  · obtain ⟨l, xs, m, st, c, rfl, _⟩ := h
    rfl
  · obtain ⟨l, xs, m, st, c, rfl, hl, al, hm, hst, hc, k1, k2⟩ := h
    refine ⟨_, pss_cons (ps_for PassesOwn.never rfl (pi_range2 rfl (n_range T) (pa_cons (pv 1) (pa_cons (pe_callB call_len_seq (by rfl) (n_len T) PySem.boot_len (pa_cons (pv 0) pa_nil)) pa_nil))) (pg_name (i := 3) sc_pivot_row.nd rfl (Or.inl rfl))
        (pss_one (ps_if (pt_cmpR op_ne (pe_fldK (K := K) (pe_ixTK (K := K) (pe_ixLK (K := K) (pv 0) (pv 3) (fun _ _ => rfl)) (pv 2) (fun _ _ => rfl)) rfl) pe_int (nomark _)) (pss_one (ps_ret (pv 3))) pss_nil)))
      (pss_one (ps_ret pe_non)), ?_⟩
    have hxl := al.1
    refine ⟨_, rfl, _, rfl, l, xs, rfl, .inl (SqL.of hl), _, _, rfl, ⟨by omega, by omega, by omega, by omega⟩, ?_⟩
    refine for_range (lo := (st : Int)) (n := ((xs.length : Int) - (st : Int)).toNat) (fun i σ H' => ∃ v : Option V, σ = [some (.ref l), some (.int st), some (.int c), v] ∧ H' = H ∧ pivotRow m st c = pivotF m c (st + i) (m.length - st - i)) ⟨none, rfl, rfl, rfl⟩ ?_ ?_
    · rintro i σ H' hi ⟨v, rfl, rfl, hp⟩
      have hi2 : st + i < m.length := by omega
      have er := getD_mem hi2
      have e2 := gt_at (hc _ (List.mem_of_getElem? er))
      obtain ⟨x, ex, rx⟩ := al.at er
      obtain ⟨p, rs, rfl, hp2, ar⟩ := rx
      obtain ⟨z, ez, rz⟩ := ar.at e2
      obtain ⟨q, dx, rfl, hq⟩ := rz
      refine ⟨_, rfl, _, rfl, l, xs, _, _, rfl, rfl, SqL.of hl, at_of (j := st + i) (by omega) ex, ?_⟩
      refine ⟨_, rfl, p, rs, _, _, rfl, rfl, SqT.of hp2, atI_nat ez, ?_⟩
      refine ⟨q, _, dx, _, _, rfl, hq, c_Ratio T, na_Ratio_top T, qf_top _, ?_⟩
      refine ⟨rfl, _, rfl, ?_⟩
      have e3 : m.length - st - i = (m.length - st - (i + 1)) + 1 := by omega
      rw [e3] at hp
      unfold pivotF at hp
      by_cases h0 : gt (m.getD (st + i) []) c ≠ 0
      · rw [if_pos h0] at hp
        have d : decide (V.int (gt (m.getD (st + i) []) c).num = V.int 0) = false := decide_eq_false fun e => h0 (Rat.num_eq_zero.mp (by injection e))
        rw [d]
        refine iteT ?_
        refine ⟨_, rfl, ?_⟩
        have e4 : (st : Int) + (i : Int) = ((st + i : Nat) : Int) := by omega
        rw [e4]
        exact k1 _ hp
      · rw [if_neg h0] at hp
        have h0' : gt (m.getD (st + i) []) c = 0 := Classical.byContradiction fun e => h0 e
        have d : decide (V.int (gt (m.getD (st + i) []) c).num = V.int 0) = true := decide_eq_true (by rw [h0']; rfl)
        rw [d]
        refine iteF ?_
        exact ⟨_, rfl, rfl, hp⟩
    · rintro σ H' ⟨v, rfl, rfl, hp⟩
      have e3 : m.length - st - ((xs.length : Int) - (st : Int)).toNat = 0 := by omega
      rw [e3] at hp
      exact k2 hp

/-! ### cleared -/
def spCleared (C : Addr) : Sp := fun vs H Q _ => ∃ (l : Addr) (xs : List V) (m : Mat) (p c W : Nat), vs = [.ref l, .int (p : Int), .int (c : Int)] ∧ H l = some (.lst xs) ∧ Al (IsV C) H xs m ∧ p < m.length ∧ c < W ∧ Wd W m ∧ Mb 1000 m ∧ gt (m.getD p []) c ≠ 0 ∧
  ∀ H' l' xs', Same H H' → H l' = none → H' l' = some (.lst xs') → Al (IsV C) H' xs' (cleared m p c) → Q (.ref l') H'
theorem sc_cleared : FnScope ["rows", "place", "column", "lead", "unit", "out", "index", "row"] ["rows", "place", "column"] (defScope sCleared) := ⟨rfl, rfl, rfl, by decide +kernel, rfl, by decide +kernel, by decide +kernel⟩
theorem ok_cleared (T : TX w K mg) : C8.Cal P w K mg base 5 "cleared" (spCleared (cR K)) [] := by
  refine cal1 (d_cleared T) (g_cleared T) (ps := ["rows", "place", "column"]) (fun _ _ _ _ _ _ us hl => match us, hl with | [_, _, _], _ => rfl) sc_cleared (fun vs H Q E h => ?_) (fun cdv A outr s H vs Q E hr h => ?_)
  · obtain ⟨l, xs, m, p, c, W, rfl, _⟩ := h
    rfl
  · obtain ⟨l, xs, m, p, c, W, rfl, hl, al, hp, hc, hW, hm, h0, k⟩ := h
    refine ⟨_, (pss_cons (ps_set (i := 3) sc_cleared.nd rfl (Or.inl rfl) (pe_ixLK (K := K) (pv 0) (pv 1) (fun _ _ => rfl)))
      (pss_cons (ps_set (i := 4) sc_cleared.nd rfl (Or.inl rfl) (C8.pe_c (j := 4) (ok_scale T) hr (by decide) rfl (pa_cons (C8.pe_mt (j := 4) (ok_rover T) hr (by decide) (C8.pe_mk (j := 4) (mk_R1 T) hr (by decide) rfl (pa_cons pe_int pa_nil)) (pa_cons (pe_ixTK (K := K) (pv 3) (pv 2) (fun _ _ => rfl)) pa_nil)) (pa_cons (pv 3) pa_nil))))
      (pss_cons (ps_set (i := 5) sc_cleared.nd rfl (Or.inl rfl) (pe_lst pa_nil))
      (pss_cons (ps_for PassesOwn.never rfl (pi_enum rfl (n_enumerate T) (pa_cons (pv 0) pa_nil)) (pg_pairK (K := K) rfl (pg_name (i := 6) sc_cleared.nd rfl (Or.inl rfl)) (pg_name (i := 7) sc_cleared.nd rfl (Or.inl rfl))) (pss_one (ps_if (pt_cmpR op_eq (pv 6) (pv 1) (nomark _)) (pss_one (ps_expr (pe_bm PySem.F.plainAttrs_list PySem.F.slot_list_append PySem.F.type_list_append mt_append (pv 5) (pa_cons (pv 4) pa_nil)))) (pss_one (ps_if (pt_cmpR op_eq (pe_fldK (K := K) (pe_ixTK (K := K) (pv 7) (pv 2) (fun _ _ => rfl)) rfl) pe_int (nomark _)) (pss_one (ps_expr (pe_bm PySem.F.plainAttrs_list PySem.F.slot_list_append PySem.F.type_list_append mt_append (pv 5) (pa_cons (pv 7) pa_nil)))) (pss_one (ps_expr (pe_bm PySem.F.plainAttrs_list PySem.F.slot_list_append PySem.F.type_list_append mt_append (pv 5) (pa_cons (C8.pe_c (j := 4) (ok_minus T) hr (by decide) rfl (pa_cons (pv 7) (pa_cons (C8.pe_c (j := 4) (ok_scale T) hr (by decide) rfl (pa_cons (pe_ixTK (K := K) (pv 7) (pv 2) (fun _ _ => rfl)) (pa_cons (pv 4) pa_nil))) pa_nil))) pa_nil)))))))))
      (pss_one (ps_ret (pv 5))))))), ?_⟩
    have hxl := al.1
    have hm1 := hm.1
    have el := getD_mem hp
    have lW : (m.getD p []).length = W := hW.at el
    have ec := gt_at (r := m.getD p []) (c := c) (by omega)
    obtain ⟨xl, exl, rl⟩ := al.at el
    obtain ⟨pl, ls, rfl, hpl, all⟩ := id rl
    obtain ⟨zc, ezc, rzc⟩ := all.at ec
    have bl : Vb 1000 (m.getD p []) := hm.at el
    have bc : Bd 1000 (gt (m.getD p []) c) := bl.at ec
    have bi : Bd 1001 (1 / gt (m.getD p []) c) := ((Bd.one (n := 1) (by decide)).div bc h0).mono (by decide)
    refine ⟨_, rfl, _, rfl, l, xs, _, _, rfl, rfl, SqL.of hl, atI_nat exl, ?_⟩
    refine fun x0 dx0 nx0 nd0 ne0 => rd_mk (q := 1) nx0 nd0 (by decide) (by decide +kernel) (d_int 1) fun H1 s1 r1 => ?_
    obtain ⟨a1, dx1, e1, h1⟩ := id r1
    refine ⟨a1, dx1, _, e1, h1, rfl, _, rfl, _, rfl, pl, ls, _, zc, rfl, rfl, SqT.of (s1 _ _ hpl), atI_nat ezc, ?_⟩
    refine ⟨_, _, 1, _, rfl, r1, IsQ.fz _ _ _ _ (Fz.of s1) rzc, Bd.one (by decide), bc.mono (by decide), h0, fun H2 z2 s2 r2 => ?_⟩
    refine ⟨_, rfl, _, _, _, m.getD p [], rfl, r2, IsV.fz _ _ _ _ (Fz.of (s1.trans s2)) rl, bi.mono (by decide), bl.mono (by decide), fun H3 z3 s3 r3 => ?_⟩
    have s123 : Same H H3 := (s1.trans s2).trans s3
    have bu : Vb 2001 (scale (1 / gt (m.getD p []) c) (m.getD p [])) := Vb.scale bi bl
    generalize hu : scale (1 / gt (m.getD p []) c) (m.getD p []) = u at r3 bu
    have lu : u.length = W := by rw [← hu, scale_len, lW]
    refine ⟨Nat.zero_le _, fun D hD => ?_⟩
    have s4 : Same H (upd H3 D (.lst [])) := sm_upd' s123 hD
    have cl : ∀ (i : Nat) (r : List Rat), m[i]? = some r → (cleared m p c)[i]? = some (if i = p then u else clr c u r) := fun i r e => by
      unfold cleared
      rw [List.getElem?_mapIdx, e, hu]; rfl
    refine ⟨_, rfl, l, xs, rfl, SqL.of (s4 _ _ hl), ?_⟩
    refine for_enum (K := K) (a := l) (xs := xs) (fun i σ H' => ∃ (v6 v7 : Option V) (acc : List V), σ = [some (.ref l), some (.int p), some (.int c), some (.ref pl), some z3, some (.ref D), v6, v7] ∧ Same H3 H' ∧ H' D = some (.lst acc) ∧ Al (IsV (cR K)) H' acc ((cleared m p c).take i))
      ⟨none, none, [], rfl, sm_upd hD, upd_same, Al.nil⟩ (fun i σ H' ⟨_, _, _, _, s', _⟩ => (s123.trans s').seq (SqL.of hl)) ?_ ?_
    · rintro i x T' σ H' hx ⟨v6, v7, acc, rfl, s', hacc, aa⟩ hT
      obtain ⟨r, er, rr⟩ := al.get hx
      have ecl := cl i r er
      have hi : i < m.length := (List.getElem?_eq_some_iff.mp er).1
      have lr : r.length = W := hW.at er
      have e5 := gt_at (r := r) (c := c) (by omega)
      have br : Vb 1000 r := hm.at er
      have s5 : Same H3 (upd H' T' (.tup [.int (i : Nat), x])) := sm_upd' s' hT
      have accl : acc.length < sizeLine := by
        have e := aa.1
        rw [List.length_take, cleared_len] at e
        exact small1000 (by omega)
      have fin : ∀ (H6 : Hp) (y : V) (d : List Rat), Same (upd H' T' (.tup [.int (i : Nat), x])) H6 → IsV (cR K) H6 y d → (cleared m p c)[i]? = some d → ∃ (v6 v7 : Option V) (acc2 : List V), ([some (.ref l), some (.int p), some (.int c), some (.ref pl), some z3, some (.ref D), some (.int (i : Nat)), some x] : L2.St) = [some (.ref l), some (.int p), some (.int c), some (.ref pl), some z3, some (.ref D), v6, v7] ∧ Same H3 (upd H6 D (.lst (acc ++ [y]))) ∧ (upd H6 D (.lst (acc ++ [y]))) D = some (.lst acc2) ∧ Al (IsV (cR K)) (upd H6 D (.lst (acc ++ [y]))) acc2 ((cleared m p c).take (i + 1)) := fun H6 y d s6 r6 ed => by
        have hD6 : H6 D = some (.lst acc) := s6 _ _ (sm_upd hT _ _ hacc)
        refine ⟨_, _, _, rfl, sm_upn (s5.trans s6) hD, upd_same, ?_⟩
        rw [take_snoc ed]
        have f : Fz H6 (upd H6 D (.lst (acc ++ [y]))) := Fz.lst hD6
        exact (aa.mono IsV.fz ((Fz.of ((sm_upd hT).trans s6)).trans f)).app (Al.one (IsV.fz _ _ _ _ f r6))
      have hD5 : (upd H' T' (.tup [.int (i : Nat), x])) D = some (.lst acc) := sm_upd hT _ _ hacc
      refine ⟨T', _, rfl, SqT.of upd_same, rfl, _, _, rfl, x, _, rfl, rfl, ?_⟩
      refine ⟨_, rfl, _, rfl, rfl, _, rfl, ?_⟩
      have e : decide (V.int (i : Int) = V.int (p : Int)) = decide (i = p) := decide_eq_decide.mpr ⟨fun q => by injection q with q; omega, fun q => by rw [q]⟩
      rw [e]
      by_cases hip : i = p
      · rw [decide_eq_true hip]
        rw [if_pos hip] at ecl
        refine iteT ?_
        refine ⟨_, rfl, .inl ⟨rfl, _, SqL.of hD5⟩, _, rfl, D, acc, _, rfl, rfl, hD5, accl, ?_⟩
        exact fin _ _ _ (Same.refl _) (IsV.fz _ _ _ _ (Fz.of s5) r3) ecl
      · rw [decide_eq_false hip]
        rw [if_neg hip] at ecl
        refine iteF ?_
        have rx5 : IsV (cR K) (upd H' T' (.tup [.int (i : Nat), x])) x r := IsV.fz _ _ _ _ (Fz.of (s123.trans s5)) rr
        obtain ⟨pr, rs, rfl, hpr, ar⟩ := id rx5
        obtain ⟨zr, ezr, rzr⟩ := ar.at e5
        obtain ⟨q, dx, eq, hq⟩ := id rzr
        refine ⟨_, rfl, _, rfl, pr, rs, _, zr, rfl, rfl, SqT.of hpr, atI_nat ezr, ?_⟩
        refine ⟨q, _, dx, _, _, eq, hq, c_Ratio T, na_Ratio_top T, qf_top _, rfl, _, rfl, ?_⟩
        by_cases hz : gt r c = 0
        · have d : decide (V.int (gt r c).num = V.int 0) = true := decide_eq_true (by rw [hz]; rfl)
          rw [d]
          refine iteT ?_
          unfold clr at ecl
          rw [if_pos hz] at ecl
          refine ⟨_, rfl, .inl ⟨rfl, _, SqL.of hD5⟩, _, rfl, D, acc, _, rfl, rfl, hD5, accl, ?_⟩
          exact fin _ _ _ (Same.refl _) rx5 ecl
        · have d : decide (V.int (gt r c).num = V.int 0) = false := decide_eq_false fun e => hz (Rat.num_eq_zero.mp (by injection e))
          rw [d]
          refine iteF ?_
          unfold clr at ecl
          rw [if_neg hz] at ecl
          refine ⟨_, rfl, .inl ⟨rfl, _, SqL.of hD5⟩, ?_⟩
          refine ⟨_, rfl, _, rfl, _, rfl, pr, rs, _, zr, rfl, rfl, SqT.of hpr, atI_nat ezr, _, rfl, ?_⟩
          refine ⟨_, _, gt r c, u, rfl, rzr, IsV.fz _ _ _ _ (Fz.of s5) r3, (br.at e5).mono (by decide), bu.mono (by decide), fun H6 z6 s6 r6 => ?_⟩
          refine ⟨_, _, r, _, rfl, IsV.fz _ _ _ _ (Fz.of s6) rx5, r6, br.mono (by decide), (Vb.scale (br.at e5) bu).mono (by decide), by rw [scale_len, lr, lu], fun H7 z7 s7 r7 => ?_⟩
          have hD7 : H7 D = some (.lst acc) := (s6.trans s7) _ _ hD5
          refine ⟨D, acc, z7, rfl, rfl, hD7, accl, ?_⟩
          exact fin _ _ _ (s6.trans s7) r7 ecl
    · rintro σ H' ⟨v6, v7, acc, rfl, s', hacc, aa⟩
      refine ⟨_, rfl, ?_⟩
      have e : (cleared m p c).take xs.length = cleared m p c := by rw [hxl, ← cleared_len m p c, List.take_length]
      rw [e] at aa
      exact k _ _ _ (s123.trans s') (s123.free hD) hacc aa

end
end PN
end
section
set_option maxRecDepth 100000
set_option maxHeartbeats 4000000
namespace PN
open PySem PySem.Spec PyProof.Rows L2
section
variable {P : Program} {w : World} {K : PySem.W.Frag} {mg : Str → Option Value} {base : Heap}

/-! ### reduced -/
abbrev pvs (l : List Nat) : List V := l.map fun (n : Nat) => V.int (n : Int)
def spReduced (C : Addr) : Sp := fun vs H Q _ => ∃ (v : V) (m : Mat) (n W : Nat), vs = [v, .int (n : Int)] ∧ IsM C H v m ∧ Wd W m ∧ n ≤ W ∧ W ≤ 100 ∧ m.length ≤ 100 ∧ (∀ c, c ≤ n → Mb 1000 (redState m c).1) ∧
  ∀ H' p a b, Same H H' → H' p = some (.tup [a, b]) → IsM C H' a (reduced m n).1 → (∃ bp, b = .ref bp ∧ H' bp = some (.tup (pvs (reduced m n).2))) → Q (.ref p) H'
theorem Mb.swp {n : Nat} {m : Mat} {i j : Nat} (h : Mb n m) (hi : i < m.length) (hj : j < m.length) : Mb n (swp m i j) := ⟨by rw [swp_len]; exact h.1, fun r hr => h.2 r (swp_mem hi hj hr)⟩
theorem sc_reduced : FnScope ["matrix", "width", "rows", "pivots", "column", "place", "found"] ["matrix", "width"] (defScope sReduced) := ⟨rfl, rfl, rfl, by decide +kernel, rfl, by decide +kernel, by decide +kernel⟩
theorem ok_reduced (T : TX w K mg) : C8.Cal P w K mg base 6 "reduced" (spReduced (cR K)) [] := by
  refine cal1 (d_reduced T) (g_reduced T) (ps := ["matrix", "width"]) (fun _ _ _ _ _ _ us hl => match us, hl with | [_, _], _ => rfl) sc_reduced (fun vs H Q E h => ?_) (fun cdv A outr s H vs Q E hr h => ?_)
  · obtain ⟨v, m, n, W, rfl, _⟩ := h
    rfl
  · obtain ⟨v, m, n, W, rfl, hv, hW, hn, hW2, hm, hb, k⟩ := h
    refine ⟨_, (pss_cons (ps_set (i := 2) sc_reduced.nd rfl (Or.inl rfl) (pe_callTy call_list_of (by rfl) (n_list T) (by decide +kernel) (pa_cons (pv 0) pa_nil)))
      (pss_cons (ps_set (i := 3) sc_reduced.nd rfl (Or.inl rfl) (pe_lst pa_nil))
      (pss_cons (ps_for PassesOwn.never rfl (pi_range1 rfl (n_range T) (pa_cons (pv 1) pa_nil)) (pg_name (i := 4) sc_reduced.nd rfl (Or.inl rfl)) (pss_cons (ps_set (i := 5) sc_reduced.nd rfl (Or.inl rfl) (pe_callB call_len_seq (by rfl) (n_len T) PySem.boot_len (pa_cons (pv 3) pa_nil)))
      (pss_cons (ps_set (i := 6) sc_reduced.nd rfl (Or.inl rfl) (C8.pe_c (j := 5) (ok_pivot_row T) hr (by decide) rfl (pa_cons (pv 2) (pa_cons (pv 5) (pa_cons (pv 4) pa_nil)))))
      (pss_one (ps_if (pt_cmpR op_notN (pv 6) pe_non (nomark _)) (pss_cons (ps_asg (pe_tup (pa_cons (pe_ixLK (K := K) (pv 2) (pv 6) (fun _ _ => rfl)) (pa_cons (pe_ixLK (K := K) (pv 2) (pv 5) (fun _ _ => rfl)) pa_nil))) (pg_tup rfl (pgs_cons (pg_sub (pv 2) (pv 5) set_list) (pgs_cons (pg_sub (pv 2) (pv 6) set_list) pgs_nil))))
      (pss_cons (ps_set (i := 2) sc_reduced.nd rfl (Or.inl rfl) (C8.pe_c (j := 5) (ok_cleared T) hr (by decide) rfl (pa_cons (pv 2) (pa_cons (pv 5) (pa_cons (pv 4) pa_nil)))))
      (pss_one (ps_expr (pe_bm PySem.F.plainAttrs_list PySem.F.slot_list_append PySem.F.type_list_append mt_append (pv 3) (pa_cons (pv 4) pa_nil)))))) pss_nil)))))
      (pss_one (ps_ret (pe_tup (pa_cons (pe_tupK (K := K) rfl (n_tuple T) (pe_slice sl_list (pv 2) po_none (po_some (pe_callB call_len_seq (by rfl) (n_len T) PySem.boot_len (pa_cons (pv 3) pa_nil))))) (pa_cons (pe_tupK (K := K) rfl (n_tuple T) (pv 3)) pa_nil)))))))), ?_⟩
    obtain ⟨p, xs, rfl, hp, ax⟩ := hv
    refine ⟨_, rfl, p, xs, rfl, .inr (SqT.of hp), fun L hL => ?_⟩
    have s1 : Same H (upd H L (.lst xs)) := sm_upd hL
    refine ⟨Nat.zero_le _, fun D hD => ?_⟩
    have nLD : L ≠ D := ne_of_none upd_same hD
    have s2 : Same H (upd (upd H L (.lst xs)) D (.lst [])) := sm_upd' s1 hD
    have hD0 : H D = none := s1.free hD
    refine ⟨_, rfl, _, rfl, by omega, by omega, ?_⟩
    refine for_range (lo := 0) (n := ((n : Int)).toNat) (fun i σ H' => ∃ (L' : Addr) (v4 v5 v6 : Option V) (ys : List V), σ = [some (.ref p), some (.int n), some (.ref L'), some (.ref D), v4, v5, v6] ∧ Same H H' ∧ H L' = none ∧ L' ≠ D ∧ H' L' = some (.lst ys) ∧ Al (IsV (cR K)) H' ys (redState m i).1 ∧ H' D = some (.lst (pvs (redState m i).2)))
      ⟨L, none, none, none, xs, rfl, s2, hL, nLD, by rw [upd_ne nLD, upd_same], (ax.mono IsV.fz (Fz.of s2)), upd_same⟩ ?_ ?_
    · rintro i σ H' hi ⟨L', v4, v5, v6, ys, rfl, s', hL', nL', hys, ay, hpv⟩
      have hi2 : i < n := by omega
      obtain ⟨w1, w2, w3⟩ := redState_wd hW i
      have bm := hb i (by omega)
      have estep := redState_succ m i
      generalize hst : redState m i = st at *
      have lpv : (pvs st.2).length = st.2.length := List.length_map ..
      refine ⟨_, rfl, D, pvs st.2, rfl, .inl (SqL.of hpv), ?_⟩
      rw [lpv]
      have ez : (0 : Int) + (i : Int) = (i : Int) := by omega
      rw [ez]
      refine ⟨_, rfl, _, rfl, _, rfl, L', ys, st.1, st.2.length, i, rfl, hys, ay, by omega, by omega, fun r hr => by rw [w1 r hr]; omega, fun f hf => ?_, fun hf => ?_⟩
      · obtain ⟨f1, f2, f3⟩ := pivotRow_some hf
        refine ⟨_, rfl, rfl, _, rfl, ?_⟩
        refine iteT ?_
        have hpl : st.2.length < st.1.length := by omega
        obtain ⟨xf, exf, rf⟩ := ay.at (getD_mem f2)
        obtain ⟨xp, exp, rp⟩ := ay.at (getD_mem hpl)
        refine ⟨_, rfl, _, rfl, L', ys, _, xf, rfl, rfl, SqL.of hys, atI_nat exf, _, rfl, _, rfl, L', ys, _, xp, rfl, rfl, SqL.of hys, atI_nat exp, (by show 2 ≤ sizeLine; decide), fun q hq => ?_⟩
        have nq : ∀ {b : Addr} {o : HO}, H' b = some o → b ≠ q := fun e => ne_of_none e hq
        have lys : ys.length = st.1.length := ay.1
        refine ⟨q, [xf, xp], rfl, SqT.of upd_same, rfl, xf, [xp], rfl, ?_⟩
        refine ⟨_, rfl, _, rfl, L', ys, _, st.2.length, rfl, rfl, by rw [upd_ne (nq hys)]; exact hys, ixN_nat (by omega), xp, [], rfl, ?_⟩
        refine ⟨_, rfl, _, rfl, L', _, _, f, rfl, rfl, upd_same, ixN_nat (by rw [List.length_set]; omega), rfl, ?_⟩
        rw [upd_upd]
        -- the heap behind the exchange
        generalize hys2 : (ys.set st.2.length xf).set f xp = ys2
        have hH2 : ∀ b, b ≠ L' → b ≠ q → upd (upd H' q (.tup [xf, xp])) L' (.lst ys2) b = H' b := fun b h1 h2 => by rw [upd_ne h1, upd_ne h2]
        have f2' : Fz H' (upd (upd H' q (.tup [xf, xp])) L' (.lst ys2)) := (Fz.of (sm_upd hq)).trans (Fz.lst (by rw [upd_ne (nq hys)]; exact hys))
        have s2' : Same H (upd (upd H' q (.tup [xf, xp])) L' (.lst ys2)) := sm_upn (sm_upd' s' hq) hL'
        have ay2 : Al (IsV (cR K)) (upd (upd H' q (.tup [xf, xp])) L' (.lst ys2)) ys2 (swp st.1 st.2.length f) := by
          subst hys2
          exact Al.set (Al.set (ay.mono IsV.fz f2') st.2.length (IsV.fz _ _ _ _ f2' rf)) f (IsV.fz _ _ _ _ f2' rp)
        have hpv2 : upd (upd H' q (.tup [xf, xp])) L' (.lst ys2) D = some (.lst (pvs st.2)) := by rw [hH2 D (Ne.symm nL') (nq hpv)]; exact hpv
        have hL2 : upd (upd H' q (.tup [xf, xp])) L' (.lst ys2) L' = some (.lst ys2) := upd_same
        generalize upd (upd H' q (.tup [xf, xp])) L' (.lst ys2) = H2 at *
        refine ⟨_, rfl, _, rfl, _, rfl, L', ys2, swp st.1 st.2.length f, st.2.length, i, W, rfl, hL2, ay2, by rw [swp_len]; exact hpl, by omega, fun r hr => w1 r (swp_mem hpl f2 hr), bm.swp hpl f2, by rw [swp_at hpl f2]; exact f3, fun H3 l3 xs3 s3 n3 h3 a3 => ?_⟩
        have nl3 : l3 ≠ D := fun e => by rw [e, hpv2] at n3; cases n3
        refine ⟨_, rfl, .inl ⟨rfl, _, SqL.of (s3 _ _ hpv2)⟩, _, rfl, D, _, _, rfl, rfl, s3 _ _ hpv2, by rw [lpv]; exact small1000 (by omega), ?_⟩
        have est : redState m (i + 1) = (cleared (swp st.1 st.2.length f) st.2.length i, st.2 ++ [i]) := by
          rw [estep]; unfold redStep; rw [hf]
        refine ⟨l3, _, _, _, xs3, rfl, sm_upn (s2'.trans s3) hD0, s2'.free n3, nl3, by rw [upd_ne nl3]; exact h3, ?_, ?_⟩
        · rw [est]
          exact a3.mono IsV.fz (Fz.lst (s3 _ _ hpv2))
        · rw [est, upd_same]
          show _ = some (HO.lst (List.map _ (st.2 ++ [i])))
          rw [List.map_append]; rfl
      · refine ⟨_, rfl, rfl, _, rfl, ?_⟩
        refine iteF ?_
        have est : redState m (i + 1) = st := by
          rw [estep]; unfold redStep; rw [hf]
        rw [← est] at ay hpv
        exact ⟨L', _, _, _, ys, rfl, s', hL', nL', hys, ay, hpv⟩
    · rintro σ H' ⟨L', v4, v5, v6, ys, rfl, s', hL', nL', hys, ay, hpv⟩
      have en : ((n : Int)).toNat = n := by omega
      rw [en] at ay hpv
      obtain ⟨w1, w2, w3⟩ := redState_wd hW n
      have lpv : (pvs (redState m n).2).length = (redState m n).2.length := List.length_map ..
      have lys := ay.1
      refine ⟨_, rfl, _, rfl, D, _, rfl, .inl (SqL.of hpv), _, rfl, L', ys, rfl, SqL.of hys, fun q hq => ?_⟩
      rw [lpv, cut_take (by omega)]
      refine .inl ⟨q, _, rfl, SqL.of upd_same, fun q2 hq2 => ?_⟩
      have s3 := sm_upd' (sm_upd hq) (o := .tup (ys.take (redState m n).2.length)) hq2
      refine ⟨_, rfl, .inl ⟨D, _, rfl, SqL.of (s3 _ _ hpv), fun q3 hq3 => ?_⟩⟩
      refine ⟨(by show 2 ≤ sizeLine; decide), fun q4 hq4 => ?_⟩
      have s5 := sm_upd' (sm_upd hq3 (o := .tup (pvs (redState m n).2))) (o := .tup [.ref q2, .ref q3]) hq4
      have s6 := s3.trans s5
      refine k _ q4 _ _ (s'.trans s6) upd_same ⟨q2, ys.take (redState m n).2.length, rfl, s5 _ _ upd_same, ?_⟩ ⟨q3, rfl, sm_upd hq4 _ _ upd_same⟩
      exact (ay.mono IsV.fz (Fz.of s6)).take _

end
end PN
end
section
namespace PN
def joined (m : Mat) : Mat := List.zipWith (· ++ ·) m (identity m.length)
def inverseOf (m : Mat) : Mat := (reduced (joined m) (2 * m.length)).1.map (·.drop m.length)
def colsAt (m : Mat) (pv : List Nat) : Mat := m.map fun r => pv.map (gt r)
structure Ps where
  F : Mat
  pv : List Nat
  C : Mat
  t : Mat
  G : Mat
  first : Mat
  acr : Mat
  S : Mat
  second : Mat
  mid : Mat
  x : Mat
/-- the steps of pseudo_inverse, one by one -/
def psOf (m : Mat) (w : Nat) : Ps :=
  let F := (reduced m w).1
  let pv := (reduced m w).2
  let C := colsAt m pv
  let t := transpose F w
  let G := product F t pv.length
  let first := inverseOf G
  let acr := transpose C pv.length
  let S := product acr C pv.length
  let second := inverseOf S
  let mid := product first second pv.length
  let x := product mid acr m.length
  ⟨F, pv, C, t, G, first, acr, S, second, mid, x⟩
def pseudo (m : Mat) (w : Nat) : Mat := if (reduced m w).2.length = 0 then zeros w m.length else product (psOf m w).t (psOf m w).x m.length
def addTerm (m : Mat) (r : List Rat) (w : Rat) : Mat := sumOf m (scaled w (outer r r))
/-- what the sizes must be for an inverse -/
structure InvOk (m : Mat) (s : Nat) : Prop where
  len : m.length = s
  wd : Wd s m
  red : ∀ c, c ≤ 2 * s → Mb 1000 (redState (joined m) c).1
/-- .. for a pseudo-inverse of a small matrix -/
structure PsOk (m : Mat) (w : Nat) : Prop where
  wd : Wd w m
  hl : m.length ≤ 5
  hw : w ≤ 5
  bm : Mb 64 m
  red : ∀ c, c ≤ w → Mb 1000 (redState m c).1
  bF : Mb 64 (psOf m w).F
  iG : InvOk (psOf m w).G (psOf m w).pv.length
  b1 : Mb 200 (psOf m w).first
  l1 : (psOf m w).first.length = (psOf m w).pv.length
  w1 : Wd (psOf m w).pv.length (psOf m w).first
  iS : InvOk (psOf m w).S (psOf m w).pv.length
  b2 : Mb 200 (psOf m w).second
  l2 : (psOf m w).second.length = (psOf m w).pv.length
  w2 : Wd (psOf m w).pv.length (psOf m w).second
  b3 : Mb 300 (psOf m w).mid
  b4 : Mb 600 (psOf m w).x
theorem transpose_len (m : Mat) (w : Nat) : (transpose m w).length = w := by unfold transpose; rw [List.length_map, List.length_range]
theorem col_len' (m : Mat) (c : Nat) : (col m c).length = m.length := List.length_map ..
theorem transpose_wd (m : Mat) (w : Nat) : Wd m.length (transpose m w) := fun r hr => by
  obtain ⟨i, _, rfl⟩ := List.mem_map.mp hr
  exact col_len' m i
theorem product_len (f g : Mat) (w : Nat) : (product f g w).length = f.length := List.length_map ..
theorem product_wd (f g : Mat) (w : Nat) : Wd w (product f g w) := fun r hr => by
  obtain ⟨i, _, rfl⟩ := List.mem_map.mp hr
  unfold apply
  rw [List.length_map, transpose_len]
theorem colsAt_len (m : Mat) (pv : List Nat) : (colsAt m pv).length = m.length := List.length_map ..
theorem colsAt_wd (m : Mat) (pv : List Nat) : Wd pv.length (colsAt m pv) := fun r hr => by
  obtain ⟨i, _, rfl⟩ := List.mem_map.mp hr
  exact List.length_map ..
theorem unit_len (w i : Nat) : (unit w i).length = w := by unfold unit; rw [List.length_map, List.length_range]
theorem identity_len (w : Nat) : (identity w).length = w := by unfold identity; rw [List.length_map, List.length_range]
theorem joined_len (m : Mat) : (joined m).length = m.length := by unfold joined; rw [List.length_zipWith, identity_len]; omega
theorem joined_wd {s : Nat} {m : Mat} (h : Wd s m) (l : m.length = s) : Wd (2 * s) (joined m) := fun r hr => by
  unfold joined at hr
  obtain ⟨i, hi, rfl⟩ := List.mem_iff_getElem.mp hr
  rw [List.getElem_zipWith, List.length_append]
  have h1 := h _ (List.getElem_mem (l := m) (n := i) (by rw [List.length_zipWith] at hi; omega))
  rw [h1]
  have h2 : ((identity m.length)[i]'(by rw [List.length_zipWith] at hi; omega)).length = m.length := by
    unfold identity
    rw [List.getElem_map, unit_len]
  rw [h2]; omega
theorem colsAt_mb {n w : Nat} {m : Mat} {pv : List Nat} (h : Mb n m) (hw : Wd w m) (hp : ∀ x ∈ pv, x < w) (hl : pv.length ≤ 100) : Mb n (colsAt m pv) := by
  refine ⟨by rw [colsAt_len]; exact h.1, fun r hr => ?_⟩
  obtain ⟨r0, h0, rfl⟩ := List.mem_map.mp hr
  refine ⟨by rw [List.length_map]; exact hl, fun x hx => ?_⟩
  obtain ⟨p, hp', rfl⟩ := List.mem_map.mp hx
  exact (h.2 r0 h0).at (gt_at (by rw [hw r0 h0]; exact hp p hp'))
theorem reduced_len {w : Nat} {m : Mat} {n : Nat} (h : Wd w m) : (reduced m n).1.length = (reduced m n).2.length := by
  obtain ⟨h1, h2, h3⟩ := redState_wd h n
  unfold reduced
  show (List.take _ _).length = _
  rw [List.length_take]; show min (redState m n).2.length _ = (redState m n).2.length; omega
theorem reduced_wd {w : Nat} {m : Mat} {n : Nat} (h : Wd w m) : Wd w (reduced m n).1 := fun r hr => (redState_wd h n).1 r (List.mem_of_mem_take hr)
theorem piv_len : ∀ {m : Mat} (c : Nat), (redState m c).2.length ≤ c
  | m, 0 => Nat.le_refl _
  | m, c + 1 => by
    have ih := piv_len (m := m) c
    rw [redState_succ]; unfold redStep
    cases pivotRow (redState m c).1 (redState m c).2.length c with
    | none => show (redState m c).2.length ≤ _; omega
    | some f => show ((redState m c).2 ++ [c]).length ≤ _; rw [List.length_append, List.length_singleton]; omega
end PN
end
section
set_option maxRecDepth 100000
set_option maxHeartbeats 4000000
namespace PN
open PySem PySem.Spec PyProof.Rows L2
/-- K-variants -/
theorem pe_slTK {X : Cx} {K : PySem.W.Frag} {e : Expr} {lo hi : Option Expr} {te : TE} {tl th : TO} {p2 pos : Pos} (he : PE X e te) (hl : PO X lo tl) (hu : PO X hi th) (eK : X.K = K := by rfl) : PE X (.Subscript e (.Slice lo hi none p2) pos) (tSl (rSlA K) te tl th) := by
  subst eK; exact pe_slice sl_tupA he hl hu
theorem pe_catK {X : Cx} {K : PySem.W.Frag} {a b : Expr} {ta tb : TE} {pos : Pos} (ha : PE X a ta) (hb : PE X b tb) (eK : X.K = K := by rfl) : PE X (.BinOp a .Add b pos) (tOp (rCatA K) ta tb) := by
  subst eK; exact pe_op op_catA ha hb
theorem cut_drop {xs : List V} {n : Nat} (h : n ≤ xs.length) : cutV xs (some (n : Int)) none = xs.drop n := by
  unfold cutV
  have e1 : HT.sIx xs.length xs.length none = xs.length := rfl
  have e2 : HT.sIx xs.length 0 (some (n : Int)) = n := by
    unfold HT.sIx
    simp only []
    split <;> omega
  rw [e1, e2, List.take_of_length_le (by rw [List.length_drop]; omega)]
theorem sIx_n {n l : Nat} (h : n ≤ l) : HT.sIx l 0 (some (n : Int)) = n := by
  unfold HT.sIx
  simp only []
  split <;> omega
section
variable {P : Program} {w : World} {K : PySem.W.Frag} {mg : Str → Option Value} {base : Heap}

/-! ### inverse_of -/
def spInverseOf (C : Addr) : Sp := fun vs H Q _ => ∃ (v : V) (m : Mat) (s : Nat), vs = [v] ∧ IsM C H v m ∧ 0 < s ∧ s ≤ 5 ∧ InvOk m s ∧ ∀ H' z, Same H H' → IsM C H' z (inverseOf m) → Q z H'
theorem sc_inverse_of : FnScope ["matrix", "size", "joined", "rows", "row", "unit"] ["matrix"] (defScope sInverseOf) := ⟨rfl, rfl, rfl, by decide +kernel, rfl, by decide +kernel, by decide +kernel⟩
theorem ok_inverse_of (T : TX w K mg) : C8.Cal P w K mg base 7 "inverse_of" (spInverseOf (cR K)) [] := by
  refine cal1 (d_inverse_of T) (g_inverse_of T) (ps := ["matrix"]) (fun _ _ _ _ _ _ us hl => match us, hl with | [_], _ => rfl) sc_inverse_of (fun vs H Q E h => ?_) (fun cdv A outr s H vs Q E hr h => ?_)
  · obtain ⟨v, m, s, rfl, _⟩ := h
    rfl
  · obtain ⟨v, m, s0, rfl, hv, h0, h5, ok, k⟩ := h
    refine ⟨_, (pss_cons (ps_set (i := 1) sc_inverse_of.nd rfl (Or.inr rfl) (pe_callB call_len_seq (by rfl) (n_len T) PySem.boot_len (pa_cons (pv 0) pa_nil)))
      (pss_cons (ps_set (i := 2) sc_inverse_of.nd rfl (Or.inl rfl) (pe_tupK (K := K) rfl (n_tuple T) (pe_lc (own := [("row", 4), ("unit", 5)]) (g := gPair K 4 5) (by rfl) sc_inverse_of.nd (pi_zipK (K := K) rfl (n_zip T) (pa_cons (pv 0) (pa_cons (C8.pe_c (j := 6) (ok_identity T) hr (by decide) rfl (pa_cons (pv 1) pa_nil)) pa_nil))) (blkOk_by (own := [("row", 4), ("unit", 5)]) (N := ["matrix", "size", "joined", "rows", "row", "unit"]) (sc := defScope sInverseOf) (by decide +kernel))
      (fun _ _ _ _ _ => (pg_pairK (K := K) rfl (pg_name (i := 4) sc_inverse_of.nd rfl (Or.inl rfl)) (pg_name (i := 5) sc_inverse_of.nd rfl (Or.inl rfl)))) (fun _ _ _ _ _ => pts_nil) (fun _ _ _ _ _ => (pe_catK (K := K) (pv 4) (pv 5))))))
      (pss_cons (ps_set (i := 3) sc_inverse_of.nd rfl (Or.inl rfl) (pe_ixTK (K := K) (C8.pe_c (j := 6) (ok_reduced T) hr (by decide) rfl (pa_cons (pv 2) (pa_cons (pe_op op_mul pe_int (pv 1)) pa_nil))) pe_int (fun _ _ => rfl)))
      (pss_one (ps_ret (pe_tupK (K := K) rfl (n_tuple T) (pe_lc (own := [("row", 4)]) (g := gName 4) (by rfl) sc_inverse_of.nd (pi_tupK (K := K) (pv 3)) (blkOk_by (own := [("row", 4)]) (N := ["matrix", "size", "joined", "rows", "row", "unit"]) (sc := defScope sInverseOf) (by decide +kernel))
      (fun _ _ _ _ _ => (pg_name (i := 4) sc_inverse_of.nd rfl (Or.inl rfl))) (fun _ _ _ _ _ => pts_nil) (fun _ _ _ _ _ => (pe_slTK (K := K) (pv 4) (po_some (pv 1)) po_none))))))))), ?_⟩
    obtain ⟨p, xs, rfl, hp, ax⟩ := hv
    have hlen := ok.len
    have lx := ax.1
    refine ⟨_, rfl, p, xs, rfl, .inr (SqT.of hp), ?_⟩
    rw [lx, hlen]
    refine ⟨_, rfl, _, rfl, s0, rfl, by omega, fun H1 z1 s1 h1 => ?_⟩
    obtain ⟨q, zs, rfl, hq, az⟩ := h1
    have lz := az.1
    rw [identity_len] at lz
    have lj : (joined m).length = s0 := by rw [joined_len, hlen]
    refine ⟨p, q, xs, zs, rfl, .inr ⟨SqT.of (s1 _ _ hp), SqT.of hq, fun D hD => ?_⟩⟩
    refine lcZ (R := IsV (cR K)) (ys := joined m) (by decide) IsV.fz hD (SqT.of (s1 _ _ hp)) (SqT.of hq) (by omega) (by rw [lj]; omega) (by rw [lj]; omega) ?_ ?_
    · intro t x z y H' hx hz hy s' k' hk
      obtain ⟨qx, ex, rx⟩ := ax.get hx
      obtain ⟨qz, ez, rz⟩ := az.get hz
      have ez' : (identity m.length)[t]? = some qz := by rw [hlen]; exact ez
      have ey := get_zip ex ez' hy
      subst ey
      have l1 := ok.wd.at ex
      obtain ⟨_, e3⟩ := get_range (f := unit s0) ez
      have l2 : qz.length = s0 := by rw [e3, unit_len]
      obtain ⟨a1, r1, rfl, ha1, b1⟩ := IsV.fz _ _ _ _ (Fz.of (s1.trans s')) rx
      obtain ⟨a2, r2, rfl, ha2, b2⟩ := IsV.fz _ _ _ _ (Fz.of s') rz
      have m1 := b1.1
      have m2 := b2.1
      have n1 : r1 ≠ [] := fun e => by rw [e] at m1; simp at m1; omega
      have n2 : r2 ≠ [] := fun e => by rw [e] at m2; simp at m2; omega
      refine ⟨_, rfl, _, rfl, a1, a2, r1, r2, rfl, rfl, SqT.of ha1, SqT.of ha2, Nat.le_of_lt (small1000 (by omega)), fun e => absurd e n1, fun _ e => absurd e n2, fun _ _ o ho => ?_⟩
      exact hk _ _ (sm_upd ho) ⟨o, r1 ++ r2, rfl, upd_same, (b1.app b2).mono IsQ.fz (Fz.of (sm_upd ho))⟩
    · intro H' acc s' hacc al
      refine tup_done IsV.fz s' hacc al fun H2 z2 s2 h2 => ?_
      have s12 := s1.trans s2
      refine ⟨_, rfl, _, rfl, _, _, rfl, rfl, .inl ⟨by decide, by decide⟩, ?_⟩
      refine ⟨z2, joined m, 2 * s0, 2 * s0, rfl, h2, joined_wd ok.wd hlen, Nat.le_refl _, by omega, by omega, ok.red, fun H3 o a b s3 ho ha hb => ?_⟩
      obtain ⟨ap, rs, rfl, hrs, ar⟩ := ha
      refine ⟨o, [.ref ap, b], _, .ref ap, rfl, rfl, SqT.of ho, at_of (j := 0) rfl rfl, ?_⟩
      have lr := ar.1
      have wr := reduced_wd (n := 2 * s0) (joined_wd ok.wd hlen)
      have lred : (reduced (joined m) (2 * s0)).1.length ≤ s0 := by
        unfold reduced
        show (List.take _ _).length ≤ s0
        rw [List.length_take, (redState_wd (joined_wd ok.wd hlen) _).2.1, lj]; omega
      refine ⟨_, rfl, ap, rfl, ⟨_, SqT.of hrs⟩, fun D2 hD2 => ?_⟩
      have einv : inverseOf m = (reduced (joined m) (2 * s0)).1.map (·.drop s0) := by unfold inverseOf; rw [hlen]
      refine lcT (R := IsV (cR K)) (ys := inverseOf m) IsV.fz hD2 (SqT.of hrs) (by rw [lr, einv, List.length_map]) (by rw [einv, List.length_map]; omega) ?_ ?_
      · intro t x y H' hx hy s' k' hk
        obtain ⟨qx, ex, rx⟩ := ar.get hx
        rw [einv] at hy
        have ey := get_map ex hy
        subst ey
        obtain ⟨a1, r1, rfl, ha1, b1⟩ := IsV.fz _ _ _ _ (Fz.of s') rx
        have l1 := wr.at ex
        have m1 := b1.1
        refine ⟨_, rfl, _, rfl, _, rfl, a1, r1, rfl, SqT.of ha1, fun e => ?_, fun _ o ho => ?_⟩
        · rw [sIx_n (by omega)] at e; omega
        · rw [cut_drop (by omega)]
          exact hk _ _ (sm_upd ho) ⟨o, r1.drop s0, rfl, upd_same, (b1.drop s0).mono IsQ.fz (Fz.of (sm_upd ho))⟩
      · intro H' acc s' hacc al
        exact tup_done IsV.fz s' hacc al fun H4 z4 s4 h4 => k _ _ ((s12.trans s3).trans s4) h4

/-! ### pseudo_inverse -/
def spPseudo (C : Addr) : Sp := fun vs H Q _ => ∃ (v : V) (m : Mat) (w : Nat), vs = [v, .int (w : Int)] ∧ IsM C H v m ∧ PsOk m w ∧ ∀ H' z, Same H H' → IsM C H' z (pseudo m w) → Q z H'
theorem sc_pseudo_inverse : FnScope ["matrix", "width", "height", "lower", "pivots", "size", "columns", "turned", "first", "across", "second", "middle", "row", "pivot"] ["matrix", "width"] (defScope sPseudo) := ⟨rfl, rfl, rfl, by decide +kernel, rfl, by decide +kernel, by decide +kernel⟩
theorem ok_pseudo_inverse (T : TX w K mg) : C8.Cal P w K mg base 8 "pseudo_inverse" (spPseudo (cR K)) [] := by
  refine cal1 (d_pseudo_inverse T) (g_pseudo_inverse T) (ps := ["matrix", "width"]) (fun _ _ _ _ _ _ us hl => match us, hl with | [_, _], _ => rfl) sc_pseudo_inverse (fun vs H Q E h => ?_) (fun cdv A outr s H vs Q E hr h => ?_)
  · obtain ⟨v, m, w, rfl, _⟩ := h
    rfl
  · obtain ⟨v, m, w, rfl, hv, ok, k⟩ := h
    refine ⟨_, (pss_cons (ps_set (i := 2) sc_pseudo_inverse.nd rfl (Or.inl rfl) (pe_callB call_len_seq (by rfl) (n_len T) PySem.boot_len (pa_cons (pv 0) pa_nil)))
      (pss_cons (ps_asg (C8.pe_c (j := 7) (ok_reduced T) hr (by decide) rfl (pa_cons (pv 0) (pa_cons (pv 1) pa_nil))) (pg_pairK (K := K) rfl (pg_name (i := 3) sc_pseudo_inverse.nd rfl (Or.inl rfl)) (pg_name (i := 4) sc_pseudo_inverse.nd rfl (Or.inr rfl))))
      (pss_cons (ps_set (i := 5) sc_pseudo_inverse.nd rfl (Or.inl rfl) (pe_callB call_len_seq (by rfl) (n_len T) PySem.boot_len (pa_cons (pv 4) pa_nil)))
      (pss_cons (ps_if (pt_cmpR op_eq (pv 5) pe_int (nomark _)) (pss_one (ps_ret (C8.pe_c (j := 7) (ok_zeros T) hr (by decide) rfl (pa_cons (pv 1) (pa_cons (pv 2) pa_nil))))) pss_nil)
      (pss_cons (ps_set (i := 6) sc_pseudo_inverse.nd rfl (Or.inl rfl) (pe_tupK (K := K) rfl (n_tuple T) (pe_lc (own := [("row", 12)]) (g := gName 12) (by rfl) sc_pseudo_inverse.nd (pi_tupK (K := K) (pv 0)) (blkOk_by (own := [("row", 12)]) (N := ["matrix", "width", "height", "lower", "pivots", "size", "columns", "turned", "first", "across", "second", "middle", "row", "pivot"]) (sc := defScope sPseudo) (by decide +kernel))
      (fun _ _ _ _ _ => (pg_name (i := 12) sc_pseudo_inverse.nd rfl (Or.inr rfl))) (fun _ _ _ _ _ => pts_nil) (fun _ _ _ _ _ => (pe_tupK (K := K) rfl (n_tuple T) (pe_lc (own := [("pivot", 13)]) (g := gName 13) (by rfl) sc_pseudo_inverse.nd (pi_tupK (K := K) (pv 4)) (blkOk_by (own := [("pivot", 13)]) (N := ["matrix", "width", "height", "lower", "pivots", "size", "columns", "turned", "first", "across", "second", "middle", "row", "pivot"]) (by rfl))
      (fun _ _ _ _ _ => (pg_name (i := 13) sc_pseudo_inverse.nd rfl (Or.inl rfl))) (fun _ _ _ _ _ => pts_nil) (fun _ _ _ _ _ => (pe_ixTK (K := K) (pv 12) (pv 13) (fun _ _ => rfl)))))))))
      (pss_cons (ps_set (i := 7) sc_pseudo_inverse.nd rfl (Or.inl rfl) (C8.pe_c (j := 7) (ok_transpose T) hr (by decide) rfl (pa_cons (pv 3) (pa_cons (pv 1) pa_nil))))
      (pss_cons (ps_set (i := 8) sc_pseudo_inverse.nd rfl (Or.inl rfl) (C8.pe_c (j := 7) (ok_inverse_of T) hr (by decide) rfl (pa_cons (C8.pe_c (j := 7) (ok_product T) hr (by decide) rfl (pa_cons (pv 3) (pa_cons (pv 7) (pa_cons (pv 5) pa_nil)))) pa_nil)))
      (pss_cons (ps_set (i := 9) sc_pseudo_inverse.nd rfl (Or.inl rfl) (C8.pe_c (j := 7) (ok_transpose T) hr (by decide) rfl (pa_cons (pv 6) (pa_cons (pv 5) pa_nil))))
      (pss_cons (ps_set (i := 10) sc_pseudo_inverse.nd rfl (Or.inl rfl) (C8.pe_c (j := 7) (ok_inverse_of T) hr (by decide) rfl (pa_cons (C8.pe_c (j := 7) (ok_product T) hr (by decide) rfl (pa_cons (pv 9) (pa_cons (pv 6) (pa_cons (pv 5) pa_nil)))) pa_nil)))
      (pss_cons (ps_set (i := 11) sc_pseudo_inverse.nd rfl (Or.inl rfl) (C8.pe_c (j := 7) (ok_product T) hr (by decide) rfl (pa_cons (pv 8) (pa_cons (pv 10) (pa_cons (pv 5) pa_nil)))))
      (pss_one (ps_ret (C8.pe_c (j := 7) (ok_product T) hr (by decide) rfl (pa_cons (pv 7) (pa_cons (C8.pe_c (j := 7) (ok_product T) hr (by decide) rfl (pa_cons (pv 11) (pa_cons (pv 9) (pa_cons (pv 2) pa_nil)))) (pa_cons (pv 2) pa_nil)))))))))))))))), ?_⟩
    obtain ⟨p, xs, rfl, hp, ax⟩ := id hv
    have lx := ax.1
    have hl := ok.hl
    have hw := ok.hw
    refine ⟨_, rfl, p, xs, rfl, .inr (SqT.of hp), ?_⟩
    rw [lx]
    refine ⟨_, rfl, _, rfl, _, m, w, w, rfl, hv, ok.wd, Nat.le_refl _, by omega, by omega, ok.red, fun H1 o a b s1 ho ha hb => ?_⟩
    obtain ⟨bp, rfl, hbp⟩ := hb
    have lpv : (pvs (reduced m w).2).length = (reduced m w).2.length := List.length_map ..
    have pvl : (reduced m w).2.length ≤ w := piv_len w
    have pvlt : ∀ x ∈ (reduced m w).2, x < w := redState_piv (m := m) w
    refine ⟨o, [a, .ref bp], rfl, SqT.of ho, rfl, a, [.ref bp], rfl, .ref bp, [], rfl, rfl, ?_⟩
    refine ⟨_, rfl, bp, _, rfl, .inr (SqT.of hbp), ?_⟩
    rw [lpv]
    refine ⟨_, rfl, rfl, _, rfl, ?_⟩
    by_cases hs : (reduced m w).2.length = 0
    · have e : decide (V.int (((reduced m w).2.length : Nat) : Int) = V.int 0) = true := decide_eq_true (by rw [hs]; rfl)
      rw [e]
      refine iteT ?_
      refine ⟨_, rfl, _, rfl, w, m.length, rfl, by omega, by omega, fun H2 z2 s2 h2 => ?_⟩
      refine k _ _ (s1.trans s2) ?_
      unfold pseudo
      rw [if_pos hs]
      exact h2
    · have e : decide (V.int (((reduced m w).2.length : Nat) : Int) = V.int 0) = false := decide_eq_false fun e => hs (by injection e; omega)
      rw [e]
      refine iteF ?_
      have eps : pseudo m w = product (psOf m w).t (psOf m w).x m.length := by unfold pseudo; rw [if_neg hs]
      -- the steps' sizes
      have okbF := ok.bF
      have okiG := ok.iG
      have okb1 := ok.b1
      have okl1 := ok.l1
      have okw1 := ok.w1
      have okiS := ok.iS
      have okb2 := ok.b2
      have okl2 := ok.l2
      have okw2 := ok.w2
      have okb3 := ok.b3
      have okb4 := ok.b4
      have lF : (reduced m w).1.length = (reduced m w).2.length := reduced_len ok.wd
      have wF : Wd w (reduced m w).1 := reduced_wd ok.wd
      have bC : Mb 64 (colsAt m (reduced m w).2) := colsAt_mb ok.bm ok.wd pvlt (by omega)
      have wC : Wd (reduced m w).2.length (colsAt m (reduced m w).2) := colsAt_wd _ _
      have lC := colsAt_len m (reduced m w).2
      rw [eps] at k
      unfold psOf at okbF okiG okb1 okl1 okw1 okiS okb2 okl2 okw2 okb3 okb4 k
      dsimp only at okbF okiG okb1 okl1 okw1 okiS okb2 okl2 okw2 okb3 okb4 k
      generalize hF : (reduced m w).1 = F at *
      generalize hpv : (reduced m w).2 = pv at *
      generalize hC : colsAt m pv = Cc at *
      have bt : Mb 64 (transpose F w) := transpose_mb okbF (by omega) fun r hr => by rw [wF r hr]; exact Nat.le_refl _
      have bacr : Mb 64 (transpose Cc pv.length) := transpose_mb bC (by omega) fun r hr => by rw [wC r hr]; exact Nat.le_refl _
      have lt := transpose_len F w
      have wt := transpose_wd F w
      have lacr := transpose_len Cc pv.length
      have wacr := transpose_wd Cc pv.length
      generalize ht : transpose F w = t at *
      generalize hacr : transpose Cc pv.length = acr at *
      have lG := product_len F t pv.length
      generalize hG : product F t pv.length = Gm at *
      generalize hS : product acr Cc pv.length = Sm' at *
      generalize hfi : inverseOf Gm = first at *
      generalize hse : inverseOf Sm' = second at *
      have lmid := product_len first second pv.length
      have wmid := product_wd first second pv.length
      generalize hmid : product first second pv.length = mid at *
      have lxx := product_len mid acr m.length
      have wxx := product_wd mid acr m.length
      generalize hx : product mid acr m.length = xx at *
      -- columns
      refine ⟨_, rfl, p, rfl, ⟨_, SqT.of (s1 _ _ hp)⟩, fun D hD => ?_⟩
      refine lcT (R := IsV (cR K)) (ys := Cc) IsV.fz hD (SqT.of (s1 _ _ hp)) (by rw [lx, lC]) (by omega) ?_ ?_
      · intro t' x y H' hx hy s' k' hk
        obtain ⟨r, er, rr⟩ := ax.get hx
        have ey : y = pv.map (gt r) := by rw [← hC] at hy; exact get_map (f := fun r => pv.map (gt r)) er hy
        subst ey
        refine ⟨_, rfl, bp, rfl, ⟨_, SqT.of (s' _ _ hbp)⟩, fun D' hD' => ?_⟩
        refine lcT (R := IsQ (cR K)) (ys := pv.map (gt r)) IsQ.fz hD' (SqT.of (s' _ _ hbp)) (by rw [lpv, List.length_map]) (by rw [List.length_map]; omega) ?_ ?_
        · intro t2 x2 y2 H2 hx2 hy2 s2 k2 hk2
          have hpx : pv[t2]? = some (pv.getD t2 0) := by
            have h3 := (List.getElem?_eq_some_iff.mp hx2).1
            rw [List.getD_eq_getElem?_getD, List.getElem?_eq_getElem (by omega)]; rfl
          have ex2 : x2 = V.int ((pv.getD t2 0 : Nat) : Int) := get_map (f := fun (n : Nat) => V.int (n : Int)) hpx hx2
          have ey2 := get_map hpx hy2
          subst ey2
          subst ex2
          have hlt := pvlt _ (List.mem_of_getElem? hpx)
          have lr := ok.wd.at er
          obtain ⟨z, rs, rfl, hz, ar⟩ := IsV.fz _ _ _ _ (Fz.of ((s1.trans s').trans s2)) rr
          obtain ⟨zz, ezz, rzz⟩ := ar.at (gt_at (r := r) (c := pv.getD t2 0) (by omega))
          refine ⟨_, rfl, _, rfl, z, rs, _, zz, rfl, rfl, SqT.of hz, atI_nat ezz, ?_⟩
          exact hk2 _ _ (Same.refl _) rzz
        · intro H2 acc2 s2 hacc2 al2
          exact tup_done IsQ.fz s2 hacc2 al2 fun H3 z3 s3 h3 => hk _ _ s3 h3
      · intro H' acc s' hacc al
        refine tup_done IsV.fz s' hacc al fun H2 z2 s2 h2 => ?_
        have q2 := Fz.of s2
        refine ⟨_, rfl, _, rfl, a, F, w, rfl, IsM.fz _ _ _ _ q2 ha, by omega, by omega, fun r hr => by rw [wF r hr]; exact Nat.le_refl _, fun H3 z3 s3 h3 => ?_⟩
        rw [ht] at h3
        have f3 := q2.trans (Fz.of s3)
        refine ⟨_, rfl, _, rfl, _, rfl, a, z3, F, t, pv.length, 64, 64, rfl, IsM.fz _ _ _ _ f3 ha, h3, okbF, bt, by omega, fun r hr => by rw [wF r hr, lt], fun r hr => by rw [wt r hr, lF]; exact Nat.le_refl _, by rw [lt]; omega, fun H4 z4 s4 h4 => ?_⟩
        rw [hG] at h4
        refine ⟨z4, Gm, pv.length, rfl, h4, by omega, by omega, okiG, fun H5 z5 s5 h5 => ?_⟩
        rw [hfi] at h5
        have f5 := (Fz.of s3).trans ((Fz.of s4).trans (Fz.of s5))
        refine ⟨_, rfl, _, rfl, z2, Cc, pv.length, rfl, IsM.fz _ _ _ _ f5 h2, by omega, by omega, fun r hr => by rw [wC r hr]; exact Nat.le_refl _, fun H6 z6 s6 h6 => ?_⟩
        rw [hacr] at h6
        refine ⟨_, rfl, _, rfl, _, rfl, z6, z2, acr, Cc, pv.length, 64, 64, rfl, h6, IsM.fz _ _ _ _ (f5.trans (Fz.of s6)) h2, bacr, bC, by omega, fun r hr => by rw [wacr r hr], fun r hr => by rw [wC r hr]; exact Nat.le_refl _, by rw [lC]; omega, fun H7 z7 s7 h7 => ?_⟩
        rw [hS] at h7
        refine ⟨z7, Sm', pv.length, rfl, h7, by omega, by omega, okiS, fun H8 z8 s8 h8 => ?_⟩
        rw [hse] at h8
        have f8 := (Fz.of s6).trans ((Fz.of s7).trans (Fz.of s8))
        refine ⟨_, rfl, _, rfl, _, rfl, z5, z8, first, second, pv.length, 200, 200, rfl, IsM.fz _ _ _ _ f8 h5, h8, okb1, okb2, by omega, fun r hr => by rw [okw1 r hr, okl2], fun r hr => by rw [okw2 r hr]; exact Nat.le_refl _, by rw [okl2]; omega, fun H9 z9 s9 h9 => ?_⟩
        rw [hmid] at h9
        have f9 := ((Fz.of s4).trans (Fz.of s5)).trans (f8.trans (Fz.of s9))
        refine ⟨_, rfl, _, rfl, _, rfl, _, rfl, z9, z6, mid, acr, m.length, 300, 64, rfl, h9, IsM.fz _ _ _ _ (((Fz.of s7).trans (Fz.of s8)).trans (Fz.of s9)) h6, okb3, bacr, by omega, fun r hr => by rw [wmid r hr, lacr], fun r hr => by rw [wacr r hr, lC]; exact Nat.le_refl _, by rw [lacr]; omega, fun Ha za sa ha' => ?_⟩
        rw [hx] at ha'
        refine ⟨_, rfl, z3, za, t, xx, m.length, 64, 600, rfl, IsM.fz _ _ _ _ (f9.trans (Fz.of sa)) h3, ha', bt, okb4, by omega, fun r hr => by rw [wt r hr, lxx, lmid, okl1, lF], fun r hr => by rw [wxx r hr]; exact Nat.le_refl _, by rw [lxx, lmid, okl1]; omega, fun Hb zb sb hb' => ?_⟩
        exact k _ _ (s1.trans (s2.trans (s3.trans (s4.trans (s5.trans (s6.trans (s7.trans (s8.trans (s9.trans (sa.trans sb)))))))))) hb'

/-! ### add_term -/
def spAddTerm (C : Addr) : Sp := fun vs H Q _ => ∃ (v u z : V) (m : Mat) (r : List Rat) (q : Rat), vs = [v, u, z] ∧ IsM C H v m ∧ IsV C H u r ∧ IsQ C H z q ∧ Mb 4400 m ∧ Vb 1000 r ∧ Bd 1000 q ∧ m.length = r.length ∧ Wd r.length m ∧ ∀ H' z', Same H H' → IsM C H' z' (addTerm m r q) → Q z' H'
theorem outer_mb {n m : Nat} {a b : List Rat} (ha : Vb n a) (hb : Vb m b) : Mb (n + m) (PN.outer a b) := by
  refine ⟨by unfold PN.outer; rw [List.length_map]; exact ha.1, fun r hr => ?_⟩
  obtain ⟨x, hx, rfl⟩ := List.mem_map.mp hr
  exact Vb.scale (ha.2 x hx) hb
theorem scaled_mb {n k : Nat} {f : Rat} {m : Mat} (hf : Bd n f) (hm : Mb k m) : Mb (n + k) (scaled f m) := by
  refine ⟨by unfold scaled; rw [List.length_map]; exact hm.1, fun r hr => ?_⟩
  obtain ⟨x, hx, rfl⟩ := List.mem_map.mp hr
  exact Vb.scale hf (hm.2 x hx)
theorem outer_len (a b : List Rat) : (PN.outer a b).length = a.length := List.length_map ..
theorem outer_wd (a b : List Rat) : Wd b.length (PN.outer a b) := fun r hr => by
  obtain ⟨x, hx, rfl⟩ := List.mem_map.mp hr
  exact scale_len ..
theorem scaled_len (f : Rat) (m : Mat) : (scaled f m).length = m.length := List.length_map ..
theorem scaled_wd {W : Nat} {f : Rat} {m : Mat} (h : Wd W m) : Wd W (scaled f m) := fun r hr => by
  obtain ⟨x, hx, rfl⟩ := List.mem_map.mp hr
  rw [scale_len]; exact h x hx
theorem sc_add_term : FnScope ["matrix", "row", "weight"] ["matrix", "row", "weight"] (defScope sAddTerm) := ⟨rfl, rfl, rfl, by decide +kernel, rfl, by decide +kernel, by decide +kernel⟩
theorem ok_add_term (T : TX w K mg) : C8.Cal P w K mg base 6 "add_term" (spAddTerm (cR K)) [] := by
  refine cal1 (d_add_term T) (g_add_term T) (ps := ["matrix", "row", "weight"]) (fun _ _ _ _ _ _ us hl => match us, hl with | [_, _, _], _ => rfl) sc_add_term (fun vs H Q E h => ?_) (fun cdv A outr s H vs Q E hr h => ?_)
  · obtain ⟨v, u, z, m, r, q, rfl, _⟩ := h
    rfl
  · obtain ⟨v, u, z, m, r, q, rfl, hv, hu, hz, bm, br, bq, hl, hw, k⟩ := h
    refine ⟨_, (pss_one (ps_ret (C8.pe_c (j := 5) (ok_sum_of T) hr (by decide) rfl (pa_cons (pv 0) (pa_cons (C8.pe_c (j := 5) (ok_scaled T) hr (by decide) rfl (pa_cons (pv 2) (pa_cons (C8.pe_c (j := 5) (ok_outer T) hr (by decide) rfl (pa_cons (pv 1) (pa_cons (pv 1) pa_nil))) pa_nil))) pa_nil))))), ?_⟩
    refine ⟨_, rfl, _, rfl, _, rfl, _, rfl, _, _, r, r, rfl, hu, hu, br.mono (by decide), br.mono (by decide), fun H1 z1 s1 h1 => ?_⟩
    have bo := outer_mb br br
    refine ⟨_, _, q, _, rfl, IsQ.fz _ _ _ _ (Fz.of s1) hz, h1, bq.mono (by decide), bo.mono (by decide), fun H2 z2 s2 h2 => ?_⟩
    refine ⟨_, _, m, _, rfl, IsM.fz _ _ _ _ (Fz.of (s1.trans s2)) hv, h2, bm, (scaled_mb bq bo).mono (by decide), by rw [scaled_len, outer_len, hl], fun i a b e1 e2 => ?_, fun H3 z3 s3 h3 => k _ _ ((s1.trans s2).trans s3) h3⟩
    rw [hw.at e1, (scaled_wd (outer_wd r r)).at e2]

end
end PN
end
section
set_option maxRecDepth 100000
set_option maxHeartbeats 4000000
namespace PN
open PySem PySem.Spec PyProof.Rows L2
/-! ### a tuple that is known to the object, a dict of its pairs -/
/-- a plain tuple's object -/
def TupO (o : Obj) : Prop := o.cls = .type "tuple" ∧ o.dict = none ∧ ∃ its n, o.data = .seq its n
theorem call_tuple_frz {X : Cx} : CallR X (.type "tuple") (fun xs H Q => ∃ p ys, xs = [.ref p] ∧ SqL X.K H p ys ∧ ∀ l o, H l = none → TupO o → Q (.ref l) (upd H l (.frz o (.tup ys)))) := fun pins s σ H xs us Q I r ⟨p, ys, ex, hq, q⟩ => by
  subst ex
  obtain ⟨u, eu, rx⟩ := vals1 r
  subst eu
  cases rx
  obtain ⟨its, rv, pl, hz⟩ := I.list hq
  have small : its.toArray.size ≤ sizeLine := by have := rv.length; show its.length ≤ sizeLine; omega
  refine call_tuple_list pl.isList (fun hp kp => ?_) small
  have J := (I.kept (t' := s.toks) kp).laid (t' := s.toks) (fun b o e => Heap.get?_push_of_some _ e) (Nat.le_refl _) (show ObjOk X.prog X.w _ (hp.push { cls := .type "tuple", data := .seq its.toArray }) hp.objs.size (.frz { cls := .type "tuple", data := .seq its.toArray } (.tup ys)) from ⟨Heap.get?_push_size _ rfl, hz, its, rv, IsTup.new _ _⟩)
  exact ⟨.ref hp.objs.size, _, J, rfl, q _ _ ((I.kept (t' := s.toks) kp).hok.fresh (Nat.le_refl _)) ⟨rfl, rfl, _, _, rfl⟩⟩
/-- merged pairs are no more than the pairs -/
theorem merge_small {kvs : List (Key × V)} (h : kvs.length ≤ sizeLine) : (mergeK [] kvs).length ≤ sizeLine := Nat.le_trans (length_mergeK kvs []) (by show 0 + kvs.length ≤ sizeLine; omega)
theorem call_dictT {X : Cx} (hcalm : X.calm = true) : CallR X (.type "dict") (fun xs H Q => ∃ (a : Addr) (o : Obj) (ps : List Addr) (kvs : List (Key × V)), xs = [.ref a] ∧ H a = some (.frz o (.tup (ps.map V.ref))) ∧ TupO o ∧ Paired (fun p kv => SqT X.K H p [kV kv.1, kv.2]) ps kvs ∧
    ∀ p, H p = none → Q (.ref p) (upd H p (.dK (mergeK [] kvs)))) := by
  refine fun pins s σ H xs us Q I r ⟨a, o, ps, kvs, ex, ha, ho, hp, q⟩ => ?_
  subst ex
  obtain ⟨u, eu, rx⟩ := vals1 r
  subst eu
  cases rx
  obtain ⟨eo, hz, its, rv, o', eo', hc', n', hd'⟩ := (show ObjOk X.prog X.w H s.heap a (.frz o (.tup (ps.map V.ref))) from I.hok a _ ha)
  rw [eo] at eo'
  cases eo'
  have ei := refs_at rv
  subst ei
  rw [List.length_map] at hz
  obtain ⟨prs, rel, hl, hpr⟩ := pairs_of I hp
  have hps : ∀ j q, prs[j]? = some q → ∃ u, ps[j]? = some (ps.getD j 0) ∧ IsTup s.heap (ps.getD j 0) #[u, q.2] ∧ keyIs q.1 u = true := fun j q e => by
    obtain ⟨b, u, e1, e2, e3⟩ := hpr j q e
    have e4 : ps.getD j 0 = b := by rw [List.getD_eq_getElem?_getD, e1]; rfl
    exact ⟨u, by rw [e4]; exact e1, by rw [e4]; exact e2, e3⟩
  have hks : ∀ j q, prs[j]? = some q → ∃ u t, IsTup s.heap (ps.getD j 0) #[u, q.2] ∧ keyIs q.1 u = true := fun j q e => by
    obtain ⟨u, e1, e2, e3⟩ := hps j q e
    exact ⟨u, 0, e2, e3⟩
  -- the keys' values
  let us : Nat → Value := fun j => match s.heap.get? (ps.getD j 0) with | some o => (match o.data with | .seq its _ => its.getD 0 .none | _ => .none) | none => .none
  have hus : ∀ j q, prs[j]? = some q → IsTup s.heap (ps.getD j 0) #[us j, q.2] ∧ keyIs q.1 (us j) = true := fun j q e => by
    obtain ⟨u, e1, e2, e3⟩ := hps j q e
    obtain ⟨o2, h1, h2, n2, h3⟩ := id e2
    have e4 : us j = u := by
      show (match s.heap.get? (ps.getD j 0) with | some o => (match o.data with | .seq its _ => its.getD 0 .none | _ => .none) | none => .none) = u
      rw [h1]
      show (match o2.data with | .seq its _ => its.getD 0 .none | _ => .none) = u
      rw [h3]
      rfl
    rw [e4]
    exact ⟨e2, e3⟩
  let pv : List (Value × Value) := (List.range prs.length).map fun j => (us j, ((prs[j]?).map (·.2)).getD .none)
  have hpv : ∀ j k v, pv[j]? = some (k, v) → ∃ q, prs[j]? = some q ∧ k = us j ∧ v = q.2 := fun j k v e => by
    have hj : j < prs.length := by
      have := (List.getElem?_eq_some_iff.mp e).1
      simpa [pv] using this
    have e5 := List.getElem?_eq_getElem hj
    refine ⟨prs[j], e5, ?_⟩
    have e6 : pv[j]? = some (us j, ((prs[j]?).map (·.2)).getD .none) := by
      show ((List.range prs.length).map _)[j]? = _
      rw [List.getElem?_map, List.getElem?_range hj]
      rfl
    rw [e6, e5] at e
    cases e
    exact ⟨rfl, rfl⟩
  have lpv : pv.length = prs.length := by simp [pv]
  refine call_dict_pairs (knd := mixKind X.prog X.w) (kvs := prs) (PairArg.tuple a (ps.map Value.ref).toArray (fun j => ps.getD j 0) pv) (I.ok.hd hcalm) ⟨⟨o, n', eo, hc', ho.2.1, hd'⟩, by rw [List.size_toArray, List.length_map, lpv, hl], fun j k v e => ?_⟩ ⟨by rw [lpv], fun i key v e => ?_⟩ (by rw [lpv, hl]; exact hz) fun h' tk hd' k => ?_
  · obtain ⟨q, e1, e2, e3⟩ := hpv j k v e
    obtain ⟨u, f1, f2, f3⟩ := hps j q e1
    subst e2 e3
    refine ⟨by rw [List.getElem?_toArray, List.getElem?_map, f1]; rfl, .inl ?_⟩
    obtain ⟨⟨o2, h1, h2, h3⟩, _⟩ := hus j q e1
    exact ⟨o2, h1, h2, h3⟩
  · obtain ⟨q, e1, e2, e3⟩ := hpv i key v e
    subst e2 e3
    exact ⟨q.1, e1, (hus i q e1).2⟩
  · have far : (s.heap.objs.size == sysModules) = false := beq_false_of_ne (Nat.ne_of_gt I.big)
    have few := merge_small (kvs := kvs) (by have := rel.length; omega)
    exact ⟨.ref s.heap.objs.size, upd H s.heap.objs.size (.dK (mergeK [] kvs)), I.laid (t' := tk) (fun b o e => k b o (by simp) e) (Nat.le_refl _) (show ObjOk X.prog X.w _ _ _ (.dK (mergeK [] kvs)) from ⟨few, far, merged [] prs, KV.merge rel .nil, hd'⟩), rfl, q _ (I.hok.fresh (Nat.le_refl _))⟩
end PN
end
section
set_option maxRecDepth 100000
set_option maxHeartbeats 4000000
namespace PN
open PySem PySem.Spec PyProof.Rows L2
/-! ### readings, books -/
abbrev cB (K : PySem.W.Frag) : Addr := He.ga K "Book"
abbrev cRd (K : PySem.W.Frag) : Addr := He.ga K "Reading"
abbrev cF (K : PySem.W.Frag) : Addr := He.ga K "Form"
structure RdD where
  name : Str
  terms : List (Str × Int)
  value : Rat
  weight : Rat
theorem putF_ne {f g : Str} {v x : V} {r : List (Str × V)} (h : g ≠ f) : putF f v ((g, x) :: r) = (g, x) :: putF f v r := if_neg h
theorem lk_ne {f g : Str} {x : V} {r : List (Str × V)} (h : (f == g) = false) : List.lookup f ((g, x) :: r) = List.lookup f r := by rw [List.lookup_cons, h]
theorem lk_eq {f : Str} {x : V} {r : List (Str × V)} : List.lookup f ((f, x) :: r) = some x := by rw [List.lookup_cons, beq_self_eq_true]
abbrev rf (n t v q : V) : List (Str × V) := [("name", n), ("terms", t), ("value", v), ("weight", q)]
abbrev bf (pl dl rl : Addr) : List (Str × V) := [("points", .ref pl), ("approximations", .ref dl), ("readings", .ref rl)]
abbrev ff (n m v c : V) : List (Str × V) := [("names", n), ("matrix", m), ("vector", v), ("constant", c)]
theorem put_rf {n t v q : V} : putF "weight" q (putF "value" v (putF "terms" t (putF "name" n []))) = rf n t v q := by
  show putF "weight" q (putF "value" v (putF "terms" t [("name", n)])) = _
  rw [putF_ne (by decide +kernel)]
  show putF "weight" q (putF "value" v [("name", n), ("terms", t)]) = _
  rw [putF_ne (by decide +kernel), putF_ne (by decide +kernel)]
  show putF "weight" q [("name", n), ("terms", t), ("value", v)] = _
  rw [putF_ne (by decide +kernel), putF_ne (by decide +kernel), putF_ne (by decide +kernel)]
  rfl
theorem put_bf {a b c : Addr} : putF "readings" (.ref c) (putF "approximations" (.ref b) (putF "points" (.ref a) [])) = bf a b c := by
  show putF "readings" (.ref c) (putF "approximations" (.ref b) [("points", .ref a)]) = _
  rw [putF_ne (by decide +kernel)]
  show putF "readings" (.ref c) [("points", .ref a), ("approximations", .ref b)] = _
  rw [putF_ne (by decide +kernel), putF_ne (by decide +kernel)]
  rfl
theorem put_ff {n t v q : V} : putF "constant" q (putF "vector" v (putF "matrix" t (putF "names" n []))) = ff n t v q := by
  show putF "constant" q (putF "vector" v (putF "matrix" t [("names", n)])) = _
  rw [putF_ne (by decide +kernel)]
  show putF "constant" q (putF "vector" v [("names", n), ("matrix", t)]) = _
  rw [putF_ne (by decide +kernel), putF_ne (by decide +kernel)]
  show putF "constant" q [("names", n), ("matrix", t), ("vector", v)] = _
  rw [putF_ne (by decide +kernel), putF_ne (by decide +kernel), putF_ne (by decide +kernel)]
  rfl
section
variable {a b c : Addr} {n t v q : V}
theorem lk_points : (bf a b c).lookup ("points" : Str) = some (V.ref a) := lk_eq
theorem lk_approx : (bf a b c).lookup ("approximations" : Str) = some (V.ref b) := by rw [bf, lk_ne (by decide +kernel), lk_eq]
theorem lk_readings : (bf a b c).lookup ("readings" : Str) = some (V.ref c) := by rw [bf, lk_ne (by decide +kernel), lk_ne (by decide +kernel), lk_eq]
theorem lk_reqp : (bf a b c).lookup ("require_point" : Str) = none := by rw [bf, lk_ne (by decide +kernel), lk_ne (by decide +kernel), lk_ne (by decide +kernel)]; rfl
theorem lk_name : (rf n t v q).lookup ("name" : Str) = some n := lk_eq
theorem lk_terms : (rf n t v q).lookup ("terms" : Str) = some t := by rw [rf, lk_ne (by decide +kernel), lk_eq]
theorem lk_value : (rf n t v q).lookup ("value" : Str) = some v := by rw [rf, lk_ne (by decide +kernel), lk_ne (by decide +kernel), lk_eq]
theorem lk_weight : (rf n t v q).lookup ("weight" : Str) = some q := by rw [rf, lk_ne (by decide +kernel), lk_ne (by decide +kernel), lk_ne (by decide +kernel), lk_eq]
theorem lk_names : (ff n t v q).lookup ("names" : Str) = some n := lk_eq
theorem lk_matrix : (ff n t v q).lookup ("matrix" : Str) = some t := by rw [ff, lk_ne (by decide +kernel), lk_eq]
theorem lk_vector : (ff n t v q).lookup ("vector" : Str) = some v := by rw [ff, lk_ne (by decide +kernel), lk_ne (by decide +kernel), lk_eq]
theorem lk_constant : (ff n t v q).lookup ("constant" : Str) = some q := by rw [ff, lk_ne (by decide +kernel), lk_ne (by decide +kernel), lk_ne (by decide +kernel), lk_eq]
end
def IsTerm : Rp (Str × Int) := fun H v d => ∃ b, v = .ref b ∧ H b = some (.tup [.str d.1, .int d.2])
theorem IsTerm.fz : Fzm IsTerm := fun _ _ _ _ f ⟨b, e, h⟩ => ⟨b, e, f _ _ h trivial⟩
def IsTerms : Rp (List (Str × Int)) := fun H v ds => ∃ a o xs, v = .ref a ∧ H a = some (.frz o (.tup xs)) ∧ TupO o ∧ Al IsTerm H xs ds
theorem IsTerms.fz : Fzm IsTerms := fun _ _ _ _ f ⟨a, o, xs, e, h, ho, al⟩ => ⟨a, o, xs, e, f _ _ h trivial, ho, al.mono IsTerm.fz f⟩
def IsRd (K : PySem.W.Frag) : Rp RdD := fun H v d => ∃ a dx tv qv wv, v = .ref a ∧ H a = some (.ins (cRd K) dx (rf (.str d.name) tv qv wv)) ∧ IsTerms H tv d.terms ∧ IsQ (cR K) H qv d.value ∧ IsQ (cR K) H wv d.weight
theorem IsRd.fz {K : PySem.W.Frag} : Fzm (IsRd K) := fun _ _ _ _ f ⟨a, dx, tv, qv, wv, e, h, h1, h2, h3⟩ => ⟨a, dx, tv, qv, wv, e, f _ _ h trivial, IsTerms.fz _ _ _ _ f h1, IsQ.fz _ _ _ _ f h2, IsQ.fz _ _ _ _ f h3⟩
/-- the book at b with its own lists, laid since H0 -/
structure BkAt (K : PySem.W.Frag) (H0 H : Hp) (b dx pl dl rl : Addr) (kvs : List (Key × V)) (rs : List V) (pts : List Str) (rds : List RdD) : Prop where
  same : Same H0 H
  ins : H b = some (.ins (cB K) dx (bf pl dl rl))
  n1 : H0 pl = none
  n2 : H0 dl = none
  n3 : H0 rl = none
  ne : pl ≠ rl
  hpts : H pl = some (.lst (pts.map V.str))
  app : H dl = some (.dK kvs)
  keys : kvs.map (·.1) = pts.map Sum.inr
  hrds : H rl = some (.lst rs)
  al : Al (IsRd K) H rs rds
def Bk (K : PySem.W.Frag) (H0 H : Hp) (b : Addr) (pts : List Str) (rds : List RdD) : Prop := ∃ dx pl dl rl kvs rs, BkAt K H0 H b dx pl dl rl kvs rs pts rds
theorem Bk.same {K : PySem.W.Frag} {H0 H H' : Hp} {b : Addr} {pts : List Str} {rds : List RdD} (h : Bk K H0 H b pts rds) (s : Same H H') : Bk K H0 H' b pts rds := by
  obtain ⟨dx, pl, dl, rl, kvs, rs, k⟩ := h
  exact ⟨dx, pl, dl, rl, kvs, rs, k.same.trans s, s _ _ k.ins, k.n1, k.n2, k.n3, k.ne, s _ _ k.hpts, s _ _ k.app, k.keys, s _ _ k.hrds, k.al.mono IsRd.fz (Fz.of s)⟩
theorem hu1 {k : Nat} {A : Around} (hr : Room k A) : A.units + 1 < cLine := by have := hr.units; omega
theorem any_keys {n : Str} : ∀ {kvs : List (Key × V)} {pts : List Str}, kvs.map (·.1) = pts.map Sum.inr → (kvs.any fun kv => decide (kv.1 = Sum.inr n)) = decide (n ∈ pts)
  | [], [], _ => by simp
  | [], _ :: _, h => by simp at h
  | _ :: _, [], h => by simp at h
  | kv :: kvs, p :: pts, h => by
    rw [List.map_cons, List.map_cons] at h
    injection h with h1 h2
    rw [List.any_cons, any_keys h2, h1]
    by_cases e : p = n
    · subst e; simp
    · have e2 : ¬ (n = p) := fun z => e z.symm
      simp [e, e2]
theorem val_keys {n : Str} {kvs : List (Key × V)} {pts : List Str} (h : kvs.map (·.1) = pts.map Sum.inr) : (valV kvs (Sum.inr n)).isSome = decide (n ∈ pts) := by
  rw [← valV_any, any_keys h]
/-- the name ahead of place i -/
def bef (ds : List (Str × Int)) : Nat → Str
  | 0 => ""
  | i + 1 => ((ds[i]?).map (·.1)).getD ""
/-- what terms_fit asks -/
def FitOk (ds : List (Str × Int)) : Prop := 0 < ds.length ∧ ∀ (i : Nat) d, ds[i]? = some d → d.2 ≠ 0 ∧ -9 ≤ d.2 ∧ d.2 ≤ 9 ∧ decide ((bef ds i).cps.toList < d.1.cps.toList) = true
/-- the coefficient of a name -/
def coefOf : List (Str × Int) → Str → Int
  | [], _ => 0
  | d :: r, n => if d.1 = n then d.2 else coefOf r n
section
variable {P : Program} {w : World} {K : PySem.W.Frag} {mg : Str → Option Value} {base : Heap}

/-! ### Reading.__init__ -/
def spRdInit (C : Addr) : Sp := fun vs H Q _ => ∃ (x dx : Addr) (n t v q : V), vs = [.ref x, n, t, v, q] ∧ H x = some (.ins C dx []) ∧ Q .non (upd H x (.ins C dx (rf n t v q)))
theorem putl1 {f : Str} {v : V} {fs : List (Str × V)} {n : Nat} (h : fs.length < n) : (putF f v fs).length < n + 1 := Nat.lt_of_le_of_lt (length_putF f v fs) (by omega)
theorem sc_reading : FnScope ["self", "name", "terms", "value", "weight"] ["self", "name", "terms", "value", "weight"] (defScope sRdInit) := ⟨rfl, rfl, rfl, by decide +kernel, rfl, by decide +kernel, by decide +kernel⟩
theorem mk_reading (T : TX w K mg) : C8.Mak P w K mg base 1 "Reading" (He.ga K "Reading") (spRdInit (cRd K)) [] := by
  refine mak1 (mk_Reading T) (g_Reading T) (d_Reading___init__ T) (ps := ["self", "name", "terms", "value", "weight"]) (fun _ _ _ _ _ _ us hl => match us, hl with | [_, _, _, _, _], _ => rfl) sc_reading (fun vs H Q E h => ?_) (fun cdv A outr s H vs Q E hr h => ?_)
  · obtain ⟨x, dx, n, t, v, q, rfl, _⟩ := h
    rfl
  · obtain ⟨x, dx, n, t, v, q, rfl, hx, k⟩ := h
    refine ⟨_, (pss_cons (ps_fld (pv 0) (pv 1) rfl)
      (pss_cons (ps_fld (pv 0) (pv 2) rfl)
      (pss_cons (ps_fld (pv 0) (pv 3) rfl)
      (pss_one (ps_fld (pv 0) (pv 4) rfl))))), ?_⟩
    refine ⟨_, rfl, _, rfl, x, _, dx, _, rfl, hx, c_Reading T, na_Reading_name T, by show 0 < 1000; decide, ?_⟩
    refine ⟨_, rfl, _, rfl, x, _, dx, _, rfl, upd_same, c_Reading T, na_Reading_terms T, Nat.lt_of_lt_of_le (putl1 (n := 1) (by decide)) (by decide), ?_⟩
    refine ⟨_, rfl, _, rfl, x, _, dx, _, rfl, upd_same, c_Reading T, na_Reading_value T, Nat.lt_of_lt_of_le (putl1 (n := 2) (putl1 (n := 1) (by decide))) (by decide), ?_⟩
    refine ⟨_, rfl, _, rfl, x, _, dx, _, rfl, upd_same, c_Reading T, na_Reading_weight T, Nat.lt_of_lt_of_le (putl1 (n := 3) (putl1 (n := 2) (putl1 (n := 1) (by decide)))) (by decide), ?_⟩
    rw [upd_upd, upd_upd, upd_upd, put_rf]
    exact k

/-! ### Form.__init__ -/
def spFInit (C : Addr) : Sp := fun vs H Q _ => ∃ (x dx : Addr) (n t v q : V), vs = [.ref x, n, t, v, q] ∧ H x = some (.ins C dx []) ∧ Q .non (upd H x (.ins C dx (ff n t v q)))
theorem sc_form : FnScope ["self", "names", "matrix", "vector", "constant"] ["self", "names", "matrix", "vector", "constant"] (defScope sFInit) := ⟨rfl, rfl, rfl, by decide +kernel, rfl, by decide +kernel, by decide +kernel⟩
theorem mk_form (T : TX w K mg) : C8.Mak P w K mg base 1 "Form" (He.ga K "Form") (spFInit (cF K)) [] := by
  refine mak1 (mk_Form T) (g_Form T) (d_Form___init__ T) (ps := ["self", "names", "matrix", "vector", "constant"]) (fun _ _ _ _ _ _ us hl => match us, hl with | [_, _, _, _, _], _ => rfl) sc_form (fun vs H Q E h => ?_) (fun cdv A outr s H vs Q E hr h => ?_)
  · obtain ⟨x, dx, n, t, v, q, rfl, _⟩ := h
    rfl
  · obtain ⟨x, dx, n, t, v, q, rfl, hx, k⟩ := h
    refine ⟨_, (pss_cons (ps_fld (pv 0) (pv 1) rfl)
      (pss_cons (ps_fld (pv 0) (pv 2) rfl)
      (pss_cons (ps_fld (pv 0) (pv 3) rfl)
      (pss_one (ps_fld (pv 0) (pv 4) rfl))))), ?_⟩
    refine ⟨_, rfl, _, rfl, x, _, dx, _, rfl, hx, c_Form T, na_Form_names T, by show 0 < 1000; decide, ?_⟩
    refine ⟨_, rfl, _, rfl, x, _, dx, _, rfl, upd_same, c_Form T, na_Form_matrix T, Nat.lt_of_lt_of_le (putl1 (n := 1) (by decide)) (by decide), ?_⟩
    refine ⟨_, rfl, _, rfl, x, _, dx, _, rfl, upd_same, c_Form T, na_Form_vector T, Nat.lt_of_lt_of_le (putl1 (n := 2) (putl1 (n := 1) (by decide))) (by decide), ?_⟩
    refine ⟨_, rfl, _, rfl, x, _, dx, _, rfl, upd_same, c_Form T, na_Form_constant T, Nat.lt_of_lt_of_le (putl1 (n := 3) (putl1 (n := 2) (putl1 (n := 1) (by decide)))) (by decide), ?_⟩
    rw [upd_upd, upd_upd, upd_upd, put_ff]
    exact k

/-! ### terms_fit -/
def spTermsFit : Sp := fun vs H Q _ => ∃ (v : V) (ds : List (Str × Int)), vs = [v] ∧ IsTerms H v ds ∧ FitOk ds ∧ ∀ H', Same H H' → Q (.bl true) H'
theorem sc_terms_fit : FnScope ["terms", "before", "name", "coefficient"] ["terms"] (defScope sTermsFit) := ⟨rfl, rfl, rfl, by decide +kernel, rfl, by decide +kernel, by decide +kernel⟩
theorem ok_terms_fit (T : TX w K mg) : C8.Cal P w K mg base 1 "terms_fit" (spTermsFit) [] := by
  refine cal1 (d_terms_fit T) (g_terms_fit T) (ps := ["terms"]) (fun _ _ _ _ _ _ us hl => match us, hl with | [_], _ => rfl) sc_terms_fit (fun vs H Q E h => ?_) (fun cdv A outr s H vs Q E hr h => ?_)
  · obtain ⟨v, ds, rfl, _⟩ := h
    rfl
  · obtain ⟨v, ds, rfl, hv, ok, k⟩ := h
    refine ⟨_, (pss_cons (ps_set (i := 1) sc_terms_fit.nd rfl (Or.inl rfl) pe_str)
      (pss_cons (ps_for PassesOwn.never rfl (pi_tupK (K := K) (pv 0)) (pg_pairK (K := K) rfl (pg_name (i := 2) sc_terms_fit.nd rfl (Or.inl rfl)) (pg_name (i := 3) sc_terms_fit.nd rfl (Or.inl rfl))) (pss_cons (ps_if (pw_or (pt_cmpR op_eq (pv 3) pe_int (nomark _)) (pw_or (pt_not (pt_chain op_le op_le (pe_un un_neg (pe_glob (by rfl) (Exists.choose_spec (i_MOST_COEFFICIENT T)) (v := .int 9) ⟨_, rfl⟩)) (pv 3) (pe_glob (by rfl) (Exists.choose_spec (i_MOST_COEFFICIENT T)) (v := .int 9) ⟨_, rfl⟩))) (pw_or1 (pt_cmpR op_le_str (pv 2) (pv 1) (nomark _))))).pt (pss_one (ps_ret pe_bl)) pss_nil)
      (pss_one (ps_set (i := 1) sc_terms_fit.nd rfl (Or.inl rfl) (pv 2)))))
      (pss_one (ps_ret (pe_cmpR op_gt (pe_callB call_len_seq (by rfl) (n_len T) PySem.boot_len (pa_cons (pv 0) pa_nil)) pe_int (nomark _)))))), ?_⟩
    obtain ⟨p, o, xs, rfl, hp, ho, ax⟩ := hv
    have hq : SqT K H p xs := .inl (.inr ⟨o, hp⟩)
    have lx := ax.1
    refine ⟨_, rfl, p, rfl, ⟨_, hq⟩, ?_⟩
    refine for_tup (K := K) (a := p) (xs := xs) (fun i σ H' => ∃ v2 v3 : Option V, σ = [some (.ref p), some (.str (bef ds i)), v2, v3] ∧ H' = H) ⟨none, none, rfl, rfl⟩ (fun i σ H' _ h => ?_) ?_ ?_
    · obtain ⟨_, _, _, rfl⟩ := h
      exact hq
    · rintro i x σ H' hx ⟨v2, v3, rfl, rfl⟩
      obtain ⟨d, ed, b, rfl, hb⟩ := ax.get hx
      obtain ⟨f1, f2, f3, f4⟩ := ok.2 i d ed
      refine ⟨b, _, rfl, SqT.of hb, rfl, .str d.1, [.int d.2], rfl, .int d.2, [], rfl, rfl, ?_⟩
      refine ⟨_, rfl, rfl, _, rfl, ?_⟩
      have e1 : decide (V.int d.2 = V.int 0) = false := decide_eq_false fun e => f1 (by injection e)
      rw [e1]
      refine iteF ?_
      refine ⟨9, rfl, _, rfl, -9, d.2, rfl, rfl, _, rfl, ?_⟩
      have e2 : decide ((-9 : Int) ≤ d.2) = true := decide_eq_true f2
      have e3 : decide (d.2 ≤ 9) = true := decide_eq_true f3
      rw [e2]
      refine iteT ⟨_, _, rfl, rfl, _, rfl, ?_⟩
      rw [e3]
      refine iteF ⟨_, rfl, _, rfl, _, _, rfl, rfl, _, rfl, ?_⟩
      rw [f4]
      refine iteF ⟨_, rfl, ?_⟩
      have eb : bef ds (i + 1) = d.1 := by show ((ds[i]?).map (fun x => x.1)).getD ("" : Str) = d.1; rw [ed]; rfl
      exact ⟨_, _, by rw [eb]; rfl, rfl⟩
    · rintro σ H' ⟨v2, v3, rfl, rfl⟩
      refine ⟨_, rfl, p, xs, rfl, .inr hq, _, _, rfl, rfl, ?_⟩
      have e : decide ((0 : Int) < (xs.length : Int)) = true := decide_eq_true (by have := ok.1; omega)
      show Q (.bl (decide ((0 : Int) < (xs.length : Int)))) H'
      rw [e]
      exact k _ (Same.refl _)

/-! ### Book.__init__ -/
def spBInit (C : Addr) : Sp := fun vs H Q _ => ∃ (x dx : Addr), vs = [.ref x] ∧ H x = some (.ins C dx []) ∧ ∀ H' pl dl rl, (∀ b o, b ≠ x → H b = some o → H' b = some o) → H pl = none → H dl = none → H rl = none → pl ≠ rl →
  H' x = some (.ins C dx (bf pl dl rl)) → H' pl = some (.lst []) → H' dl = some (.dK []) → H' rl = some (.lst []) → Q .non H'
theorem sc_book : FnScope ["self"] ["self"] (defScope sBInit) := ⟨rfl, rfl, rfl, by decide +kernel, rfl, by decide +kernel, by decide +kernel⟩
theorem mk_book (T : TX w K mg) : C8.Mak P w K mg base 1 "Book" (He.ga K "Book") (spBInit (cB K)) [] := by
  refine mak1 (mk_Book T) (g_Book T) (d_Book___init__ T) (ps := ["self"]) (fun _ _ _ _ _ _ us hl => match us, hl with | [_], _ => rfl) sc_book (fun vs H Q E h => ?_) (fun cdv A outr s H vs Q E hr h => ?_)
  · obtain ⟨x, dx, rfl, _⟩ := h
    rfl
  · obtain ⟨x, dx, rfl, hx, k⟩ := h
    refine ⟨_, (pss_cons (ps_fld (pv 0) (pe_lst pa_nil) rfl)
      (pss_cons (ps_fld (pv 0) pe_dnewK rfl)
      (pss_one (ps_fld (pv 0) (pe_lst pa_nil) rfl)))), ?_⟩
    refine ⟨Nat.zero_le _, fun pl hpl => ?_⟩
    have n1 : x ≠ pl := ne_of_none hx hpl
    refine ⟨_, rfl, x, _, dx, _, rfl, by rw [upd_ne n1]; exact hx, c_Book T, na_Book_points T, by show 0 < 1000; decide, ?_⟩
    intro dl hdl
    have n2 : x ≠ dl := ne_of_none upd_same hdl
    have n4 : pl ≠ dl := fun e => by rw [← e, upd_ne (Ne.symm n1), upd_same] at hdl; cases hdl
    have hdl0 : H dl = none := by rw [upd_ne (Ne.symm n2), upd_ne (Ne.symm n4)] at hdl; exact hdl
    refine ⟨_, rfl, x, _, dx, _, rfl, by rw [upd_ne n2, upd_same], c_Book T, na_Book_approximations T, Nat.lt_of_lt_of_le (putl1 (n := 1) (by decide)) (by decide), ?_⟩
    refine ⟨Nat.zero_le _, fun rl hrl => ?_⟩
    have n3 : x ≠ rl := ne_of_none upd_same hrl
    rw [upd_ne (Ne.symm n3)] at hrl
    have n5 : dl ≠ rl := ne_of_none upd_same hrl
    rw [upd_ne (Ne.symm n5), upd_ne (Ne.symm n3)] at hrl
    have n6 : pl ≠ rl := ne_of_none upd_same hrl
    have hrl0 : H rl = none := by rw [upd_ne (Ne.symm n6)] at hrl; exact hrl
    refine ⟨_, rfl, x, _, dx, _, rfl, by rw [upd_ne n3, upd_same], c_Book T, na_Book_readings T, Nat.lt_of_lt_of_le (putl1 (n := 2) (putl1 (n := 1) (by decide))) (by decide), ?_⟩
    refine k _ pl dl rl (fun b o hb e => ?_) hpl hdl0 hrl0 n6 (by rw [upd_same, put_bf]; rfl) ?_ ?_ ?_
    · rw [upd_ne hb, upd_ne (ne_of_none e hrl0), upd_ne hb, upd_ne (ne_of_none e hdl0), upd_ne hb, upd_ne (ne_of_none e hpl)]
      exact e
    · rw [upd_ne (Ne.symm n1), upd_ne n6, upd_ne (Ne.symm n1), upd_ne n4, upd_ne (Ne.symm n1), upd_same]
    · rw [upd_ne (Ne.symm n2), upd_ne n5, upd_ne (Ne.symm n2), upd_same]
    · rw [upd_ne (Ne.symm n3), upd_same]

/-! ### require_point -/
def spBReq (K : PySem.W.Frag) : Sp := fun vs H Q _ => ∃ (H0 : Hp) (b : Addr) (pts : List Str) (rds : List RdD) (n : Str), vs = [.ref b, .str n] ∧ Bk K H0 H b pts rds ∧ n ∈ pts ∧ Q .non H
theorem sc_breq : FnScope ["self", "name"] ["self", "name"] (defScope sBReq) := ⟨rfl, rfl, rfl, by decide +kernel, rfl, by decide +kernel, by decide +kernel⟩
theorem ok_breq (T : TX w K mg) : C8.Met P w K mg base 1 (He.ga K "Book") "require_point" (spBReq K) [] := by
  refine met1 (c_Book T) (me_Book_require_point T) (d_Book_require_point T) (ps := ["self", "name"]) (fun _ _ _ _ _ _ us hl => match us, hl with | [_, _], _ => rfl) sc_breq (fun vs H Q E h => ?_) (fun cdv A outr s H vs Q E hr h => ?_)
  · obtain ⟨H0, b, pts, rds, n, rfl, _⟩ := h
    rfl
  · obtain ⟨H0, b, pts, rds, n, rfl, hB, hn, k⟩ := h
    refine ⟨_, (pss_one (ps_if (pt_cmp (pc_dnotin (hu1 hr) (pv 1) (pe_fldK (K := K) (pv 0) rfl))) (pss_one ps_never) pss_nil)), ?_⟩
    obtain ⟨dx, pl, dl, rl, kvs, rs, B⟩ := hB
    refine ⟨_, rfl, _, rfl, b, _, dx, _, _, rfl, B.ins, c_Book T, na_Book_approximations T, lk_approx, dl, _, rfl, DGet.k (k := Sum.inr n) B.app, _, rfl, ?_⟩
    rw [val_keys B.keys, decide_eq_true hn]
    exact iteF k

/-! ### add_point -/
def spBPoint (K : PySem.W.Frag) : Sp := fun vs H Q _ => ∃ (H0 : Hp) (b : Addr) (pts : List Str) (rds : List RdD) (n : Str) (v : V), vs = [.ref b, .str n, v] ∧ Bk K H0 H b pts rds ∧ n ∉ pts ∧ pts.length < 12 ∧ ∀ H', Bk K H0 H' b (pts ++ [n]) rds → Q .non H'
theorem sc_bpoint : FnScope ["self", "name", "approximation"] ["self", "name", "approximation"] (defScope sBPoint) := ⟨rfl, rfl, rfl, by decide +kernel, rfl, by decide +kernel, by decide +kernel⟩
theorem ok_bpoint (T : TX w K mg) : C8.Met P w K mg base 1 (He.ga K "Book") "add_point" (spBPoint K) [] := by
  refine met1 (c_Book T) (me_Book_add_point T) (d_Book_add_point T) (ps := ["self", "name", "approximation"]) (fun _ _ _ _ _ _ us hl => match us, hl with | [_, _, _], _ => rfl) sc_bpoint (fun vs H Q E h => ?_) (fun cdv A outr s H vs Q E hr h => ?_)
  · obtain ⟨H0, b, pts, rds, n, v, rfl, _⟩ := h
    rfl
  · obtain ⟨H0, b, pts, rds, n, v, rfl, hB, hn, hl, k⟩ := h
    refine ⟨_, (pss_cons (ps_if (pt_cmp (pc_din (hu1 hr) (pv 1) (pe_fldK (K := K) (pv 0) rfl))) (pss_one ps_never) pss_nil)
      (pss_cons (ps_if (pt_cmpR op_eq (pe_callB call_len_seq (by rfl) (n_len T) PySem.boot_len (pa_cons (pe_fldK (K := K) (pv 0) rfl) pa_nil)) (pe_glob (by rfl) (Exists.choose_spec (i_MOST_POINTS T)) (v := .int 12) ⟨_, rfl⟩) (nomark _)) (pss_one ps_never) pss_nil)
      (pss_cons (ps_expr (pe_bm PySem.F.plainAttrs_list PySem.F.slot_list_append PySem.F.type_list_append mt_append (pe_fldK (K := K) (pv 0) rfl) (pa_cons (pv 1) pa_nil)))
      (pss_one (ps_dput (hu1 hr) (pe_fldK (K := K) (pv 0) rfl) (pv 1) (pv 2) rfl))))), ?_⟩
    obtain ⟨dx, pl, dl, rl, kvs, rs, B⟩ := hB
    have lp : (pts.map V.str).length = pts.length := List.length_map ..
    refine ⟨_, rfl, _, rfl, b, _, dx, _, _, rfl, B.ins, c_Book T, na_Book_approximations T, lk_approx, dl, _, rfl, DGet.k (k := Sum.inr n) B.app, _, rfl, ?_⟩
    have hv := val_keys (n := n) B.keys
    rw [hv, decide_eq_false hn]
    refine iteF ?_
    refine ⟨_, rfl, b, _, dx, _, _, rfl, B.ins, c_Book T, na_Book_points T, lk_points, pl, _, rfl, .inl (SqL.of B.hpts), rfl, _, rfl, ?_⟩
    have e : decide (V.int ((pts.map V.str).length : Nat) = V.int 12) = false := decide_eq_false fun e => by injection e with e; omega
    rw [e]
    refine iteF ?_
    refine ⟨_, rfl, b, _, dx, _, _, rfl, B.ins, c_Book T, na_Book_points T, lk_points, .inl ⟨rfl, _, SqL.of B.hpts⟩, _, rfl, pl, _, _, rfl, rfl, B.hpts, small1000 (by omega), ?_⟩
    have np : b ≠ pl := ne_of B.ins B.hpts (by simp)
    have nd : dl ≠ pl := ne_of B.app B.hpts (by simp)
    have nr : rl ≠ pl := Ne.symm B.ne
    have nbd : b ≠ dl := ne_of B.ins B.app (by simp)
    have nrd : rl ≠ dl := ne_of B.hrds B.app (by simp)
    refine ⟨_, rfl, _, rfl, b, _, dx, _, _, rfl, by rw [upd_ne np]; exact B.ins, c_Book T, na_Book_approximations T, lk_approx, _, rfl, dl, _, rfl, DPut.k (k := Sum.inr n) (by rw [upd_ne nd]; exact B.app) ?_, ?_⟩
    · have := congrArg List.length B.keys
      rw [List.length_map, List.length_map] at this
      exact small1000 (by omega)
    · refine k _ ⟨dx, pl, dl, rl, kvs ++ [(Sum.inr n, v)], rs, sm_upn (sm_upn B.same B.n1) B.n2, ?_, B.n1, B.n2, B.n3, B.ne, ?_, ?_, ?_, ?_, ?_⟩
      · rw [upd_ne nbd, upd_ne np]; exact B.ins
      · rw [upd_ne (Ne.symm nd), upd_same, List.map_append]; rfl
      · rw [upd_same, putK_new]
        cases hh : valV kvs (Sum.inr n) with
        | none => rfl
        | some u => rw [hh, decide_eq_false hn] at hv; cases hv
      · rw [List.map_append, List.map_append, B.keys]; rfl
      · rw [upd_ne nrd, upd_ne nr]; exact B.hrds
      · exact B.al.mono IsRd.fz ((Fz.lst B.hpts).trans (Fz.dK (by rw [upd_ne nd]; exact B.app)))

/-! ### add_reading -/
def spBReading (K : PySem.W.Frag) : Sp := fun vs H Q _ => ∃ (H0 : Hp) (b : Addr) (pts : List Str) (rds : List RdD) (d : RdD) (tv qv wv : V), vs = [.ref b, .str d.name, tv, qv, wv] ∧ Bk K H0 H b pts rds ∧ IsTerms H tv d.terms ∧ IsQ (cR K) H qv d.value ∧ IsQ (cR K) H wv d.weight ∧
  (∀ r ∈ rds, r.name ≠ d.name) ∧ FitOk d.terms ∧ (∀ t ∈ d.terms, t.1 ∈ pts) ∧ 0 < d.weight.num ∧ rds.length < 24 ∧ ∀ H', Bk K H0 H' b pts (rds ++ [d]) → Q .non H'
theorem sc_breading : FnScope ["self", "name", "terms", "value", "weight", "reading", "point", "_"] ["self", "name", "terms", "value", "weight"] (defScope sBReading) := ⟨rfl, rfl, rfl, by decide +kernel, rfl, by decide +kernel, by decide +kernel⟩
theorem ok_breading (T : TX w K mg) : C8.Met P w K mg base 3 (He.ga K "Book") "add_reading" (spBReading K) [] := by
  refine met1 (c_Book T) (me_Book_add_reading T) (d_Book_add_reading T) (ps := ["self", "name", "terms", "value", "weight"]) (fun _ _ _ _ _ _ us hl => match us, hl with | [_, _, _, _, _], _ => rfl) sc_breading (fun vs H Q E h => ?_) (fun cdv A outr s H vs Q E hr h => ?_)
  · obtain ⟨H0, b, pts, rds, d, tv, qv, wv, rfl, _⟩ := h
    rfl
  · obtain ⟨H0, b, pts, rds, d, tv, qv, wv, rfl, hB, ht, hq, hw, hn, hf, hp, hw0, hl, k⟩ := h
    refine ⟨_, (pss_cons (ps_for PassesOwn.never rfl (pi_listK (K := K) (pe_fldK (K := K) (pv 0) rfl)) (pg_name (i := 5) sc_breading.nd rfl (Or.inl rfl)) (pss_one (ps_if (pt_cmpR op_eq (pe_fldK (K := K) (pv 5) rfl) (pv 1) (nomark _)) (pss_one ps_never) pss_nil)))
      (pss_cons (ps_if (pt_not (pt_val (C8.pe_c (j := 2) (ok_terms_fit T) hr (by decide) rfl (pa_cons (pv 2) pa_nil)))) (pss_one ps_never) pss_nil)
      (pss_cons (ps_for PassesOwn.never rfl (pi_tupK (K := K) (pv 2)) (pg_pairK (K := K) rfl (pg_name (i := 6) sc_breading.nd rfl (Or.inl rfl)) (pg_name (i := 7) sc_breading.nd rfl (Or.inl rfl))) (pss_one (ps_expr (C8.pe_mt (j := 2) (ok_breq T) hr (by decide) (pv 0) (pa_cons (pv 6) pa_nil)))))
      (pss_cons (ps_if (pt_cmpR op_le (pe_fldK (K := K) (pv 4) rfl) pe_int (nomark _)) (pss_one ps_never) pss_nil)
      (pss_cons (ps_if (pt_cmpR op_eq (pe_callB call_len_seq (by rfl) (n_len T) PySem.boot_len (pa_cons (pe_fldK (K := K) (pv 0) rfl) pa_nil)) (pe_glob (by rfl) (Exists.choose_spec (i_MOST_READINGS T)) (v := .int 24) ⟨_, rfl⟩) (nomark _)) (pss_one ps_never) pss_nil)
      (pss_one (ps_expr (pe_bm PySem.F.plainAttrs_list PySem.F.slot_list_append PySem.F.type_list_append mt_append (pe_fldK (K := K) (pv 0) rfl) (pa_cons (C8.pe_mk (j := 2) (mk_reading T) hr (by decide) rfl (pa_cons (pv 1) (pa_cons (pv 2) (pa_cons (pv 3) (pa_cons (pv 4) pa_nil))))) pa_nil))))))))), ?_⟩
    obtain ⟨dx, pl, dl, rl, kvs, rs, B⟩ := id hB
    have lr := B.al.1
    refine ⟨_, rfl, b, _, dx, _, _, rfl, B.ins, c_Book T, na_Book_readings T, lk_readings, rl, rfl, ⟨_, SqL.of B.hrds⟩, ?_⟩
    refine for_list (K := K) (a := rl) (xs := rs) (fun i σ H' => ∃ v5 : Option V, σ = [some (.ref b), some (.str d.name), some tv, some qv, some wv, v5, none, none] ∧ H = H') ⟨none, rfl, rfl⟩ (fun i σ H' _ h => ?_) ?_ ?_
    · obtain ⟨_, _, rfl⟩ := h
      exact SqL.of B.hrds
    · rintro i x σ H' hx ⟨v5, rfl, rfl⟩
      obtain ⟨r, er, ra, rdx, t2, q2, w2, rfl, hra, _⟩ := B.al.get hx
      refine ⟨_, rfl, ra, _, rdx, _, _, rfl, hra, c_Reading T, na_Reading_name T, lk_name, _, rfl, rfl, _, rfl, ?_⟩
      have e : decide (V.str r.name = V.str d.name) = false := decide_eq_false fun e => hn r (List.mem_of_getElem? er) (by injection e)
      rw [e]
      exact iteF ⟨_, rfl, rfl⟩
    · rintro σ H' ⟨v5, rfl, rfl⟩
      refine ⟨_, rfl, _, d.terms, rfl, ht, hf, fun H2 s2 => ⟨true, rfl, iteF ?_⟩⟩
      obtain ⟨ta, o, xs, rfl, hta, ho, ax⟩ := id ht
      have hq2 : SqT K H2 ta xs := .inl (.inr ⟨o, s2 _ _ hta⟩)
      have hB2 := hB.same s2
      refine ⟨_, rfl, ta, rfl, ⟨_, hq2⟩, ?_⟩
      refine for_tup (K := K) (a := ta) (xs := xs) (fun i σ H' => ∃ v6 v7 : Option V, σ = [some (.ref b), some (.str d.name), some (.ref ta), some qv, some wv, v5, v6, v7] ∧ H2 = H') ⟨none, none, rfl, rfl⟩ (fun i σ H' _ h => ?_) ?_ ?_
      · obtain ⟨_, _, _, rfl⟩ := h
        exact hq2
      · rintro i x σ H' hx ⟨v6, v7, rfl, rfl⟩
        obtain ⟨t, et, tb, rfl, htb⟩ := ax.get hx
        refine ⟨tb, _, rfl, SqT.of (s2 _ _ htb), rfl, .str t.1, [.int t.2], rfl, .int t.2, [], rfl, rfl, ?_⟩
        obtain ⟨dx2, pl2, dl2, rl2, kvs2, rs2, B2⟩ := id hB2
        refine ⟨_, rfl, b, dx2, _, rfl, B2.ins, lk_reqp, _, rfl, ?_⟩
        exact ⟨H0, b, pts, rds, t.1, rfl, hB2, hp _ (List.mem_of_getElem? et), _, _, rfl, rfl⟩
      · rintro σ H' ⟨v6, v7, rfl, rfl⟩
        obtain ⟨dx2, pl2, dl2, rl2, kvs2, rs2, B2⟩ := id hB2
        have lr2 := B2.al.1
        refine rd_top T (IsQ.fz _ _ _ _ (Fz.of s2) hw) (by rfl) ?_
        refine ⟨_, _, rfl, rfl, _, rfl, ?_⟩
        have e : decide (d.weight.num ≤ 0) = false := decide_eq_false (by omega)
        rw [e]
        refine iteF ?_
        refine ⟨_, rfl, b, _, dx2, _, _, rfl, B2.ins, c_Book T, na_Book_readings T, lk_readings, rl2, _, rfl, .inl (SqL.of B2.hrds), rfl, _, rfl, ?_⟩
        have e : decide (V.int (rs2.length : Nat) = V.int 24) = false := decide_eq_false fun e => by injection e with e; omega
        rw [e]
        refine iteF ?_
        refine ⟨_, rfl, b, _, dx2, _, _, rfl, B2.ins, c_Book T, na_Book_readings T, lk_readings, .inl ⟨rfl, _, SqL.of B2.hrds⟩, _, rfl, _, rfl, _, rfl, _, rfl, ?_⟩
        refine fun x0 dx0 nx0 nd0 ne0 => ⟨x0, dx0, _, _, _, _, rfl, upd_same, rfl, rl2, rs2, _, rfl, rfl, ?_, small1000 (by omega), ?_⟩
        · rw [upd_upd, upd_ne (ne_of_none B2.hrds nx0), upd_ne (ne_of_none B2.hrds nd0)]; exact B2.hrds
        · rw [upd_upd]
          show Q V.non (upd (upd (upd H2 dx0 (.own x0)) x0 (.ins (cRd K) dx0 (rf (.str d.name) (.ref ta) qv wv))) rl2 (.lst (rs2 ++ [.ref x0])))
          have s3 : Same H2 (upd (upd H2 dx0 (.own x0)) x0 (.ins (cRd K) dx0 (rf (.str d.name) (.ref ta) qv wv))) := fun a u e => by
            rw [upd_ne (ne_of_none e nx0), upd_ne (ne_of_none e nd0)]; exact e
          have hx3 : upd (upd H2 dx0 (.own x0)) x0 (.ins (cRd K) dx0 (rf (.str d.name) (.ref ta) qv wv)) x0 = some (.ins (cRd K) dx0 (rf (.str d.name) (.ref ta) qv wv)) := upd_same
          generalize upd (upd H2 dx0 (.own x0)) x0 (.ins (cRd K) dx0 (rf (.str d.name) (.ref ta) qv wv)) = H3 at *
          have f3 : Fz H2 (upd H3 rl2 (.lst (rs2 ++ [.ref x0]))) := (Fz.of s3).trans (Fz.lst (s3 _ _ B2.hrds))
          have f4 : Fz H (upd H3 rl2 (.lst (rs2 ++ [.ref x0]))) := (Fz.of s2).trans f3
          have nx : x0 ≠ rl2 := Ne.symm (ne_of_none B2.hrds nx0)
          have nb : b ≠ rl2 := ne_of B2.ins B2.hrds (by simp)
          have nd : dl2 ≠ rl2 := ne_of B2.app B2.hrds (by simp)
          refine k _ ⟨dx2, pl2, dl2, rl2, kvs2, rs2 ++ [.ref x0], sm_upn (B2.same.trans s3) B2.n3, by rw [upd_ne nb]; exact s3 _ _ B2.ins, B2.n1, B2.n2, B2.n3, B2.ne, by rw [upd_ne B2.ne]; exact s3 _ _ B2.hpts, by rw [upd_ne nd]; exact s3 _ _ B2.app, B2.keys, upd_same, ?_⟩
          exact (B2.al.mono IsRd.fz f3).app (Al.one ⟨x0, dx0, .ref ta, qv, wv, rfl, by rw [upd_ne nx]; exact hx3, IsTerms.fz _ _ _ _ f4 ht, IsQ.fz _ _ _ _ f4 hq, IsQ.fz _ _ _ _ f4 hw⟩)

/-! ### row_of -/
def rowL (pts : List Str) (d : RdD) : List Rat := pts.map fun n => ((coefOf d.terms n : Int) : Rat)
abbrev kvOf (ds : List (Str × Int)) : List (Key × V) := ds.map fun d => (Sum.inr d.1, V.int d.2)
theorem val_kvOf (n : Str) : ∀ ds : List (Str × Int), (valV (kvOf ds) (Sum.inr n)).getD (.int 0) = .int (coefOf ds n)
  | [] => rfl
  | d :: r => by
    by_cases h : d.1 = n
    · show (valV ((Sum.inr d.1, V.int d.2) :: kvOf r) (Sum.inr n)).getD _ = .int (if d.1 = n then d.2 else coefOf r n)
      rw [valV_pos (by rw [h]), if_pos h]; rfl
    · show (valV ((Sum.inr d.1, V.int d.2) :: kvOf r) (Sum.inr n)).getD _ = .int (if d.1 = n then d.2 else coefOf r n)
      rw [valV_neg (fun e => h (Sum.inr.inj e)), if_neg h]; exact val_kvOf n r
theorem merge_kvOf : ∀ (ds es : List (Str × Int)), ((es ++ ds).map (·.1)).Nodup → mergeK (kvOf es) (kvOf ds) = kvOf (es ++ ds)
  | [], es, _ => by rw [List.append_nil]; rfl
  | d :: r, es, h => by
    have e : es ++ d :: r = (es ++ [d]) ++ r := by simp
    have hv : valV (kvOf es) (Sum.inr d.1) = none := by
      have hk : (kvOf es).map (·.1) = (es.map (·.1)).map Sum.inr := by rw [List.map_map, List.map_map]; rfl
      have h2 := val_keys (n := d.1) hk
      have h3 : d.1 ∉ es.map (·.1) := fun z => by
        rw [List.map_append, List.nodup_append] at h
        exact h.2.2 _ z _ (by rw [List.map_cons]; exact List.mem_cons_self) rfl
      rw [decide_eq_false h3] at h2
      cases hh : valV (kvOf es) (Sum.inr d.1) with
      | none => rfl
      | some u => rw [hh] at h2; cases h2
    have step : mergeK (kvOf es) (kvOf (d :: r)) = mergeK (kvOf (es ++ [d])) (kvOf r) := by
      show mergeK (putK (kvOf es) (Sum.inr d.1) (V.int d.2)) (kvOf r) = _
      rw [putK_new _ hv]
      show mergeK (kvOf es ++ [(Sum.inr d.1, V.int d.2)]) (kvOf r) = mergeK ((es ++ [d]).map _) (kvOf r)
      rw [List.map_append]
      rfl
    rw [step, e]
    exact merge_kvOf r _ (by rw [← e]; exact h)
def spRowOf (K : PySem.W.Frag) : Sp := fun vs H Q _ => ∃ (H0 : Hp) (b : Addr) (pts : List Str) (rds : List RdD) (v : V) (d : RdD), vs = [.ref b, v] ∧ Bk K H0 H b pts rds ∧ IsRd K H v d ∧ (d.terms.map (·.1)).Nodup ∧ pts.length ≤ 100 ∧ ∀ H' z, Same H H' → IsV (cR K) H' z (rowL pts d) → Q z H'
theorem paired_terms {K : PySem.W.Frag} {H : Hp} : ∀ {xs : List V} {ds : List (Str × Int)}, Al IsTerm H xs ds → ∃ ps : List Addr, xs = ps.map V.ref ∧ Paired (fun p (kv : Key × V) => SqT K H p [kV kv.1, kv.2]) ps (kvOf ds)
  | [], [], _ => ⟨[], rfl, .nil⟩
  | [], _ :: _, a => by have := a.1; simp at this
  | _ :: _, [], a => by have := a.1; simp at this
  | x :: xs, d :: ds, a => by
    obtain ⟨b, rfl, hb⟩ := a.2 0 x d rfl rfl
    obtain ⟨ps, e, pr⟩ := paired_terms (K := K) (H := H) (xs := xs) (ds := ds) ⟨by have := a.1; simpa using this, fun i y e h1 h2 => a.2 (i + 1) y e h1 h2⟩
    exact ⟨b :: ps, by rw [e]; rfl, .cons (SqT.of hb) pr⟩
theorem sc_row_of : FnScope ["book", "reading", "found", "name"] ["book", "reading"] (defScope sRowOf) := ⟨rfl, rfl, rfl, by decide +kernel, rfl, by decide +kernel, by decide +kernel⟩
theorem ok_row_of (T : TX w K mg) : C8.Cal P w K mg base 3 "row_of" (spRowOf K) [] := by
  refine cal1 (d_row_of T) (g_row_of T) (ps := ["book", "reading"]) (fun _ _ _ _ _ _ us hl => match us, hl with | [_, _], _ => rfl) sc_row_of (fun vs H Q E h => ?_) (fun cdv A outr s H vs Q E hr h => ?_)
  · obtain ⟨H0, b, pts, rds, v, d, rfl, _⟩ := h
    rfl
  · obtain ⟨H0, b, pts, rds, v, d, rfl, hB, hd, hnd, hl, k⟩ := h
    refine ⟨_, (pss_cons (ps_set (i := 2) sc_row_of.nd rfl (Or.inr rfl) (pe_callTy (call_dictT rfl) (by rfl) (n_dict T) (by decide +kernel) (pa_cons (pe_fldK (K := K) (pv 1) rfl) pa_nil)))
      (pss_one (ps_ret (pe_tupK (K := K) rfl (n_tuple T) (pe_lc (own := [("name", 3)]) (g := gName 3) (by rfl) sc_row_of.nd (pi_listK (K := K) (pe_fldK (K := K) (pv 0) rfl)) (blkOk_by (own := [("name", 3)]) (N := ["book", "reading", "found", "name"]) (sc := defScope sRowOf) (by decide +kernel))
      (fun _ _ _ _ _ => (pg_name (i := 3) sc_row_of.nd rfl (Or.inl rfl))) (fun _ _ _ _ _ => pts_nil) (fun _ _ _ _ _ => (C8.pe_mk (j := 2) (mk_R1 T) hr (by decide) rfl (pa_cons (pe_dget2 (hu1 hr) (pv 2) (pv 3) pe_int ⟨by rfl, by rfl, by rfl, by rfl⟩) pa_nil)))))))), ?_⟩
    obtain ⟨ra, rdx, tv, qv, wv, rfl, hra, ht, hq, hw⟩ := hd
    obtain ⟨ta, o, xs, rfl, hta, ho, ax⟩ := ht
    obtain ⟨ps, rfl, pr⟩ := paired_terms (K := K) ax
    refine ⟨_, rfl, ra, _, rdx, _, _, rfl, hra, c_Reading T, na_Reading_terms T, lk_terms, ta, o, ps, kvOf d.terms, rfl, hta, ho, pr, fun p hp => ?_⟩
    have em : mergeK [] (kvOf d.terms) = kvOf d.terms := merge_kvOf d.terms [] hnd
    rw [em]
    have s1 : Same H (upd H p (.dK (kvOf d.terms))) := sm_upd hp
    have hp1 : upd H p (.dK (kvOf d.terms)) p = some (.dK (kvOf d.terms)) := upd_same
    have hB1 := hB.same s1
    generalize upd H p (.dK (kvOf d.terms)) = H1 at *
    obtain ⟨dx, pl, dl, rl, kvs, rs, B⟩ := hB1
    refine ⟨_, rfl, b, _, dx, _, _, rfl, B.ins, c_Book T, na_Book_points T, lk_points, pl, rfl, ⟨_, SqL.of B.hpts⟩, fun D hD => ?_⟩
    have lp : (pts.map V.str).length = pts.length := List.length_map ..
    refine lcL (R := IsQ (cR K)) (ys := rowL pts d) IsQ.fz hD (SqL.of B.hpts) (by rw [lp]; unfold rowL; rw [List.length_map]) (by unfold rowL; rw [List.length_map]; omega) ?_ ?_
    · intro t x y H' hx hy s' k' hk
      rw [List.getElem?_map] at hx
      cases hn : pts[t]? with
      | none => rw [hn] at hx; cases hx
      | some n =>
        rw [hn] at hx
        cases hx
        have ey := get_map (f := fun n => ((coefOf d.terms n : Int) : Rat)) hn hy
        subst ey
        refine ⟨_, rfl, p, rfl, .inl ⟨_, .inl (s' _ _ hp1)⟩, _, rfl, _, DGet.k (k := Sum.inr n) (s' _ _ hp1), ?_⟩
        rw [val_kvOf]
        refine fun x0 dx0 nx0 nd0 ne0 => rd_mk (q := ((coefOf d.terms n : Int) : Rat)) nx0 nd0 (by decide) (by decide +kernel) (d_int _) fun H1 s1 hz => ?_
        exact hk _ _ s1 hz
    · intro H' acc s' hacc al
      exact tup_done IsQ.fz s' hacc al fun H4 z4 s4 h4 => k _ _ (s1.trans s4) h4

end
end PN
end
section
set_option maxRecDepth 100000
set_option maxHeartbeats 4000000
namespace PN
open PySem PySem.Spec PyProof.Rows L2
/-! ### x.index(s), a text among texts -/
theorem vals_strs : ∀ {ss : List Str} {us : List Value}, Vals (ss.map V.str) us → StrsAre us ss
  | [], us, r => by
    rw [List.map_nil] at r
    cases r
    exact .nil
  | a :: ss, us, r => by
    rw [List.map_cons] at r
    cases r with
    | cons h t =>
      obtain ⟨t', rfl⟩ := h
      exact .cons _ _ (vals_strs t)
def rIdxL (K : PySem.W.Frag) : V → List V → Hp → VK → Prop := fun x xs H Q => ∃ (a : Addr) (ss : List Str) (z : Str), x = .ref a ∧ xs = [.str z] ∧ SqL K H a (ss.map V.str) ∧ ss.length ≤ 1000 ∧ z ∈ ss ∧ Q (.int (ss.idxOf z : Nat)) H
def rIdxT (K : PySem.W.Frag) : V → List V → Hp → VK → Prop := fun x xs H Q => ∃ (a : Addr) (ss : List Str) (z : Str), x = .ref a ∧ xs = [.str z] ∧ SqT K H a (ss.map V.str) ∧ z ∈ ss ∧ Q (.int (ss.idxOf z : Nat)) H
section
variable {X : Cx}
theorem mt_idxL : MtR X "list.index" (rIdxL X.K) := by
  intro pins s σ H x xs v us Q I rx rxs h
  obtain ⟨a, ss, z, rfl, rfl, hs, hlen, hz, q⟩ := h
  cases rx
  obtain ⟨u, rfl, rz⟩ := vals1 rxs
  obtain ⟨t, rfl⟩ := rz
  obtain ⟨its, rv, pl, _⟩ := I.list hs
  have hsz := sizeLine_eq
  exact SeqAt.list_index_strs pl.isList (vals_strs rv) (by omega) hz ⟨.int (ss.idxOf z : Nat), H, I.tok _, ⟨_, rfl⟩, q⟩
theorem mt_idxT : MtR X "tuple.index" (rIdxT X.K) := by
  intro pins s σ H x xs v us Q I rx rxs h
  obtain ⟨a, ss, z, rfl, rfl, hs, hz, q⟩ := h
  cases rx
  obtain ⟨u, rfl, rz⟩ := vals1 rxs
  obtain ⟨t, rfl⟩ := rz
  obtain ⟨its, rv, ⟨o, h1, h2, n, h3⟩, _⟩ := I.tuple hs
  exact SeqAt.tuple_index_strs ⟨o, h1, h2, n, h3⟩ (vals_strs rv) hz ⟨.int (ss.idxOf z : Nat), H, I.tok _, ⟨_, rfl⟩, q⟩
/-- a method of a tuple that is known to the object -/
def tBMZ (r : V → List V → Hp → VK → Prop) (to : TE) (t : TA) : TE := fun σ H Q => to σ H fun x H1 => (∃ a o xs, x = .ref a ∧ H1 a = some (.frz o (.tup xs)) ∧ TupO o) ∧ t σ H1 fun xs H2 => r x xs H2 Q
/-- what a method's call with plain arguments looks like -/
structure PlainMt (X : Cx) (o e : Expr) (es : List Expr) (name : Str) (apos cpos : Pos) : Prop where
  base : attributeBase o name X.env (eval o X.env) = eval o X.env
  few : ((backTo cpos (starEach (e :: es) X.env)).all (fun x => !x.1) && (backToKw cpos (keywordEach [] X.env)).all (fun x => x.1.isSome) && decide ((e :: es).length + ([] : List Keyword).length + (if ([] : List Keyword).isEmpty then 0 else 1) < 30)) = true
  line : (apos.endLine == cpos.line) = true
  star : starEach (e :: es) X.env = (false, eval e X.env) :: starEach es X.env
  plain : (backTo cpos (starEach es X.env)).any (·.1) = false
theorem frz_type {X : Cx} {pins : List (Addr × Obj)} {σ : L2.St} {H : Hp} {s : Shared} (I : Inv X pins σ H s) {a : Addr} {o : Obj} {xs : List V} (h : H a = some (.frz o (.tup xs))) (t : TupO o) :
    s.TypeIs (.ref a) "tuple" ∧ ∀ b, Value.ref a = .ref b → ∃ ob, s.heap.get? b = some ob ∧ ob.dict = none := by
  have e := (show ObjOk X.prog X.w H s.heap a (.frz o (.tup xs)) from I.hok a _ h).1
  exact ⟨⟨o, e, t.1⟩, fun b eb => by cases eb; exact ⟨o, e, t.2.1⟩⟩
theorem pe_bmZ {o e : Expr} {es : List Expr} {to : TE} {t : TA} {name : Str} {apos cpos : Pos} {id : String} {r : V → List V → Hp → VK → Prop} (slot : Slot "tuple" name id) (hty : typeOf (.builtin id) = pure (.type "method_descriptor")) (hm : MtR X id r) (ho : PE X o to) (ha : PA X (e :: es) t)
    (c : PlainMt X o e es name apos cpos := by exact ⟨rfl, rfl, rfl, rfl, rfl⟩) :
    PE X (.Call (.Attribute o name apos) (e :: es) [] cpos) (tBMZ r to t) := by
  constructor
  intro pins s σ H Q I h
  refine wpAny_Call_method_late c.base c.few c.line rfl (thn (ho.run pins s σ H _ I h) ?_)
  rintro v s1 ⟨x, H1, I1, r1, ⟨a, ob, ys, rfl, fa, to'⟩, q1⟩
  cases r1
  obtain ⟨h1, h2⟩ := frz_type I1 fa to'
  refine ⟨"tuple", id, PySem.F.plainAttrs_tuple, slot, hty, h1, h2, ?_⟩
  have args := ha.run cpos pins s1 σ H1 _ I1 q1
  rw [c.star] at args ⊢
  have none_starred : ((false, eval e X.env) :: backTo cpos (starEach es X.env)).any (·.1) = false := c.plain
  refine Calls.callWith_builtin none_starred (Calls.evalArgs_plain (thn args ?_))
  rintro us s2 ⟨xs, H2, I2, r2, q2⟩
  exact hm pins s2 σ H2 (.ref a) xs (.ref a) us Q I2 rfl r2 q2
end
/-! ### a comprehension with a test -/
theorem filt_succ {β : Type} (f : Nat → Option β) (i : Nat) : (List.range (i + 1)).filterMap f = (List.range i).filterMap f ++ (f i).toList := by
  rw [List.range_succ, List.filterMap_append]
  cases h : f i <;> simp [h]
theorem lc_filt {β : Type} {R : Rp β} (hR : Fzm R) {J : It} {n : Nat} {f : Nat → Option β} {tt : TT} {te : TE} {g : TG} {vs : List Nat} {σ : L2.St} {H1 : Hp} {D : Addr} {Qd : Hp → Prop} (hD : H1 D = none) (hsz : n ≤ 1000)
    (go : ∀ i H, Same H1 H → i < n → J.go i H) (stop : ∀ H, Same H1 H → J.stop n H)
    (turn : ∀ i H x H', i < n → Same H1 H → J.yld i H x H' → Same H H' ∧ ∀ Qg : L2.St → Hp → Prop,
      (∀ σ2, wipe σ2 vs = wipe σ vs → (∀ kb : Bool → Hp → Prop, (∀ H3, Same H' H3 → kb (f i).isSome H3) → tt σ2 H' kb) → (∀ y H3 (k : VK), f i = some y → Same H' H3 → (∀ v H4, Same H3 H4 → R H4 v y → k v H4) → te σ2 H3 k) → Qg σ2 H') → g x (wipe σ vs) H' Qg)
    (done : ∀ H acc, Same H1 H → H D = some (.lst acc) → Al R H acc ((List.range n).filterMap f) → Qd H) :
    ∃ W : Nat → Nat → Hp → Prop, (∃ m, W 0 m (upd H1 D (.lst []))) ∧ ∀ i m H, W i m H →
      (J.stop i H ∧ Qd H) ∨ (J.go i H ∧ ∃ Nx : Hp → Prop, (∀ H', Nx H' → ∃ m', m' < m ∧ W (i + 1) m' H') ∧ ∀ x H', J.yld i H x H' → g x (wipe σ vs) H' fun σ2 H2 => wipe σ2 vs = wipe σ vs ∧ tt σ2 H2 fun b H3 =>
        if b = true then te σ2 H3 fun y H4 => ∃ acc, H4 D = some (.lst acc) ∧ acc.length < sizeLine ∧ Nx (upd H4 D (.lst (acc ++ [y]))) else Nx H3) := by
  refine ⟨fun i m H => m = n - i ∧ i ≤ n ∧ Same H1 H ∧ ∃ acc, H D = some (.lst acc) ∧ Al R H acc ((List.range i).filterMap f), ⟨n, rfl, Nat.zero_le _, sm_upd hD, [], upd_same, Al.nil⟩, ?_⟩
  rintro i m H ⟨rfl, hi, sm, acc, hacc, al⟩
  by_cases hlt : i < n
  · refine .inr ⟨go i H sm hlt, fun H' => ∃ m', m' < n - i ∧ (m' = n - (i + 1) ∧ i + 1 ≤ n ∧ Same H1 H' ∧ ∃ acc, H' D = some (.lst acc) ∧ Al R H' acc ((List.range (i + 1)).filterMap f)), fun H' h => h, fun x H' y => ?_⟩
    obtain ⟨s1, tn⟩ := turn i H x H' hlt sm y
    refine tn _ fun σ2 hw ht hte => ⟨hw, ?_⟩
    refine ht _ fun H3 s3 => ?_
    cases hf : f i with
    | none =>
      refine iteF ⟨n - (i + 1), by omega, rfl, hlt, (sm.trans s1).trans s3, acc, s3 _ _ (s1 _ _ hacc), ?_⟩
      rw [filt_succ, hf]
      simp only [Option.toList_none, List.append_nil]
      exact al.mono hR (Fz.of (s1.trans s3))
    | some y =>
      refine iteT (hte y H3 _ hf s3 fun v H4 s4 r => ⟨acc, s4 _ _ (s3 _ _ (s1 _ _ hacc)), ?_, n - (i + 1), by omega, rfl, hlt, ?_, acc ++ [v], upd_same, ?_⟩)
      · have e := al.1
        have l1 := List.length_filterMap_le f (List.range i)
        rw [List.length_range] at l1
        exact small1000 (by omega)
      · exact sm_upn (((sm.trans s1).trans s3).trans s4) hD
      · have fz : Fz H4 (upd H4 D (.lst (acc ++ [v]))) := Fz.lst (s4 _ _ (s3 _ _ (s1 _ _ hacc)))
        rw [filt_succ, hf]
        exact (al.mono hR (((Fz.of (s1.trans s3)).trans (Fz.of s4)).trans fz)).app (Al.one (hR _ _ _ _ fz r))
  · have e : i = n := by omega
    subst e
    exact .inl ⟨stop H sm, done H acc sm hacc al⟩
end PN
end
section
set_option maxRecDepth 100000
namespace PN
/-! ### sizes of a book's sums -/
def cf {α : Type} [DecidableEq α] : List (α × Int) → α → Int
  | [], _ => 0
  | d :: r, n => if d.1 = n then d.2 else cf r n
def blockM (m : Mat) (rs cs : List Nat) : Mat := rs.map fun r => cs.map fun c => gt (m.getD r []) c
def pickV (v : List Rat) (ps : List Nat) : List Rat := ps.map fun p => gt v p
structure Sums where
  N : Mat
  R : List Rat
  C : Rat
/-- one reading: its row, weight, value -/
def stepS (s : Sums) (row : List Rat) (w v : Rat) : Sums := ⟨addTerm s.N row w, plus s.R (scale (w * v) row), s.C + w * v * v⟩
structure RdN where
  row : List Rat
  w : Rat
  v : Rat
def sumsOf (n : Nat) (rs : List RdN) : Sums := rs.foldl (fun s r => stepS s r.row r.w r.v) ⟨zeros n n, zero n, 0⟩
theorem sumsOf_snoc (n : Nat) (rs : List RdN) (r : RdN) : sumsOf n (rs ++ [r]) = stepS (sumsOf n rs) r.row r.w r.v := by
  unfold sumsOf; rw [List.foldl_append]; rfl
/-- what is asked of a reading -/
structure RnOk (n : Nat) (r : RdN) : Prop where
  len : r.row.length = n
  row : ∀ x ∈ r.row, Bd 20 x
  w : Bd 20 r.w
  v : Bd 20 r.v
structure SumB (n k : Nat) (s : Sums) : Prop where
  nl : s.N.length = n
  nw : Wd n s.N
  nb : ∀ r ∈ s.N, ∀ x ∈ r, Bd (62 * k + 2) x
  rl : s.R.length = n
  rb : ∀ x ∈ s.R, Bd (62 * k + 2) x
  cb : Bd (82 * k + 2) s.C
theorem zip_mem {α β γ : Type} {f : α → β → γ} {a : List α} {b : List β} {z : γ} (h : z ∈ List.zipWith f a b) : ∃ x ∈ a, ∃ y ∈ b, z = f x y := by
  induction a generalizing b with
  | nil => simp at h
  | cons x a ih =>
    cases b with
    | nil => simp at h
    | cons y b =>
      rw [List.zipWith_cons_cons] at h
      rcases List.mem_cons.mp h with e | e
      · exact ⟨x, List.mem_cons_self, y, List.mem_cons_self, e⟩
      · obtain ⟨x', h1, y', h2, e⟩ := ih e
        exact ⟨x', List.mem_cons_of_mem _ h1, y', List.mem_cons_of_mem _ h2, e⟩
theorem SumB.zero (n : Nat) : SumB n 0 ⟨zeros n n, PN.zero n, 0⟩ := by
  refine ⟨List.length_replicate .., fun r hr => ?_, fun r hr x hx => ?_, List.length_replicate .., fun x hx => ?_, Bd.zero (by decide)⟩
  · rw [(List.mem_replicate.mp hr).2]; exact List.length_replicate ..
  · rw [(List.mem_replicate.mp hr).2] at hx
    rw [(List.mem_replicate.mp hx).2]; exact Bd.zero (by decide)
  · rw [(List.mem_replicate.mp hx).2]; exact Bd.zero (by decide)
theorem SumB.step {n k : Nat} {s : Sums} {r : RdN} (h : SumB n k s) (ok : RnOk n r) : SumB n (k + 1) (stepS s r.row r.w r.v) := by
  have lo : (outer r.row r.row).length = n := by unfold outer; rw [List.length_map, ok.len]
  have ls : (scaled r.w (outer r.row r.row)).length = n := by unfold scaled; rw [List.length_map, lo]
  have row_of : ∀ y ∈ scaled r.w (outer r.row r.row), y.length = n ∧ ∀ x ∈ y, Bd 60 x := fun y hy => by
    unfold scaled at hy
    obtain ⟨z, hz, rfl⟩ := List.mem_map.mp hy
    unfold outer at hz
    obtain ⟨a, ha, rfl⟩ := List.mem_map.mp hz
    refine ⟨by rw [scale_len, scale_len, ok.len], fun x hx => ?_⟩
    unfold scale at hx
    obtain ⟨b, hb, rfl⟩ := List.mem_map.mp hx
    obtain ⟨c, hc, rfl⟩ := List.mem_map.mp hb
    exact ok.w.mul ((ok.row a ha).mul (ok.row c hc))
  refine ⟨?_, fun y hy => ?_, fun y hy x hx => ?_, ?_, fun x hx => ?_, ?_⟩
  · show (List.zipWith plus s.N _).length = n
    rw [List.length_zipWith, h.nl, ls]; omega
  · obtain ⟨a, ha, b, hb, rfl⟩ := zip_mem (show y ∈ List.zipWith plus s.N (scaled r.w (outer r.row r.row)) from hy)
    unfold plus
    rw [List.length_zipWith, h.nw a ha, (row_of b hb).1]; omega
  · obtain ⟨a, ha, b, hb, rfl⟩ := zip_mem (show y ∈ List.zipWith plus s.N (scaled r.w (outer r.row r.row)) from hy)
    obtain ⟨p, hp, q, hq, rfl⟩ := zip_mem (show x ∈ List.zipWith (· + ·) a b from hx)
    exact ((h.nb a ha p hp).add ((row_of b hb).2 q hq)).mono (by omega)
  · show (List.zipWith (· + ·) s.R (scale _ r.row)).length = n
    rw [List.length_zipWith, h.rl, scale_len, ok.len]; omega
  · obtain ⟨p, hp, q, hq, rfl⟩ := zip_mem (show x ∈ List.zipWith (· + ·) s.R (scale (r.w * r.v) r.row) from hx)
    unfold scale at hq
    obtain ⟨c, hc, rfl⟩ := List.mem_map.mp hq
    exact ((h.rb p hp).add ((ok.w.mul ok.v).mul (ok.row c hc))).mono (by omega)
  · exact (h.cb.add ((ok.w.mul ok.v).mul ok.v)).mono (by omega)
theorem SumB.fold {n : Nat} : ∀ {rs : List RdN} {k : Nat} {s : Sums}, SumB n k s → (∀ r ∈ rs, RnOk n r) → SumB n (k + rs.length) (rs.foldl (fun s r => stepS s r.row r.w r.v) s)
  | [], k, s, h, _ => h
  | r :: rs, k, s, h, ok => by
    have := SumB.fold (rs := rs) (h.step (ok r List.mem_cons_self)) fun x hx => ok x (List.mem_cons_of_mem _ hx)
    rw [List.foldl_cons, List.length_cons, show k + (rs.length + 1) = k + 1 + rs.length by omega]
    exact this
theorem SumB.of {n : Nat} {rs : List RdN} (h : ∀ r ∈ rs, RnOk n r) : SumB n rs.length (sumsOf n rs) := by
  have := SumB.fold (SumB.zero n) h
  rw [Nat.zero_add] at this
  exact this
end PN
end
section
set_option maxRecDepth 100000
set_option maxHeartbeats 4000000
namespace PN
open PySem PySem.Spec PyProof.Rows L2
/-! ### parts -/
def IsNat : Rp Nat := fun _ v n => v = .int (n : Int)
theorem IsNat.fz : Fzm IsNat := fun _ _ _ _ _ h => h
theorem Al.nat {H : Hp} {xs : List V} {ds : List Nat} (a : Al IsNat H xs ds) : xs = pvs ds := by
  refine List.ext_getElem? fun i => ?_
  rw [List.getElem?_map]
  cases e : xs[i]? with
  | none => rw [List.getElem?_eq_none (by rw [← a.1]; exact List.getElem?_eq_none_iff.mp e)]; rfl
  | some x => obtain ⟨d, h1, h2⟩ := a.get e; rw [h1]; exact congrArg some h2
theorem pvs_at {ns : List Nat} {i : Nat} {x : V} (h : (pvs ns)[i]? = some x) : ∃ n, ns[i]? = some n ∧ x = .int (n : Int) := by
  rw [List.getElem?_map] at h
  cases e : ns[i]? with
  | none => rw [e] at h; cases h
  | some n => rw [e] at h; cases h; exact ⟨n, rfl, rfl⟩
theorem strs_at {ns : List Str} {i : Nat} {x : V} (h : (ns.map V.str)[i]? = some x) : ∃ n, ns[i]? = some n ∧ x = .str n := by
  rw [List.getElem?_map] at h
  cases e : ns[i]? with
  | none => rw [e] at h; cases h
  | some n => rw [e] at h; cases h; exact ⟨n, rfl, rfl⟩
theorem all_flatS : ∀ ss : List Str, (ss.map V.str).all flatV = true
  | [] => rfl
  | _ :: r => all_flatS r
theorem inV_str (n : Str) : ∀ ss : List Str, inV (.str n) (ss.map V.str) = decide (n ∈ ss)
  | [] => by simp [inV]
  | s :: r => by
    have ih := inV_str n r
    unfold inV at ih ⊢
    rw [List.map_cons, List.any_cons, ih]
    show ((s == n) || _) = _
    by_cases e : s = n
    · subst e; simp
    · have e2 : ¬ n = s := fun z => e z.symm
      simp [e, e2]
section
variable {P : Program} {w : World} {K : PySem.W.Frag} {mg : Str → Option Value} {base : Heap}

/-! ### require_points -/
def spReqPoints (K : PySem.W.Frag) : Sp := fun vs H Q _ => ∃ (H0 : Hp) (b : Addr) (pts : List Str) (rds : List RdD) (l : Addr) (ns : List Str), vs = [.ref b, .ref l] ∧ Bk K H0 H b pts rds ∧ H l = some (.lst (ns.map V.str)) ∧ (∀ n ∈ ns, n ∈ pts) ∧ Q .non H
theorem sc_require_points : FnScope ["book", "names", "name"] ["book", "names"] (defScope sReqPoints) := ⟨rfl, rfl, rfl, by decide +kernel, rfl, by decide +kernel, by decide +kernel⟩
theorem ok_require_points (T : TX w K mg) : C8.Cal P w K mg base 1 "require_points" (spReqPoints K) [] := by
  refine cal1 (d_require_points T) (g_require_points T) (ps := ["book", "names"]) (fun _ _ _ _ _ _ us hl => match us, hl with | [_, _], _ => rfl) sc_require_points (fun vs H Q E h => ?_) (fun cdv A outr s H vs Q E hr h => ?_)
  · obtain ⟨H0, b, pts, rds, l, ns, rfl, _⟩ := h
    rfl
  · obtain ⟨H0, b, pts, rds, l, ns, rfl, hB, hl, hn, k⟩ := h
    refine ⟨_, (pss_one (ps_for PassesOwn.never rfl (pi_listK (K := K) (pv 1)) (pg_name (i := 2) sc_require_points.nd rfl (Or.inl rfl)) (pss_one (ps_if (pt_cmp (pc_dnotin (hu1 hr) (pv 2) (pe_fldK (K := K) (pv 0) rfl))) (pss_one ps_never) pss_nil)))), ?_⟩
    obtain ⟨dx, pl, dl, rl, kvs, rs, B⟩ := hB
    refine ⟨_, rfl, l, rfl, ⟨_, SqL.of hl⟩, ?_⟩
    refine for_list (K := K) (a := l) (xs := ns.map V.str) (fun i σ H' => ∃ v2 : Option V, σ = [some (.ref b), some (.ref l), v2] ∧ H = H') ⟨none, rfl, rfl⟩ (fun i σ H' _ h => ?_) ?_ ?_
    · obtain ⟨_, _, rfl⟩ := h
      exact SqL.of hl
    · rintro i x σ H' hx ⟨v2, rfl, rfl⟩
      obtain ⟨n, en, rfl⟩ := strs_at hx
      refine ⟨_, rfl, _, rfl, b, _, dx, _, _, rfl, B.ins, c_Book T, na_Book_approximations T, lk_approx, dl, _, rfl, DGet.k (k := Sum.inr n) B.app, _, rfl, ?_⟩
      rw [val_keys B.keys, decide_eq_true (hn n (List.mem_of_getElem? en))]
      exact iteF ⟨_, rfl, rfl⟩
    · rintro σ H' ⟨v2, rfl, rfl⟩
      exact k

/-! ### block, pick -/
def spBlock (C : Addr) : Sp := fun vs H Q _ => ∃ (v : V) (m : Mat) (rl cl : Addr) (rs cs : List Nat), vs = [v, .ref rl, .ref cl] ∧ IsM C H v m ∧ H rl = some (.lst (pvs rs)) ∧ H cl = some (.lst (pvs cs)) ∧ rs.length ≤ 100 ∧ cs.length ≤ 100 ∧
  (∀ r ∈ rs, r < m.length ∧ ∀ c ∈ cs, c < (m.getD r []).length) ∧ ∀ H' z, Same H H' → IsM C H' z (blockM m rs cs) → Q z H'
theorem sc_block : FnScope ["matrix", "rows", "columns", "row", "column"] ["matrix", "rows", "columns"] (defScope sBlock) := ⟨rfl, rfl, rfl, by decide +kernel, rfl, by decide +kernel, by decide +kernel⟩
theorem ok_block (T : TX w K mg) : C8.Cal P w K mg base 1 "block" (spBlock (cR K)) [] := by
  refine cal1 (d_block T) (g_block T) (ps := ["matrix", "rows", "columns"]) (fun _ _ _ _ _ _ us hl => match us, hl with | [_, _, _], _ => rfl) sc_block (fun vs H Q E h => ?_) (fun cdv A outr s H vs Q E hr h => ?_)
  · obtain ⟨v, m, rl, cl, rs, cs, rfl, _⟩ := h
    rfl
  · obtain ⟨v, m, rl, cl, rs, cs, rfl, hv, hrl, hcl, lr, lc, hb, k⟩ := h
    refine ⟨_, (pss_one (ps_ret (pe_tupK (K := K) rfl (n_tuple T) (pe_lc (own := [("row", 3)]) (g := gName 3) (by rfl) sc_block.nd (pi_listK (K := K) (pv 1)) (blkOk_by (own := [("row", 3)]) (N := ["matrix", "rows", "columns", "row", "column"]) (sc := defScope sBlock) (by decide +kernel))
      (fun _ _ _ _ _ => (pg_name (i := 3) sc_block.nd rfl (Or.inr rfl))) (fun _ _ _ _ _ => pts_nil) (fun _ _ _ _ _ => (pe_tupK (K := K) rfl (n_tuple T) (pe_lc (own := [("column", 4)]) (g := gName 4) (by rfl) sc_block.nd (pi_listK (K := K) (pv 2)) (blkOk_by (own := [("column", 4)]) (N := ["matrix", "rows", "columns", "row", "column"]) (by rfl))
      (fun _ _ _ _ _ => (pg_name (i := 4) sc_block.nd rfl (Or.inl rfl))) (fun _ _ _ _ _ => pts_nil) (fun _ _ _ _ _ => (pe_ixTK (K := K) (pe_ixTK (K := K) (pv 0) (pv 3) (fun _ _ => rfl)) (pv 4) (fun _ _ => rfl)))))))))), ?_⟩
    have l1 : (pvs rs).length = rs.length := List.length_map ..
    have l2 : (pvs cs).length = cs.length := List.length_map ..
    refine ⟨_, rfl, rl, rfl, ⟨_, SqL.of hrl⟩, fun D hD => ?_⟩
    refine lcL (R := IsV (cR K)) (ys := blockM m rs cs) IsV.fz hD (SqL.of hrl) (by rw [l1]; unfold blockM; rw [List.length_map]) (by unfold blockM; rw [List.length_map]; omega) ?_ ?_
    · intro t x y H1 hx hy s1 k1 hk
      obtain ⟨r, er, rfl⟩ := pvs_at hx
      have ey := get_map (f := fun r => cs.map fun c => gt (m.getD r []) c) er hy
      subst ey
      obtain ⟨hr1, hr2⟩ := hb r (List.mem_of_getElem? er)
      obtain ⟨p, xs, rfl, hp, ax⟩ := IsM.fz _ _ _ _ (Fz.of s1) hv
      obtain ⟨x, ex, rx⟩ := ax.at (getD_mem hr1)
      refine ⟨_, rfl, cl, rfl, ⟨_, SqL.of (s1 _ _ hcl)⟩, fun D2 hD2 => ?_⟩
      refine lcL (R := IsQ (cR K)) (ys := cs.map fun c => gt (m.getD r []) c) IsQ.fz hD2 (SqL.of (s1 _ _ hcl)) (by rw [l2, List.length_map]) (by rw [List.length_map]; omega) ?_ ?_
      · intro t2 x2 y2 H2 hx2 hy2 s2 k2 hk2
        obtain ⟨c, ec, rfl⟩ := pvs_at hx2
        have ey := get_map (f := fun c => gt (m.getD r []) c) ec hy2
        subst ey
        have hc := hr2 c (List.mem_of_getElem? ec)
        obtain ⟨q, us, rfl, hq, au⟩ := IsV.fz _ _ _ _ (Fz.of s2) rx
        obtain ⟨u, eu, ru⟩ := au.at (gt_at hc)
        exact ⟨_, rfl, _, rfl, p, xs, _, .ref q, rfl, rfl, SqT.of (s2 _ _ hp), atI_nat ex, _, rfl, q, us, _, u, rfl, rfl, SqT.of hq, atI_nat eu, hk2 _ _ (Same.refl _) ru⟩
      · intro H' acc s' hacc al
        exact tup_done IsQ.fz s' hacc al fun H4 z4 s4 h4 => hk _ _ s4 h4
    · intro H' acc s' hacc al
      exact tup_done IsV.fz s' hacc al fun H4 z4 s4 h4 => k _ _ s4 h4

def spPick (C : Addr) : Sp := fun vs H Q _ => ∃ (v : V) (m : List Rat) (rl : Addr) (rs : List Nat), vs = [v, .ref rl] ∧ IsV C H v m ∧ H rl = some (.lst (pvs rs)) ∧ rs.length ≤ 100 ∧
  (∀ r ∈ rs, r < m.length) ∧ ∀ H' z, Same H H' → IsV C H' z (pickV m rs) → Q z H'
theorem sc_pick : FnScope ["vector", "places", "place"] ["vector", "places"] (defScope sPick) := ⟨rfl, rfl, rfl, by decide +kernel, rfl, by decide +kernel, by decide +kernel⟩
theorem ok_pick (T : TX w K mg) : C8.Cal P w K mg base 1 "pick" (spPick (cR K)) [] := by
  refine cal1 (d_pick T) (g_pick T) (ps := ["vector", "places"]) (fun _ _ _ _ _ _ us hl => match us, hl with | [_, _], _ => rfl) sc_pick (fun vs H Q E h => ?_) (fun cdv A outr s H vs Q E hr h => ?_)
  · obtain ⟨v, m, rl, rs, rfl, _⟩ := h
    rfl
  · obtain ⟨v, m, rl, rs, rfl, hv, hrl, lr, hb, k⟩ := h
    refine ⟨_, (pss_one (ps_ret (pe_tupK (K := K) rfl (n_tuple T) (pe_lc (own := [("place", 2)]) (g := gName 2) (by rfl) sc_pick.nd (pi_listK (K := K) (pv 1)) (blkOk_by (own := [("place", 2)]) (N := ["vector", "places", "place"]) (sc := defScope sPick) (by decide +kernel))
      (fun _ _ _ _ _ => (pg_name (i := 2) sc_pick.nd rfl (Or.inl rfl))) (fun _ _ _ _ _ => pts_nil) (fun _ _ _ _ _ => (pe_ixTK (K := K) (pv 0) (pv 2) (fun _ _ => rfl))))))), ?_⟩
    have l1 : (pvs rs).length = rs.length := List.length_map ..
    refine ⟨_, rfl, rl, rfl, ⟨_, SqL.of hrl⟩, fun D hD => ?_⟩
    refine lcL (R := IsQ (cR K)) (ys := pickV m rs) IsQ.fz hD (SqL.of hrl) (by rw [l1]; unfold pickV; rw [List.length_map]) (by unfold pickV; rw [List.length_map]; omega) ?_ ?_
    · intro t x y H1 hx hy s1 k1 hk
      obtain ⟨r, er, rfl⟩ := pvs_at hx
      have ey := get_map (f := fun r => gt m r) er hy
      subst ey
      have hr1 := hb r (List.mem_of_getElem? er)
      obtain ⟨p, xs, rfl, hp, ax⟩ := IsV.fz _ _ _ _ (Fz.of s1) hv
      obtain ⟨x, ex, rx⟩ := ax.at (gt_at hr1)
      exact ⟨_, rfl, _, rfl, p, xs, _, x, rfl, rfl, SqT.of hp, atI_nat ex, hk _ _ (Same.refl _) rx⟩
    · intro H' acc s' hacc al
      exact tup_done IsQ.fz s' hacc al fun H4 z4 s4 h4 => k _ _ s4 h4

/-! ### places_of -/
def innerOf (pts ns : List Str) : List Nat := (List.range pts.length).filterMap fun i => if pts.getD i "" ∈ ns then none else some i
def outerOf (pts ns : List Str) : List Nat := ns.map fun n => pts.idxOf n
theorem pt_notinK {X : Cx} {K : PySem.W.Frag} {a b : Expr} {ta tb : TE} {pos : Pos} (ha : PE X a ta) (hb : PE X b tb) (eK : X.K = K := by rfl) (hm : behindInMarks .NotIn b = false := by rfl) : PT X (.Compare a [.NotIn] [b] pos) (tTest (tOp (rIn K true) ta tb)) := by
  subst eK; exact pt_cmpR op_notIn_seq ha hb hm
theorem pt_inK {X : Cx} {K : PySem.W.Frag} {a b : Expr} {ta tb : TE} {pos : Pos} (ha : PE X a ta) (hb : PE X b tb) (eK : X.K = K := by rfl) (hm : behindInMarks .In b = false := by rfl) : PT X (.Compare a [.In] [b] pos) (tTest (tOp (rIn K false) ta tb)) := by
  subst eK; exact pt_cmpR op_in_seq ha hb hm
theorem pe_idxLK {X : Cx} {K : PySem.W.Frag} {o e : Expr} {to te : TE} {apos cpos : Pos} (ho : PE X o to) (he : PE X e te) (eK : X.K = K := by rfl) (c : PlainMt X o e [] "index" apos cpos := by exact ⟨rfl, rfl, rfl, rfl, rfl⟩) :
    PE X (.Call (.Attribute o "index" apos) [e] [] cpos) (tBM K "list" (rIdxL K) to (tCons te tNil)) := by
  subst eK; exact pe_bm PySem.F.plainAttrs_list PySem.F.slot_list_index PySem.F.type_list_index mt_idxL ho (pa_cons he pa_nil c.star) c.base c.few c.line c.star
theorem pe_idxTK {X : Cx} {K : PySem.W.Frag} {o e : Expr} {to te : TE} {apos cpos : Pos} (ho : PE X o to) (he : PE X e te) (eK : X.K = K := by rfl) (c : PlainMt X o e [] "index" apos cpos := by exact ⟨rfl, rfl, rfl, rfl, rfl⟩) :
    PE X (.Call (.Attribute o "index" apos) [e] [] cpos) (tBMZ (rIdxT K) to (tCons te tNil)) := by
  subst eK; exact pe_bmZ PySem.F.slot_tuple_index PySem.F.type_tuple_index mt_idxT ho (pa_cons he pa_nil c.star) c

def spPlacesOf (K : PySem.W.Frag) : Sp := fun vs H Q _ => ∃ (H0 : Hp) (b : Addr) (pts : List Str) (rds : List RdD) (nl : Addr) (ns : List Str), vs = [.ref b, .ref nl] ∧ Bk K H0 H b pts rds ∧ SqT K H nl (ns.map V.str) ∧ (∀ n ∈ ns, n ∈ pts) ∧ pts.length ≤ 100 ∧ ns.length ≤ 100 ∧
  ∀ H' o il ol, Same H H' → H' o = some (.tup [.ref il, .ref ol]) → H' il = some (.lst (pvs (innerOf pts ns))) → H' ol = some (.lst (pvs (outerOf pts ns))) → Q (.ref o) H'
theorem sc_places_of : FnScope ["book", "names", "inner", "place", "name"] ["book", "names"] (defScope sPlacesOf) := ⟨rfl, rfl, rfl, by decide +kernel, rfl, by decide +kernel, by decide +kernel⟩
theorem ok_places_of (T : TX w K mg) : C8.Cal P w K mg base 1 "places_of" (spPlacesOf K) [] := by
  refine cal1 (d_places_of T) (g_places_of T) (ps := ["book", "names"]) (fun _ _ _ _ _ _ us hl => match us, hl with | [_, _], _ => rfl) sc_places_of (fun vs H Q E h => ?_) (fun cdv A outr s H vs Q E hr h => ?_)
  · obtain ⟨H0, b, pts, rds, nl, ns, rfl, _⟩ := h
    rfl
  · obtain ⟨H0, b, pts, rds, nl, ns, rfl, hB, hnl, hn, l1, l2, k⟩ := h
    refine ⟨_, (pss_cons (ps_setLc (i := 2) (own := [("place", 3), ("name", 4)]) (g := gPair K 3 4) (by rfl) sc_places_of.nd rfl rfl (sw_true rfl rfl rfl (by decide +kernel)) (pi_enum rfl (n_enumerate T) (pa_cons (pe_fldK (K := K) (pv 0) rfl) pa_nil)) (blkOk_by (own := [("place", 3), ("name", 4)]) (N := ["book", "names", "inner", "place", "name"]) (sc := defScope sPlacesOf) (by decide +kernel))
      (fun _ _ _ _ _ => (pg_pairK (K := K) rfl (pg_name (i := 3) sc_places_of.nd rfl (Or.inl rfl)) (pg_name (i := 4) sc_places_of.nd rfl (Or.inl rfl)))) (fun _ _ _ _ _ => (pts_one (pt_notinK (K := K) (pv 4) (pv 1)))) (fun _ _ _ _ _ => (pv 3)))
      (pss_one (ps_ret (pe_tup (pa_cons (pv 2) (pa_cons (pe_lc (own := [("name", 4)]) (g := gName 4) (by rfl) sc_places_of.nd (pi_tupK (K := K) (pv 1)) (blkOk_by (own := [("name", 4)]) (N := ["book", "names", "inner", "place", "name"]) (sc := defScope sPlacesOf) (by decide +kernel))
      (fun _ _ _ _ _ => (pg_name (i := 4) sc_places_of.nd rfl (Or.inl rfl))) (fun _ _ _ _ _ => pts_nil) (fun _ _ _ _ _ => (pe_idxLK (K := K) (pe_fldK (K := K) (pv 0) rfl) (pv 4)))) pa_nil)))))), ?_⟩
    obtain ⟨dx, pl, dl, rl, kvs, rs, B⟩ := id hB
    have lp : (pts.map V.str).length = pts.length := List.length_map ..
    have ln : (ns.map V.str).length = ns.length := List.length_map ..
    refine ⟨_, rfl, b, _, dx, _, _, rfl, B.ins, c_Book T, na_Book_points T, lk_points, ?_⟩
    refine ⟨pl, _, rfl, SqL.of B.hpts, fun D hD => ?_⟩
    refine lc_filt (R := IsNat) (J := Ite K pl) (n := pts.length) (f := fun i => if pts.getD i "" ∈ ns then none else some i) (vs := [3, 4]) (g := gPair K 3 4) IsNat.fz hD (by omega) (fun i H' s' hi => ⟨pts.map V.str, V.str (pts[i]), SqL.of (s' _ _ B.hpts), by rw [List.getElem?_map, List.getElem?_eq_getElem hi]; rfl⟩) (fun H' s' => ⟨_, SqL.of (s' _ _ B.hpts), by rw [lp]; exact Nat.le_refl _⟩) ?_ ?_
    · intro i H1 x H2 hi s1 y
      obtain ⟨Tt, x', rfl, hT, rfl, f1⟩ := y
      have hx := f1 _ (SqL.of (s1 _ _ B.hpts))
      obtain ⟨n, en, rfl⟩ := strs_at hx
      have ed : pts.getD i "" = n := by rw [List.getD_eq_getElem?_getD, en]; rfl
      have s2 : Same H (upd H1 Tt (.tup [.int (i : Nat), .str n])) := sm_upd' s1 hT
      refine ⟨sm_upd hT, fun Qg hq => ⟨Tt, [.int (i : Nat), .str n], rfl, SqT.of upd_same, rfl, .int (i : Nat), [.str n], rfl, .str n, [], rfl, rfl, ?_⟩⟩
      refine hq _ (wipe2 (by decide)) (fun kb hkb => ?_) (fun y H3 k3 hy s3 hk3 => ?_)
      · refine ⟨_, rfl, _, rfl, nl, _, rfl, .inr (SqT.ext hnl s2), rfl, all_flatS _, _, rfl, ?_⟩
        rw [inV_str]
        have e2 : (if true = true then !decide (n ∈ ns) else decide (n ∈ ns)) = (if pts.getD i "" ∈ ns then none else some i : Option Nat).isSome := by
          rw [ed]
          by_cases h : n ∈ ns
          · simp [h]
          · simp [h]
        have := hkb _ (Same.refl _)
        rw [← e2] at this
        exact this
      · refine ⟨_, rfl, ?_⟩
        rw [ed] at hy
        by_cases h : n ∈ ns
        · rw [if_pos h] at hy; cases hy
        · rw [if_neg h] at hy; cases hy
          exact hk3 _ _ (Same.refl _) rfl
    · intro H1 acc s1 hacc al
      have ei := al.nat
      refine ⟨_, rfl, _, rfl, nl, rfl, ⟨_, SqT.ext hnl s1⟩, fun D2 hD2 => ?_⟩
      refine lcT (R := IsNat) (ys := outerOf pts ns) IsNat.fz hD2 (SqT.ext hnl s1) (by rw [ln]; unfold outerOf; rw [List.length_map]) (by unfold outerOf; rw [List.length_map]; omega) ?_ ?_
      · intro t x y H2 hx hy s2 k2 hk2
        obtain ⟨n, en, rfl⟩ := strs_at hx
        have ey := get_map (f := fun n => pts.idxOf n) en hy
        subst ey
        have s12 := s1.trans s2
        refine ⟨_, rfl, b, _, dx, _, _, rfl, s12 _ _ B.ins, c_Book T, na_Book_points T, lk_points, .inl ⟨rfl, _, SqL.of (s12 _ _ B.hpts)⟩, _, rfl, pl, pts, n, rfl, rfl, SqL.of (s12 _ _ B.hpts), by omega, hn n (List.mem_of_getElem? en), ?_⟩
        exact hk2 _ _ (Same.refl _) rfl
      · intro H2 acc2 s2 hacc2 al2
        have ei2 := al2.nat
        refine ⟨(by show 2 ≤ sizeLine; decide), fun o ho => ?_⟩
        have s3 := sm_upd ho (o := .tup [.ref D, .ref D2])
        refine k _ o D D2 ((s1.trans s2).trans s3) upd_same ?_ ?_
        · rw [s3 _ _ (s2 _ _ hacc), ei]; rfl
        · rw [s3 _ _ hacc2, ei2]

end
end PN
end
section
set_option maxRecDepth 100000
set_option maxHeartbeats 4000000
namespace PN
open PySem PySem.Spec PyProof.Rows L2 LamX
/-! ### sorted(x, key=lambda name: str(name)), x a list of texts in order -/
/-- the lambda's text -/
structure LamT (params : Arguments) (body : Expr) (scope : Scope) : Prop where
  bnd : ∀ (q : Str) (pm cv ctv v : Value), bindArgs (PySem.W.kla_fn "<lambda>" q params body scope [] pm cv ctv) ⟨[v], []⟩ = pure [(("name" : Str), v)]
  bod : ∃ p1 p2 p3, body = .Call (.Name "str" p1) [.Name "name" p2] [] p3
  sc : FnScope ["name"] ["name"] scope
  str : scope.names.lookup ("str" : Str) = some .globalImplicit
  dfl : params.defaults = [] ∧ params.kw_defaults = []
def OrdS (ss : List Str) : Prop := ss.Pairwise fun a b => decide (a.cps.toList ≤ b.cps.toList) = true
section
variable {X : Cx} {pins : List (Addr × Obj)} {σ : L2.St} {H : Hp} {s : Shared}
/-- one key -/
theorem lam_key {params : Arguments} {body : Expr} {scope : Scope} {f c' : Addr} {pm ctv : Value} {k : Nat} {q : Str} {z : Str} {t : Tok} (I : Inv X pins σ H s) (L : LamT params body scope) (hr : Room (k + 1) X.A)
    (hf : s.heap.get? f = some (PySem.W.kla_obj "<lambda>" q params body scope [] pm c' ctv)) (hco : H c' = some (CodeO c' q)) (hstr : X.mg "str" = none) :
    wpAny (model X.prog X.w) X.A.in1.in1 (call (.ref f) [.str z t]) (PySem.W.KeyPure (.str z) s) (fun _ _ => False) s := by
  have e0 : Env0 X.prog X.w X.K X.mg X.base X.A.in1.in1 X.stack s H := ⟨I.ok.frames, I.ok.mod, I.bs, Nat.le_trans I.ok.bsz I.sz, I.stack, I.stkFree, I.hok, I.bare⟩
  have lim : s.heap.NoLimit := e0.mod.nolimit.keeps fun b o e => (e0.bs b o e).1
  have hcd : s.heap.CodeRec (.ref c') q := by
    obtain ⟨⟨oc, vs, tq, h1, h2, h3⟩, _⟩ := (show ObjOk X.prog X.w H s.heap c' (CodeO c' q) from I.hok c' _ hco)
    exact ⟨c', oc, vs, tq, rfl, h1, h2, h3⟩
  have hkind : ∀ y ∈ (["name"] : List Str).zip [Value.str z t], scope.names.lookup y.1 = some .local ∨ (scope.names.lookup y.1 = some .cell ∧ ((cellsFrom (s.heap.objs.size + 1) scope.names []).lookup y.1).isSome = true) := fun ⟨n, v⟩ hy => by
    rcases L.sc.par n (List.of_mem_zip hy).1 with q | q
    · exact .inl q
    · exact .inr ⟨q, PySem.W.cellsFrom_some _ _ _ (.inl q)⟩
  refine wpAny_call (PySem.W.kla_callFunE (show X.A.depth < recursionLimit from hr.depth) hf rfl L.sc.co L.sc.gen rfl hcd ?_)
  rw [L.bnd]
  refine wpAny_pure (wpAny_newFunctionEnv_cells L.sc.kind hkind fun env he s1 x => ?_)
  subst he
  refine ⟨lim.keeps x.toInCall.keep, PySem.W.kla_codeExpr ?_⟩
  have J : Inv (cxOf C8.CX0 X.prog X.w X.K X.mg X.base ["name"] q scope f (.ref c') X.A.in1.in1 X.stack s H C8.E0) [] (L2.start ["name"] [.str z]) H s1 := inv_start (ps := ["name"]) (us := [.str z t]) L.sc hr.hd e0 rfl (.cons ⟨t, rfl⟩ .nil) x
  obtain ⟨p1, p2, p3, rfl⟩ := L.bod
  have fin : ∀ t', PySem.W.KeyPure (.str z) s (.str z t') s1 := fun t' => by
    obtain ⟨h', tk, e, kp⟩ := x.done
    subst e
    exact ⟨h', tk, rfl, kp, Reads.str _ _⟩
  have gl : Gl (cxOf C8.CX0 X.prog X.w X.K X.mg X.base ["name"] q scope f (.ref c') X.A.in1.in1 X.stack s H C8.E0) "str" := L.str
  refine wpAny_Call_Name_kw (ld_blt J gl hstr (by rfl) ?_)
  refine PyProof.Rows.callWith_type1 ?_ (by rfl) (by rfl)
  refine Calls.spliced_cons ?_
  obtain ⟨m, hn, hl⟩ := J.loc
  obtain ⟨u, r, l⟩ := hl 0 "name" (.str z) rfl rfl ((L.sc.par "name" (by simp)).elim .inl fun h => .inr (.inl h))
  obtain ⟨t', rfl⟩ := r
  have nxt : wpAny (model X.prog X.w) (X.A.in1.in1.deeper (envOfC q scope s.heap.objs.size f (.ref c'))) (spliced (backTo p3 (starEach [] (envOfC q scope s.heap.objs.size f (.ref c'))))) (fun vs s1 => wpAny (model X.prog X.w) (X.A.in1.in1.deeper (envOfC q scope s.heap.objs.size f (.ref c'))) (call (.type "str") (.str z t' :: vs)) (fun v s' => PySem.W.KeyPure (.str z) s v s') (fun e' s' => wpAny (model X.prog X.w) (X.A.in1.in1.deeper (envOfC q scope s.heap.objs.size f (.ref c'))) (leaving (envOfC q scope s.heap.objs.size f (.ref c')) e') (fun _ s'' => False) (fun e'' s'' => False) s') s1) (fun e' s' => wpAny (model X.prog X.w) (X.A.in1.in1.deeper (envOfC q scope s.heap.objs.size f (.ref c'))) (leaving (envOfC q scope s.heap.objs.size f (.ref c')) e') (fun _ s'' => False) (fun e'' s'' => False) s') s1 :=
    Calls.spliced_nil (PySem.P.str_of_str (fin t'))
  rcases l with ⟨hk, hm⟩ | ⟨hk, c, hc, hcell⟩
  · exact wpAny_Name (wpAny_loadName_local J.ok.kind hk hn hm nxt) (by decide)
  · rcases hk with hk | hk
    · exact wpAny_Name (wpAny_loadName_cell J.ok.kind hk hc hcell nxt) (by decide)
    · exact wpAny_Name (wpAny_loadName_free J.ok.kind hk hc hcell nxt (by decide)) (by decide)

theorem strs_each : ∀ {ss : List Str} {us : List Value}, Vals (ss.map V.str) us → PySem.W.EachIs (fun v (x : Str) => ∃ t, v = .str x t) us ss
  | [], us, r => by
    rw [List.map_nil] at r
    cases r
    exact .nil
  | a :: ss, us, r => by
    rw [List.map_cons] at r
    cases r with
    | cons h t => exact .cons h (strs_each t)
theorem each_vals : ∀ {ss : List Str} {us : List Value}, PySem.W.EachIs (fun v (x : Str) => ∃ t, v = .str x t) us ss → Vals (ss.map V.str) us
  | _, _, .nil => .nil
  | _, _, .cons h t => .cons h (each_vals t)
theorem ord_sorted {ss : List Str} (h : OrdS ss) : ss.mergeSort (PySem.W.dataLe false fun b => .str b) = ss := by
  rw [PySem.W.dataLe_str]
  exact List.mergeSort_of_pairwise h
def tSortLam (T : List (Addr × Str)) (tx : TE) : TE := fun σ H Q => tx σ H fun v H1 => ∃ a ss, v = .ref a ∧ H1 a = some (.lst (ss.map V.str)) ∧ OrdS ss ∧ ss.length ≤ 1000 ∧ Tabs T H1 ∧
  ∀ H2 p, ExtN H1 H2 → Tabs T H2 → H2 p = none → Q (.ref p) (upd H2 p (.lst (ss.map V.str)))
theorem pe_sortLam {T : List (Addr × Str)} {c P : Addr} {params : Arguments} {body e : Expr} {scope : Scope} {lpos kpos p pos : Pos} {tx : TE} {k : Nat} (hg : Gl X "sorted") (hm : X.mg "sorted" = none) (hstr : X.mg "str" = none) (he : PE X e tx) (L : LamT params body scope)
    (TB : TabB X.base X.mg c P) (hcode : X.env.code = .ref c) (hmT : (P, X.env.qual ++ "<lambda>") ∈ T) (hu : ∀ p ∈ T, p.1 = P → p.2 = X.env.qual ++ "<lambda>") (hr : Room (k + 1) X.A) (hdef : defaultsOf params X.env = ([], []))
    (hclo : cloFrom X.env.cells scope.names [] = [])
    (hs0 : starEach [e] X.env = (false, eval e X.env) :: starEach [] X.env := by rfl) (hst : backTo pos (starEach [e] X.env) = (false, eval e X.env) :: backTo pos (starEach [] X.env) := by rfl) (hpl : (backTo pos (starEach [e] X.env)).any (·.1) = false := by rfl) :
    PE X (.Call (.Name "sorted" p) [e] [⟨some "key", .Lambda params body scope lpos, kpos⟩] pos) (tSortLam T tx) := by
  refine ⟨fun pins s σ H Q I h => ?_⟩
  refine wpAny_Call_Name_kw (ld_blt I hg hm (u := .builtin "sorted") (by rfl) ?_)
  refine PyProof.Rows.callWith_kw (e := e) (rest := []) ?_ hst hpl (by rfl) (by rfl)
  refine thn ((pa_cons he pa_nil hs0).run pos pins s σ H (fun vs H1 => match vs with
    | [v] => ∃ a ss, v = V.ref a ∧ H1 a = some (.lst (ss.map V.str)) ∧ OrdS ss ∧ ss.length ≤ 1000 ∧ Tabs T H1 ∧ ∀ H2 p, ExtN H1 H2 → Tabs T H2 → H2 p = none → Q (.ref p) (upd H2 p (.lst (ss.map V.str)))
    | _ => False) I h) fun us s1 ⟨vs, H1, I1, r1, q1⟩ => ?_
  match vs, q1 with
  | [v], q1 =>
    obtain ⟨a, ss, rfl, ha, ho, hlen, hT, q1⟩ := q1
    obtain ⟨u, rfl, rx⟩ := vals1 r1
    cases rx
    show wpAny _ _ (evalAll [(do let v ← eval (.Lambda params body scope lpos) X.env; standAt pos; pure v)]) _ _ s1
    refine wpAny_evalAll_cons (wpAny_bind (lam_make2 I1 TB hcode hmT hu hT hdef (fun y hy e => absurd e (L.sc.nofree y hy)) fun f c' pm ctv H2 s2 I2 eN T2 hf hfn hfr hco => wpAny_bind (wpAny_standAt (wpAny_pure (wpAny_evalAll_nil ?_)))))
    rw [hclo] at hf
    obtain ⟨hz, its, n, rv, hob⟩ := I2.hok a _ (eN _ _ ha (fun ps z => by cases z))
    have hsz := sizeLine_eq
    have hea := strs_each rv
    show wpAny _ _ (call (.builtin "sorted") [.ref a] [(Str.ofString "key", .ref f)]) _ _ s2
    refine PySem.W.sorted_key_data (vs := its) (bs := ss) (R := fun v (x : Str) => ∃ t, v = .str x t) (b := false) (fun x => PyData.str x) ⟨_, hob, rfl, _, rfl⟩ hea ?_ ?_ (by omega) ?_ (PyProof.Rows.ksk_s1 _ _) (fun x => PyProof.Rows.ksk_l1 _ _) (fun x => PyProof.Rows.ksk_t1 _ _) ?_ ?_
    · intro d hd d' hd'
      obtain ⟨x, _, rfl⟩ := List.mem_map.mp hd
      obtain ⟨y, _, rfl⟩ := List.mem_map.mp hd'
      rfl
    · refine Or.inr fun d hd => ?_
      obtain ⟨x, _, rfl⟩ := List.mem_map.mp hd
      exact ⟨(fun z => by cases z), (fun xs z => by cases z)⟩
    · intro x hx
      have := hr.units
      show X.A.units + 2 + (PyData.str x).depth < cLine
      have e0 : (PyData.str x).depth = 0 := rfl
      omega
    · rintro v x ⟨t, rfl⟩ hx h' tk kp
      exact lam_key (I2.kept (t' := tk) kp) L hr (kp _ _ hf) hco hstr
    · intro out c2 h' tk kp hnone hat hl hE
      rw [ord_sorted ho] at hE
      exact ⟨.ref _, upd H2 (s2.heap.objs.size + 1) (.lst (ss.map V.str)), I2.laid (t' := tk) kp (Nat.le_succ _) ⟨hz, out, c2, each_vals hE, hat⟩, rfl, q1 _ _ eN T2 (I2.hok.fresh (Nat.le_succ _))⟩
end
end PN
end
section
set_option maxRecDepth 100000
set_option maxHeartbeats 4000000
namespace PN
open PySem PySem.Spec PyProof.Rows L2 LamX
/-! ### frames: what stands -/
structure FrOk (H1 : Hp) (F : Hp → Hp → Prop) (ok : Addr → Prop) : Prop where
  refl : F H1 H1
  trans : ∀ {H H1 H2}, F H H1 → F H1 H2 → F H H2
  new : ∀ {H} {p : Addr} {o : HO}, F H1 H → H1 p = none → F H1 (upd H p o)
  fz : ∀ {H H'}, F H1 H → F H H' → Fz H H'
  keep : ∀ {H H'} {D : Addr} {xs : List V}, F H H' → ok D → H D = some (.lst xs) → H' D = some (.lst xs)
/-- all but the list at l -/
def SmB (l : Addr) (H H' : Hp) : Prop := ∀ b o, b ≠ l → H b = some o → H' b = some o
theorem SmB.of {l : Addr} {H H' : Hp} (s : Same H H') : SmB l H H' := fun b o _ e => s b o e
theorem SmB.upd {l : Addr} {H : Hp} {o : HO} : SmB l H (upd H l o) := fun b u n e => by rw [upd_ne n]; exact e
theorem FrOk.same {H1 : Hp} : FrOk H1 Same fun _ => True := ⟨Same.refl _, fun a b => a.trans b, fun s h => sm_upn s h, fun _ s => Fz.of s, fun s _ e => s _ _ e⟩
theorem FrOk.extN {H1 : Hp} : FrOk H1 ExtN fun _ => True := ⟨ExtN.refl _, fun a b => a.trans b, fun {H p o} s h b u e n => by rw [upd_ne (ne_of_none e h)]; exact s b u e n,
  fun _ s b o h f => s b o h fun ps e => by subst e; exact f, fun s _ e => s _ _ e fun ps z => by cases z⟩
/-- within H0's own l, a list -/
def SmL (l : Addr) (H H' : Hp) : Prop := SmB l H H' ∧ ((∃ xs, H l = some (.lst xs)) → ∃ xs, H' l = some (.lst xs))
theorem SmL.of {l : Addr} {H H' : Hp} (s : Same H H') : SmL l H H' := ⟨SmB.of s, fun ⟨xs, e⟩ => ⟨xs, s _ _ e⟩⟩
theorem SmL.upd {l : Addr} {H : Hp} {xs : List V} : SmL l H (L2.upd H l (.lst xs)) := ⟨SmB.upd, fun _ => ⟨xs, upd_same⟩⟩
theorem SmL.trans {l : Addr} {H H1 H2 : Hp} (a : SmL l H H1) (b : SmL l H1 H2) : SmL l H H2 := ⟨fun c o n e => b.1 c o n (a.1 c o n e), fun h => b.2 (a.2 h)⟩
theorem SmL.fz {l : Addr} {H H' : Hp} (s : SmL l H H') (h : ∃ xs, H l = some (.lst xs)) : Fz H H' := fun b o e f => s.1 b o (fun z => by
  obtain ⟨xs, h⟩ := h
  rw [z, h] at e
  cases e
  exact f) e
theorem FrOk.smL {H1 : Hp} {l : Addr} (h : ∃ xs, H1 l = some (.lst xs)) : FrOk H1 (SmL l) fun D => D ≠ l := by
  refine ⟨SmL.of (Same.refl _), fun a b => a.trans b, fun {H p o} s hp => ⟨fun b u n e => by rw [upd_ne (ne_of_none e hp)]; exact s.1 b u n e, fun hh => ?_⟩, fun s s' => s'.fz (s.2 h), fun s n e => s.1 _ _ n e⟩
  obtain ⟨xs, e⟩ := h
  rw [upd_ne (ne_of_none e hp)]
  exact s.2 hh
/-! ### a comprehension of any kind -/
theorem lc_any {β : Type} {R : Rp β} (hR : Fzm R) {J : It} {n : Nat} {tt : TT} {te : TE} {g : TG} {vs : List Nat} {σ : L2.St} {H1 : Hp} {D : Addr} {Qd : Hp → Prop} {F : Hp → Hp → Prop} {ok : Addr → Prop} (FO : FrOk H1 F ok) (hD : H1 D = none) (hok : ok D) (hsz : n ≤ 1000)
    (Iv : Nat → List β → Hp → Prop) (iv0 : Iv 0 [] (upd H1 D (.lst []))) (ivD : ∀ i ds H a b, Iv i ds H → H D = some (.lst a) → Iv i ds (upd H D (.lst b)))
    (go : ∀ i ds H, F H1 H → Iv i ds H → i < n → J.go i H) (stop : ∀ ds H, F H1 H → Iv n ds H → J.stop n H)
    (turn : ∀ i ds H x H', i < n → F H1 H → Iv i ds H → J.yld i H x H' → F H H' ∧ ∀ Qg : L2.St → Hp → Prop,
      (∀ σ2, wipe σ2 vs = wipe σ vs → (∀ (Nx0 : Hp → Prop) (kd : VK), (∀ H3, F H' H3 → Iv (i + 1) ds H3 → Nx0 H3) → (∀ v d H4, F H' H4 → R H4 v d → Iv (i + 1) (ds ++ [d]) H4 → kd v H4) →
        tt σ2 H' fun b H3 => if b = true then te σ2 H3 kd else Nx0 H3) → Qg σ2 H') → g x (wipe σ vs) H' Qg)
    (done : ∀ H acc ds, F H1 H → H D = some (.lst acc) → Al R H acc ds → Iv n ds H → Qd H) :
    ∃ W : Nat → Nat → Hp → Prop, (∃ m, W 0 m (upd H1 D (.lst []))) ∧ ∀ i m H, W i m H →
      (J.stop i H ∧ Qd H) ∨ (J.go i H ∧ ∃ Nx : Hp → Prop, (∀ H', Nx H' → ∃ m', m' < m ∧ W (i + 1) m' H') ∧ ∀ x H', J.yld i H x H' → g x (wipe σ vs) H' fun σ2 H2 => wipe σ2 vs = wipe σ vs ∧ tt σ2 H2 fun b H3 =>
        if b = true then te σ2 H3 fun y H4 => ∃ acc, H4 D = some (.lst acc) ∧ acc.length < sizeLine ∧ Nx (upd H4 D (.lst (acc ++ [y]))) else Nx H3) := by
  refine ⟨fun i m H => m = n - i ∧ i ≤ n ∧ F H1 H ∧ ∃ acc ds, H D = some (.lst acc) ∧ Al R H acc ds ∧ ds.length ≤ i ∧ Iv i ds H, ⟨n, rfl, Nat.zero_le _, FO.new FO.refl hD, [], [], upd_same, Al.nil, Nat.le_refl _, iv0⟩, ?_⟩
  rintro i m H ⟨rfl, hi, sm, acc, ds, hacc, al, hlen, iv⟩
  by_cases hlt : i < n
  · refine .inr ⟨go i ds H sm iv hlt, fun H' => ∃ m', m' < n - i ∧ (m' = n - (i + 1) ∧ i + 1 ≤ n ∧ F H1 H' ∧ ∃ acc ds, H' D = some (.lst acc) ∧ Al R H' acc ds ∧ ds.length ≤ i + 1 ∧ Iv (i + 1) ds H'), fun H' h => h, fun x H' y => ?_⟩
    obtain ⟨s1, tn⟩ := turn i ds H x H' hlt sm iv y
    refine tn _ fun σ2 hw ht => ⟨hw, ?_⟩
    refine ht _ _ (fun H3 s3 iv3 => ⟨n - (i + 1), by omega, rfl, hlt, FO.trans (FO.trans sm s1) s3, acc, ds, FO.keep (FO.trans s1 s3) hok hacc, al.mono hR (FO.fz sm (FO.trans s1 s3)), by omega, iv3⟩) fun v d H4 s4 r iv4 => ?_
    have hacc4 := FO.keep (FO.trans s1 s4) hok hacc
    have fz : Fz H4 (upd H4 D (.lst (acc ++ [v]))) := Fz.lst hacc4
    refine ⟨acc, hacc4, ?_, n - (i + 1), by omega, rfl, hlt, FO.new (FO.trans (FO.trans sm s1) s4) hD, acc ++ [v], ds ++ [d], upd_same, (al.mono hR ((FO.fz sm (FO.trans s1 s4)).trans fz)).app (Al.one (hR _ _ _ _ fz r)), ?_, ivD _ _ _ _ _ iv4 hacc4⟩
    · have e := al.1
      exact small1000 (by omega)
    · rw [List.length_append, List.length_singleton]; omega
  · have e : i = n := by omega
    subst e
    exact .inl ⟨stop ds H sm iv, done H acc ds sm hacc al iv⟩
end PN
end
section
set_option maxRecDepth 100000
set_option maxHeartbeats 4000000
namespace PN
open PySem PySem.Spec PyProof.Rows L2
open LamX
/-! ### the law's own tape -/
theorem mod_nat {i : Int} {m : Nat} (hm : 0 < m) {Q : V → Prop} (k : ∀ r : Nat, r < m → Q (.int (r : Int))) : Q (.int (i % (m : Int))) := by
  have h1 : 0 ≤ i % (m : Int) := Int.emod_nonneg _ (by omega)
  have h2 : i % (m : Int) < (m : Int) := Int.emod_lt_of_pos _ (by omega)
  have e : i % (m : Int) = ((i % (m : Int)).toNat : Int) := by omega
  rw [e]
  exact k _ (by omega)
section
variable {P : Program} {w : World} {K : PySem.W.Frag} {mg : Str → Option Value} {base : Heap}

def spTape (K : PySem.W.Frag) : Sp := fun vs H Q _ => ∃ (a : Addr) (ns : List Int), vs = [.ref a] ∧ SqL K H a (ns.map V.int) ∧ ns.length ≤ 63 ∧ ∀ H' L (ts : List Int), Same H H' → H' L = some (.lst (ts.map V.int)) → H L = none → Q (.ref L) H'
theorem small1000' {n : Nat} (h : n ≤ 5000) : n < sizeLine := by rw [sizeLine_eq]; omega
theorem tape_app {ts : List Int} {x : Int} : ts.map V.int ++ [V.int x] = (ts ++ [x]).map V.int := by rw [List.map_append]; rfl
theorem sc__law_tape : FnScope ["_law_script", "_law_tape_here", "_law_cell", "_law_number_here", "_law_k", "_law_first"] ["_law_script"] (defScope sLTape) := ⟨rfl, rfl, rfl, by decide +kernel, rfl, by decide +kernel, by decide +kernel⟩
theorem ok__law_tape (T : TX w K mg) : C8.Cal P w K mg base 1 "_law_tape" (spTape K) [] := by
  refine cal1 (d__law_tape T) (g__law_tape T) (ps := ["_law_script"]) (fun _ _ _ _ _ _ us hl => match us, hl with | [_], _ => rfl) sc__law_tape (fun vs H Q E h => ?_) (fun cdv A outr s H vs Q E hr h => ?_)
  · obtain ⟨a, ns, rfl, _⟩ := h
    rfl
  · obtain ⟨a, ns, rfl, hq, hl, k⟩ := h
    refine ⟨_, (pss_cons (ps_set (i := 1) sc__law_tape.nd rfl (Or.inl rfl) (pe_lst pa_nil))
      (pss_cons (ps_for PassesOwn.never rfl (pi_listK (K := K) (pv 0)) (pg_name (i := 2) sc__law_tape.nd rfl (Or.inl rfl)) (pss_cons (ps_set (i := 3) sc__law_tape.nd rfl (Or.inl rfl) (pe_op op_mul pe_int (pe_callTy call_int1 (by rfl) (n_int T) (by decide +kernel) (pa_cons (pv 2) pa_nil))))
      (pss_cons (ps_if (pt_cmpR op_lt (pv 3) pe_int (nomark _)) (pss_one (ps_set (i := 3) sc__law_tape.nd rfl (Or.inl rfl) (pe_op op_sub (pe_un un_neg pe_int) (pv 3)))) pss_nil)
      (pss_one (ps_if (pt_cmpR op_ge (pv 3) (pe_op op_pow pe_int pe_int) (nomark _)) (pss_one (ps_for PassesOwn.never rfl (pi_range1 rfl (n_range T) (pa_cons pe_int pa_nil)) (pg_name (i := 4) sc__law_tape.nd rfl (Or.inl rfl)) (pss_one (ps_if (pt_cmpR op_gt (pv 3) pe_int (nomark _)) (pss_cons (ps_expr (pe_bm PySem.F.plainAttrs_list PySem.F.slot_list_append PySem.F.type_list_append mt_append (pv 1) (pa_cons (pe_op op_mod (pe_callTy call_int1 (by rfl) (n_int T) (by decide +kernel) (pa_cons (pv 3) pa_nil)) pe_int) pa_nil)))
      (pss_one (ps_set (i := 3) sc__law_tape.nd rfl (Or.inl rfl) (pe_op op_fdiv (pv 3) pe_int)))) pss_nil)))) (pss_one (ps_for PassesOwn.never rfl (pi_range1 rfl (n_range T) (pa_cons pe_int pa_nil)) (pg_name (i := 4) sc__law_tape.nd rfl (Or.inl rfl)) (pss_cons (ps_set (i := 5) sc__law_tape.nd rfl (Or.inl rfl) (pe_op op_mod (pe_callTy call_int1 (by rfl) (n_int T) (by decide +kernel) (pa_cons (pe_op op_add (pe_op op_add (pe_op op_mul (pv 3) pe_int) (pe_op op_mul (pv 4) pe_int)) pe_int) pa_nil)) pe_int))
      (pss_one (ps_expr (pe_bm PySem.F.plainAttrs_list PySem.F.slot_list_append PySem.F.type_list_append mt_append (pv 1) (pa_cons (pe_op op_mod (pe_callTy call_int1 (by rfl) (n_int T) (by decide +kernel) (pa_cons (pe_op op_add (pe_op op_mul (pv 5) pe_int) (pe_op op_fdiv (pv 5) pe_int)) pa_nil)) pe_int) pa_nil))))))))))))
      (pss_one (ps_ret (pv 1))))), ?_⟩
    have ln : (ns.map V.int).length = ns.length := List.length_map ..
    refine ⟨Nat.zero_le _, fun L hL => ?_⟩
    have s0 : Same H (upd H L (.lst [])) := sm_upd hL
    refine ⟨_, rfl, a, rfl, ⟨_, SqL.ext hq s0⟩, ?_⟩
    refine for_list (K := K) (a := a) (xs := ns.map V.int) (fun i σ H' => ∃ (v2 v3 v4 v5 : Option V) (ts : List Int), σ = [some (.ref a), some (.ref L), v2, v3, v4, v5] ∧ Same H H' ∧ H' L = some (.lst (ts.map V.int)) ∧ ts.length ≤ 40 * i) ⟨none, none, none, none, [], rfl, s0, upd_same, Nat.le_refl _⟩ (fun i σ H' _ ⟨_, _, _, _, _, _, s', _⟩ => SqL.ext hq s') ?_ ?_
    · rintro i x σ H' hx ⟨v2, v3, v4, v5, ts, rfl, s', hts, hlt⟩
      have hi : i < ns.length := by have := (List.getElem?_eq_some_iff.mp hx).1; omega
      rw [List.getElem?_map] at hx
      cases en : ns[i]? with
      | none => rw [en] at hx; cases hx
      | some n =>
      rw [en] at hx
      cases hx
      refine ⟨_, rfl, .inl ⟨n, rfl, _, _, rfl, rfl, .inl ⟨by decide, by decide⟩, ?_⟩⟩
      refine ⟨_, rfl, _, _, rfl, rfl, _, rfl, ?_⟩
      refine ite2 (fun _ => ⟨1, rfl, _, rfl, _, _, rfl, rfl, ?_⟩) (fun _ => ?_)
      · refine ⟨_, rfl, _, _, rfl, rfl, ⟨by decide, by decide, by decide⟩, _, _, rfl, rfl, _, rfl, ?_⟩
        refine ite2 (fun _ => ?_) (fun _ => ?_)
        · refine ⟨_, rfl, by decide, by decide, ?_⟩
          refine for_range (lo := 0) (n := (40 : Int).toNat) (fun j σ H' => ∃ (m : Int) (v4 v5 : Option V) (ts : List Int), σ = [some (.ref a), some (.ref L), some (.int n), some (.int m), v4, v5] ∧ Same H H' ∧ H' L = some (.lst (ts.map V.int)) ∧ ts.length ≤ 40 * i + j) ⟨_, v4, v5, ts, rfl, s', hts, by omega⟩ ?_ ?_
          · rintro j σ H'' hj ⟨m, v4, v5, ts, rfl, s', hts, hlt⟩
            have hj2 : j < 40 := hj
            refine ⟨_, rfl, _, _, rfl, rfl, _, rfl, ?_⟩
            refine ite2 (fun _ => ?_) (fun _ => ?_)
            · refine ⟨_, rfl, .inl ⟨rfl, _, SqL.of hts⟩, _, rfl, .inl ⟨m, rfl, _, _, rfl, rfl, (by show (0 : Int) < _; decide), L, _, _, rfl, rfl, hts, small1000' (by rw [List.length_map]; omega), ?_⟩⟩
              refine ⟨_, rfl, _, _, rfl, rfl, ⟨by decide, by decide⟩, ?_⟩
              rw [tape_app]
              exact ⟨_, _, _, ts ++ [m % 1000], rfl, sm_upn s' hL, upd_same, by rw [List.length_append, List.length_singleton]; omega⟩
            · exact ⟨m, _, v5, ts, rfl, s', hts, by omega⟩
          · rintro σ H'' ⟨m, v4, v5, ts, rfl, s', hts, hlt⟩
            exact ⟨_, _, _, _, ts, rfl, s', hts, hlt⟩
        · refine ⟨_, rfl, by decide, by decide, ?_⟩
          refine for_range (lo := 0) (n := (3 : Int).toNat) (fun j σ H' => ∃ (m : Int) (v4 v5 : Option V) (ts : List Int), σ = [some (.ref a), some (.ref L), some (.int n), some (.int m), v4, v5] ∧ Same H H' ∧ H' L = some (.lst (ts.map V.int)) ∧ ts.length ≤ 40 * i + j) ⟨_, v4, v5, ts, rfl, s', hts, by omega⟩ ?_ ?_
          · rintro j σ H'' hj ⟨m, v4, v5, ts, rfl, s', hts, hlt⟩
            have hj2 : j < 3 := hj
            refine ⟨_, rfl, _, _, rfl, rfl, .inr ⟨by decide, by decide⟩, _, rfl, _, _, rfl, rfl, .inr ⟨by decide, by decide⟩, _, _, rfl, rfl, _, _, rfl, rfl, ?_⟩
            refine .inl ⟨_, rfl, _, _, rfl, rfl, (by show (0 : Int) < _; decide), ?_⟩
            refine ⟨_, rfl, .inl ⟨rfl, _, SqL.of hts⟩, _, rfl, _, _, rfl, rfl, .inr ⟨by decide, by decide⟩, _, rfl, _, _, rfl, rfl, ⟨by decide, by decide⟩, _, _, rfl, rfl, .inl ⟨_, rfl, _, _, rfl, rfl, (by show (0 : Int) < _; decide), L, _, _, rfl, rfl, hts, small1000' (by rw [List.length_map]; omega), ?_⟩⟩
            rw [tape_app]
            exact ⟨_, _, _, ts ++ [_], rfl, sm_upn s' hL, upd_same, by rw [List.length_append, List.length_singleton]; omega⟩
          · rintro σ H'' ⟨m, v4, v5, ts, rfl, s', hts, hlt⟩
            have e3 : ((3 : Int)).toNat = 3 := rfl
            exact ⟨_, _, _, _, ts, rfl, s', hts, by omega⟩
      · refine ⟨_, rfl, _, _, rfl, rfl, ⟨by decide, by decide, by decide⟩, _, _, rfl, rfl, _, rfl, ?_⟩
        refine ite2 (fun _ => ?_) (fun _ => ?_)
        · refine ⟨_, rfl, by decide, by decide, ?_⟩
          refine for_range (lo := 0) (n := (40 : Int).toNat) (fun j σ H' => ∃ (m : Int) (v4 v5 : Option V) (ts : List Int), σ = [some (.ref a), some (.ref L), some (.int n), some (.int m), v4, v5] ∧ Same H H' ∧ H' L = some (.lst (ts.map V.int)) ∧ ts.length ≤ 40 * i + j) ⟨_, v4, v5, ts, rfl, s', hts, by omega⟩ ?_ ?_
          · rintro j σ H'' hj ⟨m, v4, v5, ts, rfl, s', hts, hlt⟩
            have hj2 : j < 40 := hj
            refine ⟨_, rfl, _, _, rfl, rfl, _, rfl, ?_⟩
            refine ite2 (fun _ => ?_) (fun _ => ?_)
            · refine ⟨_, rfl, .inl ⟨rfl, _, SqL.of hts⟩, _, rfl, .inl ⟨m, rfl, _, _, rfl, rfl, (by show (0 : Int) < _; decide), L, _, _, rfl, rfl, hts, small1000' (by rw [List.length_map]; omega), ?_⟩⟩
              refine ⟨_, rfl, _, _, rfl, rfl, ⟨by decide, by decide⟩, ?_⟩
              rw [tape_app]
              exact ⟨_, _, _, ts ++ [m % 1000], rfl, sm_upn s' hL, upd_same, by rw [List.length_append, List.length_singleton]; omega⟩
            · exact ⟨m, _, v5, ts, rfl, s', hts, by omega⟩
          · rintro σ H'' ⟨m, v4, v5, ts, rfl, s', hts, hlt⟩
            exact ⟨_, _, _, _, ts, rfl, s', hts, hlt⟩
        · refine ⟨_, rfl, by decide, by decide, ?_⟩
          refine for_range (lo := 0) (n := (3 : Int).toNat) (fun j σ H' => ∃ (m : Int) (v4 v5 : Option V) (ts : List Int), σ = [some (.ref a), some (.ref L), some (.int n), some (.int m), v4, v5] ∧ Same H H' ∧ H' L = some (.lst (ts.map V.int)) ∧ ts.length ≤ 40 * i + j) ⟨_, v4, v5, ts, rfl, s', hts, by omega⟩ ?_ ?_
          · rintro j σ H'' hj ⟨m, v4, v5, ts, rfl, s', hts, hlt⟩
            have hj2 : j < 3 := hj
            refine ⟨_, rfl, _, _, rfl, rfl, .inr ⟨by decide, by decide⟩, _, rfl, _, _, rfl, rfl, .inr ⟨by decide, by decide⟩, _, _, rfl, rfl, _, _, rfl, rfl, ?_⟩
            refine .inl ⟨_, rfl, _, _, rfl, rfl, (by show (0 : Int) < _; decide), ?_⟩
            refine ⟨_, rfl, .inl ⟨rfl, _, SqL.of hts⟩, _, rfl, _, _, rfl, rfl, .inr ⟨by decide, by decide⟩, _, rfl, _, _, rfl, rfl, ⟨by decide, by decide⟩, _, _, rfl, rfl, .inl ⟨_, rfl, _, _, rfl, rfl, (by show (0 : Int) < _; decide), L, _, _, rfl, rfl, hts, small1000' (by rw [List.length_map]; omega), ?_⟩⟩
            rw [tape_app]
            exact ⟨_, _, _, ts ++ [_], rfl, sm_upn s' hL, upd_same, by rw [List.length_append, List.length_singleton]; omega⟩
          · rintro σ H'' ⟨m, v4, v5, ts, rfl, s', hts, hlt⟩
            have e3 : ((3 : Int)).toNat = 3 := rfl
            exact ⟨_, _, _, _, ts, rfl, s', hts, by omega⟩
    · rintro σ H' ⟨v2, v3, v4, v5, ts, rfl, s', hts, hlt⟩
      exact ⟨_, rfl, k _ _ ts s' hts hL⟩

def spDraw : Sp := fun vs H Q _ => ∃ (tl : Addr) (ts : List Int) (c m : Nat), vs = [.ref tl, .int (c : Int), .int (m : Int)] ∧ H tl = some (.lst (ts.map V.int)) ∧ c ≤ 100000 ∧ 0 < m ∧ ∀ r : Nat, r < m → Q (.int (r : Int)) H
theorem ints_at {ns : List Int} {i : Nat} (h : i < ns.length) : ∃ n, (ns.map V.int)[i]? = some (.int n) := ⟨ns[i], by rw [List.getElem?_map, List.getElem?_eq_getElem h]; rfl⟩
theorem sc__law_draw : FnScope ["_law_tape_here", "_law_at", "_law_many", "_law_number_here"] ["_law_tape_here", "_law_at", "_law_many"] (defScope sLDraw) := ⟨rfl, rfl, rfl, by decide +kernel, rfl, by decide +kernel, by decide +kernel⟩
theorem ok__law_draw (T : TX w K mg) : C8.Cal P w K mg base 1 "_law_draw" (spDraw) [] := by
  refine cal1 (d__law_draw T) (g__law_draw T) (ps := ["_law_tape_here", "_law_at", "_law_many"]) (fun _ _ _ _ _ _ us hl => match us, hl with | [_, _, _], _ => rfl) sc__law_draw (fun vs H Q E h => ?_) (fun cdv A outr s H vs Q E hr h => ?_)
  · obtain ⟨tl, ts, c, m, rfl, _⟩ := h
    rfl
  · obtain ⟨tl, ts, c, m, rfl, htl, hc, hm, k⟩ := h
    refine ⟨_, (pss_cons (ps_if (pt_cmpR op_lt (pv 1) (pe_callB call_len_seq (by rfl) (n_len T) PySem.boot_len (pa_cons (pv 0) pa_nil)) (nomark _)) (pss_one (ps_ret (pe_op op_mod (pe_callTy call_int1 (by rfl) (n_int T) (by decide +kernel) (pa_cons (pe_ixLK (K := K) (pv 0) (pv 1) (fun _ _ => rfl)) pa_nil)) (pv 2)))) pss_nil)
      (pss_cons (ps_set (i := 3) sc__law_draw.nd rfl (Or.inl rfl) pe_int)
      (pss_cons (ps_if (pt_cmpR op_gt (pe_callB call_len_seq (by rfl) (n_len T) PySem.boot_len (pa_cons (pv 0) pa_nil)) pe_int (nomark _)) (pss_one (ps_set (i := 3) sc__law_draw.nd rfl (Or.inl rfl) (pe_ixLK (K := K) (pv 0) (pe_op op_mod (pe_callTy call_int1 (by rfl) (n_int T) (by decide +kernel) (pa_cons (pv 1) pa_nil)) (pe_callB call_len_seq (by rfl) (n_len T) PySem.boot_len (pa_cons (pv 0) pa_nil))) (fun _ _ => rfl)))) pss_nil)
      (pss_one (ps_ret (pe_op op_mod (pe_op op_mod (pe_callTy call_int1 (by rfl) (n_int T) (by decide +kernel) (pa_cons (pe_op op_add (pe_op op_mul (pe_op op_mul (pe_op op_add (pv 3) (pv 1)) (pe_op op_add (pv 1) pe_int)) pe_int) (pe_op op_mul (pv 1) pe_int)) pa_nil)) pe_int) (pv 2))))))), ?_⟩
    have lt : (ts.map V.int).length = ts.length := List.length_map ..
    refine ⟨_, rfl, _, rfl, tl, _, rfl, .inl (SqL.of htl), _, _, rfl, rfl, _, rfl, ?_⟩
    rw [lt]
    refine ite2 (fun h => ?_) (fun h => ?_)
    · have h' : c < ts.length := by have := of_decide_eq_true h; omega
      obtain ⟨n, en⟩ := ints_at h'
      refine ⟨_, rfl, _, rfl, tl, _, _, _, rfl, rfl, SqL.of htl, atI_nat en, .inl ⟨n, rfl, _, rfl, _, _, rfl, rfl, (by show (0 : Int) < _; omega), ?_⟩⟩
      exact mod_nat hm (Q := fun z => Q z H) k
    · refine ⟨_, rfl, tl, _, rfl, .inl (SqL.of htl), _, _, rfl, rfl, _, rfl, ?_⟩
      rw [lt]
      have cm1 : CMul ((c : Int) + 3) 7919 := .inr ⟨by decide, by decide⟩
      refine ite2 (fun h2 => ?_) (fun h2 => ?_)
      · have hp : 0 < ts.length := by have := of_decide_eq_true h2; omega
        refine ⟨_, rfl, _, rfl, .inl ⟨_, rfl, _, rfl, tl, _, rfl, .inl (SqL.of htl), _, _, rfl, rfl, (by show (0 : Int) < _; rw [lt]; omega), ?_⟩⟩
        rw [lt]
        obtain ⟨n, en⟩ := ints_at (ns := ts) (i := c % ts.length) (Nat.mod_lt _ hp)
        have en2 : atI (ts.map V.int) ((c : Int) % (ts.length : Int)) = some (.int n) := by
          rw [← Int.natCast_emod]; exact atI_nat en
        refine ⟨tl, _, _, _, rfl, rfl, SqL.of htl, en2, ?_⟩
        refine ⟨_, rfl, _, rfl, _, _, rfl, rfl, _, rfl, _, _, rfl, rfl, _, _, rfl, rfl, .inr ⟨by omega, by omega⟩, _, _, rfl, rfl, .inr ⟨by decide, by decide⟩, _, rfl, _, _, rfl, rfl, .inr ⟨by decide, by decide⟩, _, _, rfl, rfl, ?_⟩
        refine .inl ⟨_, rfl, _, _, rfl, rfl, (by show (0 : Int) < _; decide), _, rfl, _, _, rfl, rfl, (by show (0 : Int) < _; omega), ?_⟩
        exact mod_nat hm (Q := fun z => Q z H) k
      · refine ⟨_, rfl, _, rfl, _, _, rfl, rfl, _, rfl, _, _, rfl, rfl, _, _, rfl, rfl, .inr ⟨by omega, by omega⟩, _, _, rfl, rfl, .inr ⟨by decide, by decide⟩, _, rfl, _, _, rfl, rfl, .inr ⟨by decide, by decide⟩, _, _, rfl, rfl, ?_⟩
        refine .inl ⟨_, rfl, _, _, rfl, rfl, (by show (0 : Int) < _; decide), _, rfl, _, _, rfl, rfl, (by show (0 : Int) < _; omega), ?_⟩
        exact mod_nat hm (Q := fun z => Q z H) k

/-- the law's state: tape and counter -/
def St (H : Hp) (l tl : Addr) (c : Nat) : Prop := ∃ (ts : List Int), tl ≠ l ∧ H l = some (.lst [.ref tl, .int (c : Int)]) ∧ H tl = some (.lst (ts.map V.int))
theorem St.same {H H' : Hp} {l tl : Addr} {c : Nat} (h : St H l tl c) (s : Same H H') : St H' l tl c := by
  obtain ⟨ts, n, h1, h2⟩ := h
  exact ⟨ts, n, s _ _ h1, s _ _ h2⟩
theorem St.lst {H : Hp} {l tl : Addr} {c : Nat} (h : St H l tl c) : ∃ xs, H l = some (.lst xs) := by
  obtain ⟨ts, n, h1, h2⟩ := h
  exact ⟨_, h1⟩
theorem St.updD {H : Hp} {l tl D : Addr} {c : Nat} {o : HO} (h : St H l tl c) (n1 : l ≠ D) (n2 : tl ≠ D) : St (upd H D o) l tl c := by
  obtain ⟨ts, n, h1, h2⟩ := h
  exact ⟨ts, n, by rw [upd_ne n1]; exact h1, by rw [upd_ne n2]; exact h2⟩
theorem St.some2 {H : Hp} {l tl : Addr} {c : Nat} (h : St H l tl c) : ∃ xs, H tl = some (.lst xs) := by
  obtain ⟨ts, n, h1, h2⟩ := h
  exact ⟨_, h2⟩
def spTake : Sp := fun vs H Q _ => ∃ (l tl : Addr) (c m : Nat), vs = [.ref l, .int (m : Int)] ∧ St H l tl c ∧ c < 100000 ∧ 0 < m ∧ ∀ (r : Nat) H', r < m → SmL l H H' → St H' l tl (c + 1) → Q (.int (r : Int)) H'
theorem sc__law_take : FnScope ["_law_state", "_law_many"] ["_law_state", "_law_many"] (defScope sLTake) := ⟨rfl, rfl, rfl, by decide +kernel, rfl, by decide +kernel, by decide +kernel⟩
theorem ok__law_take (T : TX w K mg) : C8.Cal P w K mg base 2 "_law_take" (spTake) [] := by
  refine cal1 (d__law_take T) (g__law_take T) (ps := ["_law_state", "_law_many"]) (fun _ _ _ _ _ _ us hl => match us, hl with | [_, _], _ => rfl) sc__law_take (fun vs H Q E h => ?_) (fun cdv A outr s H vs Q E hr h => ?_)
  · obtain ⟨l, tl, c, m, rfl, _⟩ := h
    rfl
  · obtain ⟨l, tl, c, m, rfl, ⟨ts, ntl, hl, htl⟩, hc, hm, k⟩ := h
    refine ⟨_, (pss_cons (ps_asg (pe_op op_add (pe_ixLK (K := K) (pv 0) pe_int (fun _ _ => rfl)) pe_int) (pg_sub (pv 0) pe_int set_list))
      (pss_one (ps_ret (C8.pe_c (j := 1) (ok__law_draw T) hr (by decide) rfl (pa_cons (pe_ixLK (K := K) (pv 0) pe_int (fun _ _ => rfl)) (pa_cons (pe_ixLK (K := K) (pv 0) pe_int (fun _ _ => rfl)) (pa_cons (pv 1) pa_nil))))))), ?_⟩
    refine ⟨_, rfl, l, _, _, _, rfl, rfl, SqL.of hl, at_of (j := 1) rfl rfl, _, _, rfl, rfl, _, rfl, l, _, _, 1, rfl, rfl, hl, (by show ixN 2 1 = some 1; decide), ?_⟩
    have hl2 : upd H l (.lst ([V.ref tl, .int (c : Int)].set 1 (.int ((c : Int) + 1)))) l = some (.lst [.ref tl, .int ((c : Int) + 1)]) := upd_same
    have hs : SmL l H (upd H l (.lst ([V.ref tl, .int (c : Int)].set 1 (.int ((c : Int) + 1))))) := SmL.upd
    have ht : upd H l (.lst ([V.ref tl, .int (c : Int)].set 1 (.int ((c : Int) + 1)))) tl = some (.lst (ts.map V.int)) := by rw [upd_ne ntl]; exact htl
    refine ⟨_, rfl, l, _, _, _, rfl, rfl, SqL.of hl2, at_of (j := 0) rfl rfl, _, rfl, l, _, _, _, rfl, rfl, SqL.of hl2, at_of (j := 1) rfl rfl, _, rfl, tl, ts, c + 1, m, by rw [show (((c + 1 : Nat)) : Int) = (c : Int) + 1 by omega]; rfl, ht, by omega, hm, fun r hr => ?_⟩
    exact k r _ hr hs ⟨ts, ntl, hl2, ht⟩

/-- Euclid, by steps -/
def cm : Nat → Nat → Nat → Nat
  | 0, x, _ => x
  | n + 1, x, y => if y = 0 then x else cm n y (x % y)
def bitsN (y : Nat) : Nat := Builtin.Int.intBits (y : Int)
def spCommon : Sp := fun vs H Q _ => ∃ (x y : Nat), vs = [.int (x : Int), .int (y : Int)] ∧ bitsN y ≤ 1000 ∧ Q (.int (cm (2 * bitsN y + 3) x y : Nat)) H
theorem sc__law_common : FnScope ["_law_one", "_law_other", "_law_k", "_law_rest"] ["_law_one", "_law_other"] (defScope sLCommon) := ⟨rfl, rfl, rfl, by decide +kernel, rfl, by decide +kernel, by decide +kernel⟩
theorem ok__law_common (T : TX w K mg) : C8.Cal P w K mg base 1 "_law_common" (spCommon) [] := by
  refine cal1 (d__law_common T) (g__law_common T) (ps := ["_law_one", "_law_other"]) (fun _ _ _ _ _ _ us hl => match us, hl with | [_, _], _ => rfl) sc__law_common (fun vs H Q E h => ?_) (fun cdv A outr s H vs Q E hr h => ?_)
  · obtain ⟨x, y, rfl, _⟩ := h
    rfl
  · obtain ⟨x, y, rfl, hb, k⟩ := h
    refine ⟨_, (pss_cons (ps_for PassesOwn.never rfl (pi_range1 rfl (n_range T) (pa_cons (pe_op op_add (pe_op op_mul pe_int (pe_bits (pv 1))) pe_int) pa_nil)) (pg_name (i := 2) sc__law_common.nd rfl (Or.inl rfl)) (pss_cons (ps_if (pt_cmpR op_eq (pv 1) pe_int (nomark _)) (pss_one ps_break) pss_nil)
      (pss_cons (ps_set (i := 3) sc__law_common.nd rfl (Or.inl rfl) (pe_op op_mod (pe_callTy call_int1 (by rfl) (n_int T) (by decide +kernel) (pa_cons (pv 0) pa_nil)) (pv 1)))
      (pss_cons (ps_set (i := 0) sc__law_common.nd rfl (Or.inl rfl) (pv 1))
      (pss_one (ps_set (i := 1) sc__law_common.nd rfl (Or.inl rfl) (pv 3)))))))
      (pss_one (ps_ret (pv 0)))), ?_⟩
    have hb2 : Builtin.Int.intBits (y : Int) ≤ 1000 := hb
    have en : ((2 : Int) * (Builtin.Int.intBits (y : Int) : Nat) + 3).toNat = 2 * bitsN y + 3 := by unfold bitsN; omega
    refine ⟨_, rfl, _, rfl, _, _, rfl, rfl, .inl ⟨by decide, by decide⟩, _, _, rfl, rfl, _, rfl, by omega, by omega, ?_⟩
    rw [en]
    refine for_range (lo := 0) (n := 2 * bitsN y + 3) (fun i σ H' => ∃ (a b : Nat) (v2 v3 : Option V), σ = [some (.int (a : Int)), some (.int (b : Int)), v2, v3] ∧ H' = H ∧ cm (2 * bitsN y + 3 - i) a b = cm (2 * bitsN y + 3) x y) ⟨x, y, none, none, rfl, rfl, rfl⟩ ?_ ?_
    · rintro i σ H' hi ⟨a, b, v2, v3, rfl, rfl, e⟩
      have es : 2 * bitsN y + 3 - i = (2 * bitsN y + 3 - (i + 1)) + 1 := by omega
      rw [es] at e
      refine ⟨_, rfl, rfl, _, rfl, ?_⟩
      refine ite2 (fun h0 => ?_) (fun h0 => ?_)
      · have hb0 : b = 0 := by have := of_decide_eq_true h0; injection this with this; omega
        rw [hb0] at e
        have e2 : a = cm (2 * bitsN y + 3) x y := by rw [← e]; exact (if_pos rfl).symm
        refine ⟨_, rfl, ?_⟩
        rw [e2]
        exact k
      · have hb0 : b ≠ 0 := fun z => h0 (decide_eq_true (by rw [z]; rfl))
        refine ⟨_, rfl, .inl ⟨_, rfl, _, rfl, _, _, rfl, rfl, (by show (0 : Int) < _; omega), _, rfl, _, rfl, ?_⟩⟩
        refine ⟨b, a % b, _, _, by rw [Int.natCast_emod]; rfl, rfl, ?_⟩
        rw [← e]
        exact (if_neg hb0).symm
    · rintro σ H' ⟨a, b, v2, v3, rfl, rfl, e⟩
      have e0 : 2 * bitsN y + 3 - (2 * bitsN y + 3) = 0 := by omega
      rw [e0] at e
      have e2 : a = cm (2 * bitsN y + 3) x y := e
      refine ⟨_, rfl, ?_⟩
      rw [e2]
      exact k

def IsPr : Rp (Int × Int) := fun H v d => ∃ b, v = .ref b ∧ H b = some (.tup [.int d.1, .int d.2])
theorem IsPr.fz : Fzm IsPr := fun _ _ _ _ f ⟨b, e, h⟩ => ⟨b, e, f _ _ h trivial⟩
def PrOk (d : Int × Int) : Prop := -6 ≤ d.1 ∧ d.1 ≤ 6 ∧ 1 ≤ d.2 ∧ d.2 ≤ 3
def gG (t : Int) (b : Nat) : Nat := cm (2 * bitsN b + 3) t.natAbs b
def pairOf (t : Int) (b : Nat) : Int × Int := (t.fdiv (gG t b), (b : Int).fdiv (gG t b))
theorem pair_facts : ∀ b ∈ [1, 2, 3], ∀ i ∈ List.range 13, bitsN b ≤ 1000 ∧ gG ((i : Int) - 6) b ≠ 0 ∧ gG ((i : Int) - 6) b < 1000 ∧ PrOk (pairOf ((i : Int) - 6) b) ∧ (b ≤ 2 → (pairOf ((i : Int) - 6) b).2 ≤ 2) ∧ (6 < i → 1 ≤ (pairOf ((i : Int) - 6) b).1) := by
  unfold PrOk
  decide +kernel
theorem pair_all {t : Int} {b : Nat} (h1 : -6 ≤ t) (h2 : t ≤ 6) (h3 : 1 ≤ b) (h4 : b ≤ 3) : bitsN b ≤ 1000 ∧ gG t b ≠ 0 ∧ gG t b < 1000 ∧ PrOk (pairOf t b) ∧ (b ≤ 2 → (pairOf t b).2 ≤ 2) ∧ (0 < t → 1 ≤ (pairOf t b).1) := by
  have e : t = (((t + 6).toNat : Nat) : Int) - 6 := by omega
  have hb : b ∈ [1, 2, 3] := by
    rcases (by omega : b = 1 ∨ b = 2 ∨ b = 3) with e | e | e <;> subst e <;> decide
  obtain ⟨a1, a2, a3, a4, a5, a6⟩ := pair_facts b hb (t + 6).toNat (List.mem_range.mpr (by omega))
  rw [← e] at a2 a3 a4 a5 a6
  exact ⟨a1, a2, a3, a4, a5, fun h => a6 (by omega)⟩
def spPair : Sp := fun vs H Q _ => ∃ (t : Int) (b : Nat), vs = [.int t, .int (b : Int)] ∧ (-6 ≤ t ∧ t ≤ 6 ∧ 1 ≤ b ∧ b ≤ 3) ∧ ∀ H' z d, Same H H' → IsPr H' z d → PrOk d → (b ≤ 2 → d.2 ≤ 2) → (0 < t → 1 ≤ d.1) → Q z H'
theorem sc__law_pair : FnScope ["_law_top", "_law_bottom", "_law_common_here"] ["_law_top", "_law_bottom"] (defScope sLPair) := ⟨rfl, rfl, rfl, by decide +kernel, rfl, by decide +kernel, by decide +kernel⟩
theorem ok__law_pair (T : TX w K mg) : C8.Cal P w K mg base 2 "_law_pair" (spPair) [] := by
  refine cal1 (d__law_pair T) (g__law_pair T) (ps := ["_law_top", "_law_bottom"]) (fun _ _ _ _ _ _ us hl => match us, hl with | [_, _], _ => rfl) sc__law_pair (fun vs H Q E h => ?_) (fun cdv A outr s H vs Q E hr h => ?_)
  · obtain ⟨t, b, rfl, _⟩ := h
    rfl
  · obtain ⟨t, b, rfl, ⟨h1, h2, h3, h4⟩, k⟩ := h
    refine ⟨_, (pss_cons (ps_set (i := 2) sc__law_pair.nd rfl (Or.inl rfl) (C8.pe_c (j := 1) (ok__law_common T) hr (by decide) rfl (pa_cons (pe_callB call_abs (by rfl) (n_abs T) (by decide +kernel) (pa_cons (pv 0) pa_nil)) (pa_cons (pv 1) pa_nil))))
      (pss_one (ps_ret (pe_tup (pa_cons (pe_op op_fdivN (pv 0) (pv 2)) (pa_cons (pe_op op_fdivN (pv 1) (pv 2)) pa_nil)))))), ?_⟩
    obtain ⟨a1, a2, a3, a4, a5, a6⟩ := pair_all h1 h2 h3 h4
    have ea : (if t < 0 then -t else t) = (t.natAbs : Int) := by split <;> omega
    refine ⟨_, rfl, t, rfl, _, rfl, ?_⟩
    rw [ea]
    refine ⟨t.natAbs, b, rfl, a1, ?_⟩
    have hc : CDivN t (gG t b : Int) ∧ CDivN (b : Int) (gG t b : Int) := ⟨⟨by omega, by omega⟩, ⟨by omega, by omega⟩⟩
    refine ⟨_, rfl, _, rfl, _, _, rfl, rfl, hc.1, _, rfl, _, rfl, _, _, rfl, rfl, hc.2, (by show 2 ≤ sizeLine; decide), fun o ho => ?_⟩
    exact k _ _ (pairOf t b) (sm_upd ho) ⟨o, rfl, upd_same⟩ a4 a5 a6

def spNumber : Sp := fun vs H Q _ => ∃ (l tl : Addr) (c : Nat), vs = [.ref l] ∧ St H l tl c ∧ c < 90000 ∧ ∀ H' z d, SmL l H H' → St H' l tl (c + 2) → IsPr H' z d → PrOk d → Q z H'
theorem sc__law_number : FnScope ["_law_state"] ["_law_state"] (defScope sLNumber) := ⟨rfl, rfl, rfl, by decide +kernel, rfl, by decide +kernel, by decide +kernel⟩
theorem ok__law_number (T : TX w K mg) : C8.Cal P w K mg base 3 "_law_number" (spNumber) [] := by
  refine cal1 (d__law_number T) (g__law_number T) (ps := ["_law_state"]) (fun _ _ _ _ _ _ us hl => match us, hl with | [_], _ => rfl) sc__law_number (fun vs H Q E h => ?_) (fun cdv A outr s H vs Q E hr h => ?_)
  · obtain ⟨l, tl, c, rfl, _⟩ := h
    rfl
  · obtain ⟨l, tl, c, rfl, hs, hc, k⟩ := h
    refine ⟨_, (pss_one (ps_ret (C8.pe_c (j := 2) (ok__law_pair T) hr (by decide) rfl (pa_cons (pe_op op_sub (C8.pe_c (j := 2) (ok__law_take T) hr (by decide) rfl (pa_cons (pv 0) (pa_cons pe_int pa_nil))) pe_int) (pa_cons (pe_op op_add pe_int (C8.pe_c (j := 2) (ok__law_take T) hr (by decide) rfl (pa_cons (pv 0) (pa_cons pe_int pa_nil)))) pa_nil))))), ?_⟩
    refine ⟨_, rfl, l, tl, c, 13, rfl, hs, by omega, by decide, fun r H1 hr1 s1 t1 => ⟨_, _, rfl, rfl, ?_⟩⟩
    refine ⟨_, rfl, l, tl, c + 1, 3, rfl, t1, by omega, by decide, fun r2 H2 hr2 s2 t2 => ⟨_, _, rfl, rfl, ?_⟩⟩
    refine ⟨(r : Int) - 6, 1 + r2, by rw [Int.natCast_add]; rfl, ⟨by omega, by omega, by omega, by omega⟩, fun H3 z d s3 hd ok _ _ => ?_⟩
    exact k _ _ d ((s1.trans s2).trans (SmL.of s3)) (t2.same s3) hd ok

def spMade (C : Addr) : Sp := fun vs H Q _ => ∃ (v : V) (d : Int × Int), vs = [v] ∧ IsPr H v d ∧ PrOk d ∧ ∀ H' z, Same H H' → IsQ C H' z (Rat.divInt d.1 d.2) → Q z H'
theorem bits_small : ∀ i ∈ [1, 2, 3], (i : Int).natAbs.log2 < 9000 := by decide +kernel
theorem sc__law_made : FnScope ["_law_pair_here"] ["_law_pair_here"] (defScope sLMade) := ⟨rfl, rfl, rfl, by decide +kernel, rfl, by decide +kernel, by decide +kernel⟩
theorem ok__law_made (T : TX w K mg) : C8.Cal P w K mg base 3 "_law_made" (spMade (cR K)) [] := by
  refine cal1 (d__law_made T) (g__law_made T) (ps := ["_law_pair_here"]) (fun _ _ _ _ _ _ us hl => match us, hl with | [_], _ => rfl) sc__law_made (fun vs H Q E h => ?_) (fun cdv A outr s H vs Q E hr h => ?_)
  · obtain ⟨v, d, rfl, _⟩ := h
    rfl
  · obtain ⟨v, d, rfl, ⟨b, rfl, hb⟩, ok, k⟩ := h
    refine ⟨_, (pss_one (ps_ret (C8.pe_mk (j := 2) (mk_R2 T) hr (by decide) rfl (pa_cons (pe_ixTK (K := K) (pv 0) pe_int (fun _ _ => rfl)) (pa_cons (pe_ixTK (K := K) (pv 0) pe_int (fun _ _ => rfl)) pa_nil))))), ?_⟩
    have hl : d.2.natAbs.log2 < 9000 := by
      rcases (by have := ok.2.2; omega : d.2 = 1 ∨ d.2 = 2 ∨ d.2 = 3) with e | e | e <;> rw [e] <;> decide +kernel
    refine ⟨_, rfl, b, _, _, .int d.1, rfl, rfl, SqT.of hb, at_of (j := 0) rfl rfl, _, rfl, b, _, _, .int d.2, rfl, rfl, SqT.of hb, at_of (j := 1) rfl rfl, ?_⟩
    exact fun x0 dx0 nx0 nd0 ne0 => rd_mk nx0 nd0 (by have := ok.2.2; omega) hl rfl fun H1 s1 hz => k _ _ s1 hz

end
end PN
end
section
set_option maxRecDepth 100000
set_option maxHeartbeats 4000000
namespace PN
open PySem PySem.Spec PyProof.Rows L2
/-! ### sums_of -/
def RdGood (d : RdD) : Prop := (d.terms.map (·.1)).Nodup ∧ (∀ t ∈ d.terms, -9 ≤ t.2 ∧ t.2 ≤ 9) ∧ Bd 20 d.weight ∧ Bd 20 d.value
def rn (pts : List Str) (d : RdD) : RdN := ⟨rowL pts d, d.weight, d.value⟩
theorem coefOf_bd (n : Str) : ∀ ds : List (Str × Int), (∀ t ∈ ds, -9 ≤ t.2 ∧ t.2 ≤ 9) → -9 ≤ coefOf ds n ∧ coefOf ds n ≤ 9
  | [], _ => by show -9 ≤ (0 : Int) ∧ (0 : Int) ≤ 9; decide
  | d :: r, h => by
    show -9 ≤ (if d.1 = n then d.2 else coefOf r n) ∧ (if d.1 = n then d.2 else coefOf r n) ≤ 9
    by_cases e : d.1 = n
    · rw [if_pos e]; exact h d List.mem_cons_self
    · rw [if_neg e]; exact coefOf_bd n r fun t ht => h t (List.mem_cons_of_mem _ ht)
theorem rn_ok {pts : List Str} {d : RdD} (h : RdGood d) : RnOk pts.length (rn pts d) := by
  refine ⟨by show (rowL pts d).length = _; unfold rowL; rw [List.length_map], fun x hx => ?_, h.2.2.1, h.2.2.2⟩
  obtain ⟨n, _, rfl⟩ := List.mem_map.mp (show x ∈ pts.map fun n => ((coefOf d.terms n : Int) : Rat) from hx)
  have hc := coefOf_bd n d.terms h.2.1
  refine ⟨?_, ?_⟩
  · show ((coefOf d.terms n : Int) : Rat).num.natAbs < 2 ^ 20
    rw [Rat.num_intCast]
    have : (2 : Nat) ^ 20 = 1048576 := by decide
    omega
  · show ((coefOf d.terms n : Int) : Rat).den < 2 ^ 20
    rw [Rat.den_intCast]; decide
section
variable {P : Program} {w : World} {K : PySem.W.Frag} {mg : Str → Option Value} {base : Heap}

def sumB (pts : List Str) (rds : List RdD) : Sums := sumsOf pts.length (rds.map (rn pts))
def spSumsOf (K : PySem.W.Frag) : Sp := fun vs H Q _ => ∃ (H0 : Hp) (b : Addr) (pts : List Str) (rds : List RdD), vs = [.ref b] ∧ Bk K H0 H b pts rds ∧ pts.length ≤ 12 ∧ rds.length ≤ 24 ∧ (∀ d ∈ rds, RdGood d) ∧
  ∀ H' o n r c, Same H H' → H' o = some (.tup [n, r, c]) → IsM (cR K) H' n (sumB pts rds).N → IsV (cR K) H' r (sumB pts rds).R → IsQ (cR K) H' c (sumB pts rds).C → Q (.ref o) H'
theorem sc_sums_of : FnScope ["book", "width", "normal", "right", "constant", "reading", "row"] ["book"] (defScope sSumsOf) := ⟨rfl, rfl, rfl, by decide +kernel, rfl, by decide +kernel, by decide +kernel⟩
theorem ok_sums_of (T : TX w K mg) : C8.Cal P w K mg base 7 "sums_of" (spSumsOf K) [] := by
  refine cal1 (d_sums_of T) (g_sums_of T) (ps := ["book"]) (fun _ _ _ _ _ _ us hl => match us, hl with | [_], _ => rfl) sc_sums_of (fun vs H Q E h => ?_) (fun cdv A outr s H vs Q E hr h => ?_)
  · obtain ⟨H0, b, pts, rds, rfl, _⟩ := h
    rfl
  · obtain ⟨H0, b, pts, rds, rfl, hB, l1, l2, hg, k⟩ := h
    refine ⟨_, (pss_cons (ps_set (i := 1) sc_sums_of.nd rfl (Or.inl rfl) (pe_callB call_len_seq (by rfl) (n_len T) PySem.boot_len (pa_cons (pe_fldK (K := K) (pv 0) rfl) pa_nil)))
      (pss_cons (ps_set (i := 2) sc_sums_of.nd rfl (Or.inl rfl) (C8.pe_c (j := 6) (ok_zeros T) hr (by decide) rfl (pa_cons (pv 1) (pa_cons (pv 1) pa_nil))))
      (pss_cons (ps_set (i := 3) sc_sums_of.nd rfl (Or.inl rfl) (C8.pe_c (j := 6) (ok_zero T) hr (by decide) rfl (pa_cons (pv 1) pa_nil)))
      (pss_cons (ps_set (i := 4) sc_sums_of.nd rfl (Or.inl rfl) (C8.pe_mk (j := 6) (mk_R1 T) hr (by decide) rfl (pa_cons pe_int pa_nil)))
      (pss_cons (ps_for PassesOwn.never rfl (pi_listK (K := K) (pe_fldK (K := K) (pv 0) rfl)) (pg_name (i := 5) sc_sums_of.nd rfl (Or.inl rfl)) (pss_cons (ps_set (i := 6) sc_sums_of.nd rfl (Or.inl rfl) (C8.pe_c (j := 6) (ok_row_of T) hr (by decide) rfl (pa_cons (pv 0) (pa_cons (pv 5) pa_nil))))
      (pss_cons (ps_set (i := 2) sc_sums_of.nd rfl (Or.inl rfl) (C8.pe_c (j := 6) (ok_add_term T) hr (by decide) rfl (pa_cons (pv 2) (pa_cons (pv 6) (pa_cons (pe_fldK (K := K) (pv 5) rfl) pa_nil)))))
      (pss_cons (ps_set (i := 3) sc_sums_of.nd rfl (Or.inl rfl) (C8.pe_c (j := 6) (ok_plus T) hr (by decide) rfl (pa_cons (pv 3) (pa_cons (C8.pe_c (j := 6) (ok_scale T) hr (by decide) rfl (pa_cons (pe_op (op_qmul (j := 6) T hr (by decide)) (pe_fldK (K := K) (pv 5) rfl) (pe_fldK (K := K) (pv 5) rfl)) (pa_cons (pv 6) pa_nil))) pa_nil))))
      (pss_one (ps_set (i := 4) sc_sums_of.nd rfl (Or.inl rfl) (pe_op (op_qadd (j := 6) T hr (by decide)) (pv 4) (pe_op (op_qmul (j := 6) T hr (by decide)) (pe_op (op_qmul (j := 6) T hr (by decide)) (pe_fldK (K := K) (pv 5) rfl) (pe_fldK (K := K) (pv 5) rfl)) (pe_fldK (K := K) (pv 5) rfl)))))))))
      (pss_one (ps_ret (pe_tup (pa_cons (pv 2) (pa_cons (pv 3) (pa_cons (pv 4) pa_nil))))))))))), ?_⟩
    obtain ⟨dx, pl, dl, rl, kvs, rs, B⟩ := id hB
    have lp : (pts.map V.str).length = pts.length := List.length_map ..
    refine ⟨_, rfl, b, _, dx, _, _, rfl, B.ins, c_Book T, na_Book_points T, lk_points, pl, _, rfl, .inl (SqL.of B.hpts), ?_⟩
    rw [lp]
    refine ⟨_, rfl, _, rfl, pts.length, pts.length, rfl, by omega, by omega, fun H1 z1 s1 h1 => ?_⟩
    refine ⟨_, rfl, pts.length, rfl, by omega, fun H2 z2 s2 h2 => ?_⟩
    refine fun x0 dx0 nx0 nd0 ne0 => rd_mk (q := 0) nx0 nd0 (by decide) (by decide +kernel) (d_int 0) fun H3 s3 h3 => ?_
    have s13 := (s1.trans s2).trans s3
    refine ⟨_, rfl, b, _, dx, _, _, rfl, s13 _ _ B.ins, c_Book T, na_Book_readings T, lk_readings, rl, rfl, ⟨_, SqL.of (s13 _ _ B.hrds)⟩, ?_⟩
    have lr := B.al.1
    refine for_list (K := K) (a := rl) (xs := rs) (fun i σ H' => ∃ (n r c : V) (v5 v6 : Option V), σ = [some (.ref b), some (.int pts.length), some n, some r, some c, v5, v6] ∧ Same H H' ∧ IsM (cR K) H' n (sumB pts (rds.take i)).N ∧ IsV (cR K) H' r (sumB pts (rds.take i)).R ∧ IsQ (cR K) H' c (sumB pts (rds.take i)).C)
      ⟨z1, z2, _, none, none, rfl, s13, IsM.fz _ _ _ _ (Fz.of (s2.trans s3)) h1, IsV.fz _ _ _ _ (Fz.of s3) h2, h3⟩ (fun i σ H' _ ⟨_, _, _, _, _, _, s', _⟩ => SqL.of (s' _ _ B.hrds)) ?_ ?_
    · rintro i x σ H' hx ⟨n, r, c, v5, v6, rfl, s', hn, hr', hc⟩
      obtain ⟨d, ed, rd⟩ := B.al.get hx
      have hd := hg d (List.mem_of_getElem? ed)
      have hi : i < rds.length := (List.getElem?_eq_some_iff.mp ed).1
      have lt : (rds.take i).length = i := by rw [List.length_take]; omega
      have sb : SumB pts.length i (sumB pts (rds.take i)) := by
        have := SumB.of (n := pts.length) (rs := (rds.take i).map (rn pts)) fun y hy => by
          obtain ⟨e, he, rfl⟩ := List.mem_map.mp hy
          exact rn_ok (hg e (List.mem_of_mem_take he))
        rw [List.length_map, lt] at this
        exact this
      have okd := rn_ok (pts := pts) hd
      have es : sumB pts (rds.take (i + 1)) = stepS (sumB pts (rds.take i)) (rowL pts d) d.weight d.value := by
        unfold sumB
        rw [take_snoc ed, List.map_append]
        exact sumsOf_snoc _ _ _
      rw [es]
      generalize hS : sumB pts (rds.take i) = S at *
      refine ⟨_, rfl, _, rfl, H0, b, pts, rds, x, d, rfl, hB.same s', IsRd.fz _ _ _ _ (Fz.of s') rd, hd.1, by omega, fun H4 z4 s4 h4 => ?_⟩
      have rd4 := IsRd.fz _ _ _ _ (Fz.of (s'.trans s4)) rd
      obtain ⟨ra, rdx, tv, qv, wv, rfl, hra, _, hq, hw⟩ := rd4
      have fl : ∀ {Hx : Hp}, Same H4 Hx → Hx ra = some (.ins (cRd K) rdx (rf (.str d.name) tv qv wv)) := fun s => s _ _ hra
      refine ⟨_, rfl, _, rfl, _, rfl, ra, _, rdx, _, _, rfl, hra, c_Reading T, na_Reading_weight T, lk_weight, ?_⟩
      have vb1 : Vb 1000 (rowL pts d) := ⟨by rw [show (rowL pts d).length = pts.length from okd.len]; omega, fun y hy => (okd.row y hy).mono (by decide)⟩
      refine ⟨n, z4, wv, S.N, _, d.weight, rfl, IsM.fz _ _ _ _ (Fz.of s4) hn, h4, hw, ⟨by rw [sb.nl]; omega, fun y hy => ⟨by rw [sb.nw y hy]; omega, fun z hz => (sb.nb y hy z hz).mono (by omega)⟩⟩, vb1, hd.2.2.1.mono (by decide), by rw [sb.nl]; exact okd.len.symm, by rw [show (rowL pts d).length = pts.length from okd.len]; exact sb.nw, fun H5 z5 s5 h5 => ?_⟩
      refine ⟨_, rfl, _, rfl, ra, _, rdx, _, _, rfl, fl s5, c_Reading T, na_Reading_weight T, lk_weight, ?_⟩
      refine ⟨_, rfl, ra, _, rdx, _, _, rfl, fl s5, c_Reading T, na_Reading_value T, lk_value, ?_⟩
      have bw := hd.2.2.1
      have bv := hd.2.2.2
      refine rd_q2 (IsQ.fz _ _ _ _ (Fz.of s5) hw) (IsQ.fz _ _ _ _ (Fz.of s5) hq) (bw.mono (by decide)) (bv.mono (by decide)) fun H6 z6 s6 h6 => ?_
      have bwv := bw.mul bv
      refine ⟨_, rfl, z6, z4, _, _, rfl, h6, IsV.fz _ _ _ _ (Fz.of (s5.trans s6)) h4, bwv.mono (by decide), ⟨vb1.1, fun y hy => (vb1.2 y hy).mono (by decide)⟩, fun H7 z7 s7 h7 => ?_⟩
      have bs : Vb 4400 (scale (d.weight * d.value) (rowL pts d)) := ⟨by rw [scale_len]; exact vb1.1, fun y hy => by
        obtain ⟨e, he, rfl⟩ := List.mem_map.mp (show y ∈ (rowL pts d).map _ from hy)
        exact (bwv.mul (okd.row e he)).mono (by decide)⟩
      refine ⟨r, z7, S.R, _, rfl, IsV.fz _ _ _ _ (Fz.of (((s4.trans s5).trans s6).trans s7)) hr', h7, ⟨by rw [sb.rl]; omega, fun y hy => (sb.rb y hy).mono (by omega)⟩, bs, by rw [scale_len, sb.rl]; exact okd.len.symm, fun H8 z8 s8 h8 => ?_⟩
      have s58 := ((s5.trans s6).trans s7).trans s8
      refine ⟨_, rfl, _, rfl, ra, _, rdx, _, _, rfl, fl s58, c_Reading T, na_Reading_weight T, lk_weight, ?_⟩
      refine ⟨_, rfl, ra, _, rdx, _, _, rfl, fl s58, c_Reading T, na_Reading_value T, lk_value, ?_⟩
      refine rd_q2 (IsQ.fz _ _ _ _ (Fz.of s58) hw) (IsQ.fz _ _ _ _ (Fz.of s58) hq) (bw.mono (by decide)) (bv.mono (by decide)) fun H9 z9 s9 h9 => ?_
      refine ⟨_, rfl, ra, _, rdx, _, _, rfl, fl (s58.trans s9), c_Reading T, na_Reading_value T, lk_value, ?_⟩
      refine rd_q2 h9 (IsQ.fz _ _ _ _ (Fz.of (s58.trans s9)) hq) (bwv.mono (by decide)) (bv.mono (by decide)) fun Ha za sa ha => ?_
      refine rd_q2 (IsQ.fz _ _ _ _ (Fz.of (((s4.trans s58).trans s9).trans sa)) hc) ha (sb.cb.mono (by omega)) ((bwv.mul bv).mono (by decide)) fun Hb zb sb' hb => ?_
      have s6b := (((s6.trans s7).trans s8).trans s9).trans (sa.trans sb')
      refine ⟨z5, z8, zb, _, _, rfl, ((s'.trans s4).trans s5).trans s6b, IsM.fz _ _ _ _ (Fz.of s6b) h5, IsV.fz _ _ _ _ (Fz.of (s9.trans (sa.trans sb'))) h8, hb⟩
    · rintro σ H' ⟨n, r, c, v5, v6, rfl, s', hn, hr', hc⟩
      rw [lr, List.take_length] at hn hr' hc
      refine ⟨_, rfl, _, rfl, _, rfl, (by show 3 ≤ sizeLine; decide), fun o ho => ?_⟩
      have s4 := sm_upd ho (o := .tup [n, r, c])
      exact k _ o n r c (s'.trans s4) upd_same (IsM.fz _ _ _ _ (Fz.of s4) hn) (IsV.fz _ _ _ _ (Fz.of s4) hr') (IsQ.fz _ _ _ _ (Fz.of s4) hc)

end
end PN
end
section
set_option maxRecDepth 100000
set_option maxHeartbeats 4000000
namespace PN
open PySem PySem.Spec PyProof.Rows L2
/-! ### forms -/
open LamX in
theorem Fz.ofN {H H' : Hp} (s : ExtN H H') : Fz H H' := fun b o h f => s b o h fun ps e => by subst e; exact f
structure FormD where
  names : List Str
  m : Mat
  v : List Rat
  c : Rat
/-- a tuple of texts that is known to the object -/
def IsNm : Rp (List Str) := fun H z ns => ∃ a o, z = .ref a ∧ H a = some (.frz o (.tup (ns.map V.str))) ∧ TupO o
theorem IsNm.fz : Fzm IsNm := fun _ _ _ _ f ⟨a, o, e, h, ho⟩ => ⟨a, o, e, f _ _ h trivial, ho⟩
def IsForm (K : PySem.W.Frag) : Rp FormD := fun H z d => ∃ a dx nv mv vv cv, z = .ref a ∧ H a = some (.ins (cF K) dx (ff nv mv vv cv)) ∧ IsNm H nv d.names ∧ IsM (cR K) H mv d.m ∧ IsV (cR K) H vv d.v ∧ IsQ (cR K) H cv d.c
theorem IsForm.fz {K : PySem.W.Frag} : Fzm (IsForm K) := fun _ _ _ _ f ⟨a, dx, nv, mv, vv, cv, e, h, h1, h2, h3, h4⟩ =>
  ⟨a, dx, nv, mv, vv, cv, e, f _ _ h trivial, IsNm.fz _ _ _ _ f h1, IsM.fz _ _ _ _ f h2, IsV.fz _ _ _ _ f h3, IsQ.fz _ _ _ _ f h4⟩
theorem idx_nodup : ∀ {ns : List Str} {i : Nat} {n : Str}, ns.Nodup → ns[i]? = some n → ns.idxOf n = i
  | [], i, n, _, h => by simp at h
  | a :: r, 0, n, _, h => by
    have e : a = n := Option.some.inj h
    subst e
    simp
  | a :: r, i + 1, n, hd, h => by
    have h' : r[i]? = some n := by simpa using h
    have hne : a ≠ n := fun e => by
      rw [List.nodup_cons] at hd
      exact hd.1 (e ▸ List.mem_of_getElem? h')
    have ih := idx_nodup (List.nodup_cons.mp hd).2 h'
    have hb : (a == n) = false := beq_eq_false_iff_ne.mpr hne
    rw [List.idxOf_cons, hb, ih]
    rfl
theorem list_eta {α : Type} (l : List α) (d : α) {n : Nat} (h : l.length = n) : (List.range n).map (fun i => l.getD i d) = l := by
  subst h
  refine List.ext_getElem? fun i => ?_
  rw [List.getElem?_map]
  by_cases hi : i < l.length
  · rw [List.getElem?_range hi, List.getElem?_eq_getElem hi]
    show some (l.getD i d) = _
    rw [List.getD_eq_getElem?_getD, List.getElem?_eq_getElem hi]; rfl
  · rw [List.getElem?_eq_none (by rw [List.length_range]; omega), List.getElem?_eq_none (by omega)]; rfl
section
variable {P : Program} {w : World} {K : PySem.W.Frag} {mg : Str → Option Value} {base : Heap}
/-- a def by its body, its code object by name -/
theorem cal1c {x : Str} {st : Stmt} {N ps : List Str} {k : Nat} {sp : Sp} (F : ∃ fd, FunD K x x (defArgs st) (defBody st) (defScope st) [] [] (He.fAd K (x, none)) fd) (hm : mg x = some (.ref (He.ga K x)))
    (hb : ∀ (kV doc pm : Value) (an : Option Addr) (cdv ct : Value) (us : List Value), us.length = ps.length → bindArgs (PySem.W.fnOf x x (defArgs st) (defBody st) (defScope st) .none kV doc pm an cdv ct) ⟨us, []⟩ = pure (ps.zip us))
    (S : FnScope N ps (defScope st)) (len : ∀ vs H Q E, sp vs H Q E → vs.length = ps.length)
    (hbody : ∀ (A : Around) (outer : List Env) (s : Shared) (H : Hp) (vs : List V) (Q : VK) (E : XK), Room k (A.deeper (envOfC x (defScope st) s.heap.objs.size (He.ga K x) (.ref (He.codeOf K (x, none))))) → sp vs H Q E →
      ∃ t, PSs (cxOf C8.CX0 P w K mg base N x (defScope st) (He.ga K x) (.ref (He.codeOf K (x, none))) A outer s H E).nox (defBody st) t ∧ t { nx := fun _ H' => Q .non H', rt := Q } (start N vs) H) : C8.Cal P w K mg base (k + 1) x sp [] := by
  obtain ⟨fd, F⟩ := F
  obtain ⟨oc, od, dV, kV, doc, pm, an, cdv, ct, osl, rfl, lk, hcd, _, _⟩ := id F.ex
  obtain ⟨c, rfl⟩ := He.codeIn_ref hcd
  have ec := He.codeOf_eq lk rfl
  refine ⟨He.ga K x, _, ps, [], fn_of lk hcd S len fun A outer s H vs Q E hr hsp => ?_, hm, F.kp, FunD.bindsN F hb, .nil⟩
  rw [← ec] at hr ⊢
  obtain ⟨t, a, b⟩ := hbody A outer s H vs Q E hr hsp
  exact ⟨t, a.nox, b⟩

/-! ### entry -/
def spEntry (C : Addr) : Sp := fun vs H Q _ => ∃ (v : V) (m : Mat) (r c : Nat), vs = [v, .int (r : Int), .int (c : Int)] ∧ IsM C H v m ∧ r < m.length ∧ c < (m.getD r []).length ∧ ∀ z, IsQ C H z (gt (m.getD r []) c) → Q z H
theorem sc_entry : FnScope ["matrix", "row", "column"] ["matrix", "row", "column"] (defScope sEntry) := ⟨rfl, rfl, rfl, by decide +kernel, rfl, by decide +kernel, by decide +kernel⟩
theorem ok_entry (T : TX w K mg) : C8.Cal P w K mg base 2 "entry" (spEntry (cR K)) [] := by
  refine cal1 (d_entry T) (g_entry T) (ps := ["matrix", "row", "column"]) (fun _ _ _ _ _ _ us hl => match us, hl with | [_, _, _], _ => rfl) sc_entry (fun vs H Q E h => ?_) (fun cdv A outr s H vs Q E hr h => ?_)
  · obtain ⟨v, m, r, c, rfl, _⟩ := h
    rfl
  · obtain ⟨v, m, r, c, rfl, hv, hr1, hc1, k⟩ := h
    refine ⟨_, (pss_cons (ps_if (pw_or (pt_cmpR op_isN (pv 1) pe_non (nomark _)) (pw_or1 (pt_cmpR op_isN (pv 2) pe_non (nomark _)))).pt (pss_one ps_never) pss_nil)
      (pss_one (ps_ret (pe_ixTK (K := K) (pe_ixTK (K := K) (pv 0) (pv 1) (fun _ _ => rfl)) (pv 2) (fun _ _ => rfl))))), ?_⟩
    obtain ⟨p, xs, rfl, hp, ax⟩ := hv
    obtain ⟨x, ex, rx⟩ := ax.at (getD_mem hr1)
    obtain ⟨q, us, rfl, hq, au⟩ := rx
    obtain ⟨u, eu, ru⟩ := au.at (gt_at hc1)
    refine ⟨_, rfl, rfl, _, rfl, iteF ?_⟩
    refine ⟨_, rfl, rfl, _, rfl, iteF ?_⟩
    exact ⟨_, rfl, _, rfl, p, xs, _, .ref q, rfl, rfl, SqT.of hp, atI_nat ex, _, rfl, q, us, _, u, rfl, rfl, SqT.of hq, atI_nat eu, k _ ru⟩

/-! ### spread: over the form's own names -/
def spSpread (K : PySem.W.Frag) : Sp := fun vs H Q _ => ∃ (z : V) (d : FormD) (nl : Addr), vs = [z, .ref nl] ∧ IsForm K H z d ∧ SqT K H nl (d.names.map V.str) ∧ d.names.Nodup ∧ d.names.length ≤ 100 ∧ d.m.length = d.names.length ∧ Wd d.names.length d.m ∧ d.v.length = d.names.length ∧
  ∀ H' o a b, Same H H' → H' o = some (.tup [a, b]) → IsM (cR K) H' a d.m → IsV (cR K) H' b d.v → Q (.ref o) H'
theorem sc_spread : FnScope ["form", "names", "places", "rows", "row", "name", "column", "place"] ["form", "names"] (defScope sSpread) := ⟨rfl, rfl, rfl, by decide +kernel, rfl, by decide +kernel, by decide +kernel⟩
theorem ok_spread (T : TX w K mg) : C8.Cal P w K mg base 3 "spread" (spSpread K) [] := by
  refine cal1 (d_spread T) (g_spread T) (ps := ["form", "names"]) (fun _ _ _ _ _ _ us hl => match us, hl with | [_, _], _ => rfl) sc_spread (fun vs H Q E h => ?_) (fun cdv A outr s H vs Q E hr h => ?_)
  · obtain ⟨z, d, nl, rfl, _⟩ := h
    rfl
  · obtain ⟨z, d, nl, rfl, hz, hnl, hnd, hl, hm, hw, hvl, k⟩ := h
    refine ⟨_, (pss_cons (ps_setLc (i := 2) (own := [("name", 5)]) (g := gName 5) (by rfl) sc_spread.nd rfl rfl (sw_true rfl rfl rfl (by decide +kernel)) (pi_tupK (K := K) (pv 1)) (blkOk_by (own := [("name", 5)]) (N := ["form", "names", "places", "rows", "row", "name", "column", "place"]) (sc := defScope sSpread) (by decide +kernel))
      (fun _ _ _ _ _ => (pg_name (i := 5) sc_spread.nd rfl (Or.inl rfl))) (fun _ _ _ _ _ => pts_nil) (fun _ _ _ _ _ => (pe_ifExp (pt_inK (K := K) (pv 5) (pe_fldK (K := K) (pv 0) rfl)) (pe_idxTK (K := K) (pe_fldK (K := K) (pv 0) rfl) (pv 5)) pe_non)))
      (pss_cons (ps_set (i := 3) sc_spread.nd rfl (Or.inl rfl) (pe_lst pa_nil))
      (pss_cons (ps_for PassesOwn.never rfl (pi_listK (K := K) (pv 2)) (pg_name (i := 4) sc_spread.nd rfl (Or.inr rfl)) (pss_one (ps_expr (pe_bm PySem.F.plainAttrs_list PySem.F.slot_list_append PySem.F.type_list_append mt_append (pv 3) (pa_cons (pe_tupK (K := K) rfl (n_tuple T) (pe_lc (own := [("column", 6)]) (g := gName 6) (by rfl) sc_spread.nd (pi_listK (K := K) (pv 2)) (blkOk_by (own := [("column", 6)]) (N := ["form", "names", "places", "rows", "row", "name", "column", "place"]) (sc := defScope sSpread) (by decide +kernel))
      (fun _ _ _ _ _ => (pg_name (i := 6) sc_spread.nd rfl (Or.inl rfl))) (fun _ _ _ _ _ => pts_nil) (fun _ _ _ _ _ => (C8.pe_c (j := 2) (ok_entry T) hr (by decide) rfl (pa_cons (pe_fldK (K := K) (pv 0) rfl) (pa_cons (pv 4) (pa_cons (pv 6) pa_nil))))))) pa_nil)))))
      (pss_one (ps_ret (pe_tup (pa_cons (pe_tupK (K := K) rfl (n_tuple T) (pv 3)) (pa_cons (pe_tupK (K := K) rfl (n_tuple T) (pe_lc (own := [("place", 7)]) (g := gName 7) (by rfl) sc_spread.nd (pi_listK (K := K) (pv 2)) (blkOk_by (own := [("place", 7)]) (N := ["form", "names", "places", "rows", "row", "name", "column", "place"]) (sc := defScope sSpread) (by decide +kernel))
      (fun _ _ _ _ _ => (pg_name (i := 7) sc_spread.nd rfl (Or.inl rfl))) (fun _ _ _ _ _ => pts_nil) (fun _ _ _ _ _ => (pe_ifExp (pt_cmpR op_isN (pv 7) pe_non (nomark _)) (C8.pe_mk (j := 2) (mk_R1 T) hr (by decide) rfl (pa_cons pe_int pa_nil)) (pe_ixTK (K := K) (pe_fldK (K := K) (pv 0) rfl) (pv 7) (fun _ _ => rfl)))))) pa_nil)))))))), ?_⟩
    obtain ⟨fa, fdx, nv, mv, vv, cv, rfl, hfa, hnm, hmm, hvv, hcc⟩ := hz
    obtain ⟨na, no, rfl, hna, hno⟩ := hnm
    have ln : (d.names.map V.str).length = d.names.length := List.length_map ..
    refine ⟨_, rfl, nl, rfl, ⟨_, hnl⟩, fun D hD => ?_⟩
    refine lcT (R := IsNat) (ys := List.range d.names.length) IsNat.fz hD hnl (by rw [ln, List.length_range]) (by rw [List.length_range]; omega) ?_ ?_
    · intro t x y H1 hx hy s1 k1 hk
      obtain ⟨n, en, rfl⟩ := strs_at hx
      have ht : t < d.names.length := (List.getElem?_eq_some_iff.mp en).1
      rw [List.getElem?_range ht] at hy
      cases hy
      have hf := s1 _ _ hfa
      have hn := s1 _ _ hna
      refine ⟨_, rfl, _, rfl, fa, _, fdx, _, _, rfl, hf, c_Form T, na_Form_names T, lk_names, na, _, rfl, .inr (.inl (.inr ⟨no, hn⟩)), rfl, all_flatS _, _, rfl, ?_⟩
      rw [inV_str, decide_eq_true (List.mem_of_getElem? en)]
      refine iteT ⟨_, rfl, fa, _, fdx, _, _, rfl, hf, c_Form T, na_Form_names T, lk_names, ⟨na, no, _, rfl, hn, hno⟩, _, rfl, na, d.names, n, rfl, rfl, .inl (.inr ⟨no, hn⟩), List.mem_of_getElem? en, ?_⟩
      rw [idx_nodup hnd en]
      exact hk _ _ (Same.refl _) rfl
    · intro H1 acc s1 hacc al
      have ei := al.nat
      subst ei
      have lr : (pvs (List.range d.names.length)).length = d.names.length := by rw [List.length_map, List.length_range]
      refine ⟨Nat.zero_le _, fun R0 hR0 => ?_⟩
      have s2 : Same H1 (upd H1 R0 (.lst [])) := sm_upd hR0
      have nDR : D ≠ R0 := ne_of_none hacc hR0
      refine ⟨_, rfl, D, rfl, ⟨_, SqL.of (s2 _ _ hacc)⟩, ?_⟩
      refine for_list (K := K) (a := D) (xs := pvs (List.range d.names.length)) (fun i σ H' => ∃ (v4 : Option V) (acc : List V), σ = [some (.ref fa), some (.ref nl), some (.ref D), some (.ref R0), v4, none, none, none] ∧ Same H1 H' ∧ H' R0 = some (.lst acc) ∧ Al (IsV (cR K)) H' acc (d.m.take i))
        ⟨none, [], rfl, s2, upd_same, by rw [List.take_zero]; exact Al.nil⟩ (fun i σ H' _ ⟨_, _, _, s', _⟩ => SqL.of (s' _ _ hacc)) ?_ ?_
      · rintro i x σ H' hx ⟨v4, acc, rfl, s', hacc2, al2⟩
        obtain ⟨r, er, rfl⟩ := pvs_at hx
        have hi : i < d.names.length := by have := (List.getElem?_eq_some_iff.mp er).1; rw [List.length_range] at this; exact this
        rw [List.getElem?_range hi] at er
        cases er
        have s0' := s1.trans s'
        have emi := getD_mem (m := d.m) (i := i) (by omega)
        have wi := hw.at emi
        refine ⟨_, rfl, .inl ⟨rfl, _, SqL.of hacc2⟩, ?_⟩
        refine ⟨_, rfl, D, rfl, ⟨_, SqL.of (s' _ _ hacc)⟩, fun D2 hD2 => ?_⟩
        refine lcL (R := IsQ (cR K)) (ys := d.m.getD i []) IsQ.fz hD2 (SqL.of (s' _ _ hacc)) (by rw [lr, wi]) (by rw [wi]; omega) ?_ ?_
        · intro t x y H3 hx hy s3 k3 hk3
          obtain ⟨c, ec, rfl⟩ := pvs_at hx
          have ht : t < d.names.length := by have := (List.getElem?_eq_some_iff.mp ec).1; rw [List.length_range] at this; exact this
          rw [List.getElem?_range ht] at ec
          cases ec
          have ey : y = gt (d.m.getD i []) t := by
            have := gt_at (r := d.m.getD i []) (c := t) (by omega)
            rw [this] at hy; cases hy; rfl
          subst ey
          refine ⟨_, rfl, fa, _, fdx, _, _, rfl, (s0'.trans s3) _ _ hfa, c_Form T, na_Form_matrix T, lk_matrix, _, rfl, _, rfl, mv, d.m, i, t, rfl, IsM.fz _ _ _ _ (Fz.of (s0'.trans s3)) hmm, by omega, by omega, fun z hz => hk3 _ _ (Same.refl _) hz⟩
        · intro H3 acc3 s3 hacc3 al3
          refine tup_done IsQ.fz s3 hacc3 al3 fun H4 z4 s4 h4 => ?_
          have hR4 := s4 _ _ hacc2
          have la := al2.1
          rw [List.length_take] at la
          refine ⟨R0, acc, z4, rfl, rfl, hR4, small1000 (by omega), ?_⟩
          have f : Fz H4 (upd H4 R0 (.lst (acc ++ [z4]))) := Fz.lst hR4
          refine ⟨_, acc ++ [z4], rfl, sm_upn (s'.trans s4) hR0, upd_same, ?_⟩
          rw [take_snoc emi]
          exact (al2.mono IsV.fz ((Fz.of s4).trans f)).app (Al.one (IsV.fz _ _ _ _ f h4))
      · rintro σ H' ⟨v4, acc, rfl, s', hacc2, al2⟩
        rw [lr, ← hm, List.take_length] at al2
        have s0' := s1.trans s'
        refine ⟨_, rfl, .inl ⟨R0, acc, rfl, SqL.of hacc2, fun q1 hq1 => ?_⟩⟩
        have s3 := sm_upd hq1 (o := .tup acc)
        have s03 := s0'.trans s3
        refine ⟨_, rfl, D, rfl, ⟨_, SqL.of ((s'.trans s3) _ _ hacc)⟩, fun D2 hD2 => ?_⟩
        refine lcL (R := IsQ (cR K)) (ys := d.v) IsQ.fz hD2 (SqL.of ((s'.trans s3) _ _ hacc)) (by rw [lr, hvl]) (by omega) ?_ ?_
        · intro t x y H3 hx hy s4 k3 hk3
          obtain ⟨c, ec, rfl⟩ := pvs_at hx
          have ht : t < d.names.length := by have := (List.getElem?_eq_some_iff.mp ec).1; rw [List.length_range] at this; exact this
          rw [List.getElem?_range ht] at ec
          cases ec
          refine ⟨_, rfl, rfl, _, rfl, iteF ?_⟩
          obtain ⟨q, us, rfl, hq, au⟩ := IsV.fz _ _ _ _ (Fz.of (s03.trans s4)) hvv
          obtain ⟨u, eu, ru⟩ := au.at hy
          exact ⟨_, rfl, fa, _, fdx, _, _, rfl, (s03.trans s4) _ _ hfa, c_Form T, na_Form_vector T, lk_vector, _, rfl, q, us, _, u, rfl, rfl, SqT.of hq, atI_nat eu, hk3 _ _ (Same.refl _) ru⟩
        · intro H3 acc3 s4 hacc3 al3
          refine tup_done IsQ.fz s4 hacc3 al3 fun H4 z4 s5 h5 => ?_
          refine ⟨(by show 2 ≤ sizeLine; decide), fun o ho => ?_⟩
          have s6 := sm_upd ho (o := .tup [.ref q1, z4])
          have s56 := s5.trans s6
          refine k _ o (.ref q1) z4 (s03.trans s56) upd_same ⟨q1, acc, rfl, s56 _ _ upd_same, al2.mono IsV.fz (Fz.of (s3.trans s56))⟩ (IsV.fz _ _ _ _ (Fz.of s6) h5)

end
end PN
end
section
set_option maxRecDepth 100000
namespace PN
/-! ### shapes and sizes of the parts of a border form -/
theorem pseudo_len (m : Mat) (w : Nat) : (pseudo m w).length = w := by
  unfold pseudo
  split
  · exact List.length_replicate ..
  · rw [product_len]
    show (transpose (reduced m w).1 w).length = w
    exact transpose_len _ _
theorem pseudo_wd (m : Mat) (w : Nat) : Wd m.length (pseudo m w) := by
  unfold pseudo
  split
  · intro r hr
    unfold zeros at hr
    rw [(List.mem_replicate.mp hr).2]
    exact List.length_replicate ..
  · exact product_wd _ _ _
theorem apply_len (m : Mat) (v : List Rat) : (apply m v).length = m.length := List.length_map ..
theorem apply_vb {n l : Nat} {m : Mat} {a : List Rat} (hm : Mb n m) (ha : Vb l a) (hw : Wd a.length m) : Vb (a.length * (n + l + 1) + 1) (apply m a) := by
  refine ⟨by rw [apply_len]; exact hm.1, fun x hx => ?_⟩
  obtain ⟨r, hr, rfl⟩ := List.mem_map.mp hx
  have := dot_bd (hm.2 r hr).2 ha.2 (hw r hr)
  rw [hw r hr] at this
  exact this
theorem product_mb {n l c : Nat} {f g : Mat} (hf : Mb n f) (hg : Mb l g) (hc : c ≤ 100) (hl : ∀ r ∈ g, c ≤ r.length) (hw : Wd g.length f) : Mb (g.length * (n + l + 1) + 1) (product f g c) := by
  have ht := transpose_mb hg hc hl
  refine ⟨by rw [product_len]; exact hf.1, fun r hr => ?_⟩
  obtain ⟨y, hy, rfl⟩ := List.mem_map.mp hr
  have hyl := hw y hy
  have := apply_vb (a := y) ht (hf.2 y hy) (by rw [hyl]; exact transpose_wd g c)
  rw [hyl] at this
  exact ⟨this.1, fun x hx => (this.2 x hx).mono (Nat.le_of_eq (by rw [Nat.add_comm l n]))⟩
theorem block_len (m : Mat) (rs cs : List Nat) : (blockM m rs cs).length = rs.length := List.length_map ..
theorem block_wd (m : Mat) (rs cs : List Nat) : Wd cs.length (blockM m rs cs) := fun r hr => by
  obtain ⟨x, _, rfl⟩ := List.mem_map.mp hr
  exact List.length_map ..
theorem pick_len (v : List Rat) (ps : List Nat) : (pickV v ps).length = ps.length := List.length_map ..
theorem gt_mem {r : List Rat} {c : Nat} (h : c < r.length) : gt r c ∈ r := List.mem_of_getElem? (gt_at h)
theorem rowD_mem {m : Mat} {i : Nat} (h : i < m.length) : m.getD i [] ∈ m := List.mem_of_getElem? (getD_mem h)
theorem block_mb {n w : Nat} {m : Mat} {rs cs : List Nat} (h : Mb n m) (hw : Wd w m) (hr : ∀ r ∈ rs, r < m.length) (hc : ∀ c ∈ cs, c < w) (l1 : rs.length ≤ 100) (l2 : cs.length ≤ 100) : Mb n (blockM m rs cs) := by
  refine ⟨by rw [block_len]; exact l1, fun r hr' => ?_⟩
  obtain ⟨x, hx, rfl⟩ := List.mem_map.mp hr'
  refine ⟨by rw [List.length_map]; exact l2, fun y hy => ?_⟩
  obtain ⟨c, hcc, rfl⟩ := List.mem_map.mp hy
  have hm := rowD_mem (hr x hx)
  exact (h.2 _ hm).2 _ (gt_mem (by rw [hw _ hm]; exact hc c hcc))
theorem pick_vb {n : Nat} {v : List Rat} {ps : List Nat} (h : Vb n v) (hp : ∀ p ∈ ps, p < v.length) (l : ps.length ≤ 100) : Vb n (pickV v ps) := by
  refine ⟨by rw [pick_len]; exact l, fun x hx => ?_⟩
  obtain ⟨p, hpp, rfl⟩ := List.mem_map.mp hx
  exact h.2 _ (gt_mem (hp p hpp))
end PN
end
section
set_option maxRecDepth 100000
set_option maxHeartbeats 4000000
namespace PN
open PySem PySem.Spec PyProof.Rows L2
open LamX
/-! ### border_form -/
def lamQ (x : Str) : Str := x ++ ".<locals>." ++ "<lambda>"
def TL (K : PySem.W.Frag) : List (Addr × Str) := [(He.tabOf K (cBF K), lamQ "border_form"), (He.tabOf K (cJ K), lamQ "join")]
structure Tabz (K : PySem.W.Frag) (mg : Str → Option Value) (base : Heap) : Prop where
  bf : TabB base mg (cBF K) (He.tabOf K (cBF K))
  jn : TabB base mg (cJ K) (He.tabOf K (cJ K))
def borderOf (pts : List Str) (rds : List RdD) (ns : List Str) : FormD :=
  let s := sumB pts rds
  let inn := innerOf pts ns
  let out := outerOf pts ns
  let inv := pseudo (blockM s.N inn inn) inn.length
  let across := blockM s.N out inn
  let known := apply inv (pickV s.R inn)
  let taken := product (product across inv inn.length) (transpose across inn.length) ns.length
  ⟨ns, sumOf (blockM s.N out out) (scaled (-1) taken), minus (pickV s.R out) (apply across known), s.C - dot (pickV s.R inn) known⟩
structure BfOk (pts : List Str) (rds : List RdD) (ns : List Str) : Prop where
  lp : pts.length ≤ 12
  lr : rds.length ≤ 24
  good : ∀ d ∈ rds, RdGood d
  sub : ∀ n ∈ ns, n ∈ pts
  ln : ns.length ≤ 5
  ord : OrdS ns
  bN : Mb 40 (sumB pts rds).N
  bR : Vb 40 (sumB pts rds).R
  bC : Bd 400 (sumB pts rds).C
  li : (innerOf pts ns).length ≤ 5
  ps : PsOk (blockM (sumB pts rds).N (innerOf pts ns) (innerOf pts ns)) (innerOf pts ns).length
  bP : Mb 40 (pseudo (blockM (sumB pts rds).N (innerOf pts ns) (innerOf pts ns)) (innerOf pts ns).length)
theorem inner_lt {pts ns : List Str} : ∀ x ∈ innerOf pts ns, x < pts.length := fun x hx => by
  obtain ⟨i, hi, e⟩ := List.mem_filterMap.mp hx
  split at e
  · cases e
  · cases e
    exact List.mem_range.mp hi
theorem outer_lt {pts ns : List Str} (h : ∀ n ∈ ns, n ∈ pts) : ∀ x ∈ outerOf pts ns, x < pts.length := fun x hx => by
  obtain ⟨n, hn, rfl⟩ := List.mem_map.mp hx
  exact List.idxOf_lt_length_of_mem (h n hn)
theorem outer_length (pts ns : List Str) : (outerOf pts ns).length = ns.length := List.length_map ..
theorem sumB_ok {pts : List Str} {rds : List RdD} (h : ∀ d ∈ rds, RdGood d) : SumB pts.length rds.length (sumB pts rds) := by
  have := SumB.of (n := pts.length) (rs := rds.map (rn pts)) fun y hy => by
    obtain ⟨e, he, rfl⟩ := List.mem_map.mp hy
    exact rn_ok (h e he)
  rw [List.length_map] at this
  exact this
section
variable {P : Program} {w : World} {K : PySem.W.Frag} {mg : Str → Option Value} {base : Heap}

def spBorder (K : PySem.W.Frag) : Sp := fun vs H Q _ => ∃ (H0 : Hp) (b : Addr) (pts : List Str) (rds : List RdD) (l : Addr) (ns : List Str), vs = [.ref b, .ref l] ∧ Bk K H0 H b pts rds ∧ H l = some (.lst (ns.map V.str)) ∧ BfOk pts rds ns ∧ Tabs (TL K) H ∧
  ∀ H' z, ExtN H H' → Tabs (TL K) H' → IsForm K H' z (borderOf pts rds ns) → Q z H'
theorem Bk.any {K : PySem.W.Frag} {H0 H H' : Hp} {b : Addr} {pts : List Str} {rds : List RdD} (h : Bk K H0 H b pts rds) (s : ExtN H H') : Bk K (fun _ => none) H' b pts rds := by
  obtain ⟨dx, pl, dl, rl, kvs, rs, k⟩ := h
  exact ⟨dx, pl, dl, rl, kvs, rs, (fun _ _ e => by cases e), s _ _ k.ins (fun _ z => by cases z), rfl, rfl, rfl, k.ne, s _ _ k.hpts (fun _ z => by cases z), s _ _ k.app (fun _ z => by cases z), k.keys, s _ _ k.hrds (fun _ z => by cases z), k.al.mono IsRd.fz (Fz.ofN s)⟩
/-- the making of a form -/
theorem rd_form {C : Addr} {H : Hp} {n m v c : V} {R : Hp → Prop} {E : XK} {x dx : Addr} (nx : H x = none) (nd : H dx = none) (k : ∀ H', Same H H' → H' x = some (.ins C dx (ff n m v c)) → R H') :
    spFInit C [.ref x, n, m, v, c] (upd (upd H dx (.own x)) x (.ins C dx [])) (fun v H2 => v = .non ∧ R H2) E := by
  refine ⟨x, dx, n, m, v, c, rfl, upd_same, rfl, ?_⟩
  rw [upd_upd]
  exact k _ (fun a u e => by rw [upd_ne (ne_of_none e nx), upd_ne (ne_of_none e nd)]; exact e) upd_same
set_option maxHeartbeats 16000000 in
theorem sc_border_form : FnScope ["book", "border", "names", "inner", "outer_places", "normal", "right", "constant", "inverse", "across", "turned", "known", "taken", "matrix", "vector"] ["book", "border"] (defScope sBorderForm) := ⟨rfl, rfl, rfl, by decide +kernel, rfl, by decide +kernel, by decide +kernel⟩
theorem ok_border_form (T : TX w K mg) (B : Tabz K mg base) : C8.Cal P w K mg base 9 "border_form" (spBorder K) [] := by
  refine cal1c (d_border_form T) (g_border_form T) (ps := ["book", "border"]) (fun _ _ _ _ _ _ us hl => match us, hl with | [_, _], _ => rfl) sc_border_form (fun vs H Q E h => ?_) (fun A outr s H vs Q E hr h => ?_)
  · obtain ⟨H0, b, pts, rds, l, ns, rfl, _⟩ := h
    rfl
  · obtain ⟨H0, b, pts, rds, l, ns, rfl, hB, hl, ok, hT, k⟩ := h
    refine ⟨_, (pss_cons (ps_expr (C8.pe_c (j := 8) (ok_require_points T) hr (by decide) rfl (pa_cons (pv 0) (pa_cons (pv 1) pa_nil))))
      (pss_cons (ps_set (i := 2) sc_border_form.nd rfl (Or.inl rfl) (pe_callTy call_tuple_frz (by rfl) (n_tuple T) (by decide +kernel) (pa_cons (pe_sortLam (T := TL K) (by rfl) (n_sorted T) (n_str T) (pv 1) (by exact ⟨fun _ _ _ _ _ => rfl, ⟨_, _, _, rfl⟩, ⟨rfl, rfl, rfl, by decide +kernel, rfl, by decide +kernel, by decide +kernel⟩, rfl, ⟨rfl, rfl⟩⟩) B.bf rfl (by show (He.tabOf K (cBF K), lamQ "border_form") ∈ TL K; simp [TL]) (fun p hp e => by rcases List.mem_cons.mp hp with rfl | hp; rfl; rcases List.mem_cons.mp hp with rfl | hp; exact absurd e.symm T.ex2.1; cases hp) hr rfl rfl) pa_nil)))
      (pss_cons (ps_asg (C8.pe_c (j := 8) (ok_places_of T) hr (by decide) rfl (pa_cons (pv 0) (pa_cons (pv 2) pa_nil))) (pg_tup rfl (pgs_cons (pg_name (i := 3) sc_border_form.nd rfl (Or.inl rfl)) (pgs_cons (pg_name (i := 4) sc_border_form.nd rfl (Or.inl rfl)) pgs_nil))))
      (pss_cons (ps_asg (C8.pe_c (j := 8) (ok_sums_of T) hr (by decide) rfl (pa_cons (pv 0) pa_nil)) (pg_tup rfl (pgs_cons (pg_name (i := 5) sc_border_form.nd rfl (Or.inl rfl)) (pgs_cons (pg_name (i := 6) sc_border_form.nd rfl (Or.inl rfl)) (pgs_cons (pg_name (i := 7) sc_border_form.nd rfl (Or.inl rfl)) pgs_nil)))))
      (pss_cons (ps_set (i := 8) sc_border_form.nd rfl (Or.inl rfl) (C8.pe_c (j := 8) (ok_pseudo_inverse T) hr (by decide) rfl (pa_cons (C8.pe_c (j := 8) (ok_block T) hr (by decide) rfl (pa_cons (pv 5) (pa_cons (pv 3) (pa_cons (pv 3) pa_nil)))) (pa_cons (pe_callB call_len_seq (by rfl) (n_len T) PySem.boot_len (pa_cons (pv 3) pa_nil)) pa_nil))))
      (pss_cons (ps_set (i := 9) sc_border_form.nd rfl (Or.inl rfl) (C8.pe_c (j := 8) (ok_block T) hr (by decide) rfl (pa_cons (pv 5) (pa_cons (pv 4) (pa_cons (pv 3) pa_nil)))))
      (pss_cons (ps_set (i := 10) sc_border_form.nd rfl (Or.inl rfl) (C8.pe_c (j := 8) (ok_transpose T) hr (by decide) rfl (pa_cons (pv 9) (pa_cons (pe_callB call_len_seq (by rfl) (n_len T) PySem.boot_len (pa_cons (pv 3) pa_nil)) pa_nil))))
      (pss_cons (ps_set (i := 11) sc_border_form.nd rfl (Or.inl rfl) (C8.pe_c (j := 8) (ok_apply T) hr (by decide) rfl (pa_cons (pv 8) (pa_cons (C8.pe_c (j := 8) (ok_pick T) hr (by decide) rfl (pa_cons (pv 6) (pa_cons (pv 3) pa_nil))) pa_nil))))
      (pss_cons (ps_set (i := 12) sc_border_form.nd rfl (Or.inl rfl) (C8.pe_c (j := 8) (ok_product T) hr (by decide) rfl (pa_cons (C8.pe_c (j := 8) (ok_product T) hr (by decide) rfl (pa_cons (pv 9) (pa_cons (pv 8) (pa_cons (pe_callB call_len_seq (by rfl) (n_len T) PySem.boot_len (pa_cons (pv 3) pa_nil)) pa_nil)))) (pa_cons (pv 10) (pa_cons (pe_callB call_len_seq (by rfl) (n_len T) PySem.boot_len (pa_cons (pv 2) pa_nil)) pa_nil)))))
      (pss_cons (ps_set (i := 13) sc_border_form.nd rfl (Or.inl rfl) (C8.pe_c (j := 8) (ok_sum_of T) hr (by decide) rfl (pa_cons (C8.pe_c (j := 8) (ok_block T) hr (by decide) rfl (pa_cons (pv 5) (pa_cons (pv 4) (pa_cons (pv 4) pa_nil)))) (pa_cons (C8.pe_c (j := 8) (ok_scaled T) hr (by decide) rfl (pa_cons (C8.pe_mk (j := 8) (mk_R1 T) hr (by decide) rfl (pa_cons (pe_un un_neg pe_int) pa_nil)) (pa_cons (pv 12) pa_nil))) pa_nil))))
      (pss_cons (ps_set (i := 14) sc_border_form.nd rfl (Or.inl rfl) (C8.pe_c (j := 8) (ok_minus T) hr (by decide) rfl (pa_cons (C8.pe_c (j := 8) (ok_pick T) hr (by decide) rfl (pa_cons (pv 6) (pa_cons (pv 4) pa_nil))) (pa_cons (C8.pe_c (j := 8) (ok_apply T) hr (by decide) rfl (pa_cons (pv 9) (pa_cons (pv 11) pa_nil))) pa_nil))))
      (pss_one (ps_ret (C8.pe_mk (j := 8) (mk_form T) hr (by decide) rfl (pa_cons (pv 2) (pa_cons (pv 13) (pa_cons (pv 14) (pa_cons (pe_op (op_qsub (j := 8) T hr (by decide)) (pv 7) (C8.pe_c (j := 8) (ok_dot T) hr (by decide) rfl (pa_cons (C8.pe_c (j := 8) (ok_pick T) hr (by decide) rfl (pa_cons (pv 6) (pa_cons (pv 3) pa_nil))) (pa_cons (pv 11) pa_nil)))) pa_nil)))))))))))))))))), ?_⟩
    refine ⟨_, rfl, _, rfl, H0, b, pts, rds, l, ns, rfl, hB, hl, ok.sub, ?_⟩
    refine ⟨_, rfl, l, ns, rfl, hl, ok.ord, by have := ok.ln; omega, hT, fun H1 sp eN T1 hsp => ?_⟩
    refine ⟨sp, ns.map V.str, rfl, SqL.of upd_same, fun nt no hnt hno => ?_⟩
    have s1 : Same H1 (upd (upd H1 sp (.lst (ns.map V.str))) nt (.frz no (.tup (ns.map V.str)))) := sm_upd' (sm_upd hsp) hnt
    have hn1 : upd (upd H1 sp (.lst (ns.map V.str))) nt (.frz no (.tup (ns.map V.str))) nt = some (.frz no (.tup (ns.map V.str))) := upd_same
    have hB1 := (hB.any eN).same s1
    have T2 := T1.ext s1
    have eN1 := eN.trans (ExtN.of s1)
    generalize upd (upd H1 sp (.lst (ns.map V.str))) nt (.frz no (.tup (ns.map V.str))) = H2 at *
    clear s1 hnt hsp eN hB hT T1
    have lns := ok.ln
    have lpt := ok.lp
    have lin := ok.li
    have sb := sumB_ok (pts := pts) ok.good
    have hnt : SqT K H2 nt (ns.map V.str) := .inl (.inr ⟨no, hn1⟩)
    refine ⟨_, rfl, _, rfl, _, b, pts, rds, nt, ns, rfl, hB1, hnt, ok.sub, by omega, by omega, fun H3 o3 il ol s3 ho3 hil hol => ?_⟩
    refine ⟨o3, [.ref il, .ref ol], rfl, SqT.of ho3, rfl, .ref il, [.ref ol], rfl, .ref ol, [], rfl, rfl, ?_⟩
    refine ⟨_, rfl, _, b, pts, rds, rfl, hB1.same s3, ok.lp, ok.lr, ok.good, fun H4 o4 n4 r4 c4 s4 ho4 hn4 hr4 hc4 => ?_⟩
    refine ⟨o4, [n4, r4, c4], rfl, SqT.of ho4, rfl, n4, [r4, c4], rfl, r4, [c4], rfl, c4, [], rfl, rfl, ?_⟩
    have oin : ∀ x ∈ innerOf pts ns, x < pts.length := inner_lt
    have oout := outer_lt ok.sub
    have lout := outer_length pts ns
    have bN := ok.bN
    have bR := ok.bR
    have bC := ok.bC
    have psok := ok.ps
    have bP := ok.bP
    have hk : k = k := rfl
    have eD : borderOf pts rds ns = (let s := sumB pts rds; let inn := innerOf pts ns; let out := outerOf pts ns; let inv := pseudo (blockM s.N inn inn) inn.length; let across := blockM s.N out inn; let known := apply inv (pickV s.R inn); let taken := product (product across inv inn.length) (transpose across inn.length) ns.length;
      ⟨ns, sumOf (blockM s.N out out) (scaled (-1) taken), minus (pickV s.R out) (apply across known), s.C - dot (pickV s.R inn) known⟩) := rfl
    rw [eD] at k
    generalize sumB pts rds = S at *
    generalize innerOf pts ns = inn at *
    generalize outerOf pts ns = out at *
    dsimp only at k
    have l1 : (pvs inn).length = inn.length := List.length_map ..
    have l2 : (ns.map V.str).length = ns.length := List.length_map ..
    have hblk : ∀ r ∈ inn, r < S.N.length ∧ ∀ c ∈ inn, c < (S.N.getD r []).length := fun r hr => ⟨by rw [sb.nl]; exact oin r hr, fun c hc => by rw [sb.nw _ (rowD_mem (by rw [sb.nl]; exact oin r hr))]; exact oin c hc⟩
    have hblk2 : ∀ r ∈ out, r < S.N.length ∧ ∀ c ∈ inn, c < (S.N.getD r []).length := fun r hr => ⟨by rw [sb.nl]; exact oout r hr, fun c hc => by rw [sb.nw _ (rowD_mem (by rw [sb.nl]; exact oout r hr))]; exact oin c hc⟩
    have hblk3 : ∀ r ∈ out, r < S.N.length ∧ ∀ c ∈ out, c < (S.N.getD r []).length := fun r hr => ⟨by rw [sb.nl]; exact oout r hr, fun c hc => by rw [sb.nw _ (rowD_mem (by rw [sb.nl]; exact oout r hr))]; exact oout c hc⟩
    have hrN : ∀ r ∈ inn, r < S.N.length := fun r hr => (hblk r hr).1
    have hrO : ∀ r ∈ out, r < S.N.length := fun r hr => (hblk2 r hr).1
    -- inverse
    refine ⟨_, rfl, _, rfl, _, rfl, n4, S.N, il, il, inn, inn, rfl, hn4, s4 _ _ hil, s4 _ _ hil, by omega, by omega, hblk, fun H5 z5 s5 h5 => ?_⟩
    have s45 := s4.trans s5
    refine ⟨_, rfl, il, _, rfl, .inl (SqL.of (s45 _ _ hil)), ?_⟩
    rw [l1]
    refine ⟨z5, _, inn.length, rfl, h5, psok, fun H6 z6 s6 h6 => ?_⟩
    have s46 := s45.trans s6
    have plen := pseudo_len (blockM S.N inn inn) inn.length
    have pwd := pseudo_wd (blockM S.N inn inn) inn.length
    rw [block_len] at pwd
    generalize pseudo (blockM S.N inn inn) inn.length = PI at *
    -- across
    have s4i : Same H4 H6 := s5.trans s6
    refine ⟨_, rfl, _, rfl, _, rfl, n4, S.N, ol, il, out, inn, rfl, IsM.fz _ _ _ _ (Fz.of s4i) hn4, s46 _ _ hol, s46 _ _ hil, by omega, by omega, hblk2, fun H7 z7 s7 h7 => ?_⟩
    have s47 := s46.trans s7
    have bA := block_mb (rs := out) (cs := inn) bN sb.nw hrO oin (by omega) (by omega)
    have wA := block_wd S.N out inn
    have lA := block_len S.N out inn
    generalize blockM S.N out inn = AC at *
    -- turned
    refine ⟨_, rfl, _, rfl, il, _, rfl, .inl (SqL.of (s47 _ _ hil)), ?_⟩
    rw [l1]
    refine ⟨z7, AC, inn.length, rfl, h7, by omega, by omega, fun r hr => by rw [wA r hr]; exact Nat.le_refl _, fun H8 z8 s8 h8 => ?_⟩
    have s48 := s47.trans s8
    -- known
    have s48i : Same H4 H8 := (s4i.trans s7).trans s8
    refine ⟨_, rfl, _, rfl, _, rfl, r4, S.R, il, inn, rfl, IsV.fz _ _ _ _ (Fz.of s48i) hr4, s48 _ _ hil, by omega, fun r hr => by rw [sb.rl]; exact oin r hr, fun H9 z9 s9 h9 => ?_⟩
    have bp := pick_vb (ps := inn) bR (fun r hr => by rw [sb.rl]; exact oin r hr) (by omega)
    have lpk := pick_len S.R inn
    have e1 : inn.length * (40 + 40 + 1) ≤ 5 * 81 := Nat.mul_le_mul_right _ lin
    refine ⟨_, z9, PI, _, 40, 40, rfl, IsM.fz _ _ _ _ (Fz.of ((s7.trans s8).trans s9)) h6, h9, bP, bp, fun r hr => by rw [pwd r hr, lpk], by rw [lpk]; omega, fun Ha za sa ha => ?_⟩
    have s4a := (s48.trans s9).trans sa
    have bk := apply_vb bP bp (by rw [lpk]; exact pwd)
    rw [lpk] at bk
    have bk2 : Vb 406 (apply PI (pickV S.R inn)) := bk.mono (by omega)
    have lk := apply_len PI (pickV S.R inn)
    generalize hKN : apply PI (pickV S.R inn) = KN at *
    -- taken
    have s7a : Same H7 Ha := (s8.trans s9).trans sa
    have s6a : Same H6 Ha := s7.trans s7a
    refine ⟨_, rfl, _, rfl, _, rfl, il, _, rfl, .inl (SqL.of (s4a _ _ hil)), ?_⟩
    rw [l1]
    refine ⟨z7, _, AC, PI, inn.length, 40, 40, rfl, IsM.fz _ _ _ _ (Fz.of s7a) h7, IsM.fz _ _ _ _ (Fz.of s6a) h6, bA, bP, by omega, fun r hr => by rw [wA r hr, plen], fun r hr => by rw [pwd r hr]; exact Nat.le_refl _, by rw [plen]; omega, fun Hb zb sb1 hb => ?_⟩
    have b1 := product_mb bA bP (c := inn.length) (by omega) (fun r hr => by rw [pwd r hr]; exact Nat.le_refl _) (by rw [plen]; exact wA)
    rw [plen] at b1
    have b1' : Mb 406 (product AC PI inn.length) := b1.mono (by omega)
    have w1 := product_wd AC PI inn.length
    have ll1 := product_len AC PI inn.length
    generalize product AC PI inn.length = P1 at *
    have s2b : Same H2 Hb := ((s3.trans s4a).trans sb1)
    refine ⟨_, rfl, _, rfl, nt, _, rfl, .inr (SqT.ext hnt s2b), ?_⟩
    rw [l2]
    have bT := transpose_mb bA (c := inn.length) (by omega) (fun r hr => by rw [wA r hr]; exact Nat.le_refl _)
    have wT := transpose_wd AC inn.length
    have lT := transpose_len AC inn.length
    rw [lA, lout] at wT
    have s8b : Same H8 Hb := (s9.trans sa).trans sb1
    have e2 : inn.length * (406 + 40 + 1) ≤ 5 * 447 := Nat.mul_le_mul_right _ lin
    refine ⟨zb, z8, P1, transpose AC inn.length, ns.length, 406, 40, rfl, hb, IsM.fz _ _ _ _ (Fz.of s8b) h8, b1', bT, by omega, fun r hr => by rw [w1 r hr, lT], fun r hr => by rw [wT r hr]; exact Nat.le_refl _, by rw [lT]; omega, fun Hc zc sc hc => ?_⟩
    have b2 := product_mb b1' bT (c := ns.length) (by omega) (fun r hr => by rw [wT r hr]; exact Nat.le_refl _) (by rw [lT]; exact w1)
    rw [lT] at b2
    have b2' : Mb 2236 (product P1 (transpose AC inn.length) ns.length) := b2.mono (by omega)
    have w2 := product_wd P1 (transpose AC inn.length) ns.length
    have ll2 := product_len P1 (transpose AC inn.length) ns.length
    generalize product P1 (transpose AC inn.length) ns.length = TK at *
    -- matrix
    have s4c : Same H4 Hc := ((s4i.trans s6a).trans sb1 |>.trans sc : Same H4 Hc)
    have s3c : Same H3 Hc := s4.trans s4c
    refine ⟨_, rfl, _, rfl, _, rfl, n4, S.N, ol, ol, out, out, rfl, IsM.fz _ _ _ _ (Fz.of s4c) hn4, s3c _ _ hol, s3c _ _ hol, by omega, by omega, hblk3, fun Hd zd sd hd => ?_⟩
    refine ⟨1, rfl, ?_⟩
    refine fun x0 dx0 nx0 nd0 ne0 => rd_mk (q := -1) nx0 nd0 (by decide) (by decide +kernel) (d_int (-1)) fun He se he => ?_
    refine ⟨_, rfl, _, zc, -1, TK, rfl, he, IsM.fz _ _ _ _ (Fz.of (sd.trans se)) hc, (Bd.one (by decide)).neg, b2'.mono (by decide), fun Hf zf sf hf => ?_⟩
    have bO := block_mb (rs := out) (cs := out) bN sb.nw hrO oout (by omega) (by omega)
    have wO := block_wd S.N out out
    have lO := block_len S.N out out
    have bS := scaled_mb (n := 1) (f := -1) (Bd.one (by decide)).neg b2'
    have wS := scaled_wd (f := -1) w2
    have lS := scaled_len (-1) TK
    generalize blockM S.N out out = OO at *
    generalize scaled (-1) TK = ST at *
    refine ⟨zd, zf, OO, ST, rfl, IsM.fz _ _ _ _ (Fz.of (se.trans sf)) hd, hf, bO.mono (by decide), bS.mono (by decide), by omega, fun i x y e1 e2 => by rw [wO.at e1, wS.at e2, lout], fun Hg zg sg hg => ?_⟩
    -- vector
    have s4g : Same H4 Hg := ((s4c.trans sd).trans se |>.trans sf |>.trans sg : Same H4 Hg)
    have s3g : Same H3 Hg := s4.trans s4g
    refine ⟨_, rfl, _, rfl, r4, S.R, ol, out, rfl, IsV.fz _ _ _ _ (Fz.of s4g) hr4, s3g _ _ hol, by omega, fun r hr => by rw [sb.rl]; exact oout r hr, fun Hh zh sh hh => ?_⟩
    have bpo := pick_vb (ps := out) bR (fun r hr => by rw [sb.rl]; exact oout r hr) (by omega)
    have lpo := pick_len S.R out
    have sah : Same Ha Hh := ((((sb1.trans sc).trans sd).trans se |>.trans sf) |>.trans sg |>.trans sh : Same Ha Hh)
    have e3 : inn.length * (40 + 406 + 1) ≤ 5 * 447 := Nat.mul_le_mul_right _ lin
    refine ⟨_, rfl, _, rfl, z7, za, AC, KN, 40, 406, rfl, IsM.fz _ _ _ _ (Fz.of (s7a.trans sah)) h7, IsV.fz _ _ _ _ (Fz.of sah) ha, bA, bk2, fun r hr => by rw [wA r hr, lk, plen], by rw [lk, plen]; omega, fun Hi zi si hi => ?_⟩
    have bv := apply_vb bA bk2 (by rw [lk, plen]; exact wA)
    rw [lk, plen] at bv
    have lv := apply_len AC KN
    generalize apply AC KN = AK at *
    refine ⟨zh, zi, _, AK, rfl, IsV.fz _ _ _ _ (Fz.of si) hh, hi, bpo.mono (by decide), bv.mono (by omega), by omega, fun Hj zj sj hj => ?_⟩
    -- the form
    have s4j : Same H4 Hj := ((s4g.trans sh).trans si |>.trans sj : Same H4 Hj)
    have s3j : Same H3 Hj := s4.trans s4j
    have saj : Same Ha Hj := ((sah.trans si).trans sj : Same Ha Hj)
    refine ⟨_, rfl, _, rfl, _, rfl, _, rfl, _, rfl, _, rfl, r4, S.R, il, inn, rfl, IsV.fz _ _ _ _ (Fz.of s4j) hr4, s3j _ _ hil, by omega, fun r hr => by rw [sb.rl]; exact oin r hr, fun Hk zk sk hkk => ?_⟩
    refine ⟨_, rfl, zk, za, _, KN, 40, 406, rfl, hkk, IsV.fz _ _ _ _ (Fz.of (saj.trans sk)) ha, bp, bk2, by rw [lpk, lk, plen], by rw [lpk]; omega, fun Hl zl sl hl2 => ?_⟩
    have bd := dot_bd bp.2 bk2.2 (by rw [lpk, lk, plen])
    rw [lpk] at bd
    refine rd_q2 (IsQ.fz _ _ _ _ (Fz.of ((s4j.trans sk).trans sl)) hc4) hl2 (bC.mono (by decide)) (bd.mono (by omega)) fun Hm zm sm hm => ?_
    refine fun x1 dx1 nx1 nd1 ne1 => rd_form nx1 nd1 fun Hn sn hx => ?_
    have s2n : Same H2 Hn := ((s3.trans s3j).trans sk |>.trans sl |>.trans sm |>.trans sn : Same H2 Hn)
    have sgn : Same Hg Hn := (((sh.trans si).trans sj).trans sk |>.trans sl |>.trans sm |>.trans sn : Same Hg Hn)
    have sjn : Same Hj Hn := ((sk.trans sl).trans sm).trans sn
    exact k _ _ (eN1.trans (ExtN.of s2n)) (T2.ext s2n) ⟨x1, dx1, _, _, _, _, rfl, hx, ⟨nt, no, rfl, s2n _ _ hn1, hno⟩, IsM.fz _ _ _ _ (Fz.of sgn) hg, IsV.fz _ _ _ _ (Fz.of sjn) hj, IsQ.fz _ _ _ _ (Fz.of sn) hm⟩

end
end PN
end
section
set_option maxRecDepth 100000
set_option maxHeartbeats 4000000
namespace PN
open PySem PySem.Spec PyProof.Rows L2
open LamX
/-! ### join -/
def joinOf (a b : FormD) : FormD := ⟨a.names, sumOf a.m b.m, plus a.v b.v, a.c + b.c⟩
structure FdOk (d : FormD) : Prop where
  ln : d.names.length ≤ 100
  nd : d.names.Nodup
  ord : OrdS d.names
  lm : d.m.length = d.names.length
  wm : Wd d.names.length d.m
  lv : d.v.length = d.names.length
  bm : Mb 2000 d.m
  bv : Vb 2000 d.v
  bc : Bd 2000 d.c
section
variable {P : Program} {w : World} {K : PySem.W.Frag} {mg : Str → Option Value} {base : Heap}

def spJoin (K : PySem.W.Frag) : Sp := fun vs H Q _ => ∃ (z1 z2 : V) (a b : FormD), vs = [z1, z2] ∧ IsForm K H z1 a ∧ IsForm K H z2 b ∧ FdOk a ∧ FdOk b ∧ a.names = b.names ∧ Tabs (TL K) H ∧
  ∀ H' z, ExtN H H' → Tabs (TL K) H' → IsForm K H' z (joinOf a b) → Q z H'
set_option maxHeartbeats 16000000 in
theorem sc_join : FnScope ["first", "second", "names", "name", "one", "other"] ["first", "second"] (defScope sJoin) := ⟨rfl, rfl, rfl, by decide +kernel, rfl, by decide +kernel, by decide +kernel⟩
theorem ok_join (T : TX w K mg) (B : Tabz K mg base) : C8.Cal P w K mg base 6 "join" (spJoin K) [] := by
  refine cal1c (d_join T) (g_join T) (ps := ["first", "second"]) (fun _ _ _ _ _ _ us hl => match us, hl with | [_, _], _ => rfl) sc_join (fun vs H Q E h => ?_) (fun A outr s H vs Q E hr h => ?_)
  · obtain ⟨z1, z2, a, b, rfl, _⟩ := h
    rfl
  · obtain ⟨z1, z2, a, b, rfl, ha, hb, oa, ob, en, hT, k⟩ := h
    refine ⟨_, (pss_cons (ps_set (i := 2) sc_join.nd rfl (Or.inl rfl) (pe_callTy call_list_of (by rfl) (n_list T) (by decide +kernel) (pa_cons (pe_fldK (K := K) (pv 0) rfl) pa_nil)))
      (pss_cons (ps_for PassesOwn.never rfl (pi_tupK (K := K) (pe_fldK (K := K) (pv 1) rfl)) (pg_name (i := 3) sc_join.nd rfl (Or.inl rfl)) (pss_one (ps_if (pt_notinK (K := K) (pv 3) (pv 2)) (pss_one ps_never) pss_nil)))
      (pss_cons (ps_set (i := 2) sc_join.nd rfl (Or.inl rfl) (pe_callTy call_tuple_frz (by rfl) (n_tuple T) (by decide +kernel) (pa_cons (pe_sortLam (T := TL K) (by rfl) (n_sorted T) (n_str T) (pv 2) (by exact ⟨fun _ _ _ _ _ => rfl, ⟨_, _, _, rfl⟩, ⟨rfl, rfl, rfl, by decide +kernel, rfl, by decide +kernel, by decide +kernel⟩, rfl, ⟨rfl, rfl⟩⟩) B.jn rfl (by show (He.tabOf K (cJ K), lamQ "join") ∈ TL K; simp [TL]) (fun p hp e => by rcases List.mem_cons.mp hp with rfl | hp; exact absurd e T.ex2.1; rcases List.mem_cons.mp hp with rfl | hp; rfl; cases hp) hr rfl rfl) pa_nil)))
      (pss_cons (ps_set (i := 4) sc_join.nd rfl (Or.inl rfl) (C8.pe_c (j := 5) (ok_spread T) hr (by decide) rfl (pa_cons (pv 0) (pa_cons (pv 2) pa_nil))))
      (pss_cons (ps_set (i := 5) sc_join.nd rfl (Or.inl rfl) (C8.pe_c (j := 5) (ok_spread T) hr (by decide) rfl (pa_cons (pv 1) (pa_cons (pv 2) pa_nil))))
      (pss_one (ps_ret (C8.pe_mk (j := 5) (mk_form T) hr (by decide) rfl (pa_cons (pv 2) (pa_cons (C8.pe_c (j := 5) (ok_sum_of T) hr (by decide) rfl (pa_cons (pe_ixTK (K := K) (pv 4) pe_int (fun _ _ => rfl)) (pa_cons (pe_ixTK (K := K) (pv 5) pe_int (fun _ _ => rfl)) pa_nil))) (pa_cons (C8.pe_c (j := 5) (ok_plus T) hr (by decide) rfl (pa_cons (pe_ixTK (K := K) (pv 4) pe_int (fun _ _ => rfl)) (pa_cons (pe_ixTK (K := K) (pv 5) pe_int (fun _ _ => rfl)) pa_nil))) (pa_cons (pe_op (op_qadd (j := 5) T hr (by decide)) (pe_fldK (K := K) (pv 0) rfl) (pe_fldK (K := K) (pv 1) rfl)) pa_nil)))))))))))), ?_⟩
    obtain ⟨fa, fdx, nv, mv, vv, cv, rfl, hfa, hnm, _⟩ := id ha
    obtain ⟨na, no, rfl, hna, hno⟩ := hnm
    obtain ⟨fb, gdx, nv2, mv2, vv2, cv2, rfl, hfb, hnm2, _⟩ := id hb
    obtain ⟨nb, no2, rfl, hnb, hno2⟩ := hnm2
    have lna := oa.ln
    have lns : (b.names.map V.str).length = b.names.length := List.length_map ..
    refine ⟨_, rfl, fa, _, fdx, _, _, rfl, hfa, c_Form T, na_Form_names T, lk_names, na, _, rfl, .inr (.inl (.inr ⟨no, hna⟩)), fun L hL => ?_⟩
    have s1 : Same H (upd H L (.lst (a.names.map V.str))) := sm_upd hL
    have hL1 : upd H L (.lst (a.names.map V.str)) L = some (.lst (a.names.map V.str)) := upd_same
    generalize upd H L (.lst (a.names.map V.str)) = H1 at *
    have hq2 : SqT K H1 nb (b.names.map V.str) := .inl (.inr ⟨no2, s1 _ _ hnb⟩)
    refine ⟨_, rfl, fb, _, gdx, _, _, rfl, s1 _ _ hfb, c_Form T, na_Form_names T, lk_names, nb, rfl, ⟨_, hq2⟩, ?_⟩
    refine for_tup (K := K) (a := nb) (xs := b.names.map V.str) (fun i σ H' => ∃ v3 : Option V, σ = [some (.ref fa), some (.ref fb), some (.ref L), v3, none, none] ∧ H1 = H') ⟨none, rfl, rfl⟩ (fun i σ H' _ h => ?_) ?_ ?_
    · obtain ⟨_, _, rfl⟩ := h
      exact hq2
    · rintro i x σ H' hx ⟨v3, rfl, rfl⟩
      obtain ⟨n, e1, rfl⟩ := strs_at hx
      refine ⟨_, rfl, _, rfl, L, _, rfl, .inl (SqL.of hL1), rfl, all_flatS _, _, rfl, ?_⟩
      rw [inV_str, decide_eq_true (by rw [en]; exact List.mem_of_getElem? e1)]
      exact iteF ⟨_, rfl, rfl⟩
    · rintro σ H' ⟨v3, rfl, rfl⟩
      refine ⟨_, rfl, L, a.names, rfl, hL1, oa.ord, by omega, hT.ext s1, fun H2 sp eN T1 hsp => ?_⟩
      refine ⟨sp, a.names.map V.str, rfl, SqL.of upd_same, fun nt no3 hnt hno3 => ?_⟩
      have s3 : Same H2 (upd (upd H2 sp (.lst (a.names.map V.str))) nt (.frz no3 (.tup (a.names.map V.str)))) := sm_upd' (sm_upd hsp) hnt
      have hn1 : upd (upd H2 sp (.lst (a.names.map V.str))) nt (.frz no3 (.tup (a.names.map V.str))) nt = some (.frz no3 (.tup (a.names.map V.str))) := upd_same
      have T2 := T1.ext s3
      have eN1 := ((ExtN.of s1).trans eN).trans (ExtN.of s3)
      generalize upd (upd H2 sp (.lst (a.names.map V.str))) nt (.frz no3 (.tup (a.names.map V.str))) = H3 at *
      have fz := Fz.ofN eN1
      have ha3 := IsForm.fz _ _ _ _ fz ha
      have hb3 := IsForm.fz _ _ _ _ fz hb
      have hnt3 : SqT K H3 nt (a.names.map V.str) := .inl (.inr ⟨no3, hn1⟩)
      refine ⟨_, rfl, _, rfl, _, a, nt, rfl, ha3, hnt3, oa.nd, oa.ln, oa.lm, oa.wm, oa.lv, fun H4 o4 a4 b4 s4 ho4 ha4 hb4 => ?_⟩
      refine ⟨_, rfl, _, rfl, _, b, nt, rfl, IsForm.fz _ _ _ _ (Fz.of s4) hb3, SqT.ext (by rw [← en]; exact hnt3) s4, ob.nd, ob.ln, ob.lm, ob.wm, ob.lv, fun H5 o5 a5 b5 s5 ho5 ha5 hb5 => ?_⟩
      have s35 := s4.trans s5
      refine ⟨_, rfl, ?_⟩
      refine ⟨_, rfl, o4, _, _, a4, rfl, rfl, SqT.of (s5 _ _ ho4), at_of (j := 0) rfl rfl, ?_⟩
      refine ⟨_, rfl, o5, _, _, a5, rfl, rfl, SqT.of ho5, at_of (j := 0) rfl rfl, ?_⟩
      have lab : a.m.length = b.m.length := by rw [oa.lm, ob.lm, en]
      refine ⟨a4, a5, a.m, b.m, rfl, IsM.fz _ _ _ _ (Fz.of s5) ha4, ha5, oa.bm.mono (by decide), ob.bm.mono (by decide), lab, fun i r s e1 e2 => by rw [oa.wm.at e1, ob.wm.at e2, en], fun H6 z6 s6 h6 => ?_⟩
      have s56 := s5.trans s6
      refine ⟨_, rfl, o4, _, _, b4, rfl, rfl, SqT.of (s56 _ _ ho4), at_of (j := 1) rfl rfl, ?_⟩
      refine ⟨_, rfl, o5, _, _, b5, rfl, rfl, SqT.of (s6 _ _ ho5), at_of (j := 1) rfl rfl, ?_⟩
      refine ⟨b4, b5, a.v, b.v, rfl, IsV.fz _ _ _ _ (Fz.of s56) hb4, IsV.fz _ _ _ _ (Fz.of s6) hb5, oa.bv.mono (by decide), ob.bv.mono (by decide), by rw [oa.lv, ob.lv, en], fun H7 z7 s7 h7 => ?_⟩
      have s37 := (s35.trans s6).trans s7
      have ha7 := IsForm.fz _ _ _ _ (Fz.of s37) ha3
      have hb7 := IsForm.fz _ _ _ _ (Fz.of s37) hb3
      obtain ⟨ga, hdx, n1, m1, v1, c1, e1, hga, _, _, _, hc1⟩ := ha7
      cases e1
      obtain ⟨gb, hdx2, n2, m2, v2, c2, e2, hgb, _, _, _, hc2⟩ := hb7
      cases e2
      refine ⟨_, rfl, fa, _, hdx, _, _, rfl, hga, c_Form T, na_Form_constant T, lk_constant, ?_⟩
      refine ⟨_, rfl, fb, _, hdx2, _, _, rfl, hgb, c_Form T, na_Form_constant T, lk_constant, ?_⟩
      refine rd_q2 hc1 hc2 (oa.bc.mono (by decide)) (ob.bc.mono (by decide)) fun H8 z8 s8 h8 => ?_
      refine fun x1 dx1 nx1 nd1 ne1 => rd_form nx1 nd1 fun Hn sn hx => ?_
      have s3n := (s37.trans s8).trans sn
      exact k _ _ (eN1.trans (ExtN.of s3n)) (T2.ext s3n) ⟨x1, dx1, _, _, _, _, rfl, hx, ⟨nt, no3, rfl, s3n _ _ hn1, hno3⟩, IsM.fz _ _ _ _ (Fz.of ((s7.trans s8).trans sn)) h6, IsV.fz _ _ _ _ (Fz.of (s8.trans sn)) h7, IsQ.fz _ _ _ _ (Fz.of sn) h8⟩

end
end PN
end
section
set_option maxRecDepth 100000
set_option maxHeartbeats 4000000
namespace PN
open PySem PySem.Spec PyProof.Rows L2
open LamX
/-! ### the law's readings -/
theorem cut_takeA {xs : List V} {n : Nat} : cutV xs none (some (n : Int)) = xs.take n := by
  by_cases h : n ≤ xs.length
  · exact cut_take h
  · unfold cutV
    have e1 : HT.sIx xs.length 0 none = 0 := rfl
    have e2 : HT.sIx xs.length xs.length (some (n : Int)) = xs.length := by
      unfold HT.sIx
      simp only []
      split <;> omega
    rw [e1, e2, List.drop_zero, List.take_of_length_le (by omega), List.take_of_length_le (by omega)]
def LtS (a b : Str) : Prop := decide (a.cps.toList < b.cps.toList) = true
/-- names in strict order, none empty -/
structure NmOk (ns : List Str) : Prop where
  ord : ns.Pairwise LtS
  pos : ∀ n ∈ ns, LtS "" n
  len : ns.length ≤ 100
def CfOk (c : Int) : Prop := c = 1 ∨ c = -1 ∨ c = 2 ∨ c = -3
structure TmOk (ns : List Str) (ds : List (Str × Int)) : Prop where
  pos : 0 < ds.length
  sub : (ds.map (·.1)).Sublist ns
  cf : ∀ d ∈ ds, CfOk d.2
theorem lt_ne {a b : Str} (h : LtS a b) : a ≠ b := fun e => by
  subst e
  have := of_decide_eq_true h
  exact absurd this (List.lt_irrefl _)
theorem TmOk.nodup {ns : List Str} {ds : List (Str × Int)} (h : TmOk ns ds) (o : NmOk ns) : (ds.map (·.1)).Nodup :=
  (List.Pairwise.sublist h.sub o.ord).imp fun h => lt_ne h
theorem TmOk.mem {ns : List Str} {ds : List (Str × Int)} (h : TmOk ns ds) {d : Str × Int} (hd : d ∈ ds) : d.1 ∈ ns := h.sub.subset (List.mem_map_of_mem hd)
theorem TmOk.fit {ns : List Str} {ds : List (Str × Int)} (h : TmOk ns ds) (o : NmOk ns) : FitOk ds := by
  refine ⟨h.pos, fun i d hd => ?_⟩
  have hm := List.mem_of_getElem? hd
  have hc := h.cf d hm
  refine ⟨by unfold CfOk at hc; omega, by unfold CfOk at hc; omega, by unfold CfOk at hc; omega, ?_⟩
  cases i with
  | zero => exact o.pos _ (h.mem hm)
  | succ i =>
    have hl := (List.getElem?_eq_some_iff.mp hd).1
    have e1 := List.getElem?_eq_getElem (l := ds) (i := i) (by omega)
    have eb : bef ds (i + 1) = (ds[i]'(by omega)).1 := by show ((ds[i]?).map (fun x => x.1)).getD ("" : Str) = _; rw [e1]; rfl
    rw [eb]
    have hp := List.Pairwise.sublist h.sub o.ord
    rw [List.pairwise_iff_getElem] at hp
    have := hp i (i + 1) (by rw [List.length_map]; omega) (by rw [List.length_map]; omega) (by omega)
    rw [List.getElem_map, List.getElem_map] at this
    obtain ⟨_, e2⟩ := List.getElem?_eq_some_iff.mp hd
    rw [e2] at this
    exact this
theorem TmOk.take {ns : List Str} {ds : List (Str × Int)} (h : TmOk ns ds) : TmOk ns (ds.take 3) := by
  refine ⟨by have := h.pos; rw [List.length_take]; omega, ?_, fun d hd => h.cf d (List.mem_of_mem_take hd)⟩
  rw [List.map_take]
  exact (List.take_sublist _ _).trans h.sub
theorem ne_st {H : Hp} {l tl a : Addr} {c : Nat} {ns : List Str} (h : St H l tl c) (ha : H a = some (.lst (ns.map V.str))) : a ≠ l := fun e => by
  obtain ⟨ts, _, h1, _⟩ := h
  rw [e, h1] at ha
  cases ns with
  | nil => cases ha
  | cons n r => cases ha
theorem cf_at {r : Nat} (h : r < 6) : ∃ c, ([V.int 1, V.int (-1), V.int (-1), V.int 1, V.int 2, V.int (-3)] : List V)[r]? = some (.int c) ∧ CfOk c := by
  unfold CfOk
  match r, h with
  | 0, _ => exact ⟨_, rfl, by omega⟩
  | 1, _ => exact ⟨_, rfl, by omega⟩
  | 2, _ => exact ⟨_, rfl, by omega⟩
  | 3, _ => exact ⟨_, rfl, by omega⟩
  | 4, _ => exact ⟨_, rfl, by omega⟩
  | 5, _ => exact ⟨_, rfl, by omega⟩
section
variable {P : Program} {w : World} {K : PySem.W.Frag} {mg : Str → Option Value} {base : Heap}

/-! ### _law_terms -/
def spTerms : Sp := fun vs H Q _ => ∃ (l tl a : Addr) (ns : List Str) (c : Nat), vs = [.ref l, .ref a] ∧ St H l tl c ∧ H a = some (.lst (ns.map V.str)) ∧ NmOk ns ∧ 0 < ns.length ∧ c < 80000 ∧ ∀ H' z ds c', SmL l H H' → St H' l tl c' → c' ≤ c + 2 * ns.length + 1 → IsTerms H' z ds → TmOk ns ds → Q z H'
theorem sc__law_terms : FnScope ["_law_state", "_law_names", "_law_terms_here", "_law_name"] ["_law_state", "_law_names"] (defScope sLTerms) := ⟨rfl, rfl, rfl, by decide +kernel, rfl, by decide +kernel, by decide +kernel⟩
theorem ok__law_terms (T : TX w K mg) : C8.Cal P w K mg base 3 "_law_terms" (spTerms) [] := by
  refine cal1 (d__law_terms T) (g__law_terms T) (ps := ["_law_state", "_law_names"]) (fun _ _ _ _ _ _ us hl => match us, hl with | [_, _], _ => rfl) sc__law_terms (fun vs H Q E h => ?_) (fun cdv A outr s H vs Q E hr h => ?_)
  · obtain ⟨l, tl, a, ns, c, rfl, _⟩ := h
    rfl
  · obtain ⟨l, tl, a, ns, c, rfl, hs, ha, on, hn, hc, k⟩ := h
    refine ⟨_, (pss_cons (ps_setLc (i := 2) (own := [("_law_name", 3)]) (g := gName 3) (by rfl) sc__law_terms.nd rfl rfl (sw_true rfl rfl rfl (by decide +kernel)) (pi_listK (K := K) (pv 1)) (blkOk_by (own := [("_law_name", 3)]) (N := ["_law_state", "_law_names", "_law_terms_here", "_law_name"]) (sc := defScope sLTerms) (by decide +kernel))
      (fun _ _ _ _ _ => (pg_name (i := 3) sc__law_terms.nd rfl (Or.inl rfl))) (fun _ _ _ _ _ => (pts_one (pt_cmpR op_eq (C8.pe_c (j := 2) (ok__law_take T) hr (by decide) rfl (pa_cons (pv 0) (pa_cons pe_int pa_nil))) pe_int (nomark _)))) (fun _ _ _ _ _ => (pe_tup (pa_cons (pv 3) (pa_cons (pe_ixLK (K := K) (pe_lst (pa_cons pe_int (pa_cons (pe_un un_neg pe_int) (pa_cons (pe_un un_neg pe_int) (pa_cons pe_int (pa_cons pe_int (pa_cons (pe_un un_neg pe_int) pa_nil))))))) (C8.pe_c (j := 2) (ok__law_take T) hr (by decide) rfl (pa_cons (pv 0) (pa_cons pe_int pa_nil))) (fun _ _ => rfl)) pa_nil)))))
      (pss_cons (ps_if (pt_cmpR op_eq (pe_callB call_len_seq (by rfl) (n_len T) PySem.boot_len (pa_cons (pv 2) pa_nil)) pe_int (nomark _)) (pss_one (ps_expr (pe_bm PySem.F.plainAttrs_list PySem.F.slot_list_append PySem.F.type_list_append mt_append (pv 2) (pa_cons (pe_tup (pa_cons (pe_ixLK (K := K) (pv 1) (C8.pe_c (j := 2) (ok__law_take T) hr (by decide) rfl (pa_cons (pv 0) (pa_cons (pe_callB call_len_seq (by rfl) (n_len T) PySem.boot_len (pa_cons (pv 1) pa_nil)) pa_nil))) (fun _ _ => rfl)) (pa_cons pe_int pa_nil))) pa_nil)))) pss_nil)
      (pss_one (ps_ret (pe_callTy call_tuple_frz (by rfl) (n_tuple T) (by decide +kernel) (pa_cons (pe_slice sl_list (pv 2) po_none (po_some pe_int)) pa_nil)))))), ?_⟩
    have lns : (ns.map V.str).length = ns.length := List.length_map ..
    have nal := ne_st hs ha
    have onl := on.len
    refine ⟨_, rfl, a, rfl, ⟨_, SqL.of ha⟩, fun D hD => ?_⟩
    have nDl : D ≠ l := fun e => by obtain ⟨xs, h⟩ := hs.lst; rw [e, h] at hD; cases hD
    have nDt : D ≠ tl := fun e => by obtain ⟨xs, h⟩ := hs.some2; rw [e, h] at hD; cases hD
    refine lc_any (β := Str × Int) (R := IsTerm) (J := Itl K a) (n := ns.length) (vs := [3]) (g := gName 3) IsTerm.fz (FrOk.smL hs.lst) hD nDl (by omega)
      (fun i (ds : List (Str × Int)) H' => ∃ c', c' ≤ c + 2 * i ∧ St H' l tl c' ∧ (ds.map fun (d : Str × Int) => d.1).Sublist (ns.take i) ∧ ∀ d ∈ ds, CfOk d.2)
      ⟨c, by omega, hs.updD (Ne.symm nDl) (Ne.symm nDt), by rw [List.take_zero]; exact List.Sublist.refl _, fun d hd => by cases hd⟩ (fun i ds H' x y ⟨c', h1, h2, h3⟩ _ => ⟨c', h1, h2.updD (Ne.symm nDl) (Ne.symm nDt), h3⟩)
      (fun i ds H' s' _ hi => ⟨_, V.str (ns[i]), SqL.of (s'.1 _ _ nal ha), by rw [List.getElem?_map, List.getElem?_eq_getElem hi]; rfl⟩) (fun ds H' s' _ => ⟨_, SqL.of (s'.1 _ _ nal ha), by rw [lns]; exact Nat.le_refl _⟩) ?_ ?_
    · rintro i ds H1 x H2 hi s1 ⟨c', hc', t1, hsub, hcf⟩ ⟨rfl, hy⟩
      have hx := hy _ (SqL.of (s1.1 _ _ nal ha))
      obtain ⟨n, en, rfl⟩ := strs_at hx
      refine ⟨SmL.of (Same.refl _), fun Qg hq => hq _ wipe1 fun Nx0 kd hskip hadd => ?_⟩
      refine ⟨_, rfl, l, tl, c', 2, rfl, t1, by omega, by decide, fun r H3 hr3 s3 t3 => ⟨rfl, _, rfl, ?_⟩⟩
      refine ite2 (fun h0 => ?_) (fun h0 => ?_)
      · refine ⟨_, rfl, 1, rfl, 1, rfl, 3, rfl, (by show 6 ≤ sizeLine; decide), fun L hL => ?_⟩
        have s4 := sm_upd hL (o := .lst [V.int 1, V.int (-1), V.int (-1), V.int 1, V.int 2, V.int (-3)])
        have hL4 : upd H3 L (.lst [V.int 1, V.int (-1), V.int (-1), V.int 1, V.int 2, V.int (-3)]) L = some (.lst [V.int 1, V.int (-1), V.int (-1), V.int 1, V.int 2, V.int (-3)]) := upd_same
        have nLl : L ≠ l := fun e => by obtain ⟨xs, h⟩ := t3.lst; rw [e, h] at hL; cases hL
        have t4 := t3.same s4
        generalize upd H3 L (.lst [V.int 1, V.int (-1), V.int (-1), V.int 1, V.int 2, V.int (-3)]) = H4 at *
        refine ⟨_, rfl, l, tl, c' + 1, 6, rfl, t4, by omega, by decide, fun r6 H5 hr6 s5 t5 => ?_⟩
        obtain ⟨cc, ec, hcc⟩ := cf_at hr6
        refine ⟨L, _, _, .int cc, rfl, rfl, SqL.of (s5.1 _ _ nLl hL4), atI_nat ec, (by show 2 ≤ sizeLine; decide), fun o ho => ?_⟩
        have s6 := sm_upd ho (o := .tup [.str n, .int cc])
        refine hadd _ (n, cc) _ (((s3.trans (SmL.of s4)).trans s5).trans (SmL.of s6)) ⟨o, rfl, upd_same⟩ ⟨c' + 2, by omega, t5.same s6, ?_, ?_⟩
        · rw [List.map_append, take_snoc en]
          exact hsub.append (List.Sublist.refl _)
        · intro d hd
          rcases List.mem_append.mp hd with hd | hd
          · exact hcf d hd
          · rw [List.mem_singleton.mp hd]; exact hcc
      · exact hskip _ s3 ⟨c' + 1, by omega, t3, hsub.trans (List.take_sublist_take_left (by omega)), hcf⟩
    · intro H1 acc ds s1 hacc al ⟨c', hc', t1, hsub, hcf⟩
      have la := al.1
      rw [List.take_length] at hsub
      have fin : ∀ H2 acc2 ds2 c2, SmL l H H2 → St H2 l tl c2 → c2 ≤ c + 2 * ns.length + 1 → H2 D = some (.lst acc2) → Al IsTerm H2 acc2 ds2 → TmOk ns ds2 → ∃ i, V.int 3 = V.int i ∧ ∃ a xs, V.ref D = .ref a ∧ SqL K H2 a xs ∧ ∀ q, H2 q = none → ∃ p ys, [V.ref q] = [V.ref p] ∧ SqL K (upd H2 q (.lst (cutV xs none (some i)))) p ys ∧ ∀ l o, upd H2 q (.lst (cutV xs none (some i))) l = none → TupO o → Q (.ref l) (upd (upd H2 q (.lst (cutV xs none (some i)))) l (.frz o (.tup ys))) := by
        intro H2 acc2 ds2 c2 s2 t2 h2 hacc2 al2 ok
        refine ⟨3, rfl, D, acc2, rfl, SqL.of hacc2, fun q hq => ⟨q, _, rfl, SqL.of upd_same, fun z o hz ho => ?_⟩⟩
        have s3 := sm_upd' (sm_upd hq (o := .lst (cutV acc2 none (some 3)))) (o := .frz o (.tup (cutV acc2 none (some 3)))) hz
        refine k _ _ (ds2.take 3) c2 (s2.trans (SmL.of s3)) (t2.same s3) h2 ⟨z, o, _, rfl, upd_same, ho, ?_⟩ ok.take
        have h5 := (al2.mono IsTerm.fz (Fz.of s3)).take 3
        rw [← show cutV acc2 none (some 3) = acc2.take 3 from cut_takeA (n := 3)] at h5
        exact h5
      refine ⟨_, rfl, D, acc, rfl, .inl (SqL.of hacc), rfl, _, rfl, ?_⟩
      refine ite2 (fun h0 => ?_) (fun h0 => ?_)
      · have hl0 : acc.length = 0 := by have := of_decide_eq_true h0; injection this with this; omega
        have ha1 := s1.1 _ _ nal ha
        refine ⟨_, rfl, .inl ⟨rfl, _, SqL.of hacc⟩, _, rfl, _, rfl, _, rfl, a, _, rfl, .inl (SqL.of ha1), ?_⟩
        rw [lns]
        refine ⟨l, tl, c', ns.length, rfl, t1, by omega, hn, fun r H2 hr2 s2 t2 => ?_⟩
        have ha2 := s2.1 _ _ nal ha1
        have er := List.getElem?_eq_getElem hr2
        refine ⟨a, _, _, .str (ns[r]), rfl, rfl, SqL.of ha2, atI_nat (by rw [List.getElem?_map, er]; rfl), (by show 2 ≤ sizeLine; decide), fun o ho => ?_⟩
        have s3 := sm_upd ho (o := .tup [.str (ns[r]), .int 1])
        have hacc3 := s3 _ _ (s2.1 _ _ nDl hacc)
        have t3 := t2.same s3
        have ho3 : upd H2 o (.tup [.str (ns[r]), .int 1]) o = some (.tup [.str (ns[r]), .int 1]) := upd_same
        have nDo : o ≠ D := Ne.symm (ne_of_none (s2.1 _ _ nDl hacc) ho)
        have s13 := (s1.trans s2).trans (SmL.of s3)
        generalize upd H2 o (.tup [.str (ns[r]), .int 1]) = H3 at *
        have e0 : acc = [] := List.length_eq_zero_iff.mp hl0
        subst e0
        refine ⟨D, [], _, rfl, rfl, hacc3, small1000 (by simp), ?_⟩
        refine ⟨_, rfl, fin _ [.ref o] [(ns[r], 1)] (c' + 1) ?_ ?_ (by omega) upd_same (Al.one ⟨o, rfl, by rw [upd_ne nDo]; exact ho3⟩) ⟨by simp, ?_, ?_⟩⟩
        · exact ⟨fun b u nb e => by rw [upd_ne (ne_of_none e hD)]; exact s13.1 b u nb e, fun hh => by rw [upd_ne (Ne.symm nDl)]; exact s13.2 hh⟩
        · exact t3.updD (Ne.symm nDl) (Ne.symm nDt)
        · show [ns[r]].Sublist ns
          exact List.singleton_sublist.mpr (List.getElem_mem hr2)
        · intro d hd
          rw [List.mem_singleton.mp hd]; exact .inl rfl
      · have hl0 : 0 < ds.length := by
          rcases Nat.eq_zero_or_pos ds.length with e | e
          · exact absurd (decide_eq_true (by rw [la, e]; rfl)) h0
          · exact e
        exact ⟨_, rfl, fin _ acc ds c' s1 t1 (by omega) hacc al ⟨hl0, hsub, hcf⟩⟩

end
end PN
end
section
set_option maxRecDepth 100000
set_option maxHeartbeats 4000000
namespace PN
open PySem PySem.Spec PyProof.Rows L2
open LamX
/-! ### the law's surveys -/
structure RrD where
  name : Str
  terms : List (Str × Int)
  value : Int × Int
  weight : Int × Int
def IsNear : Rp (Str × (Int × Int)) := fun H v d => ∃ b p, v = .ref b ∧ H b = some (.tup [.str d.1, p]) ∧ IsPr H p d.2
theorem IsNear.fz : Fzm IsNear := fun _ _ _ _ f ⟨b, p, e, h, h2⟩ => ⟨b, p, e, f _ _ h trivial, IsPr.fz _ _ _ _ f h2⟩
def IsRr : Rp RrD := fun H v d => ∃ b t q u, v = .ref b ∧ H b = some (.tup [.str d.name, t, q, u]) ∧ IsTerms H t d.terms ∧ IsPr H q d.value ∧ IsPr H u d.weight
theorem IsRr.fz : Fzm IsRr := fun _ _ _ _ f ⟨b, t, q, u, e, h, h1, h2, h3⟩ => ⟨b, t, q, u, e, f _ _ h trivial, IsTerms.fz _ _ _ _ f h1, IsPr.fz _ _ _ _ f h2, IsPr.fz _ _ _ _ f h3⟩
structure SvD where
  near : List (Str × (Int × Int))
  rds : List RrD
def nmK (mark : Str) (k : Nat) : Str := mark ++ (toString (k : Int) : Str)
structure RrOk (ns : List Str) (r : RrD) : Prop where
  tm : TmOk ns r.terms
  val : PrOk r.value
  wt : PrOk r.weight
  wp : 1 ≤ r.weight.1
  wd : r.weight.2 ≤ 2
structure SvOk (ns : List Str) (mark : Str) (d : SvD) : Prop where
  near : d.near.map (fun e => e.1) = ns
  nok : ∀ e ∈ d.near, PrOk e.2
  rnm : d.rds.map (fun r => r.name) = (List.range d.rds.length).map (nmK mark)
  rok : ∀ r ∈ d.rds, RrOk ns r
  len : d.rds.length ≤ 5
/-- a survey's tuple, its lists -/
def IsSv (H : Hp) (z : V) (d : SvD) : Prop := ∃ o nl rl xs ys, z = .ref o ∧ H o = some (.tup [.ref nl, .ref rl]) ∧ H nl = some (.lst xs) ∧ Al IsNear H xs d.near ∧ H rl = some (.lst ys) ∧ Al IsRr H ys d.rds
/-- .. whose lists are new since H0 -/
def IsSvF (H0 H : Hp) (z : V) (d : SvD) : Prop := ∃ o nl rl xs ys, z = .ref o ∧ H o = some (.tup [.ref nl, .ref rl]) ∧ H nl = some (.lst xs) ∧ Al IsNear H xs d.near ∧ H rl = some (.lst ys) ∧ Al IsRr H ys d.rds ∧ H0 nl = none ∧ H0 rl = none
section
variable {P : Program} {w : World} {K : PySem.W.Frag} {mg : Str → Option Value} {base : Heap}

/-! ### _law_survey -/
def spSurvey : Sp := fun vs H Q _ => ∃ (l tl a : Addr) (ns : List Str) (c : Nat) (mark : Str), vs = [.ref l, .ref a, .str mark, .int 5] ∧ St H l tl c ∧ H a = some (.lst (ns.map V.str)) ∧ NmOk ns ∧ 0 < ns.length ∧ c < 50000 ∧ mark.length ≤ 10 ∧
  ∀ H' z d c', SmL l H H' → St H' l tl c' → c' ≤ c + 2000 → IsSvF H H' z d → SvOk ns mark d → Q z H'
theorem str_small {k : Nat} (h : k < 6) : (((k : Int)).natAbs).log2 < 1920 ∧ (toString (k : Int) : Str).length ≤ 10 := by
  have : ∀ k ∈ List.range 6, (((k : Int)).natAbs).log2 < 1920 ∧ (toString (k : Int) : Str).length ≤ 10 := by decide +kernel
  exact this k (List.mem_range.mpr h)
theorem sc__law_survey : FnScope ["_law_state", "_law_names", "_law_mark", "_law_many", "_law_near", "_law_readings", "_law_k", "_law_weight", "_law_name"] ["_law_state", "_law_names", "_law_mark", "_law_many"] (defScope sLSurvey) := ⟨rfl, rfl, rfl, by decide +kernel, rfl, by decide +kernel, by decide +kernel⟩
theorem ok__law_survey (T : TX w K mg) : C8.Cal P w K mg base 4 "_law_survey" (spSurvey) [] := by
  refine cal1 (d__law_survey T) (g__law_survey T) (ps := ["_law_state", "_law_names", "_law_mark", "_law_many"]) (fun _ _ _ _ _ _ us hl => match us, hl with | [_, _, _, _], _ => rfl) sc__law_survey (fun vs H Q E h => ?_) (fun cdv A outr s H vs Q E hr h => ?_)
  · obtain ⟨l, tl, a, ns, c, mark, rfl, _⟩ := h
    rfl
  · obtain ⟨l, tl, a, ns, c, mark, rfl, hs, ha, on, hn, hc, hmk, k⟩ := h
    refine ⟨_, (pss_cons (ps_setLc (i := 4) (own := [("_law_name", 8)]) (g := gName 8) (by rfl) sc__law_survey.nd rfl rfl (sw_true rfl rfl rfl (by decide +kernel)) (pi_listK (K := K) (pv 1)) (blkOk_by (own := [("_law_name", 8)]) (N := ["_law_state", "_law_names", "_law_mark", "_law_many", "_law_near", "_law_readings", "_law_k", "_law_weight", "_law_name"]) (sc := defScope sLSurvey) (by decide +kernel))
      (fun _ _ _ _ _ => (pg_name (i := 8) sc__law_survey.nd rfl (Or.inl rfl))) (fun _ _ _ _ _ => pts_nil) (fun _ _ _ _ _ => (pe_tup (pa_cons (pv 8) (pa_cons (C8.pe_c (j := 3) (ok__law_number T) hr (by decide) rfl (pa_cons (pv 0) pa_nil)) pa_nil)))))
      (pss_cons (ps_set (i := 5) sc__law_survey.nd rfl (Or.inl rfl) (pe_lst pa_nil))
      (pss_cons (ps_for PassesOwn.never rfl (pi_range1 rfl (n_range T) (pa_cons (C8.pe_c (j := 3) (ok__law_take T) hr (by decide) rfl (pa_cons (pv 0) (pa_cons (pe_op op_add (pv 3) pe_int) pa_nil))) pa_nil)) (pg_name (i := 6) sc__law_survey.nd rfl (Or.inl rfl)) (pss_cons (ps_set (i := 7) sc__law_survey.nd rfl (Or.inl rfl) (C8.pe_c (j := 3) (ok__law_pair T) hr (by decide) rfl (pa_cons (pe_op op_add pe_int (C8.pe_c (j := 3) (ok__law_take T) hr (by decide) rfl (pa_cons (pv 0) (pa_cons pe_int pa_nil)))) (pa_cons (pe_op op_add pe_int (C8.pe_c (j := 3) (ok__law_take T) hr (by decide) rfl (pa_cons (pv 0) (pa_cons pe_int pa_nil)))) pa_nil))))
      (pss_one (ps_expr (pe_bm PySem.F.plainAttrs_list PySem.F.slot_list_append PySem.F.type_list_append mt_append (pv 5) (pa_cons (pe_tup (pa_cons (pe_op op_add_str (pv 2) (pe_callTy call_str_int (by rfl) (n_str T) (by decide +kernel) (pa_cons (pv 6) pa_nil))) (pa_cons (C8.pe_c (j := 3) (ok__law_terms T) hr (by decide) rfl (pa_cons (pv 0) (pa_cons (pv 1) pa_nil))) (pa_cons (C8.pe_c (j := 3) (ok__law_number T) hr (by decide) rfl (pa_cons (pv 0) pa_nil)) (pa_cons (pv 7) pa_nil))))) pa_nil))))))
      (pss_one (ps_ret (pe_tup (pa_cons (pv 4) (pa_cons (pv 5) pa_nil)))))))), ?_⟩
    have lns : (ns.map V.str).length = ns.length := List.length_map ..
    have nal := ne_st hs ha
    have onl := on.len
    refine ⟨_, rfl, a, rfl, ⟨_, SqL.of ha⟩, fun D hD => ?_⟩
    have nDl : D ≠ l := fun e => by obtain ⟨xs, h⟩ := hs.lst; rw [e, h] at hD; cases hD
    have nDt : D ≠ tl := fun e => by obtain ⟨xs, h⟩ := hs.some2; rw [e, h] at hD; cases hD
    refine lc_any (β := Str × (Int × Int)) (R := IsNear) (J := Itl K a) (n := ns.length) (vs := [8]) (g := gName 8) IsNear.fz (FrOk.smL hs.lst) hD nDl (by omega)
      (fun i (ds : List (Str × (Int × Int))) H' => ∃ c', c' ≤ c + 2 * i ∧ St H' l tl c' ∧ (ds.map fun (d : Str × (Int × Int)) => d.1) = ns.take i ∧ ∀ d ∈ ds, PrOk d.2)
      ⟨c, by omega, hs.updD (Ne.symm nDl) (Ne.symm nDt), by rw [List.take_zero]; rfl, fun d hd => by cases hd⟩ (fun i ds H' x y ⟨c', h1, h2, h3, h4⟩ _ => ⟨c', h1, h2.updD (Ne.symm nDl) (Ne.symm nDt), h3, h4⟩)
      (fun i ds H' s' _ hi => ⟨_, V.str (ns[i]), SqL.of (s'.1 _ _ nal ha), by rw [List.getElem?_map, List.getElem?_eq_getElem hi]; rfl⟩) (fun ds H' s' _ => ⟨_, SqL.of (s'.1 _ _ nal ha), by rw [lns]; exact Nat.le_refl _⟩) ?_ ?_
    · rintro i ds H1 x H2 hi s1 ⟨c', hc', t1, hsub, hcf⟩ ⟨rfl, hy⟩
      have hx := hy _ (SqL.of (s1.1 _ _ nal ha))
      obtain ⟨n, en, rfl⟩ := strs_at hx
      refine ⟨SmL.of (Same.refl _), fun Qg hq => hq _ wipe1 fun Nx0 kd hskip hadd => ?_⟩
      show (if true = true then _ else Nx0 H2)
      refine iteT ⟨_, rfl, _, rfl, l, tl, c', rfl, t1, by omega, fun H3 z d s3 t3 hd okd => ⟨(by show 2 ≤ sizeLine; decide), fun o ho => ?_⟩⟩
      have s6 := sm_upd ho (o := .tup [.str n, z])
      refine hadd _ (n, d) _ (s3.trans (SmL.of s6)) ⟨o, z, rfl, upd_same, IsPr.fz _ _ _ _ (Fz.of s6) hd⟩ ⟨c' + 2, by omega, t3.same s6, ?_, ?_⟩
      · rw [List.map_append, take_snoc en, hsub]; rfl
      · intro d' hd'
        rcases List.mem_append.mp hd' with hd' | hd'
        · exact hcf d' hd'
        · rw [List.mem_singleton.mp hd']; exact okd
    · intro H1 acc near s1 hacc al ⟨c1, hc1, t1, hnear, hok⟩
      rw [List.take_length] at hnear
      refine ⟨Nat.zero_le _, fun R0 hR0 => ?_⟩
      have nRl : R0 ≠ l := fun e => by obtain ⟨xs, h⟩ := t1.lst; rw [e, h] at hR0; cases hR0
      have nRt : R0 ≠ tl := fun e => by obtain ⟨xs, h⟩ := t1.some2; rw [e, h] at hR0; cases hR0
      have nDR : D ≠ R0 := ne_of_none hacc hR0
      have s2 : Same H1 (upd H1 R0 (.lst [])) := sm_upd hR0
      refine ⟨_, rfl, _, rfl, _, _, rfl, rfl, l, tl, c1, 6, rfl, t1.same s2, by omega, by decide, fun r H2 hr6 s3 t3 => ?_⟩
      have s13 := (s1.trans (SmL.of s2)).trans s3
      have hR2 : H2 R0 = some (.lst []) := s3.1 _ _ nRl upd_same
      have hacc2 : H2 D = some (.lst acc) := s3.1 _ _ nDl (s2 _ _ hacc)
      have fz2 : Fz H1 H2 := (Fz.of s2).trans (s3.fz (t1.same s2).lst)
      have hR1 : H1 R0 = none := hR0
      refine ⟨_, rfl, by omega, by omega, ?_⟩
      have er : ((r : Int)).toNat = r := by omega
      rw [er]
      refine for_range (lo := 0) (n := r) (fun i σ H' => ∃ (v6 v7 : Option V) (ys : List V) (rds : List RrD) (c' : Nat), σ = [some (.ref l), some (.ref a), some (.str mark), some (.int 5), some (.ref D), some (.ref R0), v6, v7, none] ∧ SmL l H H' ∧ Fz H2 H' ∧ H' a = some (.lst (ns.map V.str)) ∧ H' D = some (.lst acc) ∧ H' R0 = some (.lst ys) ∧ Al IsRr H' ys rds ∧ St H' l tl c' ∧ c' ≤ c1 + 1 + i * (2 * ns.length + 5) ∧
          rds.length = i ∧ rds.map (fun r => r.name) = (List.range i).map (nmK mark) ∧ ∀ r ∈ rds, RrOk ns r)
        ⟨none, none, [], [], c1 + 1, rfl, s13, fun _ _ e _ => e, s13.1 _ _ nal ha, hacc2, hR2, Al.nil, t3, by omega, rfl, rfl, fun r hr => by cases hr⟩ ?_ ?_
      · rintro i σ H' hi ⟨v6, v7, ys, rds, c', rfl, s', fz', ha', hD', hR', al', t', hc', hlen, hnms, hrok⟩
        have hi6 : i < 6 := by omega
        have hmul : i * (2 * ns.length + 5) ≤ 5 * (2 * ns.length + 5) := Nat.mul_le_mul_right _ (by omega)
        have ez : (0 : Int) + (i : Int) = (i : Int) := by omega
        rw [ez]
        refine ⟨_, rfl, l, tl, c', 4, rfl, t', by omega, by decide, fun r1 H3 hr1 s3 t3 => ⟨_, _, rfl, rfl, ?_⟩⟩
        refine ⟨_, rfl, l, tl, c' + 1, 2, rfl, t3, by omega, by decide, fun r2 H4 hr2 s4 t4 => ⟨_, _, rfl, rfl, ?_⟩⟩
        refine ⟨1 + (r1 : Int), 1 + r2, by rw [Int.natCast_add]; rfl, ⟨by omega, by omega, by omega, by omega⟩, fun H5 z5 dw s5 hw okw hw2 hw1 => ?_⟩
        have t5 := t4.same s5
        have s35 := (s3.trans s4).trans (SmL.of s5)
        refine ⟨_, rfl, .inl ⟨rfl, _, SqL.of (s35.1 _ _ nRl hR')⟩, ?_⟩
        obtain ⟨sm1, sm2⟩ := str_small hi6
        have hsz := sizeLine_eq
        refine ⟨_, rfl, _, rfl, _, rfl, sm1, _, _, rfl, rfl, by omega, ?_⟩
        refine ⟨_, rfl, _, rfl, l, tl, a, ns, c' + 2, rfl, t5, s35.1 _ _ nal ha', on, hn, by omega, fun H6 z6 ds c6 s6 t6 hc6 h6 ok6 => ?_⟩
        refine ⟨_, rfl, l, tl, c6, rfl, t6, by omega, fun H7 z7 dv s7 t7 h7 ok7 => ⟨_, rfl, (by show 4 ≤ sizeLine; decide), fun o ho => ?_⟩⟩
        have s67 := s6.trans s7
        have s37 := s35.trans s67
        have hR7 := s37.1 _ _ nRl hR'
        have nRo : o ≠ R0 := Ne.symm (ne_of_none hR7 ho)
        have la := al'.1
        refine ⟨R0, ys, _, rfl, rfl, by rw [upd_ne (Ne.symm nRo)]; exact hR7, small1000 (by omega), ?_⟩
        have s8 := sm_upd ho (o := .tup [.str (mark ++ (toString (i : Int) : Str)), z6, z7, z5])
        have ho8 : upd H7 o (.tup [.str (mark ++ (toString (i : Int) : Str)), z6, z7, z5]) o = some (.tup [.str (mark ++ (toString (i : Int) : Str)), z6, z7, z5]) := upd_same
        have hR8 := s8 _ _ hR7
        have t8 := t7.same s8
        have fzA : Fz H' (upd H7 o (.tup [.str (mark ++ (toString (i : Int) : Str)), z6, z7, z5])) := (s37.fz t'.lst).trans (Fz.of s8)
        have fz5 : Fz H5 (upd H7 o (.tup [.str (mark ++ (toString (i : Int) : Str)), z6, z7, z5])) := (s67.fz t5.lst).trans (Fz.of s8)
        have fz6 : Fz H6 (upd H7 o (.tup [.str (mark ++ (toString (i : Int) : Str)), z6, z7, z5])) := (s7.fz t6.lst).trans (Fz.of s8)
        have fz7 : Fz H7 (upd H7 o (.tup [.str (mark ++ (toString (i : Int) : Str)), z6, z7, z5])) := Fz.of s8
        have s38 := s37.trans (SmL.of s8)
        have fzB : Fz (upd H7 o (.tup [.str (mark ++ (toString (i : Int) : Str)), z6, z7, z5])) (upd (upd H7 o (.tup [.str (mark ++ (toString (i : Int) : Str)), z6, z7, z5])) R0 (.lst (ys ++ [.ref o]))) := Fz.lst hR8
        have sR : ∀ b u, b ≠ R0 → upd H7 o (.tup [.str (mark ++ (toString (i : Int) : Str)), z6, z7, z5]) b = some u → upd (upd H7 o (.tup [.str (mark ++ (toString (i : Int) : Str)), z6, z7, z5])) R0 (.lst (ys ++ [.ref o])) b = some u := fun b u n e => by rw [upd_ne n]; exact e
        refine ⟨_, _, ys ++ [.ref o], rds ++ [⟨nmK mark i, ds, dv, dw⟩], c6 + 2, rfl, ?_, (fz'.trans fzA).trans fzB, ?_, ?_, upd_same, ?_, t8.updD (Ne.symm nRl) (Ne.symm nRt), ?_, by rw [List.length_append, hlen]; rfl, ?_, ?_⟩
        · refine ⟨fun b u nb e => ?_, fun hh => ?_⟩
          · have hb : b ≠ R0 := fun z => by
              rw [z] at e
              have := (s1.1 _ _ nRl e)
              rw [hR1] at this; cases this
            exact sR _ _ hb ((s'.trans s38).1 _ _ nb e)
          · obtain ⟨xs, h⟩ := (s'.trans s38).2 hh
            exact ⟨xs, sR _ _ (Ne.symm nRl) h⟩
        · refine sR _ _ (fun z => ?_) (s38.1 _ _ nal ha')
          rw [z, hR'] at ha'
          have := s1.1 _ _ nal ha
          rw [z, hR1] at this; cases this
        · exact sR _ _ nDR (s38.1 _ _ nDl hD')
        · refine (al'.mono IsRr.fz (fzA.trans fzB)).app (Al.one ⟨o, z6, z7, z5, rfl, sR _ _ nRo ho8, IsTerms.fz _ _ _ _ (fz6.trans fzB) h6, IsPr.fz _ _ _ _ (fz7.trans fzB) h7, IsPr.fz _ _ _ _ (fz5.trans fzB) hw⟩)
        · rw [Nat.add_mul, Nat.one_mul]; omega
        · rw [List.map_append, hnms, List.range_succ, List.map_append]; rfl
        · intro r hr
          rcases List.mem_append.mp hr with hr | hr
          · exact hrok r hr
          · rw [List.mem_singleton.mp hr]
            exact ⟨ok6, ok7, okw, hw1 (by omega), hw2 (by omega)⟩
      · rintro σ H' ⟨v6, v7, ys, rds, c', rfl, s', fz', ha', hD', hR', al', t', hc', hlen, hnms, hrok⟩
        have hmul : r * (2 * ns.length + 5) ≤ 5 * (2 * ns.length + 5) := Nat.mul_le_mul_right _ (by omega)
        refine ⟨_, rfl, _, rfl, (by show 2 ≤ sizeLine; decide), fun o ho => ?_⟩
        have s8 := sm_upd ho (o := .tup [.ref D, .ref R0])
        have hR00 : H R0 = none := by
          cases e : H R0 with
          | none => rfl
          | some u => have := s1.1 _ _ nRl e; rw [hR1] at this; cases this
        refine k _ _ ⟨near, rds⟩ c' (s'.trans (SmL.of s8)) (t'.same s8) (by omega) ⟨o, D, R0, acc, ys, rfl, upd_same, s8 _ _ hD', al.mono IsNear.fz ((fz2.trans fz').trans (Fz.of s8)), s8 _ _ hR', al'.mono IsRr.fz (Fz.of s8), hD, hR00⟩ ⟨hnear, hok, by rw [hlen]; exact hnms, hrok, by show rds.length ≤ 5; omega⟩

end
end PN
end
section
set_option maxRecDepth 100000
set_option maxHeartbeats 4000000
/-! ### != of two tuples whose items are equal by their own == -/
namespace PN
open PySem PySem.Spec PyProof.Rows L2
/-- what holds of the pairs of a list, counted from a place -/
def Along (T : Nat → Value → Value → Prop) : Nat → List (Value × Value) → Prop
  | _, [] => True
  | i, p :: l => T i p.1 p.2 ∧ Along T (i + 1) l
theorem along_zip {T : Nat → Value → Value → Prop} : ∀ {us vs : List Value} {i : Nat}, (∀ (j : Nat) u v, us[j]? = some u → vs[j]? = some v → T (i + j) u v) → Along T i (us.zip vs)
  | [], _, _, _ => trivial
  | _ :: _, [], _, _ => trivial
  | u :: us, v :: vs, i, h => ⟨h 0 u v rfl rfl, along_zip fun j u' v' e1 e2 => by
      have t := h (j + 1) u' v' e1 e2
      rw [← Nat.add_assoc, Nat.add_right_comm] at t
      exact t⟩
/-- the own == of the two items of a pair: it says True and keeps what holds -/
def OwnT (pr : Program) (w : World) (A : Around) (J : Nat → Shared → Prop) (E : Value → Shared → Prop) (i : Nat) (u v : Value) : Prop := ∀ s, J i s → wpAny (model pr w) A (eqBool u v) (fun r s' => r = true ∧ J (i + 1) s') E s
/-- a tuple's object, written out -/
theorem tup_lit {h : Heap} {a : Addr} {us : Array Value} (t : h.IsTuple a us) : ∃ (d : Option Addr) (k : Nat) (g : Array (Option Value)), h.get? a = some { cls := .type "tuple", dict := d, data := .seq us k, slots := g } := by
  obtain ⟨o, e, c, k, d⟩ := t
  exact ⟨o.dict, k, o.slots, by rw [e, ← c, ← d]⟩
section
variable {pr : Program} {w : World} {A : Around} {us vs : Array Value} {J : Nat → Shared → Prop}
/-- the builtin's own loop: it meets no pair that differs -/
theorem ne_none {R : Result → Shared → Prop} {a b : Addr} {d d' : Option Addr} {k k' : Nat} {g g' : Array (Option Value)} {s : Shared} (hz : us.size = vs.size)
    (m : Along (OwnT pr w A.in1 J fun e s' => R (.error e) s') 0 (us.toList.zip vs.toList))
    (q : ∀ s, J us.size s → R (.ok (.ret (.bool false))) s)
    (ha : s.heap.get? a = some { cls := .type "tuple", dict := d, data := .seq us k, slots := g })
    (hb : s.heap.get? b = some { cls := .type "tuple", dict := d', data := .seq vs k', slots := g' }) (j0 : J 0 s) :
    wpAny (model pr w) A.in1 (Builtin.«tuple.__ne__» ⟨[.ref a, .ref b], []⟩) (GQ.FinOf pr w A R) (fun e s' => R (.error e) s') s := by
  have sub := AutoSeq1.sub_tuple_tuple
  have lz : (us.toList.zip vs.toList).length = us.size := by rw [List.length_zip, Array.length_toList, Array.length_toList, hz, Nat.min_self]
  have start := j0
  obtain ⟨h, gl, dp, tk, os⟩ := s
  wp_walk using AutoSeq1.wpAny_loadPart' ha, AutoSeq1.wpAny_loadPart' hb, wpAny_forIn_list _ (fun l r t => r.1 = none ∧ ∃ i, i + l.length = us.size ∧ Along (OwnT pr w A.in1 J fun e s' => R (.error e) s') i l ∧ J i t) _
  case turn =>
    rintro ⟨u, v⟩ l r t ⟨er, i, hi, ⟨mi, ml⟩, ji⟩
    refine wpAny_bind (wpAny_mono (mi t ji) (fun c t' ⟨ec, jn⟩ => ?_) fun _ _ z => z)
    rw [ec]
    wp_walk
    refine ⟨rfl, i + 1, ?_, ml, jn⟩
    rw [List.length_cons] at hi
    omega
  case fin =>
    rintro ⟨r1, r2⟩ t ⟨er, i, hi, _, ji⟩
    have ei : i = us.size := hi
    rw [ei] at ji
    cases (show r1 = none from er)
    have rt := q t ji
    wp_walk
    rw [show Builtin.Tuple.tupleCompareSizes .NotEq us.size vs.size = .bool false by simp [Builtin.Tuple.tupleCompareSizes, hz]]
    exact rt
  case h => exact ⟨rfl, 0, by omega, m, start⟩
end
/-- x != y of such tuples: False -/
def rNeG (D : Eqv) : R2 := fun x y H Q => D x y H ∧ ∀ H', Ext H H' → Q (.bl false) H'
theorem op_neG {X : Cx} {n : Nat} {D : Eqv} (hD : Mon D) (h : EqG X n D) (hr : Room (n + 1) X.A) : OpR X (compareOp .NotEq) (rNeG (DTup X.K D)) := fun pins s σ H x y v u Q I rx ry hq => by
  obtain ⟨⟨a, b, xs, ys, rfl, rfl, ta, tb, p⟩, q⟩ := hq
  cases rx
  cases ry
  obtain ⟨us, va, ia, _⟩ := I.tuple ta
  obtain ⟨vs, vb, ib, _⟩ := I.tuple tb
  obtain ⟨d, k, g, ha⟩ := tup_lit ia
  obtain ⟨d', k', g', hb⟩ := tup_lit ib
  have hz : us.toArray.size = vs.toArray.size := by
    have e1 := va.length
    have e2 := vb.length
    have e3 := p.1
    show us.length = vs.length
    omega
  show wpAny (model X.prog X.w) X.A (richCompare .NotEq (.ref a) (.ref b)) (EP X pins σ Q) X.xe s
  refine wpAny_richCompare_same_room (op := .NotEq) ⟨_, ha, rfl⟩ ⟨_, hb, rfl⟩ F.slot_tuple_ne (GQ.call_here F.slot_tuple_ne ⟨_, ha, rfl⟩ F.entry_tuple_ne (F.args_tuple_ne_2 _ _) ?_) hr.units0
  refine ne_none (J := fun _ t => LoopI X pins σ H t) hz (along_zip fun j u v e1 e2 t jt => ?_) (fun t ⟨H', I', x'⟩ => ⟨(fun z => nomatch z), .bl false, H', I', rfl, q H' x'⟩) ha hb ⟨H, I, Ext.rfl'⟩
  have l1 : j < us.toArray.size := (List.getElem?_eq_some_iff.mp e1).1
  have l2 : j < vs.toArray.size := (List.getElem?_eq_some_iff.mp e2).1
  have f1 : us.toArray[j] = u := (List.getElem?_eq_some_iff.mp e1).2
  have f2 : vs.toArray[j] = v := (List.getElem?_eq_some_iff.mp e2).2
  have t1 := turnG hD h (A := X.A) ⟨hr, rfl⟩ p va vb j l1 l2 t jt
  rw [f1, f2] at t1
  exact wpAny_mono t1 (fun _ _ z => z) fun _ _ z => z
end PN
end
section
set_option maxRecDepth 100000
set_option maxHeartbeats 4000000
namespace PN
open PySem PySem.Spec PyProof.Rows L2
open LamX
theorem pe_mk0 {X : Cx} {k j : Nat} {C : Addr} {x : Str} {sp : Sp} {dvs : List V} {p pos : Pos} (c : C8.Mak X.prog X.w X.K X.mg X.base k x C sp dvs) (hr : Room j X.A) (hk : k + 1 ≤ j) (hg : Gl X x)
    (hdb : (x == ("__debug__" : Str)) = false := by decide) : PE X (.Call (.Name x p) [] [] pos) (tMake C sp dvs C8.E0 tNil) := by
  obtain ⟨f, fd, ps, ds, M, F, hm, b, d⟩ := c.ex
  exact pe_make0 M F (hr.mono hk) hg hm b d C8.pass0 hdb
/-! ### _law_book -/
def rdOf (r : RrD) : RdD := ⟨r.name, r.terms, Rat.divInt r.value.1 r.value.2, Rat.divInt r.weight.1 r.weight.2⟩
structure BkOk (d : SvD) : Prop where
  nd : (d.near.map fun e => e.1).Nodup
  ln : d.near.length ≤ 12
  lr : d.rds.length ≤ 24
  rnd : (d.rds.map fun r => r.name).Nodup
  nok : ∀ e ∈ d.near, PrOk e.2
  rok : ∀ r ∈ d.rds, FitOk r.terms ∧ (∀ t ∈ r.terms, t.1 ∈ d.near.map fun e => e.1) ∧ PrOk r.value ∧ PrOk r.weight ∧ 1 ≤ r.weight.1
theorem wt_pos {d : Int × Int} (h : PrOk d) (h1 : 1 ≤ d.1) : 0 < (Rat.divInt d.1 d.2).num := by
  have key : ∀ a ∈ [1, 2, 3, 4, 5, 6], ∀ b ∈ [1, 2, 3], 0 < (Rat.divInt (a : Int) (b : Int)).num := by decide +kernel
  obtain ⟨a, b⟩ := d
  obtain ⟨_, h2, h3, h4⟩ := h
  simp only at h1 h2 h3 h4 ⊢
  refine key a ?_ b ?_
  · rcases (by omega : a = 1 ∨ a = 2 ∨ a = 3 ∨ a = 4 ∨ a = 5 ∨ a = 6) with e | e | e | e | e | e <;> subst e <;> decide
  · rcases (by omega : b = 1 ∨ b = 2 ∨ b = 3) with e | e | e <;> subst e <;> decide
theorem nd_take {α : Type} {l : List α} {i : Nat} {x : α} (h : l.Nodup) (e : l[i]? = some x) : x ∉ l.take i := fun hm => by
  obtain ⟨j, hj, ej⟩ := List.getElem_of_mem hm
  rw [List.length_take] at hj
  rw [List.getElem_take] at ej
  obtain ⟨hi, ei⟩ := List.getElem?_eq_some_iff.mp e
  have := (List.getElem_inj h).mp (ej.trans ei.symm)
  omega
theorem lk_addp {a b c : Addr} : (bf a b c).lookup ("add_point" : Str) = none := by rw [bf, lk_ne (by decide +kernel), lk_ne (by decide +kernel), lk_ne (by decide +kernel)]; rfl
theorem lk_addr {a b c : Addr} : (bf a b c).lookup ("add_reading" : Str) = none := by rw [bf, lk_ne (by decide +kernel), lk_ne (by decide +kernel), lk_ne (by decide +kernel)]; rfl
section
variable {P : Program} {w : World} {K : PySem.W.Frag} {mg : Str → Option Value} {base : Heap}

def spLBook (K : PySem.W.Frag) : Sp := fun vs H Q _ => ∃ (z : V) (d : SvD), vs = [z] ∧ IsSv H z d ∧ BkOk d ∧ ∀ H' b, Same H H' → Bk K H H' b (d.near.map fun e => e.1) (d.rds.map rdOf) → Q (.ref b) H'
theorem sc__law_book : FnScope ["_law_survey_here", "_law_book_here", "_law_name", "_law_near", "_law_terms_here", "_law_value", "_law_weight"] ["_law_survey_here"] (defScope sLBook) := ⟨rfl, rfl, rfl, by decide +kernel, rfl, by decide +kernel, by decide +kernel⟩
theorem ok__law_book (T : TX w K mg) : C8.Cal P w K mg base 4 "_law_book" (spLBook K) [] := by
  refine cal1 (d__law_book T) (g__law_book T) (ps := ["_law_survey_here"]) (fun _ _ _ _ _ _ us hl => match us, hl with | [_], _ => rfl) sc__law_book (fun vs H Q E h => ?_) (fun cdv A outr s H vs Q E hr h => ?_)
  · obtain ⟨z, d, rfl, _⟩ := h
    rfl
  · obtain ⟨z, d, rfl, hz, ok, k⟩ := h
    refine ⟨_, (pss_cons (ps_set (i := 1) sc__law_book.nd rfl (Or.inl rfl) (pe_mk0 (j := 3) (mk_book T) hr (by decide) rfl))
      (pss_cons (ps_for PassesOwn.never rfl (pi_listK (K := K) (pe_ixTK (K := K) (pv 0) pe_int (fun _ _ => rfl))) (pg_tup rfl (pgs_cons (pg_name (i := 2) sc__law_book.nd rfl (Or.inl rfl)) (pgs_cons (pg_name (i := 3) sc__law_book.nd rfl (Or.inl rfl)) pgs_nil))) (pss_one (ps_expr (C8.pe_mt (j := 3) (ok_bpoint T) hr (by decide) (pv 1) (pa_cons (pv 2) (pa_cons (C8.pe_c (j := 3) (ok__law_made T) hr (by decide) rfl (pa_cons (pv 3) pa_nil)) pa_nil))))))
      (pss_cons (ps_for PassesOwn.never rfl (pi_listK (K := K) (pe_ixTK (K := K) (pv 0) pe_int (fun _ _ => rfl))) (pg_tup rfl (pgs_cons (pg_name (i := 2) sc__law_book.nd rfl (Or.inl rfl)) (pgs_cons (pg_name (i := 4) sc__law_book.nd rfl (Or.inl rfl)) (pgs_cons (pg_name (i := 5) sc__law_book.nd rfl (Or.inl rfl)) (pgs_cons (pg_name (i := 6) sc__law_book.nd rfl (Or.inl rfl)) pgs_nil))))) (pss_one (ps_expr (C8.pe_mt (j := 3) (ok_breading T) hr (by decide) (pv 1) (pa_cons (pv 2) (pa_cons (pv 4) (pa_cons (C8.pe_c (j := 3) (ok__law_made T) hr (by decide) rfl (pa_cons (pv 5) pa_nil)) (pa_cons (C8.pe_c (j := 3) (ok__law_made T) hr (by decide) rfl (pa_cons (pv 6) pa_nil)) pa_nil))))))))
      (pss_one (ps_ret (pv 1)))))), ?_⟩
    obtain ⟨o, nl, rl, xs, ys, rfl, ho, hnl, an, hrl, ar⟩ := hz
    have lx := an.1
    have ly := ar.1
    refine fun x0 dx0 nx0 nd0 ne0 => ⟨x0, dx0, rfl, upd_same, fun H1 pl dl rl0 hk hpl hdl hrl0 hne h1 h2 h3 h4 => ⟨rfl, ?_⟩⟩
    have hst : ∀ {p : Addr}, upd (upd H dx0 (.own x0)) x0 (.ins (He.ga K "Book") dx0 []) p = none → H p = none := fun {p} e => by
      cases hp : H p with
      | none => rfl
      | some u => rw [upd_ne (ne_of_none hp nx0), upd_ne (ne_of_none hp nd0), hp] at e; cases e
    have s1 : Same H H1 := fun b u e => hk b u (ne_of_none e nx0) (by rw [upd_ne (ne_of_none e nx0), upd_ne (ne_of_none e nd0)]; exact e)
    have B1 : Bk K H H1 x0 [] [] := ⟨dx0, pl, dl, rl0, [], [], s1, h1, hst hpl, hst hdl, hst hrl0, hne, h2, h3, rfl, h4, Al.nil⟩
    refine ⟨_, rfl, o, _, _, .ref nl, rfl, rfl, SqT.of (s1 _ _ ho), at_of (j := 0) rfl rfl, nl, rfl, ⟨_, SqL.of (s1 _ _ hnl)⟩, ?_⟩
    refine for_list (K := K) (a := nl) (xs := xs) (fun i σ H' => ∃ (v2 v3 : Option V), σ = [some (.ref o), some (.ref x0), v2, v3, none, none, none] ∧ Bk K H H' x0 ((d.near.map fun e => e.1).take i) []) ⟨none, none, rfl, B1⟩ (fun i σ H' _ ⟨_, _, _, hB⟩ => ?_) ?_ ?_
    · obtain ⟨_, _, _, _, _, _, B⟩ := hB
      exact SqL.of (B.same _ _ hnl)
    · rintro i x σ H' hx ⟨v2, v3, rfl, hB⟩
      obtain ⟨e, ee, b, p, rfl, hb, hp⟩ := an.get hx
      have sB : Same H H' := by obtain ⟨_, _, _, _, _, _, B⟩ := hB; exact B.same
      have em : (d.near.map fun e => e.1)[i]? = some e.1 := by rw [List.getElem?_map, ee]; rfl
      refine ⟨b, _, rfl, SqT.of (sB _ _ hb), rfl, .str e.1, [p], rfl, p, [], rfl, rfl, ?_⟩
      obtain ⟨dx2, pl2, dl2, rl2, kvs2, rs2, B2⟩ := id hB
      refine ⟨_, rfl, x0, dx2, _, rfl, B2.ins, lk_addp, _, rfl, _, rfl, p, e.2, rfl, IsPr.fz _ _ _ _ (Fz.of sB) hp, ok.nok e (List.mem_of_getElem? ee), fun H3 z3 s3 h3 => ?_⟩
      have hi : i < d.near.length := (List.getElem?_eq_some_iff.mp ee).1
      refine ⟨H, x0, _, [], e.1, z3, rfl, hB.same s3, nd_take ok.nd em, by rw [List.length_take]; have := ok.ln; omega, fun H4 B4 => ⟨_, _, rfl, ?_⟩⟩
      rw [take_snoc em]
      exact B4
    · rintro σ H' ⟨v2, v3, rfl, hB⟩
      rw [lx, List.take_of_length_le (by rw [List.length_map]; exact Nat.le_refl _)] at hB
      have sB : Same H H' := by obtain ⟨_, _, _, _, _, _, B⟩ := hB; exact B.same
      refine ⟨_, rfl, o, _, _, .ref rl, rfl, rfl, SqT.of (sB _ _ ho), at_of (j := 1) rfl rfl, rl, rfl, ⟨_, SqL.of (sB _ _ hrl)⟩, ?_⟩
      refine for_list (K := K) (a := rl) (xs := ys) (fun i σ H' => ∃ (v2 v3 v4 v5 v6 : Option V), σ = [some (.ref o), some (.ref x0), v2, v3, v4, v5, v6] ∧ Bk K H H' x0 (d.near.map fun e => e.1) ((d.rds.map rdOf).take i)) ⟨_, _, none, none, none, rfl, hB⟩ (fun i σ H' _ ⟨_, _, _, _, _, _, hB⟩ => ?_) ?_ ?_
      · obtain ⟨_, _, _, _, _, _, B⟩ := hB
        exact SqL.of (B.same _ _ hrl)
      · rintro i x σ H' hx ⟨v2, v3, v4, v5, v6, rfl, hB⟩
        obtain ⟨r, er, b, tv, qv, uv, rfl, hb, ht, hq, hu⟩ := ar.get hx
        have sB : Same H H' := by obtain ⟨_, _, _, _, _, _, B⟩ := hB; exact B.same
        have em : (d.rds.map rdOf)[i]? = some (rdOf r) := by rw [List.getElem?_map, er]; rfl
        have en : (d.rds.map fun r => r.name)[i]? = some r.name := by rw [List.getElem?_map, er]; rfl
        obtain ⟨k1, k2, k3, k4, k5⟩ := ok.rok r (List.mem_of_getElem? er)
        refine ⟨b, _, rfl, SqT.of (sB _ _ hb), rfl, .str r.name, _, rfl, tv, _, rfl, qv, _, rfl, uv, [], rfl, rfl, ?_⟩
        obtain ⟨dx2, pl2, dl2, rl2, kvs2, rs2, B2⟩ := id hB
        refine ⟨_, rfl, x0, dx2, _, rfl, B2.ins, lk_addr, _, rfl, _, rfl, _, rfl, qv, r.value, rfl, IsPr.fz _ _ _ _ (Fz.of sB) hq, k3, fun H3 z3 s3 h3 => ?_⟩
        refine ⟨_, rfl, uv, r.weight, rfl, IsPr.fz _ _ _ _ (Fz.of (sB.trans s3)) hu, k4, fun H4 z4 s4 h4 => ?_⟩
        have hi : i < d.rds.length := (List.getElem?_eq_some_iff.mp er).1
        refine ⟨H, x0, _, _, rdOf r, tv, z3, z4, rfl, hB.same (s3.trans s4), IsTerms.fz _ _ _ _ (Fz.of ((sB.trans s3).trans s4)) ht, IsQ.fz _ _ _ _ (Fz.of s4) h3, h4, fun r' hr' e' => ?_, k1, k2, wt_pos k4 k5, by rw [List.length_take, List.length_map]; have := ok.lr; omega, fun H5 B5 => ⟨_, _, _, _, _, rfl, ?_⟩⟩
        · refine nd_take ok.rnd en ?_
          rw [← List.map_take] at hr' ⊢
          obtain ⟨r0, h0, rfl⟩ := List.mem_map.mp hr'
          exact List.mem_map.mpr ⟨r0, h0, e'⟩
        · rw [take_snoc em]
          exact B5
      · rintro σ H' ⟨v2, v3, v4, v5, v6, rfl, hB⟩
        rw [ly, List.take_of_length_le (by rw [List.length_map]; exact Nat.le_refl _)] at hB
        have sB : Same H H' := by obtain ⟨_, _, _, _, _, _, B⟩ := hB; exact B.same
        exact ⟨_, rfl, k _ _ sB hB⟩

/-! ### Ratio.__eq__, _law_same -/
def RQ (K : PySem.W.Frag) (a b : Addr) (H : Hp) : Prop := ∃ q dx dy, H a = some (.ins (cR K) dx (qf q)) ∧ H b = some (.ins (cR K) dy (qf q))
theorem sc_req : FnScope ["self", "other"] ["self", "other"] (defScope sREq) := ⟨rfl, rfl, rfl, by decide +kernel, rfl, by decide +kernel, by decide +kernel⟩
theorem ok_req (T : TX w K mg) : C8.Met P w K mg base 1 (He.ga K "Ratio") "__eq__" (spEq (RQ K)) [] := by
  refine met1 (c_Ratio T) (me_Ratio___eq__ T) (d_Ratio___eq__ T) (ps := ["self", "other"]) (fun _ _ _ _ _ _ us hl => match us, hl with | [_, _], _ => rfl) sc_req (fun vs H Q E h => ?_) (fun cdv A outr s H vs Q E hr h => ?_)
  · obtain ⟨a, b, rfl, _⟩ := h
    rfl
  · obtain ⟨a, b, rfl, ⟨q, dx, dy, ha, hb⟩, k⟩ := h
    refine ⟨_, (pss_one (ps_ret (pe_and (pe_callB call_isi (by rfl) (n_isinstance T) (by decide +kernel) (pa_cons (pv 1) (pa_cons (pe_glob (by rfl) (g_Ratio T) (v := .ref (cR K)) rfl) pa_nil))) (pe_and (pe_cmpR op_eq (pe_fldK (K := K) (pv 0) rfl) (pe_fldK (K := K) (pv 1) rfl) (nomark _)) (pe_one (pe_cmpR op_eq (pe_fldK (K := K) (pv 0) rfl) (pe_fldK (K := K) (pv 1) rfl) (nomark _))))))), ?_⟩
    obtain ⟨_, e2, e3, e4, e5⟩ := T.ex2
    have qa : IsQ (cR K) H (.ref a) q := ⟨a, dx, rfl, ha⟩
    have qb : IsQ (cR K) H (.ref b) q := ⟨b, dy, rfl, hb⟩
    refine ⟨_, rfl, .ref b, .ref (cR K), .ref (cR K), .ref (cR K), true, rfl, .own _, .base (.ins hb (c_Ratio T) e2 e3 e4 e5), if_pos (beq_self_eq_true _), true, rfl, iteT ?_⟩
    refine rd_top T qa (by rfl) (rd_top T qb (by rfl) ⟨rfl, ?_⟩)
    rw [decide_eq_true rfl]
    refine ⟨true, rfl, iteT ?_⟩
    refine rd_bottom T qa (by rfl) (rd_bottom T qb (by rfl) ⟨rfl, ?_⟩)
    rw [decide_eq_true rfl]
    exact k _ Ext.rfl'
theorem mon_RQ {K : PySem.W.Frag} : Mon (DIns (cR K) (RQ K)) := mon_ins fun a b H H' e ⟨q, dx, dy, h1, h2⟩ => ⟨q, dx, dy, e _ _ h1, e _ _ h2⟩
theorem rc_ratio {X : Cx} (T : TX w K mg) (e1 : X.w = w := by rfl) (e2 : X.K = K := by rfl) (e3 : X.mg = mg := by rfl) : RcG X 1 (DIns (cR K) (RQ K)) := by
  subst e1 e2 e3
  obtain ⟨f, fd, ps, ds, hcl, hm, F, b, d⟩ := (ok_req (P := X.prog) (base := X.base) T).ex
  cases d
  exact rcG_ins (E := C8.E0) F hm.at_ hm.fn b C8.pass0
theorem eq_ratio {X : Cx} (T : TX w K mg) (e1 : X.w = w := by rfl) (e2 : X.K = K := by rfl) (e3 : X.mg = mg := by rfl) : EqG X 1 (DIns (cR K) (RQ K)) :=
  (rc_ratio T e1 e2 e3).eqG fun _ _ _ d => let ⟨a, b, _, _, _, _, hx, hy, _⟩ := d; ⟨a, b, hx, hy⟩
theorem prs_of {α : Type} {R : Rp α} {D : Eqv} {H : Hp} {xs ys : List V} {ds : List α} (a : Al R H xs ds) (b : Al R H ys ds) (h : ∀ x y d, R H x d → R H y d → D x y H) : Prs D xs ys H := by
  refine ⟨by rw [a.1, b.1], fun i x y h1 h2 => ?_⟩
  obtain ⟨d, e1, r1⟩ := a.get h1
  exact h x y d r1 (b.2 i y d h2 e1)
theorem d_ratio {H : Hp} {x y : V} {q : Rat} (h1 : IsQ (cR K) H x q) (h2 : IsQ (cR K) H y q) : DIns (cR K) (RQ K) x y H := by
  obtain ⟨a, dx, rfl, ha⟩ := h1
  obtain ⟨b, dy, rfl, hb⟩ := h2
  exact ⟨a, b, dx, dy, _, _, rfl, rfl, ha, hb, q, dx, dy, ha, hb⟩
theorem d_vec {H : Hp} {x y : V} {q : List Rat} (h1 : IsV (cR K) H x q) (h2 : IsV (cR K) H y q) : DTup K (DIns (cR K) (RQ K)) x y H := by
  obtain ⟨a, xs, rfl, ha, aa⟩ := h1
  obtain ⟨b, ys, rfl, hb, ab⟩ := h2
  exact ⟨a, b, xs, ys, rfl, rfl, SqT.of ha, SqT.of hb, prs_of aa ab fun _ _ _ => d_ratio⟩
theorem d_mat {H : Hp} {x y : V} {q : Mat} (h1 : IsM (cR K) H x q) (h2 : IsM (cR K) H y q) : DTup K (DTup K (DIns (cR K) (RQ K))) x y H := by
  obtain ⟨a, xs, rfl, ha, aa⟩ := h1
  obtain ⟨b, ys, rfl, hb, ab⟩ := h2
  exact ⟨a, b, xs, ys, rfl, rfl, SqT.of ha, SqT.of hb, prs_of aa ab fun _ _ _ => d_vec⟩
theorem d_nm {H : Hp} {x y : V} {q : List Str} (h1 : IsNm H x q) (h2 : IsNm H y q) : DTup K DFlat x y H := by
  obtain ⟨a, o, rfl, ha, _⟩ := h1
  obtain ⟨b, o2, rfl, hb, _⟩ := h2
  refine ⟨a, b, _, _, rfl, rfl, .inl (.inr ⟨o, ha⟩), .inl (.inr ⟨o2, hb⟩), rfl, fun i x y h1 h2 => ?_⟩
  obtain ⟨n, e1, rfl⟩ := strs_at h1
  rw [h1] at h2
  cases h2
  exact ⟨rfl, rfl, beq_self_eq_true n⟩

def spSame (K : PySem.W.Frag) : Sp := fun vs H Q _ => ∃ (z1 z2 : V) (a : FormD), vs = [z1, z2] ∧ IsForm K H z1 a ∧ IsForm K H z2 a ∧ ∀ H', Same H H' → Q (.bl true) H'
theorem sc__law_same : FnScope ["_law_one", "_law_other"] ["_law_one", "_law_other"] (defScope sLSame) := ⟨rfl, rfl, rfl, by decide +kernel, rfl, by decide +kernel, by decide +kernel⟩
theorem ok__law_same (T : TX w K mg) : C8.Cal P w K mg base 4 "_law_same" (spSame K) [] := by
  refine cal1 (d__law_same T) (g__law_same T) (ps := ["_law_one", "_law_other"]) (fun _ _ _ _ _ _ us hl => match us, hl with | [_, _], _ => rfl) sc__law_same (fun vs H Q E h => ?_) (fun cdv A outr s H vs Q E hr h => ?_)
  · obtain ⟨z1, z2, a, rfl, _⟩ := h
    rfl
  · obtain ⟨z1, z2, a, rfl, h1, h2, k⟩ := h
    refine ⟨_, (pss_cons (ps_if (pw_or (pt_cmpR (op_neG mon_flat (eqG_flat (X := _)) (hr.mono (by decide))) (pe_fldK (K := K) (pv 0) rfl) (pe_fldK (K := K) (pv 1) rfl) (nomark _)) (pw_or1 (pt_cmpR (op_neG (mon_tup mon_RQ) (eqG_tup mon_RQ (eq_ratio T)) hr) (pe_fldK (K := K) (pv 0) rfl) (pe_fldK (K := K) (pv 1) rfl) (nomark _)))).pt (pss_one ps_never) pss_nil)
      (pss_one (ps_ret (pe_and (pe_cmpR (op_eqG (rcG_tup mon_RQ (eq_ratio T)) (hr.mono (by decide))) (pe_fldK (K := K) (pv 0) rfl) (pe_fldK (K := K) (pv 1) rfl) (nomark _)) (pe_one (pe_cmpR (op_eqG (rc_ratio T) (hr.mono (by decide))) (pe_fldK (K := K) (pv 0) rfl) (pe_fldK (K := K) (pv 1) rfl) (nomark _))))))), ?_⟩
    obtain ⟨fa, fdx, n1, m1, v1, c1, rfl, hfa, hn1, hm1, hv1, hc1⟩ := h1
    obtain ⟨fb, gdx, n2, m2, v2, c2, rfl, hfb, hn2, hm2, hv2, hc2⟩ := h2
    refine ⟨_, rfl, fa, _, fdx, _, _, rfl, hfa, c_Form T, na_Form_names T, lk_names, _, rfl, fb, _, gdx, _, _, rfl, hfb, c_Form T, na_Form_names T, lk_names, d_nm hn1 hn2, fun H3 s3 => ⟨_, rfl, iteF ?_⟩⟩
    have z3 : Same H H3 := s3
    refine ⟨_, rfl, fa, _, fdx, _, _, rfl, z3 _ _ hfa, c_Form T, na_Form_matrix T, lk_matrix, _, rfl, fb, _, gdx, _, _, rfl, z3 _ _ hfb, c_Form T, na_Form_matrix T, lk_matrix, d_mat (IsM.fz _ _ _ _ (Fz.of z3) hm1) (IsM.fz _ _ _ _ (Fz.of z3) hm2), fun H4 s4 => ⟨_, rfl, iteF ?_⟩⟩
    have z4 : Same H H4 := z3.trans s4
    refine ⟨_, rfl, fa, _, fdx, _, _, rfl, z4 _ _ hfa, c_Form T, na_Form_vector T, lk_vector, _, rfl, fb, _, gdx, _, _, rfl, z4 _ _ hfb, c_Form T, na_Form_vector T, lk_vector, d_vec (IsV.fz _ _ _ _ (Fz.of z4) hv1) (IsV.fz _ _ _ _ (Fz.of z4) hv2), fun H5 s5 => ⟨_, rfl, iteT ?_⟩⟩
    have z5 : Same H H5 := z4.trans s5
    exact ⟨_, rfl, fa, _, fdx, _, _, rfl, z5 _ _ hfa, c_Form T, na_Form_constant T, lk_constant, _, rfl, fb, _, gdx, _, _, rfl, z5 _ _ hfb, c_Form T, na_Form_constant T, lk_constant, d_ratio (IsQ.fz _ _ _ _ (Fz.of z5) hc1) (IsQ.fz _ _ _ _ (Fz.of z5) hc2), fun H6 s6 => k _ (z5.trans s6)⟩

end
end PN
end
section
set_option maxRecDepth 100000
set_option maxHeartbeats 4000000
namespace PN
open PySem PySem.Spec PyProof.Rows L2
open LamX
/-! ### _law_parts -/
def BORD : List Str := ["B", "B1", "Z"]
def INN : List (List Str) := [["A", "a"], ["c"], ["d", "e"]]
def ALLN : List Str := ["A", "B", "B1", "Z", "a", "c", "d", "e"]
def MK (k : Nat) : Str := ⟨#[112 + k]⟩
def namesOf (inner border : List Str) : List Str := ALLN.filter fun n => decide (n ∈ inner) || decide (n ∈ border)
structure PartOk (border : List Str) (near : List (Str × (Int × Int))) (k : Nat) (inner : List Str) (sv : SvD) : Prop where
  inn : ∃ r, r ≤ (INN.getD k []).length ∧ inner = (INN.getD k []).take r
  hnear : ∃ own, sv.near = near ++ own ∧ own.map (fun e => e.1) = (namesOf inner border).filter (fun n => decide (n ∈ inner)) ∧ ∀ e ∈ own, PrOk e.2
  rnm : sv.rds.map (fun r => r.name) = (List.range sv.rds.length).map (nmK (MK k))
  rok : ∀ r ∈ sv.rds, RrOk (namesOf inner border) r
  len : sv.rds.length ≤ 5
structure PaOk (border : List Str) (near : List (Str × (Int × Int))) (svs : List SvD) (inners : List (List Str)) : Prop where
  hb : ∃ r, r < 3 ∧ border = BORD.take (1 + r)
  hnear : near.map (fun e => e.1) = border
  nok : ∀ e ∈ near, PrOk e.2
  len : inners.length = svs.length
  l2 : 2 ≤ svs.length
  l3 : svs.length ≤ 3
  parts : ∀ (k : Nat) sv inner, svs[k]? = some sv → inners[k]? = some inner → PartOk border near k inner sv
def wholeOf (border : List Str) (near : List (Str × (Int × Int))) (svs : List SvD) : SvD := ⟨near ++ (svs.map fun sv => sv.near.drop border.length).flatten, (svs.map fun sv => sv.rds).flatten⟩
theorem names_ok (inner border : List Str) : NmOk (namesOf inner border) := by
  refine ⟨List.Pairwise.sublist List.filter_sublist ?_, fun n hn => ?_, ?_⟩
  · unfold LtS; decide +kernel
  · have hm := (List.mem_filter.mp hn).1
    have : ∀ n ∈ ALLN, LtS "" n := by unfold LtS; decide +kernel
    exact this n hm
  · exact Nat.le_trans (List.length_filter_le _ _) (by decide)
theorem cut_take1 {xs : List V} {r : Nat} : cutV xs none (some (1 + (r : Int))) = xs.take (1 + r) := by
  have e : (1 : Int) + (r : Int) = ((1 + r : Nat) : Int) := by omega
  rw [e]; exact cut_takeA
/-- a survey whose lists are none of the bad ones -/
def IsSvX (bad : Addr → Prop) (H : Hp) (z : V) (d : SvD) : Prop := ∃ o nl rl xs ys, z = .ref o ∧ H o = some (.tup [.ref nl, .ref rl]) ∧ H nl = some (.lst xs) ∧ Al IsNear H xs d.near ∧ H rl = some (.lst ys) ∧ Al IsRr H ys d.rds ∧ ¬ bad nl ∧ ¬ bad rl
theorem IsSvX.keep {bad : Addr → Prop} {H H' : Hp} {z : V} {d : SvD} (h : IsSvX bad H z d) (f : Fz H H') (k : ∀ b xs, ¬ bad b → H b = some (.lst xs) → H' b = some (.lst xs)) : IsSvX bad H' z d := by
  obtain ⟨o, nl, rl, xs, ys, e, h1, h2, a1, h3, a2, n1, n2⟩ := h
  exact ⟨o, nl, rl, xs, ys, e, f _ _ h1 trivial, k _ _ n1 h2, a1.mono IsNear.fz f, k _ _ n2 h3, a2.mono IsRr.fz f, n1, n2⟩
theorem IsSvX.sv {bad : Addr → Prop} {H : Hp} {z : V} {d : SvD} (h : IsSvX bad H z d) : IsSv H z d := by
  obtain ⟨o, nl, rl, xs, ys, e, h1, h2, a1, h3, a2, n1, n2⟩ := h
  exact ⟨o, nl, rl, xs, ys, e, h1, h2, a1, h3, a2⟩
theorem Al.imp {α : Type} {R R' : Rp α} {H H' : Hp} {xs : List V} {ds : List α} (a : Al R H xs ds) (h : ∀ x d, R H x d → R' H' x d) : Al R' H' xs ds := ⟨a.1, fun i x d h1 h2 => h x d (a.2 i x d h1 h2)⟩
structure LpI (l tl BL NL S0 : Addr) (border : List Str) (near : List (Str × (Int × Int))) (i : Nat) (H' : Hp) (c' : Nat) (zs : List V) (svs : List SvD) (inners : List (List Str)) : Prop where
  st : St H' l tl c'
  bl : H' BL = some (.lst (border.map V.str))
  nl : ∃ xs, H' NL = some (.lst xs) ∧ Al IsNear H' xs near
  s0 : H' S0 = some (.lst zs)
  al : Al (IsSvX fun b => b = l ∨ b = S0) H' zs svs
  len : svs.length = i
  leni : inners.length = i
  ok : ∀ (k : Nat) sv inner, svs[k]? = some sv → inners[k]? = some inner → PartOk border near k inner sv
theorem LpI.step {l tl BL NL S0 : Addr} {border : List Str} {near : List (Str × (Int × Int))} {i : Nat} {H' H'' : Hp} {c' c'' : Nat} {zs : List V} {svs : List SvD} {inners : List (List Str)} (h : LpI l tl BL NL S0 border near i H' c' zs svs inners)
    (n1 : BL ≠ l) (n2 : NL ≠ l) (n3 : S0 ≠ l) (s : SmL l H' H'') (t : St H'' l tl c'') : LpI l tl BL NL S0 border near i H'' c'' zs svs inners := by
  have f := s.fz h.st.lst
  obtain ⟨xs, h1, h2⟩ := h.nl
  exact ⟨t, s.1 _ _ n1 h.bl, ⟨xs, s.1 _ _ n2 h1, h2.mono IsNear.fz f⟩, s.1 _ _ n3 h.s0, h.al.imp fun x d hx => hx.keep f fun b ys nb e => s.1 _ _ (fun z => nb (.inl z)) e, h.len, h.leni, h.ok⟩
theorem inn_at {H' : Hp} {A1 A2 A3 A4 : Addr} {i : Nat} (h1 : H' A1 = none) (h2 : upd H' A1 (.lst [V.str "A", V.str "a"]) A2 = none) (h3 : upd (upd H' A1 (.lst [V.str "A", V.str "a"])) A2 (.lst [V.str "c"]) A3 = none)
    (h4 : upd (upd (upd H' A1 (.lst [V.str "A", V.str "a"])) A2 (.lst [V.str "c"])) A3 (.lst [V.str "d", V.str "e"]) A4 = none) (hi : i < 3) :
    ∃ Ak, [V.ref A1, V.ref A2, V.ref A3][i]? = some (.ref Ak) ∧ upd (upd (upd (upd H' A1 (.lst [V.str "A", V.str "a"])) A2 (.lst [V.str "c"])) A3 (.lst [V.str "d", V.str "e"])) A4 (.lst [V.ref A1, V.ref A2, V.ref A3]) Ak = some (.lst ((INN.getD i []).map V.str)) := by
  have q2 := sm_upd h2 (o := .lst [V.str "c"])
  have q3 := sm_upd h3 (o := .lst [V.str "d", V.str "e"])
  have q4 := sm_upd h4 (o := .lst [V.ref A1, V.ref A2, V.ref A3])
  match i, hi with
  | 0, _ => exact ⟨A1, rfl, q4 _ _ (q3 _ _ (q2 _ _ upd_same))⟩
  | 1, _ => exact ⟨A2, rfl, q4 _ _ (q3 _ _ upd_same)⟩
  | 2, _ => exact ⟨A3, rfl, q4 _ _ upd_same⟩
theorem mk_at {i : Nat} (hi : i < 3) : atI (("pqr" : Str).cps.toList) (i : Int) = some (112 + i) ∧ ("pqr" : Str).length ≤ sizeLine ∧ (MK i).length ≤ 10 := by
  have h2 : ("pqr" : Str).length ≤ sizeLine := by rw [sizeLine_eq]; decide +kernel
  have h : ∀ i ∈ List.range 3, atI (("pqr" : Str).cps.toList) (i : Int) = some (112 + i) ∧ (MK i).length ≤ 10 := by decide +kernel
  obtain ⟨a, b⟩ := h i (List.mem_range.mpr hi)
  exact ⟨a, h2, b⟩
theorem bord_B (r : Nat) : ("B" : Str) ∈ BORD.take (1 + r) := by
  rw [Nat.add_comm]
  exact List.mem_cons_self
theorem filt_take {α : Type} {p : α → Bool} {l : List α} {i : Nat} {x : α} (e : l[i]? = some x) : (l.take (i + 1)).filter p = (l.take i).filter p ++ (if p x = true then [x] else []) := by
  rw [take_snoc e, List.filter_append]
  by_cases h : p x = true <;> simp [h]
section
variable {P : Program} {w : World} {K : PySem.W.Frag} {mg : Str → Option Value} {base : Heap}

def spParts : Sp := fun vs H Q _ => ∃ (l tl : Addr) (c : Nat), vs = [.ref l] ∧ St H l tl c ∧ c < 1000 ∧
  ∀ H' o bl nl sl (wz : V) zs border near svs inners, PaOk border near svs inners → H' o = some (.tup [.ref bl, .ref nl, .ref sl, wz]) → H' bl = some (.lst (border.map V.str)) → H' sl = some (.lst zs) → Al IsSv H' zs svs → IsSv H' wz (wholeOf border near svs) →
    (∀ (b : Addr), b ≠ l → ∀ (u : HO), H b = some u → H' b = some u) → Q (.ref o) H'
theorem sc__law_parts : FnScope ["_law_state", "_law_border", "_law_near", "_law_surveys", "_law_k", "_law_inner", "_law_names", "_law_survey_here", "_law_own", "_law_whole", "_law_readings", "_law_name", "_law_pair_here"] ["_law_state"] (defScope sLParts) := ⟨rfl, rfl, rfl, by decide +kernel, rfl, by decide +kernel, by decide +kernel⟩
theorem ok__law_parts (T : TX w K mg) : C8.Cal P w K mg base 5 "_law_parts" (spParts) [] := by
  refine cal1 (d__law_parts T) (g__law_parts T) (ps := ["_law_state"]) (fun _ _ _ _ _ _ us hl => match us, hl with | [_], _ => rfl) sc__law_parts (fun vs H Q E h => ?_) (fun cdv A outr s H vs Q E hr h => ?_)
  · obtain ⟨l, tl, c, rfl, _⟩ := h
    rfl
  · obtain ⟨l, tl, c, rfl, hs, hc, k⟩ := h
    refine ⟨_, (pss_cons (ps_set (i := 1) sc__law_parts.nd rfl (Or.inr rfl) (pe_slice sl_list (pe_lst (pa_cons pe_str (pa_cons pe_str (pa_cons pe_str pa_nil)))) po_none (po_some (pe_op op_add pe_int (C8.pe_c (j := 4) (ok__law_take T) hr (by decide) rfl (pa_cons (pv 0) (pa_cons pe_int pa_nil)))))))
      (pss_cons (ps_setLc (i := 2) (own := [("_law_name", 11)]) (g := gName 11) (by rfl) sc__law_parts.nd rfl rfl (sw_true rfl rfl rfl (by decide +kernel)) (pi_listK (K := K) (pv 1)) (blkOk_by (own := [("_law_name", 11)]) (N := ["_law_state", "_law_border", "_law_near", "_law_surveys", "_law_k", "_law_inner", "_law_names", "_law_survey_here", "_law_own", "_law_whole", "_law_readings", "_law_name", "_law_pair_here"]) (sc := defScope sLParts) (by decide +kernel))
      (fun _ _ _ _ _ => (pg_name (i := 11) sc__law_parts.nd rfl (Or.inl rfl))) (fun _ _ _ _ _ => pts_nil) (fun _ _ _ _ _ => (pe_tup (pa_cons (pv 11) (pa_cons (C8.pe_c (j := 4) (ok__law_number T) hr (by decide) rfl (pa_cons (pv 0) pa_nil)) pa_nil)))))
      (pss_cons (ps_set (i := 3) sc__law_parts.nd rfl (Or.inl rfl) (pe_lst pa_nil))
      (pss_cons (ps_for PassesOwn.never rfl (pi_range1 rfl (n_range T) (pa_cons (pe_op op_add pe_int (C8.pe_c (j := 4) (ok__law_take T) hr (by decide) rfl (pa_cons (pv 0) (pa_cons pe_int pa_nil)))) pa_nil)) (pg_name (i := 4) sc__law_parts.nd rfl (Or.inl rfl)) (pss_cons (ps_set (i := 5) sc__law_parts.nd rfl (Or.inr rfl) (pe_ixLK (K := K) (pe_lst (pa_cons (pe_lst (pa_cons pe_str (pa_cons pe_str pa_nil))) (pa_cons (pe_lst (pa_cons pe_str pa_nil)) (pa_cons (pe_lst (pa_cons pe_str (pa_cons pe_str pa_nil))) pa_nil)))) (pv 4) (fun _ _ => rfl)))
      (pss_cons (ps_set (i := 5) sc__law_parts.nd rfl (Or.inr rfl) (pe_slice sl_list (pv 5) po_none (po_some (C8.pe_c (j := 4) (ok__law_take T) hr (by decide) rfl (pa_cons (pv 0) (pa_cons (pe_op op_add (pe_callB call_len_seq (by rfl) (n_len T) PySem.boot_len (pa_cons (pv 5) pa_nil)) pe_int) pa_nil))))))
      (pss_cons (ps_setLc (i := 6) (own := [("_law_name", 11)]) (g := gName 11) (by rfl) sc__law_parts.nd rfl rfl (sw_true rfl rfl rfl (by decide +kernel)) (pi_listK (K := K) (pe_lst (pa_cons pe_str (pa_cons pe_str (pa_cons pe_str (pa_cons pe_str (pa_cons pe_str (pa_cons pe_str (pa_cons pe_str (pa_cons pe_str pa_nil)))))))))) (blkOk_by (own := [("_law_name", 11)]) (N := ["_law_state", "_law_border", "_law_near", "_law_surveys", "_law_k", "_law_inner", "_law_names", "_law_survey_here", "_law_own", "_law_whole", "_law_readings", "_law_name", "_law_pair_here"]) (sc := defScope sLParts) (by decide +kernel))
      (fun _ _ _ _ _ => (pg_name (i := 11) sc__law_parts.nd rfl (Or.inl rfl))) (fun _ _ _ _ _ => (pts_one (pw_or (pt_inK (K := K) (pv 11) (pv 5)) (pw_or1 (pt_inK (K := K) (pv 11) (pv 1)))).pt)) (fun _ _ _ _ _ => (pv 11)))
      (pss_cons (ps_set (i := 7) sc__law_parts.nd rfl (Or.inl rfl) (C8.pe_c (j := 4) (ok__law_survey T) hr (by decide) rfl (pa_cons (pv 0) (pa_cons (pv 6) (pa_cons (pe_ix ix_str pe_str (pv 4) (fun _ _ => rfl)) (pa_cons pe_int pa_nil))))))
      (pss_cons (ps_setLc (i := 8) (own := [("_law_pair_here", 12)]) (g := gName 12) (by rfl) sc__law_parts.nd rfl rfl (sw_true rfl rfl rfl (by decide +kernel)) (pi_listK (K := K) (pe_ixTK (K := K) (pv 7) pe_int (fun _ _ => rfl))) (blkOk_by (own := [("_law_pair_here", 12)]) (N := ["_law_state", "_law_border", "_law_near", "_law_surveys", "_law_k", "_law_inner", "_law_names", "_law_survey_here", "_law_own", "_law_whole", "_law_readings", "_law_name", "_law_pair_here"]) (sc := defScope sLParts) (by decide +kernel))
      (fun _ _ _ _ _ => (pg_name (i := 12) sc__law_parts.nd rfl (Or.inl rfl))) (fun _ _ _ _ _ => (pts_one (pt_inK (K := K) (pe_ixTK (K := K) (pv 12) pe_int (fun _ _ => rfl)) (pv 5)))) (fun _ _ _ _ _ => (pv 12)))
      (pss_one (ps_expr (pe_bm PySem.F.plainAttrs_list PySem.F.slot_list_append PySem.F.type_list_append mt_append (pv 3) (pa_cons (pe_tup (pa_cons (pe_op op_cat (pv 2) (pv 8)) (pa_cons (pe_ixTK (K := K) (pv 7) pe_int (fun _ _ => rfl)) pa_nil))) pa_nil))))))))))
      (pss_cons (ps_set (i := 9) sc__law_parts.nd rfl (Or.inl rfl) (pe_callTy call_list_of (by rfl) (n_list T) (by decide +kernel) (pa_cons (pv 2) pa_nil)))
      (pss_cons (ps_set (i := 10) sc__law_parts.nd rfl (Or.inl rfl) (pe_lst pa_nil))
      (pss_cons (ps_for PassesOwn.never rfl (pi_listK (K := K) (pv 3)) (pg_name (i := 7) sc__law_parts.nd rfl (Or.inl rfl)) (pss_cons (ps_set (i := 9) sc__law_parts.nd rfl (Or.inl rfl) (pe_op op_cat (pv 9) (pe_slice sl_list (pe_ixTK (K := K) (pv 7) pe_int (fun _ _ => rfl)) (po_some (pe_callB call_len_seq (by rfl) (n_len T) PySem.boot_len (pa_cons (pv 1) pa_nil))) po_none)))
      (pss_one (ps_set (i := 10) sc__law_parts.nd rfl (Or.inl rfl) (pe_op op_cat (pv 10) (pe_ixTK (K := K) (pv 7) pe_int (fun _ _ => rfl)))))))
      (pss_one (ps_ret (pe_tup (pa_cons (pv 1) (pa_cons (pv 2) (pa_cons (pv 3) (pa_cons (pe_tup (pa_cons (pv 9) (pa_cons (pv 10) pa_nil))) pa_nil)))))))))))))), ?_⟩
    -- the border's names
    refine ⟨(by show 3 ≤ sizeLine; decide), fun L0 hL0 => ?_⟩
    have s0 := sm_upd hL0 (o := .lst [V.str "B", V.str "B1", V.str "Z"])
    have hL0' : upd H L0 (.lst [V.str "B", V.str "B1", V.str "Z"]) L0 = some (.lst (BORD.map V.str)) := upd_same
    have t0 := hs.same s0
    have nL0 := ne_st t0 hL0'
    generalize upd H L0 (.lst [V.str "B", V.str "B1", V.str "Z"]) = H0 at *
    refine ⟨_, rfl, l, tl, c, 3, rfl, t0, by omega, by decide, fun r0 H1 hr0 s1 t1 => ⟨_, _, rfl, rfl, _, rfl, L0, _, rfl, SqL.of (s1.1 _ _ nL0 hL0'), fun BL hBL => ?_⟩⟩
    rw [cut_take1, ← List.map_take]
    have s2 := sm_upd hBL (o := .lst ((BORD.take (1 + r0)).map V.str))
    have hBL' : upd H1 BL (.lst ((BORD.take (1 + r0)).map V.str)) BL = some (.lst ((BORD.take (1 + r0)).map V.str)) := upd_same
    have t2 := t1.same s2
    have s02 : SmL l H (upd H1 BL (.lst ((BORD.take (1 + r0)).map V.str))) := ((SmL.of s0).trans s1).trans (SmL.of s2)
    obtain ⟨border, hborder⟩ : ∃ b, b = BORD.take (1 + r0) := ⟨_, rfl⟩
    rw [← hborder] at hBL' t2 s02 ⊢
    have nBl := ne_st t2 hBL'
    have lb : border.length ≤ 3 := by rw [hborder, List.length_take]; exact Nat.le_trans (Nat.min_le_right _ _) (by decide)
    have lbm : (border.map V.str).length = border.length := List.length_map ..
    generalize upd H1 BL (.lst (border.map V.str)) = H2 at *
    clear s0 hL0' t0 nL0 s1 t1 s2
    -- the approximations
    refine ⟨_, rfl, BL, rfl, ⟨_, SqL.of hBL'⟩, fun NL hNL => ?_⟩
    have nNl : NL ≠ l := fun e => by obtain ⟨xs, h⟩ := t2.lst; rw [e, h] at hNL; cases hNL
    have nNt : NL ≠ tl := fun e => by obtain ⟨xs, h⟩ := t2.some2; rw [e, h] at hNL; cases hNL
    refine lc_any (β := Str × (Int × Int)) (R := IsNear) (J := Itl K BL) (n := border.length) (vs := [11]) (g := gName 11) IsNear.fz (FrOk.smL t2.lst) hNL nNl (by omega)
      (fun i (ds : List (Str × (Int × Int))) H' => ∃ c', c' ≤ c + 1 + 2 * i ∧ St H' l tl c' ∧ (ds.map fun (d : Str × (Int × Int)) => d.1) = border.take i ∧ ∀ d ∈ ds, PrOk d.2)
      ⟨c + 1, by omega, t2.updD (Ne.symm nNl) (Ne.symm nNt), by rw [List.take_zero]; rfl, fun d hd => by cases hd⟩ (fun i ds H' x y ⟨c', h1, h2, h3, h4⟩ _ => ⟨c', h1, h2.updD (Ne.symm nNl) (Ne.symm nNt), h3, h4⟩)
      (fun i ds H' s' _ hi => ⟨_, V.str (border[i]), SqL.of (s'.1 _ _ nBl hBL'), by rw [List.getElem?_map, List.getElem?_eq_getElem hi]; rfl⟩) (fun ds H' s' _ => ⟨_, SqL.of (s'.1 _ _ nBl hBL'), by rw [lbm]; exact Nat.le_refl _⟩) ?_ ?_
    · rintro i ds H3 x H4 hi s3 ⟨c', hc', t3, hsub, hcf⟩ ⟨rfl, hy⟩
      have hx := hy _ (SqL.of (s3.1 _ _ nBl hBL'))
      obtain ⟨n, en, rfl⟩ := strs_at hx
      refine ⟨SmL.of (Same.refl _), fun Qg hq => hq _ wipe1 fun Nx0 kd hskip hadd => ?_⟩
      show (if true = true then _ else Nx0 H4)
      refine iteT ⟨_, rfl, _, rfl, l, tl, c', rfl, t3, by omega, fun H3 z d s3 t3 hd okd => ⟨(by show 2 ≤ sizeLine; decide), fun o ho => ?_⟩⟩
      have s6 := sm_upd ho (o := .tup [.str n, z])
      refine hadd _ (n, d) _ (s3.trans (SmL.of s6)) ⟨o, z, rfl, upd_same, IsPr.fz _ _ _ _ (Fz.of s6) hd⟩ ⟨c' + 2, by omega, t3.same s6, ?_, ?_⟩
      · rw [List.map_append, take_snoc en, hsub]; rfl
      · intro d' hd'
        rcases List.mem_append.mp hd' with hd' | hd'
        · exact hcf d' hd'
        · rw [List.mem_singleton.mp hd']; exact okd
    intro H3 accN near s3 haccN alN ⟨c3, hc3, t3, hnear, hnok⟩
    rw [List.take_length] at hnear
    have hBL3 := s3.1 _ _ nBl hBL'
    have s03 := s02.trans s3
    have lnear : near.length = border.length := by rw [← hnear, List.length_map]
    have laN := alN.1
    clear s3
    -- surveys
    refine ⟨Nat.zero_le _, fun S0 hS0 => ?_⟩
    have nSl : S0 ≠ l := fun e => by obtain ⟨xs, h⟩ := t3.lst; rw [e, h] at hS0; cases hS0
    have nSt : S0 ≠ tl := fun e => by obtain ⟨xs, h⟩ := t3.some2; rw [e, h] at hS0; cases hS0
    have nBS : BL ≠ S0 := ne_of_none hBL3 hS0
    have nNS : NL ≠ S0 := ne_of_none haccN hS0
    have sS := sm_upd hS0 (o := .lst [])
    have hSn : H S0 = none := by
      cases e : H S0 with
      | none => rfl
      | some u => have := s03.1 _ _ nSl e; rw [hS0] at this; cases this
    have hS1 : upd H3 S0 (.lst []) S0 = some (.lst []) := upd_same
    have L1 : LpI l tl BL NL S0 border near 0 (upd H3 S0 (.lst [])) c3 [] [] [] := ⟨t3.same sS, sS _ _ hBL3, ⟨accN, sS _ _ haccN, alN.mono IsNear.fz (Fz.of sS)⟩, upd_same, Al.nil, rfl, rfl, fun k sv inner h => by cases h⟩
    have s04 := s03.trans (SmL.of sS)
    generalize upd H3 S0 (.lst []) = H4 at *
    clear t3 hBL3 haccN alN sS s03 s02 t2 hBL' hS1
    refine ⟨_, rfl, l, tl, c3, 2, rfl, L1.st, by omega, by decide, fun r2 H5 hr2 s5 t5 => ⟨_, _, rfl, rfl, _, rfl, by omega, by omega, ?_⟩⟩
    have L2' := L1.step nBl nNl nSl s5 t5
    have en : ((1 : Int) + 1 + (r2 : Int)).toNat = 2 + r2 := by omega
    have en2 : ((2 : Int) + (r2 : Int)).toNat = 2 + r2 := by omega
    rw [en2]
    have s05 := s04.trans s5
    refine for_range (lo := 0) (n := 2 + r2) (fun i σ H' => ∃ (v4 v5 v6 v7 v8 : Option V) (c' : Nat) (zs : List V) (svs : List SvD) (inners : List (List Str)), σ = [some (.ref l), some (.ref BL), some (.ref NL), some (.ref S0), v4, v5, v6, v7, v8, none, none, none, none] ∧ (∀ (b : Addr), b ≠ l → ∀ (u : HO), H b = some u → H' b = some u) ∧ LpI l tl BL NL S0 border near i H' c' zs svs inners ∧ c' ≤ c + 20 + i * 3000)
      ⟨none, none, none, none, none, c3 + 1, [], [], [], rfl, fun b nb u e => s05.1 _ _ nb e, L2', by omega⟩ ?_ ?_
    · rintro i σ H' hi ⟨v4, v5, v6, v7, v8, c', zs, svs, inners, rfl, sH, LI, hc'⟩
      have hi3 : i < 3 := by omega
      have hmul : i * 3000 ≤ 2 * 3000 := Nat.mul_le_mul_right _ (by omega)
      have ez : (0 : Int) + (i : Int) = (i : Int) := by omega
      rw [ez]
      -- the inner names
      refine ⟨(by show 2 ≤ sizeLine; decide), fun A1 hA1 => ⟨(by show 1 ≤ sizeLine; decide), fun A2 hA2 => ⟨(by show 2 ≤ sizeLine; decide), fun A3 hA3 => ⟨(by show 3 ≤ sizeLine; decide), fun A4 hA4 => ?_⟩⟩⟩⟩
      have q1 := sm_upd hA1 (o := .lst [V.str "A", V.str "a"])
      have q2 := sm_upd hA2 (o := .lst [V.str "c"])
      have q3 := sm_upd hA3 (o := .lst [V.str "d", V.str "e"])
      have q4 := sm_upd hA4 (o := .lst [V.ref A1, V.ref A2, V.ref A3])
      obtain ⟨Ak, eAk, hAk⟩ := inn_at (i := i) hA1 hA2 hA3 hA4 hi3
      refine ⟨_, rfl, A4, _, _, .ref Ak, rfl, rfl, SqL.of upd_same, atI_nat eAk, ?_⟩
      have q14 := (q1.trans q2).trans (q3.trans q4)
      have LA := LI.step nBl nNl nSl (SmL.of q14) (LI.st.same q14)
      have sHA : ∀ (b : Addr), b ≠ l → ∀ (u : HO), H b = some u → upd (upd (upd (upd H' A1 (.lst [V.str "A", V.str "a"])) A2 (.lst [V.str "c"])) A3 (.lst [V.str "d", V.str "e"])) A4 (.lst [V.ref A1, V.ref A2, V.ref A3]) b = some u := fun b nb u e => q14 _ _ (sH b nb u e)
      generalize upd (upd (upd (upd H' A1 (.lst [V.str "A", V.str "a"])) A2 (.lst [V.str "c"])) A3 (.lst [V.str "d", V.str "e"])) A4 (.lst [V.ref A1, V.ref A2, V.ref A3]) = HA at *
      clear q1 q2 q3 q4 q14 LI sH hA1 hA2 hA3 hA4
      have nAl := ne_st LA.st hAk
      have lAk : ((INN.getD i []).map V.str).length = (INN.getD i []).length := List.length_map ..
      refine ⟨_, rfl, _, rfl, _, rfl, Ak, _, rfl, .inl (SqL.of hAk), _, _, rfl, rfl, l, tl, c', (INN.getD i []).length + 1, by rw [lAk]; rfl, LA.st, by omega, by omega, fun ri HB hri sB tB => ⟨_, rfl, Ak, _, rfl, SqL.of (sB.1 _ _ nAl hAk), fun IL hIL => ?_⟩⟩
      rw [cut_takeA, ← List.map_take]
      have LB := LA.step nBl nNl nSl sB tB
      have qC := sm_upd hIL (o := .lst (((INN.getD i []).take ri).map V.str))
      have hIL' : upd HB IL (.lst (((INN.getD i []).take ri).map V.str)) IL = some (.lst (((INN.getD i []).take ri).map V.str)) := upd_same
      have LC := LB.step nBl nNl nSl (SmL.of qC) (LB.st.same qC)
      have sHC : ∀ (b : Addr), b ≠ l → ∀ (u : HO), H b = some u → upd HB IL (.lst (((INN.getD i []).take ri).map V.str)) b = some u := fun b nb u e => qC _ _ (sB.1 _ _ nb (sHA b nb u e))
      obtain ⟨inner, hinner⟩ : ∃ b, b = (INN.getD i []).take ri := ⟨_, rfl⟩
      rw [← hinner] at hIL' LC sHC ⊢
      generalize upd HB IL (.lst (inner.map V.str)) = HC at *
      clear hAk LA sHA sB tB LB qC
      have nIl := ne_st LC.st hIL'
      -- the part's names
      refine ⟨(by show 8 ≤ sizeLine; decide), fun A8 hA8 => ?_⟩
      have q8 := sm_upd hA8 (o := .lst [V.str "A", V.str "B", V.str "B1", V.str "Z", V.str "a", V.str "c", V.str "d", V.str "e"])
      have hA8' : upd HC A8 (.lst [V.str "A", V.str "B", V.str "B1", V.str "Z", V.str "a", V.str "c", V.str "d", V.str "e"]) A8 = some (.lst (ALLN.map V.str)) := upd_same
      have LD := LC.step nBl nNl nSl (SmL.of q8) (LC.st.same q8)
      have hILD := q8 _ _ hIL'
      have sHD : ∀ (b : Addr), b ≠ l → ∀ (u : HO), H b = some u → upd HC A8 (.lst [V.str "A", V.str "B", V.str "B1", V.str "Z", V.str "a", V.str "c", V.str "d", V.str "e"]) b = some u := fun b nb u e => q8 _ _ (sHC b nb u e)
      generalize upd HC A8 (.lst [V.str "A", V.str "B", V.str "B1", V.str "Z", V.str "a", V.str "c", V.str "d", V.str "e"]) = HD at *
      clear q8 LC hIL' sHC hA8
      refine ⟨A8, rfl, ⟨_, SqL.of hA8'⟩, fun NM hNM => ?_⟩
      refine lc_any (β := Str) (R := IsStr) (J := Itl K A8) (n := ALLN.length) (vs := [11]) (g := gName 11) IsStr.fz FrOk.same hNM trivial (by decide)
        (fun j (ds : List Str) _ => ds = (ALLN.take j).filter fun n => decide (n ∈ inner) || decide (n ∈ border)) rfl (fun _ _ _ _ _ h _ => h)
        (fun j ds H' s' _ hj => ⟨_, V.str (ALLN[j]), SqL.of (s' _ _ hA8'), by rw [List.getElem?_map, List.getElem?_eq_getElem hj]; rfl⟩) (fun ds H' s' _ => ⟨_, SqL.of (s' _ _ hA8'), by rw [List.length_map]; exact Nat.le_refl _⟩) ?_ ?_
      · rintro j ds H3 x H4 hj s3 hds ⟨rfl, hy⟩
        have hx := hy _ (SqL.of (s3 _ _ hA8'))
        obtain ⟨n, en, rfl⟩ := strs_at hx
        refine ⟨Same.refl _, fun Qg hq => hq _ wipe1 fun Nx0 kd hskip hadd => ?_⟩
        refine ⟨_, rfl, _, rfl, IL, _, rfl, .inl (SqL.of (s3 _ _ hILD)), rfl, all_flatS _, _, rfl, ?_⟩
        rw [inV_str]
        by_cases h1 : n ∈ inner
        · have hp : (decide (n ∈ inner) || decide (n ∈ border)) = true := by rw [decide_eq_true h1]; rfl
          rw [decide_eq_true h1]
          refine iteT ?_
          refine iteT ⟨_, rfl, hadd _ n _ (Same.refl _) rfl ?_⟩
          rw [filt_take en, if_pos hp, hds]
        · rw [decide_eq_false h1]
          refine iteF ⟨_, rfl, _, rfl, BL, _, rfl, .inl (SqL.of (s3 _ _ LD.bl)), rfl, all_flatS _, _, rfl, ?_⟩
          rw [inV_str]
          by_cases h2 : n ∈ border
          · have hp : (decide (n ∈ inner) || decide (n ∈ border)) = true := by rw [decide_eq_true h2, Bool.or_true]
            rw [decide_eq_true h2]
            refine iteT ⟨_, rfl, hadd _ n _ (Same.refl _) rfl ?_⟩
            rw [filt_take en, if_pos hp, hds]
          · have hp : ¬ (decide (n ∈ inner) || decide (n ∈ border)) = true := by rw [decide_eq_false h1, decide_eq_false h2]; simp
            rw [decide_eq_false h2]
            refine iteF (hskip _ (Same.refl _) ?_)
            rw [filt_take en, if_neg hp, List.append_nil, hds]
      intro HE accM names sE haccM alM hnames
      have hnm : names = namesOf inner border := by rw [hnames, List.take_length]; rfl
      have eM := alM.str
      subst eM
      rw [hnm] at haccM
      have LE := LD.step nBl nNl nSl (SmL.of sE) (LD.st.same sE)
      have hILE := sE _ _ hILD
      have sHE : ∀ (b : Addr), b ≠ l → ∀ (u : HO), H b = some u → HE b = some u := fun b nb u e => sE _ _ (sHD b nb u e)
      clear hnames hnm alM LD hILD sHD sE hA8' hNM
      -- the survey
      obtain ⟨mk1, mk2, mk3⟩ := mk_at hi3
      have hnz : 0 < (namesOf inner border).length := by
        have hB : ("B" : Str) ∈ border := by
          rw [hborder]
          exact bord_B r0
        exact List.length_pos_of_mem (List.mem_filter.mpr ⟨by decide +kernel, by rw [decide_eq_true hB, Bool.or_true]⟩ : ("B" : Str) ∈ namesOf inner border)
      refine ⟨_, rfl, _, rfl, _, rfl, _, _, _, rfl, rfl, mk2, mk1, l, tl, NM, namesOf inner border, c' + 1, MK i, rfl, LE.st, haccM, names_ok _ _, hnz, by omega, mk3, fun HF zF sd cF sF tF hcF hsv okF => ?_⟩
      have LF := LE.step nBl nNl nSl sF tF
      have hILF := sF.1 _ _ nIl hILE
      have sHF : ∀ (b : Addr), b ≠ l → ∀ (u : HO), H b = some u → HF b = some u := fun b nb u e => sF.1 _ _ nb (sHE b nb u e)
      obtain ⟨oF, nlF, rlF, xsF, ysF, rfl, hoF, hnlF, anF, hrlF, arF, nn1, nn2⟩ := hsv
      have nrl : rlF ≠ l ∧ rlF ≠ S0 := ⟨(fun e => by obtain ⟨xs, h⟩ := LE.st.lst; rw [e, h] at nn2; cases nn2), (fun e => by rw [e, LE.s0] at nn2; cases nn2)⟩
      clear LE hILE sHE sF haccM
      -- its own points
      refine ⟨_, rfl, oF, _, _, .ref nlF, rfl, rfl, SqT.of hoF, at_of (j := 0) rfl rfl, nlF, rfl, ⟨_, SqL.of hnlF⟩, fun OW hOW => ?_⟩
      have lsd := anF.1
      have lnm : sd.near.length ≤ 8 := by
        have := congrArg List.length okF.near
        rw [List.length_map] at this
        rw [this]
        exact Nat.le_trans (List.length_filter_le _ _) (by decide)
      refine lc_any (β := Str × (Int × Int)) (R := IsNear) (J := Itl K nlF) (n := sd.near.length) (vs := [12]) (g := gName 12) IsNear.fz FrOk.same hOW trivial (by omega)
        (fun j (ds : List (Str × (Int × Int))) _ => ds = (sd.near.take j).filter fun e => decide (e.1 ∈ inner)) rfl (fun _ _ _ _ _ h _ => h)
        (fun j ds H' s' _ hj => ⟨_, xsF[j]'(by omega), SqL.of (s' _ _ hnlF), List.getElem?_eq_getElem (by omega)⟩) (fun ds H' s' _ => ⟨_, SqL.of (s' _ _ hnlF), by omega⟩) ?_ ?_
      · rintro j ds H3 x H4 hj s3 hds ⟨rfl, hy⟩
        have hx := hy _ (SqL.of (s3 _ _ hnlF))
        obtain ⟨e, ee, re⟩ := anF.get hx
        have re3 := IsNear.fz _ _ _ _ (Fz.of s3) re
        obtain ⟨eb, ep, rfl, heb, hep⟩ := re3
        refine ⟨Same.refl _, fun Qg hq => hq _ wipe1 fun Nx0 kd hskip hadd => ?_⟩
        refine ⟨_, rfl, eb, _, _, .str e.1, rfl, rfl, SqT.of heb, at_of (j := 0) rfl rfl, _, rfl, IL, _, rfl, .inl (SqL.of (s3 _ _ hILF)), rfl, all_flatS _, _, rfl, ?_⟩
        rw [inV_str]
        by_cases h1 : e.1 ∈ inner
        · rw [decide_eq_true h1]
          refine iteT ⟨_, rfl, hadd _ e _ (Same.refl _) ⟨eb, ep, rfl, heb, hep⟩ ?_⟩
          rw [filt_take ee, if_pos (decide_eq_true h1), hds]
        · rw [decide_eq_false h1]
          refine iteF (hskip _ (Same.refl _) ?_)
          rw [filt_take ee, if_neg (fun h => h1 (of_decide_eq_true h)), List.append_nil, hds]
      intro HG accO own sG haccO alO hown
      rw [List.take_length] at hown
      have LG := LF.step nBl nNl nSl (SmL.of sG) (LF.st.same sG)
      have sHG : ∀ (b : Addr), b ≠ l → ∀ (u : HO), H b = some u → HG b = some u := fun b nb u e => sG _ _ (sHF b nb u e)
      have hoG := sG _ _ hoF
      have hrlG := sG _ _ hrlF
      have arG := arF.mono IsRr.fz (Fz.of sG)
      clear LF sHF hILF sG hnlF anF arF hoF hrlF
      -- append
      obtain ⟨xsN, hNLG, aNG⟩ := LG.nl
      have lo := alO.1
      have lown : own.length ≤ 8 := by rw [hown]; exact Nat.le_trans (List.length_filter_le _ _) lnm
      have lxN := aNG.1
      have hsz := sizeLine_eq
      refine ⟨_, rfl, .inl ⟨rfl, _, SqL.of LG.s0⟩, ?_⟩
      refine ⟨_, rfl, _, rfl, NL, OW, _, _, rfl, rfl, hNLG, haccO, by omega, fun CL hCL => ?_⟩
      have qC := sm_upd hCL (o := .lst (xsN ++ accO))
      refine ⟨_, rfl, oF, _, _, .ref rlF, rfl, rfl, SqT.of (qC _ _ hoG), at_of (j := 1) rfl rfl, (by show 2 ≤ sizeLine; decide), fun oC hoC => ?_⟩
      have qO := sm_upd hoC (o := .tup [.ref CL, .ref rlF])
      have qq := qC.trans qO
      have LH := LG.step nBl nNl nSl (SmL.of qq) (LG.st.same qq)
      have hCL2 : upd (upd HG CL (.lst (xsN ++ accO))) oC (.tup [.ref CL, .ref rlF]) CL = some (.lst (xsN ++ accO)) := qO _ _ upd_same
      have hoC2 : upd (upd HG CL (.lst (xsN ++ accO))) oC (.tup [.ref CL, .ref rlF]) oC = some (.tup [.ref CL, .ref rlF]) := upd_same
      have hrl2 := qq _ _ hrlG
      have arH := arG.mono IsRr.fz (Fz.of qq)
      have aCH := (aNG.app alO).mono IsNear.fz (Fz.of qq)
      have sHH : ∀ (b : Addr), b ≠ l → ∀ (u : HO), H b = some u → upd (upd HG CL (.lst (xsN ++ accO))) oC (.tup [.ref CL, .ref rlF]) b = some u := fun b nb u e => qq _ _ (sHG b nb u e)
      have nCL : CL ≠ l ∧ CL ≠ S0 := ⟨(fun e => by obtain ⟨xs, h⟩ := LG.st.lst; rw [e, h] at hCL; cases hCL), (fun e => by rw [e, LG.s0] at hCL; cases hCL)⟩
      generalize upd (upd HG CL (.lst (xsN ++ accO))) oC (.tup [.ref CL, .ref rlF]) = HI at *
      clear LG sHG hoG hrlG arG hNLG aNG haccO alO qC qO qq hCL hoC
      have lz := LH.al.1
      have lsv := LH.len
      refine ⟨S0, zs, _, rfl, rfl, LH.s0, small1000 (by omega), ?_⟩
      have nOS : oC ≠ S0 := ne_of hoC2 LH.s0 (by simp)
      have nTS : tl ≠ S0 := fun e => by
        obtain ⟨ts, _, _, h⟩ := L1.st
        have := s5.1
        exact absurd e (Ne.symm nSt)
      have fzS : Fz HI (upd HI S0 (.lst (zs ++ [.ref oC]))) := Fz.lst LH.s0
      have kS : ∀ b u, b ≠ S0 → HI b = some u → upd HI S0 (.lst (zs ++ [.ref oC])) b = some u := fun b u n e => by rw [upd_ne n]; exact e
      obtain ⟨xsN2, hN2, aN2⟩ := LH.nl
      refine ⟨_, _, _, _, _, cF, zs ++ [.ref oC], svs ++ [⟨near ++ own, sd.rds⟩], inners ++ [inner], rfl, fun b nb u e => kS _ _ (fun z => by rw [z, hSn] at e; cases e) (sHH b nb u e), ⟨LH.st.updD (Ne.symm nSl) nTS, kS _ _ nBS LH.bl, ⟨xsN2, kS _ _ nNS hN2, aN2.mono IsNear.fz fzS⟩, upd_same, ?_, by rw [List.length_append, LH.len]; rfl, by rw [List.length_append, LH.leni]; rfl, ?_⟩, by rw [Nat.add_mul]; omega⟩
      · refine (LH.al.imp fun x d hx => hx.keep fzS fun b ys nb e => kS _ _ (fun z => nb (.inr z)) e).app (Al.one ⟨oC, CL, rlF, _, _, rfl, kS _ _ nOS hoC2, kS _ _ nCL.2 hCL2, aCH.mono IsNear.fz fzS, kS _ _ nrl.2 hrl2, arH.mono IsRr.fz fzS, fun h => h.elim nCL.1 nCL.2, fun h => h.elim nrl.1 nrl.2⟩)
      · intro q sv inn e1 e2
        by_cases hq : q < i
        · rw [List.getElem?_append_left (by rw [LH.len]; exact hq)] at e1
          rw [List.getElem?_append_left (by rw [LH.leni]; exact hq)] at e2
          exact LH.ok q sv inn e1 e2
        · have hq2 : q = i := by
            have := (List.getElem?_eq_some_iff.mp e1).1
            rw [List.length_append, LH.len, List.length_singleton] at this
            omega
          subst hq2
          rw [List.getElem?_append_right (by rw [LH.len]; exact Nat.le_refl _), LH.len, Nat.sub_self] at e1
          rw [List.getElem?_append_right (by rw [LH.leni]; exact Nat.le_refl _), LH.leni, Nat.sub_self] at e2
          cases e1
          cases e2
          refine ⟨⟨ri, by omega, hinner⟩, ⟨own, rfl, ?_, ?_⟩, okF.rnm, okF.rok, okF.len⟩
          · rw [hown, ← okF.near, List.filter_map]; rfl
          · intro e he
            rw [hown] at he
            exact okF.nok e (List.mem_filter.mp he).1
    · rintro σ H' ⟨v4, v5, v6, v7, v8, c', zs, svs, inners, rfl, sH, LI, hc'⟩
      have lz := LI.al.1
      have lsv := LI.len
      have hsz := sizeLine_eq
      have pa : PaOk border near svs inners := ⟨⟨r0, hr0, hborder⟩, hnear, hnok, by rw [LI.leni, LI.len], by omega, by omega, LI.ok⟩
      obtain ⟨xsN, hN, aN⟩ := LI.nl
      refine ⟨_, rfl, NL, xsN, rfl, .inl (SqL.of hN), fun WL hWL => ?_⟩
      have q1 := sm_upd hWL (o := .lst xsN)
      refine ⟨Nat.zero_le _, fun RL hRL => ?_⟩
      have q2 := sm_upd hRL (o := .lst [])
      have qq := q1.trans q2
      have hW1 := q2 WL (.lst xsN) upd_same
      have hR1 : upd (upd H' WL (.lst xsN)) RL (.lst []) RL = some (.lst []) := upd_same
      have aN1 := aN.mono IsNear.fz (Fz.of qq)
      have hS1 := qq _ _ LI.s0
      generalize upd (upd H' WL (.lst xsN)) RL (.lst []) = H1' at *
      refine ⟨_, rfl, S0, rfl, ⟨_, SqL.of hS1⟩, ?_⟩
      refine for_list (K := K) (a := S0) (xs := zs) (fun i σ H'' => ∃ (v7 : Option V) (WL RL : Addr) (ws rs : List V), σ = [some (.ref l), some (.ref BL), some (.ref NL), some (.ref S0), v4, v5, v6, v7, v8, some (.ref WL), some (.ref RL), none, none] ∧ Same H1' H'' ∧ H'' WL = some (.lst ws) ∧ Al IsNear H'' ws (near ++ ((svs.take i).map fun sv => sv.near.drop border.length).flatten) ∧ H'' RL = some (.lst rs) ∧ Al IsRr H'' rs ((svs.take i).map fun sv => sv.rds).flatten ∧ ws.length ≤ 3 + 8 * i ∧ rs.length ≤ 5 * i)
        ⟨v7, WL, RL, xsN, [], rfl, Same.refl _, hW1, by rw [List.take_zero]; show Al IsNear _ xsN (near ++ []); rw [List.append_nil]; exact aN1, hR1, by rw [List.take_zero]; exact Al.nil, by rw [aN.1]; omega, by simp⟩ (fun i σ H'' _ ⟨_, _, _, _, _, _, s', _⟩ => SqL.of (s' _ _ hS1)) ?_ ?_
      · rintro i x σ H'' hx ⟨v7, WL, RL, ws, rs, rfl, s', hW, aW, hR, aR, lw, lr⟩
        obtain ⟨sv, esv, hz⟩ := LI.al.get hx
        have hi : i < svs.length := (List.getElem?_eq_some_iff.mp esv).1
        have hinn := List.getElem?_eq_getElem (l := inners) (i := i) (by rw [LI.leni]; omega)
        have po := LI.ok i sv _ esv hinn
        obtain ⟨own, hown, hownn, _⟩ := po.hnear
        have s2 : Same H' H'' := qq.trans s'
        obtain ⟨o, nl, rl, xs, ys, rfl, ho, hnl, an, hrl, ar, _, _⟩ := hz.keep (Fz.of s2) fun b ys _ e => s2 _ _ e
        have lan := an.1
        have lar := ar.1
        have lon : own.length ≤ 8 := by
          have := congrArg List.length hownn
          rw [List.length_map] at this
          rw [this]
          exact Nat.le_trans (List.length_filter_le _ _) (Nat.le_trans (List.length_filter_le _ _) (by decide))
        have lnr : border.length ≤ xs.length := by rw [lan, hown, List.length_append]; omega
        have lsvn : sv.near.length = border.length + own.length := by rw [hown, List.length_append, lnear]
        have l5 := po.len
        refine ⟨_, rfl, _, rfl, o, _, _, .ref nl, rfl, rfl, SqT.of ho, at_of (j := 0) rfl rfl, _, rfl, BL, _, rfl, .inl (SqL.of (s2 _ _ LI.bl)), _, rfl, nl, xs, rfl, SqL.of hnl, fun q hq => ?_⟩
        rw [lbm, cut_drop lnr]
        have p1 := sm_upd hq (o := .lst (xs.drop border.length))
        refine ⟨WL, q, ws, xs.drop border.length, rfl, rfl, p1 _ _ hW, upd_same, by rw [List.length_drop]; omega, fun W2 hW2 => ?_⟩
        have p2 := sm_upd hW2 (o := .lst (ws ++ xs.drop border.length))
        have p12 := p1.trans p2
        refine ⟨_, rfl, _, rfl, o, _, _, .ref rl, rfl, rfl, SqT.of (p12 _ _ ho), at_of (j := 1) rfl rfl, RL, rl, rs, ys, rfl, rfl, p12 _ _ hR, p12 _ _ hrl, by omega, fun R2 hR2 => ?_⟩
        have p3 := sm_upd hR2 (o := .lst (rs ++ ys))
        have p13 := p12.trans p3
        refine ⟨_, W2, R2, ws ++ xs.drop border.length, rs ++ ys, rfl, s'.trans p13, p3 _ _ upd_same, ?_, upd_same, ?_, by rw [List.length_append, List.length_drop]; omega, by rw [List.length_append]; omega⟩
        · rw [take_snoc esv, List.map_append, List.flatten_append, ← List.append_assoc]
          refine (aW.mono IsNear.fz (Fz.of p13)).app ?_
          show Al IsNear _ _ ((sv.near.drop border.length) ++ [])
          rw [List.append_nil]
          exact (an.mono IsNear.fz (Fz.of p13)).drop _
        · rw [take_snoc esv, List.map_append, List.flatten_append]
          refine (aR.mono IsRr.fz (Fz.of p13)).app ?_
          show Al IsRr _ _ (sv.rds ++ [])
          rw [List.append_nil]
          exact ar.mono IsRr.fz (Fz.of p13)
      · rintro σ H'' ⟨v7, WL, RL, ws, rs, rfl, s', hW, aW, hR, aR, lw, lr⟩
        rw [lz, List.take_length] at aW aR
        refine ⟨_, rfl, _, rfl, _, rfl, _, rfl, _, rfl, (by show 2 ≤ sizeLine; decide), fun o1 ho1 => ⟨(by show 4 ≤ sizeLine; decide), fun o2 ho2 => ?_⟩⟩
        have p1 := sm_upd ho1 (o := .tup [.ref WL, .ref RL])
        have p2 := sm_upd ho2 (o := .tup [.ref BL, .ref NL, .ref S0, .ref o1])
        have p12 := p1.trans p2
        have s2 := (qq.trans s').trans p12
        exact k _ o2 BL NL S0 (.ref o1) zs border near svs inners pa upd_same (s2 _ _ LI.bl) (s2 _ _ LI.s0) (LI.al.imp fun x d hx => (hx.keep (Fz.of s2) fun b ys _ e => s2 _ _ e).sv)
          ⟨o1, WL, RL, ws, rs, rfl, p2 _ _ upd_same, p12 _ _ hW, aW.mono IsNear.fz (Fz.of p12), p12 _ _ hR, aR.mono IsRr.fz (Fz.of p12)⟩ fun b nb u e => s2 _ _ (sH b nb u e)

end
end PN
end
section
set_option maxRecDepth 100000
set_option maxHeartbeats 4000000
namespace PN
open PySem PySem.Spec PyProof.Rows L2
open LamX
/-! ### law -/
def ptsOf (sv : SvD) : List Str := sv.near.map fun e => e.1
def rdsOf (sv : SvD) : List RdD := sv.rds.map rdOf
def formOf (border : List Str) (sv : SvD) : FormD := borderOf (ptsOf sv) (rdsOf sv) border
def foldJ : List FormD → FormD
  | [] => ⟨[], [], [], 0⟩
  | f :: r => r.foldl joinOf f
structure RowOk (border : List Str) (row : List FormD) (due : FormD) : Prop where
  ne : row ≠ []
  all : ∀ f ∈ row, f.names = border ∧ FdOk f
  pre : ∀ i, i < row.length → FdOk (foldJ (row.take (i + 1))) ∧ (foldJ (row.take (i + 1))).names = border
  due : foldJ row = due
  len : row.length ≤ 3
structure LawOk (border : List Str) (svs : List SvD) (whole : SvD) : Prop where
  bk : ∀ sv ∈ svs, BkOk sv ∧ BfOk (ptsOf sv) (rdsOf sv) border
  bkw : BkOk whole ∧ BfOk (ptsOf whole) (rdsOf whole) border
  r1 : RowOk border (svs.map (formOf border)) (formOf border whole)
  r2 : RowOk border (svs.map (formOf border)).reverse (formOf border whole)
  r3 : RowOk border ((svs.map (formOf border)).drop 1 ++ (svs.map (formOf border)).take 1) (formOf border whole)
theorem tabs_updL {T : List (Addr × Str)} {H : Hp} {D : Addr} {a b : List V} (t : Tabs T H) (h : H D = some (.lst a)) : Tabs T (upd H D (.lst b)) := fun p hp => by
  obtain ⟨ps, h1, h2, h3⟩ := t p hp
  refine ⟨ps, by rw [upd_ne (ne_of h1 h (by simp))]; exact h1, h2, fun pos cv hc => ?_⟩
  obtain ⟨c, e1, e2⟩ := h3 pos cv hc
  exact ⟨c, e1, by rw [upd_ne (ne_of e2 h (fun z => by unfold CodeO at z; cases z))]; exact e2⟩
theorem IsSv.ext {H H' : Hp} {z : V} {d : SvD} (h : IsSv H z d) (s : ExtN H H') : IsSv H' z d := by
  obtain ⟨o, nl, rl, xs, ys, e, h1, h2, a1, h3, a2⟩ := h
  exact ⟨o, nl, rl, xs, ys, e, Fz.ofN s _ _ h1 trivial, s _ _ h2 (fun _ z => by cases z), a1.mono IsNear.fz (Fz.ofN s), s _ _ h3 (fun _ z => by cases z), a2.mono IsRr.fz (Fz.ofN s)⟩
theorem Al.rev {α : Type} {R : Rp α} {H : Hp} : ∀ {xs : List V} {ds : List α}, Al R H xs ds → Al R H xs.reverse ds.reverse
  | [], [], _ => Al.nil
  | [], _ :: _, a => by have := a.1; simp at this
  | _ :: _, [], a => by have := a.1; simp at this
  | x :: xs, d :: ds, a => by
    rw [List.reverse_cons, List.reverse_cons]
    exact (Al.rev (xs := xs) (ds := ds) ⟨by have := a.1; simpa using this, fun i y e h1 h2 => a.2 (i + 1) y e h1 h2⟩).app (Al.one (a.2 0 x d rfl rfl))
/-- a list of forms -/
def IsRow (K : PySem.W.Frag) (H : Hp) (z : V) (fs : List FormD) : Prop := ∃ a zs, z = .ref a ∧ H a = some (.lst zs) ∧ Al (IsForm K) H zs fs
theorem IsRow.ext {K : PySem.W.Frag} {H H' : Hp} {z : V} {fs : List FormD} (h : IsRow K H z fs) (s : ExtN H H') : IsRow K H' z fs := by
  obtain ⟨a, zs, e, h1, h2⟩ := h
  exact ⟨a, zs, e, s _ _ h1 (fun _ z => by cases z), h2.mono IsForm.fz (Fz.ofN s)⟩
theorem foldJ_snoc {row : List FormD} {i : Nat} {f : FormD} (h : row[i + 1]? = some f) : foldJ (row.take (i + 2)) = joinOf (foldJ (row.take (i + 1))) f := by
  cases row with
  | nil => simp at h
  | cons g r =>
    have h' : r[i]? = some f := by simpa using h
    show foldJ (g :: r.take (i + 1)) = joinOf (foldJ (g :: r.take i)) f
    rw [take_snoc h']
    show (r.take i ++ [f]).foldl joinOf g = _
    rw [List.foldl_append]
    rfl
section
variable {P : Program} {w : World} {K : PySem.W.Frag} {mg : Str → Option Value} {base : Heap}

def spLaw (K : PySem.W.Frag) : Sp := fun vs H Q _ => ∃ (a : Addr) (ns : List Int), vs = [.ref a] ∧ SqL K H a (ns.map V.int) ∧ ns.length ≤ 63 ∧ Tabs (TL K) H ∧ ∀ H', Q (.bl true) H'
theorem sc_law : FnScope ["_law_script", "_law_state", "_law_border", "_law_near", "_law_surveys", "_law_whole", "_law_forms", "_law_due", "_law_row", "_law_form", "_law_other", "_law_survey_here"] ["_law_script"] (defScope sLaw) := ⟨rfl, rfl, rfl, by decide +kernel, rfl, by decide +kernel, by decide +kernel⟩
theorem ok_law (T : TX w K mg) (B : Tabz K mg base) (plain : ∀ border near svs inners, PaOk border near svs inners → LawOk border svs (wholeOf border near svs)) {fd : FuncData} (F : FunD K "law" "law" (defArgs sLaw) (defBody sLaw) (defScope sLaw) [] [] (He.fAd K ("law", none)) fd) :
    FnOk P w K mg base C8.CX0 10 (He.ga K "law") fd ["_law_script"] (spLaw K) := by
  refine F.ok sc_law (fun vs H Q E h => ?_) (fun cdv A outr s H vs Q E hr h => ?_)
  · obtain ⟨a, ns, rfl, _⟩ := h
    rfl
  · obtain ⟨a, ns, rfl, ha, hn, hT, k⟩ := h
    refine ⟨_, PSs.nox (pss_cons (ps_set (i := 1) sc_law.nd rfl (Or.inl rfl) (pe_lst (pa_cons (C8.pe_c (j := 9) (ok__law_tape T) hr (by decide) rfl (pa_cons (pv 0) pa_nil)) (pa_cons pe_int pa_nil))))
      (pss_cons (ps_asg (C8.pe_c (j := 9) (ok__law_parts T) hr (by decide) rfl (pa_cons (pv 1) pa_nil)) (pg_tup rfl (pgs_cons (pg_name (i := 2) sc_law.nd rfl (Or.inr rfl)) (pgs_cons (pg_name (i := 3) sc_law.nd rfl (Or.inl rfl)) (pgs_cons (pg_name (i := 4) sc_law.nd rfl (Or.inl rfl)) (pgs_cons (pg_name (i := 5) sc_law.nd rfl (Or.inl rfl)) pgs_nil))))))
      (pss_cons (ps_setLc (i := 6) (own := [("_law_survey_here", 11)]) (g := gName 11) (by rfl) sc_law.nd rfl rfl (sw_true rfl rfl rfl (by decide +kernel)) (pi_listK (K := K) (pv 4)) (blkOk_by (own := [("_law_survey_here", 11)]) (N := ["_law_script", "_law_state", "_law_border", "_law_near", "_law_surveys", "_law_whole", "_law_forms", "_law_due", "_law_row", "_law_form", "_law_other", "_law_survey_here"]) (sc := defScope sLaw) (by decide +kernel))
      (fun _ _ _ _ _ => (pg_name (i := 11) sc_law.nd rfl (Or.inl rfl))) (fun _ _ _ _ _ => pts_nil) (fun _ _ _ _ _ => (C8.pe_c (j := 9) (ok_border_form T B) hr (by decide) rfl (pa_cons (C8.pe_c (j := 9) (ok__law_book T) hr (by decide) rfl (pa_cons (pv 11) pa_nil)) (pa_cons (pv 2) pa_nil)))))
      (pss_cons (ps_set (i := 7) sc_law.nd rfl (Or.inl rfl) (C8.pe_c (j := 9) (ok_border_form T B) hr (by decide) rfl (pa_cons (C8.pe_c (j := 9) (ok__law_book T) hr (by decide) rfl (pa_cons (pv 5) pa_nil)) (pa_cons (pv 2) pa_nil))))
      (pss_cons (ps_for PassesOwn.never rfl (pi_listK (K := K) (pe_lst (pa_cons (pv 6) (pa_cons (pe_revL (pv 6)) (pa_cons (pe_op op_cat (pe_slice sl_list (pv 6) (po_some pe_int) po_none) (pe_slice sl_list (pv 6) po_none (po_some pe_int))) pa_nil))))) (pg_name (i := 8) sc_law.nd rfl (Or.inl rfl)) (pss_cons (ps_set (i := 9) sc_law.nd rfl (Or.inl rfl) (pe_ixLK (K := K) (pv 8) pe_int (fun _ _ => rfl)))
      (pss_cons (ps_for PassesOwn.never rfl (pi_listK (K := K) (pe_slice sl_list (pv 8) (po_some pe_int) po_none)) (pg_name (i := 10) sc_law.nd rfl (Or.inl rfl)) (pss_one (ps_set (i := 9) sc_law.nd rfl (Or.inl rfl) (C8.pe_c (j := 9) (ok_join T B) hr (by decide) rfl (pa_cons (pv 9) (pa_cons (pv 10) pa_nil))))))
      (pss_one (ps_if (pt_not (pt_val (C8.pe_c (j := 9) (ok__law_same T) hr (by decide) rfl (pa_cons (pv 9) (pa_cons (pv 7) pa_nil))))) (pss_one ps_never) pss_nil)))))
      (pss_one (ps_ret pe_bl))))))), ?_⟩
    refine ⟨_, rfl, a, ns, rfl, ha, hn, fun H1 TP ts s1 hTP hTP0 => ⟨(by show 2 ≤ sizeLine; decide), fun l hl => ?_⟩⟩
    have s2 := sm_upd hl (o := .lst [.ref TP, .int 0])
    have t1 : St (upd H1 l (.lst [.ref TP, .int 0])) l TP 0 := ⟨ts, ne_of_none hTP hl, upd_same, s2 _ _ hTP⟩
    have hl0 : H l = none := by
      cases e : H l with
      | none => rfl
      | some u => have := s1 _ _ e; rw [hl] at this; cases this
    have T2 := hT.ext (s1.trans s2)
    have s12 := s1.trans s2
    generalize upd H1 l (.lst [.ref TP, .int 0]) = H2 at *
    refine ⟨_, rfl, l, TP, 0, rfl, t1, by omega, fun H3 o bl nl sl wz zs border near svs inners pa ho hbl hsl az hw k3 => ?_⟩
    have hk3 : ∀ b, b ≠ l → ∀ u, H2 b = some u → H3 b = some u := k3
    have T3 : Tabs (TL K) H3 := fun p hp => by
      obtain ⟨ps, h1, h2, h3⟩ := T2 p hp
      obtain ⟨xs, hlx⟩ := t1.lst
      refine ⟨ps, hk3 _ (ne_of h1 hlx (by simp)) _ h1, h2, fun pos cv hc => ?_⟩
      obtain ⟨c, e1, e2⟩ := h3 pos cv hc
      exact ⟨c, e1, hk3 _ (ne_of e2 hlx (fun z => by unfold CodeO at z; cases z)) _ e2⟩
    refine ⟨o, _, rfl, SqT.of ho, rfl, .ref bl, _, rfl, .ref nl, _, rfl, .ref sl, _, rfl, wz, [], rfl, rfl, ?_⟩
    have lo := plain border near svs inners pa
    have lzs := az.1
    have l3 := pa.l3
    -- the forms
    refine ⟨_, rfl, sl, rfl, ⟨_, SqL.of hsl⟩, fun FL hFL => ?_⟩
    refine lc_any (β := FormD) (R := IsForm K) (J := Itl K sl) (n := svs.length) (vs := [11]) (g := gName 11) IsForm.fz FrOk.extN hFL trivial (by omega)
      (fun i (ds : List FormD) H' => Tabs (TL K) H' ∧ ds = (svs.take i).map (formOf border)) ⟨T3.ext (sm_upd hFL), by rw [List.take_zero]; rfl⟩ (fun i ds H' x y h hD => ⟨tabs_updL h.1 hD, h.2⟩)
      (fun i ds H' s' _ hi => ⟨zs, zs[i]'(by omega), SqL.of (s' _ _ hsl (fun _ z => by cases z)), List.getElem?_eq_getElem (by omega)⟩) (fun ds H' s' _ => ⟨zs, SqL.of (s' _ _ hsl (fun _ z => by cases z)), by omega⟩) ?_ ?_
    · rintro i ds H4 x H5 hi s4 ⟨T4, hds⟩ ⟨rfl, hy⟩
      have hx := hy _ (SqL.of (s4 _ _ hsl (fun _ z => by cases z)))
      obtain ⟨sv, esv, hsv⟩ := az.get hx
      obtain ⟨b1, b2⟩ := lo.bk sv (List.mem_of_getElem? esv)
      refine ⟨ExtN.refl _, fun Qg hq => hq _ wipe1 fun Nx0 kd hskip hadd => ?_⟩
      show (if true = true then _ else Nx0 H5)
      refine iteT ⟨_, rfl, x, sv, rfl, hsv.ext s4, b1, fun H6 b s6 hB => ?_⟩
      refine ⟨_, rfl, _, b, _, _, bl, border, rfl, hB, s6 _ _ (s4 _ _ hbl (fun _ z => by cases z)), b2, T4.ext s6, fun H7 z e7 T7 h7 => ?_⟩
      refine hadd z (formOf border sv) H7 ((ExtN.of s6).trans e7) h7 ⟨T7, ?_⟩
      rw [take_snoc esv, List.map_append, hds]; rfl
    intro H4 zf fs s4 hzf af ⟨T4, hfs⟩
    rw [List.take_length] at hfs
    -- the whole's form
    refine ⟨_, rfl, wz, wholeOf border near svs, rfl, hw.ext s4, lo.bkw.1, fun H5 b s5 hB => ?_⟩
    refine ⟨_, rfl, _, b, _, _, bl, border, rfl, hB, s5 _ _ (s4 _ _ hbl (fun _ z => by cases z)), lo.bkw.2, T4.ext s5, fun H6 zd e6 T6 hdue => ?_⟩
    have e56 : ExtN H4 H6 := (ExtN.of s5).trans e6
    have rw0 : IsRow K H6 (.ref FL) fs := IsRow.ext ⟨FL, zf, rfl, hzf, af⟩ e56
    obtain ⟨_, zf6, eFL, hF6, aF6⟩ := id rw0
    cases eFL
    have lf := aF6.1
    have lfs : fs.length ≤ 3 := by rw [hfs, List.length_map]; exact l3
    have hsz := sizeLine_eq
    -- the rows
    refine ⟨_, rfl, _, rfl, FL, zf6, rfl, SqL.of hF6, fun P2 hP2 => ?_⟩
    have q2 := sm_upd hP2 (o := .lst zf6.reverse)
    refine ⟨_, rfl, 1, rfl, FL, zf6, rfl, SqL.of (q2 _ _ hF6), fun P3 hP3 => ?_⟩
    have q3 := sm_upd hP3 (o := .lst (cutV zf6 (some 1) none))
    have q23 := q2.trans q3
    refine ⟨_, rfl, 1, rfl, FL, zf6, rfl, SqL.of (q23 _ _ hF6), fun P4 hP4 => ?_⟩
    have q4 := sm_upd hP4 (o := .lst (cutV zf6 none (some 1)))
    have q24 := q23.trans q4
    have ne0 : fs ≠ [] := by rw [hfs]; exact lo.r1.ne
    have lp : 0 < fs.length := List.length_pos_iff.mpr ne0
    have ec1 : cutV zf6 (some 1) none = zf6.drop 1 := cut_drop (n := 1) (by omega)
    have ec2 : cutV zf6 none (some 1) = zf6.take 1 := cut_takeA (n := 1)
    refine ⟨P3, P4, _, _, rfl, rfl, q4 _ _ upd_same, upd_same, by rw [ec1, ec2, List.length_drop, List.length_take]; omega, fun P5 hP5 => ?_⟩
    have q5 := sm_upd hP5 (o := .lst (cutV zf6 (some 1) none ++ cutV zf6 none (some 1)))
    have q25 := q24.trans q5
    refine ⟨(by show 3 ≤ sizeLine; decide), fun OL hOL => ?_⟩
    have q6 := sm_upd hOL (o := .lst [.ref FL, .ref P2, .ref P5])
    have q26 := q25.trans q6
    have w1 : IsRow K _ (.ref FL) fs := IsRow.ext rw0 (ExtN.of q26)
    have w2 : IsRow K _ (.ref P2) fs.reverse := IsRow.ext ⟨P2, _, rfl, upd_same, aF6.rev.mono IsForm.fz (Fz.of q2)⟩ (ExtN.of (((q3.trans q4).trans q5).trans q6))
    have w3 : IsRow K _ (.ref P5) (fs.drop 1 ++ fs.take 1) := IsRow.ext ⟨P5, _, rfl, upd_same, by rw [ec1, ec2]; exact ((aF6.drop 1).app (aF6.take 1)).mono IsForm.fz (Fz.of (by rw [ec1, ec2] at q25; exact q25))⟩ (ExtN.of q6)
    have T7 := T6.ext q26
    have hOL' : upd (upd (upd (upd (upd H6 P2 (.lst zf6.reverse)) P3 (.lst (cutV zf6 (some 1) none))) P4 (.lst (cutV zf6 none (some 1)))) P5 (.lst (cutV zf6 (some 1) none ++ cutV zf6 none (some 1)))) OL (.lst [.ref FL, .ref P2, .ref P5]) OL = some (.lst [.ref FL, .ref P2, .ref P5]) := upd_same
    have hdue7 := IsForm.fz _ _ _ _ (Fz.of q26) hdue
    generalize upd (upd (upd (upd (upd H6 P2 (.lst zf6.reverse)) P3 (.lst (cutV zf6 (some 1) none))) P4 (.lst (cutV zf6 none (some 1)))) P5 (.lst (cutV zf6 (some 1) none ++ cutV zf6 none (some 1)))) OL (.lst [.ref FL, .ref P2, .ref P5]) = H7 at *
    clear q2 q3 q23 q4 q24 q5 q25 q6 q26 ec1 ec2 rw0 hF6 aF6 e56 hB s5 e6 T6 T4 hzf af hT T2 T3 s1 s2 s12 t1 hk3 hl hl0 hTP hTP0 ho hbl hsl az hw ha hOL hP2 hP3 hP4 hP5 hFL s4
    refine ⟨OL, rfl, ⟨_, SqL.of hOL'⟩, ?_⟩
    have rows : ∀ (i : Nat) x, ([V.ref FL, V.ref P2, V.ref P5] : List V)[i]? = some x → ∃ row, IsRow K H7 x row ∧ RowOk border row (formOf border (wholeOf border near svs)) := by
      intro i x hx
      rw [hfs] at w1 w2 w3
      rcases (by have := (List.getElem?_eq_some_iff.mp hx).1; simp at this; omega : i = 0 ∨ i = 1 ∨ i = 2) with e | e | e
      · subst e; cases hx; exact ⟨_, w1, lo.r1⟩
      · subst e; cases hx; exact ⟨_, w2, lo.r2⟩
      · subst e; cases hx; exact ⟨_, w3, lo.r3⟩
    clear w1 w2 w3 hfs lf lfs ne0 lp lzs pa
    refine for_list (K := K) (a := OL) (xs := [.ref FL, .ref P2, .ref P5]) (fun i σ H' => ∃ (v8 v9 v10 : Option V), σ = [some (.ref a), some (.ref l), some (.ref bl), some (.ref nl), some (.ref sl), some wz, some (.ref FL), some zd, v8, v9, v10, none] ∧ ExtN H7 H' ∧ Tabs (TL K) H') ⟨none, none, none, rfl, ExtN.refl _, T7⟩ (fun i σ H' _ ⟨_, _, _, _, s', _⟩ => SqL.of (s' _ _ hOL' (fun _ z => by cases z))) ?_ ?_
    · rintro i x σ H' hx ⟨v8, v9, v10, rfl, e', T'⟩
      obtain ⟨row, hrow, ok⟩ := rows i x hx
      obtain ⟨ra, zr, rfl, hra, ar⟩ := hrow.ext e'
      have lzr := ar.1
      have lrow := ok.len
      have hne : 0 < row.length := List.length_pos_iff.mpr ok.ne
      obtain ⟨z0, ez0, rz0⟩ := ar.at (List.getElem?_eq_getElem hne)
      refine ⟨_, rfl, ra, zr, _, z0, rfl, rfl, SqL.of hra, atI_nat (j := 0) ez0, ?_⟩
      refine ⟨_, rfl, 1, rfl, ra, zr, rfl, SqL.of hra, fun RL hRL => ?_⟩
      rw [show cutV zr (some 1) none = zr.drop 1 from cut_drop (n := 1) (by omega)]
      have q1 := sm_upd hRL (o := .lst (zr.drop 1))
      have hRL' : upd H' RL (.lst (zr.drop 1)) RL = some (.lst (zr.drop 1)) := upd_same
      have T1 := T'.ext q1
      have ar1 := ar.mono IsForm.fz (Fz.of q1)
      have rz1 := IsForm.fz _ _ _ _ (Fz.of q1) rz0
      have e1 := e'.trans (ExtN.of q1)
      generalize upd H' RL (.lst (zr.drop 1)) = H8 at *
      refine ⟨RL, rfl, ⟨_, SqL.of hRL'⟩, ?_⟩
      refine for_list (K := K) (a := RL) (xs := zr.drop 1) (fun j σ H' => ∃ (z : V) (v10 : Option V), σ = [some (.ref a), some (.ref l), some (.ref bl), some (.ref nl), some (.ref sl), some wz, some (.ref FL), some zd, some (.ref ra), some z, v10, none] ∧ ExtN H8 H' ∧ Tabs (TL K) H' ∧ IsForm K H' z (foldJ (row.take (j + 1))))
        ⟨z0, v10, rfl, ExtN.refl _, T1, ?_⟩ (fun i σ H' _ ⟨_, _, _, s', _⟩ => SqL.of (s' _ _ hRL' (fun _ z => by cases z))) ?_ ?_
      · have : row.take 1 = [row[0]] := by
          cases row with
          | nil => simp at hne
          | cons g r => rfl
        rw [this]
        exact rz1
      · rintro j x σ H' hx ⟨z, v10, rfl, e'', T'', hz⟩
        rw [List.getElem?_drop] at hx
        obtain ⟨f, ef, rf⟩ := ar1.get hx
        have ef' : row[j + 1]? = some f := by rw [Nat.add_comm]; exact ef
        have hj : j + 1 < row.length := (List.getElem?_eq_some_iff.mp ef').1
        obtain ⟨k1, k2⟩ := ok.pre j (by omega)
        obtain ⟨k3, k4⟩ := ok.all f (List.mem_of_getElem? ef')
        refine ⟨_, rfl, _, rfl, z, x, _, f, rfl, hz, IsForm.fz _ _ _ _ (Fz.ofN e'') rf, k1, k4, by rw [k2, k3], T'', fun H9 z9 e9 T9 h9 => ?_⟩
        refine ⟨z9, _, rfl, e''.trans e9, T9, ?_⟩
        rw [foldJ_snoc ef']
        exact h9
      · rintro σ H9 ⟨z, v10, rfl, e'', T'', hz⟩
        have el : (zr.drop 1).length + 1 = row.length := by rw [List.length_drop]; omega
        rw [el, List.take_length, ok.due] at hz
        refine ⟨_, rfl, _, rfl, z, zd, _, rfl, hz, IsForm.fz _ _ _ _ (Fz.ofN (e1.trans e'')) hdue7, fun H10 s10 => ⟨true, rfl, iteF ?_⟩⟩
        exact ⟨_, _, _, rfl, (e1.trans e'').trans (ExtN.of s10), T''.ext s10⟩
    · rintro σ H' ⟨v8, v9, v10, rfl, e', T'⟩
      exact k H'

end
end PN
end
section
set_option maxRecDepth 100000
namespace PN
/-! ### one step of the reduction, by the shape of its rows -/
theorem pivotF_skip {m : Mat} {c : Nat} : ∀ (k i n : Nat), k ≤ n → (∀ j, i ≤ j → j < i + k → gt (m.getD j []) c = 0) → pivotF m c i n = pivotF m c (i + k) (n - k)
  | 0, i, n, _, _ => rfl
  | k + 1, i, 0, h, _ => absurd h (by omega)
  | k + 1, i, n + 1, h, hz => by
    have h0 := hz i (Nat.le_refl _) (by omega)
    show (if gt (m.getD i []) c ≠ 0 then some i else pivotF m c (i + 1) n) = _
    rw [if_neg (by rw [h0]; exact fun z => z rfl), pivotF_skip k (i + 1) n (by omega) fun j h1 h2 => hz j (by omega) (by omega)]
    rw [show i + 1 + k = i + (k + 1) by omega, show n - k = n + 1 - (k + 1) by omega]
theorem pivotF_none {m : Mat} {c : Nat} : ∀ (n i : Nat), (∀ j, i ≤ j → j < i + n → gt (m.getD j []) c = 0) → pivotF m c i n = none
  | 0, _, _ => rfl
  | n + 1, i, hz => by
    show (if gt (m.getD i []) c ≠ 0 then some i else pivotF m c (i + 1) n) = _
    rw [if_neg (by rw [hz i (Nat.le_refl _) (by omega)]; exact fun z => z rfl)]
    exact pivotF_none n (i + 1) fun j h1 h2 => hz j (by omega) (by omega)
theorem getD_app_right {m m' : Mat} {i : Nat} (h : m.length ≤ i) : (m ++ m').getD i [] = m'.getD (i - m.length) [] := by
  rw [List.getD_eq_getElem?_getD, List.getD_eq_getElem?_getD, List.getElem?_append_right h]
theorem getD_app_left {m m' : Mat} {i : Nat} (h : i < m.length) : (m ++ m').getD i [] = m.getD i [] := by
  rw [List.getD_eq_getElem?_getD, List.getD_eq_getElem?_getD, List.getElem?_append_left h]
/-- no row from the place on has anything in the column -/
theorem step_none {U T : Mat} {pv : List Nat} {c : Nat} (hp : pv.length = U.length) (h : ∀ r ∈ T, gt r c = 0) : redStep (U ++ T, pv) c = (U ++ T, pv) := by
  unfold redStep
  have e : pivotRow (U ++ T) pv.length c = none := by
    unfold pivotRow
    refine pivotF_none _ _ fun j h1 h2 => ?_
    rw [List.length_append] at h2
    rw [getD_app_right (by omega)]
    by_cases hj : j - U.length < T.length
    · exact h _ (List.mem_of_getElem? (getD_mem hj))
    · omega
  show (match pivotRow (U ++ T) pv.length c with | none => _ | some f => _) = _
  rw [e]
/-- the pivot is x, behind rows that are all z -/
theorem step_piv {U T : Mat} {z x : List Rat} {k : Nat} {pv : List Nat} {c : Nat} (hp : pv.length = U.length) (hz : gt z c = 0) (hx : gt x c ≠ 0) :
    redStep (U ++ (List.replicate k z ++ x :: T), pv) c = (U.map (clr c (scale (1 / gt x c) x)) ++ scale (1 / gt x c) x :: (List.replicate k z ++ T.map (clr c (scale (1 / gt x c) x))), pv ++ [c]) := by
  have lr : (List.replicate k z).length = k := List.length_replicate ..
  have hlen : (U ++ (List.replicate k z ++ x :: T)).length = U.length + (k + (T.length + 1)) := by
    rw [List.length_append, List.length_append, lr, List.length_cons]
  have e : pivotRow (U ++ (List.replicate k z ++ x :: T)) pv.length c = some (U.length + k) := by
    unfold pivotRow
    rw [hlen, hp, pivotF_skip k _ _ (by omega) fun j h1 h2 => ?_]
    · rw [show U.length + (k + (T.length + 1)) - U.length - k = T.length + 1 by omega]
      show (if gt ((U ++ (List.replicate k z ++ x :: T)).getD (U.length + k) []) c ≠ 0 then some (U.length + k) else _) = _
      have ex : (U ++ (List.replicate k z ++ x :: T)).getD (U.length + k) [] = x := by
        rw [getD_app_right (by omega), show U.length + k - U.length = k by omega, getD_app_right (by omega), lr, Nat.sub_self]; rfl
      rw [ex, if_pos hx]
    · rw [getD_app_right (by omega), getD_app_left (by omega)]
      have : (List.replicate k z).getD (j - U.length) [] = z := by
        rw [List.getD_eq_getElem?_getD, List.getElem?_replicate, if_pos (by omega)]; rfl
      rw [this]; exact hz
  have esw : swp (U ++ (List.replicate k z ++ x :: T)) U.length (U.length + k) = U ++ x :: (List.replicate k z ++ T) := by
    unfold swp
    have ex : (U ++ (List.replicate k z ++ x :: T)).getD (U.length + k) [] = x := by
      rw [getD_app_right (by omega), show U.length + k - U.length = k by omega, getD_app_right (by omega), lr, Nat.sub_self]; rfl
    have e0 : (U ++ (List.replicate k z ++ x :: T)).getD U.length [] = (List.replicate k z ++ x :: T).getD 0 [] := by
      rw [getD_app_right (Nat.le_refl _), Nat.sub_self]
    rw [ex, e0, List.set_append_right _ _ (Nat.le_refl _), Nat.sub_self, List.set_append_right _ _ (by omega), show U.length + k - U.length = k by omega]
    congr 1
    cases k with
    | zero => rfl
    | succ k =>
      rw [List.replicate_succ]
      show (x :: (List.replicate k z ++ x :: T)).set (k + 1) z = x :: (z :: List.replicate k z ++ T)
      rw [List.set_cons_succ, List.set_append_right _ _ (by rw [List.length_replicate]; exact Nat.le_refl _), List.length_replicate, Nat.sub_self]
      show x :: (List.replicate k z ++ z :: T) = x :: (z :: List.replicate k z ++ T)
      congr 1
      rw [← List.replicate_succ, List.replicate_succ', List.append_assoc]
      rfl
  unfold redStep
  show (match pivotRow (U ++ (List.replicate k z ++ x :: T)) pv.length c with | none => _ | some f => _) = _
  rw [e]
  show (cleared (swp (U ++ (List.replicate k z ++ x :: T)) pv.length (U.length + k)) pv.length c, pv ++ [c]) = _
  rw [hp, esw]
  congr 1
  unfold cleared
  have ex : (U ++ x :: (List.replicate k z ++ T)).getD U.length [] = x := by
    rw [getD_app_right (Nat.le_refl _), Nat.sub_self]; rfl
  rw [ex, List.mapIdx_append, List.mapIdx_cons]
  have hclr : ∀ r : List Rat, gt r c = 0 → clr c (scale (1 / gt x c) x) r = r := fun r h => if_pos h
  congr 1
  · refine List.ext_getElem? fun i => ?_
    rw [List.getElem?_mapIdx, List.getElem?_map]
    by_cases hi : i < U.length
    · rw [List.getElem?_eq_getElem hi]
      show some (if i = U.length then _ else _) = _
      rw [if_neg (by omega)]
      rfl
    · rw [List.getElem?_eq_none (by omega)]; rfl
  · congr 1
    · show (if 0 + U.length = U.length then _ else _) = _
      rw [if_pos (by omega)]
    · refine List.ext_getElem? fun i => ?_
      rw [List.getElem?_mapIdx]
      have : ∀ (o : Option (List Rat)), o.map (fun a => if i + 1 + U.length = U.length then scale (1 / gt x c) x else clr c (scale (1 / gt x c) x) a) = o.map (clr c (scale (1 / gt x c) x)) := fun o => by
        cases o with
        | none => rfl
        | some a => show some (if _ then _ else _) = _; rw [if_neg (by omega)]; rfl
      show Option.map (fun a => if i + 1 + U.length = U.length then scale (1 / gt x c) x else clr c (scale (1 / gt x c) x) a) (List.replicate k z ++ T)[i]? = _
      rw [this, ← List.getElem?_map, List.map_append, List.map_replicate, hclr z hz]
end PN
end
section
set_option maxRecDepth 100000
namespace PN
/-! ### direct sums -/
def ds (w v : Nat) (A B : Mat) : Mat := A.map (· ++ zero v) ++ B.map (zero w ++ ·)
theorem zero_len (n : Nat) : (zero n).length = n := List.length_replicate ..
theorem gt_zero (n c : Nat) : gt (zero n) c = 0 := by
  unfold gt zero
  rw [List.getD_eq_getElem?_getD, List.getElem?_replicate]
  split <;> rfl
theorem gt_left {v u : List Rat} {c : Nat} (h : c < v.length) : gt (v ++ u) c = gt v c := by
  unfold gt
  rw [List.getD_eq_getElem?_getD, List.getD_eq_getElem?_getD, List.getElem?_append_left h]
theorem gt_right {v u : List Rat} {c : Nat} (h : v.length ≤ c) : gt (v ++ u) c = gt u (c - v.length) := by
  unfold gt
  rw [List.getD_eq_getElem?_getD, List.getD_eq_getElem?_getD, List.getElem?_append_right h]
theorem gt_out {v : List Rat} {c : Nat} (h : v.length ≤ c) : gt v c = 0 := by
  unfold gt
  rw [List.getD_eq_getElem?_getD, List.getElem?_eq_none h]; rfl
theorem scale_app (f : Rat) (v u : List Rat) : scale f (v ++ u) = scale f v ++ scale f u := List.map_append
theorem scale_zero (f : Rat) (n : Nat) : scale f (zero n) = zero n := by
  unfold scale zero; rw [List.map_replicate, Rat.mul_zero]
theorem minus_app {v u v' u' : List Rat} (h : v.length = v'.length) : minus (v ++ u) (v' ++ u') = minus v v' ++ minus u u' := by
  unfold minus; exact List.zipWith_append h
theorem minus_zero (n : Nat) : minus (zero n) (zero n) = zero n := by
  unfold minus zero
  rw [List.zipWith_replicate, Rat.sub_self, Nat.min_self]
theorem dot_acc : ∀ (v u : List Rat) (t : Rat), dotA t v u = t + dot v u
  | [], _, t => by show t = t + 0; grind
  | _ :: _, [], t => by show t = t + 0; grind
  | x :: v, y :: u, t => by
    show dotA (t + x * y) v u = t + dotA (0 + x * y) v u
    rw [dot_acc v u (t + x * y), dot_acc v u (0 + x * y)]; grind
theorem dot_cons (x y : Rat) (v u : List Rat) : dot (x :: v) (y :: u) = x * y + dot v u := by
  show dotA (0 + x * y) v u = _
  rw [dot_acc]; grind
theorem dot_app : ∀ {v v' : List Rat} (u u' : List Rat), v.length = v'.length → dot (v ++ u) (v' ++ u') = dot v v' + dot u u'
  | [], [], u, u', _ => by show dot u u' = 0 + dot u u'; grind
  | [], _ :: _, _, _, h => by simp at h
  | _ :: _, [], _, _, h => by simp at h
  | x :: v, y :: v', u, u', h => by
    show dot (x :: (v ++ u)) (y :: (v' ++ u')) = _
    rw [dot_cons, dot_cons, dot_app u u' (by simpa using h)]; grind
theorem dot_zero_right : ∀ (v : List Rat) (n : Nat), dot v (zero n) = 0
  | [], _ => rfl
  | x :: v, 0 => rfl
  | x :: v, n + 1 => by
    show dot (x :: v) (0 :: zero n) = 0
    rw [dot_cons, dot_zero_right v n]; grind
theorem dot_comm : ∀ (v u : List Rat), dot v u = dot u v
  | [], [] => rfl
  | [], _ :: _ => rfl
  | _ :: _, [] => rfl
  | x :: v, y :: u => by rw [dot_cons, dot_cons, dot_comm v u]; grind
theorem dot_zero_left (v : List Rat) (n : Nat) : dot (zero n) v = 0 := by rw [dot_comm, dot_zero_right]
theorem ds_len (w v : Nat) (A B : Mat) : (ds w v A B).length = A.length + B.length := by unfold ds; rw [List.length_append, List.length_map, List.length_map]
theorem ds_wd {w v : Nat} {A B : Mat} (hA : Wd w A) (hB : Wd v B) : Wd (w + v) (ds w v A B) := fun r hr => by
  unfold ds at hr
  rcases List.mem_append.mp hr with h | h
  · obtain ⟨a, ha, rfl⟩ := List.mem_map.mp h
    rw [List.length_append, hA a ha, zero_len]
  · obtain ⟨b, hb, rfl⟩ := List.mem_map.mp h
    rw [List.length_append, hB b hb, zero_len]
theorem zero_add (n m : Nat) : zero n ++ zero m = zero (n + m) := by unfold zero; rw [List.replicate_append_replicate]
theorem map_zero {α : Type} (l : List α) : l.map (fun _ => (0 : Rat)) = zero l.length := by
  unfold zero
  induction l with
  | nil => rfl
  | cons a l ih => rw [List.map_cons, ih]; rfl
theorem range_add (w v : Nat) : List.range (w + v) = List.range w ++ (List.range v).map (w + ·) := by
  rw [List.range_add]
theorem col_left {w v c : Nat} {A B : Mat} (hA : Wd w A) (h : c < w) : col (ds w v A B) c = col A c ++ zero B.length := by
  unfold col ds
  rw [List.map_append, List.map_map, List.map_map]
  congr 1
  · refine List.map_congr_left fun a ha => ?_
    exact gt_left (by rw [hA a ha]; exact h)
  · rw [← map_zero]
    refine List.map_congr_left fun b hb => ?_
    show gt (zero w ++ b) c = 0
    rw [gt_left (by rw [zero_len]; exact h), gt_zero]
theorem col_right {w v c : Nat} {A B : Mat} (hA : Wd w A) : col (ds w v A B) (w + c) = zero A.length ++ col B c := by
  unfold col ds
  rw [List.map_append, List.map_map, List.map_map]
  congr 1
  · rw [← map_zero]
    refine List.map_congr_left fun a ha => ?_
    show gt (a ++ zero v) (w + c) = 0
    rw [gt_right (by rw [hA a ha]; omega), gt_zero]
  · refine List.map_congr_left fun b hb => ?_
    show gt (zero w ++ b) (w + c) = _
    rw [gt_right (by rw [zero_len]; omega), zero_len, Nat.add_sub_cancel_left]; rfl
theorem transpose_ds {w v : Nat} {A B : Mat} (hA : Wd w A) : transpose (ds w v A B) (w + v) = ds A.length B.length (transpose A w) (transpose B v) := by
  unfold transpose
  rw [range_add, List.map_append, List.map_map]
  show _ = ((List.range w).map (col A)).map (· ++ zero B.length) ++ ((List.range v).map (col B)).map (zero A.length ++ ·)
  rw [List.map_map, List.map_map]
  congr 1
  · exact List.map_congr_left fun c hc => col_left hA (List.mem_range.mp hc)
  · exact List.map_congr_left fun c hc => col_right hA
theorem apply_app (A B : Mat) (v : List Rat) : apply (A ++ B) v = apply A v ++ apply B v := List.map_append
theorem apply_ds_left {w v : Nat} {A B : Mat} {x : List Rat} (hA : Wd w A) (hx : x.length = w) : apply (ds w v A B) (x ++ zero v) = apply A x ++ zero B.length := by
  unfold apply ds
  rw [List.map_append, List.map_map, List.map_map]
  congr 1
  · refine List.map_congr_left fun a ha => ?_
    show dot (a ++ zero v) (x ++ zero v) = dot a x
    rw [dot_app _ _ (by rw [hA a ha, hx]), dot_zero_right]; grind
  · rw [← map_zero]
    refine List.map_congr_left fun b hb => ?_
    show dot (zero w ++ b) (x ++ zero v) = 0
    rw [dot_app _ _ (by rw [zero_len, hx]), dot_zero_left, dot_zero_right]; grind
theorem apply_ds_right {w v : Nat} {A B : Mat} {y : List Rat} (hA : Wd w A) : apply (ds w v A B) (zero w ++ y) = zero A.length ++ apply B y := by
  unfold apply ds
  rw [List.map_append, List.map_map, List.map_map]
  congr 1
  · rw [← map_zero]
    refine List.map_congr_left fun a ha => ?_
    show dot (a ++ zero v) (zero w ++ y) = 0
    rw [dot_app _ _ (by rw [hA a ha, zero_len]), dot_zero_left, dot_zero_right]; grind
  · refine List.map_congr_left fun b hb => ?_
    show dot (zero w ++ b) (zero w ++ y) = dot b y
    rw [dot_app _ _ rfl, dot_zero_left]; grind
theorem product_ds {w v p q : Nat} {A B C D : Mat} (hA : Wd w A) (hB : Wd v B) (hC : Wd p C) (hD : Wd q D) (lC : C.length = w) (lD : D.length = v) :
    product (ds w v A B) (ds p q C D) (p + q) = ds p q (product A C p) (product B D q) := by
  unfold product
  rw [transpose_ds hC, lC, lD]
  have ht : Wd w (transpose C p) := by rw [← lC]; exact transpose_wd C p
  show (A.map (· ++ zero v) ++ B.map (zero w ++ ·)).map _ = (A.map (apply (transpose C p))).map (· ++ zero q) ++ (B.map (apply (transpose D q))).map (zero p ++ ·)
  rw [List.map_append, List.map_map, List.map_map, List.map_map, List.map_map]
  congr 1
  · refine List.map_congr_left fun a ha => ?_
    show apply (ds w v (transpose C p) (transpose D q)) (a ++ zero v) = apply (transpose C p) a ++ zero q
    rw [apply_ds_left ht (hA a ha), transpose_len]
  · refine List.map_congr_left fun b hb => ?_
    show apply (ds w v (transpose C p) (transpose D q)) (zero w ++ b) = zero p ++ apply (transpose D q) b
    rw [apply_ds_right ht, transpose_len]
theorem colsAt_ds {w v : Nat} {A B : Mat} {p q : List Nat} (hA : Wd w A) (hp : ∀ c ∈ p, c < w) : colsAt (ds w v A B) (p ++ q.map (w + ·)) = ds p.length q.length (colsAt A p) (colsAt B q) := by
  unfold colsAt ds
  rw [List.map_append, List.map_map, List.map_map, List.map_map, List.map_map]
  congr 1
  · refine List.map_congr_left fun a ha => ?_
    show (p ++ q.map (w + ·)).map (gt (a ++ zero v)) = p.map (gt a) ++ zero q.length
    rw [List.map_append, List.map_map, ← map_zero]
    congr 1
    · exact List.map_congr_left fun c hc => gt_left (by rw [hA a ha]; exact hp c hc)
    · refine List.map_congr_left fun c hc => ?_
      show gt (a ++ zero v) (w + c) = 0
      rw [gt_right (by rw [hA a ha]; omega), gt_zero]
  · refine List.map_congr_left fun b hb => ?_
    show (p ++ q.map (w + ·)).map (gt (zero w ++ b)) = zero p.length ++ q.map (gt b)
    rw [List.map_append, List.map_map, ← map_zero]
    congr 1
    · refine List.map_congr_left fun c hc => ?_
      rw [gt_left (by rw [zero_len]; exact hp c hc), gt_zero]
    · refine List.map_congr_left fun c hc => ?_
      show gt (zero w ++ b) (w + c) = gt b c
      rw [gt_right (by rw [zero_len]; omega), zero_len, Nat.add_sub_cancel_left]
theorem zeros_ds (p q w v : Nat) : zeros (p + q) (w + v) = ds w v (zeros p w) (zeros q v) := by
  unfold zeros ds
  rw [List.map_replicate, List.map_replicate, zero_add, List.replicate_append_replicate]
end PN
end
section
set_option maxRecDepth 100000
namespace PN
/-! ### the reduction of one block inside a direct sum -/
structure Emb (E : List Rat → List Rat) (L m o W : Nat) : Prop where
  sc : ∀ f v, v.length = L → scale f (E v) = E (scale f v)
  mi : ∀ u v, u.length = L → v.length = L → minus (E u) (E v) = E (minus u v)
  at_ : ∀ v c, v.length = L → c < m → gt (E v) (o + c) = gt v c
  ze : E (zero L) = zero W
theorem Emb.clr {E : List Rat → List Rat} {L m o W : Nat} (e : Emb E L m o W) {c : Nat} (hc : c < m) {u v : List Rat} (hu : u.length = L) (hv : v.length = L) : clr (o + c) (E u) (E v) = E (clr c u v) := by
  unfold PN.clr
  rw [e.at_ v c hv hc]
  by_cases h : gt v c = 0
  · rw [if_pos h, if_pos h]
  · rw [if_neg h, if_neg h, e.sc _ u hu, e.mi _ _ hv (by rw [scale_len]; exact hu)]
theorem stepE {E : List Rat → List Rat} {L m o W : Nat} (e : Emb E L m o W) {U us ys T : Mat} {x : List Rat} {k c : Nat} {pv : List Nat} (hc : c < m) (hU : ∀ r ∈ U, gt r (o + c) = 0) (hT : ∀ r ∈ T, gt r (o + c) = 0)
    (hx : x.length = L) (hus : ∀ u ∈ us, u.length = L) (hys : ∀ y ∈ ys, y.length = L) (nz : gt x c ≠ 0) (hp : pv.length = U.length + us.length) :
    redStep (U ++ us.map E ++ (List.replicate k (zero W) ++ (E x :: (ys.map E ++ T))), pv) (o + c) =
      (U ++ (us.map (clr c (scale (1 / gt x c) x)) ++ [scale (1 / gt x c) x]).map E ++ (List.replicate k (zero W) ++ ((ys.map (clr c (scale (1 / gt x c) x))).map E ++ T)), pv ++ [o + c]) := by
  have hx' : (scale (1 / gt x c) x).length = L := by rw [scale_len, hx]
  rw [step_piv (by rw [hp, List.length_append, List.length_map]) (gt_zero _ _) (by rw [e.at_ x c hx hc]; exact nz), e.at_ x c hx hc, e.sc _ x hx]
  have h1 : ∀ (Z : Mat), (∀ r ∈ Z, gt r (o + c) = 0) → Z.map (clr (o + c) (E (scale (1 / gt x c) x))) = Z := fun Z hZ => by
    conv => rhs; rw [← List.map_id Z]
    exact List.map_congr_left fun r hr => if_pos (hZ r hr)
  have h2 : ∀ (Z : Mat), (∀ r ∈ Z, r.length = L) → (Z.map E).map (clr (o + c) (E (scale (1 / gt x c) x))) = (Z.map (clr c (scale (1 / gt x c) x))).map E := fun Z hZ => by
    rw [List.map_map, List.map_map]
    exact List.map_congr_left fun r hr => e.clr hc hx' (hZ r hr)
  rw [List.map_append, h1 U hU, h2 us hus, List.map_append, h1 T hT, h2 ys hys, List.map_append]
  simp only [List.append_assoc, List.map_cons, List.map_nil, List.cons_append, List.nil_append]
theorem stepN {E : List Rat → List Rat} {L m o W : Nat} (e : Emb E L m o W) {U us ys T : Mat} {k c : Nat} {pv : List Nat} (hc : c < m) (hT : ∀ r ∈ T, gt r (o + c) = 0)
    (hys : ∀ y ∈ ys, y.length = L ∧ gt y c = 0) (hp : pv.length = U.length + us.length) :
    redStep (U ++ us.map E ++ (List.replicate k (zero W) ++ (ys.map E ++ T)), pv) (o + c) = (U ++ us.map E ++ (List.replicate k (zero W) ++ (ys.map E ++ T)), pv) := by
  refine step_none (by rw [hp, List.length_append, List.length_map]) fun r hr => ?_
  rcases List.mem_append.mp hr with h | h
  · rw [(List.mem_replicate.mp h).2]; exact gt_zero _ _
  · rcases List.mem_append.mp h with h | h
    · obtain ⟨y, hy, rfl⟩ := List.mem_map.mp h
      rw [e.at_ y c (hys y hy).1 hc]; exact (hys y hy).2
    · exact hT r h
def foldC (st : Mat × List Nat) (o m : Nat) : Mat × List Nat := (List.range m).foldl (fun st j => redStep st (o + j)) st
theorem foldC_succ (st : Mat × List Nat) (o m : Nat) : foldC st o (m + 1) = redStep (foldC st o m) (o + m) := by
  unfold foldC; rw [List.range_succ, List.foldl_append]; rfl
theorem foldC_add (M : Mat) (a b : Nat) : redState M (a + b) = foldC (redState M a) a b := by
  unfold redState foldC
  rw [List.range_add, List.foldl_append, List.foldl_map]
/-- what the reduction makes of a block -/
structure RunOk (E : List Rat → List Rat) (W o m : Nat) (B UB : Mat) (pvB : List Nat) (kB : Nat) (S : Mat) : Prop where
  run : ∀ (U T : Mat) (pv : List Nat) (k : Nat), pv.length = U.length → (∀ r ∈ U, ∀ c, c < m → gt r (o + c) = 0) → (∀ r ∈ T, ∀ c, c < m → gt r (o + c) = 0) →
    (∀ c, c ≤ m → ∀ r ∈ (foldC (U ++ (List.replicate k (zero W) ++ (B.map E ++ T)), pv) o c).1, r ∈ U ∨ r = zero W ∨ r ∈ T ∨ ∃ v ∈ S, r = E v) ∧
    foldC (U ++ (List.replicate k (zero W) ++ (B.map E ++ T)), pv) o m = (U ++ UB.map E ++ (List.replicate (k + kB) (zero W) ++ T), pv ++ pvB.map (o + ·))
/-- rows of a state are of these kinds -/
theorem kinds {E : List Rat → List Rat} {W : Nat} {U us ys T S : Mat} {k : Nat} (h1 : ∀ u ∈ us, u ∈ S) (h2 : ∀ y ∈ ys, y ∈ S) :
    ∀ r ∈ U ++ us.map E ++ (List.replicate k (zero W) ++ (ys.map E ++ T)), r ∈ U ∨ r = zero W ∨ r ∈ T ∨ ∃ v ∈ S, r = E v := fun r hr => by
  rcases List.mem_append.mp hr with h | h
  · rcases List.mem_append.mp h with h | h
    · exact .inl h
    · obtain ⟨u, hu, rfl⟩ := List.mem_map.mp h
      exact .inr (.inr (.inr ⟨u, h1 u hu, rfl⟩))
  · rcases List.mem_append.mp h with h | h
    · exact .inr (.inl (List.mem_replicate.mp h).2)
    · rcases List.mem_append.mp h with h | h
      · obtain ⟨y, hy, rfl⟩ := List.mem_map.mp h
        exact .inr (.inr (.inr ⟨y, h2 y hy, rfl⟩))
      · exact .inr (.inr (.inl h))
section
variable {E : List Rat → List Rat} {L m o W : Nat}
theorem run_nil : RunOk E W o 0 [] [] [] 0 [] := ⟨fun U T pv k hp hU hT => by
  refine ⟨fun c hc r hr => ?_, ?_⟩
  · have : c = 0 := by omega
    subst this
    have hr' : r ∈ U ++ (List.replicate k (zero W) ++ (([] : Mat).map E ++ T)) := hr
    exact kinds (E := E) (us := []) (ys := []) (S := []) (U := U) (T := T) (k := k) (W := W) (fun _ h => h) (fun _ h => h) r (by simpa using hr')
  · show (U ++ (List.replicate k (zero W) ++ ([].map E ++ T)), pv) = _
    simp⟩
/-- one row with a pivot -/
theorem run_one {x : List Rat} (e : Emb E L 1 o W) (hx : x.length = L) (nz : gt x 0 ≠ 0) : RunOk E W o 1 [x] [scale (1 / gt x 0) x] [0] 0 [x, scale (1 / gt x 0) x] := ⟨fun U T pv k hp hU hT => by
  have e1 : foldC (U ++ (List.replicate k (zero W) ++ ([x].map E ++ T)), pv) o 1 = (U ++ [scale (1 / gt x 0) x].map E ++ (List.replicate k (zero W) ++ T), pv ++ [o + 0]) := by
    have := stepE e (U := U) (us := []) (ys := []) (T := T) (x := x) (k := k) (c := 0) (pv := pv) (by omega) (fun r hr => hU r hr 0 (by omega)) (fun r hr => hT r hr 0 (by omega)) hx (by simp) (by simp) nz (by simpa using hp)
    simp only [List.map_nil, List.append_nil, List.nil_append] at this
    exact this
  refine ⟨fun c hc r hr => ?_, e1⟩
  rcases (by omega : c = 0 ∨ c = 1) with h | h
  · subst h
    have hr' : r ∈ U ++ (List.replicate k (zero W) ++ ([x].map E ++ T)) := hr
    exact kinds (E := E) (us := []) (ys := [x]) (U := U) (T := T) (k := k) (W := W) (by simp) (by simp) r (by simpa using hr')
  · subst h
    rw [e1] at hr
    exact kinds (E := E) (us := [scale (1 / gt x 0) x]) (ys := []) (U := U) (T := T) (k := k) (W := W) (by simp) (by simp) r (by simpa using hr)⟩
/-- one row, nothing -/
theorem run_one0 (e : Emb E 1 1 o W) : RunOk E W o 1 [zero 1] [] [] 1 [] := ⟨fun U T pv k hp hU hT => by
  have e0 : U ++ (List.replicate k (zero W) ++ ([zero 1].map E ++ T)) = U ++ (List.replicate (k + 1) (zero W) ++ T) := by
    rw [List.map_cons, List.map_nil, e.ze, List.replicate_succ', List.append_assoc]
  have e1 : foldC (U ++ (List.replicate k (zero W) ++ ([zero 1].map E ++ T)), pv) o 1 = (U ++ (List.replicate (k + 1) (zero W) ++ T), pv) := by
    have := stepN e (U := U) (us := []) (ys := []) (T := T) (k := k + 1) (c := 0) (pv := pv) (by omega) (fun r hr => hT r hr 0 (by omega)) (by simp) (by simpa using hp)
    simp only [List.map_nil, List.append_nil, List.nil_append] at this
    rw [e0]
    exact this
  refine ⟨fun c hc r hr => ?_, by rw [e1]; simp⟩
  have hr' : r ∈ U ++ (List.replicate (k + 1) (zero W) ++ T) := by
    rcases (by omega : c = 0 ∨ c = 1) with h | h
    · subst h; rw [← e0]; exact hr
    · subst h; rw [e1] at hr; exact hr
  exact kinds (E := E) (us := []) (ys := []) (U := U) (T := T) (k := k + 1) (W := W) (S := []) (by simp) (by simp) r (by simpa using hr')⟩
theorem two_at {c : Nat} (h : c ≤ 2) : c = 0 ∨ c = 1 ∨ c = 2 := by omega
/-- two rows, two pivots in order -/
theorem run_two {x y : List Rat} (e : Emb E L 2 o W) (hx : x.length = L) (hy : y.length = L) (nz : gt x 0 ≠ 0)
    {x1 y1 y2 x2 : List Rat} (ex : x1 = scale (1 / gt x 0) x) (ey : y1 = clr 0 x1 y) (ny : gt y1 1 ≠ 0) (ey2 : y2 = scale (1 / gt y1 1) y1) (ex2 : x2 = clr 1 y2 x1) (ly1 : y1.length = L) :
    RunOk E W o 2 [x, y] [x2, y2] [0, 1] 0 [x, y, x1, y1, x2, y2] := ⟨fun U T pv k hp hU hT => by
  have lx1 : x1.length = L := by rw [ex, scale_len, hx]
  have e1 : foldC (U ++ (List.replicate k (zero W) ++ ([x, y].map E ++ T)), pv) o 1 = (U ++ [x1].map E ++ (List.replicate k (zero W) ++ ([y1].map E ++ T)), pv ++ [o + 0]) := by
    have := stepE e (U := U) (us := []) (ys := [y]) (T := T) (x := x) (k := k) (c := 0) (pv := pv) (by omega) (fun r hr => hU r hr 0 (by omega)) (fun r hr => hT r hr 0 (by omega)) hx (by simp) (by simpa using hy) nz (by simpa using hp)
    rw [← ex] at this
    simp only [List.map_nil, List.append_nil, List.nil_append, List.map_cons, ← ey] at this
    exact this
  have e2 : foldC (U ++ (List.replicate k (zero W) ++ ([x, y].map E ++ T)), pv) o 2 = (U ++ [x2, y2].map E ++ (List.replicate k (zero W) ++ T), pv ++ [o + 0, o + 1]) := by
    rw [foldC_succ, e1]
    have := stepE e (U := U) (us := [x1]) (ys := []) (T := T) (x := y1) (k := k) (c := 1) (pv := pv ++ [o + 0]) (by omega) (fun r hr => hU r hr 1 (by omega)) (fun r hr => hT r hr 1 (by omega)) ly1 (by simpa using lx1) (by simp) ny (by simp [hp])
    rw [← ey2] at this
    simp only [List.map_nil, List.append_nil, List.nil_append, List.map_cons, ← ex2, List.append_assoc, List.cons_append] at this ⊢
    exact this
  refine ⟨fun c hc r hr => ?_, e2⟩
  rcases two_at hc with h | h | h
  · subst h
    have hr' : r ∈ U ++ (List.replicate k (zero W) ++ ([x, y].map E ++ T)) := hr
    exact kinds (E := E) (us := []) (ys := [x, y]) (U := U) (T := T) (k := k) (W := W) (by simp) (by simp) r (by simpa using hr')
  · subst h
    rw [e1] at hr
    exact kinds (E := E) (us := [x1]) (ys := [y1]) (by simp) (by simp) r hr
  · subst h
    rw [e2] at hr
    exact kinds (E := E) (us := [x2, y2]) (ys := []) (U := U) (T := T) (k := k) (W := W) (by simp) (by simp) r (by simpa using hr)⟩
/-- two rows, the second falls away -/
theorem run_two1 {x y : List Rat} (e : Emb E 2 2 o W) (hx : x.length = 2) (hy : y.length = 2) (nz : gt x 0 ≠ 0)
    {x1 : List Rat} (ex : x1 = scale (1 / gt x 0) x) (ey : clr 0 x1 y = zero 2) : RunOk E W o 2 [x, y] [x1] [0] 1 [x, y, x1, zero 2] := ⟨fun U T pv k hp hU hT => by
  have lx1 : x1.length = 2 := by rw [ex, scale_len, hx]
  have e1 : foldC (U ++ (List.replicate k (zero W) ++ ([x, y].map E ++ T)), pv) o 1 = (U ++ [x1].map E ++ (List.replicate k (zero W) ++ ([zero 2].map E ++ T)), pv ++ [o + 0]) := by
    have := stepE e (U := U) (us := []) (ys := [y]) (T := T) (x := x) (k := k) (c := 0) (pv := pv) (by omega) (fun r hr => hU r hr 0 (by omega)) (fun r hr => hT r hr 0 (by omega)) hx (by simp) (by simpa using hy) nz (by simpa using hp)
    rw [← ex] at this
    simp only [List.map_nil, List.append_nil, List.nil_append, List.map_cons, ey] at this
    exact this
  have e2 : foldC (U ++ (List.replicate k (zero W) ++ ([x, y].map E ++ T)), pv) o 2 = (U ++ [x1].map E ++ (List.replicate (k + 1) (zero W) ++ T), pv ++ [o + 0]) := by
    rw [foldC_succ, e1, stepN e (U := U) (us := [x1]) (ys := [zero 2]) (T := T) (k := k) (c := 1) (by omega) (fun r hr => hT r hr 1 (by omega)) (fun y hy => by rw [List.mem_singleton.mp hy]; exact ⟨zero_len 2, gt_zero 2 1⟩) (by simp [hp])]
    rw [List.map_cons (a := zero 2), List.map_nil, e.ze, List.replicate_succ', List.append_assoc (List.replicate k (zero W))]
  refine ⟨fun c hc r hr => ?_, e2⟩
  rcases two_at hc with h | h | h
  · subst h
    have hr' : r ∈ U ++ (List.replicate k (zero W) ++ ([x, y].map E ++ T)) := hr
    exact kinds (E := E) (us := []) (ys := [x, y]) (U := U) (T := T) (k := k) (W := W) (by simp) (by simp) r (by simpa using hr')
  · subst h
    rw [e1] at hr
    exact kinds (E := E) (us := [x1]) (ys := [zero 2]) (by simp) (by simp) r hr
  · subst h
    rw [e2] at hr
    exact kinds (E := E) (us := [x1]) (ys := []) (U := U) (T := T) (k := k + 1) (W := W) (by simp) (by simp) r (by simpa using hr)⟩
/-- two rows, the first empty, the second with its second column -/
theorem run_two2 {y : List Rat} (e : Emb E 2 2 o W) (hy : y.length = 2) (y0 : gt y 0 = 0) (nz : gt y 1 ≠ 0) : RunOk E W o 2 [zero 2, y] [scale (1 / gt y 1) y] [1] 1 [zero 2, y, scale (1 / gt y 1) y] := ⟨fun U T pv k hp hU hT => by
  have e0 : U ++ (List.replicate k (zero W) ++ ([zero 2, y].map E ++ T)) = U ++ (List.replicate (k + 1) (zero W) ++ ([y].map E ++ T)) := by
    rw [List.map_cons, e.ze, List.replicate_succ', List.append_assoc]; rfl
  have e1 : foldC (U ++ (List.replicate k (zero W) ++ ([zero 2, y].map E ++ T)), pv) o 1 = (U ++ (List.replicate (k + 1) (zero W) ++ ([y].map E ++ T)), pv) := by
    have := stepN e (U := U) (us := []) (ys := [y]) (T := T) (k := k + 1) (c := 0) (pv := pv) (by omega) (fun r hr => hT r hr 0 (by omega)) (fun z hz => by rw [List.mem_singleton.mp hz]; exact ⟨hy, y0⟩) (by simpa using hp)
    simp only [List.map_nil, List.append_nil] at this
    rw [e0]
    exact this
  have e2 : foldC (U ++ (List.replicate k (zero W) ++ ([zero 2, y].map E ++ T)), pv) o 2 = (U ++ [scale (1 / gt y 1) y].map E ++ (List.replicate (k + 1) (zero W) ++ T), pv ++ [o + 1]) := by
    rw [foldC_succ, e1]
    have := stepE e (U := U) (us := []) (ys := []) (T := T) (x := y) (k := k + 1) (c := 1) (pv := pv) (by omega) (fun r hr => hU r hr 1 (by omega)) (fun r hr => hT r hr 1 (by omega)) hy (by simp) (by simp) nz (by simpa using hp)
    simp only [List.map_nil, List.append_nil, List.nil_append] at this
    exact this
  refine ⟨fun c hc r hr => ?_, e2⟩
  rcases two_at hc with h | h | h
  · subst h
    have hr' : r ∈ U ++ (List.replicate k (zero W) ++ ([zero 2, y].map E ++ T)) := hr
    exact kinds (E := E) (us := []) (ys := [zero 2, y]) (U := U) (T := T) (k := k) (W := W) (by simp) (by simp) r (by simpa using hr')
  · subst h
    rw [e1] at hr
    exact kinds (E := E) (us := []) (ys := [y]) (U := U) (T := T) (k := k + 1) (W := W) (by simp) (by simp) r (by simpa using hr)
  · subst h
    rw [e2] at hr
    exact kinds (E := E) (us := [scale (1 / gt y 1) y]) (ys := []) (U := U) (T := T) (k := k + 1) (W := W) (by simp) (by simp) r (by simpa using hr)⟩
/-- two rows, nothing -/
theorem run_two0 (e : Emb E 2 2 o W) : RunOk E W o 2 [zero 2, zero 2] [] [] 2 [] := ⟨fun U T pv k hp hU hT => by
  have e0 : U ++ (List.replicate k (zero W) ++ ([zero 2, zero 2].map E ++ T)) = U ++ (List.replicate (k + 2) (zero W) ++ T) := by
    rw [List.map_cons, List.map_cons, List.map_nil, e.ze, List.replicate_succ', List.replicate_succ', List.append_assoc, List.append_assoc]; rfl
  have st : ∀ c, c < 2 → redStep (U ++ (List.replicate (k + 2) (zero W) ++ T), pv) (o + c) = (U ++ (List.replicate (k + 2) (zero W) ++ T), pv) := fun c hc => by
    have := stepN e (U := U) (us := []) (ys := []) (T := T) (k := k + 2) (c := c) (pv := pv) hc (fun r hr => hT r hr c hc) (by simp) (by simpa using hp)
    simp only [List.map_nil, List.append_nil, List.nil_append] at this
    exact this
  have e1 : foldC (U ++ (List.replicate k (zero W) ++ ([zero 2, zero 2].map E ++ T)), pv) o 1 = (U ++ (List.replicate (k + 2) (zero W) ++ T), pv) := by
    rw [e0, foldC_succ]; exact st 0 (by omega)
  have e2 : foldC (U ++ (List.replicate k (zero W) ++ ([zero 2, zero 2].map E ++ T)), pv) o 2 = (U ++ (List.replicate (k + 2) (zero W) ++ T), pv) := by
    rw [foldC_succ, e1]; exact st 1 (by omega)
  refine ⟨fun c hc r hr => ?_, by rw [e2]; simp⟩
  have hr' : r ∈ U ++ (List.replicate (k + 2) (zero W) ++ T) := by
    rcases two_at hc with h | h | h
    · subst h; rw [← e0]; exact hr
    · subst h; rw [e1] at hr; exact hr
    · subst h; rw [e2] at hr; exact hr
  exact kinds (E := E) (us := []) (ys := []) (U := U) (T := T) (k := k + 2) (W := W) (S := []) (by simp) (by simp) r (by simpa using hr')⟩
end
end PN
end
section
set_option maxRecDepth 100000
namespace PN
/-! ### three blocks, one behind another -/
theorem foldC_zero (M : Mat) (c : Nat) : foldC (M, []) 0 c = redState M c := by
  unfold foldC redState
  congr 1
  funext st j
  rw [Nat.zero_add]
theorem run3 {E1 E2 E3 : List Rat → List Rat} {W m1 m2 m3 k1 k2 k3 : Nat} {B1 B2 B3 U1 U2 U3 S1 S2 S3 : Mat} {p1 p2 p3 : List Nat}
    (R1 : RunOk E1 W 0 m1 B1 U1 p1 k1 S1) (R2 : RunOk E2 W m1 m2 B2 U2 p2 k2 S2) (R3 : RunOk E3 W (m1 + m2) m3 B3 U3 p3 k3 S3)
    (z12 : ∀ b ∈ B2, ∀ c, c < m1 → gt (E2 b) (0 + c) = 0) (z13 : ∀ b ∈ B3, ∀ c, c < m1 → gt (E3 b) (0 + c) = 0) (z23 : ∀ b ∈ B3, ∀ c, c < m2 → gt (E3 b) (m1 + c) = 0)
    (z21 : ∀ b ∈ U1, ∀ c, c < m2 → gt (E1 b) (m1 + c) = 0) (z31 : ∀ b ∈ U1, ∀ c, c < m3 → gt (E1 b) (m1 + m2 + c) = 0) (z32 : ∀ b ∈ U2, ∀ c, c < m3 → gt (E2 b) (m1 + m2 + c) = 0)
    (l1 : p1.length = U1.length) (l2 : p2.length = U2.length) :
    redState (B1.map E1 ++ (B2.map E2 ++ B3.map E3)) (m1 + m2 + m3) = (U1.map E1 ++ (U2.map E2 ++ U3.map E3) ++ List.replicate (k1 + k2 + k3) (zero W), p1 ++ (p2.map (m1 + ·) ++ p3.map (m1 + m2 + ·))) ∧
    ∀ c, c ≤ m1 + m2 + m3 → ∀ r ∈ (redState (B1.map E1 ++ (B2.map E2 ++ B3.map E3)) c).1, r = zero W ∨ (∃ v ∈ B1 ++ U1 ++ S1, r = E1 v) ∨ (∃ v ∈ B2 ++ U2 ++ S2, r = E2 v) ∨ (∃ v ∈ B3 ++ U3 ++ S3, r = E3 v) := by
  have mm : ∀ {Z : Mat} {E : List Rat → List Rat} {p : List Rat → Prop}, (∀ b ∈ Z, p (E b)) → ∀ r ∈ Z.map E, p r := fun h r hr => by
    obtain ⟨b, hb, rfl⟩ := List.mem_map.mp hr; exact h b hb
  have ap : ∀ {Z Z' : Mat} {p : List Rat → Prop}, (∀ r ∈ Z, p r) → (∀ r ∈ Z', p r) → ∀ r ∈ Z ++ Z', p r := fun h h' r hr => (List.mem_append.mp hr).elim (h r) (h' r)
  obtain ⟨a1, f1⟩ := R1.run [] (B2.map E2 ++ B3.map E3) [] 0 rfl (by simp) (ap (mm z12) (mm z13))
  obtain ⟨a2, f2⟩ := R2.run (U1.map E1) (B3.map E3) p1 k1 (by rw [List.length_map, l1]) (mm z21) (mm z23)
  obtain ⟨a3, f3⟩ := R3.run (U1.map E1 ++ U2.map E2) [] (p1 ++ p2.map (m1 + ·)) (k1 + k2) (by simp [l1, l2]) (ap (mm z31) (mm z32)) (by simp)
  have e0 : ([] ++ (List.replicate 0 (zero W) ++ (B1.map E1 ++ (B2.map E2 ++ B3.map E3))) : Mat) = B1.map E1 ++ (B2.map E2 ++ B3.map E3) := rfl
  rw [e0] at f1
  simp only [e0] at a1
  have hid : p1.map (0 + ·) = p1 := by
    conv => rhs; rw [← List.map_id p1]
    exact List.map_congr_left fun x _ => Nat.zero_add x
  have g1 : redState (B1.map E1 ++ (B2.map E2 ++ B3.map E3)) m1 = (U1.map E1 ++ (List.replicate k1 (zero W) ++ (B2.map E2 ++ B3.map E3)), p1) := by
    rw [← foldC_zero, f1, hid, Nat.zero_add]
    simp
  have g2 : redState (B1.map E1 ++ (B2.map E2 ++ B3.map E3)) (m1 + m2) = (U1.map E1 ++ U2.map E2 ++ (List.replicate (k1 + k2) (zero W) ++ B3.map E3), p1 ++ p2.map (m1 + ·)) := by
    rw [foldC_add, g1, f2]
  have e3 : (B3.map E3 : Mat) = B3.map E3 ++ [] := (List.append_nil _).symm
  have g3 : redState (B1.map E1 ++ (B2.map E2 ++ B3.map E3)) (m1 + m2 + m3) = (U1.map E1 ++ (U2.map E2 ++ U3.map E3) ++ List.replicate (k1 + k2 + k3) (zero W), p1 ++ (p2.map (m1 + ·) ++ p3.map (m1 + m2 + ·))) := by
    rw [foldC_add, g2, e3, f3]
    simp only [List.append_nil, List.append_assoc]
  refine ⟨g3, fun c hc r hr => ?_⟩
  have k1' : ∀ r ∈ B1.map E1, ∃ v ∈ B1 ++ U1 ++ S1, r = E1 v := mm fun b hb => ⟨b, List.mem_append_left _ (List.mem_append_left _ hb), rfl⟩
  have k2' : ∀ r ∈ B2.map E2, ∃ v ∈ B2 ++ U2 ++ S2, r = E2 v := mm fun b hb => ⟨b, List.mem_append_left _ (List.mem_append_left _ hb), rfl⟩
  have k3' : ∀ r ∈ B3.map E3, ∃ v ∈ B3 ++ U3 ++ S3, r = E3 v := mm fun b hb => ⟨b, List.mem_append_left _ (List.mem_append_left _ hb), rfl⟩
  have u1' : ∀ r ∈ U1.map E1, ∃ v ∈ B1 ++ U1 ++ S1, r = E1 v := mm fun b hb => ⟨b, List.mem_append_left _ (List.mem_append_right _ hb), rfl⟩
  have u2' : ∀ r ∈ U2.map E2, ∃ v ∈ B2 ++ U2 ++ S2, r = E2 v := mm fun b hb => ⟨b, List.mem_append_left _ (List.mem_append_right _ hb), rfl⟩
  by_cases h1 : c ≤ m1
  · rw [← foldC_zero] at hr
    rcases a1 c h1 r hr with h | h | h | ⟨v, hv, h⟩
    · cases h
    · exact .inl h
    · rcases List.mem_append.mp h with h | h
      · exact .inr (.inr (.inl (k2' r h)))
      · exact .inr (.inr (.inr (k3' r h)))
    · exact .inr (.inl ⟨v, List.mem_append_right _ hv, h⟩)
  · by_cases h2 : c ≤ m1 + m2
    · obtain ⟨d, rfl⟩ : ∃ d, c = m1 + d := ⟨c - m1, by omega⟩
      rw [foldC_add, g1] at hr
      rcases a2 d (by omega) r hr with h | h | h | ⟨v, hv, h⟩
      · exact .inr (.inl (u1' r h))
      · exact .inl h
      · exact .inr (.inr (.inr (k3' r h)))
      · exact .inr (.inr (.inl ⟨v, List.mem_append_right _ hv, h⟩))
    · obtain ⟨d, rfl⟩ : ∃ d, c = m1 + m2 + d := ⟨c - (m1 + m2), by omega⟩
      rw [foldC_add, g2, e3] at hr
      rcases a3 d (by omega) r hr with h | h | h | ⟨v, hv, h⟩
      · rcases List.mem_append.mp h with h | h
        · exact .inr (.inl (u1' r h))
        · exact .inr (.inr (.inl (u2' r h)))
      · exact .inl h
      · cases h
      · exact .inr (.inr (.inr ⟨v, List.mem_append_right _ hv, h⟩))
/-- behind the last pivot row nothing is found -/
theorem red_full {M : Mat} {n : Nat} (h : (redState M n).2.length = M.length) : ∀ d, redState M (n + d) = redState M n
  | 0 => rfl
  | d + 1 => by
    rw [← Nat.add_assoc, redState_succ, red_full h d]
    unfold redStep
    have e : pivotRow (redState M n).1 (redState M n).2.length (n + d) = none := by
      unfold pivotRow
      have hl : (redState M n).1.length = M.length := by
        have : ∀ c, (redState M c).1.length = M.length := fun c => by
          induction c with
          | zero => rfl
          | succ c ih =>
            rw [redState_succ]
            unfold redStep
            split
            · exact ih
            · show (cleared (swp _ _ _) _ _).length = _
              rw [cleared_len, swp_len, ih]
        exact this n
      rw [hl, h, Nat.sub_self]; rfl
    rw [e]
end PN
end
section
set_option maxRecDepth 100000
namespace PN
/-! ### three blocks: their places -/
abbrev I1 (w2 w3 : Nat) (v : List Rat) : List Rat := v ++ zero (w2 + w3)
abbrev I2 (w1 w3 : Nat) (v : List Rat) : List Rat := zero w1 ++ (v ++ zero w3)
abbrev I3 (w1 w2 : Nat) (v : List Rat) : List Rat := zero w1 ++ (zero w2 ++ v)
def b3 (w1 w2 w3 : Nat) (A B C : Mat) : Mat := ds w1 (w2 + w3) A (ds w2 w3 B C)
theorem b3_eq (w1 w2 w3 : Nat) (A B C : Mat) : b3 w1 w2 w3 A B C = A.map (I1 w2 w3) ++ (B.map (I2 w1 w3) ++ C.map (I3 w1 w2)) := by
  unfold b3 ds
  rw [List.map_append, List.map_map, List.map_map]
  rfl
section
variable {w1 w2 w3 : Nat}
theorem len1 {v : List Rat} (h : v.length = w1) : (I1 w2 w3 v).length = w1 + (w2 + w3) := by rw [List.length_append, zero_len, h]
theorem len2 {v : List Rat} (h : v.length = w2) : (I2 w1 w3 v).length = w1 + (w2 + w3) := by rw [List.length_append, List.length_append, zero_len, zero_len, h]
theorem len3 {v : List Rat} (h : v.length = w3) : (I3 w1 w2 v).length = w1 + (w2 + w3) := by rw [List.length_append, List.length_append, zero_len, zero_len, h]
theorem gt1 {v : List Rat} {c : Nat} (h : v.length = w1) : gt (I1 w2 w3 v) c = gt v c := by
  by_cases hc : c < w1
  · exact gt_left (by omega)
  · rw [gt_right (by omega), gt_zero, gt_out (by omega)]
theorem gt2 {v : List Rat} {c : Nat} (h : v.length = w2) : gt (I2 w1 w3 v) (w1 + c) = gt v c := by
  rw [gt_right (by rw [zero_len]; omega), zero_len, Nat.add_sub_cancel_left]
  by_cases hc : c < w2
  · exact gt_left (by omega)
  · rw [gt_right (by omega), gt_zero, gt_out (by omega)]
theorem gt2a {v : List Rat} {c : Nat} (h : c < w1) : gt (I2 w1 w3 v) c = 0 := by rw [gt_left (by rw [zero_len]; exact h), gt_zero]
theorem gt3 {v : List Rat} {c : Nat} : gt (I3 w1 w2 v) (w1 + w2 + c) = gt v c := by
  rw [gt_right (by rw [zero_len]; omega), zero_len, gt_right (by rw [zero_len]; omega), zero_len, show w1 + w2 + c - w1 - w2 = c by omega]
theorem gt3a {v : List Rat} {c : Nat} (h : c < w1 + w2) : gt (I3 w1 w2 v) c = 0 := by
  by_cases hc : c < w1
  · rw [gt_left (by rw [zero_len]; exact hc), gt_zero]
  · rw [gt_right (by rw [zero_len]; omega), zero_len, gt_left (by rw [zero_len]; omega), gt_zero]
theorem emb1 : Emb (I1 w2 w3) w1 w1 0 (w1 + (w2 + w3)) where
  sc f v h := by rw [I1, scale_app, scale_zero]
  mi u v h h' := by rw [I1, I1, minus_app (by omega), minus_zero]
  at_ v c h hc := by rw [Nat.zero_add]; exact gt1 h
  ze := zero_add _ _
theorem emb2 : Emb (I2 w1 w3) w2 w2 w1 (w1 + (w2 + w3)) where
  sc f v h := by rw [I2, scale_app, scale_app, scale_zero, scale_zero]
  mi u v h h' := by rw [I2, I2, minus_app rfl, minus_app (by omega), minus_zero, minus_zero]
  at_ v c h hc := gt2 h
  ze := by rw [I2, zero_add, zero_add]
theorem emb3 : Emb (I3 w1 w2) w3 w3 (w1 + w2) (w1 + (w2 + w3)) where
  sc f v h := by rw [I3, scale_app, scale_app, scale_zero, scale_zero]
  mi u v h h' := by rw [I3, I3, minus_app rfl, minus_app rfl, minus_zero, minus_zero]
  at_ v c h hc := gt3
  ze := by rw [I3, zero_add, zero_add]
end
/-- with the identity behind -/
def J (E : List Rat → List Rat) (m : Nat) (v : List Rat) : List Rat := E (v.take m) ++ E (v.drop m)
theorem embJ {E : List Rat → List Rat} {m o W : Nat} (e : Emb E m m o W) (hl : ∀ v, v.length = m → (E v).length = W) (ho : o + m ≤ W) : Emb (J E m) (2 * m) m o (2 * W) where
  sc f v h := by
    have h1 : (v.take m).length = m := by rw [List.length_take]; omega
    have h2 : (v.drop m).length = m := by rw [List.length_drop]; omega
    have t1 : (scale f v).take m = scale f (v.take m) := by unfold scale; rw [List.map_take]
    have t2 : (scale f v).drop m = scale f (v.drop m) := by unfold scale; rw [List.map_drop]
    unfold J
    rw [scale_app, e.sc f _ h1, e.sc f _ h2, t1, t2]
  mi u v h h' := by
    have h1 : ∀ {v : List Rat}, v.length = 2 * m → (v.take m).length = m := fun h => by rw [List.length_take]; omega
    have h2 : ∀ {v : List Rat}, v.length = 2 * m → (v.drop m).length = m := fun h => by rw [List.length_drop]; omega
    have t1 : (minus u v).take m = minus (u.take m) (v.take m) := by unfold minus; rw [List.take_zipWith]
    have t2 : (minus u v).drop m = minus (u.drop m) (v.drop m) := by unfold minus; rw [List.drop_zipWith]
    unfold J
    rw [minus_app (by rw [hl _ (h1 h), hl _ (h1 h')]), e.mi _ _ (h1 h) (h1 h'), e.mi _ _ (h2 h) (h2 h'), t1, t2]
  at_ v c h hc := by
    have h1 : (v.take m).length = m := by rw [List.length_take]; omega
    unfold J
    rw [gt_left (by rw [hl _ h1]; omega), e.at_ _ c h1 hc]
    unfold gt
    rw [List.getD_eq_getElem?_getD, List.getD_eq_getElem?_getD, List.getElem?_take, if_pos hc]
  ze := by
    unfold J zero
    rw [List.take_replicate, List.drop_replicate, show min m (2 * m) = m by omega, show 2 * m - m = m by omega]
    have := e.ze
    unfold zero at this
    rw [this, List.replicate_append_replicate, show W + W = 2 * W by omega]
/-- a block's reduction, wherever it stands -/
structure Red (m : Nat) (B U : Mat) (p : List Nat) (S : Mat) : Prop where
  run : ∀ E o W, Emb E m m o W → RunOk E W o m B U p (m - U.length) S
  lb : B.length = m
  wb : Wd m B
  lu : p.length = U.length
  lm : U.length ≤ m
  wu : Wd m U
  pl : ∀ x ∈ p, x < m
theorem red_nil : Red 0 [] [] [] [] := ⟨fun E o W e => run_nil, rfl, by simp [Wd], rfl, Nat.le_refl _, by simp [Wd], by simp⟩
section
variable {m1 m2 m3 : Nat} {B1 B2 B3 U1 U2 U3 S1 S2 S3 : Mat} {p1 p2 p3 : List Nat}
theorem state_b3 (r1 : Red m1 B1 U1 p1 S1) (r2 : Red m2 B2 U2 p2 S2) (r3 : Red m3 B3 U3 p3 S3) :
    redState (b3 m1 m2 m3 B1 B2 B3) (m1 + m2 + m3) = (b3 m1 m2 m3 U1 U2 U3 ++ List.replicate ((m1 - U1.length) + (m2 - U2.length) + (m3 - U3.length)) (zero (m1 + (m2 + m3))), p1 ++ (p2.map (m1 + ·) ++ p3.map (m1 + m2 + ·))) ∧
    ∀ c, c ≤ m1 + m2 + m3 → ∀ r ∈ (redState (b3 m1 m2 m3 B1 B2 B3) c).1, r = zero (m1 + (m2 + m3)) ∨ (∃ v ∈ B1 ++ U1 ++ S1, r = I1 m2 m3 v) ∨ (∃ v ∈ B2 ++ U2 ++ S2, r = I2 m1 m3 v) ∨ (∃ v ∈ B3 ++ U3 ++ S3, r = I3 m1 m2 v) := by
  rw [b3_eq, b3_eq]
  exact run3 (r1.run _ _ _ emb1) (r2.run _ _ _ emb2) (r3.run _ _ _ emb3) (fun b _ c hc => by rw [Nat.zero_add]; exact gt2a hc) (fun b _ c hc => by rw [Nat.zero_add]; exact gt3a (by omega)) (fun b _ c hc => gt3a (by omega))
    (fun b hb c _ => by rw [gt1 (r1.wu b hb), gt_out (by rw [r1.wu b hb]; omega)]) (fun b hb c _ => by rw [gt1 (r1.wu b hb), gt_out (by rw [r1.wu b hb]; omega)])
    (fun b hb c _ => by rw [Nat.add_assoc m1 m2 c, gt2 (r2.wu b hb), gt_out (by rw [r2.wu b hb]; omega)]) r1.lu r2.lu
theorem b3_len (w1 w2 w3 : Nat) (A B C : Mat) : (b3 w1 w2 w3 A B C).length = A.length + (B.length + C.length) := by unfold b3; rw [ds_len, ds_len]
theorem reduced_b3 (r1 : Red m1 B1 U1 p1 S1) (r2 : Red m2 B2 U2 p2 S2) (r3 : Red m3 B3 U3 p3 S3) :
    reduced (b3 m1 m2 m3 B1 B2 B3) (m1 + m2 + m3) = (b3 m1 m2 m3 U1 U2 U3, p1 ++ (p2.map (m1 + ·) ++ p3.map (m1 + m2 + ·))) := by
  unfold reduced
  rw [(state_b3 r1 r2 r3).1]
  have hl : (p1 ++ (p2.map (m1 + ·) ++ p3.map (m1 + m2 + ·))).length = (b3 m1 m2 m3 U1 U2 U3).length := by
    rw [b3_len, List.length_append, List.length_append, List.length_map, List.length_map, r1.lu, r2.lu, r3.lu]
  show (List.take (p1 ++ (p2.map (m1 + ·) ++ p3.map (m1 + m2 + ·))).length (b3 m1 m2 m3 U1 U2 U3 ++ _), _) = _
  rw [hl, List.take_left]
end
end PN
end
section
set_option maxRecDepth 100000
namespace PN
/-! ### the inverse of three blocks -/
/-- a block whose joined rows reduce to the identity and V -/
structure InvB (m : Nat) (G V : Mat) (S : Mat) : Prop where
  run : ∀ E o W, Emb E (2 * m) m o W → RunOk E W o m (joined G) (List.zipWith (· ++ ·) (identity m) V) (List.range m) 0 S
  lg : G.length = m
  wg : Wd m G
  lv : V.length = m
  wv : Wd m V
theorem inv_nil : InvB 0 [] [] [] := ⟨fun E o W e => run_nil, rfl, by simp [Wd], rfl, by simp [Wd]⟩
theorem unit_split {w i : Nat} : unit w i = (List.range w).map fun k => if k = i then (1 : Rat) else 0 := rfl
theorem unit_left {w v i : Nat} (h : i < w) : unit (w + v) i = unit w i ++ zero v := by
  unfold unit
  rw [range_add, List.map_append, List.map_map]
  congr 1
  rw [show v = (List.range v).length from (List.length_range ..).symm, ← map_zero, List.length_range]
  exact List.map_congr_left fun k _ => if_neg (by show ¬ (w + k = i); omega)
theorem unit_right {w v i : Nat} : unit (w + v) (w + i) = zero w ++ unit v i := by
  unfold unit
  rw [range_add, List.map_append, List.map_map]
  congr 1
  · rw [show zero w = zero (List.range w).length by rw [List.length_range], ← map_zero]
    exact List.map_congr_left fun k hk => if_neg (by have := List.mem_range.mp hk; omega)
  · refine List.map_congr_left fun k _ => ?_
    show (if w + k = w + i then (1 : Rat) else 0) = if k = i then 1 else 0
    by_cases h : k = i
    · rw [if_pos h, if_pos (by omega)]
    · rw [if_neg h, if_neg (by omega)]
theorem identity_ds (w v : Nat) : identity (w + v) = ds w v (identity w) (identity v) := by
  show (List.range (w + v)).map (unit (w + v)) = ((List.range w).map (unit w)).map (· ++ zero v) ++ ((List.range v).map (unit v)).map (zero w ++ ·)
  rw [range_add, List.map_append, List.map_map, List.map_map, List.map_map]
  congr 1
  · exact List.map_congr_left fun i hi => unit_left (List.mem_range.mp hi)
  · exact List.map_congr_left fun i _ => unit_right
theorem identity_b3 (w1 w2 w3 : Nat) : identity (w1 + (w2 + w3)) = b3 w1 w2 w3 (identity w1) (identity w2) (identity w3) := by
  unfold b3; rw [identity_ds, identity_ds]
theorem take_app {v u : List Rat} {m : Nat} (h : v.length = m) : (v ++ u).take m = v := by rw [← h, List.take_left]
theorem drop_app {v u : List Rat} {m : Nat} (h : v.length = m) : (v ++ u).drop m = u := by rw [← h, List.drop_left]
theorem zip_map (E : List Rat → List Rat) {m : Nat} : ∀ {A B : Mat}, Wd m A → List.zipWith (· ++ ·) (A.map E) (B.map E) = (List.zipWith (· ++ ·) A B).map (J E m)
  | [], _, _ => by simp
  | _ :: _, [], _ => by simp
  | a :: A, b :: B, h => by
    have ha : a.length = m := h a List.mem_cons_self
    rw [List.map_cons, List.map_cons, List.zipWith_cons_cons, List.zipWith_cons_cons, List.map_cons, zip_map E fun r hr => h r (List.mem_cons_of_mem _ hr)]
    congr 1
    unfold J
    rw [take_app ha, drop_app ha]
theorem wd_id (m : Nat) : Wd m (identity m) := fun r hr => by
  obtain ⟨i, _, rfl⟩ := List.mem_map.mp hr
  exact unit_len m i
theorem zip_b3 {w1 w2 w3 : Nat} {A B C A' B' C' : Mat} (hA : Wd w1 A) (hB : Wd w2 B) (hC : Wd w3 C) (lA : A.length = A'.length) (lB : B.length = B'.length) :
    List.zipWith (· ++ ·) (b3 w1 w2 w3 A B C) (b3 w1 w2 w3 A' B' C') =
      (List.zipWith (· ++ ·) A A').map (J (I1 w2 w3) w1) ++ ((List.zipWith (· ++ ·) B B').map (J (I2 w1 w3) w2) ++ (List.zipWith (· ++ ·) C C').map (J (I3 w1 w2) w3)) := by
  rw [b3_eq, b3_eq, List.zipWith_append (by rw [List.length_map, List.length_map, lA]), List.zipWith_append (by rw [List.length_map, List.length_map, lB]), zip_map _ hA, zip_map _ hB, zip_map _ hC]
section
variable {m1 m2 m3 : Nat} {G1 G2 G3 V1 V2 V3 S1 S2 S3 : Mat}
theorem joined_b3 (g1 : InvB m1 G1 V1 S1) (g2 : InvB m2 G2 V2 S2) (g3 : InvB m3 G3 V3 S3) :
    joined (b3 m1 m2 m3 G1 G2 G3) = (joined G1).map (J (I1 m2 m3) m1) ++ ((joined G2).map (J (I2 m1 m3) m2) ++ (joined G3).map (J (I3 m1 m2) m3)) := by
  unfold joined
  rw [b3_len, g1.lg, g2.lg, g3.lg, identity_b3, zip_b3 g1.wg g2.wg g3.wg (by rw [g1.lg, identity_len]) (by rw [g2.lg, identity_len])]
theorem gJ {E : List Rat → List Rat} {m W c : Nat} {v : List Rat} (hE : ∀ v, v.length = m → (E v).length = W) (hv : v.length = 2 * m) (hc : c < W) : gt (J E m v) c = gt (E (v.take m)) c := by
  unfold J
  exact gt_left (by rw [hE _ (by rw [List.length_take]; omega)]; exact hc)
theorem wd_zip {m : Nat} {A B : Mat} (hA : Wd m A) (hB : Wd m B) : Wd (2 * m) (List.zipWith (· ++ ·) A B) := fun r hr => by
  obtain ⟨a, ha, b, hb, rfl⟩ := zip_mem hr
  rw [List.length_append, hA a ha, hB b hb]; omega
theorem state_inv (g1 : InvB m1 G1 V1 S1) (g2 : InvB m2 G2 V2 S2) (g3 : InvB m3 G3 V3 S3) :
    (redState (joined (b3 m1 m2 m3 G1 G2 G3)) (m1 + m2 + m3)).1 = List.zipWith (· ++ ·) (identity (m1 + (m2 + m3))) (b3 m1 m2 m3 V1 V2 V3) ∧ (redState (joined (b3 m1 m2 m3 G1 G2 G3)) (m1 + m2 + m3)).2.length = m1 + m2 + m3 ∧
    ∀ c, c ≤ m1 + m2 + m3 → ∀ r ∈ (redState (joined (b3 m1 m2 m3 G1 G2 G3)) c).1, r = zero (2 * (m1 + (m2 + m3))) ∨ (∃ v ∈ joined G1 ++ List.zipWith (· ++ ·) (identity m1) V1 ++ S1, r = J (I1 m2 m3) m1 v) ∨ (∃ v ∈ joined G2 ++ List.zipWith (· ++ ·) (identity m2) V2 ++ S2, r = J (I2 m1 m3) m2 v) ∨ (∃ v ∈ joined G3 ++ List.zipWith (· ++ ·) (identity m3) V3 ++ S3, r = J (I3 m1 m2) m3 v) := by
  have h1 : ∀ v : List Rat, v.length = m1 → (I1 m2 m3 v).length = m1 + (m2 + m3) := fun v h => len1 h
  have h2 : ∀ v : List Rat, v.length = m2 → (I2 m1 m3 v).length = m1 + (m2 + m3) := fun v h => len2 h
  have h3 : ∀ v : List Rat, v.length = m3 → (I3 m1 m2 v).length = m1 + (m2 + m3) := fun v h => len3 h
  have wj2 : Wd (2 * m2) (joined G2) := joined_wd g2.wg g2.lg
  have wj3 : Wd (2 * m3) (joined G3) := joined_wd g3.wg g3.lg
  have wz1 := wd_zip (wd_id m1) g1.wv
  have wz2 := wd_zip (wd_id m2) g2.wv
  have tk : ∀ {m : Nat} {v : List Rat}, v.length = 2 * m → (v.take m).length = m := fun h => by rw [List.length_take]; omega
  obtain ⟨a, b⟩ := run3 (g1.run _ _ _ (embJ emb1 h1 (by omega))) (g2.run _ _ _ (embJ emb2 h2 (by omega))) (g3.run _ _ _ (embJ emb3 h3 (by omega)))
    (fun b hb c hc => by rw [gJ h2 (wj2 b hb) (by omega), Nat.zero_add]; exact gt2a hc) (fun b hb c hc => by rw [gJ h3 (wj3 b hb) (by omega), Nat.zero_add]; exact gt3a (by omega)) (fun b hb c hc => by rw [gJ h3 (wj3 b hb) (by omega)]; exact gt3a (by omega))
    (fun b hb c hc => by rw [gJ h1 (wz1 b hb) (by omega), gt1 (tk (wz1 b hb)), gt_out (by rw [tk (wz1 b hb)]; omega)]) (fun b hb c hc => by rw [gJ h1 (wz1 b hb) (by omega), gt1 (tk (wz1 b hb)), gt_out (by rw [tk (wz1 b hb)]; omega)])
    (fun b hb c hc => by rw [gJ h2 (wz2 b hb) (by omega), Nat.add_assoc m1 m2 c, gt2 (tk (wz2 b hb)), gt_out (by rw [tk (wz2 b hb)]; omega)])
    (by rw [List.length_range, List.length_zipWith, identity_len, g1.lv]; omega) (by rw [List.length_range, List.length_zipWith, identity_len, g2.lv]; omega)
  rw [← joined_b3 g1 g2 g3] at a b
  refine ⟨?_, ?_, b⟩
  · rw [a, identity_b3, zip_b3 (wd_id m1) (wd_id m2) (wd_id m3) (by rw [identity_len, g1.lv]) (by rw [identity_len, g2.lv])]
    simp
  · rw [a]; simp; omega
theorem inverse_b3 (g1 : InvB m1 G1 V1 S1) (g2 : InvB m2 G2 V2 S2) (g3 : InvB m3 G3 V3 S3) : inverseOf (b3 m1 m2 m3 G1 G2 G3) = b3 m1 m2 m3 V1 V2 V3 := by
  obtain ⟨a, b, _⟩ := state_inv g1 g2 g3
  have hl : (b3 m1 m2 m3 G1 G2 G3).length = m1 + m2 + m3 := by rw [b3_len, g1.lg, g2.lg, g3.lg]; omega
  have hj : (joined (b3 m1 m2 m3 G1 G2 G3)).length = m1 + m2 + m3 := by rw [joined_len, hl]
  unfold inverseOf reduced
  rw [hl, show 2 * (m1 + m2 + m3) = m1 + m2 + m3 + (m1 + m2 + m3) by omega, red_full (by rw [b, hj])]
  show ((redState _ (m1 + m2 + m3)).1.take (redState _ (m1 + m2 + m3)).2.length).map _ = _
  rw [b, a, List.take_of_length_le (by rw [List.length_zipWith, identity_len, b3_len, g1.lv, g2.lv, g3.lv]; omega)]
  refine List.ext_getElem? fun i => ?_
  rw [List.getElem?_map, List.getElem?_zipWith]
  by_cases hi : i < m1 + (m2 + m3)
  · have e1 : (identity (m1 + (m2 + m3)))[i]? = some (unit (m1 + (m2 + m3)) i) := by
      unfold identity; rw [List.getElem?_map, List.getElem?_range hi]; rfl
    rw [e1]
    cases e : (b3 m1 m2 m3 V1 V2 V3)[i]? with
    | none => rfl
    | some v =>
      show some ((unit (m1 + (m2 + m3)) i ++ v).drop (m1 + m2 + m3)) = some v
      rw [drop_app (by rw [unit_len]; omega)]
  · rw [List.getElem?_eq_none (by rw [identity_len]; omega), List.getElem?_eq_none (by rw [b3_len, g1.lv, g2.lv, g3.lv]; omega)]
    rfl
end
end PN
end
section
set_option maxRecDepth 100000
namespace PN
/-! ### the pseudo-inverse of three blocks -/
section
variable {w1 w2 w3 : Nat} {A B C : Mat}
theorem b3_wd (hA : Wd w1 A) (hB : Wd w2 B) (hC : Wd w3 C) : Wd (w1 + (w2 + w3)) (b3 w1 w2 w3 A B C) := ds_wd hA (ds_wd hB hC)
theorem transpose_b3 (hA : Wd w1 A) (hB : Wd w2 B) : transpose (b3 w1 w2 w3 A B C) (w1 + (w2 + w3)) = b3 A.length B.length C.length (transpose A w1) (transpose B w2) (transpose C w3) := by
  unfold b3
  rw [transpose_ds hA, transpose_ds hB, ds_len]
theorem product_b3 {p1 p2 p3 : Nat} {A' B' C' : Mat} (hA : Wd w1 A) (hB : Wd w2 B) (hC : Wd w3 C) (hA' : Wd p1 A') (hB' : Wd p2 B') (hC' : Wd p3 C') (lA : A'.length = w1) (lB : B'.length = w2) (lC : C'.length = w3) :
    product (b3 w1 w2 w3 A B C) (b3 p1 p2 p3 A' B' C') (p1 + (p2 + p3)) = b3 p1 p2 p3 (product A A' p1) (product B B' p2) (product C C' p3) := by
  unfold b3
  rw [product_ds hA (ds_wd hB hC) hA' (ds_wd hB' hC') lA (by rw [ds_len, lB, lC]), product_ds hB hC hB' hC' lB lC]
theorem colsAt_b3 {p1 p2 p3 : List Nat} (hA : Wd w1 A) (hB : Wd w2 B) (h1 : ∀ x ∈ p1, x < w1) (h2 : ∀ x ∈ p2, x < w2) :
    colsAt (b3 w1 w2 w3 A B C) (p1 ++ (p2.map (w1 + ·) ++ p3.map (w1 + w2 + ·))) = b3 p1.length p2.length p3.length (colsAt A p1) (colsAt B p2) (colsAt C p3) := by
  have e : p2.map (w1 + ·) ++ p3.map (w1 + w2 + ·) = (p2 ++ p3.map (w2 + ·)).map (w1 + ·) := by
    rw [List.map_append, List.map_map]
    congr 1
    exact List.map_congr_left fun x _ => (Nat.add_assoc w1 w2 x)
  unfold b3
  rw [e, colsAt_ds hA h1, colsAt_ds hB h2, List.length_append, List.length_map]
end
/-- all that pseudo_inverse makes of one block -/
structure PB (m : Nat) (B U : Mat) (p : List Nat) (S VG SG VH SH : Mat) : Prop where
  red : Red m B U p S
  ig : InvB p.length (product U (transpose U m) p.length) VG SG
  ih : InvB p.length (product (transpose (colsAt B p) p.length) (colsAt B p) p.length) VH SH
abbrev xB (m : Nat) (B : Mat) (p : List Nat) (VG VH : Mat) : Mat := product (product VG VH p.length) (transpose (colsAt B p) p.length) m
abbrev pB (m : Nat) (B U : Mat) (p : List Nat) (VG VH : Mat) : Mat := product (transpose U m) (xB m B p VG VH) m
theorem pb_nil : PB 0 [] [] [] [] [] [] [] [] := ⟨red_nil, inv_nil, inv_nil⟩
section
variable {m1 m2 m3 : Nat} {B1 B2 B3 U1 U2 U3 S1 S2 S3 VG1 VG2 VG3 VH1 VH2 VH3 SG1 SG2 SG3 SH1 SH2 SH3 : Mat} {p1 p2 p3 : List Nat}
theorem psOf_b3 (h1 : PB m1 B1 U1 p1 S1 VG1 SG1 VH1 SH1) (h2 : PB m2 B2 U2 p2 S2 VG2 SG2 VH2 SH2) (h3 : PB m3 B3 U3 p3 S3 VG3 SG3 VH3 SH3) :
    psOf (b3 m1 m2 m3 B1 B2 B3) (m1 + m2 + m3) = ⟨b3 m1 m2 m3 U1 U2 U3, p1 ++ (p2.map (m1 + ·) ++ p3.map (m1 + m2 + ·)), b3 p1.length p2.length p3.length (colsAt B1 p1) (colsAt B2 p2) (colsAt B3 p3),
      b3 p1.length p2.length p3.length (transpose U1 m1) (transpose U2 m2) (transpose U3 m3),
      b3 p1.length p2.length p3.length (product U1 (transpose U1 m1) p1.length) (product U2 (transpose U2 m2) p2.length) (product U3 (transpose U3 m3) p3.length),
      b3 p1.length p2.length p3.length VG1 VG2 VG3,
      b3 m1 m2 m3 (transpose (colsAt B1 p1) p1.length) (transpose (colsAt B2 p2) p2.length) (transpose (colsAt B3 p3) p3.length),
      b3 p1.length p2.length p3.length (product (transpose (colsAt B1 p1) p1.length) (colsAt B1 p1) p1.length) (product (transpose (colsAt B2 p2) p2.length) (colsAt B2 p2) p2.length) (product (transpose (colsAt B3 p3) p3.length) (colsAt B3 p3) p3.length),
      b3 p1.length p2.length p3.length VH1 VH2 VH3,
      b3 p1.length p2.length p3.length (product VG1 VH1 p1.length) (product VG2 VH2 p2.length) (product VG3 VH3 p3.length),
      b3 m1 m2 m3 (xB m1 B1 p1 VG1 VH1) (xB m2 B2 p2 VG2 VH2) (xB m3 B3 p3 VG3 VH3)⟩ := by
  have er := reduced_b3 h1.red h2.red h3.red
  have lp : (p1 ++ (p2.map (m1 + ·) ++ p3.map (m1 + m2 + ·))).length = p1.length + (p2.length + p3.length) := by simp
  have lm : (b3 m1 m2 m3 B1 B2 B3).length = m1 + (m2 + m3) := by rw [b3_len, h1.red.lb, h2.red.lb, h3.red.lb]
  have e2 : m1 + m2 + m3 = m1 + (m2 + m3) := by omega
  have c1 := colsAt_len B1 p1
  have c2 := colsAt_len B2 p2
  have c3 := colsAt_len B3 p3
  have eC := colsAt_b3 (w3 := m3) (C := B3) (p3 := p3) h1.red.wb h2.red.wb h1.red.pl h2.red.pl
  have et := transpose_b3 (w3 := m3) (C := U3) h1.red.wu h2.red.wu
  rw [← h1.red.lu, ← h2.red.lu, ← h3.red.lu] at et
  have tw : ∀ {m : Nat} {U : Mat} {p : List Nat}, p.length = U.length → Wd p.length (transpose U m) := fun h => by rw [h]; exact transpose_wd _ _
  have eG := product_b3 h1.red.wu h2.red.wu h3.red.wu (tw h1.red.lu) (tw h2.red.lu) (tw h3.red.lu) (transpose_len U1 m1) (transpose_len U2 m2) (transpose_len U3 m3)
  have eA := transpose_b3 (w3 := p3.length) (C := colsAt B3 p3) (colsAt_wd B1 p1) (colsAt_wd B2 p2)
  rw [c1, c2, c3, h1.red.lb, h2.red.lb, h3.red.lb] at eA
  have aw : ∀ {m : Nat} {B : Mat} {p : List Nat}, B.length = m → Wd m (transpose (colsAt B p) p.length) := fun {m B p} h => by rw [← h, ← colsAt_len B p]; exact transpose_wd _ _
  have eS := product_b3 (aw (p := p1) h1.red.lb) (aw (p := p2) h2.red.lb) (aw (p := p3) h3.red.lb) (colsAt_wd B1 p1) (colsAt_wd B2 p2) (colsAt_wd B3 p3) (by rw [c1, h1.red.lb]) (by rw [c2, h2.red.lb]) (by rw [c3, h3.red.lb])
  have eM := product_b3 h1.ig.wv h2.ig.wv h3.ig.wv h1.ih.wv h2.ih.wv h3.ih.wv h1.ih.lv h2.ih.lv h3.ih.lv
  have eX := product_b3 (product_wd VG1 VH1 p1.length) (product_wd VG2 VH2 p2.length) (product_wd VG3 VH3 p3.length) (aw (p := p1) h1.red.lb) (aw (p := p2) h2.red.lb) (aw (p := p3) h3.red.lb) (transpose_len _ _) (transpose_len _ _) (transpose_len _ _)
  unfold psOf
  rw [er]
  dsimp only
  rw [lp, lm, e2, eC, et, eG, inverse_b3 h1.ig h2.ig h3.ig, eA, eS, inverse_b3 h1.ih h2.ih h3.ih, eM, eX]
theorem pseudo_eq (m : Mat) (w : Nat) (hw : Wd w m) : pseudo m w = product (psOf m w).t (psOf m w).x m.length := by
  unfold pseudo
  by_cases h : (reduced m w).2.length = 0
  · rw [if_pos h]
    have hF : (reduced m w).1 = [] := by
      unfold reduced at h ⊢
      show List.take _ _ = []
      rw [show (redState m w).2.length = 0 from h, List.take_zero]
    have hp : (reduced m w).2 = [] := List.length_eq_zero_iff.mp h
    have ht : (psOf m w).t = List.replicate w [] := by
      show transpose (reduced m w).1 w = _
      rw [hF]
      unfold transpose col
      show (List.range w).map (fun c => []) = _
      rw [List.map_const', List.length_range]
    have hx : (psOf m w).x = [] := by
      show product (product (inverseOf (product (reduced m w).1 (transpose (reduced m w).1 w) (reduced m w).2.length)) _ _) _ _ = []
      rw [hF]
      rfl
    rw [ht, hx]
    unfold product zeros
    rw [List.map_replicate]
    congr 1
    unfold apply transpose col zero
    rw [List.map_map]
    show _ = (List.range m.length).map (fun c => (0 : Rat))
    rw [List.map_const', List.length_range]
  · rw [if_neg h]
theorem pseudo_b3 (h1 : PB m1 B1 U1 p1 S1 VG1 SG1 VH1 SH1) (h2 : PB m2 B2 U2 p2 S2 VG2 SG2 VH2 SH2) (h3 : PB m3 B3 U3 p3 S3 VG3 SG3 VH3 SH3) :
    pseudo (b3 m1 m2 m3 B1 B2 B3) (m1 + m2 + m3) = b3 m1 m2 m3 (pB m1 B1 U1 p1 VG1 VH1) (pB m2 B2 U2 p2 VG2 VH2) (pB m3 B3 U3 p3 VG3 VH3) := by
  have lm : (b3 m1 m2 m3 B1 B2 B3).length = m1 + (m2 + m3) := by rw [b3_len, h1.red.lb, h2.red.lb, h3.red.lb]
  rw [pseudo_eq _ _ (by rw [Nat.add_assoc]; exact b3_wd h1.red.wb h2.red.wb h3.red.wb), psOf_b3 h1 h2 h3, lm]
  have tw : ∀ {m : Nat} {U : Mat} {p : List Nat}, p.length = U.length → Wd p.length (transpose U m) := fun h => by rw [h]; exact transpose_wd _ _
  have lx : ∀ {m : Nat} {B : Mat} {p : List Nat} {VG VH : Mat}, VG.length = p.length → (xB m B p VG VH).length = p.length := fun h => by unfold xB; rw [product_len, product_len, h]
  exact product_b3 (tw h1.red.lu) (tw h2.red.lu) (tw h3.red.lu) (product_wd _ _ _) (product_wd _ _ _) (product_wd _ _ _) (lx h1.ig.lv) (lx h2.ig.lv) (lx h3.ig.lv)
end
end PN
end
section
set_option maxRecDepth 100000
namespace PN
/-! ### the blocks -/
theorem minus_scale0 : ∀ (x u : List Rat), x.length = u.length → minus x (scale 0 u) = x
  | [], [], _ => rfl
  | [], _ :: _, h => by simp at h
  | _ :: _, [], h => by simp at h
  | a :: x, b :: u, h => by
    show (a - 0 * b) :: minus x (scale 0 u) = a :: x
    rw [minus_scale0 x u (by simpa using h), Rat.zero_mul, Rat.sub_eq_add_neg, Rat.neg_zero, Rat.add_zero]
theorem clr_all {c : Nat} {u x : List Rat} (h : x.length = u.length) : clr c u x = minus x (scale (gt x c) u) := by
  unfold clr
  by_cases h0 : gt x c = 0
  · rw [if_pos h0, h0, minus_scale0 x u h]
  · rw [if_neg h0]
theorem id1 : identity 1 = [[1]] := by decide +kernel
theorem id2 : identity 2 = [[1, 0], [0, 1]] := by decide +kernel
theorem inv_one {g : Rat} (h : g ≠ 0) : InvB 1 [[g]] [[1 / g]] [[g, 1], [1, 1 / g]] := by
  refine ⟨fun E o W e => ?_, rfl, by simp [Wd], rfl, by simp [Wd]⟩
  have ej : joined [[g]] = [[g, 1]] := by unfold joined; show List.zipWith _ _ (identity 1) = _; rw [id1]; rfl
  have es : scale (1 / gt [g, 1] 0) [g, 1] = [1, 1 / g] := by
    show [1 / g * g, 1 / g * 1] = _
    congr 1
    · grind
    · congr 1; grind
  have hr := run_one (x := [g, 1]) e rfl h
  rw [es] at hr
  rw [ej, id1]
  exact hr
theorem inv_two {p q r : Rat} (hp : p ≠ 0) (he : p * r - q * q ≠ 0) :
    ∃ S, InvB 2 [[p, q], [q, r]] [[r / (p * r - q * q), -q / (p * r - q * q)], [-q / (p * r - q * q), p / (p * r - q * q)]] S ∧
      S = [[p, q, 1, 0], [q, r, 0, 1], [1, q / p, 1 / p, 0], [0, (p * r - q * q) / p, -q / p, 1], [1, 0, r / (p * r - q * q), -q / (p * r - q * q)], [0, 1, -q / (p * r - q * q), p / (p * r - q * q)]] := by
  refine ⟨_, ⟨fun E o W e => ?_, rfl, by simp [Wd], rfl, by simp [Wd]⟩, rfl⟩
  have ej : joined [[p, q], [q, r]] = [[p, q, 1, 0], [q, r, 0, 1]] := by unfold joined; show List.zipWith _ _ (identity 2) = _; rw [id2]; rfl
  have ex : [1, q / p, 1 / p, 0] = scale (1 / gt [p, q, 1, 0] 0) [p, q, 1, 0] := by
    show _ = [1 / p * p, 1 / p * q, 1 / p * 1, 1 / p * 0]
    congr 1
    · grind
    · congr 1
      · grind
      · congr 1
        · grind
        · congr 1; grind
  have ey : [0, (p * r - q * q) / p, -q / p, 1] = clr 0 [1, q / p, 1 / p, 0] [q, r, 0, 1] := by
    refine Eq.trans ?_ (clr_all (by rfl)).symm
    show _ = [q - q * 1, r - q * (q / p), 0 - q * (1 / p), 1 - q * 0]
    congr 1
    · grind
    · congr 1
      · grind
      · congr 1
        · grind
        · congr 1; grind
  have hny : (p * r - q * q) / p ≠ 0 := by grind
  have ey2 : [0, 1, -q / (p * r - q * q), p / (p * r - q * q)] = scale (1 / gt [0, (p * r - q * q) / p, -q / p, 1] 1) [0, (p * r - q * q) / p, -q / p, 1] := by
    show _ = [1 / ((p * r - q * q) / p) * 0, 1 / ((p * r - q * q) / p) * ((p * r - q * q) / p), 1 / ((p * r - q * q) / p) * (-q / p), 1 / ((p * r - q * q) / p) * 1]
    congr 1
    · grind
    · congr 1
      · grind
      · congr 1
        · grind
        · congr 1; grind
  have ex2 : [1, 0, r / (p * r - q * q), -q / (p * r - q * q)] = clr 1 [0, 1, -q / (p * r - q * q), p / (p * r - q * q)] [1, q / p, 1 / p, 0] := by
    refine Eq.trans ?_ (clr_all (by rfl)).symm
    show _ = [1 - q / p * 0, q / p - q / p * 1, 1 / p - q / p * (-q / (p * r - q * q)), 0 - q / p * (p / (p * r - q * q))]
    congr 1
    · grind
    · congr 1
      · grind
      · congr 1
        · grind
        · congr 1; grind
  have hr := run_two (x := [p, q, 1, 0]) (y := [q, r, 0, 1]) e rfl rfl hp ex ey hny ey2 ex2 rfl
  rw [ej, id2]
  exact hr
end PN
end
section
set_option maxRecDepth 100000
namespace PN
/-! ### reductions of the blocks -/
theorem red_one {a : Rat} (h : a ≠ 0) : Red 1 [[a]] [[1]] [0] [[a], [1]] := by
  refine ⟨fun E o W e => ?_, rfl, by simp [Wd], rfl, by decide, by simp [Wd], by simp⟩
  have es : scale (1 / gt [a] 0) [a] = [1] := by
    show [1 / a * a] = _
    congr 1; grind
  have hr := run_one (x := [a]) e rfl h
  rw [es] at hr
  exact hr
theorem red_one0 : Red 1 [[0]] [] [] [] := ⟨fun E o W e => run_one0 e, rfl, by simp [Wd], rfl, by decide, by simp [Wd], by simp⟩
theorem red_two {a b d : Rat} (h : a ≠ 0) (he : a * d - b * b ≠ 0) : Red 2 [[a, b], [b, d]] [[1, 0], [0, 1]] [0, 1] [[a, b], [b, d], [1, b / a], [0, (a * d - b * b) / a], [1, 0], [0, 1]] := by
  refine ⟨fun E o W e => ?_, rfl, by simp [Wd], rfl, by decide, by simp [Wd], by simp⟩
  have ex : [1, b / a] = scale (1 / gt [a, b] 0) [a, b] := by
    show _ = [1 / a * a, 1 / a * b]
    congr 1
    · grind
    · congr 1; grind
  have ey : [0, (a * d - b * b) / a] = clr 0 [1, b / a] [b, d] := by
    refine Eq.trans ?_ (clr_all (by rfl)).symm
    show _ = [b - b * 1, d - b * (b / a)]
    congr 1
    · grind
    · congr 1; grind
  have hny : (a * d - b * b) / a ≠ 0 := by grind
  have ey2 : [0, 1] = scale (1 / gt [0, (a * d - b * b) / a] 1) [0, (a * d - b * b) / a] := by
    show _ = [1 / ((a * d - b * b) / a) * 0, 1 / ((a * d - b * b) / a) * ((a * d - b * b) / a)]
    congr 1
    · grind
    · congr 1; grind
  have ex2 : [1, 0] = clr 1 [0, 1] [1, b / a] := by
    refine Eq.trans ?_ (clr_all (by rfl)).symm
    show _ = [1 - b / a * 0, b / a - b / a * 1]
    congr 1
    · grind
    · congr 1; grind
  exact run_two (x := [a, b]) (y := [b, d]) e rfl rfl h ex ey hny ey2 ex2 rfl
theorem red_two1 {a b d : Rat} (h : a ≠ 0) (he : a * d - b * b = 0) : Red 2 [[a, b], [b, d]] [[1, b / a]] [0] [[a, b], [b, d], [1, b / a], zero 2] := by
  refine ⟨fun E o W e => ?_, rfl, by simp [Wd], rfl, by show 1 ≤ 2; decide, by simp [Wd], by simp⟩
  have ex : [1, b / a] = scale (1 / gt [a, b] 0) [a, b] := by
    show _ = [1 / a * a, 1 / a * b]
    congr 1
    · grind
    · congr 1; grind
  have ey : clr 0 [1, b / a] [b, d] = zero 2 := by
    refine Eq.trans (clr_all (by rfl)) ?_
    show [b - b * 1, d - b * (b / a)] = [0, 0]
    congr 1
    · grind
    · congr 1; grind
  exact run_two1 (x := [a, b]) (y := [b, d]) e rfl rfl h ex ey
theorem red_two2 {d : Rat} (h : d ≠ 0) : Red 2 [[0, 0], [0, d]] [[0, 1]] [1] [zero 2, [0, d], [0, 1]] := by
  refine ⟨fun E o W e => ?_, rfl, by simp [Wd], rfl, by decide, by simp [Wd], by simp⟩
  have es : scale (1 / gt [0, d] 1) [0, d] = [0, 1] := by
    show [1 / d * 0, 1 / d * d] = _
    congr 1
    · grind
    · congr 1; grind
  have hr := run_two2 (y := [0, d]) e rfl rfl h
  rw [es] at hr
  exact hr
theorem red_two0 : Red 2 [[0, 0], [0, 0]] [] [] [] := ⟨fun E o W e => run_two0 e, rfl, by simp [Wd], rfl, by decide, by simp [Wd], by simp⟩
/-! ### .. and their pseudo-inverses -/
theorem pbk_one {a : Rat} (h : a ≠ 0) : PB 1 [[a]] [[1]] [0] [[a], [1]] [[1 / 1]] [[1, 1], [1, 1 / 1]] [[1 / (a * a)]] [[a * a, 1], [1, 1 / (a * a)]] := by
  refine ⟨red_one h, ?_, ?_⟩
  · have e : product [[1]] (transpose [[1]] 1) 1 = [[(1 : Rat)]] := by decide +kernel
    show InvB 1 (product [[1]] (transpose [[1]] 1) 1) _ _
    rw [e]
    exact inv_one (by decide)
  · have e : product (transpose (colsAt [[a]] [0]) 1) (colsAt [[a]] [0]) 1 = [[a * a]] := by
      show [[0 + a * a]] = [[a * a]]
      congr 2; grind
    show InvB 1 (product (transpose (colsAt [[a]] [0]) 1) (colsAt [[a]] [0]) 1) _ _
    rw [e]
    exact inv_one (by grind)
theorem pbk_one0 : PB 1 [[0]] [] [] [] [] [] [] [] := ⟨red_one0, inv_nil, inv_nil⟩
theorem pbk_two0 : PB 2 [[0, 0], [0, 0]] [] [] [] [] [] [] [] := ⟨red_two0, inv_nil, inv_nil⟩
theorem pbk_two2 {d : Rat} (h : d ≠ 0) : PB 2 [[0, 0], [0, d]] [[0, 1]] [1] [zero 2, [0, d], [0, 1]] [[1 / 1]] [[1, 1], [1, 1 / 1]] [[1 / (d * d)]] [[d * d, 1], [1, 1 / (d * d)]] := by
  refine ⟨red_two2 h, ?_, ?_⟩
  · have e : product [[0, 1]] (transpose [[0, 1]] 2) 1 = [[(1 : Rat)]] := by decide +kernel
    show InvB 1 (product [[0, 1]] (transpose [[0, 1]] 2) 1) _ _
    rw [e]
    exact inv_one (by decide)
  · have e : product (transpose (colsAt [[0, 0], [0, d]] [1]) 1) (colsAt [[0, 0], [0, d]] [1]) 1 = [[d * d]] := by
      show [[0 + 0 * 0 + d * d]] = [[d * d]]
      congr 2; grind
    show InvB 1 (product (transpose (colsAt [[0, 0], [0, d]] [1]) 1) (colsAt [[0, 0], [0, d]] [1]) 1) _ _
    rw [e]
    exact inv_one (by grind)
end PN
end
section
set_option maxRecDepth 100000
namespace PN
theorem sq_nn (a : Rat) : 0 ≤ a * a := by
  rcases Rat.le_total (a := 0) (b := a) with h | h
  · exact Rat.mul_nonneg h h
  · have h2 : 0 ≤ -a := by grind
    have h3 := Rat.mul_nonneg h2 h2
    grind
theorem sq_ne {a b : Rat} (h : a ≠ 0) : a * a + b * b ≠ 0 := fun e => by
  have h1 := sq_nn a
  have h2 := sq_nn b
  have h3 : a * a = 0 := by grind
  exact h (by rcases Rat.mul_eq_zero.mp h3 with h | h <;> exact h)
theorem pbk_two {a b d : Rat} (h : a ≠ 0) (he : a * d - b * b ≠ 0) : ∃ SG SH, PB 2 [[a, b], [b, d]] [[1, 0], [0, 1]] [0, 1] [[a, b], [b, d], [1, b / a], [0, (a * d - b * b) / a], [1, 0], [0, 1]]
    [[1 / (1 * 1 - 0 * 0), -0 / (1 * 1 - 0 * 0)], [-0 / (1 * 1 - 0 * 0), 1 / (1 * 1 - 0 * 0)]] SG
    [[(b * b + d * d) / ((a * a + b * b) * (b * b + d * d) - (a * b + b * d) * (a * b + b * d)), -(a * b + b * d) / ((a * a + b * b) * (b * b + d * d) - (a * b + b * d) * (a * b + b * d))],
     [-(a * b + b * d) / ((a * a + b * b) * (b * b + d * d) - (a * b + b * d) * (a * b + b * d)), (a * a + b * b) / ((a * a + b * b) * (b * b + d * d) - (a * b + b * d) * (a * b + b * d))]] SH := by
  obtain ⟨SG, g, _⟩ := inv_two (p := 1) (q := 0) (r := 1) (by decide) (by decide +kernel)
  have hd : (a * a + b * b) * (b * b + d * d) - (a * b + b * d) * (a * b + b * d) ≠ 0 := by
    have : (a * a + b * b) * (b * b + d * d) - (a * b + b * d) * (a * b + b * d) = (a * d - b * b) * (a * d - b * b) := by grind
    rw [this]
    exact fun e => he (by rcases Rat.mul_eq_zero.mp e with h | h <;> exact h)
  obtain ⟨SH, k, _⟩ := inv_two (p := a * a + b * b) (q := a * b + b * d) (r := b * b + d * d) (sq_ne h) hd
  refine ⟨SG, SH, red_two h he, ?_, ?_⟩
  · have e : product [[1, 0], [0, 1]] (transpose [[1, 0], [0, 1]] 2) 2 = [[(1 : Rat), 0], [0, 1]] := by decide +kernel
    show InvB 2 (product [[1, 0], [0, 1]] (transpose [[1, 0], [0, 1]] 2) 2) _ _
    rw [e]
    exact g
  · have e : product (transpose (colsAt [[a, b], [b, d]] [0, 1]) 2) (colsAt [[a, b], [b, d]] [0, 1]) 2 = [[a * a + b * b, a * b + b * d], [a * b + b * d, b * b + d * d]] := by
      show [[0 + a * a + b * b, 0 + b * a + d * b], [0 + a * b + b * d, 0 + b * b + d * d]] = _
      congr 1
      · congr 1
        · grind
        · congr 1; grind
      · congr 2
        · grind
        · congr 1; grind
    show InvB 2 (product (transpose (colsAt [[a, b], [b, d]] [0, 1]) 2) (colsAt [[a, b], [b, d]] [0, 1]) 2) _ _
    rw [e]
    exact k
theorem pbk_two1 {a b d : Rat} (h : a ≠ 0) (he : a * d - b * b = 0) : PB 2 [[a, b], [b, d]] [[1, b / a]] [0] [[a, b], [b, d], [1, b / a], zero 2]
    [[1 / (1 * 1 + b / a * (b / a))]] [[1 * 1 + b / a * (b / a), 1], [1, 1 / (1 * 1 + b / a * (b / a))]] [[1 / (a * a + b * b)]] [[a * a + b * b, 1], [1, 1 / (a * a + b * b)]] := by
  refine ⟨red_two1 h he, ?_, ?_⟩
  · have e : product [[1, b / a]] (transpose [[1, b / a]] 2) 1 = [[1 * 1 + b / a * (b / a)]] := by
      show [[0 + 1 * 1 + b / a * (b / a)]] = _
      congr 2; grind
    show InvB 1 (product [[1, b / a]] (transpose [[1, b / a]] 2) 1) _ _
    rw [e]
    exact inv_one (sq_ne (by decide))
  · have e : product (transpose (colsAt [[a, b], [b, d]] [0]) 1) (colsAt [[a, b], [b, d]] [0]) 1 = [[a * a + b * b]] := by
      show [[0 + a * a + b * b]] = _
      congr 2; grind
    show InvB 1 (product (transpose (colsAt [[a, b], [b, d]] [0]) 1) (colsAt [[a, b], [b, d]] [0]) 1) _ _
    rw [e]
    exact inv_one (sq_ne h)
end PN
end
section
set_option maxRecDepth 100000
namespace PN
/-! ### sizes of three blocks -/
def Rb (k : Nat) (M : Mat) : Prop := ∀ r ∈ M, ∀ x ∈ r, Bd k x
theorem Rb.mono {k l : Nat} {M : Mat} (h : Rb k M) (hl : k ≤ l) : Rb l M := fun r hr x hx => (h r hr x hx).mono hl
theorem bd_zeros {k n : Nat} (hk : 0 < k) : ∀ x ∈ zero n, Bd k x := fun x hx => by rw [(List.mem_replicate.mp hx).2]; exact Bd.zero hk
theorem bd_app {k : Nat} {v u : List Rat} (h : ∀ x ∈ v, Bd k x) (h' : ∀ x ∈ u, Bd k x) : ∀ x ∈ v ++ u, Bd k x := fun x hx => (List.mem_append.mp hx).elim (h x) (h' x)
section
variable {w1 w2 w3 k : Nat} {A B C : Mat}
theorem b3_rb (hk : 0 < k) (hA : Rb k A) (hB : Rb k B) (hC : Rb k C) : Rb k (b3 w1 w2 w3 A B C) := fun r hr => by
  rw [b3_eq] at hr
  rcases List.mem_append.mp hr with h | h
  · obtain ⟨a, ha, rfl⟩ := List.mem_map.mp h
    exact bd_app (hA a ha) (bd_zeros hk)
  · rcases List.mem_append.mp h with h | h
    · obtain ⟨a, ha, rfl⟩ := List.mem_map.mp h
      exact bd_app (bd_zeros hk) (bd_app (hB a ha) (bd_zeros hk))
    · obtain ⟨a, ha, rfl⟩ := List.mem_map.mp h
      exact bd_app (bd_zeros hk) (bd_app (bd_zeros hk) (hC a ha))
theorem mb_of {n W : Nat} {M : Mat} (h : Rb n M) (hw : Wd W M) (hW : W ≤ 100) (hl : M.length ≤ 100) : Mb n M := ⟨hl, fun r hr => ⟨by rw [hw r hr]; exact hW, h r hr⟩⟩
end
/-- a block, its pseudo-inverse, sizes -/
structure PBz (m : Nat) (B U : Mat) (p : List Nat) (S VG SG VH SH : Mat) : Prop where
  pb : PB m B U p S VG SG VH SH
  hm : m ≤ 2
  bB : Rb 64 B
  bU : Rb 64 U
  bS : Rb 1000 (B ++ U ++ S)
  bG : Rb 1000 (joined (product U (transpose U m) p.length) ++ List.zipWith (· ++ ·) (identity p.length) VG ++ SG)
  bH : Rb 1000 (joined (product (transpose (colsAt B p) p.length) (colsAt B p) p.length) ++ List.zipWith (· ++ ·) (identity p.length) VH ++ SH)
  bVG : Rb 200 VG
  bVH : Rb 200 VH
  bM : Rb 300 (product VG VH p.length)
  bX : Rb 600 (xB m B p VG VH)
  bP : Rb 40 (pB m B U p VG VH)
section
variable {m1 m2 m3 : Nat} {G1 G2 G3 V1 V2 V3 S1 S2 S3 : Mat}
theorem invOk_b3 (g1 : InvB m1 G1 V1 S1) (g2 : InvB m2 G2 V2 S2) (g3 : InvB m3 G3 V3 S3) (hm : m1 + (m2 + m3) ≤ 10)
    (b1 : Rb 1000 (joined G1 ++ List.zipWith (· ++ ·) (identity m1) V1 ++ S1)) (b2 : Rb 1000 (joined G2 ++ List.zipWith (· ++ ·) (identity m2) V2 ++ S2)) (b3' : Rb 1000 (joined G3 ++ List.zipWith (· ++ ·) (identity m3) V3 ++ S3)) :
    InvOk (b3 m1 m2 m3 G1 G2 G3) (m1 + (m2 + m3)) := by
  have hl : (b3 m1 m2 m3 G1 G2 G3).length = m1 + (m2 + m3) := by rw [b3_len, g1.lg, g2.lg, g3.lg]
  have hw := b3_wd g1.wg g2.wg g3.wg
  obtain ⟨a, b, c⟩ := state_inv g1 g2 g3
  have hwj := joined_wd hw hl
  have key : ∀ c', c' ≤ m1 + m2 + m3 → Mb 1000 (redState (joined (b3 m1 m2 m3 G1 G2 G3)) c').1 := fun c' hc' => by
    obtain ⟨q1, q2, _⟩ := redState_wd hwj c'
    refine mb_of (fun r hr => ?_) q1 (by omega) (by rw [q2, joined_len, hl]; omega)
    have mJ : ∀ {E : List Rat → List Rat} {m : Nat} {v : List Rat}, (∀ u : List Rat, (∀ x ∈ u, Bd 1000 x) → ∀ x ∈ E u, Bd 1000 x) → (∀ x ∈ v, Bd 1000 x) → ∀ x ∈ J E m v, Bd 1000 x := fun hE hv =>
      bd_app (hE _ fun x hx => hv x (List.mem_of_mem_take hx)) (hE _ fun x hx => hv x (List.mem_of_mem_drop hx))
    have z : ∀ n, ∀ x ∈ zero n, Bd 1000 x := fun n => bd_zeros (by decide)
    rcases c c' hc' r hr with h | ⟨v, hv, h⟩ | ⟨v, hv, h⟩ | ⟨v, hv, h⟩
    · rw [h]; exact z _
    · rw [h]; exact mJ (fun u hu => bd_app hu (z _)) (b1 v hv)
    · rw [h]; exact mJ (fun u hu => bd_app (z _) (bd_app hu (z _))) (b2 v hv)
    · rw [h]; exact mJ (fun u hu => bd_app (z _) (bd_app (z _) hu)) (b3' v hv)
  refine ⟨hl, hw, fun c' hc' => ?_⟩
  by_cases h : c' ≤ m1 + m2 + m3
  · exact key c' h
  · obtain ⟨d, rfl⟩ : ∃ d, c' = m1 + m2 + m3 + d := ⟨c' - (m1 + m2 + m3), by omega⟩
    rw [red_full (by rw [b, joined_len, hl]; omega)]
    exact key _ (Nat.le_refl _)
end
section
variable {m1 m2 m3 : Nat} {B1 B2 B3 U1 U2 U3 S1 S2 S3 VG1 VG2 VG3 VH1 VH2 VH3 SG1 SG2 SG3 SH1 SH2 SH3 : Mat} {p1 p2 p3 : List Nat}
theorem psOk_b3 (h1 : PBz m1 B1 U1 p1 S1 VG1 SG1 VH1 SH1) (h2 : PBz m2 B2 U2 p2 S2 VG2 SG2 VH2 SH2) (h3 : PBz m3 B3 U3 p3 S3 VG3 SG3 VH3 SH3) (h5 : m1 + m2 + m3 ≤ 5) :
    PsOk (b3 m1 m2 m3 B1 B2 B3) (m1 + m2 + m3) := by
  have e2 : m1 + m2 + m3 = m1 + (m2 + m3) := by omega
  have r1 := h1.pb.red
  have r2 := h2.pb.red
  have r3 := h3.pb.red
  have wB := b3_wd r1.wb r2.wb r3.wb
  have lB : (b3 m1 m2 m3 B1 B2 B3).length = m1 + (m2 + m3) := by rw [b3_len, r1.lb, r2.lb, r3.lb]
  have lp1 : p1.length ≤ m1 := by rw [r1.lu]; exact r1.lm
  have lp2 : p2.length ≤ m2 := by rw [r2.lu]; exact r2.lm
  have lp3 : p3.length ≤ m3 := by rw [r3.lu]; exact r3.lm
  have lp : (p1 ++ (p2.map (m1 + ·) ++ p3.map (m1 + m2 + ·))).length = p1.length + (p2.length + p3.length) := by simp
  have eps := psOf_b3 h1.pb h2.pb h3.pb
  obtain ⟨_, c⟩ := state_b3 r1 r2 r3
  have z : ∀ n, ∀ x ∈ zero n, Bd 1000 x := fun n => bd_zeros (by decide)
  have iG := invOk_b3 h1.pb.ig h2.pb.ig h3.pb.ig (by omega) h1.bG h2.bG h3.bG
  have iH := invOk_b3 h1.pb.ih h2.pb.ih h3.pb.ih (by omega) h1.bH h2.bH h3.bH
  refine { wd := by rw [e2]; exact wB, hl := by rw [lB]; omega, hw := h5, bm := mb_of (b3_rb (by decide) h1.bB h2.bB h3.bB) wB (by omega) (by rw [lB]; omega), red := fun c' hc' => ?_,
           bF := ?_, iG := ?_, b1 := ?_, l1 := ?_, w1 := ?_, iS := ?_, b2 := ?_, l2 := ?_, w2 := ?_, b3 := ?_, b4 := ?_ }
  · obtain ⟨q1, q2, _⟩ := redState_wd wB c'
    refine mb_of (fun r hr => ?_) q1 (by omega) (by rw [q2, lB]; omega)
    rcases c c' hc' r hr with h | ⟨v, hv, h⟩ | ⟨v, hv, h⟩ | ⟨v, hv, h⟩
    · rw [h]; exact z _
    · rw [h]; exact bd_app (h1.bS v hv) (z _)
    · rw [h]; exact bd_app (z _) (bd_app (h2.bS v hv) (z _))
    · rw [h]; exact bd_app (z _) (bd_app (z _) (h3.bS v hv))
  all_goals rw [eps]
  all_goals dsimp only
  · exact mb_of (b3_rb (by decide) h1.bU h2.bU h3.bU) (b3_wd r1.wu r2.wu r3.wu) (by omega) (by rw [b3_len, ← r1.lu, ← r2.lu, ← r3.lu]; omega)
  · rw [lp]; exact iG
  · exact mb_of (b3_rb (by decide) h1.bVG h2.bVG h3.bVG) (b3_wd h1.pb.ig.wv h2.pb.ig.wv h3.pb.ig.wv) (by omega) (by rw [b3_len, h1.pb.ig.lv, h2.pb.ig.lv, h3.pb.ig.lv]; omega)
  · rw [lp, b3_len, h1.pb.ig.lv, h2.pb.ig.lv, h3.pb.ig.lv]
  · rw [lp]; exact b3_wd h1.pb.ig.wv h2.pb.ig.wv h3.pb.ig.wv
  · rw [lp]; exact iH
  · exact mb_of (b3_rb (by decide) h1.bVH h2.bVH h3.bVH) (b3_wd h1.pb.ih.wv h2.pb.ih.wv h3.pb.ih.wv) (by omega) (by rw [b3_len, h1.pb.ih.lv, h2.pb.ih.lv, h3.pb.ih.lv]; omega)
  · rw [lp, b3_len, h1.pb.ih.lv, h2.pb.ih.lv, h3.pb.ih.lv]
  · rw [lp]; exact b3_wd h1.pb.ih.wv h2.pb.ih.wv h3.pb.ih.wv
  · exact mb_of (b3_rb (by decide) h1.bM h2.bM h3.bM) (b3_wd (product_wd _ _ _) (product_wd _ _ _) (product_wd _ _ _)) (by omega) (by rw [b3_len, product_len, product_len, product_len, h1.pb.ig.lv, h2.pb.ig.lv, h3.pb.ig.lv]; omega)
  · exact mb_of (b3_rb (by decide) h1.bX h2.bX h3.bX) (b3_wd (product_wd _ _ _) (product_wd _ _ _) (product_wd _ _ _)) (by omega) (by unfold xB; rw [b3_len, product_len, product_len, product_len, product_len, product_len, product_len, h1.pb.ig.lv, h2.pb.ig.lv, h3.pb.ig.lv]; omega)
theorem pseudo_mb (h1 : PBz m1 B1 U1 p1 S1 VG1 SG1 VH1 SH1) (h2 : PBz m2 B2 U2 p2 S2 VG2 SG2 VH2 SH2) (h3 : PBz m3 B3 U3 p3 S3 VG3 SG3 VH3 SH3) (h5 : m1 + m2 + m3 ≤ 5) :
    Mb 40 (pseudo (b3 m1 m2 m3 B1 B2 B3) (m1 + m2 + m3)) := by
  rw [pseudo_b3 h1.pb h2.pb h3.pb]
  exact mb_of (b3_rb (by decide) h1.bP h2.bP h3.bP) (b3_wd (product_wd _ _ _) (product_wd _ _ _) (product_wd _ _ _)) (by omega) (by unfold pB; rw [b3_len, product_len, product_len, product_len, transpose_len, transpose_len, transpose_len]; omega)
end
end PN
end
section
set_option maxRecDepth 100000
namespace PN
/-! ### sizes of the blocks of each kind -/
/-- a fraction of whole numbers below 2 ^ n -/
theorem bd_frac {A D : Int} {n : Nat} (hD : D ≠ 0) (h1 : A.natAbs < 2 ^ n) (h2 : D.natAbs < 2 ^ n) : Bd n ((A : Rat) / (D : Rat)) := bd_of hD (Rat.divInt_eq_div A D).symm h1 h2
/-- halves -/
def Hf (a : Rat) : Prop := ∃ A : Int, a = (A : Rat) / 2 ∧ A.natAbs < 2 ^ 12
theorem Hf.bd {a : Rat} (h : Hf a) : Bd 12 a := by
  obtain ⟨A, rfl, hA⟩ := h
  have := bd_frac (A := A) (D := 2) (n := 12) (by decide) hA (by decide)
  exact this
theorem rb1 {k : Nat} {x : Rat} (h : Bd k x) : Rb k [[x]] := fun r hr y hy => by
  rw [List.mem_singleton.mp hr] at hy; rw [List.mem_singleton.mp hy]; exact h
theorem rb_nil {k : Nat} : Rb k [] := fun r hr => by cases hr
theorem rb_cons {k : Nat} {r : List Rat} {M : Mat} (h : ∀ x ∈ r, Bd k x) (h' : Rb k M) : Rb k (r :: M) := fun y hy => by
  rcases List.mem_cons.mp hy with e | e
  · rw [e]; exact h
  · exact h' y e
theorem rb_app {k : Nat} {M N : Mat} (h : Rb k M) (h' : Rb k N) : Rb k (M ++ N) := fun r hr => (List.mem_append.mp hr).elim (h r) (h' r)
theorem vb_nil {k : Nat} : ∀ x ∈ ([] : List Rat), Bd k x := fun x hx => by cases hx
theorem vb_cons {k : Nat} {x : Rat} {r : List Rat} (h : Bd k x) (h' : ∀ y ∈ r, Bd k y) : ∀ y ∈ x :: r, Bd k y := fun y hy => by
  rcases List.mem_cons.mp hy with e | e
  · rw [e]; exact h
  · exact h' y e
theorem rb1' {k : Nat} {x y : Rat} (h : Bd k x) (h' : Bd k y) : Rb k [[x, y]] := rb_cons (vb_cons h (vb_cons h' vb_nil)) rb_nil
theorem rb2 {k : Nat} {x y z u : Rat} (h1 : Bd k x) (h2 : Bd k y) (h3 : Bd k z) (h4 : Bd k u) : Rb k [[x, y], [z, u]] := rb_cons (vb_cons h1 (vb_cons h2 vb_nil)) (rb1' h3 h4)
/-- the inverse of a number: joined rows -/
theorem rb_inv1 {g : Rat} (h : Bd 900 g) (hg : g ≠ 0) : Rb 1000 (joined [[g]] ++ List.zipWith (· ++ ·) (identity 1) [[1 / g]] ++ [[g, 1], [1, 1 / g]]) := by
  have ej : joined [[g]] = [[g, 1]] := by unfold joined; show List.zipWith _ _ (identity 1) = _; rw [id1]; rfl
  have h1 : Bd 1000 (1 : Rat) := Bd.one (by decide)
  have h2 : Bd 1000 (1 / g) := (Bd.div (n := 1) (Bd.one (by decide)) h hg).mono (by decide)
  have h3 : Bd 1000 g := h.mono (by decide)
  rw [ej, id1]
  exact rb_app (rb_app (rb1' h3 h1) (rb1' h1 h2)) (rb2 h3 h1 h1 h2)
theorem pbz_nil : PBz 0 [] [] [] [] [] [] [] [] := ⟨pb_nil, by decide, rb_nil, rb_nil, rb_nil, rb_nil, rb_nil, rb_nil, rb_nil, rb_nil, rb_nil, rb_nil⟩
theorem pbz_one0 : PBz 1 [[0]] [] [] [] [] [] [] [] := by
  have z : ∀ k, 0 < k → Rb k [[0]] := fun k hk => rb1 (Bd.zero hk)
  exact ⟨pbk_one0, by decide, z 64 (by decide), rb_nil, rb_app (rb_app (z 1000 (by decide)) rb_nil) rb_nil, rb_nil, rb_nil, rb_nil, rb_nil, rb_nil, rb_nil, z 40 (by decide)⟩
theorem pbz_two0 : PBz 2 [[0, 0], [0, 0]] [] [] [] [] [] [] [] := by
  have z : ∀ k, 0 < k → Rb k [[0, 0], [0, 0]] := fun k hk => rb2 (Bd.zero hk) (Bd.zero hk) (Bd.zero hk) (Bd.zero hk)
  exact ⟨pbk_two0, by decide, z 64 (by decide), rb_nil, rb_app (rb_app (z 1000 (by decide)) rb_nil) rb_nil, rb_nil, rb_nil, rb_nil, rb_nil, rb_nil, rb_nil, z 40 (by decide)⟩
theorem bd_e {k : Nat} {x y : Rat} (e : x = y) (h : Bd k y) : Bd k x := e ▸ h
theorem Hf.inv {a : Rat} (h : Hf a) (ha : a ≠ 0) : Bd 13 (1 / a) := by
  obtain ⟨A, rfl, hA⟩ := h
  have h0 : A ≠ 0 := fun e => ha (by rw [e]; decide +kernel)
  have e : (1 : Rat) / ((A : Rat) / 2) = ((2 : Int) : Rat) / (A : Rat) := by
    have : (A : Rat) ≠ 0 := fun z => ha (by rw [z]; decide +kernel)
    have e2 : ((2 : Int) : Rat) = 2 := rfl
    rw [e2]
    grind
  rw [e]
  exact bd_frac h0 (by decide) (Nat.lt_trans hA (by decide))
theorem pbz_one {a : Rat} (h : a ≠ 0) (hf : Hf a) : PBz 1 [[a]] [[1]] [0] [[a], [1]] [[1 / 1]] [[1, 1], [1, 1 / 1]] [[1 / (a * a)]] [[a * a, 1], [1, 1 / (a * a)]] := by
  have ba := hf.bd
  have haa : a * a ≠ 0 := by grind
  have baa : Bd 24 (a * a) := ba.mul ba
  have bi : Bd 25 (1 / (a * a)) := Bd.div (n := 1) (Bd.one (by decide)) baa haa
  have b1 : ∀ k, 0 < k → Bd k (1 : Rat) := fun k hk => Bd.one hk
  have eG : product [[1]] (transpose [[1]] 1) 1 = [[(1 : Rat)]] := by decide +kernel
  have eH : product (transpose (colsAt [[a]] [0]) 1) (colsAt [[a]] [0]) 1 = [[a * a]] := by
    show [[0 + a * a]] = [[a * a]]
    congr 2; grind
  refine ⟨pbk_one h, by decide, rb1 (ba.mono (by decide)), rb1 (b1 _ (by decide)), rb_app (rb_app (rb1 (ba.mono (by decide))) (rb1 (b1 _ (by decide)))) (rb_cons (vb_cons (ba.mono (by decide)) vb_nil) (rb1 (b1 _ (by decide)))), ?_, ?_, ?_, ?_, ?_, ?_, ?_⟩
  · show Rb 1000 (joined (product [[1]] (transpose [[1]] 1) 1) ++ _ ++ _)
    rw [eG]
    exact rb_inv1 (b1 _ (by decide)) (by decide)
  · show Rb 1000 (joined (product (transpose (colsAt [[a]] [0]) 1) (colsAt [[a]] [0]) 1) ++ _ ++ _)
    rw [eH]
    exact rb_inv1 (baa.mono (by decide)) haa
  · exact rb1 (bd_e (by grind) (b1 200 (by decide)))
  · exact rb1 (bi.mono (by decide))
  · show Rb 300 [[0 + 1 / (a * a) * (1 / 1)]]
    exact rb1 (bd_e (y := 1 / (a * a)) (by grind) (bi.mono (by decide)))
  · show Rb 600 [[0 + a * (0 + 1 / (a * a) * (1 / 1))]]
    exact rb1 (bd_e (y := 1 / a) (by grind) ((hf.inv h).mono (by decide)))
  · show Rb 40 [[0 + (0 + a * (0 + 1 / (a * a) * (1 / 1))) * 1]]
    exact rb1 (bd_e (y := 1 / a) (by grind) ((hf.inv h).mono (by decide)))
theorem pbz_two2 {d : Rat} (h : d ≠ 0) (hf : Hf d) : PBz 2 [[0, 0], [0, d]] [[0, 1]] [1] [zero 2, [0, d], [0, 1]] [[1 / 1]] [[1, 1], [1, 1 / 1]] [[1 / (d * d)]] [[d * d, 1], [1, 1 / (d * d)]] := by
  have ba := hf.bd
  have haa : d * d ≠ 0 := by grind
  have baa : Bd 24 (d * d) := ba.mul ba
  have bi : Bd 25 (1 / (d * d)) := Bd.div (n := 1) (Bd.one (by decide)) baa haa
  have b1 : ∀ k, 0 < k → Bd k (1 : Rat) := fun k hk => Bd.one hk
  have b0 : ∀ k, 0 < k → Bd k (0 : Rat) := fun k hk => Bd.zero hk
  have eG : product [[0, 1]] (transpose [[0, 1]] 2) 1 = [[(1 : Rat)]] := by decide +kernel
  have eH : product (transpose (colsAt [[0, 0], [0, d]] [1]) 1) (colsAt [[0, 0], [0, d]] [1]) 1 = [[d * d]] := by
    show [[0 + 0 * 0 + d * d]] = [[d * d]]
    congr 2; grind
  have B : ∀ k, 12 ≤ k → Rb k [[0, 0], [0, d]] := fun k hk => rb2 (b0 _ (by omega)) (b0 _ (by omega)) (b0 _ (by omega)) (ba.mono hk)
  refine ⟨pbk_two2 h, by decide, B _ (by decide), rb1' (b0 _ (by decide)) (b1 _ (by decide)), rb_app (rb_app (B _ (by decide)) (rb1' (b0 _ (by decide)) (b1 _ (by decide)))) (rb_cons (bd_zeros (by decide)) (rb2 (b0 _ (by decide)) (ba.mono (by decide)) (b0 _ (by decide)) (b1 _ (by decide)))), ?_, ?_, ?_, ?_, ?_, ?_, ?_⟩
  · show Rb 1000 (joined (product [[0, 1]] (transpose [[0, 1]] 2) 1) ++ _ ++ _)
    rw [eG]
    exact rb_inv1 (b1 _ (by decide)) (by decide)
  · show Rb 1000 (joined (product (transpose (colsAt [[0, 0], [0, d]] [1]) 1) (colsAt [[0, 0], [0, d]] [1]) 1) ++ _ ++ _)
    rw [eH]
    exact rb_inv1 (baa.mono (by decide)) haa
  · exact rb1 (bd_e (by grind) (b1 200 (by decide)))
  · exact rb1 (bi.mono (by decide))
  · show Rb 300 [[0 + 1 / (d * d) * (1 / 1)]]
    exact rb1 (bd_e (y := 1 / (d * d)) (by grind) (bi.mono (by decide)))
  · show Rb 600 [[0 + 0 * (0 + 1 / (d * d) * (1 / 1)), 0 + d * (0 + 1 / (d * d) * (1 / 1))]]
    exact rb1' (bd_e (y := 0) (by grind) (b0 _ (by decide))) (bd_e (y := 1 / d) (by grind) ((hf.inv h).mono (by decide)))
  · show Rb 40 [[0 + (0 + 0 * (0 + 1 / (d * d) * (1 / 1))) * 0, 0 + (0 + d * (0 + 1 / (d * d) * (1 / 1))) * 0], [0 + (0 + 0 * (0 + 1 / (d * d) * (1 / 1))) * 1, 0 + (0 + d * (0 + 1 / (d * d) * (1 / 1))) * 1]]
    exact rb2 (bd_e (y := 0) (by grind) (b0 _ (by decide))) (bd_e (y := 0) (by grind) (b0 _ (by decide))) (bd_e (y := 0) (by grind) (b0 _ (by decide))) (bd_e (y := 1 / d) (by grind) ((hf.inv h).mono (by decide)))
end PN
end
section
set_option maxRecDepth 100000
namespace PN
/-- the inverse of two by two: joined rows -/
theorem rb_inv2 {p q r : Rat} {S : Mat} (hp : p ≠ 0) (he : p * r - q * q ≠ 0) (bp : Bd 100 p) (bq : Bd 100 q) (br : Bd 100 r) (be : Bd 100 (p * r - q * q))
    (hS : S = [[p, q, 1, 0], [q, r, 0, 1], [1, q / p, 1 / p, 0], [0, (p * r - q * q) / p, -q / p, 1], [1, 0, r / (p * r - q * q), -q / (p * r - q * q)], [0, 1, -q / (p * r - q * q), p / (p * r - q * q)]]) :
    Rb 1000 (joined [[p, q], [q, r]] ++ List.zipWith (· ++ ·) (identity 2) [[r / (p * r - q * q), -q / (p * r - q * q)], [-q / (p * r - q * q), p / (p * r - q * q)]] ++ S) := by
  have ej : joined [[p, q], [q, r]] = [[p, q, 1, 0], [q, r, 0, 1]] := by unfold joined; show List.zipWith _ _ (identity 2) = _; rw [id2]; rfl
  have b1 : Bd 1000 (1 : Rat) := Bd.one (by decide)
  have b0 : Bd 1000 (0 : Rat) := Bd.zero (by decide)
  have v4 : ∀ {x y z u : Rat}, Bd 1000 x → Bd 1000 y → Bd 1000 z → Bd 1000 u → ∀ t ∈ [x, y, z, u], Bd 1000 t := fun h1 h2 h3 h4 => vb_cons h1 (vb_cons h2 (vb_cons h3 (vb_cons h4 vb_nil)))
  have m : ∀ {x : Rat}, Bd 100 x → Bd 1000 x := fun h => h.mono (by decide)
  have dp : ∀ {x : Rat}, Bd 100 x → Bd 1000 (x / p) := fun h => (h.div bp hp).mono (by decide)
  have de : ∀ {x : Rat}, Bd 100 x → Bd 1000 (x / (p * r - q * q)) := fun h => (h.div be he).mono (by decide)
  have h1 : Bd 100 (1 : Rat) := Bd.one (by decide)
  rw [ej, id2, hS]
  refine rb_app (rb_app (rb_cons (v4 (m bp) (m bq) b1 b0) (rb_cons (v4 (m bq) (m br) b0 b1) rb_nil)) ?_) ?_
  · exact rb_cons (v4 b1 b0 (de br) (de bq.neg)) (rb_cons (v4 b0 b1 (de bq.neg) (de bp)) rb_nil)
  · exact rb_cons (v4 (m bp) (m bq) b1 b0) (rb_cons (v4 (m bq) (m br) b0 b1) (rb_cons (v4 b1 (dp bq) (dp h1) b0) (rb_cons (v4 b0 (dp be) (dp bq.neg) b1) (rb_cons (v4 b1 b0 (de br) (de bq.neg)) (rb_cons (v4 b0 b1 (de bq.neg) (de bp)) rb_nil)))))
/-- entries of the rank one inverse -/
theorem bd_r1 {a b d x : Rat} (ha : Hf a) (hd : Hf d) (hx : Hf x) (hs : a + d ≠ 0) : Bd 30 (x / ((a + d) * (a + d))) := by
  obtain ⟨A, rfl, hA⟩ := ha
  obtain ⟨D, rfl, hD⟩ := hd
  obtain ⟨X, rfl, hX⟩ := hx
  have h0 : A + D ≠ 0 := fun e => hs (by
    have : (A : Rat) / 2 + (D : Rat) / 2 = ((A + D : Int) : Rat) / 2 := by rw [Rat.intCast_add]; grind
    rw [this, e]; decide +kernel)
  have h1 : ((A + D : Int) : Rat) ≠ 0 := fun z => h0 (by exact_mod_cast z)
  have e : (X : Rat) / 2 / (((A : Rat) / 2 + (D : Rat) / 2) * ((A : Rat) / 2 + (D : Rat) / 2)) = ((2 * X : Int) : Rat) / (((A + D) * (A + D) : Int) : Rat) := by
    rw [Rat.intCast_mul, Rat.intCast_mul]
    have e2 : ((2 : Int) : Rat) = 2 := rfl
    have e3 : (A : Rat) / 2 + (D : Rat) / 2 = ((A + D : Int) : Rat) / 2 := by rw [Rat.intCast_add]; grind
    rw [e2, e3]
    grind
  rw [e]
  refine bd_frac (Int.mul_ne_zero h0 h0) ?_ ?_
  · rw [Int.natAbs_mul]
    have : (2 : Nat) ^ 12 * 2 < 2 ^ 30 := by decide
    rw [show (2 : Int).natAbs = 2 from rfl]
    omega
  · rw [Int.natAbs_mul]
    have h2 : (A + D).natAbs < 2 ^ 13 := by have : (2 : Nat) ^ 13 = 2 * 2 ^ 12 := by decide
                                            omega
    exact Nat.lt_of_lt_of_le (mul_lt2 h2 h2) (by decide)
end PN
end
section
set_option maxRecDepth 100000
namespace PN
theorem pbz_two1 {a b d : Rat} (h : a ≠ 0) (he : a * d - b * b = 0) (hf : Hf a) (hb : Hf b) (hd : Hf d) : PBz 2 [[a, b], [b, d]] [[1, b / a]] [0] [[a, b], [b, d], [1, b / a], zero 2]
    [[1 / (1 * 1 + b / a * (b / a))]] [[1 * 1 + b / a * (b / a), 1], [1, 1 / (1 * 1 + b / a * (b / a))]] [[1 / (a * a + b * b)]] [[a * a + b * b, 1], [1, 1 / (a * a + b * b)]] := by
  have ba := hf.bd
  have bb := hb.bd
  have bd := hd.bd
  have hn : a * a + b * b ≠ 0 := sq_ne h
  have hg : 1 * 1 + b / a * (b / a) ≠ 0 := sq_ne (by decide)
  have hs : a + d ≠ 0 := fun e => hn (by have : a * a + b * b = a * (a + d) := by grind
                                         rw [this, e, Rat.mul_zero])
  have bt : Bd 24 (b / a) := bb.div ba h
  have b1 : ∀ k, 0 < k → Bd k (1 : Rat) := fun k hk => Bd.one hk
  have b0 : ∀ k, 0 < k → Bd k (0 : Rat) := fun k hk => Bd.zero hk
  have bg : Bd 51 (1 * 1 + b / a * (b / a)) := ((Bd.one (n := 1) (by decide)).mul (Bd.one (n := 1) (by decide))).add (bt.mul bt) |>.mono (by decide)
  have bn : Bd 49 (a * a + b * b) := (ba.mul ba).add (bb.mul bb)
  have big : Bd 52 (1 / (1 * 1 + b / a * (b / a))) := (Bd.div (n := 1) (Bd.one (by decide)) bg hg)
  have bin : Bd 50 (1 / (a * a + b * b)) := (Bd.div (n := 1) (Bd.one (by decide)) bn hn)
  have eG : product [[1, b / a]] (transpose [[1, b / a]] 2) 1 = [[1 * 1 + b / a * (b / a)]] := by
    show [[0 + 1 * 1 + b / a * (b / a)]] = _
    congr 2; grind
  have eH : product (transpose (colsAt [[a, b], [b, d]] [0]) 1) (colsAt [[a, b], [b, d]] [0]) 1 = [[a * a + b * b]] := by
    show [[0 + a * a + b * b]] = _
    congr 2; grind
  have em : 1 / (1 * 1 + b / a * (b / a)) * (1 / (a * a + b * b)) = a * a / ((a * a + b * b) * (a * a + b * b)) := by
    have : 1 * 1 + b / a * (b / a) = (a * a + b * b) / (a * a) := by grind
    rw [this]; grind
  have q : a * a + b * b = a * (a + d) := by grind
  have bq := bd_r1 (b := b) hf hd hf hs
  have bq2 := bd_r1 (b := b) hf hd hb hs
  have bq3 := bd_r1 (b := b) hf hd hd hs
  have f1 : a * (a * a / ((a * a + b * b) * (a * a + b * b))) = a / ((a + d) * (a + d)) := by rw [q]; grind
  have f2 : b * (a * a / ((a * a + b * b) * (a * a + b * b))) = b / ((a + d) * (a + d)) := by rw [q]; grind
  have bm : Bd 103 (1 / (1 * 1 + b / a * (b / a)) * (1 / (a * a + b * b))) := (big.mul bin).mono (by decide)
  have f3 : b / a * (b / ((a + d) * (a + d))) = d / ((a + d) * (a + d)) := by grind
  have f4 : b / a * (a / ((a + d) * (a + d))) = b / ((a + d) * (a + d)) := by grind
  refine ⟨pbk_two1 h he, by decide, rb2 (ba.mono (by decide)) (bb.mono (by decide)) (bb.mono (by decide)) (bd.mono (by decide)), rb1' (b1 _ (by decide)) (bt.mono (by decide)), ?_, ?_, ?_, rb1 (big.mono (by decide)), rb1 (bin.mono (by decide)), ?_, ?_, ?_⟩
  · exact rb_app (rb_app (rb2 (ba.mono (by decide)) (bb.mono (by decide)) (bb.mono (by decide)) (bd.mono (by decide))) (rb1' (b1 _ (by decide)) (bt.mono (by decide))))
      (rb_cons (vb_cons (ba.mono (by decide)) (vb_cons (bb.mono (by decide)) vb_nil)) (rb_cons (vb_cons (bb.mono (by decide)) (vb_cons (bd.mono (by decide)) vb_nil)) (rb_cons (vb_cons (b1 _ (by decide)) (vb_cons (bt.mono (by decide)) vb_nil)) (rb_cons (bd_zeros (by decide)) rb_nil))))
  · show Rb 1000 (joined (product [[1, b / a]] (transpose [[1, b / a]] 2) 1) ++ _ ++ _)
    rw [eG]
    exact rb_inv1 (bg.mono (by decide)) hg
  · show Rb 1000 (joined (product (transpose (colsAt [[a, b], [b, d]] [0]) 1) (colsAt [[a, b], [b, d]] [0]) 1) ++ _ ++ _)
    rw [eH]
    exact rb_inv1 (bn.mono (by decide)) hn
  · show Rb 300 [[0 + 1 / (a * a + b * b) * (1 / (1 * 1 + b / a * (b / a)))]]
    exact rb1 (bd_e (y := 1 / (1 * 1 + b / a * (b / a)) * (1 / (a * a + b * b))) (by grind) (bm.mono (by decide)))
  · show Rb 600 [[0 + a * (0 + 1 / (a * a + b * b) * (1 / (1 * 1 + b / a * (b / a)))), 0 + b * (0 + 1 / (a * a + b * b) * (1 / (1 * 1 + b / a * (b / a))))]]
    exact rb1' (bd_e (y := a * (1 / (1 * 1 + b / a * (b / a)) * (1 / (a * a + b * b)))) (by grind) ((ba.mul bm).mono (by decide))) (bd_e (y := b * (1 / (1 * 1 + b / a * (b / a)) * (1 / (a * a + b * b)))) (by grind) ((bb.mul bm).mono (by decide)))
  · have eM : 0 + 1 / (a * a + b * b) * (1 / (1 * 1 + b / a * (b / a))) = a * a / ((a * a + b * b) * (a * a + b * b)) := by rw [← em]; grind
    show Rb 40 [[0 + (0 + a * (0 + 1 / (a * a + b * b) * (1 / (1 * 1 + b / a * (b / a))))) * 1, 0 + (0 + b * (0 + 1 / (a * a + b * b) * (1 / (1 * 1 + b / a * (b / a))))) * 1],
      [0 + (0 + a * (0 + 1 / (a * a + b * b) * (1 / (1 * 1 + b / a * (b / a))))) * (b / a), 0 + (0 + b * (0 + 1 / (a * a + b * b) * (1 / (1 * 1 + b / a * (b / a))))) * (b / a)]]
    rw [eM, f1, f2]
    exact rb2 (bd_e (y := a / ((a + d) * (a + d))) (by grind) (bq.mono (by decide))) (bd_e (y := b / ((a + d) * (a + d))) (by grind) (bq2.mono (by decide)))
      (bd_e (y := b / ((a + d) * (a + d))) (by rw [← f4]; grind) (bq2.mono (by decide))) (bd_e (y := d / ((a + d) * (a + d))) (by rw [← f3]; grind) (bq3.mono (by decide)))
end PN
end
section
set_option maxRecDepth 100000
namespace PN
/-- entries of the rank two inverse -/
theorem bd_r2 {a b d x : Rat} (ha : Hf a) (hb : Hf b) (hd : Hf d) (hx : Hf x) (he : a * d - b * b ≠ 0) : Bd 30 (x / (a * d - b * b)) := by
  obtain ⟨A, rfl, hA⟩ := ha
  obtain ⟨B, rfl, hB⟩ := hb
  obtain ⟨D, rfl, hD⟩ := hd
  obtain ⟨X, rfl, hX⟩ := hx
  have e3 : (A : Rat) / 2 * ((D : Rat) / 2) - (B : Rat) / 2 * ((B : Rat) / 2) = ((A * D - B * B : Int) : Rat) / 4 := by rw [Rat.intCast_sub, Rat.intCast_mul, Rat.intCast_mul]; grind
  have h0 : A * D - B * B ≠ 0 := fun e => he (by rw [e3, e]; decide +kernel)
  have h1 : ((A * D - B * B : Int) : Rat) ≠ 0 := fun z => h0 (by exact_mod_cast z)
  have e : (X : Rat) / 2 / ((A : Rat) / 2 * ((D : Rat) / 2) - (B : Rat) / 2 * ((B : Rat) / 2)) = ((2 * X : Int) : Rat) / ((A * D - B * B : Int) : Rat) := by
    rw [e3, Rat.intCast_mul]
    have e2 : ((2 : Int) : Rat) = 2 := rfl
    rw [e2]
    grind
  rw [e]
  refine bd_frac h0 ?_ ?_
  · rw [Int.natAbs_mul]
    have : (2 : Nat) ^ 12 * 2 < 2 ^ 30 := by decide
    rw [show (2 : Int).natAbs = 2 from rfl]
    omega
  · have h2 : (A * D).natAbs < 2 ^ 24 := by rw [Int.natAbs_mul]; exact mul_lt2 hA hD
    have h3 : (B * B).natAbs < 2 ^ 24 := by rw [Int.natAbs_mul]; exact mul_lt2 hB hB
    have : (2 : Nat) ^ 24 + 2 ^ 24 < 2 ^ 30 := by decide
    omega
theorem prod22 (x y z u p q r s : Rat) : product [[x, y], [z, u]] [[p, q], [r, s]] 2 = [[0 + p * x + r * y, 0 + q * x + s * y], [0 + p * z + r * u, 0 + q * z + s * u]] := rfl
theorem rows2 {x y z u x' y' z' u' : Rat} (h1 : x = x') (h2 : y = y') (h3 : z = z') (h4 : u = u') : ([[x, y], [z, u]] : Mat) = [[x', y'], [z', u']] := by rw [h1, h2, h3, h4]
theorem pbz_two {a b d : Rat} (h : a ≠ 0) (he : a * d - b * b ≠ 0) (hf : Hf a) (hb : Hf b) (hd : Hf d) : ∃ U p S VG SG VH SH, PBz 2 [[a, b], [b, d]] U p S VG SG VH SH := by
  have ba := hf.bd
  have bb := hb.bd
  have bd := hd.bd
  have b1 : ∀ k, 0 < k → Bd k (1 : Rat) := fun k hk => Bd.one hk
  have b0 : ∀ k, 0 < k → Bd k (0 : Rat) := fun k hk => Bd.zero hk
  obtain ⟨SG, g, hSG⟩ := inv_two (p := 1) (q := 0) (r := 1) (by decide) (by decide +kernel)
  have eden : (a * a + b * b) * (b * b + d * d) - (a * b + b * d) * (a * b + b * d) = (a * d - b * b) * (a * d - b * b) := by grind
  have hden : (a * a + b * b) * (b * b + d * d) - (a * b + b * d) * (a * b + b * d) ≠ 0 := by
    rw [eden]
    exact fun e => he (by rcases Rat.mul_eq_zero.mp e with h | h <;> exact h)
  obtain ⟨SH, k, hSH⟩ := inv_two (p := a * a + b * b) (q := a * b + b * d) (r := b * b + d * d) (sq_ne h) hden
  have eG : product [[1, 0], [0, 1]] (transpose [[1, 0], [0, 1]] 2) 2 = [[(1 : Rat), 0], [0, 1]] := by decide +kernel
  have eH : product (transpose (colsAt [[a, b], [b, d]] [0, 1]) 2) (colsAt [[a, b], [b, d]] [0, 1]) 2 = [[a * a + b * b, a * b + b * d], [a * b + b * d, b * b + d * d]] := by
    show [[0 + a * a + b * b, 0 + b * a + d * b], [0 + a * b + b * d, 0 + b * b + d * d]] = _
    exact rows2 (by grind) (by grind) (by grind) (by grind)
  have bp : Bd 49 (a * a + b * b) := (ba.mul ba).add (bb.mul bb)
  have bq : Bd 49 (a * b + b * d) := (ba.mul bb).add (bb.mul bd)
  have br : Bd 49 (b * b + d * d) := (bb.mul bb).add (bd.mul bd)
  have be1 : Bd 49 (a * d - b * b) := (ba.mul bd).sub (bb.mul bb)
  have be : Bd 98 ((a * a + b * b) * (b * b + d * d) - (a * b + b * d) * (a * b + b * d)) := by rw [eden]; exact be1.mul be1
  have v : ∀ {x : Rat}, Bd 49 x → Bd 147 (x / ((a * a + b * b) * (b * b + d * d) - (a * b + b * d) * (a * b + b * d))) := fun hx => hx.div be hden
  have bt : Bd 24 (b / a) := bb.div ba h
  have bea : Bd 61 ((a * d - b * b) / a) := be1.div ba h
  have z1 : (1 : Rat) / (1 * 1 - 0 * 0) = 1 := by decide +kernel
  have z0 : (-0 : Rat) / (1 * 1 - 0 * 0) = 0 := by decide +kernel
  have bB : ∀ k, 12 ≤ k → Rb k [[a, b], [b, d]] := fun k hk => rb2 (ba.mono hk) (bb.mono hk) (bb.mono hk) (bd.mono hk)
  have bI : ∀ k, 0 < k → Rb k [[1, 0], [0, 1]] := fun k hk => rb2 (b1 _ hk) (b0 _ hk) (b0 _ hk) (b1 _ hk)
  have eM : product [[1 / (1 * 1 - 0 * 0), -0 / (1 * 1 - 0 * 0)], [-0 / (1 * 1 - 0 * 0), 1 / (1 * 1 - 0 * 0)]]
      [[(b * b + d * d) / ((a * a + b * b) * (b * b + d * d) - (a * b + b * d) * (a * b + b * d)), -(a * b + b * d) / ((a * a + b * b) * (b * b + d * d) - (a * b + b * d) * (a * b + b * d))],
       [-(a * b + b * d) / ((a * a + b * b) * (b * b + d * d) - (a * b + b * d) * (a * b + b * d)), (a * a + b * b) / ((a * a + b * b) * (b * b + d * d) - (a * b + b * d) * (a * b + b * d))]] 2 =
      [[(b * b + d * d) / ((a * a + b * b) * (b * b + d * d) - (a * b + b * d) * (a * b + b * d)), -(a * b + b * d) / ((a * a + b * b) * (b * b + d * d) - (a * b + b * d) * (a * b + b * d))],
       [-(a * b + b * d) / ((a * a + b * b) * (b * b + d * d) - (a * b + b * d) * (a * b + b * d)), (a * a + b * b) / ((a * a + b * b) * (b * b + d * d) - (a * b + b * d) * (a * b + b * d))]] := by
    rw [z1, z0, prod22]
    exact rows2 (by grind) (by grind) (by grind) (by grind)
  have eX : product [[(b * b + d * d) / ((a * a + b * b) * (b * b + d * d) - (a * b + b * d) * (a * b + b * d)), -(a * b + b * d) / ((a * a + b * b) * (b * b + d * d) - (a * b + b * d) * (a * b + b * d))],
       [-(a * b + b * d) / ((a * a + b * b) * (b * b + d * d) - (a * b + b * d) * (a * b + b * d)), (a * a + b * b) / ((a * a + b * b) * (b * b + d * d) - (a * b + b * d) * (a * b + b * d))]] [[a, b], [b, d]] 2 =
      [[d / (a * d - b * b), -b / (a * d - b * b)], [-b / (a * d - b * b), a / (a * d - b * b)]] := by
    rw [prod22, eden]
    exact rows2 (by grind) (by grind) (by grind) (by grind)
  have bx := bd_r2 hf hb hd hd he
  have bx2 : Bd 30 (-b / (a * d - b * b)) := by
    have := (bd_r2 hf hb hd hb he).neg
    exact bd_e (by grind) this
  have bx3 := bd_r2 hf hb hd hf he
  have bXX : ∀ k, 30 ≤ k → Rb k [[d / (a * d - b * b), -b / (a * d - b * b)], [-b / (a * d - b * b), a / (a * d - b * b)]] := fun k hk => rb2 (bx.mono hk) (bx2.mono hk) (bx2.mono hk) (bx3.mono hk)
  refine ⟨[[1, 0], [0, 1]], [0, 1], [[a, b], [b, d], [1, b / a], [0, (a * d - b * b) / a], [1, 0], [0, 1]], [[1 / (1 * 1 - 0 * 0), -0 / (1 * 1 - 0 * 0)], [-0 / (1 * 1 - 0 * 0), 1 / (1 * 1 - 0 * 0)]], SG, [[(b * b + d * d) / ((a * a + b * b) * (b * b + d * d) - (a * b + b * d) * (a * b + b * d)), -(a * b + b * d) / ((a * a + b * b) * (b * b + d * d) - (a * b + b * d) * (a * b + b * d))], [-(a * b + b * d) / ((a * a + b * b) * (b * b + d * d) - (a * b + b * d) * (a * b + b * d)), (a * a + b * b) / ((a * a + b * b) * (b * b + d * d) - (a * b + b * d) * (a * b + b * d))]], SH, ⟨red_two h he, ?_, ?_⟩, by decide, bB _ (by decide), bI _ (by decide), ?_, ?_, ?_, ?_, ?_, ?_, ?_, ?_⟩
  · show InvB 2 (product [[1, 0], [0, 1]] (transpose [[1, 0], [0, 1]] 2) 2) _ _
    rw [eG]
    exact g
  · show InvB 2 (product (transpose (colsAt [[a, b], [b, d]] [0, 1]) 2) (colsAt [[a, b], [b, d]] [0, 1]) 2) _ _
    rw [eH]
    exact k
  · exact rb_app (rb_app (bB _ (by decide)) (bI _ (by decide))) (rb_cons (vb_cons (ba.mono (by decide)) (vb_cons (bb.mono (by decide)) vb_nil)) (rb_cons (vb_cons (bb.mono (by decide)) (vb_cons (bd.mono (by decide)) vb_nil))
      (rb_cons (vb_cons (b1 _ (by decide)) (vb_cons (bt.mono (by decide)) vb_nil)) (rb_cons (vb_cons (b0 _ (by decide)) (vb_cons (bea.mono (by decide)) vb_nil)) (bI _ (by decide))))))
  · show Rb 1000 (joined (product [[1, 0], [0, 1]] (transpose [[1, 0], [0, 1]] 2) 2) ++ _ ++ _)
    rw [eG]
    exact rb_inv2 (p := 1) (q := 0) (r := 1) (by decide) (by decide +kernel) (b1 _ (by decide)) (b0 _ (by decide)) (b1 _ (by decide)) (by rw [show (1 : Rat) * 1 - 0 * 0 = 1 by decide +kernel]; exact b1 _ (by decide)) hSG
  · show Rb 1000 (joined (product (transpose (colsAt [[a, b], [b, d]] [0, 1]) 2) (colsAt [[a, b], [b, d]] [0, 1]) 2) ++ _ ++ _)
    rw [eH]
    exact rb_inv2 (sq_ne h) hden (bp.mono (by decide)) (bq.mono (by decide)) (br.mono (by decide)) (be.mono (by decide)) hSH
  · rw [z1, z0]; exact bI _ (by decide)
  · exact rb2 ((v br).mono (by decide)) ((v bq.neg).mono (by decide)) ((v bq.neg).mono (by decide)) ((v bp).mono (by decide))
  · show Rb 300 (product _ _ 2)
    rw [eM]
    exact rb2 ((v br).mono (by decide)) ((v bq.neg).mono (by decide)) ((v bq.neg).mono (by decide)) ((v bp).mono (by decide))
  · show Rb 600 (product (product _ _ 2) [[a, b], [b, d]] 2)
    rw [eM, eX]
    exact bXX _ (by decide)
  · show Rb 40 (product [[1, 0], [0, 1]] (product (product _ _ 2) [[a, b], [b, d]] 2) 2)
    rw [eM, eX, prod22]
    exact rb2 (bd_e (y := d / (a * d - b * b)) (by grind) (bx.mono (by decide))) (bd_e (y := -b / (a * d - b * b)) (by grind) (bx2.mono (by decide))) (bd_e (y := -b / (a * d - b * b)) (by grind) (bx2.mono (by decide))) (bd_e (y := a / (a * d - b * b)) (by grind) (bx3.mono (by decide)))
end PN
end
section
set_option maxRecDepth 100000
namespace PN
open PySem
/-! ### the sums of a book, by names -/
def sm (f : RdD → Rat) : List RdD → Rat
  | [] => 0
  | d :: r => f d + sm f r
theorem sm_app (f : RdD → Rat) : ∀ a b, sm f (a ++ b) = sm f a + sm f b
  | [], b => by show sm f b = 0 + sm f b; grind
  | d :: a, b => by
    show f d + sm f (a ++ b) = f d + sm f a + sm f b
    rw [sm_app f a b]; grind
theorem sm_zero {f : RdD → Rat} : ∀ {l : List RdD}, (∀ d ∈ l, f d = 0) → sm f l = 0
  | [], _ => rfl
  | d :: r, h => by
    show f d + sm f r = 0
    rw [h d List.mem_cons_self, sm_zero fun x hx => h x (List.mem_cons_of_mem _ hx)]; grind
def cq (d : RdD) (x : Str) : Rat := ((coefOf d.terms x : Int) : Rat)
def nE (rds : List RdD) (x y : Str) : Rat := sm (fun d => d.weight * (cq d x * cq d y)) rds
def rE (rds : List RdD) (x : Str) : Rat := sm (fun d => d.weight * d.value * cq d x) rds
def cE (rds : List RdD) : Rat := sm (fun d => d.weight * d.value * d.value) rds
/-- a matrix by names -/
def MF (xs ys : List Str) (e : Str → Str → Rat) : Mat := xs.map fun x => ys.map (e x)
theorem zip_self {α β γ δ : Type} (f : β → γ → δ) (g : α → β) (h : α → γ) : ∀ l : List α, List.zipWith f (l.map g) (l.map h) = l.map fun a => f (g a) (h a)
  | [] => rfl
  | a :: l => by
    show f (g a) (h a) :: List.zipWith f (l.map g) (l.map h) = _
    rw [zip_self f g h l]; rfl
theorem plus_map {α : Type} (f g : α → Rat) (l : List α) : plus (l.map f) (l.map g) = l.map fun a => f a + g a := zip_self _ f g l
theorem minus_map {α : Type} (f g : α → Rat) (l : List α) : minus (l.map f) (l.map g) = l.map fun a => f a - g a := zip_self _ f g l
theorem sum_MF (xs ys : List Str) (e f : Str → Str → Rat) : sumOf (MF xs ys e) (MF xs ys f) = MF xs ys fun x y => e x y + f x y := by
  unfold sumOf MF
  rw [zip_self]
  exact List.map_congr_left fun x _ => plus_map _ _ _
theorem scaled_MF (xs ys : List Str) (k : Rat) (e : Str → Str → Rat) : scaled k (MF xs ys e) = MF xs ys fun x y => k * e x y := by
  unfold scaled MF
  rw [List.map_map]
  refine List.map_congr_left fun x _ => ?_
  show (ys.map (e x)).map (k * ·) = _
  rw [List.map_map]; rfl
theorem outer_MF (xs : List Str) (c : Str → Rat) : outer (xs.map c) (xs.map c) = MF xs xs fun x y => c x * c y := by
  unfold outer MF
  rw [List.map_map]
  refine List.map_congr_left fun x _ => ?_
  show (xs.map c).map (c x * ·) = _
  rw [List.map_map]; rfl
theorem stepS_MF (pts : List Str) (e : Str → Str → Rat) (f : Str → Rat) (c : Rat) (d : RdD) :
    stepS ⟨MF pts pts e, pts.map f, c⟩ (rowL pts d) d.weight d.value = ⟨MF pts pts fun x y => e x y + d.weight * (cq d x * cq d y), pts.map fun x => f x + d.weight * d.value * cq d x, c + d.weight * d.value * d.value⟩ := by
  have er : rowL pts d = pts.map (cq d) := rfl
  unfold stepS addTerm
  rw [er, outer_MF, scaled_MF, sum_MF]
  congr 1
  show plus (pts.map f) ((pts.map (cq d)).map _) = _
  rw [List.map_map, plus_map]; rfl
theorem fold_MF (pts : List Str) : ∀ (rds : List RdD) (e : Str → Str → Rat) (f : Str → Rat) (c : Rat),
    (rds.map (rn pts)).foldl (fun s r => stepS s r.row r.w r.v) ⟨MF pts pts e, pts.map f, c⟩ = ⟨MF pts pts fun x y => e x y + nE rds x y, pts.map fun x => f x + rE rds x, c + cE rds⟩
  | [], e, f, c => by
    show (⟨MF pts pts e, pts.map f, c⟩ : Sums) = _
    have h1 : (fun x y => e x y + nE [] x y) = e := by funext x y; show e x y + 0 = _; grind
    have h2 : (fun x => f x + rE [] x) = f := by funext x; show f x + 0 = _; grind
    have h3 : c + cE [] = c := by show c + 0 = _; grind
    rw [h1, h2, h3]
  | d :: r, e, f, c => by
    rw [List.map_cons, List.foldl_cons]
    show List.foldl _ (stepS ⟨MF pts pts e, pts.map f, c⟩ (rowL pts d) d.weight d.value) _ = _
    rw [stepS_MF, fold_MF pts r]
    have h1 : (fun x y => e x y + d.weight * (cq d x * cq d y) + nE r x y) = (fun x y => e x y + nE (d :: r) x y) := by
      funext x y; show _ = e x y + (d.weight * (cq d x * cq d y) + nE r x y); grind
    have h2 : (fun x => f x + d.weight * d.value * cq d x + rE r x) = (fun x => f x + rE (d :: r) x) := by
      funext x; show _ = f x + (d.weight * d.value * cq d x + rE r x); grind
    have h3 : c + d.weight * d.value * d.value + cE r = c + cE (d :: r) := by show _ = c + (d.weight * d.value * d.value + cE r); grind
    rw [h1, h2, h3]
theorem sumB_eq (pts : List Str) (rds : List RdD) : sumB pts rds = ⟨MF pts pts (nE rds), pts.map (rE rds), cE rds⟩ := by
  unfold sumB sumsOf
  have h0 : (⟨zeros pts.length pts.length, zero pts.length, 0⟩ : Sums) = ⟨MF pts pts fun _ _ => 0, pts.map fun _ => 0, 0⟩ := by
    have e1 : pts.map (fun _ => (0 : Rat)) = zero pts.length := map_zero pts
    have e2 : MF pts pts (fun _ _ => 0) = zeros pts.length pts.length := by
      unfold MF zeros
      show (pts.map fun _ => pts.map fun _ => (0 : Rat)) = _
      rw [e1, List.map_const']
    rw [e1, e2]
  rw [h0, fold_MF]
  have h1 : (fun x y => 0 + nE rds x y) = nE rds := by funext x y; grind
  have h2 : (fun x => 0 + rE rds x) = rE rds := by funext x; grind
  have h3 : 0 + cE rds = cE rds := by grind
  rw [h1, h2, h3]
/-! ### places and names -/
theorem gt_map {pts : List Str} {f : Str → Rat} {i : Nat} (h : i < pts.length) : gt (pts.map f) i = f (pts.getD i "") := by
  unfold gt
  rw [List.getD_eq_getElem?_getD, List.getD_eq_getElem?_getD, List.getElem?_map, List.getElem?_eq_getElem h]; rfl
theorem row_map {pts : List Str} {f : Str → List Rat} {i : Nat} (h : i < pts.length) : (pts.map f).getD i [] = f (pts.getD i "") := by
  rw [List.getD_eq_getElem?_getD, List.getD_eq_getElem?_getD, List.getElem?_map, List.getElem?_eq_getElem h]; rfl
abbrev at_ (pts : List Str) (rs : List Nat) : List Str := rs.map fun i => pts.getD i ""
theorem block_MF {pts : List Str} {e : Str → Str → Rat} {rs cs : List Nat} (hr : ∀ r ∈ rs, r < pts.length) (hc : ∀ c ∈ cs, c < pts.length) : blockM (MF pts pts e) rs cs = MF (at_ pts rs) (at_ pts cs) e := by
  unfold blockM
  unfold MF at_
  rw [List.map_map]
  refine List.map_congr_left fun r h => ?_
  show cs.map (fun c => gt ((pts.map fun x => pts.map (e x)).getD r []) c) = (cs.map _).map _
  rw [List.map_map, row_map (hr r h)]
  exact List.map_congr_left fun c h' => gt_map (hc c h')
theorem pick_map {pts : List Str} {f : Str → Rat} {rs : List Nat} (hr : ∀ r ∈ rs, r < pts.length) : pickV (pts.map f) rs = (at_ pts rs).map f := by
  unfold pickV at_
  rw [List.map_map]
  exact List.map_congr_left fun r h => gt_map (hr r h)
theorem at_outer {pts ns : List Str} (h : ∀ n ∈ ns, n ∈ pts) : at_ pts (outerOf pts ns) = ns := by
  unfold at_ outerOf
  rw [List.map_map]
  conv => rhs; rw [← List.map_id ns]
  refine List.map_congr_left fun n hn => ?_
  show pts.getD (pts.idxOf n) "" = n
  have hl := List.idxOf_lt_length_of_mem (h n hn)
  rw [List.getD_eq_getElem?_getD, List.getElem?_eq_getElem hl]
  exact List.getElem_idxOf hl
theorem at_inner (pts ns : List Str) : at_ pts (innerOf pts ns) = pts.filter fun n => decide (n ∉ ns) := by
  have e : innerOf pts ns = (List.range pts.length).filter fun i => decide (pts.getD i "" ∉ ns) := by
    unfold innerOf
    generalize List.range pts.length = l
    induction l with
    | nil => rfl
    | cons i l ih =>
      rw [List.filterMap_cons, List.filter_cons, ih]
      by_cases h : pts.getD i "" ∈ ns
      · rw [if_pos h, if_neg (by rw [decide_eq_true_eq]; exact fun z => z h)]
      · rw [if_neg h, if_pos (by rw [decide_eq_true_eq]; exact h)]
  have e2 : pts = (List.range pts.length).map fun i => pts.getD i "" := (list_eta pts "" rfl).symm
  rw [e]
  unfold at_
  conv => rhs; rw [e2, List.filter_map]
  rfl
end PN
end
section
set_option maxRecDepth 100000
namespace PN
open PySem
/-! ### the form of a book, by names -/
/-- a form by names -/
def FF (ns : List Str) (e : Str → Str → Rat) (f : Str → Rat) (c : Rat) : FormD := ⟨ns, MF ns ns e, ns.map f, c⟩
theorem join_FF (ns : List Str) (e e' : Str → Str → Rat) (f f' : Str → Rat) (c c' : Rat) : joinOf (FF ns e f c) (FF ns e' f' c') = FF ns (fun x y => e x y + e' x y) (fun x => f x + f' x) (c + c') := by
  unfold joinOf FF
  dsimp only
  rw [sum_MF, plus_map]
theorem FF_congr {ns : List Str} {e e' : Str → Str → Rat} {f f' : Str → Rat} {c c' : Rat} (h1 : ∀ x ∈ ns, ∀ y ∈ ns, e x y = e' x y) (h2 : ∀ x ∈ ns, f x = f' x) (h3 : c = c') : FF ns e f c = FF ns e' f' c' := by
  unfold FF MF
  rw [h3, List.map_congr_left h2]
  congr 1
  exact List.map_congr_left fun x hx => List.map_congr_left fun y hy => h1 x hx y hy
/-! ### what a block of inner points takes away -/
def al (rds : List RdD) (own : List Str) (x : Str) : List Rat := own.map (nE rds x)
def qm (m : Nat) (P : Mat) (u v : List Rat) : Rat := dot v (apply (transpose P m) u)
def eF (rds : List RdD) (own : List Str) (P : Mat) (x y : Str) : Rat := nE rds x y + -1 * qm own.length P (al rds own x) (al rds own y)
def fF (rds : List RdD) (own : List Str) (P : Mat) (x : Str) : Rat := rE rds x - dot (al rds own x) (apply P (own.map (rE rds)))
def cF' (rds : List RdD) (own : List Str) (P : Mat) : Rat := cE rds - dot (own.map (rE rds)) (apply P (own.map (rE rds)))
def bG (rds : List RdD) (own : List Str) : Mat := MF own own (nE rds)
def bP' (rds : List RdD) (own : List Str) : Mat := pseudo (bG rds own) own.length
theorem col_transpose {M : Mat} {m i : Nat} (hw : Wd m M) (hi : i < M.length) : col (transpose M m) i = M.getD i [] := by
  have hl := hw _ (rowD_mem hi)
  unfold col transpose
  rw [List.map_map]
  refine Eq.trans ?_ (list_eta (M.getD i []) 0 hl)
  refine List.map_congr_left fun c hc => ?_
  show (M.map (·.getD c 0)).getD i 0 = _
  rw [List.getD_eq_getElem?_getD, List.getElem?_map, getD_mem hi]; rfl
theorem transpose_transpose {M : Mat} {m n : Nat} (hw : Wd m M) (hn : M.length = n) : transpose (transpose M m) n = M := by
  subst hn
  refine Eq.trans ?_ (list_eta M [] rfl)
  exact List.map_congr_left fun i hi => col_transpose hw (List.mem_range.mp hi)
theorem borderOf_eq {pts ns own : List Str} {rds : List RdD} (hs : ∀ n ∈ ns, n ∈ pts) (ho : pts.filter (fun n => decide (n ∉ ns)) = own) :
    borderOf pts rds ns = FF ns (eF rds own (bP' rds own)) (fF rds own (bP' rds own)) (cF' rds own (bP' rds own)) := by
  have ei := at_inner pts ns
  rw [ho] at ei
  have eo := at_outer hs
  have li : (innerOf pts ns).length = own.length := by rw [← ei]; unfold at_; rw [List.length_map]
  have hi := inner_lt (pts := pts) (ns := ns)
  have hq := outer_lt hs
  unfold borderOf
  rw [sumB_eq]
  dsimp only
  rw [block_MF hi hi, block_MF hq hi, block_MF hq hq, pick_map hi, pick_map hq, ei, eo, li]
  show (⟨ns, sumOf (MF ns ns (nE rds)) (scaled (-1) (product (product (MF ns own (nE rds)) (bP' rds own) own.length) (transpose (MF ns own (nE rds)) own.length) ns.length)), minus (ns.map (rE rds)) (apply (MF ns own (nE rds)) (apply (bP' rds own) (own.map (rE rds)))), cE rds - dot (own.map (rE rds)) (apply (bP' rds own) (own.map (rE rds)))⟩ : FormD) = _
  generalize bP' rds own = P
  have hw : Wd own.length (MF ns own (nE rds)) := fun r hr => by
    obtain ⟨x, _, rfl⟩ := List.mem_map.mp hr
    exact List.length_map ..
  have hl : (MF ns own (nE rds)).length = ns.length := List.length_map ..
  have ht : product (product (MF ns own (nE rds)) P own.length) (transpose (MF ns own (nE rds)) own.length) ns.length = MF ns ns fun x y => qm own.length P (al rds own x) (al rds own y) := by
    unfold product
    rw [transpose_transpose hw hl]
    unfold MF
    rw [List.map_map, List.map_map]
    refine List.map_congr_left fun x _ => ?_
    show (ns.map fun x => own.map (nE rds x)).map (dot · (apply (transpose P own.length) (own.map (nE rds x)))) = _
    rw [List.map_map]
    refine List.map_congr_left fun y _ => ?_
    rfl
  have ha : apply (MF ns own (nE rds)) (apply P (own.map (rE rds))) = ns.map fun x => dot (al rds own x) (apply P (own.map (rE rds))) := by
    unfold apply MF
    rw [List.map_map]
    rfl
  rw [ht, ha, scaled_MF, sum_MF, minus_map]
  rfl
/-! ### three blocks -/
theorem apply_b3 {m1 m2 m3 : Nat} {A B C : Mat} {x y z : List Rat} (hA : Wd m1 A) (hB : Wd m2 B) (hx : x.length = m1) (hy : y.length = m2) :
    apply (b3 m1 m2 m3 A B C) (x ++ (y ++ z)) = apply A x ++ (apply B y ++ apply C z) := by
  have key : ∀ {w v : Nat} {A B : Mat} {x y : List Rat}, Wd w A → x.length = w → apply (ds w v A B) (x ++ y) = apply A x ++ apply B y := fun {w v A B x y} hA hx => by
    unfold apply ds
    rw [List.map_append, List.map_map, List.map_map]
    congr 1
    · refine List.map_congr_left fun a ha => ?_
      show dot (a ++ zero v) (x ++ y) = dot a x
      rw [dot_app _ _ (by rw [hA a ha, hx]), dot_zero_left]; grind
    · refine List.map_congr_left fun b hb => ?_
      show dot (zero w ++ b) (x ++ y) = dot b y
      rw [dot_app _ _ (by rw [zero_len, hx]), dot_zero_left]; grind
  unfold b3
  rw [key hA hx, key hB hy]
theorem dot_b3 {x y z x' y' z' : List Rat} (hx : x.length = x'.length) (hy : y.length = y'.length) : dot (x ++ (y ++ z)) (x' ++ (y' ++ z')) = dot x x' + dot y y' + dot z z' := by
  rw [dot_app _ _ hx, dot_app _ _ hy]; grind
theorem qm_b3 {m1 m2 m3 : Nat} {A B C : Mat} {x y z x' y' z' : List Rat} (hA : Wd m1 A) (hB : Wd m2 B) (lA : A.length = m1) (lB : B.length = m2) (lC : C.length = m3)
    (hx : x.length = m1) (hy : y.length = m2) (hx' : x'.length = m1) (hy' : y'.length = m2) :
    qm (m1 + (m2 + m3)) (b3 m1 m2 m3 A B C) (x ++ (y ++ z)) (x' ++ (y' ++ z')) = qm m1 A x x' + qm m2 B y y' + qm m3 C z z' := by
  unfold qm
  have w1 := transpose_wd A m1
  have w2 := transpose_wd B m2
  rw [lA] at w1
  rw [lB] at w2
  rw [transpose_b3 hA hB, lA, lB, lC, apply_b3 w1 w2 hx hy, dot_b3 (by rw [apply_len, transpose_len, hx']) (by rw [apply_len, transpose_len, hy'])]
/-! ### readings that do not name a point -/
def Aw (rds : List RdD) (own : List Str) : Prop := ∀ d ∈ rds, ∀ x ∈ own, coefOf d.terms x = 0
theorem Aw.cq {rds : List RdD} {own : List Str} (h : Aw rds own) {d : RdD} (hd : d ∈ rds) {x : Str} (hx : x ∈ own) : cq d x = 0 := by
  unfold PN.cq; rw [h d hd x hx]; rfl
theorem Aw.nl {rds : List RdD} {own : List Str} (h : Aw rds own) {x : Str} (hx : x ∈ own) (y : Str) : nE rds x y = 0 := sm_zero fun d hd => by
  rw [h.cq hd hx]; grind
theorem Aw.nr {rds : List RdD} {own : List Str} (h : Aw rds own) {y : Str} (hy : y ∈ own) (x : Str) : nE rds x y = 0 := sm_zero fun d hd => by
  rw [h.cq hd hy]; grind
theorem Aw.r {rds : List RdD} {own : List Str} (h : Aw rds own) {x : Str} (hx : x ∈ own) : rE rds x = 0 := sm_zero fun d hd => by
  rw [h.cq hd hx]; grind
theorem nE_3 (a b c : List RdD) (x y : Str) : nE (a ++ (b ++ c)) x y = nE a x y + nE b x y + nE c x y := by
  unfold nE; rw [sm_app, sm_app]; grind
theorem rE_3 (a b c : List RdD) (x : Str) : rE (a ++ (b ++ c)) x = rE a x + rE b x + rE c x := by
  unfold rE; rw [sm_app, sm_app]; grind
theorem cE_3 (a b c : List RdD) : cE (a ++ (b ++ c)) = cE a + cE b + cE c := by
  unfold cE; rw [sm_app, sm_app]; grind
structure Apart (R1 R2 R3 : List RdD) (o1 o2 o3 : List Str) : Prop where
  h12 : Aw R1 o2
  h13 : Aw R1 o3
  h21 : Aw R2 o1
  h23 : Aw R2 o3
  h31 : Aw R3 o1
  h32 : Aw R3 o2
section
variable {R1 R2 R3 : List RdD} {o1 o2 o3 : List Str}
theorem al_3 (h : Apart R1 R2 R3 o1 o2 o3) (x : Str) : al (R1 ++ (R2 ++ R3)) (o1 ++ (o2 ++ o3)) x = al R1 o1 x ++ (al R2 o2 x ++ al R3 o3 x) := by
  unfold al
  rw [List.map_append, List.map_append]
  congr 1
  · exact List.map_congr_left fun y hy => by rw [nE_3, h.h21.nr hy, h.h31.nr hy]; grind
  · congr 1
    · exact List.map_congr_left fun y hy => by rw [nE_3, h.h12.nr hy, h.h32.nr hy]; grind
    · exact List.map_congr_left fun y hy => by rw [nE_3, h.h13.nr hy, h.h23.nr hy]; grind
theorem ro_3 (h : Apart R1 R2 R3 o1 o2 o3) : (o1 ++ (o2 ++ o3)).map (rE (R1 ++ (R2 ++ R3))) = o1.map (rE R1) ++ (o2.map (rE R2) ++ o3.map (rE R3)) := by
  rw [List.map_append, List.map_append]
  congr 1
  · exact List.map_congr_left fun y hy => by rw [rE_3, h.h21.r hy, h.h31.r hy]; grind
  · congr 1
    · exact List.map_congr_left fun y hy => by rw [rE_3, h.h12.r hy, h.h32.r hy]; grind
    · exact List.map_congr_left fun y hy => by rw [rE_3, h.h13.r hy, h.h23.r hy]; grind
theorem map_zero' {f : Str → Rat} {l : List Str} (h : ∀ x ∈ l, f x = 0) : l.map f = zero l.length := by
  rw [← map_zero l]; exact List.map_congr_left h
theorem bG_3 (h : Apart R1 R2 R3 o1 o2 o3) : bG (R1 ++ (R2 ++ R3)) (o1 ++ (o2 ++ o3)) = b3 o1.length o2.length o3.length (bG R1 o1) (bG R2 o2) (bG R3 o3) := by
  rw [b3_eq]
  unfold bG MF
  rw [List.map_append, List.map_append, List.map_map, List.map_map, List.map_map]
  have hA : ∀ x, (o1 ++ (o2 ++ o3)).map (nE (R1 ++ (R2 ++ R3)) x) = o1.map (nE R1 x) ++ (o2.map (nE R2 x) ++ o3.map (nE R3 x)) := fun x => al_3 h x
  congr 1
  · refine List.map_congr_left fun x hx => ?_
    show (o1 ++ (o2 ++ o3)).map _ = o1.map (nE R1 x) ++ _
    rw [hA, map_zero' (l := o2) fun y _ => h.h21.nl hx y, map_zero' (l := o3) fun y _ => h.h31.nl hx y, zero_add]
  · congr 1
    · refine List.map_congr_left fun x hx => ?_
      show (o1 ++ (o2 ++ o3)).map _ = _ ++ (o2.map (nE R2 x) ++ _)
      rw [hA, map_zero' (l := o1) fun y _ => h.h12.nl hx y, map_zero' (l := o3) fun y _ => h.h32.nl hx y]
    · refine List.map_congr_left fun x hx => ?_
      show (o1 ++ (o2 ++ o3)).map _ = _ ++ (_ ++ o3.map (nE R3 x))
      rw [hA, map_zero' (l := o1) fun y _ => h.h13.nl hx y, map_zero' (l := o2) fun y _ => h.h23.nl hx y]
end
end PN
end
section
set_option maxRecDepth 100000
namespace PN
open PySem
/-! ### blocks of inner points -/
theorem sm_nn {f : RdD → Rat} : ∀ {l : List RdD}, (∀ d ∈ l, 0 ≤ f d) → 0 ≤ sm f l
  | [], _ => Rat.le_refl
  | d :: r, h => by
    have h1 := h d List.mem_cons_self
    have h2 := sm_nn (l := r) fun x hx => h x (List.mem_cons_of_mem _ hx)
    show 0 ≤ f d + sm f r
    grind
theorem sm_eq0 {f : RdD → Rat} : ∀ {l : List RdD}, (∀ d ∈ l, 0 ≤ f d) → sm f l = 0 → ∀ d ∈ l, f d = 0
  | [], _, _, _, hd => by cases hd
  | d :: r, h, e, x, hx => by
    have h1 := h d List.mem_cons_self
    have h2 := sm_nn (l := r) fun x hx => h x (List.mem_cons_of_mem _ hx)
    have e' : f d + sm f r = 0 := e
    rcases List.mem_cons.mp hx with rfl | hx
    · grind
    · exact sm_eq0 (l := r) (fun x hx => h x (List.mem_cons_of_mem _ hx)) (by grind) x hx
theorem nE_comm (R : List RdD) (x y : Str) : nE R x y = nE R y x := by
  unfold nE
  congr 1
  funext d
  grind
theorem nE_gram {R : List RdD} (hw : ∀ d ∈ R, 0 < d.weight) {x : Str} (h : nE R x x = 0) (y : Str) : nE R x y = 0 := by
  have h0 := sm_eq0 (l := R) (f := fun d => d.weight * (cq d x * cq d x)) (fun d hd => Rat.mul_nonneg (Rat.le_of_lt (hw d hd)) (sq_nn _)) h
  refine sm_zero fun d hd => ?_
  have h1 := h0 d hd
  have hwd := hw d hd
  have h2 : cq d x = 0 := by
    rcases Rat.mul_eq_zero.mp h1 with e | e
    · rw [e] at hwd; exact absurd hwd (by decide)
    · rcases Rat.mul_eq_zero.mp e with e | e <;> exact e
  rw [h2]; grind
/-- a block has its pseudo-inverse, with sizes -/
abbrev Blk (m : Nat) (B : Mat) : Prop := ∃ U p S VG SG VH SH, PBz m B U p S VG SG VH SH
theorem blk_ok {R : List RdD} {o : List Str} (ho : o.length ≤ 2) (hw : ∀ d ∈ R, 0 < d.weight) (hf : ∀ x y, Hf (nE R x y)) : Blk o.length (bG R o) := by
  match o, ho with
  | [], _ => exact ⟨_, _, _, _, _, _, _, pbz_nil⟩
  | [x], _ =>
    show Blk 1 [[nE R x x]]
    by_cases h : nE R x x = 0
    · rw [h]; exact ⟨_, _, _, _, _, _, _, pbz_one0⟩
    · exact ⟨_, _, _, _, _, _, _, pbz_one h (hf x x)⟩
  | [x, y], _ =>
    show Blk 2 [[nE R x x, nE R x y], [nE R y x, nE R y y]]
    rw [nE_comm R y x]
    by_cases h : nE R x x = 0
    · rw [h, nE_gram hw h y]
      by_cases h2 : nE R y y = 0
      · rw [h2]; exact ⟨_, _, _, _, _, _, _, pbz_two0⟩
      · exact ⟨_, _, _, _, _, _, _, pbz_two2 h2 (hf y y)⟩
    · by_cases he : nE R x x * nE R y y - nE R x y * nE R x y = 0
      · exact ⟨_, _, _, _, _, _, _, pbz_two1 h he (hf x x) (hf x y) (hf y y)⟩
      · exact pbz_two h he (hf x x) (hf x y) (hf y y)
theorem b3_one {m : Nat} (B : Mat) : b3 m 0 0 B [] [] = B := by
  rw [b3_eq]
  have : I1 0 0 = fun v => v := by
    funext v
    show v ++ zero 0 = v
    exact List.append_nil v
  rw [this]
  simp
theorem blk_pseudo {m : Nat} {B U : Mat} {p : List Nat} {S VG SG VH SH : Mat} (h : PBz m B U p S VG SG VH SH) : pseudo B m = pB m B U p VG VH := by
  have := pseudo_b3 h.pb pb_nil pb_nil
  rw [b3_one] at this
  exact (show pseudo B m = _ from this).trans (b3_one _)
theorem blk_ps {m : Nat} {B : Mat} (h : Blk m B) : PsOk B m ∧ Mb 40 (pseudo B m) := by
  obtain ⟨U, p, S, VG, SG, VH, SH, h⟩ := h
  have hm := h.hm
  have h1 := psOk_b3 h pbz_nil pbz_nil (by omega)
  have h2 := pseudo_mb h pbz_nil pbz_nil (by omega)
  rw [b3_one] at h1 h2
  exact ⟨h1, h2⟩
theorem blk_lw {m : Nat} {B : Mat} (h : Blk m B) : (pseudo B m).length = m ∧ Wd m (pseudo B m) := by
  obtain ⟨U, p, S, VG, SG, VH, SH, h⟩ := h
  have := pseudo_wd B m
  rw [h.pb.red.lb] at this
  exact ⟨pseudo_len B m, this⟩
theorem blk_3 {m1 m2 m3 : Nat} {A B C : Mat} (h1 : Blk m1 A) (h2 : Blk m2 B) (h3 : Blk m3 C) (h5 : m1 + m2 + m3 ≤ 5) :
    pseudo (b3 m1 m2 m3 A B C) (m1 + (m2 + m3)) = b3 m1 m2 m3 (pseudo A m1) (pseudo B m2) (pseudo C m3) ∧ PsOk (b3 m1 m2 m3 A B C) (m1 + (m2 + m3)) ∧ Mb 40 (pseudo (b3 m1 m2 m3 A B C) (m1 + (m2 + m3))) := by
  obtain ⟨U1, p1, S1, VG1, SG1, VH1, SH1, h1⟩ := h1
  obtain ⟨U2, p2, S2, VG2, SG2, VH2, SH2, h2⟩ := h2
  obtain ⟨U3, p3, S3, VG3, SG3, VH3, SH3, h3⟩ := h3
  rw [show m1 + (m2 + m3) = m1 + m2 + m3 by omega]
  refine ⟨?_, psOk_b3 h1 h2 h3 h5, pseudo_mb h1 h2 h3 h5⟩
  rw [pseudo_b3 h1.pb h2.pb h3.pb, blk_pseudo h1, blk_pseudo h2, blk_pseudo h3]
/-! ### the form of the whole is the sum of the parts' forms -/
theorem al_len (R : List RdD) (o : List Str) (x : Str) : (al R o x).length = o.length := List.length_map ..
section
variable {R1 R2 R3 : List RdD} {o1 o2 o3 : List Str} {P1 P2 P3 : Mat}
theorem eF_3 (h : Apart R1 R2 R3 o1 o2 o3) (w1 : Wd o1.length P1) (w2 : Wd o2.length P2) (l1 : P1.length = o1.length) (l2 : P2.length = o2.length) (l3 : P3.length = o3.length) (x y : Str) :
    eF (R1 ++ (R2 ++ R3)) (o1 ++ (o2 ++ o3)) (b3 o1.length o2.length o3.length P1 P2 P3) x y = eF R1 o1 P1 x y + eF R2 o2 P2 x y + eF R3 o3 P3 x y := by
  unfold eF
  rw [nE_3, al_3 h, al_3 h, List.length_append, List.length_append, qm_b3 w1 w2 l1 l2 l3 (al_len _ _ _) (al_len _ _ _) (al_len _ _ _) (al_len _ _ _)]
  grind
theorem fF_3 (h : Apart R1 R2 R3 o1 o2 o3) (w1 : Wd o1.length P1) (w2 : Wd o2.length P2) (l1 : P1.length = o1.length) (l2 : P2.length = o2.length) (x : Str) :
    fF (R1 ++ (R2 ++ R3)) (o1 ++ (o2 ++ o3)) (b3 o1.length o2.length o3.length P1 P2 P3) x = fF R1 o1 P1 x + fF R2 o2 P2 x + fF R3 o3 P3 x := by
  unfold fF
  rw [rE_3, al_3 h, ro_3 h, apply_b3 w1 w2 (List.length_map ..) (List.length_map ..), dot_b3 (by rw [al_len, apply_len, l1]) (by rw [al_len, apply_len, l2])]
  grind
theorem cF_3 (h : Apart R1 R2 R3 o1 o2 o3) (w1 : Wd o1.length P1) (w2 : Wd o2.length P2) (l1 : P1.length = o1.length) (l2 : P2.length = o2.length) :
    cF' (R1 ++ (R2 ++ R3)) (o1 ++ (o2 ++ o3)) (b3 o1.length o2.length o3.length P1 P2 P3) = cF' R1 o1 P1 + cF' R2 o2 P2 + cF' R3 o3 P3 := by
  unfold cF'
  rw [cE_3, ro_3 h, apply_b3 w1 w2 (List.length_map ..) (List.length_map ..), dot_b3 (by rw [List.length_map, apply_len, l1]) (by rw [List.length_map, apply_len, l2])]
  grind
end
end PN
end
section
set_option maxRecDepth 100000
namespace PN
open PySem
/-! ### sizes of sums -/
def IsI (D : Int) (B : Nat) (q : Rat) : Prop := ∃ A : Int, q = (A : Rat) / (D : Rat) ∧ A.natAbs ≤ B
theorem IsI.bd {D : Int} {B n : Nat} {q : Rat} (h : IsI D B q) (hD : D ≠ 0) (h1 : B < 2 ^ n) (h2 : D.natAbs < 2 ^ n) : Bd n q := by
  obtain ⟨A, rfl, hA⟩ := h
  exact bd_frac hD (Nat.lt_of_le_of_lt hA h1) h2
theorem sm_isI {D : Int} {B : Nat} {f : RdD → Rat} : ∀ {l : List RdD}, (∀ d ∈ l, IsI D B (f d)) → IsI D (B * l.length) (sm f l)
  | [], _ => ⟨0, by show (0 : Rat) = ((0 : Int) : Rat) / (D : Rat); rw [show ((0 : Int) : Rat) = 0 from rfl]; grind, by simp⟩
  | d :: r, h => by
    obtain ⟨A, hA, lA⟩ := h d List.mem_cons_self
    obtain ⟨A', hA', lA'⟩ := sm_isI (l := r) fun x hx => h x (List.mem_cons_of_mem _ hx)
    refine ⟨A + A', ?_, ?_⟩
    · show f d + sm f r = _
      rw [hA, hA', Rat.intCast_add]; grind
    · rw [List.length_cons, Nat.mul_add]
      have := Int.natAbs_add_le A A'
      omega
/-- a reading's numbers -/
structure RdI (d : RdD) : Prop where
  w : ∃ W : Int, d.weight = (W : Rat) / 2 ∧ 1 ≤ W ∧ W.natAbs ≤ 12
  v : ∃ V : Int, d.value = (V : Rat) / 6 ∧ V.natAbs ≤ 36
  c : ∀ x, (coefOf d.terms x).natAbs ≤ 3
theorem mul3 {a b c A B C : Nat} (h1 : a ≤ A) (h2 : b ≤ B) (h3 : c ≤ C) : a * (b * c) ≤ A * (B * C) := Nat.mul_le_mul h1 (Nat.mul_le_mul h2 h3)
section
variable {R : List RdD}
theorem isI_nE (h : ∀ d ∈ R, RdI d) (x y : Str) : IsI 2 (108 * R.length) (nE R x y) := sm_isI fun d hd => by
  obtain ⟨W, hW, _, lW⟩ := (h d hd).w
  refine ⟨W * (coefOf d.terms x * coefOf d.terms y), ?_, ?_⟩
  · show d.weight * (cq d x * cq d y) = _
    rw [hW, Rat.intCast_mul, Rat.intCast_mul, show ((2 : Int) : Rat) = 2 from rfl]
    unfold cq
    grind
  · rw [Int.natAbs_mul, Int.natAbs_mul]
    exact mul3 lW ((h d hd).c x) ((h d hd).c y)
theorem isI_rE (h : ∀ d ∈ R, RdI d) (x : Str) : IsI 12 (1296 * R.length) (rE R x) := sm_isI fun d hd => by
  obtain ⟨W, hW, _, lW⟩ := (h d hd).w
  obtain ⟨V, hV, lV⟩ := (h d hd).v
  refine ⟨W * (V * coefOf d.terms x), ?_, ?_⟩
  · show d.weight * d.value * cq d x = _
    rw [hW, hV, Rat.intCast_mul, Rat.intCast_mul, show ((12 : Int) : Rat) = 12 from rfl]
    unfold cq
    grind
  · rw [Int.natAbs_mul, Int.natAbs_mul]
    exact mul3 lW lV ((h d hd).c x)
theorem isI_cE (h : ∀ d ∈ R, RdI d) : IsI 72 (15552 * R.length) (cE R) := sm_isI fun d hd => by
  obtain ⟨W, hW, _, lW⟩ := (h d hd).w
  obtain ⟨V, hV, lV⟩ := (h d hd).v
  refine ⟨W * (V * V), ?_, ?_⟩
  · show d.weight * d.value * d.value = _
    rw [hW, hV, Rat.intCast_mul, Rat.intCast_mul, show ((72 : Int) : Rat) = 72 from rfl]
    grind
  · rw [Int.natAbs_mul, Int.natAbs_mul]
    exact mul3 lW lV lV
theorem hf_nE (h : ∀ d ∈ R, RdI d) (hl : R.length ≤ 24) (x y : Str) : Hf (nE R x y) := by
  obtain ⟨A, e, l⟩ := isI_nE h x y
  refine ⟨A, e, ?_⟩
  have : (2 : Nat) ^ 12 = 4096 := by decide
  omega
theorem bd_nE (h : ∀ d ∈ R, RdI d) (hl : R.length ≤ 24) (x y : Str) : Bd 20 (nE R x y) := (hf_nE h hl x y).bd.mono (by decide)
theorem bd_rE (h : ∀ d ∈ R, RdI d) (hl : R.length ≤ 24) (x : Str) : Bd 20 (rE R x) := by
  have : (2 : Nat) ^ 20 = 1048576 := by decide
  exact (isI_rE h x).bd (by decide) (by omega) (by decide)
theorem bd_cE (h : ∀ d ∈ R, RdI d) (hl : R.length ≤ 24) : Bd 20 (cE R) := by
  have : (2 : Nat) ^ 20 = 1048576 := by decide
  exact (isI_cE h).bd (by decide) (by omega) (by decide)
theorem pos_w (h : ∀ d ∈ R, RdI d) : ∀ d ∈ R, 0 < d.weight := fun d hd => by
  obtain ⟨W, hW, h1, _⟩ := (h d hd).w
  rw [hW]
  have h2 : (0 : Rat) < (W : Rat) := by exact_mod_cast (by omega : (0 : Int) < W)
  grind
end
/-! ### sizes of a form -/
structure FB (n : Nat) (ns : List Str) (e : Str → Str → Rat) (f : Str → Rat) (c : Rat) : Prop where
  be : ∀ x ∈ ns, ∀ y ∈ ns, Bd n (e x y)
  bf : ∀ x ∈ ns, Bd n (f x)
  bc : Bd n c
structure NsOk (ns : List Str) : Prop where
  ln : ns.length ≤ 5
  nd : ns.Nodup
  ord : OrdS ns
theorem vb_map {α : Type} {n : Nat} {l : List α} {f : α → Rat} (hl : l.length ≤ 100) (h : ∀ x ∈ l, Bd n (f x)) : Vb n (l.map f) := ⟨by rw [List.length_map]; exact hl, fun y hy => by
  obtain ⟨x, hx, rfl⟩ := List.mem_map.mp hy
  exact h x hx⟩
theorem mb_MF {n : Nat} {xs ys : List Str} {e : Str → Str → Rat} (h1 : xs.length ≤ 100) (h2 : ys.length ≤ 100) (h : ∀ x ∈ xs, ∀ y ∈ ys, Bd n (e x y)) : Mb n (MF xs ys e) := ⟨by unfold MF; rw [List.length_map]; exact h1, fun r hr => by
  obtain ⟨x, hx, rfl⟩ := List.mem_map.mp hr
  exact vb_map h2 (h x hx)⟩
theorem FB.ok {n : Nat} {ns : List Str} {e : Str → Str → Rat} {f : Str → Rat} {c : Rat} (h : FB n ns e f c) (hn : n ≤ 2000) (o : NsOk ns) : FdOk (FF ns e f c) := by
  have l := o.ln
  refine ⟨by show ns.length ≤ 100; omega, o.nd, o.ord, List.length_map .., fun r hr => ?_, List.length_map .., (mb_MF (by omega) (by omega) h.be).mono hn, (vb_map (by omega) h.bf).mono hn, h.bc.mono hn⟩
  obtain ⟨x, hx, rfl⟩ := List.mem_map.mp hr
  exact List.length_map ..
theorem FB.add {n m : Nat} {ns : List Str} {e e' : Str → Str → Rat} {f f' : Str → Rat} {c c' : Rat} (h : FB n ns e f c) (h' : FB m ns e' f' c') : FB (n + m + 1) ns (fun x y => e x y + e' x y) (fun x => f x + f' x) (c + c') :=
  ⟨fun x hx y hy => (h.be x hx y hy).add (h'.be x hx y hy), fun x hx => (h.bf x hx).add (h'.bf x hx), h.bc.add h'.bc⟩
theorem dot_le {n m k : Nat} {a b : List Rat} (ha : ∀ x ∈ a, Bd n x) (hb : ∀ x ∈ b, Bd m x) (hl : a.length = b.length) (h2 : a.length ≤ 2) (hk : 2 * (n + m + 1) + 1 ≤ k) : Bd k (dot a b) := by
  refine (dot_bd ha hb hl).mono ?_
  have := Nat.mul_le_mul_right (n + m + 1) h2
  omega
theorem apply_le {n l k : Nat} {m : Mat} {a : List Rat} (hm : Mb n m) (ha : Vb l a) (hw : Wd a.length m) (h2 : a.length ≤ 2) (hk : 2 * (n + l + 1) + 1 ≤ k) : Vb k (apply m a) := by
  refine (apply_vb hm ha hw).mono ?_
  have := Nat.mul_le_mul_right (n + l + 1) h2
  omega
theorem part_fb {R : List RdD} {ns o : List Str} {P : Mat} (h : ∀ d ∈ R, RdI d) (hl : R.length ≤ 24) (ho : o.length ≤ 2) (hP : Mb 40 P) (wP : Wd o.length P) (lP : P.length = o.length) : FB 400 ns (eF R o P) (fF R o P) (cF' R o P) := by
  have ba : ∀ x, Vb 20 (al R o x) := fun x => vb_map (by omega) fun y _ => bd_nE h hl x y
  have br : Vb 20 (o.map (rE R)) := vb_map (by omega) fun y _ => bd_rE h hl y
  have lr : (o.map (rE R)).length = o.length := List.length_map ..
  have bk : Vb 123 (apply P (o.map (rE R))) := apply_le hP br (by rw [lr]; exact wP) (by rw [lr]; exact ho) (by decide)
  refine ⟨fun x _ y _ => ?_, fun x _ => ?_, ?_⟩
  · have ht : Mb 40 (transpose P o.length) := transpose_mb hP (by omega) fun r hr => by rw [wP r hr]; exact Nat.le_refl _
    have ht2 : Wd o.length (transpose P o.length) := by
      have := transpose_wd P o.length
      rw [lP] at this
      exact this
    have b1 : Vb 123 (apply (transpose P o.length) (al R o x)) := apply_le ht (ba x) (by rw [al_len]; exact ht2) (by rw [al_len]; exact ho) (by decide)
    have b2 : Bd 289 (qm o.length P (al R o x) (al R o y)) := dot_le (ba y).2 b1.2 (by rw [al_len, apply_len, transpose_len]) (by rw [al_len]; exact ho) (by decide)
    exact ((bd_nE h hl x y).add ((Bd.neg (Bd.one (n := 1) (by decide))).mul b2)).mono (by decide)
  · have b2 : Bd 289 (dot (al R o x) (apply P (o.map (rE R)))) := dot_le (ba x).2 bk.2 (by rw [al_len, apply_len, lP]) (by rw [al_len]; exact ho) (by decide)
    exact ((bd_rE h hl x).sub b2).mono (by decide)
  · have b2 : Bd 289 (dot (o.map (rE R)) (apply P (o.map (rE R)))) := dot_le br.2 bk.2 (by rw [lr, apply_len, lP]) (by rw [lr]; exact ho) (by decide)
    exact ((bd_cE h hl).sub b2).mono (by decide)
/-! ### rows of forms, joined in order -/
/-- the parts of a form by names -/
structure Fm where
  e : Str → Str → Rat
  f : Str → Rat
  c : Rat
def Fm.ff (ns : List Str) (a : Fm) : FormD := FF ns a.e a.f a.c
def Fm.add (a b : Fm) : Fm := ⟨fun x y => a.e x y + b.e x y, fun x => a.f x + b.f x, a.c + b.c⟩
abbrev Fm.B (n : Nat) (ns : List Str) (a : Fm) : Prop := FB n ns a.e a.f a.c
theorem Fm.join (ns : List Str) (a b : Fm) : joinOf (a.ff ns) (b.ff ns) = (a.add b).ff ns := join_FF ns a.e b.e a.f b.f a.c b.c
theorem Fm.add_comm (a b : Fm) : a.add b = b.add a := by
  unfold Fm.add
  congr 1
  · funext x y; grind
  · funext x; grind
  · grind
theorem Fm.add_assoc (a b c : Fm) : (a.add b).add c = a.add (b.add c) := by
  unfold Fm.add
  dsimp only
  congr 1
  · funext x y; grind
  · funext x; grind
  · grind
theorem row2 {ns : List Str} {a b : Fm} (o : NsOk ns) (ha : a.B 400 ns) (hb : b.B 400 ns) {due : FormD} (hd : due = (a.add b).ff ns) : RowOk ns [a.ff ns, b.ff ns] due := by
  have oa := ha.ok (by decide) o
  have ob := hb.ok (by decide) o
  have oab := (ha.add hb).ok (by decide) o
  refine ⟨by simp, fun f hf => ?_, fun i hi => ?_, ?_, by show 2 ≤ 3; decide⟩
  · rcases List.mem_cons.mp hf with rfl | hf
    · exact ⟨rfl, oa⟩
    · rw [List.mem_singleton.mp hf]; exact ⟨rfl, ob⟩
  · rcases (by have : i < 2 := hi; omega : i = 0 ∨ i = 1) with rfl | rfl
    · exact ⟨oa, rfl⟩
    · show FdOk (joinOf (a.ff ns) (b.ff ns)) ∧ (joinOf (a.ff ns) (b.ff ns)).names = ns
      rw [Fm.join]
      exact ⟨oab, rfl⟩
  · show joinOf (a.ff ns) (b.ff ns) = _
    rw [Fm.join, hd]
theorem row3 {ns : List Str} {a b c : Fm} (o : NsOk ns) (ha : a.B 400 ns) (hb : b.B 400 ns) (hc : c.B 400 ns) {due : FormD} (hd : due = ((a.add b).add c).ff ns) : RowOk ns [a.ff ns, b.ff ns, c.ff ns] due := by
  have oa := ha.ok (by decide) o
  have ob := hb.ok (by decide) o
  have oc := hc.ok (by decide) o
  have oab := (ha.add hb).ok (by decide) o
  have oabc := ((ha.add hb).add hc).ok (by decide) o
  refine ⟨by simp, fun f hf => ?_, fun i hi => ?_, ?_, by show 3 ≤ 3; decide⟩
  · rcases List.mem_cons.mp hf with rfl | hf
    · exact ⟨rfl, oa⟩
    · rcases List.mem_cons.mp hf with rfl | hf
      · exact ⟨rfl, ob⟩
      · rw [List.mem_singleton.mp hf]; exact ⟨rfl, oc⟩
  · rcases (by have : i < 3 := hi; omega : i = 0 ∨ i = 1 ∨ i = 2) with rfl | rfl | rfl
    · exact ⟨oa, rfl⟩
    · show FdOk (joinOf (a.ff ns) (b.ff ns)) ∧ (joinOf (a.ff ns) (b.ff ns)).names = ns
      rw [Fm.join]
      exact ⟨oab, rfl⟩
    · show FdOk (joinOf (joinOf (a.ff ns) (b.ff ns)) (c.ff ns)) ∧ (joinOf (joinOf (a.ff ns) (b.ff ns)) (c.ff ns)).names = ns
      rw [Fm.join, Fm.join]
      exact ⟨oabc, rfl⟩
  · show joinOf (joinOf (a.ff ns) (b.ff ns)) (c.ff ns) = _
    rw [Fm.join, Fm.join, hd]
end PN
end
section
set_option maxRecDepth 100000
namespace PN
open PySem
/-! ### one survey: its book and its form -/
theorem coef_zero {x : Str} : ∀ {ds : List (Str × Int)}, x ∉ ds.map (·.1) → coefOf ds x = 0
  | [], _ => rfl
  | d :: r, h => by
    show (if d.1 = x then d.2 else coefOf r x) = 0
    rw [List.map_cons, List.mem_cons, not_or] at h
    rw [if_neg fun e => h.1 e.symm]
    exact coef_zero h.2
theorem coef_le {x : Str} : ∀ {ds : List (Str × Int)}, (∀ d ∈ ds, CfOk d.2) → (coefOf ds x).natAbs ≤ 3
  | [], _ => by show (0 : Int).natAbs ≤ 3; decide
  | d :: r, h => by
    show (if d.1 = x then d.2 else coefOf r x).natAbs ≤ 3
    by_cases e : d.1 = x
    · rw [if_pos e]
      have := h d List.mem_cons_self
      unfold CfOk at this
      omega
    · rw [if_neg e]; exact coef_le fun y hy => h y (List.mem_cons_of_mem _ hy)
theorem pr_val {d : Int × Int} (h : PrOk d) : ∃ V : Int, Rat.divInt d.1 d.2 = (V : Rat) / 6 ∧ V.natAbs ≤ 36 := by
  obtain ⟨a, b⟩ := d
  obtain ⟨h1, h2, h3, h4⟩ := h
  dsimp only at h1 h2 h3 h4 ⊢
  rw [Rat.divInt_eq_div]
  rcases (by omega : b = 1 ∨ b = 2 ∨ b = 3) with rfl | rfl | rfl
  · refine ⟨6 * a, ?_, by omega⟩
    rw [Rat.intCast_mul, show ((6 : Int) : Rat) = 6 from rfl, show ((1 : Int) : Rat) = 1 from rfl]; grind
  · refine ⟨3 * a, ?_, by omega⟩
    rw [Rat.intCast_mul, show ((3 : Int) : Rat) = 3 from rfl, show ((2 : Int) : Rat) = 2 from rfl]; grind
  · refine ⟨2 * a, ?_, by omega⟩
    rw [Rat.intCast_mul, show ((2 : Int) : Rat) = 2 from rfl, show ((3 : Int) : Rat) = 3 from rfl]; grind
theorem pr_wt {d : Int × Int} (h : PrOk d) (hp : 1 ≤ d.1) (hd : d.2 ≤ 2) : ∃ W : Int, Rat.divInt d.1 d.2 = (W : Rat) / 2 ∧ 1 ≤ W ∧ W.natAbs ≤ 12 := by
  obtain ⟨a, b⟩ := d
  obtain ⟨h1, h2, h3, h4⟩ := h
  dsimp only at h1 h2 h3 h4 hp hd ⊢
  rw [Rat.divInt_eq_div]
  rcases (by omega : b = 1 ∨ b = 2) with rfl | rfl
  · refine ⟨2 * a, ?_, by omega, by omega⟩
    rw [Rat.intCast_mul, show ((2 : Int) : Rat) = 2 from rfl, show ((1 : Int) : Rat) = 1 from rfl]; grind
  · exact ⟨a, rfl, by omega, by omega⟩
theorem pr_bd {d : Int × Int} (h : PrOk d) : Bd 20 (Rat.divInt d.1 d.2) := by
  obtain ⟨V, e, l⟩ := pr_val h
  rw [e]
  exact bd_frac (D := 6) (by decide) (Nat.lt_of_le_of_lt l (by decide)) (by decide)
structure Surv (border o : List Str) (sv : SvD) : Prop where
  nm : sv.near.map (fun e => e.1) = border ++ o
  nd : (border ++ o).Nodup
  hb : NsOk border
  lo : o.length ≤ 5
  lr : sv.rds.length ≤ 24
  rnd : (sv.rds.map fun r => r.name).Nodup
  nok : ∀ e ∈ sv.near, PrOk e.2
  rok : ∀ r ∈ sv.rds, ∃ ns, RrOk ns r ∧ NmOk ns ∧ ∀ n ∈ ns, n ∈ border ++ o
theorem rd_rdi {ns : List Str} {r : RrD} (h : RrOk ns r) : RdI (rdOf r) := ⟨pr_wt h.wt h.wp h.wd, pr_val h.val, fun x => coef_le h.tm.cf⟩
section
variable {border o : List Str} {sv : SvD}
theorem Surv.rdi (h : Surv border o sv) : ∀ d ∈ rdsOf sv, RdI d := fun d hd => by
  obtain ⟨r, hr, rfl⟩ := List.mem_map.mp hd
  obtain ⟨ns, h1, _⟩ := h.rok r hr
  exact rd_rdi h1
theorem Surv.len (h : Surv border o sv) : (rdsOf sv).length ≤ 24 := by
  unfold rdsOf; rw [List.length_map]; exact h.lr
theorem Surv.own (h : Surv border o sv) : (border ++ o).filter (fun n => decide (n ∉ border)) = o := by
  rw [List.filter_append]
  have h1 : border.filter (fun n => decide (n ∉ border)) = [] := by
    rw [List.filter_eq_nil_iff]
    intro n hn
    simpa using hn
  have h2 : o.filter (fun n => decide (n ∉ border)) = o := by
    rw [List.filter_eq_self]
    intro n hn
    have := (List.nodup_append.mp h.nd).2.2
    simp only [decide_eq_true_eq]
    exact fun hb => this n hb n hn rfl
  rw [h1, h2, List.nil_append]
theorem Surv.form (h : Surv border o sv) : formOf border sv = FF border (eF (rdsOf sv) o (bP' (rdsOf sv) o)) (fF (rdsOf sv) o (bP' (rdsOf sv) o)) (cF' (rdsOf sv) o (bP' (rdsOf sv) o)) := by
  unfold formOf
  refine borderOf_eq (fun n hn => ?_) ?_
  · show n ∈ sv.near.map _
    rw [h.nm]; exact List.mem_append_left _ hn
  · show (sv.near.map _).filter _ = o
    rw [h.nm]; exact h.own
theorem Surv.bk (h : Surv border o sv) : BkOk sv := by
  have hl : sv.near.length = border.length + o.length := by
    have := congrArg List.length h.nm
    rw [List.length_map, List.length_append] at this
    exact this
  have hb := h.hb.ln
  have ho := h.lo
  refine ⟨by rw [h.nm]; exact h.nd, by omega, h.lr, h.rnd, h.nok, fun r hr => ?_⟩
  obtain ⟨ns, h1, h2, h3⟩ := h.rok r hr
  refine ⟨h1.tm.fit h2, fun t ht => ?_, h1.val, h1.wt, h1.wp⟩
  rw [h.nm]
  exact h3 _ (h1.tm.mem ht)
theorem Surv.bf (h : Surv border o sv) (hp : PsOk (bG (rdsOf sv) o) o.length) (hm : Mb 40 (bP' (rdsOf sv) o)) : BfOk (ptsOf sv) (rdsOf sv) border := by
  have hl : sv.near.length = border.length + o.length := by
    have := congrArg List.length h.nm
    rw [List.length_map, List.length_append] at this
    exact this
  have hb := h.hb.ln
  have ho := h.lo
  have lp : (ptsOf sv).length = border.length + o.length := by show (sv.near.map _).length = _; rw [List.length_map, hl]
  have ei := at_inner (ptsOf sv) border
  rw [show ptsOf sv = border ++ o from h.nm, h.own] at ei
  rw [← show ptsOf sv = border ++ o from h.nm] at ei
  have li : (innerOf (ptsOf sv) border).length = o.length := (show (at_ (ptsOf sv) (innerOf (ptsOf sv) border)).length = (innerOf (ptsOf sv) border).length from List.length_map ..).symm.trans (congrArg List.length ei)
  have hin := inner_lt (pts := ptsOf sv) (ns := border)
  have eb : blockM (sumB (ptsOf sv) (rdsOf sv)).N (innerOf (ptsOf sv) border) (innerOf (ptsOf sv) border) = bG (rdsOf sv) o := by
    rw [sumB_eq]
    dsimp only
    rw [block_MF hin hin, ei]; rfl
  refine ⟨by omega, h.len, fun d hd => ?_, fun n hn => ?_, hb, h.hb.ord, ?_, ?_, ?_, by rw [li]; exact ho, ?_, ?_⟩
  · obtain ⟨r, hr, rfl⟩ := List.mem_map.mp hd
    obtain ⟨ns, h1, h2, _⟩ := h.rok r hr
    refine ⟨h1.tm.nodup h2, fun t ht => ?_, pr_bd h1.wt, pr_bd h1.val⟩
    have := h1.tm.cf t ht
    unfold CfOk at this
    omega
  · show n ∈ sv.near.map _
    rw [h.nm]; exact List.mem_append_left _ hn
  · rw [sumB_eq]
    exact mb_MF (by omega) (by omega) fun x _ y _ => (bd_nE h.rdi h.len x y).mono (by decide)
  · rw [sumB_eq]
    exact vb_map (by omega) fun x _ => (bd_rE h.rdi h.len x).mono (by decide)
  · rw [sumB_eq]
    exact (bd_cE h.rdi h.len).mono (by decide)
  · rw [eb, li]; exact hp
  · rw [eb, li]; exact hm
end
def Surv.fm (o : List Str) (sv : SvD) : Fm := ⟨eF (rdsOf sv) o (bP' (rdsOf sv) o), fF (rdsOf sv) o (bP' (rdsOf sv) o), cF' (rdsOf sv) o (bP' (rdsOf sv) o)⟩
/-- a part alone -/
theorem part_ok {border o : List Str} {sv : SvD} (h : Surv border o sv) (ho : o.length ≤ 2) : Blk o.length (bG (rdsOf sv) o) ∧ (BkOk sv ∧ BfOk (ptsOf sv) (rdsOf sv) border) ∧ formOf border sv = (Surv.fm o sv).ff border ∧ (Surv.fm o sv).B 400 border := by
  have hb := blk_ok ho (pos_w h.rdi) (hf_nE h.rdi h.len)
  obtain ⟨h1, h2⟩ := blk_ps hb
  obtain ⟨h3, h4⟩ := blk_lw hb
  exact ⟨hb, ⟨h.bk, h.bf h1 h2⟩, h.form, part_fb h.rdi h.len ho h2 h4 h3⟩
/-- the whole -/
theorem whole_ok {border o1 o2 o3 : List Str} {s1 s2 s3 sw : SvD} (h : Surv border (o1 ++ (o2 ++ o3)) sw) (hr : rdsOf sw = rdsOf s1 ++ (rdsOf s2 ++ rdsOf s3)) (ha : Apart (rdsOf s1) (rdsOf s2) (rdsOf s3) o1 o2 o3)
    (b1 : Blk o1.length (bG (rdsOf s1) o1)) (b2 : Blk o2.length (bG (rdsOf s2) o2)) (b3' : Blk o3.length (bG (rdsOf s3) o3)) :
    (BkOk sw ∧ BfOk (ptsOf sw) (rdsOf sw) border) ∧ formOf border sw = (((Surv.fm o1 s1).add (Surv.fm o2 s2)).add (Surv.fm o3 s3)).ff border := by
  have h5 := h.lo
  rw [List.length_append, List.length_append] at h5
  obtain ⟨e, q1, q2⟩ := blk_3 b1 b2 b3' (by omega)
  have lo : (o1 ++ (o2 ++ o3)).length = o1.length + (o2.length + o3.length) := by rw [List.length_append, List.length_append]
  have eG : bG (rdsOf sw) (o1 ++ (o2 ++ o3)) = b3 o1.length o2.length o3.length (bG (rdsOf s1) o1) (bG (rdsOf s2) o2) (bG (rdsOf s3) o3) := by rw [hr]; exact bG_3 ha
  have eP : bP' (rdsOf sw) (o1 ++ (o2 ++ o3)) = b3 o1.length o2.length o3.length (bP' (rdsOf s1) o1) (bP' (rdsOf s2) o2) (bP' (rdsOf s3) o3) := by
    unfold bP'
    rw [eG, lo]
    exact e
  refine ⟨⟨h.bk, h.bf (by rw [eG, lo]; exact q1) (by unfold bP'; rw [eG, lo]; exact q2)⟩, ?_⟩
  obtain ⟨l1, w1⟩ := blk_lw b1
  obtain ⟨l2, w2⟩ := blk_lw b2
  obtain ⟨l3, w3⟩ := blk_lw b3'
  rw [h.form, eP, hr]
  exact FF_congr (fun x _ y _ => eF_3 ha w1 w2 l1 l2 l3 x y) (fun x _ => fF_3 ha w1 w2 l1 l2 x) (cF_3 ha w1 w2 l1 l2)
end PN
end
section
set_option maxRecDepth 100000
namespace PN
open PySem
/-! ### the parts and the whole -/
theorem all_nd : (BORD ++ (INN.getD 0 [] ++ (INN.getD 1 [] ++ INN.getD 2 [])) : List Str).Nodup := by decide +kernel
theorem own_names : ∀ r ∈ List.range 3, ∀ k ∈ List.range 3, ∀ s ∈ List.range 3, (namesOf ((INN.getD k []).take s) (BORD.take (1 + r))).filter (fun n => decide (n ∈ (INN.getD k []).take s)) = (INN.getD k []).take s := by decide +kernel
theorem inn_len : ∀ k ∈ List.range 3, (INN.getD k []).length ≤ 2 := by decide +kernel
theorem rd_nd : ((List.range 5).map (nmK (MK 0)) ++ ((List.range 5).map (nmK (MK 1)) ++ (List.range 5).map (nmK (MK 2))) : List Str).Nodup := by decide +kernel
theorem bord_ord : ∀ r ∈ List.range 3, OrdS (BORD.take (1 + r)) := by unfold OrdS; decide +kernel
theorem bord_nd : ∀ r ∈ List.range 3, (BORD.take (1 + r)).Nodup := by decide +kernel
structure Pt (border : List Str) (near : List (Str × (Int × Int))) (k : Nat) (o : List Str) (sv : SvD) : Prop where
  near : ∃ own, sv.near = near ++ own ∧ own.map (fun e => e.1) = o ∧ ∀ e ∈ own, PrOk e.2
  sub : o.Sublist (INN.getD k [])
  lo : o.length ≤ 2
  rnm : (sv.rds.map fun r => r.name).Sublist ((List.range 5).map (nmK (MK k)))
  len : sv.rds.length ≤ 5
  rok : ∀ r ∈ sv.rds, ∃ ns, RrOk ns r ∧ NmOk ns ∧ ∀ n ∈ ns, n ∈ border ++ o
theorem Pt.of {border : List Str} {near : List (Str × (Int × Int))} {k r : Nat} {o : List Str} {sv : SvD} (hr : r < 3) (hb : border = BORD.take (1 + r)) (hk : k < 3) (p : PartOk border near k o sv) : Pt border near k o sv := by
  obtain ⟨s, hs, ho⟩ := p.inn
  obtain ⟨own, h1, h2, h3⟩ := p.hnear
  have l2 := inn_len k (List.mem_range.mpr hk)
  have e := own_names r (List.mem_range.mpr hr) k (List.mem_range.mpr hk) s (List.mem_range.mpr (by omega))
  rw [← ho, ← hb] at e
  rw [e] at h2
  refine ⟨⟨own, h1, h2, h3⟩, by rw [ho]; exact List.take_sublist _ _, by rw [ho, List.length_take]; omega, ?_, p.len, fun r hr => ⟨_, p.rok r hr, names_ok o border, fun n hn => ?_⟩⟩
  · rw [p.rnm]
    exact List.Sublist.map _ (List.range_sublist.mpr p.len)
  · have := (List.mem_filter.mp hn).2
    rw [Bool.or_eq_true, decide_eq_true_eq, decide_eq_true_eq] at this
    exact List.mem_append.mpr this.symm
theorem Pt.aw {border : List Str} {near : List (Str × (Int × Int))} {k : Nat} {o : List Str} {sv : SvD} (p : Pt border near k o sv) {o' : List Str} (h : ∀ x ∈ o', x ∉ border ∧ x ∉ o) : Aw (rdsOf sv) o' := fun d hd x hx => by
  obtain ⟨r, hr, rfl⟩ := List.mem_map.mp hd
  obtain ⟨ns, h1, _, h2⟩ := p.rok r hr
  refine coef_zero fun hm => ?_
  obtain ⟨h3, h4⟩ := h x hx
  rcases List.mem_append.mp (h2 x (h1.tm.sub.subset hm)) with q | q
  · exact h3 q
  · exact h4 q
section
variable {border : List Str} {near : List (Str × (Int × Int))} {r : Nat}
theorem ns_ok (hr : r < 3) (hb : border = BORD.take (1 + r)) : NsOk border := by
  subst hb
  refine ⟨?_, bord_nd r (List.mem_range.mpr hr), bord_ord r (List.mem_range.mpr hr)⟩
  rw [List.length_take]
  exact Nat.le_trans (Nat.min_le_right _ _) (by decide)
theorem nd_sub {l l' : List Str} (h : l.Sublist l') (n : l'.Nodup) : l.Nodup := List.Pairwise.sublist h n
theorem nd_3 {o1 o2 o3 : List Str} (hb : border = BORD.take (1 + r)) (h1 : o1.Sublist (INN.getD 0 [])) (h2 : o2.Sublist (INN.getD 1 [])) (h3 : o3.Sublist (INN.getD 2 [])) : (border ++ (o1 ++ (o2 ++ o3))).Nodup := by
  subst hb
  exact nd_sub (List.Sublist.append (List.take_sublist _ _) (h1.append (h2.append h3))) all_nd
theorem apart_3 {o1 o2 o3 : List Str} {s1 s2 s3 : SvD} (n : (border ++ (o1 ++ (o2 ++ o3))).Nodup) (p1 : Pt border near 0 o1 s1) (p2 : Pt border near 1 o2 s2) (a3 : ∀ o', (∀ x ∈ o', x ∉ border ∧ x ∉ o3) → Aw (rdsOf s3) o') : Apart (rdsOf s1) (rdsOf s2) (rdsOf s3) o1 o2 o3 := by
  obtain ⟨_, n1, d1⟩ := List.nodup_append.mp n
  obtain ⟨_, n2, d2⟩ := List.nodup_append.mp n1
  obtain ⟨_, _, d3⟩ := List.nodup_append.mp n2
  have b1 : ∀ x ∈ o1, x ∉ border := fun x hx hb => d1 x hb x (List.mem_append_left _ hx) rfl
  have b2 : ∀ x ∈ o2, x ∉ border := fun x hx hb => d1 x hb x (List.mem_append_right _ (List.mem_append_left _ hx)) rfl
  have b3 : ∀ x ∈ o3, x ∉ border := fun x hx hb => d1 x hb x (List.mem_append_right _ (List.mem_append_right _ hx)) rfl
  have c12 : ∀ x ∈ o1, x ∉ o2 := fun x hx hy => d2 x hx x (List.mem_append_left _ hy) rfl
  have c13 : ∀ x ∈ o1, x ∉ o3 := fun x hx hy => d2 x hx x (List.mem_append_right _ hy) rfl
  have c23 : ∀ x ∈ o2, x ∉ o3 := fun x hx hy => d3 x hx x hy rfl
  exact ⟨p1.aw fun x hx => ⟨b2 x hx, fun hy => c12 x hy hx⟩, p1.aw fun x hx => ⟨b3 x hx, fun hy => c13 x hy hx⟩, p2.aw fun x hx => ⟨b1 x hx, c12 x hx⟩, p2.aw fun x hx => ⟨b3 x hx, fun hy => c23 x hy hx⟩,
    a3 _ fun x hx => ⟨b1 x hx, c13 x hx⟩, a3 _ fun x hx => ⟨b2 x hx, c23 x hx⟩⟩
theorem Pt.surv {k : Nat} {o : List Str} {sv : SvD} (p : Pt border near k o sv) (hb : NsOk border) (hn : near.map (fun e => e.1) = border) (nok : ∀ e ∈ near, PrOk e.2) (nd : (border ++ o).Nodup) (rn : ((List.range 5).map (nmK (MK k))).Nodup) : Surv border o sv := by
  obtain ⟨own, h1, h2, h3⟩ := p.near
  have l := p.lo
  have l5 := p.len
  refine ⟨by rw [h1, List.map_append, hn, h2], nd, hb, by omega, by omega, nd_sub p.rnm rn, fun e he => ?_, p.rok⟩
  rw [h1] at he
  exact (List.mem_append.mp he).elim (nok e) (h3 e)
theorem near_drop {k : Nat} {o : List Str} {sv : SvD} (p : Pt border near k o sv) (hn : near.map (fun e => e.1) = border) : (sv.near.drop border.length).map (fun e => e.1) = o ∧ ∀ e ∈ sv.near.drop border.length, PrOk e.2 := by
  obtain ⟨own, h1, h2, h3⟩ := p.near
  have hl : border.length = near.length := by rw [← hn, List.length_map]
  have e : sv.near.drop border.length = own := by rw [h1, hl, List.drop_left]
  rw [e]
  exact ⟨h2, h3⟩
theorem rok_mono {o o' : List Str} (h : ∀ n ∈ o, n ∈ o') {r : RrD} (h1 : ∃ ns, RrOk ns r ∧ NmOk ns ∧ ∀ n ∈ ns, n ∈ border ++ o) : ∃ ns, RrOk ns r ∧ NmOk ns ∧ ∀ n ∈ ns, n ∈ border ++ o' := by
  obtain ⟨ns, a, b, c⟩ := h1
  exact ⟨ns, a, b, fun n hn => List.mem_append.mpr ((List.mem_append.mp (c n hn)).imp_right (h n))⟩
theorem surv_3 {o1 o2 o3 : List Str} {s1 s2 s3 : SvD} (p1 : Pt border near 0 o1 s1) (p2 : Pt border near 1 o2 s2) (p3 : Pt border near 2 o3 s3) (hb : NsOk border) (hn : near.map (fun e => e.1) = border) (nok : ∀ e ∈ near, PrOk e.2)
    (nd : (border ++ (o1 ++ (o2 ++ o3))).Nodup) : Surv border (o1 ++ (o2 ++ o3)) (wholeOf border near [s1, s2, s3]) := by
  obtain ⟨a1, q1⟩ := near_drop p1 hn
  obtain ⟨a2, q2⟩ := near_drop p2 hn
  obtain ⟨a3, q3⟩ := near_drop p3 hn
  have en : (wholeOf border near [s1, s2, s3]).near = near ++ (s1.near.drop border.length ++ (s2.near.drop border.length ++ s3.near.drop border.length)) := by simp [wholeOf]
  have er : (wholeOf border near [s1, s2, s3]).rds = s1.rds ++ (s2.rds ++ s3.rds) := by simp [wholeOf]
  have l1 := p1.lo
  have l2 := p2.lo
  have l3 := p3.lo
  have m2 : o2.length ≤ 1 := Nat.le_trans p2.sub.length_le (by decide)
  have n1 := p1.len
  have n2 := p2.len
  have n3 := p3.len
  refine ⟨?_, nd, hb, ?_, ?_, ?_, ?_, ?_⟩
  · rw [en, List.map_append, List.map_append, List.map_append, hn, a1, a2, a3]
  · rw [List.length_append, List.length_append]; omega
  · rw [er, List.length_append, List.length_append]; omega
  · rw [er, List.map_append, List.map_append]
    exact nd_sub (p1.rnm.append (p2.rnm.append p3.rnm)) rd_nd
  · rw [en]
    intro e he
    rcases List.mem_append.mp he with he | he
    · exact nok e he
    · rcases List.mem_append.mp he with he | he
      · exact q1 e he
      · exact (List.mem_append.mp he).elim (q2 e) (q3 e)
  · rw [er]
    intro r hr
    rcases List.mem_append.mp hr with hr | hr
    · exact rok_mono (fun n h => List.mem_append_left _ h) (p1.rok r hr)
    · rcases List.mem_append.mp hr with hr | hr
      · exact rok_mono (fun n h => List.mem_append_right _ (List.mem_append_left _ h)) (p2.rok r hr)
      · exact rok_mono (fun n h => List.mem_append_right _ (List.mem_append_right _ h)) (p3.rok r hr)
theorem rds_3 {s1 s2 s3 : SvD} : rdsOf (wholeOf border near [s1, s2, s3]) = rdsOf s1 ++ (rdsOf s2 ++ rdsOf s3) := by simp [wholeOf, rdsOf]
theorem nd_mid {a b c : List Str} (h : (a ++ (b ++ c)).Nodup) : (a ++ b).Nodup := nd_sub (List.Sublist.append (List.Sublist.refl _) (List.sublist_append_left _ _)) h
theorem nd_skip {a b c : List Str} (h : (a ++ (b ++ c)).Nodup) : (a ++ c).Nodup := nd_sub (List.Sublist.append (List.Sublist.refl _) (List.sublist_append_right _ _)) h
theorem law_3 {o1 o2 o3 : List Str} {s1 s2 s3 : SvD} (hr : r < 3) (hbd : border = BORD.take (1 + r)) (hn : near.map (fun e => e.1) = border) (nok : ∀ e ∈ near, PrOk e.2) (p1 : Pt border near 0 o1 s1) (p2 : Pt border near 1 o2 s2) (p3 : Pt border near 2 o3 s3) :
    LawOk border [s1, s2, s3] (wholeOf border near [s1, s2, s3]) := by
  have hb := ns_ok hr hbd
  have nd := nd_3 hbd p1.sub p2.sub p3.sub
  have v1 := p1.surv hb hn nok (nd_mid nd) (nd_sub (List.sublist_append_left _ _) rd_nd)
  have v2 := p2.surv hb hn nok (nd_mid (nd_skip nd)) (nd_mid (nd_sub (List.Sublist.refl _) rd_nd) |> nd_sub (List.sublist_append_right _ _))
  have v3 := p3.surv hb hn nok (nd_skip (nd_skip nd)) (nd_skip rd_nd |> nd_sub (List.sublist_append_right _ _))
  obtain ⟨b1, k1, f1, z1⟩ := part_ok v1 p1.lo
  obtain ⟨b2, k2, f2, z2⟩ := part_ok v2 p2.lo
  obtain ⟨b3', k3, f3, z3⟩ := part_ok v3 p3.lo
  obtain ⟨kw, fw⟩ := whole_ok (surv_3 p1 p2 p3 hb hn nok nd) rds_3 (apart_3 nd p1 p2 fun o' h => p3.aw h) b1 b2 b3'
  have em : [s1, s2, s3].map (formOf border) = [(Surv.fm o1 s1).ff border, (Surv.fm o2 s2).ff border, (Surv.fm o3 s3).ff border] := by
    rw [List.map_cons, List.map_cons, List.map_cons, List.map_nil, f1, f2, f3]
  refine ⟨fun sv hsv => ?_, kw, ?_, ?_, ?_⟩
  · rcases List.mem_cons.mp hsv with rfl | hsv
    · exact k1
    · rcases List.mem_cons.mp hsv with rfl | hsv
      · exact k2
      · rw [List.mem_singleton.mp hsv]; exact k3
  all_goals rw [em, fw]
  · exact row3 hb z1 z2 z3 rfl
  · exact row3 hb z3 z2 z1 (by rw [Fm.add_assoc, Fm.add_comm, Fm.add_comm (Surv.fm o2 s2)])
  · exact row3 hb z2 z3 z1 (by rw [Fm.add_assoc, Fm.add_comm])
/-! ### two parts -/
theorem surv_2 {o1 o2 : List Str} {s1 s2 : SvD} (p1 : Pt border near 0 o1 s1) (p2 : Pt border near 1 o2 s2) (hb : NsOk border) (hn : near.map (fun e => e.1) = border) (nok : ∀ e ∈ near, PrOk e.2)
    (nd : (border ++ (o1 ++ (o2 ++ []))).Nodup) : Surv border (o1 ++ (o2 ++ [])) (wholeOf border near [s1, s2]) := by
  obtain ⟨a1, q1⟩ := near_drop p1 hn
  obtain ⟨a2, q2⟩ := near_drop p2 hn
  have en : (wholeOf border near [s1, s2]).near = near ++ (s1.near.drop border.length ++ s2.near.drop border.length) := by simp [wholeOf]
  have er : (wholeOf border near [s1, s2]).rds = s1.rds ++ s2.rds := by simp [wholeOf]
  have l1 := p1.lo
  have l2 := p2.lo
  have n1 := p1.len
  have n2 := p2.len
  refine ⟨?_, nd, hb, ?_, ?_, ?_, ?_, ?_⟩
  · rw [en, List.map_append, List.map_append, hn, a1, a2, List.append_nil]
  · rw [List.length_append, List.append_nil]; omega
  · rw [er, List.length_append]; omega
  · rw [er, List.map_append]
    exact nd_sub (p1.rnm.append (p2.rnm.trans (List.sublist_append_left _ _))) rd_nd
  · rw [en]
    intro e he
    rcases List.mem_append.mp he with he | he
    · exact nok e he
    · exact (List.mem_append.mp he).elim (q1 e) (q2 e)
  · rw [er]
    intro r hr
    rcases List.mem_append.mp hr with hr | hr
    · exact rok_mono (fun n h => List.mem_append_left _ h) (p1.rok r hr)
    · exact rok_mono (fun n h => List.mem_append_right _ (List.mem_append_left _ h)) (p2.rok r hr)
theorem rds_2 {s1 s2 : SvD} : rdsOf (wholeOf border near [s1, s2]) = rdsOf s1 ++ (rdsOf s2 ++ rdsOf ⟨[], []⟩) := by simp [wholeOf, rdsOf]
theorem dot_nil (v : List Rat) : dot [] v = 0 := by cases v <;> rfl
theorem fm_nil {ns : List Str} (a : Fm) : (a.add (Surv.fm [] ⟨[], []⟩)).ff ns = a.ff ns := by
  refine FF_congr (fun x _ y _ => ?_) (fun x _ => ?_) ?_
  · show a.e x y + (0 + -1 * dot [] _) = _
    rw [dot_nil]; grind
  · show a.f x + (0 - dot [] _) = _
    rw [dot_nil]; grind
  · show a.c + (0 - dot [] _) = _
    rw [dot_nil]; grind
theorem law_2 {o1 o2 : List Str} {s1 s2 : SvD} (hr : r < 3) (hbd : border = BORD.take (1 + r)) (hn : near.map (fun e => e.1) = border) (nok : ∀ e ∈ near, PrOk e.2) (p1 : Pt border near 0 o1 s1) (p2 : Pt border near 1 o2 s2) :
    LawOk border [s1, s2] (wholeOf border near [s1, s2]) := by
  have hb := ns_ok hr hbd
  have nd := nd_3 (o3 := []) hbd p1.sub p2.sub (List.nil_sublist _)
  have v1 := p1.surv hb hn nok (nd_mid nd) (nd_sub (List.sublist_append_left _ _) rd_nd)
  have v2 := p2.surv hb hn nok (nd_mid (nd_skip nd)) (nd_mid (nd_sub (List.Sublist.refl _) rd_nd) |> nd_sub (List.sublist_append_right _ _))
  obtain ⟨b1, k1, f1, z1⟩ := part_ok v1 p1.lo
  obtain ⟨b2, k2, f2, z2⟩ := part_ok v2 p2.lo
  have b0 : Blk ([] : List Str).length (bG (rdsOf ⟨[], []⟩) []) := ⟨_, _, _, _, _, _, _, pbz_nil⟩
  obtain ⟨kw, fw⟩ := whole_ok (s3 := ⟨[], []⟩) (surv_2 p1 p2 hb hn nok nd) rds_2 (apart_3 (s3 := ⟨[], []⟩) nd p1 p2 fun o' _ d hd => by cases hd) b1 b2 b0
  rw [fm_nil] at fw
  have em : [s1, s2].map (formOf border) = [(Surv.fm o1 s1).ff border, (Surv.fm o2 s2).ff border] := by
    rw [List.map_cons, List.map_cons, List.map_nil, f1, f2]
  refine ⟨fun sv hsv => ?_, kw, ?_, ?_, ?_⟩
  · rcases List.mem_cons.mp hsv with rfl | hsv
    · exact k1
    · rw [List.mem_singleton.mp hsv]; exact k2
  all_goals rw [em, fw]
  · exact row2 hb z1 z2 rfl
  · exact row2 hb z2 z1 (by rw [Fm.add_comm])
  · exact row2 hb z2 z1 (by rw [Fm.add_comm])
end
theorem plain (border : List Str) (near : List (Str × (Int × Int))) (svs : List SvD) (inners : List (List Str)) (h : PaOk border near svs inners) : LawOk border svs (wholeOf border near svs) := by
  obtain ⟨r, hr, hb⟩ := h.hb
  have l2 := h.l2
  have l3 := h.l3
  have le := h.len
  have hp := h.parts
  match svs, inners, l2, l3, le, hp with
  | [s1, s2], [i1, i2], _, _, _, hp => exact law_2 hr hb h.hnear h.nok (Pt.of hr hb (by decide) (hp 0 s1 i1 rfl rfl)) (Pt.of hr hb (by decide) (hp 1 s2 i2 rfl rfl))
  | [s1, s2, s3], [i1, i2, i3], _, _, _, hp => exact law_3 hr hb h.hnear h.nok (Pt.of hr hb (by decide) (hp 0 s1 i1 rfl rfl)) (Pt.of hr hb (by decide) (hp 1 s2 i2 rfl rfl)) (Pt.of hr hb (by decide) (hp 2 s3 i3 rfl rfl))
end PN
end
section
set_option maxRecDepth 100000
set_option maxHeartbeats 0
namespace PN
open PySem PySem.Spec PyProof.Rows L2 LamX
theorem lawAt (plain : ∀ border near svs inners, PaOk border near svs inners → LawOk border svs (wholeOf border near svs)) {w : World} {mg : Str → Option Value} {fa' : Addr} {h : Heap} (Y : hk.says w h) (G : h.Ns mainGlobals mg) (hmg : mg ("law" : Str) = some (.ref fa')) :
    ∃ K : PySem.W.Frag, K.In h ∧ LawAtS PySem.Challenge.rw_plumbnet_k63_whole_the_form_of_joined_pa w K C8.CX0 10 63 "_law_script" mg fa' h := by
  obtain ⟨K, KX, c⟩ := (show ∃ K : PySem.W.Frag, K.In h ∧ He.SaysX fa fn [] tf ex w h K from Y)
  have T : TX w K mg := ⟨h, KX, G, c⟩
  obtain ⟨fd, F⟩ := d_law T
  have e := hmg.symm.trans (g_law T)
  cases e
  have b := FunD.bindsA (ps := ["_law_script"]) F fun _ _ _ _ _ _ us hl => match us, hl with | [_], _ => rfl
  refine ⟨K, KX, fd, tf.map (He.cT K), spLaw K, fun p hp => ?_, fun p hp => ?_, fun p hp => ?_, fun s u => b s [u] rfl, fun H a ns hl _ hT hS => ⟨a, ns, rfl, hS, hl, fun p hp => ?_, fun _ => rfl⟩, fun base _ _ hB => ok_law T ⟨?_, ?_⟩ plain F⟩
  · obtain ⟨q, hq, rfl⟩ := List.mem_map.mp hp
    exact c.empty q hq
  · obtain ⟨q, hq, rfl⟩ := List.mem_map.mp hp
    exact c.out q hq
  · obtain ⟨q, hq, rfl⟩ := List.mem_map.mp hp
    exact PySem.W.codeHd_of_K KX (c.hd q hq)
  · rcases List.mem_cons.mp hp with e | hp
    · rw [e]
      exact TabS.nil (hT (He.cT K ("border_form", none)) (List.mem_map_of_mem (List.mem_cons_self)))
    · rcases List.mem_cons.mp hp with e | hp
      · rw [e]
        exact TabS.nil (hT (He.cT K ("join", none)) (List.mem_map_of_mem (List.mem_cons_of_mem _ List.mem_cons_self)))
      · cases hp
  · exact hB (He.cT K ("border_form", none)) (List.mem_map_of_mem (List.mem_cons_self))
  · exact hB (He.cT K ("join", none)) (List.mem_map_of_mem (List.mem_cons_of_mem _ List.mem_cons_self))
open PySem PySem.W PySem.Calls PyProof.Rows in
theorem holds (plain : ∀ border near svs inners, PaOk border near svs inners → LawOk border svs (wholeOf border near svs)) : PySem.Challenge.rw_plumbnet_k63_whole_the_form_of_joined_pa.Holds := by
  w_on; o_law
  refine HandSHeadRun.head_imp (r := OpenLaw.row PySem.Challenge.rw_plumbnet_k63_whole_the_form_of_joined_pa) (q := view (OpenLaw.row PySem.Challenge.rw_plumbnet_k63_whole_the_form_of_joined_pa).prog [0, 72]) (H := PN.hk) (ob := PN.ob) (M := 6000) (loose := PN.names) (d := HandSHeadRun.topDef (OpenLaw.row PySem.Challenge.rw_plumbnet_k63_whole_the_form_of_joined_pa).prog 72) (kwd := []) PN.ob_eq PN.run
    (by kernel_rfl) (by kernel_rfl) (by kernel_rfl) (by rfl) (by first | assumption | decide +kernel) (by decide +kernel) ⟨rfl, rfl, rfl, rfl, rfl, by decide +kernel⟩ ?hw ?hc
  case hw => w_witness2
  case hc =>
    refine LamX.walk_ofTsE (l := PySem.Challenge.rw_plumbnet_k63_whole_the_form_of_joined_pa) (n := 63) (k := 10) (x := "_law_script") (CX := fun _ => C8.CX0) rfl (by decide) (by kernel_rfl) ⟨rfl, by decide, by decide⟩ ?F (fun _ _ _ _ _ z => z)
    intro w mg fa' h Y G hmg0
    have hmg : mg ("law" : PySem.Str) = some (.ref fa') := by
      have e : (HandSHeadRun.topDef (OpenLaw.row PySem.Challenge.rw_plumbnet_k63_whole_the_form_of_joined_pa).prog 72).name = ("law" : PySem.Str) := by kernel_rfl
      rw [← e]
      exact hmg0
    exact lawAt plain Y G hmg
end PN
end
theorem PySem.Challenge.cw_plumbnet_k63_whole_the_form_of_joined_pa_holds : PySem.Challenge.rw_plumbnet_k63_whole_the_form_of_joined_pa.Holds := by
  exact PN.holds PN.plain
