import PyProof.Rows.All
import Wide.All
import OpenK.AllK
import Wide.FinOn
import KE.KStateDown
import Lean
import HandS.ForMost
import HandS.ForExc
import HandS.Defaults
import HandS.ExcInit
import HandS.ExcField
import HandS.IsInst
import HandS.HeadEnd
import HandS.HeadHook1
import HandS.HeadHook2
import HandS.HeadHook3
import HandS.HeadHook4
import PySem.Challenge.RW_spreadhues_k21_whole_rows_that_reach_mor
import HandS.Head0
import HandS.Head1
import HandS.Head2
import HandS.TupAny
import KE.KEqDeep
import HandS.SetFor
import HandS.SortInts
import HandS.Strs
import HandS.Iter
import HandS.Walk
import HandS.Conv
import KE.GoesEnum
import KE.GoesMore
import KE.GoesZip
import HandS.Dict
import KE.KDictList
import HandS.ExcInitHot
import HandS.ExcCtx
import HandS.SuiteRaise
import HandS.RaiseFrom
import HandS.TryOnly
import HandS.TryMany
import KE.KDictDisplayH
import HandS.Flow
import HandS.HotCalls
import HandS.CallSlots
import HandS.RevRange
import HandS.DictSub
import HandS.Evl
import HandS.MakeKw
import HandS.More
import HandS.Small
import HandS.Comp
import HandS.WordsDict
import HandS.OwnEq
section
set_option Elab.async false
set_option linter.all false
set_option maxRecDepth 100000
set_option maxHeartbeats 4000000
/-! the text by places: its defs, what the head is to tell of them -/
namespace K21
open PySem PySem.Spec PyProof.Rows L2
def top (i : Nat) : Stmt := PySem.Challenge.pw_spreadhues_k21_whole_rows_that_reach_mor.main.body.getD i (.Pass ⟨0, 0, 0, 0⟩)
abbrev sIsWhole : Stmt := top 7
abbrev sCheckColour : Stmt := top 8
abbrev sCheckRow : Stmt := top 9
abbrev sStrikeEqual : Stmt := top 15
abbrev sPlacesWithin : Stmt := top 16
abbrev sWithoutHead : Stmt := top 17
abbrev sCheckHead : Stmt := top 18
abbrev sNextPlaces : Stmt := top 19
abbrev sPartingStep : Stmt := top 20
abbrev sFirstUnlike : Stmt := top 21
abbrev sLineFor : Stmt := top 22
abbrev sReachLacks : Stmt := top 23
abbrev sCheckShortRows : Stmt := top 24
abbrev sShortestOver : Stmt := top 25
abbrev sLawHand : Stmt := top 27
abbrev sLawMixed : Stmt := top 28
abbrev sLawTake : Stmt := top 29
abbrev sLawStruck : Stmt := top 30
abbrev sLawHidden : Stmt := top 31
abbrev sLawTuples : Stmt := top 32
abbrev sLawPick : Stmt := top 33
abbrev sLawWhole : Stmt := top 34
abbrev sLawTone : Stmt := top 35
abbrev sLawRow : Stmt := top 36
abbrev sLawVaried : Stmt := top 37
abbrev sLawStrip : Stmt := top 38
abbrev sLawInner : Stmt := top 39
abbrev sLawLess : Stmt := top 40
abbrev sLawLineRun : Stmt := top 41
abbrev sLawNoRow : Stmt := top 42
abbrev sLawDue : Stmt := top 43
abbrev sLawLacks : Stmt := top 44
abbrev sLawShortest : Stmt := top 45
abbrev sLawStep : Stmt := top 46
abbrev sLawOver : Stmt := top 47
abbrev sLawAsked : Stmt := top 48
abbrev sLawBadRows : Stmt := top 49
abbrev sLawBadRow : Stmt := top 50
abbrev sLawLongLacks : Stmt := top 51
abbrev sLaw : Stmt := top 52
abbrev sBadColourInit : Stmt := inClass (top 2) 0
abbrev sBadRowInit : Stmt := inClass (top 3) 0
abbrev sBadRowsInit : Stmt := inClass (top 4) 0
abbrev sPartingLineInit : Stmt := inClass (top 14) 0
abbrev sPartingLineEq : Stmt := inClass (top 14) 1
/-- the data of a plain def of the top -/
def plainD (x : Str) (st : Stmt) (dfl : List He.Dv) : He.DefD := { at_ := (x, none), name := x, qual := x, params := defArgs st, body := defBody st, scope := defScope st, dfl := dfl }
/-- .. of a method -/
def methD (c m q : Str) (st : Stmt) : He.DefD := { at_ := (c, some m), name := m, qual := q, params := defArgs st, body := defBody st, scope := defScope st }
/-- a def of the text as it stands behind the top -/
abbrev FnP (K : PySem.W.Frag) (x q : Str) (st : Stmt) (dvs : List V) (f : Addr) (fd : FuncData) : Prop := FunD K x q (defArgs st) (defBody st) (defScope st) dvs [] f fd
def dIsWhole : He.DefD := plainD "is_whole" sIsWhole [.non, .non]
def dCheckColour : He.DefD := plainD "check_colour" sCheckColour []
def dCheckRow : He.DefD := plainD "check_row" sCheckRow [.int 60]
def dStrikeEqual : He.DefD := plainD "strike_equal" sStrikeEqual []
def dPlacesWithin : He.DefD := plainD "places_within" sPlacesWithin []
def dWithoutHead : He.DefD := plainD "without_head" sWithoutHead []
def dCheckHead : He.DefD := plainD "check_head" sCheckHead []
def dNextPlaces : He.DefD := plainD "next_places" sNextPlaces []
def dPartingStep : He.DefD := plainD "parting_step" sPartingStep []
def dFirstUnlike : He.DefD := plainD "first_unlike" sFirstUnlike []
def dLineFor : He.DefD := plainD "line_for" sLineFor []
def dReachLacks : He.DefD := plainD "reach_lacks" sReachLacks [.non]
def dCheckShortRows : He.DefD := plainD "check_short_rows" sCheckShortRows []
def dShortestOver : He.DefD := plainD "shortest_over" sShortestOver [.non]
def dLawHand : He.DefD := plainD "_law_hand" sLawHand []
def dLawMixed : He.DefD := plainD "_law_mixed" sLawMixed []
def dLawTake : He.DefD := plainD "_law_take" sLawTake []
def dLawStruck : He.DefD := plainD "_law_struck" sLawStruck []
def dLawHidden : He.DefD := plainD "_law_hidden" sLawHidden []
def dLawTuples : He.DefD := plainD "_law_tuples" sLawTuples []
def dLawPick : He.DefD := plainD "_law_pick" sLawPick []
def dLawWhole : He.DefD := plainD "_law_whole" sLawWhole []
def dLawTone : He.DefD := plainD "_law_tone" sLawTone []
def dLawRow : He.DefD := plainD "_law_row" sLawRow []
def dLawVaried : He.DefD := plainD "_law_varied" sLawVaried []
def dLawStrip : He.DefD := plainD "_law_strip" sLawStrip []
def dLawInner : He.DefD := plainD "_law_inner" sLawInner []
def dLawLess : He.DefD := plainD "_law_less" sLawLess []
def dLawLineRun : He.DefD := plainD "_law_line_run" sLawLineRun []
def dLawNoRow : He.DefD := plainD "_law_no_row" sLawNoRow []
def dLawDue : He.DefD := plainD "_law_due" sLawDue []
def dLawLacks : He.DefD := plainD "_law_lacks" sLawLacks []
def dLawShortest : He.DefD := plainD "_law_shortest" sLawShortest []
def dLawStep : He.DefD := plainD "_law_step" sLawStep []
def dLawOver : He.DefD := plainD "_law_over" sLawOver []
def dLawAsked : He.DefD := plainD "_law_asked" sLawAsked []
def dLawBadRows : He.DefD := plainD "_law_bad_rows" sLawBadRows []
def dLawBadRow : He.DefD := plainD "_law_bad_row" sLawBadRow []
def dLawLongLacks : He.DefD := plainD "_law_long_lacks" sLawLongLacks []
def dLaw : He.DefD := plainD "law" sLaw []
def dBadColourInit : He.DefD := methD "BadColour" "__init__" "BadColour.__init__" sBadColourInit
def dBadRowInit : He.DefD := methD "BadRow" "__init__" "BadRow.__init__" sBadRowInit
def dBadRowsInit : He.DefD := methD "BadRows" "__init__" "BadRows.__init__" sBadRowsInit
def dPartingLineInit : He.DefD := methD "PartingLine" "__init__" "PartingLine.__init__" sPartingLineInit
def dPartingLineEq : He.DefD := methD "PartingLine" "__eq__" "PartingLine.__eq__" sPartingLineEq
def fns : List He.DefD := [dIsWhole, dCheckColour, dCheckRow, dStrikeEqual, dPlacesWithin, dWithoutHead, dCheckHead, dNextPlaces, dPartingStep, dFirstUnlike, dLineFor, dReachLacks, dCheckShortRows, dShortestOver, dLawHand, dLawMixed, dLawTake, dLawStruck, dLawHidden, dLawTuples, dLawPick, dLawWhole, dLawTone, dLawRow, dLawVaried, dLawStrip, dLawInner, dLawLess, dLawLineRun, dLawNoRow, dLawDue, dLawLacks, dLawShortest, dLawStep, dLawOver, dLawAsked, dLawBadRows, dLawBadRow, dLawLongLacks, dLaw, dBadColourInit, dBadRowInit, dBadRowsInit, dPartingLineInit, dPartingLineEq]
def facts : List He.Fa := [.glo "is_whole", .glo "check_colour", .glo "check_row", .glo "strike_equal", .glo "places_within", .glo "without_head", .glo "check_head", .glo "next_places", .glo "parting_step", .glo "first_unlike", .glo "line_for", .glo "reach_lacks", .glo "check_short_rows", .glo "shortest_over", .glo "_law_hand", .glo "_law_mixed", .glo "_law_take", .glo "_law_struck", .glo "_law_hidden", .glo "_law_tuples", .glo "_law_pick", .glo "_law_whole", .glo "_law_tone", .glo "_law_row", .glo "_law_varied", .glo "_law_strip", .glo "_law_inner", .glo "_law_less", .glo "_law_line_run", .glo "_law_no_row", .glo "_law_due", .glo "_law_lacks", .glo "_law_shortest", .glo "_law_step", .glo "_law_over", .glo "_law_asked", .glo "_law_bad_rows", .glo "_law_bad_row", .glo "_law_long_lacks", .glo "law", .glo "BadColour", .glo "BadRow", .glo "BadRows", .glo "PartingLine", .free "len", .free "range", .free "reversed", .free "zip", .free "enumerate", .free "isinstance", .free "int", .free "bool", .free "tuple", .free "list", .free "set", .free "sorted", .free "dict", .free "min", .free "abs", .int "MOST_COLOUR" 99, .int "LONGEST_ROW" 40, .int "MOST_SHORT_ROWS" 3, .int "LONGEST_SHORT_ROW" 12, .exm "BadColour" "BadColour" true, .exm "BadColour" "BadRow" false, .exm "BadColour" "BadRows" false, .exm "BadRow" "BadColour" false, .exm "BadRow" "BadRow" true, .exm "BadRow" "BadRows" false, .exm "BadRows" "BadColour" false, .exm "BadRows" "BadRow" false, .exm "BadRows" "BadRows" true, .cls "PartingLine", .noat "PartingLine" "colours", .mkr "PartingLine", .noat "BadColour" "colour", .noat "BadRow" "index", .noat "BadRows" "index"]
/-- an own exception class: its object, what is found in it -/
def oexB (K : PySem.W.Frag) (C : Addr) : Bool := (match K.lookup C with
    | some ⟨.type "type", _, .cls cd, sl⟩ => (match cd.mro, sl.toList with
      | .ref C' :: bm, [_, _, _, _, some (.builtin n), _] => C' == C && n == "ValueError.__new__" && !cd.hasDel && cd.hasDict && PySem.HandSPX.refsVE bm
      | _, _ => false)
    | _ => false) && (He.eqO (PySem.W.findIn K (.ref C) "__setattr__") (some (some (.builtin "object.__setattr__"))) && (decide (PySem.W.subIn K (.ref C) (.type "BaseException") = some true) &&
    (decide (PySem.W.typeIn K (.ref C) = some (.type "type")) && (PySem.W.keepIn K (.ref C) && xfB K C))))
theorem oexB_ok {K : PySem.W.Frag} {C : Addr} (h : oexB K C = true) : OexC K C ∧ XfC K C := by
  obtain ⟨h0, h⟩ := He.ba h
  obtain ⟨h1, h⟩ := He.ba h
  obtain ⟨h2, h⟩ := He.ba h
  obtain ⟨h3, h⟩ := He.ba h
  obtain ⟨h4, h5⟩ := He.ba h
  refine ⟨⟨?_, He.eqO_ok h1, of_decide_eq_true h2, of_decide_eq_true h3, h4⟩, xfB_ok h5⟩
  clear h1 h2 h3 h4 h5 h
  split at h0
  · rename_i dd cd sl ho
    split at h0
    · rename_i C' bm k0 k1 k2 k3 n k5 hm hs
      simp only [Bool.and_eq_true, beq_iff_eq, Bool.not_eq_true'] at h0
      obtain ⟨⟨⟨⟨rfl, rfl⟩, hdel⟩, hdi⟩, ht⟩ := h0
      obtain ⟨nm, bs, mro, ns, qn, hd, sn, sub, ab, col, del⟩ := cd
      dsimp only at hm hdel hdi
      subst hm hdel hdi
      have hsl : sl = #[k0, k1, k2, k3, some (.builtin "ValueError.__new__"), k5] := by
        obtain ⟨l⟩ := sl
        simp only at hs
        rw [hs]
      subst hsl
      exact ⟨_, _, _, _, _, _, _, _, _, _, _, _, _, _, _, ho, ht⟩
    · cases h0
  · cases h0
/-- the __init__ of an exception's class -/
def oiB (K : PySem.W.Frag) (C : Addr) : Bool := He.eqO (PySem.W.findIn K (.ref C) "__init__") (some (some (.ref (He.ma K C "__init__")))) && decide (PySem.W.typeIn K (.ref (He.ma K C "__init__")) = some (.type "function"))
/-- what isinstance asks of a plain own class; its own == -/
def plB (K : PySem.W.Frag) (C : Addr) : Bool := He.eqO (PySem.W.findIn K (.ref C) "__class__") (some (some (.builtin "object.__class__"))) &&
  (He.eqO (PySem.W.specialIn K (.builtin "object.__class__") "__get__") (some (some (.builtin "getset_descriptor.__get__"))) && (decide (PySem.W.takesIn K (.builtin "object.__class__") = some true) &&
  (decide (PySem.W.mroIn K C (.type "object") = some true) && (He.eqO (PySem.W.findIn K (.ref C) "__eq__") (some (some (.ref (He.ma K C "__eq__")))) && (PySem.W.isFn K (.ref (He.ma K C "__eq__")) && decide (PySem.W.kitOne K (.type "NoneType") (.ref C) = some false))))))
def exB (K : PySem.W.Frag) : Bool := oexB K (He.ga K "BadColour") && (oexB K (He.ga K "BadRow") && (oexB K (He.ga K "BadRows") && (oiB K (He.ga K "BadColour") && (oiB K (He.ga K "BadRow") && (oiB K (He.ga K "BadRows") && plB K (He.ga K "PartingLine"))))))
abbrev R : PySem.W.OpenRow := PySem.W.OpenLaw.row PySem.Challenge.rw_spreadhues_k21_whole_rows_that_reach_mor
abbrev hk : PySem.W.Hook := He.hookX 5 facts fns [] [] exB
end K21
end
section
set_option Elab.async false
set_option linter.all false
set_option maxRecDepth 100000
set_option maxHeartbeats 4000000
/-! what is known of the written part, by names -/
namespace K21
open PySem PySem.Spec PyProof.Rows L2
abbrev cPL (K : PySem.W.Frag) : Addr := He.ga K "PartingLine"
/-- an own exception class, its one field f -/
structure OwnX (K : PySem.W.Frag) (mg : Str → Option Value) (c f : Str) (st : Stmt) (q : Str) : Prop where
  g : mg c = some (.ref (He.ga K c))
  ox : OexC K (He.ga K c)
  xf : XfC K (He.ga K c)
  no : PySem.W.findIn K (.ref (He.ga K c)) f = some none
  ini : PySem.W.findIn K (.ref (He.ga K c)) "__init__" = some (some (.ref (He.ma K (He.ga K c) "__init__")))
  ity : PySem.W.typeIn K (.ref (He.ma K (He.ga K c) "__init__")) = some (.type "function")
  d : ∃ fd, FnP K "__init__" q st [] (He.ma K (He.ga K c) "__init__") fd
structure PLx (K : PySem.W.Frag) : Prop where
  cls : PySem.W.findIn K (.ref (cPL K)) "__class__" = some (some (.builtin "object.__class__"))
  spg : PySem.W.specialIn K (.builtin "object.__class__") "__get__" = some (some (.builtin "getset_descriptor.__get__"))
  tks : PySem.W.takesIn K (.builtin "object.__class__") = some true
  mro : PySem.W.mroIn K (cPL K) (.type "object") = some true
  eqf : PySem.W.findIn K (.ref (cPL K)) "__eq__" = some (some (.ref (He.ma K (cPL K) "__eq__")))
  fn : PySem.W.isFn K (.ref (He.ma K (cPL K) "__eq__")) = true
  nn : PySem.W.kitOne K (.type "NoneType") (.ref (cPL K)) = some false
structure Txt (K : PySem.W.Frag) (mg : Str → Option Value) : Prop where
  g_is_whole : mg "is_whole" = some (.ref (He.ga K "is_whole"))
  g_check_colour : mg "check_colour" = some (.ref (He.ga K "check_colour"))
  g_check_row : mg "check_row" = some (.ref (He.ga K "check_row"))
  g_strike_equal : mg "strike_equal" = some (.ref (He.ga K "strike_equal"))
  g_places_within : mg "places_within" = some (.ref (He.ga K "places_within"))
  g_without_head : mg "without_head" = some (.ref (He.ga K "without_head"))
  g_check_head : mg "check_head" = some (.ref (He.ga K "check_head"))
  g_next_places : mg "next_places" = some (.ref (He.ga K "next_places"))
  g_parting_step : mg "parting_step" = some (.ref (He.ga K "parting_step"))
  g_first_unlike : mg "first_unlike" = some (.ref (He.ga K "first_unlike"))
  g_line_for : mg "line_for" = some (.ref (He.ga K "line_for"))
  g_reach_lacks : mg "reach_lacks" = some (.ref (He.ga K "reach_lacks"))
  g_check_short_rows : mg "check_short_rows" = some (.ref (He.ga K "check_short_rows"))
  g_shortest_over : mg "shortest_over" = some (.ref (He.ga K "shortest_over"))
  g_law_hand : mg "_law_hand" = some (.ref (He.ga K "_law_hand"))
  g_law_mixed : mg "_law_mixed" = some (.ref (He.ga K "_law_mixed"))
  g_law_take : mg "_law_take" = some (.ref (He.ga K "_law_take"))
  g_law_struck : mg "_law_struck" = some (.ref (He.ga K "_law_struck"))
  g_law_hidden : mg "_law_hidden" = some (.ref (He.ga K "_law_hidden"))
  g_law_tuples : mg "_law_tuples" = some (.ref (He.ga K "_law_tuples"))
  g_law_pick : mg "_law_pick" = some (.ref (He.ga K "_law_pick"))
  g_law_whole : mg "_law_whole" = some (.ref (He.ga K "_law_whole"))
  g_law_tone : mg "_law_tone" = some (.ref (He.ga K "_law_tone"))
  g_law_row : mg "_law_row" = some (.ref (He.ga K "_law_row"))
  g_law_varied : mg "_law_varied" = some (.ref (He.ga K "_law_varied"))
  g_law_strip : mg "_law_strip" = some (.ref (He.ga K "_law_strip"))
  g_law_inner : mg "_law_inner" = some (.ref (He.ga K "_law_inner"))
  g_law_less : mg "_law_less" = some (.ref (He.ga K "_law_less"))
  g_law_line_run : mg "_law_line_run" = some (.ref (He.ga K "_law_line_run"))
  g_law_no_row : mg "_law_no_row" = some (.ref (He.ga K "_law_no_row"))
  g_law_due : mg "_law_due" = some (.ref (He.ga K "_law_due"))
  g_law_lacks : mg "_law_lacks" = some (.ref (He.ga K "_law_lacks"))
  g_law_shortest : mg "_law_shortest" = some (.ref (He.ga K "_law_shortest"))
  g_law_step : mg "_law_step" = some (.ref (He.ga K "_law_step"))
  g_law_over : mg "_law_over" = some (.ref (He.ga K "_law_over"))
  g_law_asked : mg "_law_asked" = some (.ref (He.ga K "_law_asked"))
  g_law_bad_rows : mg "_law_bad_rows" = some (.ref (He.ga K "_law_bad_rows"))
  g_law_bad_row : mg "_law_bad_row" = some (.ref (He.ga K "_law_bad_row"))
  g_law_long_lacks : mg "_law_long_lacks" = some (.ref (He.ga K "_law_long_lacks"))
  g_law : mg "law" = some (.ref (He.ga K "law"))
  g_BadColour : mg "BadColour" = some (.ref (He.ga K "BadColour"))
  g_BadRow : mg "BadRow" = some (.ref (He.ga K "BadRow"))
  g_BadRows : mg "BadRows" = some (.ref (He.ga K "BadRows"))
  g_PartingLine : mg "PartingLine" = some (.ref (He.ga K "PartingLine"))
  n_len : mg "len" = none
  n_range : mg "range" = none
  n_reversed : mg "reversed" = none
  n_zip : mg "zip" = none
  n_enumerate : mg "enumerate" = none
  n_isinstance : mg "isinstance" = none
  n_int : mg "int" = none
  n_bool : mg "bool" = none
  n_tuple : mg "tuple" = none
  n_list : mg "list" = none
  n_set : mg "set" = none
  n_sorted : mg "sorted" = none
  n_dict : mg "dict" = none
  n_min : mg "min" = none
  n_abs : mg "abs" = none
  c_MOST_COLOUR : ∃ t, mg "MOST_COLOUR" = some (.int 99 t)
  c_LONGEST_ROW : ∃ t, mg "LONGEST_ROW" = some (.int 40 t)
  c_MOST_SHORT_ROWS : ∃ t, mg "MOST_SHORT_ROWS" = some (.int 3 t)
  c_LONGEST_SHORT_ROW : ∃ t, mg "LONGEST_SHORT_ROW" = some (.int 12 t)
  x_BadColour_BadColour : PySem.W.exmOne K (.ref (He.ga K "BadColour")) (.ref (He.ga K "BadColour")) = some true
  x_BadColour_BadRow : PySem.W.exmOne K (.ref (He.ga K "BadColour")) (.ref (He.ga K "BadRow")) = some false
  x_BadColour_BadRows : PySem.W.exmOne K (.ref (He.ga K "BadColour")) (.ref (He.ga K "BadRows")) = some false
  x_BadRow_BadColour : PySem.W.exmOne K (.ref (He.ga K "BadRow")) (.ref (He.ga K "BadColour")) = some false
  x_BadRow_BadRow : PySem.W.exmOne K (.ref (He.ga K "BadRow")) (.ref (He.ga K "BadRow")) = some true
  x_BadRow_BadRows : PySem.W.exmOne K (.ref (He.ga K "BadRow")) (.ref (He.ga K "BadRows")) = some false
  x_BadRows_BadColour : PySem.W.exmOne K (.ref (He.ga K "BadRows")) (.ref (He.ga K "BadColour")) = some false
  x_BadRows_BadRow : PySem.W.exmOne K (.ref (He.ga K "BadRows")) (.ref (He.ga K "BadRow")) = some false
  x_BadRows_BadRows : PySem.W.exmOne K (.ref (He.ga K "BadRows")) (.ref (He.ga K "BadRows")) = some true
  pcl : Cls K (cPL K)
  pno : NoAttr K (cPL K) "colours"
  pmk : Mk K (cPL K) (He.ma K (cPL K) "__init__")
  d_is_whole : ∃ fd, FnP K "is_whole" "is_whole" sIsWhole [V.non, V.non] (He.ga K "is_whole") fd
  d_check_colour : ∃ fd, FnP K "check_colour" "check_colour" sCheckColour [] (He.ga K "check_colour") fd
  d_check_row : ∃ fd, FnP K "check_row" "check_row" sCheckRow [V.int 60] (He.ga K "check_row") fd
  d_strike_equal : ∃ fd, FnP K "strike_equal" "strike_equal" sStrikeEqual [] (He.ga K "strike_equal") fd
  d_places_within : ∃ fd, FnP K "places_within" "places_within" sPlacesWithin [] (He.ga K "places_within") fd
  d_without_head : ∃ fd, FnP K "without_head" "without_head" sWithoutHead [] (He.ga K "without_head") fd
  d_check_head : ∃ fd, FnP K "check_head" "check_head" sCheckHead [] (He.ga K "check_head") fd
  d_next_places : ∃ fd, FnP K "next_places" "next_places" sNextPlaces [] (He.ga K "next_places") fd
  d_parting_step : ∃ fd, FnP K "parting_step" "parting_step" sPartingStep [] (He.ga K "parting_step") fd
  d_first_unlike : ∃ fd, FnP K "first_unlike" "first_unlike" sFirstUnlike [] (He.ga K "first_unlike") fd
  d_line_for : ∃ fd, FnP K "line_for" "line_for" sLineFor [] (He.ga K "line_for") fd
  d_reach_lacks : ∃ fd, FnP K "reach_lacks" "reach_lacks" sReachLacks [V.non] (He.ga K "reach_lacks") fd
  d_check_short_rows : ∃ fd, FnP K "check_short_rows" "check_short_rows" sCheckShortRows [] (He.ga K "check_short_rows") fd
  d_shortest_over : ∃ fd, FnP K "shortest_over" "shortest_over" sShortestOver [V.non] (He.ga K "shortest_over") fd
  d_law_hand : ∃ fd, FnP K "_law_hand" "_law_hand" sLawHand [] (He.ga K "_law_hand") fd
  d_law_mixed : ∃ fd, FnP K "_law_mixed" "_law_mixed" sLawMixed [] (He.ga K "_law_mixed") fd
  d_law_take : ∃ fd, FnP K "_law_take" "_law_take" sLawTake [] (He.ga K "_law_take") fd
  d_law_struck : ∃ fd, FnP K "_law_struck" "_law_struck" sLawStruck [] (He.ga K "_law_struck") fd
  d_law_hidden : ∃ fd, FnP K "_law_hidden" "_law_hidden" sLawHidden [] (He.ga K "_law_hidden") fd
  d_law_tuples : ∃ fd, FnP K "_law_tuples" "_law_tuples" sLawTuples [] (He.ga K "_law_tuples") fd
  d_law_pick : ∃ fd, FnP K "_law_pick" "_law_pick" sLawPick [] (He.ga K "_law_pick") fd
  d_law_whole : ∃ fd, FnP K "_law_whole" "_law_whole" sLawWhole [] (He.ga K "_law_whole") fd
  d_law_tone : ∃ fd, FnP K "_law_tone" "_law_tone" sLawTone [] (He.ga K "_law_tone") fd
  d_law_row : ∃ fd, FnP K "_law_row" "_law_row" sLawRow [] (He.ga K "_law_row") fd
  d_law_varied : ∃ fd, FnP K "_law_varied" "_law_varied" sLawVaried [] (He.ga K "_law_varied") fd
  d_law_strip : ∃ fd, FnP K "_law_strip" "_law_strip" sLawStrip [] (He.ga K "_law_strip") fd
  d_law_inner : ∃ fd, FnP K "_law_inner" "_law_inner" sLawInner [] (He.ga K "_law_inner") fd
  d_law_less : ∃ fd, FnP K "_law_less" "_law_less" sLawLess [] (He.ga K "_law_less") fd
  d_law_line_run : ∃ fd, FnP K "_law_line_run" "_law_line_run" sLawLineRun [] (He.ga K "_law_line_run") fd
  d_law_no_row : ∃ fd, FnP K "_law_no_row" "_law_no_row" sLawNoRow [] (He.ga K "_law_no_row") fd
  d_law_due : ∃ fd, FnP K "_law_due" "_law_due" sLawDue [] (He.ga K "_law_due") fd
  d_law_lacks : ∃ fd, FnP K "_law_lacks" "_law_lacks" sLawLacks [] (He.ga K "_law_lacks") fd
  d_law_shortest : ∃ fd, FnP K "_law_shortest" "_law_shortest" sLawShortest [] (He.ga K "_law_shortest") fd
  d_law_step : ∃ fd, FnP K "_law_step" "_law_step" sLawStep [] (He.ga K "_law_step") fd
  d_law_over : ∃ fd, FnP K "_law_over" "_law_over" sLawOver [] (He.ga K "_law_over") fd
  d_law_asked : ∃ fd, FnP K "_law_asked" "_law_asked" sLawAsked [] (He.ga K "_law_asked") fd
  d_law_bad_rows : ∃ fd, FnP K "_law_bad_rows" "_law_bad_rows" sLawBadRows [] (He.ga K "_law_bad_rows") fd
  d_law_bad_row : ∃ fd, FnP K "_law_bad_row" "_law_bad_row" sLawBadRow [] (He.ga K "_law_bad_row") fd
  d_law_long_lacks : ∃ fd, FnP K "_law_long_lacks" "_law_long_lacks" sLawLongLacks [] (He.ga K "_law_long_lacks") fd
  d_law : ∃ fd, FnP K "law" "law" sLaw [] (He.ga K "law") fd
  o_BadColour : OwnX K mg "BadColour" "colour" sBadColourInit "BadColour.__init__"
  o_BadRow : OwnX K mg "BadRow" "index" sBadRowInit "BadRow.__init__"
  o_BadRows : OwnX K mg "BadRows" "index" sBadRowsInit "BadRows.__init__"
  plx : PLx K
  d_plInit : ∃ fd, FnP K "__init__" "PartingLine.__init__" sPartingLineInit [] (He.ma K (cPL K) "__init__") fd
  d_plEq : ∃ fd, FnP K "__eq__" "PartingLine.__eq__" sPartingLineEq [] (He.ma K (cPL K) "__eq__") fd
theorem oiB_ok {K : PySem.W.Frag} {C : Addr} (h : oiB K C = true) : PySem.W.findIn K (.ref C) "__init__" = some (some (.ref (He.ma K C "__init__"))) ∧ PySem.W.typeIn K (.ref (He.ma K C "__init__")) = some (.type "function") := by
  obtain ⟨h0, h1⟩ := He.ba h
  exact ⟨He.eqO_ok h0, of_decide_eq_true h1⟩
theorem plB_ok {K : PySem.W.Frag} (h : plB K (cPL K) = true) : PLx K := by
  obtain ⟨h0, h⟩ := He.ba h
  obtain ⟨h1, h⟩ := He.ba h
  obtain ⟨h2, h⟩ := He.ba h
  obtain ⟨h3, h⟩ := He.ba h
  obtain ⟨h4, h⟩ := He.ba h
  obtain ⟨h5, h6⟩ := He.ba h
  exact ⟨He.eqO_ok h0, He.eqO_ok h1, of_decide_eq_true h2, of_decide_eq_true h3, He.eqO_ok h4, h5, of_decide_eq_true h6⟩
theorem txt_of {w : World} {h : Heap} {K : PySem.W.Frag} {mg : Str → Option Value} (X : K.In h) (G : h.Ns mainGlobals mg) (c : He.SaysX facts fns [] [] exB w h K) : Txt K mg := by
  have d := c.t.d
  obtain ⟨e1, m⟩ := He.ba c.more
  obtain ⟨e2, m⟩ := He.ba m
  obtain ⟨e3, m⟩ := He.ba m
  obtain ⟨i1, m⟩ := He.ba m
  obtain ⟨i2, m⟩ := He.ba m
  obtain ⟨i3, pl⟩ := He.ba m
  exact {
    g_is_whole := He.glo_ok X G (d.fact 0 (f := .glo "is_whole") rfl)
    g_check_colour := He.glo_ok X G (d.fact 1 (f := .glo "check_colour") rfl)
    g_check_row := He.glo_ok X G (d.fact 2 (f := .glo "check_row") rfl)
    g_strike_equal := He.glo_ok X G (d.fact 3 (f := .glo "strike_equal") rfl)
    g_places_within := He.glo_ok X G (d.fact 4 (f := .glo "places_within") rfl)
    g_without_head := He.glo_ok X G (d.fact 5 (f := .glo "without_head") rfl)
    g_check_head := He.glo_ok X G (d.fact 6 (f := .glo "check_head") rfl)
    g_next_places := He.glo_ok X G (d.fact 7 (f := .glo "next_places") rfl)
    g_parting_step := He.glo_ok X G (d.fact 8 (f := .glo "parting_step") rfl)
    g_first_unlike := He.glo_ok X G (d.fact 9 (f := .glo "first_unlike") rfl)
    g_line_for := He.glo_ok X G (d.fact 10 (f := .glo "line_for") rfl)
    g_reach_lacks := He.glo_ok X G (d.fact 11 (f := .glo "reach_lacks") rfl)
    g_check_short_rows := He.glo_ok X G (d.fact 12 (f := .glo "check_short_rows") rfl)
    g_shortest_over := He.glo_ok X G (d.fact 13 (f := .glo "shortest_over") rfl)
    g_law_hand := He.glo_ok X G (d.fact 14 (f := .glo "_law_hand") rfl)
    g_law_mixed := He.glo_ok X G (d.fact 15 (f := .glo "_law_mixed") rfl)
    g_law_take := He.glo_ok X G (d.fact 16 (f := .glo "_law_take") rfl)
    g_law_struck := He.glo_ok X G (d.fact 17 (f := .glo "_law_struck") rfl)
    g_law_hidden := He.glo_ok X G (d.fact 18 (f := .glo "_law_hidden") rfl)
    g_law_tuples := He.glo_ok X G (d.fact 19 (f := .glo "_law_tuples") rfl)
    g_law_pick := He.glo_ok X G (d.fact 20 (f := .glo "_law_pick") rfl)
    g_law_whole := He.glo_ok X G (d.fact 21 (f := .glo "_law_whole") rfl)
    g_law_tone := He.glo_ok X G (d.fact 22 (f := .glo "_law_tone") rfl)
    g_law_row := He.glo_ok X G (d.fact 23 (f := .glo "_law_row") rfl)
    g_law_varied := He.glo_ok X G (d.fact 24 (f := .glo "_law_varied") rfl)
    g_law_strip := He.glo_ok X G (d.fact 25 (f := .glo "_law_strip") rfl)
    g_law_inner := He.glo_ok X G (d.fact 26 (f := .glo "_law_inner") rfl)
    g_law_less := He.glo_ok X G (d.fact 27 (f := .glo "_law_less") rfl)
    g_law_line_run := He.glo_ok X G (d.fact 28 (f := .glo "_law_line_run") rfl)
    g_law_no_row := He.glo_ok X G (d.fact 29 (f := .glo "_law_no_row") rfl)
    g_law_due := He.glo_ok X G (d.fact 30 (f := .glo "_law_due") rfl)
    g_law_lacks := He.glo_ok X G (d.fact 31 (f := .glo "_law_lacks") rfl)
    g_law_shortest := He.glo_ok X G (d.fact 32 (f := .glo "_law_shortest") rfl)
    g_law_step := He.glo_ok X G (d.fact 33 (f := .glo "_law_step") rfl)
    g_law_over := He.glo_ok X G (d.fact 34 (f := .glo "_law_over") rfl)
    g_law_asked := He.glo_ok X G (d.fact 35 (f := .glo "_law_asked") rfl)
    g_law_bad_rows := He.glo_ok X G (d.fact 36 (f := .glo "_law_bad_rows") rfl)
    g_law_bad_row := He.glo_ok X G (d.fact 37 (f := .glo "_law_bad_row") rfl)
    g_law_long_lacks := He.glo_ok X G (d.fact 38 (f := .glo "_law_long_lacks") rfl)
    g_law := He.glo_ok X G (d.fact 39 (f := .glo "law") rfl)
    g_BadColour := He.glo_ok X G (d.fact 40 (f := .glo "BadColour") rfl)
    g_BadRow := He.glo_ok X G (d.fact 41 (f := .glo "BadRow") rfl)
    g_BadRows := He.glo_ok X G (d.fact 42 (f := .glo "BadRows") rfl)
    g_PartingLine := He.glo_ok X G (d.fact 43 (f := .glo "PartingLine") rfl)
    n_len := He.free_ok X G (d.fact 44 (f := .free "len") rfl)
    n_range := He.free_ok X G (d.fact 45 (f := .free "range") rfl)
    n_reversed := He.free_ok X G (d.fact 46 (f := .free "reversed") rfl)
    n_zip := He.free_ok X G (d.fact 47 (f := .free "zip") rfl)
    n_enumerate := He.free_ok X G (d.fact 48 (f := .free "enumerate") rfl)
    n_isinstance := He.free_ok X G (d.fact 49 (f := .free "isinstance") rfl)
    n_int := He.free_ok X G (d.fact 50 (f := .free "int") rfl)
    n_bool := He.free_ok X G (d.fact 51 (f := .free "bool") rfl)
    n_tuple := He.free_ok X G (d.fact 52 (f := .free "tuple") rfl)
    n_list := He.free_ok X G (d.fact 53 (f := .free "list") rfl)
    n_set := He.free_ok X G (d.fact 54 (f := .free "set") rfl)
    n_sorted := He.free_ok X G (d.fact 55 (f := .free "sorted") rfl)
    n_dict := He.free_ok X G (d.fact 56 (f := .free "dict") rfl)
    n_min := He.free_ok X G (d.fact 57 (f := .free "min") rfl)
    n_abs := He.free_ok X G (d.fact 58 (f := .free "abs") rfl)
    c_MOST_COLOUR := He.int_ok X G (d.fact 59 (f := .int "MOST_COLOUR" 99) rfl)
    c_LONGEST_ROW := He.int_ok X G (d.fact 60 (f := .int "LONGEST_ROW" 40) rfl)
    c_MOST_SHORT_ROWS := He.int_ok X G (d.fact 61 (f := .int "MOST_SHORT_ROWS" 3) rfl)
    c_LONGEST_SHORT_ROW := He.int_ok X G (d.fact 62 (f := .int "LONGEST_SHORT_ROW" 12) rfl)
    x_BadColour_BadColour := He.exm_ok (d.fact 63 (f := .exm "BadColour" "BadColour" true) rfl)
    x_BadColour_BadRow := He.exm_ok (d.fact 64 (f := .exm "BadColour" "BadRow" false) rfl)
    x_BadColour_BadRows := He.exm_ok (d.fact 65 (f := .exm "BadColour" "BadRows" false) rfl)
    x_BadRow_BadColour := He.exm_ok (d.fact 66 (f := .exm "BadRow" "BadColour" false) rfl)
    x_BadRow_BadRow := He.exm_ok (d.fact 67 (f := .exm "BadRow" "BadRow" true) rfl)
    x_BadRow_BadRows := He.exm_ok (d.fact 68 (f := .exm "BadRow" "BadRows" false) rfl)
    x_BadRows_BadColour := He.exm_ok (d.fact 69 (f := .exm "BadRows" "BadColour" false) rfl)
    x_BadRows_BadRow := He.exm_ok (d.fact 70 (f := .exm "BadRows" "BadRow" false) rfl)
    x_BadRows_BadRows := He.exm_ok (d.fact 71 (f := .exm "BadRows" "BadRows" true) rfl)
    pcl := He.cls_ok (d.fact 72 (f := .cls "PartingLine") rfl)
    pno := He.noat_ok (d.fact 73 (f := .noat "PartingLine" "colours") rfl)
    pmk := He.mkr_ok (d.fact 74 (f := .mkr "PartingLine") rfl)
    d_is_whole := d.def_ 0 (d := dIsWhole) rfl
    d_check_colour := d.def_ 1 (d := dCheckColour) rfl
    d_check_row := d.def_ 2 (d := dCheckRow) rfl
    d_strike_equal := d.def_ 3 (d := dStrikeEqual) rfl
    d_places_within := d.def_ 4 (d := dPlacesWithin) rfl
    d_without_head := d.def_ 5 (d := dWithoutHead) rfl
    d_check_head := d.def_ 6 (d := dCheckHead) rfl
    d_next_places := d.def_ 7 (d := dNextPlaces) rfl
    d_parting_step := d.def_ 8 (d := dPartingStep) rfl
    d_first_unlike := d.def_ 9 (d := dFirstUnlike) rfl
    d_line_for := d.def_ 10 (d := dLineFor) rfl
    d_reach_lacks := d.def_ 11 (d := dReachLacks) rfl
    d_check_short_rows := d.def_ 12 (d := dCheckShortRows) rfl
    d_shortest_over := d.def_ 13 (d := dShortestOver) rfl
    d_law_hand := d.def_ 14 (d := dLawHand) rfl
    d_law_mixed := d.def_ 15 (d := dLawMixed) rfl
    d_law_take := d.def_ 16 (d := dLawTake) rfl
    d_law_struck := d.def_ 17 (d := dLawStruck) rfl
    d_law_hidden := d.def_ 18 (d := dLawHidden) rfl
    d_law_tuples := d.def_ 19 (d := dLawTuples) rfl
    d_law_pick := d.def_ 20 (d := dLawPick) rfl
    d_law_whole := d.def_ 21 (d := dLawWhole) rfl
    d_law_tone := d.def_ 22 (d := dLawTone) rfl
    d_law_row := d.def_ 23 (d := dLawRow) rfl
    d_law_varied := d.def_ 24 (d := dLawVaried) rfl
    d_law_strip := d.def_ 25 (d := dLawStrip) rfl
    d_law_inner := d.def_ 26 (d := dLawInner) rfl
    d_law_less := d.def_ 27 (d := dLawLess) rfl
    d_law_line_run := d.def_ 28 (d := dLawLineRun) rfl
    d_law_no_row := d.def_ 29 (d := dLawNoRow) rfl
    d_law_due := d.def_ 30 (d := dLawDue) rfl
    d_law_lacks := d.def_ 31 (d := dLawLacks) rfl
    d_law_shortest := d.def_ 32 (d := dLawShortest) rfl
    d_law_step := d.def_ 33 (d := dLawStep) rfl
    d_law_over := d.def_ 34 (d := dLawOver) rfl
    d_law_asked := d.def_ 35 (d := dLawAsked) rfl
    d_law_bad_rows := d.def_ 36 (d := dLawBadRows) rfl
    d_law_bad_row := d.def_ 37 (d := dLawBadRow) rfl
    d_law_long_lacks := d.def_ 38 (d := dLawLongLacks) rfl
    d_law := d.def_ 39 (d := dLaw) rfl
    o_BadColour := ⟨He.glo_ok X G (d.fact 40 (f := .glo "BadColour") rfl), (oexB_ok e1).1, (oexB_ok e1).2, He.noat_ok (d.fact 75 (f := .noat "BadColour" "colour") rfl), (oiB_ok i1).1, (oiB_ok i1).2, d.def_ 40 (d := dBadColourInit) rfl⟩
    o_BadRow := ⟨He.glo_ok X G (d.fact 41 (f := .glo "BadRow") rfl), (oexB_ok e2).1, (oexB_ok e2).2, He.noat_ok (d.fact 76 (f := .noat "BadRow" "index") rfl), (oiB_ok i2).1, (oiB_ok i2).2, d.def_ 41 (d := dBadRowInit) rfl⟩
    o_BadRows := ⟨He.glo_ok X G (d.fact 42 (f := .glo "BadRows") rfl), (oexB_ok e3).1, (oexB_ok e3).2, He.noat_ok (d.fact 77 (f := .noat "BadRows" "index") rfl), (oiB_ok i3).1, (oiB_ok i3).2, d.def_ 42 (d := dBadRowsInit) rfl⟩
    plx := plB_ok pl
    d_plInit := d.def_ 43 (d := dPartingLineInit) rfl
    d_plEq := d.def_ 44 (d := dPartingLineEq) rfl }
end K21
end
section
set_option Elab.async false
set_option linter.all false
set_option maxRecDepth 100000
set_option maxHeartbeats 0
/-! the head: one run of the top in the kernel -/
namespace K21
open PySem PySem.W PySem.Calls PyProof.Rows L2
def ob (s : PySem.W.SharedT) : He.AlX := He.obsX 5 facts fns [] [] exB (HandSHeadRun.getT s)
theorem ob_eq (s : PySem.W.SharedT) : ob s = hk.obs s.abs := He.obsX_eq (HandSHeadRun.getT_eq s)
def names1 : List PySem.Str := ["HueError", "BadColour", "BadRow", "BadRows", "MOST_COLOUR", "LONGEST_ROW", "MOST_SHORT_ROWS", "LONGEST_SHORT_ROW", "PartingLine", "is_whole", "check_colour", "check_row", "strike_equal", "places_within", "without_head", "check_head", "next_places", "parting_step", "first_unlike", "line_for", "reach_lacks", "check_short_rows", "shortest_over", "_law_hand", "_law_mixed"]
def names2 : List PySem.Str := ["_law_take", "_law_struck", "_law_hidden", "_law_tuples", "_law_pick", "_law_whole", "_law_tone", "_law_row", "_law_varied", "_law_strip", "_law_inner", "_law_less", "_law_line_run", "_law_no_row", "_law_due", "_law_lacks", "_law_shortest", "_law_step", "_law_over", "_law_asked", "_law_bad_rows", "_law_bad_row", "_law_long_lacks"]
def names : List PySem.Str := names1 ++ names2
theorem headRun (w : World) : HandSHeadRun.RunEq R (PySem.W.view R.prog [52]) hk ob 3000 names w := by
  intro os
  kernel_rfl
end K21
end
section
/-! plain mathematics 1: order of words (shortlex), search by levels -/
set_option linter.all false
namespace K21
/-- lexicographic, ints -/
def lx : List Int → List Int → Bool
  | [], [] => false
  | [], _ :: _ => true
  | _ :: _, [] => false
  | x :: xs, y :: ys => if x = y then lx xs ys else decide (x < y)
theorem lx_cons (x y : Int) (xs ys : List Int) : lx (x :: xs) (y :: ys) = if x = y then lx xs ys else decide (x < y) := rfl
theorem lx_irr : ∀ u : List Int, lx u u = false
  | [] => rfl
  | x :: xs => by rw [lx_cons, if_pos rfl]; exact lx_irr xs
theorem lx_trans : ∀ {u v w : List Int}, lx u v = true → lx v w = true → lx u w = true
  | [], [], _, h, _ => by cases h
  | [], _ :: _, [], _, h => by cases h
  | [], _ :: _, _ :: _, _, _ => rfl
  | _ :: _, [], _, h, _ => by cases h
  | _ :: _, _ :: _, [], _, h => by cases h
  | x :: xs, y :: ys, z :: zs, h1, h2 => by
    rw [lx_cons] at h1 h2 ⊢
    by_cases e1 : x = y
    · rw [if_pos e1] at h1
      by_cases e2 : y = z
      · rw [if_pos e2] at h2
        rw [if_pos (e1.trans e2)]
        exact lx_trans h1 h2
      · rw [if_neg e2] at h2
        rw [if_neg (by rw [e1]; exact e2), e1]
        exact h2
    · rw [if_neg e1] at h1
      have h1' := of_decide_eq_true h1
      by_cases e2 : y = z
      · rw [if_neg (by rw [← e2]; exact e1), ← e2]
        exact h1
      · rw [if_neg e2] at h2
        have h2' := of_decide_eq_true h2
        rw [if_neg (by omega)]
        exact decide_eq_true (by omega)
theorem lx_total : ∀ u v : List Int, u = v ∨ lx u v = true ∨ lx v u = true
  | [], [] => .inl rfl
  | [], _ :: _ => .inr (.inl rfl)
  | _ :: _, [] => .inr (.inr rfl)
  | x :: xs, y :: ys => by
    rw [lx_cons, lx_cons]
    by_cases e : x = y
    · subst e
      rw [if_pos rfl, if_pos rfl]
      rcases lx_total xs ys with h | h | h
      · exact .inl (by rw [h])
      · exact .inr (.inl h)
      · exact .inr (.inr h)
    · rw [if_neg e, if_neg (fun z => e z.symm)]
      by_cases l : x < y
      · exact .inr (.inl (decide_eq_true l))
      · exact .inr (.inr (decide_eq_true (by omega)))
theorem lx_app : ∀ {u v : List Int} (a b : List Int), u.length = v.length → lx u v = true → lx (u ++ a) (v ++ b) = true
  | [], [], _, _, _, h => by cases h
  | [], _ :: _, _, _, h, _ => by simp at h
  | _ :: _, [], _, _, h, _ => by simp at h
  | x :: xs, y :: ys, a, b, hl, h => by
    rw [List.cons_append, List.cons_append, lx_cons]
    rw [lx_cons] at h
    by_cases e : x = y
    · rw [if_pos e] at h ⊢
      exact lx_app a b (by simpa using hl) h
    · rw [if_neg e] at h ⊢
      exact h
theorem lx_same (u a b : List Int) : lx (u ++ a) (u ++ b) = lx a b := by
  induction u with
  | nil => rfl
  | cons x xs ih => rw [List.cons_append, List.cons_append, lx_cons, if_pos rfl]; exact ih
/-- shorter, or of one length and less -/
def sl (u v : List Int) : Prop := u.length < v.length ∨ (u.length = v.length ∧ lx u v = true)
/-- at most -/
def sle (u v : List Int) : Prop := u = v ∨ sl u v
theorem sl_irr {u : List Int} : ¬ sl u u := fun h => by
  rcases h with h | ⟨_, h⟩
  · omega
  · rw [lx_irr] at h; cases h
theorem sl_trans {u v w : List Int} (h : sl u v) (h' : sl v w) : sl u w := by
  rcases h with h | ⟨h1, h2⟩ <;> rcases h' with h' | ⟨h3, h4⟩
  · exact .inl (by omega)
  · exact .inl (by omega)
  · exact .inl (by omega)
  · exact .inr ⟨by omega, lx_trans h2 h4⟩
theorem sle_trans {u v w : List Int} (h : sle u v) (h' : sle v w) : sle u w := by
  rcases h with rfl | h
  · exact h'
  · rcases h' with rfl | h'
    · exact .inr h
    · exact .inr (sl_trans h h')
theorem sle_refl (u : List Int) : sle u u := .inl rfl
theorem sl_total (u v : List Int) : u = v ∨ sl u v ∨ sl v u := by
  by_cases h : u.length < v.length
  · exact .inr (.inl (.inl h))
  · by_cases h' : v.length < u.length
    · exact .inr (.inr (.inl h'))
    · rcases lx_total u v with e | e | e
      · exact .inl e
      · exact .inr (.inl (.inr ⟨by omega, e⟩))
      · exact .inr (.inr (.inr ⟨by omega, e⟩))
theorem sle_anti {u v : List Int} (h : sle u v) (h' : sle v u) : u = v := by
  rcases h with h | h
  · exact h
  · rcases h' with h' | h'
    · exact h'.symm
    · exact absurd (sl_trans h h') sl_irr
theorem sle_of_not {u v : List Int} (h : ¬ sl v u) : sle u v := by
  rcases sl_total u v with e | e | e
  · exact .inl e
  · exact .inr e
  · exact absurd e h
theorem sle_len {u v : List Int} (h : sle u v) : u.length ≤ v.length := by
  rcases h with rfl | h | ⟨h, _⟩ <;> omega
theorem sle_snoc {u v : List Int} (t : Int) (h : sle u v) : sle (u ++ [t]) (v ++ [t]) := by
  rcases h with rfl | h | ⟨h, h'⟩
  · exact .inl rfl
  · exact .inr (.inl (by simp; omega))
  · exact .inr (.inr ⟨by simp; omega, lx_app _ _ h h'⟩)
theorem sle_cons {u v : List Int} (t : Int) (h : sle u v) : sle (t :: u) (t :: v) := by
  rcases h with rfl | h | ⟨h, h'⟩
  · exact .inl rfl
  · exact .inr (.inl (by simp; omega))
  · exact .inr (.inr ⟨by simp; omega, by rw [lx_cons, if_pos rfl]; exact h'⟩)
theorem sl_cons {u v : List Int} (t : Int) (h : sl u v) : sl (t :: u) (t :: v) := by
  rcases h with h | ⟨h, h'⟩
  · exact .inl (by simp; omega)
  · exact .inr ⟨by simp; omega, by rw [lx_cons, if_pos rfl]; exact h'⟩

/-- the least of those that are so, or none is -/
def IsMin (P : List Int → Prop) : Option (List Int) → Prop
  | some w => P w ∧ ∀ w', P w' → sle w w'
  | none => ∀ w, ¬ P w
theorem IsMin.uniq {P : List Int → Prop} {a b : Option (List Int)} (ha : IsMin P a) (hb : IsMin P b) : a = b := by
  cases a with
  | none =>
    cases b with
    | none => rfl
    | some w => exact absurd hb.1 (ha w)
  | some u =>
    cases b with
    | none => exact absurd ha.1 (hb u)
    | some v => rw [sle_anti (ha.2 v hb.1) (hb.2 u ha.1)]
theorem IsMin.congr {P Q : List Int → Prop} {a : Option (List Int)} (h : ∀ w, P w ↔ Q w) (ha : IsMin P a) : IsMin Q a := by
  cases a with
  | none => exact fun w hw => ha w ((h w).mpr hw)
  | some u => exact ⟨(h u).mp ha.1, fun w hw => ha.2 w ((h w).mpr hw)⟩

/-! ### search by levels -/
section
variable {S : Type} [DecidableEq S] (dl : S → Int → Option S) (syms : S → List Int) (s0 : S)
def run (s : S) : List Int → Option S
  | [] => some s
  | t :: w => (dl s t).bind fun s' => run s' w
theorem run_app (s : S) (u v : List Int) : run dl s (u ++ v) = (run dl s u).bind fun s' => run dl s' v := by
  induction u generalizing s with
  | nil => rfl
  | cons t u ih =>
    show (dl s t).bind (fun s' => run dl s' (u ++ v)) = ((dl s t).bind fun s' => run dl s' u).bind fun s' => run dl s' v
    cases dl s t with
    | none => rfl
    | some s' => exact ih s'
theorem run_snoc {s s' : S} {u : List Int} {t : Int} (h : run dl s u = some s') : run dl s (u ++ [t]) = dl s' t := by
  rw [run_app, h]
  show (dl s' t).bind (fun s' => some s') = dl s' t
  cases dl s' t <;> rfl
theorem run_unsnoc {s s' : S} {w : List Int} (hw : w ≠ []) (h : run dl s w = some s') : ∃ u t s1, w = u ++ [t] ∧ run dl s u = some s1 ∧ dl s1 t = some s' := by
  refine ⟨w.dropLast, w.getLast hw, ?_⟩
  have e : w = w.dropLast ++ [w.getLast hw] := (List.dropLast_concat_getLast hw).symm
  rw [e, run_app] at h
  cases q : run dl s w.dropLast with
  | none => rw [q] at h; cases h
  | some s1 =>
    rw [q] at h
    refine ⟨s1, e, rfl, ?_⟩
    have h' : (dl s1 (w.getLast hw)).bind (fun s' => some s') = some s' := h
    cases z : dl s1 (w.getLast hw) with
    | none => rw [z] at h'; cases h'
    | some s2 => rw [z] at h'; exact h'
/-- what one item of a level leads to -/
def kids (c : S × List Int) : List (S × List Int) := (syms c.1).filterMap fun t => (dl c.1 t).map fun s' => (s', c.2 ++ [t])
def cands (l : List (S × List Int)) : List (S × List Int) := l.flatMap (kids dl syms)
/-- ascending, without equals -/
def Asc : List Int → Prop := List.Pairwise (· < ·)
variable {dl syms s0}
theorem kids_mem {c e : S × List Int} : e ∈ kids dl syms c ↔ ∃ t ∈ syms c.1, dl c.1 t = some e.1 ∧ e.2 = c.2 ++ [t] := by
  unfold kids
  rw [List.mem_filterMap]
  constructor
  · rintro ⟨t, ht, h⟩
    cases q : dl c.1 t with
    | none => rw [q] at h; cases h
    | some s' =>
      rw [q] at h
      have e2 : (s', c.2 ++ [t]) = e := Option.some.inj h
      subst e2
      exact ⟨t, ht, q, rfl⟩
  · rintro ⟨t, ht, h1, h2⟩
    refine ⟨t, ht, ?_⟩
    rw [h1]
    show some (e.1, c.2 ++ [t]) = some e
    rw [← h2]
theorem kids_asc {c : S × List Int} (h : Asc (syms c.1)) : (kids dl syms c).Pairwise fun a b => lx a.2 b.2 = true := by
  unfold kids
  refine List.Pairwise.filterMap _ ?_ h
  intro a a' haa b hb b' hb'
  obtain ⟨x, _, rfl⟩ := Option.map_eq_some_iff.mp hb
  obtain ⟨x', _, rfl⟩ := Option.map_eq_some_iff.mp hb'
  show lx (c.2 ++ [a]) (c.2 ++ [a']) = true
  rw [lx_same, lx_cons, if_neg (by omega)]
  exact decide_eq_true haa
theorem cands_asc {l : List (S × List Int)} (hs : ∀ s, Asc (syms s)) {d : Nat} (hl : ∀ c ∈ l, c.2.length = d) (h : l.Pairwise fun a b => lx a.2 b.2 = true) : (cands dl syms l).Pairwise fun a b => lx a.2 b.2 = true := by
  induction l with
  | nil => exact List.Pairwise.nil
  | cons c r ih =>
    have hc := List.pairwise_cons.mp h
    show (kids dl syms c ++ cands dl syms r).Pairwise _
    refine List.pairwise_append.mpr ⟨kids_asc (hs c.1), ih (fun x hx => hl x (List.mem_cons_of_mem _ hx)) hc.2, ?_⟩
    intro a ha b hb
    obtain ⟨t, _, _, e1⟩ := kids_mem.mp ha
    obtain ⟨c', hc', hb⟩ := List.mem_flatMap.mp hb
    obtain ⟨t', _, _, e2⟩ := kids_mem.mp hb
    rw [e1, e2]
    refine lx_app _ _ ?_ (hc.1 c' hc')
    rw [hl c List.mem_cons_self, hl c' (List.mem_cons_of_mem _ hc')]
variable (dl syms s0)
/-- level d: what is kept of the words of length d; past: what was kept before; met: the states met -/
structure Lev (d : Nat) (past level : List (S × List Int)) (met : List S) : Prop where
  ok : ∀ c ∈ past ++ level, run dl s0 c.2 = some c.1
  plen : ∀ c ∈ past, c.2.length < d
  llen : ∀ c ∈ level, c.2.length = d
  srt : level.Pairwise fun a b => lx a.2 b.2 = true
  mt : ∀ s, s ∈ met ↔ ∃ c ∈ past ++ level, c.2 ≠ [] ∧ c.1 = s
  nd : met.Nodup
  dom : ∀ w s, run dl s0 w = some s → w.length ≤ d → ∃ c ∈ past ++ level, c.1 = s ∧ sle c.2 w
/-- within a level: done of its candidates, rest; foll: what is kept of the next level -/
structure Mid (d : Nat) (past level foll : List (S × List Int)) (met : List S) (don rest : List (S × List Int)) : Prop where
  ok : ∀ c ∈ past ++ level ++ foll, run dl s0 c.2 = some c.1
  plen : ∀ c ∈ past, c.2.length < d
  llen : ∀ c ∈ level, c.2.length = d
  flen : ∀ c ∈ foll, c.2.length = d + 1
  all : cands dl syms level = don ++ rest
  asc : (don ++ rest).Pairwise fun a b => lx a.2 b.2 = true
  fs : foll.Sublist don
  mt : ∀ s, s ∈ met ↔ ∃ c ∈ past ++ level ++ foll, c.2 ≠ [] ∧ c.1 = s
  nd : met.Nodup
  dom : ∀ w s, run dl s0 w = some s → w.length ≤ d → ∃ c ∈ past ++ level, c.1 = s ∧ sle c.2 w
  dn : ∀ c ∈ don, ∃ c' ∈ past ++ level ++ foll, c'.2 ≠ [] ∧ c'.1 = c.1 ∧ sle c'.2 c.2
variable {dl syms s0} {d : Nat} {past level foll don rest : List (S × List Int)} {met : List S}
theorem Lev.start : Lev dl s0 0 [] [(s0, [])] [] where
  ok := fun c hc => by
    have e : c = (s0, []) := by simpa using hc
    subst e
    rfl
  plen := fun c hc => by cases hc
  llen := fun c hc => by
    have e : c = (s0, []) := by simpa using hc
    subst e
    rfl
  srt := List.pairwise_singleton _ _
  mt := fun s => by
    constructor
    · intro h; cases h
    · rintro ⟨c, hc, h, _⟩
      have e : c = (s0, []) := by simpa using hc
      subst e
      exact absurd rfl h
  nd := List.nodup_nil
  dom := fun w s h hl => by
    have e : w = [] := List.eq_nil_of_length_eq_zero (by omega)
    subst e
    refine ⟨(s0, []), by simp, ?_, .inl rfl⟩
    exact Option.some.inj h
theorem Lev.mid (L : Lev dl s0 d past level met) (hs : ∀ s, Asc (syms s)) : Mid dl syms s0 d past level [] met [] (cands dl syms level) where
  ok := by rw [List.append_nil]; exact L.ok
  plen := L.plen
  llen := L.llen
  flen := fun c hc => by cases hc
  all := rfl
  asc := by rw [List.nil_append]; exact cands_asc hs L.llen L.srt
  fs := List.Sublist.refl _
  mt := by rw [List.append_nil]; exact L.mt
  nd := L.nd
  dom := L.dom
  dn := fun c hc => by cases hc
theorem Mid.c_run {c : S × List Int} (M : Mid dl syms s0 d past level foll met don (c :: rest)) : run dl s0 c.2 = some c.1 ∧ c.2.length = d + 1 ∧ c.2 ≠ [] := by
  have hm : c ∈ cands dl syms level := by rw [M.all]; simp
  obtain ⟨p, hp, hc⟩ := List.mem_flatMap.mp hm
  obtain ⟨t, _, h1, h2⟩ := kids_mem.mp hc
  have h3 := M.ok p (by simp [hp])
  refine ⟨?_, ?_, ?_⟩
  · rw [h2, run_snoc dl h3]; exact h1
  · rw [h2, List.length_append, M.llen p hp]; rfl
  · rw [h2]; simp
/-- a candidate whose state is met already -/
theorem Mid.skip {c : S × List Int} (M : Mid dl syms s0 d past level foll met don (c :: rest)) (h : c.1 ∈ met) : Mid dl syms s0 d past level foll met (don ++ [c]) rest where
  ok := M.ok
  plen := M.plen
  llen := M.llen
  flen := M.flen
  all := by rw [M.all]; simp
  asc := by have := M.asc; simpa using this
  fs := M.fs.trans (List.sublist_append_left _ _)
  mt := M.mt
  nd := M.nd
  dom := M.dom
  dn := fun e he => by
    rcases List.mem_append.mp he with he | he
    · exact M.dn e he
    · have e1 : e = c := by simpa using he
      subst e1
      obtain ⟨c', hc', h1, h2⟩ := (M.mt e.1).mp h
      refine ⟨c', hc', h1, h2, ?_⟩
      have hl := M.c_run.2.1
      rcases List.mem_append.mp hc' with hc' | hf
      · rcases List.mem_append.mp hc' with hp | hv
        · exact .inr (.inl (by have := M.plen c' hp; omega))
        · exact .inr (.inl (by have := M.llen c' hv; omega))
      · refine .inr (.inr ⟨by rw [M.flen c' hf, hl], ?_⟩)
        exact (List.pairwise_append.mp M.asc).2.2 c' (M.fs.subset hf) e List.mem_cons_self
/-- a candidate of a new state -/
theorem Mid.add {c : S × List Int} (M : Mid dl syms s0 d past level foll met don (c :: rest)) (h : c.1 ∉ met) : Mid dl syms s0 d past level (foll ++ [c]) (met ++ [c.1]) (don ++ [c]) rest where
  ok := fun e he => by
    rw [← List.append_assoc] at he
    rcases List.mem_append.mp he with he | he
    · exact M.ok e he
    · have e1 : e = c := by simpa using he
      subst e1
      exact M.c_run.1
  plen := M.plen
  llen := M.llen
  flen := fun e he => by
    rcases List.mem_append.mp he with he | he
    · exact M.flen e he
    · have e1 : e = c := by simpa using he
      subst e1
      exact M.c_run.2.1
  all := by rw [M.all]; simp
  asc := by have := M.asc; simpa using this
  fs := List.Sublist.append M.fs (List.Sublist.refl _)
  mt := fun s => by
    rw [List.mem_append, M.mt s]
    constructor
    · rintro (⟨c', hc', h1, h2⟩ | h2)
      · exact ⟨c', by rw [← List.append_assoc]; exact List.mem_append_left _ hc', h1, h2⟩
      · have e : s = c.1 := by simpa using h2
        exact ⟨c, by simp, M.c_run.2.2, e.symm⟩
    · rintro ⟨c', hc', h1, h2⟩
      rw [← List.append_assoc] at hc'
      rcases List.mem_append.mp hc' with hc' | hc'
      · exact .inl ⟨c', hc', h1, h2⟩
      · have e1 : c' = c := by simpa using hc'
        subst e1
        exact .inr (by simp [h2])
  nd := by
    refine List.nodup_append.mpr ⟨M.nd, by simp, ?_⟩
    intro a ha b hb e
    have e1 : b = c.1 := by simpa using hb
    rw [e, e1] at ha
    exact h ha
  dom := M.dom
  dn := fun e he => by
    rcases List.mem_append.mp he with he | he
    · obtain ⟨c', hc', q⟩ := M.dn e he
      exact ⟨c', by rw [← List.append_assoc]; exact List.mem_append_left _ hc', q⟩
    · have e1 : e = c := by simpa using he
      subst e1
      exact ⟨e, by simp, M.c_run.2.2, rfl, .inl rfl⟩
/-- where a word of length d + 1 leads, by what was kept -/
theorem Mid.reach (M : Mid dl syms s0 d past level foll met don rest) (hy : ∀ s t s', dl s t = some s' → t ∈ syms s) {w : List Int} {s : S} (h : run dl s0 w = some s) (hl : w.length = d + 1) :
    (∃ c ∈ past ++ level, c.1 = s ∧ sle c.2 w) ∨ ∃ c ∈ cands dl syms level, c.1 = s ∧ sle c.2 w := by
  obtain ⟨u, t, s1, e, h1, h2⟩ := run_unsnoc dl (by intro e; rw [e] at hl; simp at hl) h
  subst e
  have hu : u.length = d := by simp at hl; omega
  obtain ⟨c, hc, e1, q⟩ := M.dom u s1 h1 (by omega)
  have hr := M.ok c (List.mem_append_left _ hc)
  rw [e1] at hr
  rcases List.mem_append.mp hc with hp | hv
  · have hlt := M.plen c hp
    obtain ⟨c', hc', e2, q2⟩ := M.dom (c.2 ++ [t]) s ((run_snoc dl hr).trans h2) (by simp; omega)
    exact .inl ⟨c', hc', e2, sle_trans q2 (sle_snoc t q)⟩
  · refine .inr ⟨(s, c.2 ++ [t]), List.mem_flatMap.mpr ⟨c, hv, kids_mem.mpr ⟨t, ?_, ?_, rfl⟩⟩, rfl, sle_snoc t q⟩
    · rw [e1]; exact hy _ _ _ h2
    · rw [e1]; exact h2
theorem Mid.next (M : Mid dl syms s0 d past level foll met don []) (hy : ∀ s t s', dl s t = some s' → t ∈ syms s) : Lev dl s0 (d + 1) (past ++ level) foll met where
  ok := M.ok
  plen := fun c hc => by
    rcases List.mem_append.mp hc with hc | hc
    · have := M.plen c hc; omega
    · have := M.llen c hc; omega
  llen := M.flen
  srt := by
    have h := M.asc
    rw [List.append_nil] at h
    exact h.sublist M.fs
  mt := M.mt
  nd := M.nd
  dom := fun w s h hl => by
    by_cases hd : w.length ≤ d
    · obtain ⟨c, hc, q⟩ := M.dom w s h hd
      exact ⟨c, List.mem_append_left _ hc, q⟩
    · rcases M.reach hy h (by omega) with ⟨c, hc, q⟩ | ⟨c, hc, e, q⟩
      · exact ⟨c, List.mem_append_left _ hc, q⟩
      · rw [M.all, List.append_nil] at hc
        obtain ⟨c', hc', _, e', q'⟩ := M.dn c hc
        exact ⟨c', hc', e'.trans e, sle_trans q' q⟩
/-- a candidate that is wanted, found ahead of all others: it is least -/
theorem Mid.found {c : S × List Int} (M : Mid dl syms s0 d past level foll met don (c :: rest)) (hy : ∀ s t s', dl s t = some s' → t ∈ syms s) {G : S → Prop} (hg : ∀ e ∈ past ++ level ++ foll, ¬ G e.1) (hc : G c.1) :
    IsMin (fun w => ∃ s, run dl s0 w = some s ∧ G s) (some c.2) := by
  refine ⟨⟨c.1, M.c_run.1, hc⟩, ?_⟩
  rintro w ⟨s, h, hs⟩
  have hl := M.c_run.2.1
  by_cases h1 : w.length ≤ d
  · obtain ⟨e, he, q, _⟩ := M.dom w s h h1
    exact absurd (q ▸ hs) (hg e (List.mem_append_left _ he))
  by_cases h2 : d + 1 < w.length
  · exact .inr (.inl (by omega))
  rcases M.reach hy h (by omega) with ⟨e, he, q, _⟩ | ⟨e, he, q, z⟩
  · exact absurd (q ▸ hs) (hg e (List.mem_append_left _ he))
  · rw [M.all] at he
    rcases List.mem_append.mp he with he | he
    · obtain ⟨c', hc', _, e', _⟩ := M.dn e he
      exact absurd ((e'.trans q) ▸ hs) (hg c' hc')
    · rcases List.mem_cons.mp he with rfl | he
      · exact z
      · have ha := (List.pairwise_append.mp M.asc).2.1
        have hlt := (List.pairwise_cons.mp ha).1 e he
        have hm : e ∈ cands dl syms level := by rw [M.all]; simp [he]
        obtain ⟨p, hp, hk⟩ := List.mem_flatMap.mp hm
        obtain ⟨t, _, _, e2⟩ := kids_mem.mp hk
        have hle : e.2.length = d + 1 := by rw [e2, List.length_append, M.llen p hp]; rfl
        exact sle_trans (.inr (.inr ⟨by omega, hlt⟩)) z
/-- an item of the level itself that is wanted -/
theorem Lev.found {pre post : List (S × List Int)} {c : S × List Int} (L : Lev dl s0 d past level met) (e : level = pre ++ c :: post) {G : S → Prop} (hg : ∀ x ∈ past ++ pre, ¬ G x.1) (hc : G c.1) :
    IsMin (fun w => ∃ s, run dl s0 w = some s ∧ G s) (some c.2) := by
  have hm : c ∈ level := by rw [e]; simp
  have hl := L.llen c hm
  refine ⟨⟨c.1, L.ok c (List.mem_append_right _ hm), hc⟩, ?_⟩
  rintro w ⟨s, h, hs⟩
  by_cases h1 : w.length ≤ d
  · obtain ⟨x, hx, q, z⟩ := L.dom w s h h1
    rcases List.mem_append.mp hx with hx | hx
    · exact absurd (q ▸ hs) (hg x (List.mem_append_left _ hx))
    · have hlx := L.llen x hx
      rw [e] at hx
      rcases List.mem_append.mp hx with hx | hx
      · exact absurd (q ▸ hs) (hg x (List.mem_append_right _ hx))
      · rcases List.mem_cons.mp hx with rfl | hx
        · exact z
        · have ha := L.srt
          rw [e] at ha
          have hlt := (List.pairwise_cons.mp (List.pairwise_append.mp ha).2.1).1 x hx
          exact sle_trans (.inr (.inr ⟨by omega, hlt⟩)) z
  · exact .inr (.inl (by omega))
/-- nothing is left: nothing is wanted -/
theorem Lev.none (L : Lev dl s0 d past [] met) {G : S → Prop} (hg : ∀ x ∈ past, ¬ G x.1) : IsMin (fun w => ∃ s, run dl s0 w = some s ∧ G s) none := by
  have key : ∀ (n : Nat) (w : List Int) (s : S), w.length = n → run dl s0 w = some s → ∃ c ∈ past, c.1 = s := by
    intro n
    induction n with
    | zero =>
      intro w s hl h
      obtain ⟨c, hc, q, _⟩ := L.dom w s h (by omega)
      rw [List.append_nil] at hc
      exact ⟨c, hc, q⟩
    | succ n ih =>
      intro w s hl h
      obtain ⟨u, t, s1, e, h1, h2⟩ := run_unsnoc dl (by intro e; rw [e] at hl; simp at hl) h
      subst e
      obtain ⟨c, hc, e1⟩ := ih u s1 (by simp at hl; omega) h1
      have hr := L.ok c (List.mem_append_left _ hc)
      rw [e1] at hr
      have hlt := L.plen c hc
      obtain ⟨c', hc', q, _⟩ := L.dom (c.2 ++ [t]) s ((run_snoc dl hr).trans h2) (by simp; omega)
      rw [List.append_nil] at hc'
      exact ⟨c', hc', q⟩
  rintro w ⟨s, h, hs⟩
  obtain ⟨c, hc, e⟩ := key w.length w s rfl h
  exact hg c hc (e ▸ hs)
end

/-- a list without equals, coded below B, has at most B items -/
theorem nodup_nat : ∀ (B : Nat) (l : List Nat), l.Nodup → (∀ x ∈ l, x < B) → l.length ≤ B
  | 0, l, _, h => by
    cases l with
    | nil => exact Nat.le_refl _
    | cons a r => exact absurd (h a List.mem_cons_self) (Nat.not_lt_zero _)
  | B + 1, l, nd, h => by
    by_cases hB : B ∈ l
    · have h1 := nodup_nat B (l.erase B) (nd.erase B) fun x hx => by
        have hx' := (List.Nodup.mem_erase_iff nd).mp hx
        have := h x hx'.2
        have : x ≠ B := hx'.1
        omega
      rw [List.length_erase_of_mem hB] at h1
      omega
    · have h1 := nodup_nat B l nd fun x hx => by
        have := h x hx
        have : x ≠ B := fun e => hB (e ▸ hx)
        omega
      omega
theorem nodup_code {S : Type} (f : S → Nat) (B : Nat) (l : List S) (nd : l.Nodup) (inj : ∀ x ∈ l, ∀ y ∈ l, f x = f y → x = y) (h : ∀ x ∈ l, f x < B) : l.length ≤ B := by
  have e : (l.map f).length ≤ B := by
    refine nodup_nat B _ ?_ ?_
    · rw [List.nodup_iff_pairwise_ne, List.pairwise_map]
      have nd' := List.nodup_iff_pairwise_ne.mp nd
      exact List.Pairwise.imp_of_mem (fun {a b} ha hb hne e => hne (inj a ha b hb e)) nd'
    · intro x hx
      obtain ⟨y, hy, rfl⟩ := List.mem_map.mp hx
      exact h y hy
  rwa [List.length_map] at e
end K21
end
section
set_option linter.all false
/-! plain mathematics 2: words without equal neighbours, hidden words, next places -/
namespace K21
/-! ### least ones -/
theorem IsMin.add {P : List Int → Prop} {b : Option (List Int)} (h : IsMin P b) {x : List Int} {c : Bool} (hc : c = true ↔ (b = none ∨ ∃ y, b = some y ∧ sl x y)) :
    IsMin (fun w => P w ∨ w = x) (if c = true then some x else b) := by
  cases b with
  | none =>
    rw [if_pos (hc.mpr (.inl rfl))]
    exact ⟨.inr rfl, fun w hw => hw.elim (fun z => absurd z (h w)) fun z => .inl z.symm⟩
  | some y =>
    by_cases q : sl x y
    · rw [if_pos (hc.mpr (.inr ⟨y, rfl, q⟩))]
      exact ⟨.inr rfl, fun w hw => hw.elim (fun z => sle_trans (.inr q) (h.2 w z)) fun z => .inl z.symm⟩
    · rw [if_neg (fun z => ?_)]
      · exact ⟨.inl h.1, fun w hw => hw.elim (h.2 w) fun z => by rw [z]; exact sle_of_not q⟩
      · rcases hc.mp z with e | ⟨y', e, q'⟩
        · cases e
        · cases e
          exact q q'
theorem IsMin.nil {P : List Int → Prop} (h : ∀ w, ¬ P w) : IsMin P none := h

/-! ### no equal neighbours -/
def Nb : List Int → Prop
  | [] => True
  | a :: r => r.head? ≠ some a ∧ Nb r
theorem Nb_snoc (t : Int) : ∀ w : List Int, Nb (w ++ [t]) ↔ Nb w ∧ w.getLast? ≠ some t
  | [] => by simp [Nb]
  | [a] => by simp [Nb]; exact ⟨fun h e => h e.symm, fun h e => h e.symm⟩
  | a :: b :: r => by
    have ih := Nb_snoc t (b :: r)
    have e1 : (a :: b :: r).getLast? = (b :: r).getLast? := by simp [List.getLast?_cons_cons]
    rw [e1]
    show (((b :: r) ++ [t]).head? ≠ some a ∧ Nb ((b :: r) ++ [t])) ↔ ((b :: r).head? ≠ some a ∧ Nb (b :: r)) ∧ _
    rw [ih]
    simp [and_assoc]
theorem Nb_tail {a : Int} {w : List Int} (h : Nb (a :: w)) : Nb w := h.2
theorem Nb_app_left : ∀ {u v : List Int}, Nb (u ++ v) → Nb u
  | [], _, _ => trivial
  | [a], v, h => by simp [Nb]
  | a :: b :: r, v, h => ⟨h.1, Nb_app_left (u := b :: r) h.2⟩

/-- one more colour, no equal neighbours -/
def push (acc : List Int) (t : Int) : List Int := if acc.getLast? = some t then acc else acc ++ [t]
def strike (row : List Int) : List Int := row.foldl push []
theorem push_len (acc : List Int) (t : Int) : (push acc t).length ≤ acc.length + 1 := by
  unfold push
  split
  · omega
  · simp
theorem strikeGo_len : ∀ (row acc : List Int), (row.foldl push acc).length ≤ acc.length + row.length
  | [], acc => by simp
  | t :: r, acc => by
    have h := strikeGo_len r (push acc t)
    have h2 := push_len acc t
    simp only [List.foldl_cons, List.length_cons]
    omega
theorem strike_len (row : List Int) : (strike row).length ≤ row.length := by
  have := strikeGo_len row []
  simpa [strike] using this
theorem strike_snoc (r : List Int) (t : Int) : strike (r ++ [t]) = push (strike r) t := by
  unfold strike
  rw [List.foldl_append]
  rfl
/-- induction from the right -/
theorem rev_ind {α : Type} {P : List α → Prop} (h0 : P []) (hs : ∀ r t, P r → P (r ++ [t])) (l : List α) : P l := by
  have key : ∀ n (l : List α), l.length = n → P l := by
    intro n
    induction n with
    | zero => intro l hl; rw [List.eq_nil_of_length_eq_zero hl]; exact h0
    | succ n ih =>
      intro l hl
      have hne : l ≠ [] := by intro e; rw [e] at hl; simp at hl
      rw [← List.dropLast_concat_getLast hne]
      exact hs _ _ (ih _ (by simp [hl]))
  exact key _ l rfl
theorem strike_last (r : List Int) : (strike r).getLast? = r.getLast? := by
  induction r using rev_ind with
  | h0 => rfl
  | hs r t ih =>
    rw [strike_snoc, push]
    split
    · rename_i h
      rw [h]
      simp
    · simp
theorem strike_nb (r : List Int) : Nb (strike r) := by
  induction r using rev_ind with
  | h0 => trivial
  | hs r t ih =>
    rw [strike_snoc, push]
    split
    · exact ih
    · rename_i h
      exact (Nb_snoc t _).mpr ⟨ih, h⟩
theorem push_sub (acc : List Int) (t : Int) : acc.Sublist (push acc t) := by
  unfold push
  split
  · exact List.Sublist.refl _
  · exact List.sublist_append_left _ _
theorem strike_sub (r : List Int) : (strike r).Sublist r := by
  induction r using rev_ind with
  | h0 => exact List.Sublist.refl _
  | hs r t ih =>
    rw [strike_snoc, push]
    split
    · exact ih.trans (List.sublist_append_left _ _)
    · exact ih.append (List.Sublist.refl _)
/-- a hidden word within r and one more -/
theorem sub_snoc {w r : List Int} {t : Int} : w.Sublist (r ++ [t]) ↔ w.Sublist r ∨ ∃ u, w = u ++ [t] ∧ u.Sublist r := by
  constructor
  · intro h
    obtain ⟨l1, l2, e, h1, h2⟩ := List.sublist_append_iff.mp h
    rcases List.sublist_cons_iff.mp h2 with h2 | ⟨x, e2, h2⟩
    · have : l2 = [] := List.sublist_nil.mp h2
      subst this
      rw [List.append_nil] at e
      exact .inl (e ▸ h1)
    · have : x = [] := List.sublist_nil.mp h2
      subst this
      subst e2
      exact .inr ⟨l1, e, h1⟩
  · rintro (h | ⟨u, rfl, h⟩)
    · exact h.trans (List.sublist_append_left _ _)
    · exact h.append (List.Sublist.refl _)
theorem sub_drop_last {w s : List Int} {t : Int} (h : w.Sublist (s ++ [t])) (hl : w.getLast? ≠ some t) : w.Sublist s := by
  rcases sub_snoc.mp h with h | ⟨u, rfl, _⟩
  · exact h
  · simp at hl
theorem sub_strike {w r : List Int} (hn : Nb w) : w.Sublist (strike r) ↔ w.Sublist r := by
  constructor
  · exact fun h => h.trans (strike_sub r)
  · revert w
    induction r using rev_ind with
    | h0 => intro w _ h; exact h
    | hs r t ih =>
      intro w hn h
      rw [strike_snoc]
      rcases sub_snoc.mp h with h2 | ⟨u, rfl, h2⟩
      · exact (ih hn h2).trans (push_sub _ _)
      · obtain ⟨n1, n2⟩ := (Nb_snoc t u).mp hn
        have hu := ih n1 h2
        unfold push
        split
        · rename_i hl
          have hne : strike r ≠ [] := by intro e; rw [e] at hl; cases hl
          have e : strike r = (strike r).dropLast ++ [t] := by
            have e1 := (List.dropLast_concat_getLast hne).symm
            have e2 : (strike r).getLast hne = t := by
              rw [List.getLast?_eq_some_getLast hne] at hl
              exact Option.some.inj hl
            rw [e2] at e1
            exact e1
          rw [e] at hu ⊢
          exact (sub_drop_last hu n2).append (List.Sublist.refl _)
        · exact hu.append (List.Sublist.refl _)
/-- the struck row without the colour at its head -/
def strip (head : Option Int) (row : List Int) : List Int := if head ≠ none ∧ (strike row).head? = head then (strike row).tail else strike row
theorem strip_none (row : List Int) : strip none row = strike row := by
  unfold strip
  rw [if_neg (fun z => z.1 rfl)]
theorem Nb_tl {w : List Int} (h : Nb w) : Nb w.tail := by
  cases w with
  | nil => trivial
  | cons a r => exact h.2
theorem strip_nb (head : Option Int) (row : List Int) : Nb (strip head row) := by
  unfold strip
  split
  · exact Nb_tl (strike_nb row)
  · exact strike_nb row
theorem strip_sub (head : Option Int) (row : List Int) : (strip head row).Sublist (strike row) := by
  unfold strip
  split
  · exact List.tail_sublist _
  · exact List.Sublist.refl _
theorem strip_len (head : Option Int) (row : List Int) : (strip head row).length ≤ row.length :=
  Nat.le_trans (strip_sub head row).length_le (strike_len row)
theorem strip_head (h : Int) (row : List Int) : (strip (some h) row).head? ≠ some h := by
  unfold strip
  split
  · rename_i c
    have hn := strike_nb row
    cases e : strike row with
    | nil => simp
    | cons a r =>
      rw [e] at c hn
      have : a = h := by simpa using c.2
      subst this
      exact hn.1
  · rename_i c
    intro e
    exact c ⟨by simp, e⟩
/-- a word that does not begin with the head is hidden in the one exactly if in the other -/
theorem sub_strip {h : Int} {w row : List Int} (hh : w.head? ≠ some h) : w.Sublist (strip (some h) row) ↔ w.Sublist (strike row) := by
  constructor
  · exact fun z => z.trans (strip_sub _ _)
  · intro z
    unfold strip
    split
    · rename_i c
      cases e : strike row with
      | nil => rw [e] at z; exact z
      | cons a r =>
        rw [e] at c z
        have : a = h := by simpa using c.2
        subst this
        rcases List.sublist_cons_iff.mp z with z | ⟨x, rfl, _⟩
        · exact z
        · simp at hh
    · exact z

/-! ### hidden by places -/
/-- the place behind the next t from p on, or the one behind all -/
def nxt (l : List Int) (p : Nat) (t : Int) : Nat := p + (l.drop p).findIdx (fun x => decide (x = t))
def gone (l : List Int) : Nat := l.length + 1
def adv (l : List Int) (p : Nat) (t : Int) : Nat := if nxt l p t < l.length then nxt l p t + 1 else gone l
def pos (l : List Int) (p : Nat) (w : List Int) : Nat := w.foldl (adv l) p
theorem pos_app (l : List Int) (p : Nat) (u v : List Int) : pos l p (u ++ v) = pos l (pos l p u) v := List.foldl_append
theorem nxt_lt {l : List Int} {p : Nat} {t : Int} (h : nxt l p t < l.length) : l[nxt l p t]? = some t ∧ p ≤ nxt l p t ∧ ∀ j, p ≤ j → j < nxt l p t → l[j]? ≠ some t := by
  have hlt : (l.drop p).findIdx (fun x => decide (x = t)) < (l.drop p).length := by
    rw [List.length_drop]
    unfold nxt at h
    omega
  refine ⟨?_, by unfold nxt; omega, ?_⟩
  · have q := List.findIdx_getElem (w := hlt)
    have e : l[nxt l p t]? = some ((l.drop p)[(l.drop p).findIdx (fun x => decide (x = t))]) := by
      rw [List.getElem_drop]
      exact List.getElem?_eq_getElem h
    rw [e]
    exact congrArg some (of_decide_eq_true q)
  · intro j h1 h2 e
    have hj : j - p < (l.drop p).findIdx (fun x => decide (x = t)) := by unfold nxt at h2; omega
    have q := List.not_of_lt_findIdx hj
    rw [List.getElem_drop] at q
    have hjl : j < l.length := by omega
    rw [List.getElem?_eq_getElem hjl] at e
    have e2 : p + (j - p) = j := by omega
    simp only [e2] at q
    rw [Option.some.inj e] at q
    simp at q
theorem nxt_ge {l : List Int} {p : Nat} {t : Int} (h : ¬ nxt l p t < l.length) : ∀ j, p ≤ j → l[j]? ≠ some t := by
  intro j h1 e
  have hjl : j < l.length := (List.getElem?_eq_some_iff.mp e).1
  have hj : j - p < (l.drop p).findIdx (fun x => decide (x = t)) := by unfold nxt at h; omega
  have q := List.not_of_lt_findIdx hj
  rw [List.getElem_drop] at q
  rw [List.getElem?_eq_getElem hjl] at e
  have e2 : p + (j - p) = j := by omega
  simp only [e2] at q
  rw [Option.some.inj e] at q
  simp at q
/-- the place is what the loop finds -/
theorem nxt_is {l : List Int} {p q : Nat} {t : Int} (hpq : p ≤ q) (hq : l[q]? = some t) (hn : ∀ j, p ≤ j → j < q → l[j]? ≠ some t) : nxt l p t = q := by
  have hql : q < l.length := (List.getElem?_eq_some_iff.mp hq).1
  by_cases h : nxt l p t < l.length
  · obtain ⟨a, b, c⟩ := nxt_lt h
    by_cases h1 : nxt l p t < q
    · exact absurd a (hn _ b h1)
    · by_cases h2 : q < nxt l p t
      · exact absurd hq (c q hpq h2)
      · omega
  · exact absurd hq (nxt_ge h q hpq)
theorem adv_is {l : List Int} {p q : Nat} {t : Int} (hpq : p ≤ q) (hq : l[q]? = some t) (hn : ∀ j, p ≤ j → j < q → l[j]? ≠ some t) : adv l p t = q + 1 := by
  unfold adv
  rw [nxt_is hpq hq hn, if_pos (List.getElem?_eq_some_iff.mp hq).1]
theorem adv_none {l : List Int} {p : Nat} {t : Int} (hn : ∀ j, p ≤ j → l[j]? ≠ some t) : adv l p t = gone l := by
  unfold adv
  split
  · rename_i h
    obtain ⟨a, b, _⟩ := nxt_lt h
    exact absurd a (hn _ b)
  · rfl
theorem adv_le (l : List Int) (p : Nat) (t : Int) : adv l p t ≤ gone l := by
  unfold adv gone
  split <;> omega
theorem adv_pos (l : List Int) (p : Nat) (t : Int) : 0 < adv l p t := by
  unfold adv gone
  split <;> omega
theorem adv_gone (l : List Int) (t : Int) : adv l (gone l) t = gone l := by
  refine adv_none fun j hj e => ?_
  have := (List.getElem?_eq_some_iff.mp e).1
  unfold gone at hj
  omega
theorem adv_mem {l : List Int} {p : Nat} {t : Int} (h : adv l p t ≠ gone l) : t ∈ l := by
  unfold adv at h
  split at h
  · rename_i q
    exact List.mem_of_getElem? (nxt_lt q).1
  · exact absurd rfl h
theorem pos_gone (l w : List Int) : pos l (gone l) w = gone l := by
  induction w with
  | nil => rfl
  | cons t w ih =>
    show pos l (adv l (gone l) t) w = gone l
    rw [adv_gone]
    exact ih
theorem pos_le (l w : List Int) {p : Nat} (h : p ≤ gone l) : pos l p w ≤ gone l := by
  induction w generalizing p with
  | nil => exact h
  | cons t w ih => exact ih (adv_le l p t)
theorem sub_skip {t : Int} {w rest : List Int} : ∀ {pre : List Int}, t ∉ pre → ((t :: w).Sublist (pre ++ t :: rest) ↔ w.Sublist rest)
  | [], _ => List.cons_sublist_cons
  | a :: pre, h => by
    have h1 : t ∉ pre := fun z => h (List.mem_cons_of_mem _ z)
    have h2 : a ≠ t := fun z => h (z ▸ List.mem_cons_self)
    refine Iff.trans ?_ (sub_skip (pre := pre) h1)
    constructor
    · intro z
      rcases List.sublist_cons_iff.mp z with z | ⟨x, e, _⟩
      · exact z
      · injection e with e1 _
        exact absurd e1.symm h2
    · intro z
      exact List.Sublist.cons _ z
/-- hidden exactly if the places do not run out -/
theorem pos_iff (l : List Int) : ∀ (w : List Int) (p : Nat), p ≤ l.length → (pos l p w ≠ gone l ↔ w.Sublist (l.drop p))
  | [], p, hp => by
    constructor
    · intro _; exact List.nil_sublist _
    · intro _
      show p ≠ l.length + 1
      omega
  | t :: w, p, hp => by
    show pos l (adv l p t) w ≠ gone l ↔ _
    by_cases h : nxt l p t < l.length
    · obtain ⟨a, b, c⟩ := nxt_lt h
      have e : adv l p t = nxt l p t + 1 := by unfold adv; rw [if_pos h]
      rw [e, pos_iff l w (nxt l p t + 1) h]
      have e2 : l.drop p = ((l.drop p).take (nxt l p t - p)) ++ t :: l.drop (nxt l p t + 1) := by
        have e3 : (l.drop p).drop (nxt l p t - p) = l.drop (nxt l p t) := by rw [List.drop_drop]; congr 1; omega
        have e4 : l.drop (nxt l p t) = t :: l.drop (nxt l p t + 1) := by
          rw [List.drop_eq_getElem_cons h]
          congr 1
          rw [List.getElem?_eq_getElem h] at a
          exact Option.some.inj a
        rw [← e4, ← e3, List.take_append_drop]
      rw [e2]
      refine (sub_skip fun hm => ?_).symm
      obtain ⟨j, hj, ej⟩ := List.mem_iff_getElem.mp hm
      rw [List.length_take] at hj
      rw [List.getElem_take, List.getElem_drop] at ej
      refine c (p + j) (by omega) (by omega) ?_
      rw [List.getElem?_eq_getElem (by omega)]
      exact congrArg some ej
    · have e : adv l p t = gone l := by unfold adv; rw [if_neg h]
      rw [e, pos_gone]
      constructor
      · intro z; exact absurd rfl z
      · intro z _
        have hm : t ∈ l.drop p := z.subset List.mem_cons_self
        obtain ⟨j, hj, ej⟩ := List.mem_iff_getElem.mp hm
        rw [List.length_drop] at hj
        rw [List.getElem_drop] at ej
        refine nxt_ge h (p + j) (by omega) ?_
        rw [List.getElem?_eq_getElem (by omega)]
        exact congrArg some ej
theorem pos0_iff (l w : List Int) : pos l 0 w ≠ gone l ↔ w.Sublist l := pos_iff l w 0 (Nat.zero_le _)
/-! ### hidden by one walk over the other row -/
def hgo (row : List Int) (at_ : Nat) (c : Int) : Nat := if row[at_]? = some c then at_ + 1 else at_
theorem hgo_le {row : List Int} {a : Nat} {c : Int} (h : a ≤ row.length) : hgo row a c ≤ row.length := by
  unfold hgo
  split
  · rename_i e
    exact (List.getElem?_eq_some_iff.mp e).1
  · exact h
theorem hgo_iff (row : List Int) : ∀ (r : List Int) (a : Nat), a ≤ row.length → (r.foldl (hgo row) a = row.length ↔ (row.drop a).Sublist r)
  | [], a, ha => by
    show a = row.length ↔ _
    rw [List.sublist_nil, List.drop_eq_nil_iff]
    omega
  | c :: r, a, ha => by
    show r.foldl (hgo row) (hgo row a c) = row.length ↔ _
    rw [hgo_iff row r _ (hgo_le ha)]
    unfold hgo
    split
    · rename_i e
      have hlt := (List.getElem?_eq_some_iff.mp e).1
      have e4 : row.drop a = c :: row.drop (a + 1) := by
        rw [List.drop_eq_getElem_cons hlt]
        congr 1
        rw [List.getElem?_eq_getElem hlt] at e
        exact Option.some.inj e
      rw [e4, List.cons_sublist_cons]
    · rename_i e
      constructor
      · exact fun z => z.cons _
      · intro z
        rcases List.sublist_cons_iff.mp z with z | ⟨x, ex, _⟩
        · exact z
        · exfalso
          have hlt : a < row.length := by
            by_cases q : a < row.length
            · exact q
            · rw [List.drop_eq_nil_of_le (by omega)] at ex
              cases ex
          rw [List.drop_eq_getElem_cons hlt] at ex
          injection ex with ex _
          exact e (by rw [List.getElem?_eq_getElem hlt, ex])
theorem hgo0_iff (row r : List Int) : r.foldl (hgo row) 0 = row.length ↔ row.Sublist r := by
  have := hgo_iff row r 0 (Nat.zero_le _)
  simpa using this
end K21
end
section
set_option linter.all false
/-! plain mathematics 3: sorted colours, the two searches, the line -/
namespace K21
/-! ### sorted, without equals -/
def ins (x : Int) : List Int → List Int
  | [] => [x]
  | y :: r => if x < y then x :: y :: r else if x = y then y :: r else y :: ins x r
def asc : List Int → List Int
  | [] => []
  | x :: r => ins x (asc r)
theorem ins_mem {x z : Int} : ∀ {l : List Int}, z ∈ ins x l ↔ z = x ∨ z ∈ l
  | [] => by simp [ins]
  | y :: r => by
    unfold ins
    split
    · simp
    · split
      · rename_i e
        subst e
        simp
      · simp only [List.mem_cons, ins_mem]
        constructor
        · rintro (h | h | h)
          · exact .inr (.inl h)
          · exact .inl h
          · exact .inr (.inr h)
        · rintro (h | h | h)
          · exact .inr (.inl h)
          · exact .inl h
          · exact .inr (.inr h)
theorem ins_asc {x : Int} : ∀ {l : List Int}, Asc l → Asc (ins x l)
  | [], _ => List.pairwise_singleton _ _
  | y :: r, h => by
    have hc := List.pairwise_cons.mp h
    unfold ins
    split
    · rename_i c
      refine List.pairwise_cons.mpr ⟨fun z hz => ?_, h⟩
      rcases List.mem_cons.mp hz with rfl | hz
      · exact c
      · have := hc.1 z hz
        omega
    · rename_i c
      split
      · exact h
      · rename_i d
        refine List.pairwise_cons.mpr ⟨fun z hz => ?_, ins_asc hc.2⟩
        rcases ins_mem.mp hz with rfl | hz
        · omega
        · exact hc.1 z hz
theorem asc_asc : ∀ l : List Int, Asc (asc l)
  | [] => List.Pairwise.nil
  | x :: r => ins_asc (asc_asc r)
theorem asc_mem {z : Int} : ∀ {l : List Int}, z ∈ asc l ↔ z ∈ l
  | [] => Iff.rfl
  | x :: r => by
    show z ∈ ins x (asc r) ↔ _
    rw [ins_mem, asc_mem, List.mem_cons]
theorem asc_eq : ∀ {a b : List Int}, Asc a → Asc b → (∀ z, z ∈ a ↔ z ∈ b) → a = b
  | [], [], _, _, _ => rfl
  | [], y :: b, _, _, h => absurd ((h y).mpr List.mem_cons_self) (by simp)
  | x :: a, [], _, _, h => absurd ((h x).mp List.mem_cons_self) (by simp)
  | x :: a, y :: b, ha, hb, h => by
    have ha' := List.pairwise_cons.mp ha
    have hb' := List.pairwise_cons.mp hb
    have e : x = y := by
      rcases List.mem_cons.mp ((h x).mp List.mem_cons_self) with e | e
      · exact e
      · rcases List.mem_cons.mp ((h y).mpr List.mem_cons_self) with e2 | e2
        · exact e2.symm
        · have := hb'.1 x e
          have := ha'.1 y e2
          omega
    subst e
    rw [asc_eq ha'.2 hb'.2 fun z => ?_]
    constructor
    · intro hz
      rcases List.mem_cons.mp ((h z).mp (List.mem_cons_of_mem _ hz)) with e | e
      · have := ha'.1 z hz
        omega
      · exact e
    · intro hz
      rcases List.mem_cons.mp ((h z).mpr (List.mem_cons_of_mem _ hz)) with e | e
      · have := hb'.1 z hz
        omega
      · exact e
theorem asc_uniq {ns l : List Int} (h1 : ns.Pairwise (· < ·)) (h2 : ∀ k, k ∈ ns ↔ k ∈ l) : ns = asc l :=
  asc_eq h1 (asc_asc l) fun z => (h2 z).trans asc_mem.symm

/-! ### the words hidden in the left row alone -/
abbrev SU := Nat × Nat × Option Int
def dlu (l r : List Int) (s : SU) (t : Int) : Option SU :=
  if s.2.2 = some t ∨ (adv l s.1 t = gone l ∧ adv r s.2.1 t = gone r) then none else some (adv l s.1 t, adv r s.2.1 t, some t)
def symu (l r : List Int) (_ : SU) : List Int := asc (l ++ r)
def goalu (l r : List Int) (s : SU) : Prop := s.1 ≠ gone l ∧ s.2.1 = gone r
theorem symu_asc (l r : List Int) (s : SU) : Asc (symu l r s) := asc_asc _
theorem dlu_sym {l r : List Int} (s : SU) (t : Int) (s' : SU) (h : dlu l r s t = some s') : t ∈ symu l r s := by
  unfold dlu at h
  split at h
  · cases h
  · rename_i c
    refine asc_mem.mpr (List.mem_append.mpr ?_)
    by_cases q : adv l s.1 t = gone l
    · right
      exact adv_mem (fun z => c (.inr ⟨q, z⟩))
    · left
      exact adv_mem q
theorem runu_to {l r : List Int} : ∀ {w : List Int} {p q : Nat} {la : Option Int} {s : SU}, run (dlu l r) (p, q, la) w = some s →
    s.1 = pos l p w ∧ s.2.1 = pos r q w ∧ Nb w ∧ (w ≠ [] → w.head? ≠ la) ∧ s.2.2 = (w.getLast?).or la
  | [], p, q, la, s, h => by
    have e : (p, q, la) = s := Option.some.inj h
    subst e
    exact ⟨rfl, rfl, trivial, fun z => absurd rfl z, rfl⟩
  | t :: w, p, q, la, s, h => by
    have h' : (dlu l r (p, q, la) t).bind (fun s' => run (dlu l r) s' w) = some s := h
    unfold dlu at h'
    split at h'
    · cases h'
    · rename_i c
      obtain ⟨a, b, c2, d, e⟩ := runu_to (w := w) h'
      have c0 : la ≠ some t := fun z => c (.inl z)
      refine ⟨a, b, ⟨?_, c2⟩, fun _ => fun z => c0 z.symm, ?_⟩
      · intro z
        by_cases hw : w = []
        · rw [hw] at z; cases z
        · exact d hw z
      · rw [e]
        cases w with
        | nil => rfl
        | cons x y =>
          rw [List.getLast?_cons_cons]
          cases q2 : (x :: y).getLast? with
          | none => simp at q2
          | some v => rfl
theorem runu_of {l r : List Int} : ∀ {w : List Int} {p q : Nat} {la : Option Int}, Nb w → (w ≠ [] → w.head? ≠ la) → (w = [] ∨ pos l p w ≠ gone l) → ∃ s, run (dlu l r) (p, q, la) w = some s
  | [], _, _, _, _, _, _ => ⟨_, rfl⟩
  | t :: w, p, q, la, hn, hh, hp => by
    have hp' : pos l (adv l p t) w ≠ gone l := by
      rcases hp with e | e
      · cases e
      · exact e
    have ha : adv l p t ≠ gone l := fun z => by
      rw [z, pos_gone] at hp'
      exact hp' rfl
    have hc : ¬ (la = some t ∨ (adv l p t = gone l ∧ adv r q t = gone r)) := by
      rintro (z | z)
      · exact hh (by simp) z.symm
      · exact ha z.1
    have e : dlu l r (p, q, la) t = some (adv l p t, adv r q t, some t) := if_neg hc
    obtain ⟨s, hs⟩ := runu_of (l := l) (r := r) (w := w) (p := adv l p t) (q := adv r q t) (la := some t) hn.2 (fun _ => hn.1) (.inr hp')
    exact ⟨s, by show (dlu l r (p, q, la) t).bind _ = some s; rw [e]; exact hs⟩
/-- hidden in the left row alone; it does not begin with head -/
def Cand (head : Option Int) (l r w : List Int) : Prop := w ≠ [] ∧ Nb w ∧ w.head? ≠ head ∧ w.Sublist l ∧ ¬ w.Sublist r
theorem cand_iff {l r : List Int} {head : Option Int} (w : List Int) : (∃ s, run (dlu l r) (0, 0, head) w = some s ∧ goalu l r s) ↔ Cand head l r w := by
  constructor
  · rintro ⟨s, h, g1, g2⟩
    obtain ⟨a, b, c, d, _⟩ := runu_to h
    have hne : w ≠ [] := fun z => by
      subst z
      rw [b] at g2
      have g3 : 0 = r.length + 1 := g2
      omega
    refine ⟨hne, c, d hne, (pos0_iff l w).mp (a ▸ g1), fun z => ?_⟩
    exact (pos0_iff r w).mpr z (b ▸ g2)
  · rintro ⟨hne, hn, hh, h1, h2⟩
    have hp := (pos0_iff l w).mpr h1
    obtain ⟨s, hs⟩ := runu_of (l := l) (r := r) (w := w) (p := 0) (q := 0) (la := head) hn (fun _ => hh) (.inr hp)
    obtain ⟨a, b, _⟩ := runu_to hs
    refine ⟨s, hs, by rw [a]; exact hp, ?_⟩
    rw [b]
    by_cases q : pos r 0 w = gone r
    · exact q
    · exact absurd ((pos0_iff r w).mp q) h2
/-- a kept word is hidden in one of both: its length -/
theorem runu_len {l r : List Int} {w : List Int} {head : Option Int} {s : SU} (h : run (dlu l r) (0, 0, head) w = some s) (hne : w ≠ []) : (w.Sublist l ∨ w.Sublist r) ∧ s.1 ≤ gone l ∧ s.2.1 ≤ gone r ∧ ∃ t, s.2.2 = some t ∧ t ∈ l ++ r := by
  obtain ⟨a, b, _, _, e⟩ := runu_to h
  obtain ⟨u, t, s1, e1, h1, h2⟩ := run_unsnoc _ hne h
  have hs : ¬ (s1.2.2 = some t ∨ (adv l s1.1 t = gone l ∧ adv r s1.2.1 t = gone r)) ∧ s = (adv l s1.1 t, adv r s1.2.1 t, some t) := by
    unfold dlu at h2
    split at h2
    · cases h2
    · rename_i c
      exact ⟨c, (Option.some.inj h2).symm⟩
  have hor : w.Sublist l ∨ w.Sublist r := by
    by_cases q : s.1 = gone l
    · right
      refine (pos0_iff r w).mp ?_
      rw [← b]
      intro q2
      rw [hs.2] at q q2
      exact hs.1 (.inr ⟨q, q2⟩)
    · left
      refine (pos0_iff l w).mp ?_
      rw [← a]
      exact q
  refine ⟨hor, by rw [a]; exact pos_le l w (Nat.zero_le _), by rw [b]; exact pos_le r w (Nat.zero_le _), t, by rw [hs.2], ?_⟩
  have ht : t ∈ w := by rw [e1]; simp
  rcases hor with q | q
  · exact List.mem_append_left _ (q.subset ht)
  · exact List.mem_append_right _ (q.subset ht)

/-! ### the line -/
/-- what the law asks: the least f, w with f out of fs, w hidden in the struck row alone -/
def DueW (fs : List Int) (one other : List Int) (x : List Int) : Prop :=
  ∃ f ∈ fs, ∃ w, x = f :: w ∧ w ≠ [] ∧ w.head? ≠ some f ∧ Nb w ∧ w.Sublist (strip (some f) one) ∧ ¬ w.Sublist other
theorem due_first {f : Int} {one other : List Int} {r : Option (List Int)} (h : IsMin (Cand (some f) (strip (some f) one) (strike other)) r) : IsMin (DueW [f] one other) (r.map (f :: ·)) := by
  have cd : ∀ w, Cand (some f) (strip (some f) one) (strike other) w ↔ (w ≠ [] ∧ w.head? ≠ some f ∧ Nb w ∧ w.Sublist (strip (some f) one) ∧ ¬ w.Sublist other) := fun w => by
    constructor
    · rintro ⟨a, b, c, d, e⟩
      exact ⟨a, c, b, d, fun z => e ((sub_strike b).mpr z)⟩
    · rintro ⟨a, c, b, d, e⟩
      exact ⟨a, b, c, d, fun z => e ((sub_strike b).mp z)⟩
  cases r with
  | none =>
    rintro x ⟨g, hg, w, _, hw⟩
    have : g = f := by simpa using hg
    subst this
    exact h w ((cd w).mpr hw)
  | some w =>
    refine ⟨⟨f, by simp, w, rfl, (cd w).mp h.1⟩, ?_⟩
    rintro x ⟨g, hg, w', rfl, hw⟩
    have : g = f := by simpa using hg
    subst this
    exact sle_cons _ (h.2 w' ((cd w').mpr hw))
/-- no first colour told: of 0, 1, 2 -/
def pick3 (free least : Option (List Int)) : Option (List Int) := match free with
  | none => none
  | some u => match least with
    | some v => if v.length = u.length then some (0 :: v) else some (1 :: u)
    | none => some (1 :: u)
theorem due_free {one other : List Int} {free least : Option (List Int)} (h1 : IsMin (Cand none (strike one) (strike other)) free) (h2 : IsMin (Cand (some 0) (strike one) (strike other)) least) :
    IsMin (DueW [0, 1, 2] one other) (pick3 free least) := by
  have cd : ∀ w, Nb w → ((¬ w.Sublist (strike other)) ↔ ¬ w.Sublist other) := fun w hn => not_congr (sub_strike hn)
  have toD : ∀ (f : Int) (w : List Int), f ∈ ([0, 1, 2] : List Int) → Cand none (strike one) (strike other) w → w.head? ≠ some f → DueW [0, 1, 2] one other (f :: w) := fun f w hf hw hh =>
    ⟨f, hf, w, rfl, hw.1, hh, hw.2.1, (sub_strip hh).mpr hw.2.2.2.1, (cd w hw.2.1).mp hw.2.2.2.2⟩
  have ofD : ∀ x, DueW [0, 1, 2] one other x → ∃ f w, x = f :: w ∧ 0 ≤ f ∧ f ≤ 2 ∧ Cand none (strike one) (strike other) w ∧ w.head? ≠ some f := by
    rintro x ⟨f, hf, w, e, a, b, c, d, g⟩
    refine ⟨f, w, e, ?_, ?_, ⟨a, c, ?_, (sub_strip b).mp d, (cd w c).mpr g⟩, b⟩
    · simp only [List.mem_cons, List.not_mem_nil, or_false] at hf
      omega
    · simp only [List.mem_cons, List.not_mem_nil, or_false] at hf
      omega
    · intro z
      cases w with
      | nil => exact a rfl
      | cons _ _ => cases z
  have wk : ∀ w, Cand (some 0) (strike one) (strike other) w → Cand none (strike one) (strike other) w := fun w hw => by
    refine ⟨hw.1, hw.2.1, fun z => ?_, hw.2.2.2⟩
    cases w with
    | nil => exact hw.1 rfl
    | cons _ _ => cases z
  cases free with
  | none =>
    intro x hx
    obtain ⟨f, w, _, _, _, hw, _⟩ := ofD x hx
    exact h1 w hw
  | some u =>
    -- a candidate at 0 of the least length
    have at0 : ∀ w, Cand none (strike one) (strike other) w → w.head? ≠ some 0 → Cand (some 0) (strike one) (strike other) w := fun w hw hh => ⟨hw.1, hw.2.1, hh, hw.2.2.2⟩
    have other1 : (∀ w, Cand none (strike one) (strike other) w → w.length = u.length → w.head? = some 0) → IsMin (DueW [0, 1, 2] one other) (some (1 :: u)) := fun hall => by
      have hu0 := hall u h1.1 rfl
      refine ⟨toD 1 u (by simp) h1.1 (by rw [hu0]; simp), ?_⟩
      intro x hx
      obtain ⟨f, w, rfl, f0, f2, hw, hh⟩ := ofD x hx
      have hle := sle_len (h1.2 w hw)
      by_cases hl : w.length = u.length
      · have hw0 := hall w hw hl
        have hf : f ≠ 0 := fun z => by
          rw [z] at hh
          exact hh hw0
        by_cases hf1 : f = 1
        · subst hf1
          exact sle_cons _ (h1.2 w hw)
        · refine .inr (.inr ⟨by simp; omega, ?_⟩)
          rw [lx_cons, if_neg (by omega)]
          exact decide_eq_true (by omega)
      · exact .inr (.inl (by simp; omega))
    cases least with
    | none =>
      refine other1 fun w hw _ => ?_
      by_cases q : w.head? = some 0
      · exact q
      · exact absurd (at0 w hw q) (h2 w)
    | some v =>
      show IsMin _ (if v.length = u.length then some (0 :: v) else some (1 :: u))
      by_cases hl : v.length = u.length
      · rw [if_pos hl]
        refine ⟨toD 0 v (by simp) (wk v h2.1) h2.1.2.2.1, ?_⟩
        intro x hx
        obtain ⟨f, w, rfl, f0, f2, hw, hh⟩ := ofD x hx
        have hle := sle_len (h1.2 w hw)
        by_cases hl2 : w.length = u.length
        · by_cases hf : f = 0
          · subst hf
            exact sle_cons _ (h2.2 w (at0 w hw hh))
          · refine .inr (.inr ⟨by simp; omega, ?_⟩)
            rw [lx_cons, if_neg (fun z => hf z.symm)]
            exact decide_eq_true (by omega)
        · exact .inr (.inl (by simp; omega))
      · rw [if_neg hl]
        refine other1 fun w hw hw2 => ?_
        by_cases q : w.head? = some 0
        · exact q
        · exfalso
          have hv := h2.2 w (at0 w hw q)
          have h3 := sle_len hv
          have h4 := sle_len (h1.2 v (wk v h2.1))
          omega
/-- none is due exactly if the stripped row is hidden -/
theorem cand_none {head : Option Int} {one other : List Int} : (∀ w, ¬ Cand head (strip head one) (strike other) w) ↔ (strip head one).Sublist (strike other) := by
  constructor
  · intro h
    by_cases q : (strip head one).Sublist (strike other)
    · exact q
    · exfalso
      have hne : strip head one ≠ [] := fun z => by
        rw [z] at q
        exact q (List.nil_sublist _)
      refine h _ ⟨hne, strip_nb _ _, ?_, List.Sublist.refl _, q⟩
      cases head with
      | none =>
        intro z
        cases e : strip none one with
        | nil => exact hne e
        | cons _ _ => rw [e] at z; cases z
      | some f => exact strip_head f one
  · intro h w hw
    exact hw.2.2.2.2 (hw.2.2.2.1.trans h)
theorem strip_hid {head : Option Int} {one other : List Int} : (strip head one).Sublist (strike other) ↔ (strip head one).Sublist other := sub_strike (strip_nb _ _)
end K21
end
section
set_option linter.all false
/-! plain mathematics 4: the least row over several rows; the line poured into -/
namespace K21
abbrev Rws := List (List Int)
def wantO (rows : Rws) (ps : List Nat) : List Int := (rows.zip ps).filterMap fun x => x.1[x.2]?
def ah1 (t : Int) (x : List Int × Nat) : Nat := if x.1[x.2]? = some t then x.2 + 1 else x.2
def aheadO (rows : Rws) (ps : List Nat) (t : Int) : List Nat := (rows.zip ps).map (ah1 t)
def dlo (rows : Rws) (ps : List Nat) (t : Int) : Option (List Nat) := if t ∈ wantO rows ps then some (aheadO rows ps t) else none
def symo (rows : Rws) (ps : List Nat) : List Int := asc (wantO rows ps)
def endsO (rows : Rws) : List Nat := rows.map List.length
def PP (rows : Rws) (ps : List Nat) (w : List Int) : Prop := run (dlo rows) ps w = some (endsO rows)
/-- each place within its row -/
def Vd : Rws → List Nat → Prop
  | [], [] => True
  | r :: rs, p :: ps => p ≤ r.length ∧ Vd rs ps
  | _, _ => False
theorem symo_asc (rows : Rws) (ps : List Nat) : Asc (symo rows ps) := asc_asc _
theorem dlo_sym {rows : Rws} (s : List Nat) (t : Int) (s' : List Nat) (h : dlo rows s t = some s') : t ∈ symo rows s := by
  unfold dlo at h
  split at h
  · rename_i c
    exact asc_mem.mpr c
  · cases h
theorem dlo_eq {rows : Rws} {ps s' : List Nat} {t : Int} (h : dlo rows ps t = some s') : t ∈ wantO rows ps ∧ s' = aheadO rows ps t := by
  unfold dlo at h
  split at h
  · rename_i c
    exact ⟨c, (Option.some.inj h).symm⟩
  · cases h
theorem Vd.zero : ∀ rows : Rws, Vd rows (rows.map fun _ => 0)
  | [] => trivial
  | r :: rs => ⟨Nat.zero_le _, Vd.zero rs⟩
theorem Vd.len : ∀ {rows : Rws} {ps : List Nat}, Vd rows ps → ps.length = rows.length
  | [], [], _ => rfl
  | [], _ :: _, h => h.elim
  | _ :: _, [], h => h.elim
  | r :: rs, p :: ps, h => by simp [Vd.len h.2]
theorem Vd.ahead {t : Int} : ∀ {rows : Rws} {ps : List Nat}, Vd rows ps → Vd rows (aheadO rows ps t)
  | [], [], _ => trivial
  | [], _ :: _, h => h.elim
  | _ :: _, [], h => h.elim
  | r :: rs, p :: ps, h => by
    refine ⟨?_, Vd.ahead h.2⟩
    show ah1 t (r, p) ≤ r.length
    unfold ah1
    split
    · rename_i e
      have := (List.getElem?_eq_some_iff.mp e).1
      show p + 1 ≤ r.length
      exact this
    · exact h.1
theorem Vd.run {rows : Rws} : ∀ {w : List Int} {ps s : List Nat}, Vd rows ps → run (dlo rows) ps w = some s → Vd rows s
  | [], ps, s, h, e => by
    have : ps = s := Option.some.inj e
    exact this ▸ h
  | t :: w, ps, s, h, e => by
    have e' : (dlo rows ps t).bind (fun s' => K21.run (dlo rows) s' w) = some s := e
    cases q : dlo rows ps t with
    | none => rw [q] at e'; cases e'
    | some s1 =>
      rw [q] at e'
      have h1 := (dlo_eq q).2
      exact Vd.run (by rw [h1]; exact h.ahead) e'
/-- what is left to be gone -/
def lft : Rws → List Nat → Nat
  | r :: rs, p :: ps => (r.length - p) + lft rs ps
  | _, _ => 0
theorem lft_ahead_le {t : Int} : ∀ {rows : Rws} {ps : List Nat}, lft rows (aheadO rows ps t) ≤ lft rows ps
  | [], _ => Nat.zero_le _
  | _ :: _, [] => Nat.zero_le _
  | r :: rs, p :: ps => by
    have ih := lft_ahead_le (t := t) (rows := rs) (ps := ps)
    show (r.length - ah1 t (r, p)) + lft rs (aheadO rs ps t) ≤ (r.length - p) + lft rs ps
    have : p ≤ ah1 t (r, p) := by
      unfold ah1
      split <;> simp
    omega
theorem lft_ahead {t : Int} : ∀ {rows : Rws} {ps : List Nat}, t ∈ wantO rows ps → lft rows (aheadO rows ps t) < lft rows ps
  | [], ps, h => by simp [wantO] at h
  | _ :: _, [], h => by simp [wantO] at h
  | r :: rs, p :: ps, h => by
    have ih := lft_ahead_le (t := t) (rows := rs) (ps := ps)
    show (r.length - ah1 t (r, p)) + lft rs (aheadO rs ps t) < (r.length - p) + lft rs ps
    by_cases e : r[p]? = some t
    · have e1 : ah1 t (r, p) = p + 1 := if_pos e
      have := (List.getElem?_eq_some_iff.mp e).1
      omega
    · have e1 : ah1 t (r, p) = p := if_neg e
      have hm : t ∈ wantO rs ps := by
        unfold wantO at h ⊢
        rw [List.zip_cons_cons, List.filterMap_cons] at h
        cases q : r[p]? with
        | none => simp only [q] at h; exact h
        | some z =>
          simp only [q] at h
          rcases List.mem_cons.mp h with h | h
          · rw [q, h] at e
            exact absurd rfl e
          · exact h
      have := lft_ahead hm
      omega
/-- nothing is wanted exactly at the ends -/
theorem want_nil : ∀ {rows : Rws} {ps : List Nat}, Vd rows ps → (wantO rows ps = [] ↔ ps = endsO rows)
  | [], [], _ => by simp [wantO, endsO]
  | [], _ :: _, h => h.elim
  | _ :: _, [], h => h.elim
  | r :: rs, p :: ps, h => by
    have ih := want_nil h.2
    unfold wantO endsO at ih ⊢
    rw [List.zip_cons_cons, List.filterMap_cons, List.map_cons]
    have h1 := h.1
    by_cases hp : p < r.length
    · simp only [List.getElem?_eq_getElem hp]
      constructor
      · intro z; cases z
      · intro z
        injection z with z1 _
        omega
    · simp only [List.getElem?_eq_none (Nat.le_of_not_lt hp)]
      rw [ih]
      constructor
      · intro z; rw [z]; congr 1; omega
      · intro z
        injection z
theorem PP_nil {rows : Rws} {ps : List Nat} : PP rows ps [] ↔ ps = endsO rows := by
  constructor
  · intro h; exact Option.some.inj h
  · intro h; exact congrArg some h
theorem PP_cons {rows : Rws} {ps : List Nat} {t : Int} {w : List Int} : PP rows ps (t :: w) ↔ t ∈ wantO rows ps ∧ PP rows (aheadO rows ps t) w := by
  unfold PP
  show (dlo rows ps t).bind (fun s' => run (dlo rows) s' w) = _ ↔ _
  unfold dlo
  split
  · rename_i c
    exact ⟨fun h => ⟨c, h⟩, fun h => h.2⟩
  · rename_i c
    exact ⟨fun h => (nomatch (show (none : Option (List Nat)) = some _ from h)), fun h => absurd h.1 c⟩
theorem PP_len {rows : Rws} : ∀ {w : List Int} {ps : List Nat} {s : List Nat}, run (dlo rows) ps w = some s → w.length + lft rows s ≤ lft rows ps
  | [], ps, s, h => by
    have : ps = s := Option.some.inj h
    subst this
    simp
  | t :: w, ps, s, h => by
    have e' : (dlo rows ps t).bind (fun s' => run (dlo rows) s' w) = some s := h
    cases q : dlo rows ps t with
    | none => rw [q] at e'; cases e'
    | some s1 =>
      rw [q] at e'
      obtain ⟨h1, h2⟩ := dlo_eq q
      have ih := PP_len e'
      have := lft_ahead h1
      rw [h2] at ih
      simp only [List.length_cons]
      omega
/-- the ends are reached from everywhere -/
theorem PP_some {rows : Rws} : ∀ (n : Nat) (ps : List Nat), lft rows ps ≤ n → Vd rows ps → ∃ w, PP rows ps w
  | n, ps, hn, hv => by
    cases q : wantO rows ps with
    | nil => exact ⟨[], PP_nil.mpr ((want_nil hv).mp q)⟩
    | cons t r =>
      have hm : t ∈ wantO rows ps := by rw [q]; simp
      have := lft_ahead hm
      cases n with
      | zero => omega
      | succ n =>
        obtain ⟨w, hw⟩ := PP_some n (aheadO rows ps t) (by omega) hv.ahead
        exact ⟨t :: w, PP_cons.mpr ⟨hm, hw⟩⟩
/-- one step of the table -/
theorem PP_step {rows : Rws} {ps : List Nat} (hv : Vd rows ps) {b : Int → List Int} (hb : ∀ t ∈ wantO rows ps, IsMin (PP rows (aheadO rows ps t)) (some (b t))) {r : Option (List Int)}
    (hr : IsMin (fun x => ∃ t ∈ wantO rows ps, x = t :: b t) r) : IsMin (PP rows ps) (some (r.getD [])) := by
  cases r with
  | none =>
    have h0 : wantO rows ps = [] := by
      cases q : wantO rows ps with
      | nil => rfl
      | cons t l => exact absurd ⟨t, by rw [q]; simp, rfl⟩ (hr (t :: b t))
    refine ⟨PP_nil.mpr ((want_nil hv).mp h0), fun w hw => ?_⟩
    cases w with
    | nil => exact .inl rfl
    | cons t w =>
      have := (PP_cons.mp hw).1
      rw [h0] at this
      cases this
  | some x =>
    obtain ⟨⟨t, ht, e⟩, hm⟩ := hr
    refine ⟨?_, fun w hw => ?_⟩
    · show PP rows ps x
      rw [e]
      exact PP_cons.mpr ⟨ht, (hb t ht).1⟩
    · show sle x w
      cases w with
      | nil =>
        have h0 := (want_nil hv).mpr (PP_nil.mp hw)
        rw [h0] at ht
        cases ht
      | cons u w =>
        obtain ⟨h1, h2⟩ := PP_cons.mp hw
        exact sle_trans (hm _ ⟨u, h1, rfl⟩) (sle_cons u ((hb u h1).2 w h2))
/-! ### by what is left of the rows: empty rows beside change nothing -/
def nx (rs : Rws) (t : Int) : Rws := rs.map fun r => if r.head? = some t then r.tail else r
def Pth : Rws → List Int → Prop
  | rs, [] => ∀ r ∈ rs, r = []
  | rs, t :: w => (∃ r ∈ rs, r.head? = some t) ∧ Pth (nx rs t) w
def restO : Rws → List Nat → Rws
  | r :: rs, p :: ps => r.drop p :: restO rs ps
  | _, _ => []
theorem hd_drop (r : List Int) (p : Nat) : (r.drop p).head? = r[p]? := by rw [List.head?_drop]
theorem rest_want {t : Int} : ∀ {rows : Rws} {ps : List Nat}, t ∈ wantO rows ps ↔ ∃ r ∈ restO rows ps, r.head? = some t
  | [], ps => by simp [wantO, restO]
  | _ :: _, [] => by simp [wantO, restO]
  | r :: rs, p :: ps => by
    have ih := rest_want (t := t) (rows := rs) (ps := ps)
    unfold wantO at ih ⊢
    rw [List.zip_cons_cons, List.filterMap_cons]
    show _ ↔ ∃ x ∈ r.drop p :: restO rs ps, x.head? = some t
    cases q : r[p]? with
    | none =>
      simp only [q]
      rw [ih]
      constructor
      · rintro ⟨x, hx, e⟩
        exact ⟨x, List.mem_cons_of_mem _ hx, e⟩
      · rintro ⟨x, hx, e⟩
        rcases List.mem_cons.mp hx with rfl | hx
        · rw [hd_drop, q] at e
          cases e
        · exact ⟨x, hx, e⟩
    | some z =>
      simp only [q]
      rw [List.mem_cons, ih]
      constructor
      · rintro (h | ⟨x, hx, e⟩)
        · exact ⟨_, List.mem_cons_self, by rw [hd_drop, q, h]⟩
        · exact ⟨x, List.mem_cons_of_mem _ hx, e⟩
      · rintro ⟨x, hx, e⟩
        rcases List.mem_cons.mp hx with rfl | hx
        · rw [hd_drop, q] at e
          exact .inl (Option.some.inj e).symm
        · exact .inr ⟨x, hx, e⟩
theorem rest_ahead {t : Int} : ∀ {rows : Rws} {ps : List Nat}, restO rows (aheadO rows ps t) = nx (restO rows ps) t
  | [], ps => by simp [restO, nx]
  | _ :: _, [] => by simp [restO, nx, aheadO]
  | r :: rs, p :: ps => by
    have ih := rest_ahead (t := t) (rows := rs) (ps := ps)
    show r.drop (ah1 t (r, p)) :: restO rs (aheadO rs ps t) = (if (r.drop p).head? = some t then (r.drop p).tail else r.drop p) :: nx (restO rs ps) t
    rw [ih, hd_drop]
    congr 1
    show r.drop (if r[p]? = some t then p + 1 else p) = _
    split
    · rw [List.tail_drop]
    · rfl
theorem rest_end : ∀ {rows : Rws} {ps : List Nat}, Vd rows ps → (ps = endsO rows ↔ ∀ r ∈ restO rows ps, r = [])
  | [], [], _ => by simp [restO, endsO]
  | [], _ :: _, h => h.elim
  | _ :: _, [], h => h.elim
  | r :: rs, p :: ps, h => by
    have ih := rest_end h.2
    show p :: ps = r.length :: endsO rs ↔ ∀ x ∈ r.drop p :: restO rs ps, x = []
    rw [List.forall_mem_cons, ← ih, List.drop_eq_nil_iff]
    have := h.1
    constructor
    · intro z
      injection z with z1 z2
      exact ⟨by omega, z2⟩
    · rintro ⟨z1, z2⟩
      rw [z2]
      congr 1
      omega
theorem PP_Pth {rows : Rws} : ∀ {w : List Int} {ps : List Nat}, Vd rows ps → (PP rows ps w ↔ Pth (restO rows ps) w)
  | [], ps, hv => PP_nil.trans (rest_end hv)
  | t :: w, ps, hv => by
    rw [PP_cons, PP_Pth (w := w) hv.ahead, rest_ahead, rest_want]
    exact Iff.rfl
theorem Pth_pad : ∀ {w : List Int} {rs : Rws} (n : Nat), Pth (rs ++ List.replicate n []) w ↔ Pth rs w
  | [], rs, n => by
    show (∀ r ∈ rs ++ List.replicate n [], r = []) ↔ ∀ r ∈ rs, r = []
    constructor
    · exact fun h r hr => h r (List.mem_append_left _ hr)
    · intro h r hr
      rcases List.mem_append.mp hr with hr | hr
      · exact h r hr
      · exact (List.mem_replicate.mp hr).2
  | t :: w, rs, n => by
    show (∃ r ∈ rs ++ List.replicate n [], r.head? = some t) ∧ Pth (nx (rs ++ List.replicate n []) t) w ↔ (∃ r ∈ rs, r.head? = some t) ∧ Pth (nx rs t) w
    have e : nx (rs ++ List.replicate n []) t = nx rs t ++ List.replicate n [] := by
      unfold nx
      rw [List.map_append, List.map_replicate]
      rfl
    rw [e, Pth_pad (w := w) n]
    refine and_congr ?_ Iff.rfl
    constructor
    · rintro ⟨r, hr, h⟩
      rcases List.mem_append.mp hr with hr | hr
      · exact ⟨r, hr, h⟩
      · rw [(List.mem_replicate.mp hr).2] at h
        cases h
    · rintro ⟨r, hr, h⟩
      exact ⟨r, List.mem_append_left _ hr, h⟩
theorem rest_zero : ∀ rows : Rws, restO rows (rows.map fun _ => 0) = rows
  | [] => rfl
  | r :: rs => by
    show r.drop 0 :: restO rs _ = r :: rs
    rw [rest_zero rs]
    rfl
/-- the least row over the rows is that over them and empty ones -/
theorem over_pad {rows : Rws} (n : Nat) {a b : List Int} (ha : IsMin (PP rows (rows.map fun _ => 0)) (some a))
    (hb : IsMin (PP (rows ++ List.replicate n []) ((rows ++ List.replicate n []).map fun _ => 0)) (some b)) : a = b := by
  have e : ∀ w, PP (rows ++ List.replicate n []) ((rows ++ List.replicate n []).map fun _ => 0) w ↔ PP rows (rows.map fun _ => 0) w := fun w => by
    rw [PP_Pth (Vd.zero _), PP_Pth (Vd.zero _), rest_zero, rest_zero, Pth_pad]
  exact Option.some.inj (ha.uniq (hb.congr e))
/-! ### how many states -/
def cod : List Nat → Nat
  | [] => 0
  | p :: ps => p + 64 * cod ps
theorem cod_inj : ∀ {a b : List Nat}, a.length = b.length → (∀ x ∈ a, x < 64) → (∀ x ∈ b, x < 64) → cod a = cod b → a = b
  | [], [], _, _, _, _ => rfl
  | [], _ :: _, h, _, _, _ => by simp at h
  | _ :: _, [], h, _, _, _ => by simp at h
  | x :: a, y :: b, hl, ha, hb, h => by
    have h1 := ha x List.mem_cons_self
    have h2 := hb y List.mem_cons_self
    have h' : x + 64 * cod a = y + 64 * cod b := h
    have e1 : x = y := by omega
    have e2 : cod a = cod b := by omega
    rw [e1, cod_inj (by simpa using hl) (fun z hz => ha z (List.mem_cons_of_mem _ hz)) (fun z hz => hb z (List.mem_cons_of_mem _ hz)) e2]
theorem cod_lt : ∀ {a : List Nat}, (∀ x ∈ a, x < 64) → cod a < 64 ^ a.length
  | [], _ => by simp [cod]
  | x :: a, h => by
    have h1 := h x List.mem_cons_self
    have ih := cod_lt fun z hz => h z (List.mem_cons_of_mem _ hz)
    show x + 64 * cod a < 64 ^ (a.length + 1)
    rw [Nat.pow_succ]
    omega
theorem Vd.small {m : Nat} : ∀ {rows : Rws} {ps : List Nat}, Vd rows ps → (∀ r ∈ rows, r.length ≤ m) → ∀ p ∈ ps, p ≤ m
  | [], [], _, _, p, hp => by cases hp
  | [], _ :: _, h, _, _, _ => h.elim
  | _ :: _, [], h, _, _, _ => h.elim
  | r :: rs, q :: ps, h, hr, p, hp => by
    rcases List.mem_cons.mp hp with rfl | hp
    · exact Nat.le_trans h.1 (hr r List.mem_cons_self)
    · exact Vd.small h.2 (fun x hx => hr x (List.mem_cons_of_mem _ hx)) p hp
theorem met_len {rows : Rws} {l : List (List Nat)} (nd : l.Nodup) (h3 : rows.length ≤ 3) (hm : ∀ r ∈ rows, r.length ≤ 40) (h : ∀ s ∈ l, Vd rows s) : l.length ≤ 262144 := by
  refine nodup_code cod 262144 l nd (fun x hx y hy e => ?_) fun x hx => ?_
  · refine cod_inj (by rw [(h x hx).len, (h y hy).len]) (fun z hz => ?_) (fun z hz => ?_) e
    · have := (h x hx).small hm z hz; omega
    · have := (h y hy).small hm z hz; omega
  · have h1 : cod x < 64 ^ x.length := cod_lt fun z hz => by have := (h x hx).small hm z hz; omega
    have h2 : 64 ^ x.length ≤ 64 ^ 3 := Nat.pow_le_pow_right (by omega) (by rw [(h x hx).len]; exact h3)
    have : (64 : Nat) ^ 3 = 262144 := by decide
    omega
theorem metu_len {l r : List Int} {m : List SU} (nd : m.Nodup) (hl : l.length ≤ 40) (hr : r.length ≤ 40) (hc : ∀ t ∈ l ++ r, 0 ≤ t ∧ t ≤ 99) (h : ∀ s ∈ m, s.1 ≤ gone l ∧ s.2.1 ≤ gone r ∧ ∃ t, s.2.2 = some t ∧ t ∈ l ++ r) : m.length ≤ 409600 := by
  refine nodup_code (fun s => s.1 + 64 * (s.2.1 + 64 * (s.2.2.getD 0).toNat)) 409600 m nd (fun x hx y hy e => ?_) fun x hx => ?_
  · obtain ⟨a1, a2, t, a3, a4⟩ := h x hx
    obtain ⟨b1, b2, u, b3, b4⟩ := h y hy
    have ct := hc t a4
    have cu := hc u b4
    obtain ⟨x1, x2, x3⟩ := x
    obtain ⟨y1, y2, y3⟩ := y
    dsimp only at a1 a2 a3 b1 b2 b3 e
    subst a3 b3
    simp only [Option.getD_some] at e
    unfold gone at a1 a2 b1 b2
    have e1 : x1 = y1 := by omega
    have e2 : x2 = y2 := by omega
    have e3 : t = u := by omega
    rw [e1, e2, e3]
  · obtain ⟨a1, a2, t, a3, a4⟩ := h x hx
    have ct := hc t a4
    obtain ⟨x1, x2, x3⟩ := x
    dsimp only at a1 a2 a3
    subst a3
    simp only [Option.getD_some]
    unfold gone at a1 a2
    omega
/-! ### pours into the first cell of a line -/
def szl : List Int → Nat
  | [] => 1
  | a :: r => 1 + (r.takeWhile fun x => decide (x = a)).length
def pour (now : List Int) (t : Int) : List Int := List.replicate (szl now) t ++ now.drop (szl now)
def lrun (line row : List Int) : List Int := row.foldl pour line
theorem Nb_at : ∀ {w : List Int} {i : Nat} {a : Int}, Nb w → w[i]? = some a → w[i + 1]? ≠ some a
  | [], i, a, _, h => by simp at h
  | x :: r, 0, a, hn, h => by
    have e : x = a := by simpa using h
    subst e
    rw [List.getElem?_cons_succ, ← List.head?_eq_getElem?]
    exact hn.1
  | x :: r, i + 1, a, hn, h => by
    rw [List.getElem?_cons_succ] at h ⊢
    exact Nb_at hn.2 h
theorem szl_rep (c : Int) (k : Nat) (r : List Int) (hk : 1 ≤ k) : szl (List.replicate k c ++ r) = k + (r.takeWhile fun x => decide (x = c)).length := by
  cases k with
  | zero => omega
  | succ k =>
    show 1 + ((List.replicate k c ++ r).takeWhile fun x => decide (x = c)).length = _
    have : ∀ n : Nat, ((List.replicate n c ++ r).takeWhile fun x => decide (x = c)).length = n + (r.takeWhile fun x => decide (x = c)).length := by
      intro n
      induction n with
      | zero => simp
      | succ n ih =>
        rw [List.replicate_succ, List.cons_append, List.takeWhile_cons, decide_eq_true rfl, if_pos rfl, List.length_cons, ih]
        omega
    rw [this]
    omega
theorem tw_nb {L : List Int} (hn : Nb L) (k : Nat) (c : Int) : ((L.drop k).takeWhile fun x => decide (x = c)).length = if L[k]? = some c then 1 else 0 := by
  by_cases hk : k < L.length
  · rw [List.drop_eq_getElem_cons hk, List.takeWhile_cons, List.getElem?_eq_getElem hk]
    by_cases e : L[k] = c
    · rw [decide_eq_true e, if_pos rfl, if_pos (congrArg some e), List.length_cons]
      have hne : L[k + 1]? ≠ some c := Nb_at hn (by rw [List.getElem?_eq_getElem hk, e])
      cases q : L.drop (k + 1) with
      | nil => rfl
      | cons y z =>
        have hy : L[k + 1]? = some y := by rw [← hd_drop, q]; rfl
        have hyc : y ≠ c := fun z => hne (by rw [hy, z])
        rw [List.takeWhile_cons, decide_eq_false hyc]
        rfl
    · rw [decide_eq_false e, if_neg Bool.false_ne_true, if_neg (fun z => e (Option.some.inj z))]
      rfl
  · rw [List.drop_eq_nil_of_le (Nat.le_of_not_lt hk), List.getElem?_eq_none (Nat.le_of_not_lt hk)]
    rfl
/-- what stands behind pours: k cells of the colour c, the rest as it was; a of the others are reached -/
theorem lrun_is {f : Int} {w : List Int} (hn : Nb (f :: w)) (row : List Int) : ∃ k c, lrun (f :: w) row = List.replicate k c ++ (f :: w).drop k ∧ 1 ≤ k ∧ k ≤ w.length + 1 ∧
    1 + row.foldl (hgo w) 0 = k + (if (f :: w)[k]? = some c then 1 else 0) := by
  induction row using rev_ind with
  | h0 =>
    refine ⟨1, f, rfl, Nat.le_refl _, by omega, ?_⟩
    rw [if_neg (Nb_at hn rfl)]
    rfl
  | hs row t ih =>
    obtain ⟨k, c, h1, h2, h3, h4⟩ := ih
    have e1 : lrun (f :: w) (row ++ [t]) = pour (lrun (f :: w) row) t := by unfold lrun; rw [List.foldl_append]; rfl
    have e2 : szl (lrun (f :: w) row) = 1 + row.foldl (hgo w) 0 := by rw [h1, szl_rep c k _ h2, tw_nb hn, h4]
    have hle : row.foldl (hgo w) 0 ≤ w.length := by
      have : ∀ (r : List Int) (a : Nat), a ≤ w.length → r.foldl (hgo w) a ≤ w.length := by
        intro r
        induction r with
        | nil => exact fun a h => h
        | cons x r ih => exact fun a h => ih _ (hgo_le h)
      exact this row 0 (Nat.zero_le _)
    refine ⟨1 + row.foldl (hgo w) 0, t, ?_, by omega, by omega, ?_⟩
    · rw [e1]
      unfold pour
      rw [e2, h1]
      congr 1
      have hk : k ≤ 1 + row.foldl (hgo w) 0 := by rw [h4]; omega
      rw [List.drop_append, List.length_replicate, List.drop_eq_nil_of_le (by rw [List.length_replicate]; exact hk), List.nil_append, List.drop_drop]
      congr 1
      omega
    · rw [List.foldl_append]
      show 1 + hgo w (row.foldl (hgo w) 0) t = _
      have e3 : (f :: w)[1 + row.foldl (hgo w) 0]? = w[row.foldl (hgo w) 0]? := by rw [Nat.add_comm, List.getElem?_cons_succ]
      rw [e3]
      unfold hgo
      split <;> omega
/-- one colour alone exactly if the others are hidden in the row -/
theorem lrun_all {f : Int} {w : List Int} (hn : Nb (f :: w)) (row : List Int) : (∀ x ∈ lrun (f :: w) row, ∀ y ∈ lrun (f :: w) row, x = y) ↔ w.Sublist row := by
  rw [← hgo0_iff]
  obtain ⟨k, c, h1, h2, h3, h4⟩ := lrun_is hn row
  have hlen : (f :: w).length = w.length + 1 := rfl
  have hc : c ∈ lrun (f :: w) row := by
    rw [h1]
    exact List.mem_append_left _ (List.mem_replicate.mpr ⟨by omega, rfl⟩)
  constructor
  · intro h
    by_cases hk : k = w.length + 1
    · rw [if_neg (by rw [List.getElem?_eq_none (by rw [hlen]; omega)]; simp)] at h4
      omega
    · have hkl : k < (f :: w).length := by rw [hlen]; omega
      have ek : (f :: w)[k] = c := by
        refine h _ ?_ _ hc
        rw [h1]
        refine List.mem_append_right _ ?_
        rw [List.drop_eq_getElem_cons hkl]
        exact List.mem_cons_self
      rw [if_pos (by rw [List.getElem?_eq_getElem hkl, ek])] at h4
      by_cases hk2 : k + 1 = w.length + 1
      · omega
      · exfalso
        have hkl2 : k + 1 < (f :: w).length := by rw [hlen]; omega
        have e2 : (f :: w)[k + 1] = c := by
          refine h _ ?_ _ hc
          rw [h1]
          refine List.mem_append_right _ ?_
          rw [List.drop_eq_getElem_cons hkl, List.drop_eq_getElem_cons hkl2]
          exact List.mem_cons_of_mem _ List.mem_cons_self
        exact Nb_at hn (by rw [List.getElem?_eq_getElem hkl, ek]) (by rw [List.getElem?_eq_getElem hkl2, e2])
  · intro h
    rw [h] at h4
    have all : ∀ x ∈ lrun (f :: w) row, x = c := by
      intro x hx
      rw [h1] at hx
      rcases List.mem_append.mp hx with hx | hx
      · exact (List.mem_replicate.mp hx).2
      · by_cases e : (f :: w)[k]? = some c
        · rw [if_pos e] at h4
          have hkl := (List.getElem?_eq_some_iff.mp e).1
          rw [List.drop_eq_getElem_cons hkl, List.drop_eq_nil_of_le (by rw [hlen]; omega)] at hx
          have : x = (f :: w)[k] := by simpa using hx
          rw [this]
          rw [List.getElem?_eq_getElem hkl] at e
          exact Option.some.inj e
        · rw [if_neg e] at h4
          rw [List.drop_eq_nil_of_le (by rw [hlen]; omega)] at hx
          cases hx
    intro x hx y hy
    rw [all x hx, all y hy]
theorem lrun_len (line row : List Int) (h : line ≠ []) : (lrun line row).length = line.length := by
  have key : ∀ (now : List Int) (t : Int), now ≠ [] → (pour now t).length = now.length := by
    intro now t hne
    unfold pour
    cases now with
    | nil => exact absurd rfl hne
    | cons a r =>
      have : (r.takeWhile fun x => decide (x = a)).length ≤ r.length := (List.takeWhile_sublist _).length_le
      rw [List.length_append, List.length_replicate, List.length_drop]
      unfold szl
      simp only [List.length_cons]
      omega
  have go : ∀ (row now : List Int), now ≠ [] → (row.foldl pour now).length = now.length := by
    intro row
    induction row with
    | nil => exact fun _ _ => rfl
    | cons t r ih =>
      intro now hne
      show (r.foldl pour (pour now t)).length = now.length
      rw [ih _ (fun e => hne (List.eq_nil_of_length_eq_zero (by rw [← key now t hne, e]; rfl))), key now t hne]
  exact go row line h
end K21
end
section
set_option Elab.async false
set_option linter.all false
set_option maxRecDepth 100000
set_option maxHeartbeats 4000000
/-! short words for the walks -/
namespace K21
open PySem PySem.Spec PyProof.Rows L2
/-- the def of the name x keeps the promise sp -/
def Good (P : Program) (w : World) (K : PySem.W.Frag) (mg : Str → Option Value) (base : Heap) (CX : CXT) (k : Nat) (x : Str) (ps : List Str) (dvs : List V) (sp : Sp) : Prop :=
  ∃ (fd : FuncData) (ds : List Value), FnOk P w K mg base CX k (He.ga K x) fd ps sp ∧ Vals dvs ds ∧ Binds K fd ps ds ∧ mg x = some (.ref (He.ga K x)) ∧ PySem.W.keepIn K (.ref (He.ga K x)) = true
section
variable {P : Program} {w : World} {K : PySem.W.Frag} {mg : Str → Option Value} {base : Heap}
theorem Good.mono {CX : CXT} {j k : Nat} {x : Str} {ps : List Str} {dvs : List V} {sp : Sp} (G : Good P w K mg base CX j x ps dvs sp) (h : j ≤ k) : Good P w K mg base CX k x ps dvs sp := by
  obtain ⟨fd, ds, F, r⟩ := G
  exact ⟨fd, ds, F.mono h, r⟩
theorem Good.imp {CX : CXT} {k : Nat} {x : Str} {ps : List Str} {dvs : List V} {sp sp' : Sp} (G : Good P w K mg base CX k x ps dvs sp) (h : ∀ vs H Q E, sp' vs H Q E → sp vs H Q E) : Good P w K mg base CX k x ps dvs sp' := by
  obtain ⟨fd, ds, F, r⟩ := G
  exact ⟨fd, ds, F.imp h, r⟩
/-- a def that lets nothing out -/
theorem good0 {x : Str} {st : Stmt} {N ps : List Str} {k : Nat} {sp : Sp} (hF : ∃ fd, FnP K x x st [] (He.ga K x) fd) (g : mg x = some (.ref (He.ga K x))) (S : FnScope N ps (defScope st))
    (hb : ∀ (kV doc pm : Value) (an : Option Addr) (cdv ct : Value) (us : List Value), us.length = ps.length → bindArgs (PySem.W.fnOf x x (defArgs st) (defBody st) (defScope st) .none kV doc pm an cdv ct) ⟨us, []⟩ = pure (ps.zip us))
    (len : ∀ vs H Q E, sp vs H Q E → vs.length = ps.length)
    (hbody : ∀ (cdv : Value) (A : Around) (outer : List Env) (s : Shared) (H : Hp) (vs : List V) (Q : VK) (E : XK), Room k (A.deeper (envOfC x (defScope st) s.heap.objs.size (He.ga K x) cdv)) → sp vs H Q E →
      ∃ t, PSs (cxOf CX0 P w K mg base N x (defScope st) (He.ga K x) cdv A outer s H E).nox (defBody st) t ∧ t { nx := fun _ H' => Q .non H', rt := Q } (start N vs) H) : Good P w K mg base CX0 (k + 1) x ps [] sp := by
  obtain ⟨fd, F⟩ := hF
  refine ⟨fd, [], F.ok S len (fun cdv A outer s H vs Q E hr h => ?_), .nil, F.bindsN hb, g, F.kp⟩
  obtain ⟨t, ht, hq⟩ := hbody cdv A outer s H vs Q E hr h
  exact ⟨t, PSs.nox ht, hq⟩
/-- a def that may let something out -/
theorem goodX {CX : CXT} {x : Str} {st : Stmt} {N ps : List Str} {k : Nat} {sp : Sp} (hF : ∃ fd, FnP K x x st [] (He.ga K x) fd) (g : mg x = some (.ref (He.ga K x))) (S : FnScope N ps (defScope st))
    (hb : ∀ (kV doc pm : Value) (an : Option Addr) (cdv ct : Value) (us : List Value), us.length = ps.length → bindArgs (PySem.W.fnOf x x (defArgs st) (defBody st) (defScope st) .none kV doc pm an cdv ct) ⟨us, []⟩ = pure (ps.zip us))
    (len : ∀ vs H Q E, sp vs H Q E → vs.length = ps.length)
    (hbody : ∀ (cdv : Value) (A : Around) (outer : List Env) (s : Shared) (H : Hp) (vs : List V) (Q : VK) (E : XK), Room k (A.deeper (envOfC x (defScope st) s.heap.objs.size (He.ga K x) cdv)) → sp vs H Q E →
      ∃ t, PSs (cxOf CX P w K mg base N x (defScope st) (He.ga K x) cdv A outer s H E) (defBody st) t ∧ t { nx := fun _ H' => Q .non H', rt := Q } (start N vs) H) : Good P w K mg base CX (k + 1) x ps [] sp := by
  obtain ⟨fd, F⟩ := hF
  exact ⟨fd, [], F.ok S len hbody, .nil, F.bindsN hb, g, F.kp⟩
end
section
variable {X : Cx} {CX : CXT} {k j : Nat} {x : Str} {ps : List Str} {dvs : List V} {sp : Sp} {E : XK} {p pos : Pos} {e : Expr} {es : List Expr} {t : TA}
theorem pe_goX (G : Good X.prog X.w X.K X.mg X.base CX k x ps dvs sp) (hr : Room j X.A) (hkj : k ≤ j) (hg : Gl X x) (hx : Passes CX X E) (ha : PA X (e :: es) t) (hdb : (x == ("__debug__" : Str)) = false := by decide)
    (he : starEach (e :: es) X.env = (false, eval e X.env) :: starEach es X.env := by rfl) (hpl : (backTo pos (starEach es X.env)).any (·.1) = false := by rfl) : PE X (.Call (.Name x p) (e :: es) [] pos) (tCall sp dvs E t) := by
  obtain ⟨fd, ds, F, r, b, m, kp⟩ := G
  exact pe_call F (hr.mono hkj) hg m kp b r hx ha hdb he hpl
theorem pe_go (G : Good X.prog X.w X.K X.mg X.base CX0 k x ps dvs sp) (hr : Room j X.A) (hkj : k ≤ j) (hg : Gl X x) (ha : PA X (e :: es) t) (hdb : (x == ("__debug__" : Str)) = false := by decide)
    (he : starEach (e :: es) X.env = (false, eval e X.env) :: starEach es X.env := by rfl) (hpl : (backTo pos (starEach es X.env)).any (·.1) = false := by rfl) : PE X (.Call (.Name x p) (e :: es) [] pos) (tCall sp dvs E0 t) := pe_goX G hr hkj hg pass0 ha hdb he hpl
end
/-! ### heaps -/
theorem Same.out {H H' : Hp} {p : Addr} {o : HO} (s : Same H H') (n : H p = none) : Same H (upd H' p o) := fun b u e => by
  rw [upd_ne (ne_of_none e n)]
  exact s b u e
theorem Same.new {H : Hp} {p : Addr} {o : HO} (n : H p = none) : Same H (upd H p o) := Same.out (Same.refl H) n
theorem Same.nw {H H' : Hp} {p : Addr} {o : HO} (s : Same H H') (n : H' p = none) : Same H (upd H' p o) := Same.out s (s.free n)
/-- ints -/
abbrev iv (ns : List Int) : List V := ns.map V.int
theorem iv_get {ns : List Int} {i : Nat} {y : V} (h : (iv ns)[i]? = some y) : ∃ z, ns[i]? = some z ∧ y = V.int z := by
  rw [List.getElem?_map] at h
  cases e : ns[i]? with
  | none => rw [e] at h; cases h
  | some z => rw [e] at h; exact ⟨z, rfl, (Option.some.inj h).symm⟩
theorem iv_at {ns : List Int} {i : Nat} {z : Int} (h : ns[i]? = some z) : (iv ns)[i]? = some (V.int z) := by
  rw [List.getElem?_map, h]
  rfl
theorem iv_len (ns : List Int) : (iv ns).length = ns.length := List.length_map _
theorem iv_inj {ns ms : List Int} (h : iv ns = iv ms) : ns = ms := by
  induction ns generalizing ms with
  | nil => cases ms with
    | nil => rfl
    | cons a r => cases h
  | cons a r ih => cases ms with
    | nil => cases h
    | cons b q =>
      injection h with h1 h2
      injection h1 with h1
      rw [h1, ih h2]
theorem take_more {α : Type} {l : List α} {i : Nat} {x : α} (h : l[i]? = some x) : l.take (i + 1) = l.take i ++ [x] := by
  rw [List.take_succ, h]
  rfl
theorem lt_of_get {α : Type} {l : List α} {i : Nat} {x : α} (h : l[i]? = some x) : i < l.length := (List.getElem?_eq_some_iff.mp h).1
theorem smallLine {n : Nat} (h : n ≤ 1000000) : n < sizeLine := by
  rw [sizeLine_eq]
  omega
end K21
namespace K21
open PySem PySem.Spec PyProof.Rows L2
theorem pe_const {X : Cx} {x : Str} {i : Int} {pos : Pos} (h : ∃ t, X.mg x = some (.int i t)) (hg : Gl X x) (hd : (x == ("__debug__" : Str)) = false := by decide) : PE X (.Name x pos) (tC (.int i)) := by
  obtain ⟨t, h⟩ := h
  exact pe_glob hg h ⟨t, rfl⟩ hd
theorem hu64 {A : Around} {k : Nat} (hr : Room k A) : A.units + 64 < cLine := hr.units
end K21

namespace K21
theorem iteT' {c : Bool} {A B : Prop} (hc : c = true) (h : A) : if c = true then A else B := by
  rw [if_pos hc]
  exact h
theorem iteF' {c : Bool} {A B : Prop} (hc : c = false) (h : B) : if c = true then A else B := by
  rw [hc, if_neg Bool.false_ne_true]
  exact h
end K21
end
section
set_option Elab.async false
set_option linter.all false
set_option maxRecDepth 100000
set_option maxHeartbeats 4000000
/-! short words 2: == of rows of ints, lists of things by items -/
namespace K21
open PySem PySem.Spec PyProof.Rows L2
theorem dpa_iv {K : PySem.W.Frag} {H : Hp} : ∀ ns : List Int, DpAll K H (iv ns) (ns.map PyData.int)
  | [] => .nil
  | n :: r => .cons (.int n) (dpa_iv r)
theorem sh_tup (ns : List Int) : SeqAt.shaped (.tuple (ns.map PyData.int)) = true := by
  simp [SeqAt.shaped, PyData.canLay0, PyData.depth, PySem.W.ke_canLayAll0, PySem.W.ke_depthAll]
theorem ev_tup (ns ms : List Int) : PyData.eqv (.tuple (ns.map PyData.int)) (.tuple (ms.map PyData.int)) = decide (ns = ms) := by
  simp only [PyData.eqv]
  exact PySem.W.ked_eqvAll ns ms
theorem ev_lst (ns ms : List Int) : PyData.eqv (.list (ns.map PyData.int)) (.list (ms.map PyData.int)) = decide (ns = ms) := by
  simp only [PyData.eqv]
  exact PySem.W.ked_eqvAll ns ms
section
variable {K : PySem.W.Frag} {H : Hp} {a b : Addr} {ns ms : List Int} {Q : VK}
theorem eqT (ha : H a = some (.tup (iv ns))) (hb : H b = some (.tup (iv ms))) (q : Q (.bl (decide (ns = ms))) H) : rEqD K (.ref a) (.ref b) H Q :=
  ⟨_, _, .tup (SqT.of ha) (dpa_iv ns), .tup (SqT.of hb) (dpa_iv ms), sh_tup _, sh_tup _, by rw [ev_tup]; exact q⟩
theorem neT (ha : H a = some (.tup (iv ns))) (hb : H b = some (.tup (iv ms))) (q : Q (.bl (!decide (ns = ms))) H) : rNeD K (.ref a) (.ref b) H Q :=
  ⟨_, _, .tup (SqT.of ha) (dpa_iv ns), .tup (SqT.of hb) (dpa_iv ms), sh_tup _, sh_tup _, by rw [ev_tup]; exact q⟩
theorem eqL (ha : H a = some (.lst (iv ns))) (hb : H b = some (.lst (iv ms))) (q : Q (.bl (decide (ns = ms))) H) : rEqD K (.ref a) (.ref b) H Q :=
  ⟨_, _, .lst (SqL.of ha) (dpa_iv ns), .lst (SqL.of hb) (dpa_iv ms), PySem.W.ke_shaped_ints _, PySem.W.ke_shaped_ints _, by rw [ev_lst]; exact q⟩
theorem neL (ha : H a = some (.lst (iv ns))) (hb : H b = some (.lst (iv ms))) (q : Q (.bl (!decide (ns = ms))) H) : rNeD K (.ref a) (.ref b) H Q :=
  ⟨_, _, .lst (SqL.of ha) (dpa_iv ns), .lst (SqL.of hb) (dpa_iv ms), PySem.W.ke_shaped_ints _, PySem.W.ke_shaped_ints _, by rw [ev_lst]; exact q⟩
theorem catA {xs ys : List V} (ha : H a = some (.tup xs)) (hb : H b = some (.tup ys)) (hz : xs.length + ys.length ≤ 1000000) (k : ∀ H' p, Same H H' → H' p = some (.tup (xs ++ ys)) → Q (.ref p) H') : rCatA K (.ref a) (.ref b) H Q :=
  ⟨a, b, xs, ys, rfl, rfl, SqT.of ha, SqT.of hb, Nat.le_of_lt (smallLine hz), fun e => k H b (Same.refl H) (by rw [e]; exact hb), fun _ e => k H a (Same.refl H) (by rw [e, List.append_nil]; exact ha), fun _ _ p hp => k _ p (Same.new hp) upd_same⟩
end
/-- a new object: what it is, in a heap that has grown -/
theorem fresh {H : Hp} {p : Addr} {o : HO} {G : Hp → Prop} (hp : H p = none) (k : ∀ H0, Same H H0 → H0 p = some o → G H0) : G (upd H p o) := k _ (Same.new hp) upd_same
theorem got {H H1 : Hp} {p : Addr} {o : HO} (e : upd H p o = H1) (hp : H p = none) : Same H H1 ∧ H1 p = some o := by
  subst e
  exact ⟨Same.new hp, upd_same⟩
/-! the same rules with K told (in a comprehension's block) -/
section
variable {X : Cx} {K : PySem.W.Frag}
theorem pg_tupK {es : List Expr} {k : Nat} {t : TGs} {n : Nat} {pos : Pos} (e : X.K = K) (hc : X.calm = true) (h : PGs X es t) (hn : (assignEach es X.env).length = n := by rfl) (hst : (assignEach es X.env).findIdx? (·.1) = none := by rfl) : PG X (.Tuple es k pos) (gTup K n t) := by
  subst e
  exact pg_tup hc h hn hst
theorem sl_tupAK (e : X.K = K) : SlR X (rSlA K) := by
  subst e
  exact sl_tupA
theorem sl_listK (e : X.K = K) : SlR X (rSlL K) := by
  subst e
  exact sl_list
theorem ix_tupK (e : X.K = K) : IxR X (rIxT K) := by
  subst e
  exact ix_tup
theorem ix_listK (e : X.K = K) : IxR X (rIxL K) := by
  subst e
  exact ix_list
theorem call_len_seqK (e : X.K = K) : CallR X (.builtin "len") (fun xs H Q => ∃ p ys, xs = [.ref p] ∧ (SqL K H p ys ∨ SqT K H p ys) ∧ Q (.int ys.length) H) := by
  subst e
  exact call_len_seq
theorem call_list_ofK (e : X.K = K) : CallR X (.type "list") (fun xs H Q => ∃ p ys, xs = [.ref p] ∧ (SqL K H p ys ∨ SqT K H p ys) ∧ ∀ l, H l = none → Q (.ref l) (upd H l (.lst ys))) := by
  subst e
  exact call_list_of
theorem op_eqDK (e : X.K = K) (hu : X.A.units + 64 < cLine) : OpR X (compareOp .Eq) (rEqD K) := by
  subst e
  exact op_eqD hu
end
/-- item by item -/
def Al {α : Type} (R : V → α → Prop) (vs : List V) (l : List α) : Prop := vs.length = l.length ∧ ∀ (j : Nat) v x, vs[j]? = some v → l[j]? = some x → R v x
theorem Al.nil {α : Type} {R : V → α → Prop} : Al R [] [] := ⟨rfl, fun j v x h => by cases h⟩
theorem Al.imp {α : Type} {R R' : V → α → Prop} {vs : List V} {l : List α} (a : Al R vs l) (h : ∀ v x, R v x → R' v x) : Al R' vs l := ⟨a.1, fun j v x h1 h2 => h v x (a.2 j v x h1 h2)⟩
theorem Al.snoc {α : Type} {R : V → α → Prop} {vs : List V} {l : List α} {v : V} {x : α} (a : Al R vs l) (h : R v x) : Al R (vs ++ [v]) (l ++ [x]) := ⟨by rw [List.length_append, List.length_append, a.1]; rfl, fun j u y h1 h2 => by
  by_cases c : j < vs.length
  · rw [List.getElem?_append_left c] at h1
    rw [List.getElem?_append_left (by rw [← a.1]; exact c)] at h2
    exact a.2 j u y h1 h2
  · rw [List.getElem?_append_right (by omega)] at h1
    rw [List.getElem?_append_right (by rw [← a.1]; omega)] at h2
    have e : j - vs.length = 0 := by
      have := lt_of_get h1
      simp at this
      omega
    have e2 : j - l.length = 0 := by rw [← a.1]; exact e
    rw [e] at h1
    rw [e2] at h2
    cases h1
    cases h2
    exact h⟩
theorem Al.get {α : Type} {R : V → α → Prop} {vs : List V} {l : List α} (a : Al R vs l) {j : Nat} {v : V} (h : vs[j]? = some v) : ∃ x, l[j]? = some x ∧ R v x := by
  have hj : j < l.length := by rw [← a.1]; exact lt_of_get h
  exact ⟨l[j], List.getElem?_eq_getElem hj, a.2 j v _ h (List.getElem?_eq_getElem hj)⟩
theorem Al.one {α : Type} {R : V → α → Prop} {v : V} {x : α} (h : R v x) : Al R [v] [x] := Al.snoc Al.nil h
theorem Al.cons {α : Type} {R : V → α → Prop} {vs : List V} {l : List α} {v : V} {x : α} (h : R v x) (a : Al R vs l) : Al R (v :: vs) (x :: l) := ⟨by rw [List.length_cons, List.length_cons, a.1], fun j u y h1 h2 => by
  cases j with
  | zero => cases h1; cases h2; exact h
  | succ j => exact a.2 j u y h1 h2⟩
theorem Al.tail {α : Type} {R : V → α → Prop} {vs : List V} {l : List α} {v : V} {x : α} (a : Al R (v :: vs) (x :: l)) : R v x ∧ Al R vs l := ⟨a.2 0 v x rfl rfl, Nat.succ.inj a.1, fun j u y h1 h2 => a.2 (j + 1) u y h1 h2⟩
/-- tuples stay -/
def Tk (H H' : Hp) : Prop := ∀ a xs, H a = some (.tup xs) → H' a = some (.tup xs)
theorem Tk.of {H H' : Hp} (s : Same H H') : Tk H H' := fun a xs h => s _ _ h
theorem Tk.refl (H : Hp) : Tk H H := fun _ _ h => h
theorem Tk.trans {H H1 H2 : Hp} (a : Tk H H1) (b : Tk H1 H2) : Tk H H2 := fun p xs h => b _ _ (a _ _ h)
theorem Tk.put {H : Hp} {a : Addr} {o o' : HO} (h : H a = some o) (n : ∀ xs, o ≠ .tup xs) : Tk H (upd H a o') := fun p xs hp => by
  rw [upd_ne]
  · exact hp
  · intro e
    rw [e, h] at hp
    exact n xs (Option.some.inj hp)
/-! ### comprehensions: what the new list is by the turn -/
section
variable {K : PySem.W.Frag} {a b : Addr} {xs ys : List V} {g : TG} {tt : TT} {te : TE} {vs : List Nat} {σ : L2.St} {H1 : Hp} {D : Addr} {Qd : Hp → Prop}
/-- one turn -/
def LcTurn (g : TG) (tt : TT) (te : TE) (vs : List Nat) (σ : L2.St) (H : Hp) (x : V) (C1 : V → Hp → Prop) (C0 : Hp → Prop) : Prop := g x (wipe σ vs) H fun σ2 H2 => wipe σ2 vs = wipe σ vs ∧ tt σ2 H2 fun b H3 => if b = true then te σ2 H3 C1 else C0 H3
theorem lc_listr (Rl : Nat → List V → Hp → Prop) (ha : H1 a = some (.lst xs)) (hD : H1 D = none) (hn : xs.length ≤ 100000) (h0 : Rl 0 [] H1) (st : ∀ i l H H', Tk H H' → Rl i l H → Rl i l H') (hz : ∀ i l H, Rl i l H → l.length ≤ i)
    (hs : ∀ i x H l, xs[i]? = some x → Same H1 H → Rl i l H → ∀ (C1 : V → Hp → Prop) (C0 : Hp → Prop), (∀ z H', Same H H' → Rl (i + 1) (l ++ [z]) H' → C1 z H') → (∀ H', Same H H' → Rl (i + 1) l H' → C0 H') → LcTurn g tt te vs σ H x C1 C0)
    (hd : ∀ H l, Same H1 H → H D = some (.lst l) → Rl xs.length l H → Qd H) :
    ∃ W : Nat → Nat → Hp → Prop, (∃ m, W 0 m (upd H1 D (.lst []))) ∧ ∀ i m H, W i m H →
      ((Itl K a).stop i H ∧ Qd H) ∨ ((Itl K a).go i H ∧ ∃ Nx : Hp → Prop, (∀ H', Nx H' → ∃ m', m' < m ∧ W (i + 1) m' H') ∧ ∀ x H', (Itl K a).yld i H x H' → g x (wipe σ vs) H' fun σ2 H2 => wipe σ2 vs = wipe σ vs ∧ tt σ2 H2 fun b H3 =>
        if b = true then te σ2 H3 fun y H4 => ∃ acc, H4 D = some (.lst acc) ∧ acc.length < sizeLine ∧ Nx (upd H4 D (.lst (acc ++ [y]))) else Nx H3) := by
  refine lc_list (xs := xs) (fun i H => Same H1 H ∧ i ≤ xs.length ∧ ∃ l, H D = some (.lst l) ∧ Rl i l H) ⟨Same.new hD, Nat.zero_le _, [], upd_same, st _ _ _ _ (Tk.of (Same.new hD)) h0⟩ (fun i H _ ⟨s, _⟩ => SqL.of (s _ _ ha)) ?_ (fun H ⟨s, _, l, h, r⟩ => hd H l s h r)
  rintro i x H hx ⟨s, hi, l, h, r⟩
  have hlt := lt_of_get hx
  refine hs i x H l hx s r _ _ (fun z H' s' r' => ⟨l, s' _ _ h, smallLine (Nat.le_trans (hz i l H r) (by omega)), Same.out (s.trans s') hD, hlt, l ++ [z], upd_same, st _ _ _ _ (Tk.put (s' _ _ h) (fun _ q => by cases q)) r'⟩) (fun H' s' r' => ⟨s.trans s', hlt, l, s' _ _ h, r'⟩)
theorem lc_tupr (Rl : Nat → List V → Hp → Prop) (ha : H1 a = some (.tup xs)) (hD : H1 D = none) (hn : xs.length ≤ 100000) (h0 : Rl 0 [] H1) (st : ∀ i l H H', Tk H H' → Rl i l H → Rl i l H') (hz : ∀ i l H, Rl i l H → l.length ≤ i)
    (hs : ∀ i x H l, xs[i]? = some x → Same H1 H → Rl i l H → ∀ (C1 : V → Hp → Prop) (C0 : Hp → Prop), (∀ z H', Same H H' → Rl (i + 1) (l ++ [z]) H' → C1 z H') → (∀ H', Same H H' → Rl (i + 1) l H' → C0 H') → LcTurn g tt te vs σ H x C1 C0)
    (hd : ∀ H l, Same H1 H → H D = some (.lst l) → Rl xs.length l H → Qd H) :
    ∃ W : Nat → Nat → Hp → Prop, (∃ m, W 0 m (upd H1 D (.lst []))) ∧ ∀ i m H, W i m H →
      ((Itt K a).stop i H ∧ Qd H) ∨ ((Itt K a).go i H ∧ ∃ Nx : Hp → Prop, (∀ H', Nx H' → ∃ m', m' < m ∧ W (i + 1) m' H') ∧ ∀ x H', (Itt K a).yld i H x H' → g x (wipe σ vs) H' fun σ2 H2 => wipe σ2 vs = wipe σ vs ∧ tt σ2 H2 fun b H3 =>
        if b = true then te σ2 H3 fun y H4 => ∃ acc, H4 D = some (.lst acc) ∧ acc.length < sizeLine ∧ Nx (upd H4 D (.lst (acc ++ [y]))) else Nx H3) := by
  refine lc_tup (xs := xs) (fun i H => Same H1 H ∧ i ≤ xs.length ∧ ∃ l, H D = some (.lst l) ∧ Rl i l H) ⟨Same.new hD, Nat.zero_le _, [], upd_same, st _ _ _ _ (Tk.of (Same.new hD)) h0⟩ (fun i H _ ⟨s, _⟩ => SqT.of (s _ _ ha)) ?_ (fun H ⟨s, _, l, h, r⟩ => hd H l s h r)
  rintro i x H hx ⟨s, hi, l, h, r⟩
  have hlt := lt_of_get hx
  refine hs i x H l hx s r _ _ (fun z H' s' r' => ⟨l, s' _ _ h, smallLine (Nat.le_trans (hz i l H r) (by omega)), Same.out (s.trans s') hD, hlt, l ++ [z], upd_same, st _ _ _ _ (Tk.put (s' _ _ h) (fun _ q => by cases q)) r'⟩) (fun H' s' r' => ⟨s.trans s', hlt, l, s' _ _ h, r'⟩)
theorem lc_ranger {lo : Int} {n : Nat} (Rl : Nat → List V → Hp → Prop) (hD : H1 D = none) (hn : n ≤ 100000) (h0 : Rl 0 [] H1) (st : ∀ i l H H', Tk H H' → Rl i l H → Rl i l H') (hz : ∀ i l H, Rl i l H → l.length ≤ i)
    (hs : ∀ i H l, i < n → Same H1 H → Rl i l H → ∀ (C1 : V → Hp → Prop) (C0 : Hp → Prop), (∀ z H', Same H H' → Rl (i + 1) (l ++ [z]) H' → C1 z H') → (∀ H', Same H H' → Rl (i + 1) l H' → C0 H') → LcTurn g tt te vs σ H (.int (lo + i)) C1 C0)
    (hd : ∀ H l, Same H1 H → H D = some (.lst l) → Rl n l H → Qd H) :
    ∃ W : Nat → Nat → Hp → Prop, (∃ m, W 0 m (upd H1 D (.lst []))) ∧ ∀ i m H, W i m H →
      ((Itr lo n).stop i H ∧ Qd H) ∨ ((Itr lo n).go i H ∧ ∃ Nx : Hp → Prop, (∀ H', Nx H' → ∃ m', m' < m ∧ W (i + 1) m' H') ∧ ∀ x H', (Itr lo n).yld i H x H' → g x (wipe σ vs) H' fun σ2 H2 => wipe σ2 vs = wipe σ vs ∧ tt σ2 H2 fun b H3 =>
        if b = true then te σ2 H3 fun y H4 => ∃ acc, H4 D = some (.lst acc) ∧ acc.length < sizeLine ∧ Nx (upd H4 D (.lst (acc ++ [y]))) else Nx H3) := by
  refine lc_range (fun i H => Same H1 H ∧ i ≤ n ∧ ∃ l, H D = some (.lst l) ∧ Rl i l H) ⟨Same.new hD, Nat.zero_le _, [], upd_same, st _ _ _ _ (Tk.of (Same.new hD)) h0⟩ ?_ (fun H ⟨s, _, l, h, r⟩ => hd H l s h r)
  rintro i H hlt ⟨s, hi, l, h, r⟩
  refine hs i H l hlt s r _ _ (fun z H' s' r' => ⟨l, s' _ _ h, smallLine (Nat.le_trans (hz i l H r) (by omega)), Same.out (s.trans s') hD, hlt, l ++ [z], upd_same, st _ _ _ _ (Tk.put (s' _ _ h) (fun _ q => by cases q)) r'⟩) (fun H' s' r' => ⟨s.trans s', hlt, l, s' _ _ h, r'⟩)
end
end K21
end
section
set_option Elab.async false
set_option linter.all false
set_option maxRecDepth 100000
set_option maxHeartbeats 4000000
/-! rules that the layer lacks 1: set(list | tuple) of ints, its length, sorted of it whatever its size -/
namespace K21
open PySem PySem.Spec PyProof.Rows L2
section
variable {P : Program} {w : World} {A : Around} {E : Value → Shared → Prop} {s : Shared}
/-- the new set's object -/
abbrev set0 (w : World) : Obj := { cls := .type "set", dict := none, data := .set #[] 0 (.fresh 0 0 (!w.params.followText "set-order")) }
set_option maxHeartbeats 8000000 in
/-- set(l), l a list of ints (as call_set_tupI does for a tuple) -/
theorem setOfList {l : Addr} {its : Array Value} (ns : List Int) {Q : Value → Shared → Prop} (hh : A.handled = none) (hl : s.heap.IsList l its) (hi : IntsAre its.toList ns) (hb : ns.length + 1 < scanBound)
    (hq : ∀ (h' : Heap) (tk c : Nat), SetR w h' s.heap.objs.size (fun j => decide (j ∈ ns)) c → c ≤ ns.length → (∀ b o, s.heap.get? b = some o → h'.get? b = some o) → Q (.ref s.heap.objs.size) { s with heap := h', toks := tk }) :
    wpAny (model P w) A (call (.type "set") [.ref l]) Q E s := by
  have sz : its.size = ns.length := by rw [← Array.length_toList]; exact IntsAre.length hi
  obtain ⟨cc, tl, hmro⟩ := F.called_set.mro
  have f1 := F.called_set.made
  have f2 := F.called_set.sub
  refine wpAny_call (codeAny_of_tree ?_)
  show wpAny _ _ (callAny (.type "set") _) _ _ _
  refine wpAny_pure ⟨Code.quiet_builtin _ (by decide +kernel), codeAny_builtin F.entry_type_call ?_⟩
  rw [Around.under_plain (weight_type_call_type "set" [.ref l] []) rfl]
  have f3 := F.called_set.notType
  have f4 := F.called_set.canCreate
  have f5 := F.typeCall_set_1 (.ref l)
  repeat (any_goals (first | assumption | wp_step))
  refine codeAny_mono (code_set_led1 (.ref l) (E := E) (Q₁ := fun obj s1 => obj = .ref s.heap.objs.size ∧ s1 = { s with heap := s.heap.push (set0 w) }) ⟨rfl, rfl⟩) fun r s1 hr => ?_
  rcases r with e | fl
  · exact hr
  · cases fl with
    | ret obj =>
      obtain ⟨rfl, rfl⟩ := hr
      have g0 : (s.heap.push (set0 w)).get? s.heap.objs.size = some (set0 w) := Heap.get?_push_size _ rfl
      have gT : Shared.TypeIs { s with heap := s.heap.push (set0 w) } (.ref s.heap.objs.size) "set" := ⟨_, g0, rfl⟩
      have f6 := F.called_set.init.lookup
      have f7 := F.called_set.init.bind (.ref s.heap.objs.size)
      repeat (any_goals (first | assumption | wp_step))
      refine codeAny_mono (codeAny_call_builtin (R := wants (fun r s2 => r = .none ∧ ∃ h' tk c, s2 = { s with heap := h', toks := tk } ∧ SetR w h' s.heap.objs.size (fun j => decide (j ∈ ns)) c ∧ c ≤ ns.length ∧
          (∀ b o, s.heap.get? b = some o → h'.get? b = some o)) E) F.called_set.init.plain F.entry_set_init (check_set_init_1 gT ?_)) fun r2 s2 hr2 => ?_
      · obtain ⟨ol, hol, k1, nl, k3⟩ := hl
        obtain ⟨oc, od, odat, osl⟩ := ol
        simp only at k1 k3
        subst k1; subst k3
        have hol' : (s.heap.push (set0 w)).get? l = some { cls := .type "list", dict := od, data := .seq its nl, slots := osl } := Heap.get?_push_of_some _ hol
        have f8 := F.sub_list_set
        have f9 := F.sub_list_frozenset
        have f10 : (Value.type "list" == Value.type "dict") = false := by decide
        have hl1 : (s.heap.push (set0 w)).IsList l its := ⟨_, hol', rfl, nl, rfl⟩
        unfold Builtin.«set.__init__» noKeywords Builtin.Frozenset.updateFrom
        generalize hPI : pyIter = PI
        wp_walk
        subst hPI
        refine wpAny_pyIter_list hl1 ?_
        refine wpAny_bind (wpAny_runValue ?_)
        have lS : l < s.heap.objs.size := Heap.lt_size hol
        have h3 : A.in1.in1.in1.handled = none := by simp [hh]
        have neI : l ≠ (s.heap.push (set0 w)).objs.size := by
          rw [Heap.size_push]; exact Nat.ne_of_lt (Nat.lt_succ_of_lt lS)
        have nS : s.heap.objs.size ∉ [(s.heap.push (set0 w)).objs.size, l] := by
          rw [Heap.size_push]
          simp only [List.mem_cons, List.mem_singleton, List.not_mem_nil, or_false, not_or]
          exact ⟨Nat.ne_of_lt (Nat.lt_succ_self _), Nat.ne_of_gt lS⟩
        have val : ∀ (i : Nat) (v : Value), its[i]? = some v → ∃ k t, ns[i]? = some k ∧ v = .int k t := fun i v hv => by
          have hin : i < ns.length := by rw [← sz]; exact (Array.getElem?_eq_some_iff.mp hv).1
          obtain ⟨t, e⟩ := PyProof.Rows.IntsAre.int_at hi i v (by rw [Array.getElem?_toList]; exact hv)
          refine ⟨ns[i], t, List.getElem?_eq_getElem hin, ?_⟩
          rw [e, List.getD_eq_getElem?_getD, List.getElem?_eq_getElem hin] <;> rfl
        refine set_update_ints ((Walks.list h3 _ l neI its).toS) s.heap.objs.size nS ns sz hb val (its.size - 0) 0 _ (by omega) (Nat.zero_le _) ⟨⟨_, Heap.get?_push_size _ rfl, rfl, rfl⟩, (hl1.push _)⟩ ⟨0, Nat.le_refl 0, setR_new_at (Heap.get?_push_of_some _ g0)⟩ ?_
        intro s' c' mv hc' hS'
        obtain ⟨h', g2, d', tk', os'⟩ := s'
        have e1 : g2 = s.gens := mv.gens
        have e2 : d' = s.drawn := mv.drawn
        have e3 : os' = s.os := mv.os
        subst e1; subst e2; subst e3
        show wpAny _ _ _ _ _ _
        refine wpAny_pure ?_
        show wpAny _ _ (ret Value.none) _ _ _
        rw [sz] at hc'
        refine wpAny_pure ⟨rfl, h', tk', c', rfl, hS', hc', fun b o e => ?_⟩
        have b0 : b < s.heap.objs.size := Heap.lt_size e
        refine mv.heap b o ?_ (Heap.get?_push_of_some _ (Heap.get?_push_of_some _ e))
        simp only [List.mem_cons, List.mem_singleton, List.not_mem_nil, or_false, not_or]
        refine ⟨Nat.ne_of_lt b0, ?_⟩
        rw [Heap.size_push]
        exact Nat.ne_of_lt (Nat.lt_succ_of_lt b0)
      · rcases r2 with e | fl2
        · exact hr2
        · cases fl2 with
          | ret r =>
            obtain ⟨rfl, h', tk, c', rfl, hS', hc', hk'⟩ := hr2
            repeat (any_goals (first | assumption | wp_step))
            exact hq _ _ _ hS' hc' hk'
          | _ => exact hr2.elim
    | _ => exact hr.elim
/-- sorted of a set of ints of any size -/
theorem sortedSetAny {a : Addr} {S : Int → Bool} {n : Nat} {Q : Value → Shared → Prop} (R : SetR w s.heap a S n) (hh : A.handled = none)
    (hQ : ∀ s' p (out : List Value) (c : Nat) (ns : List Int), (∀ b o, s.heap.get? b = some o → s'.heap.get? b = some o) → s'.gens = s.gens → s'.os = s.os → s.heap.objs.size ≤ p →
      s'.heap.get? p = some (seqObj "list" out.toArray c) → IntsAre out ns → ns.Pairwise (· < ·) → (∀ k, k ∈ ns ↔ S k = true) → ns.length < 5000 → Q (.ref p) s') :
    wpAny (model P w) A (call (.builtin "sorted") [.ref a]) Q E s := by
  obtain ⟨o, es, ep, t, ho, hex, hd, g, nd, hm, hb, hf, hn, hr, hl⟩ := R
  refine Calls.call_function_entry kind_sorted plain_sorted entry_sorted (args_sorted1 _) ?_
  unfold Builtin.«sorted»
  refine wpAny_bind (m := checkCount "sorted" 1 1 _) (wpAny_pure ?_)
  refine wpAny_bind (collect_set (A := A.in1) hh ⟨o, ho, hex.1, hd⟩ hf hb hr hl fun s1 vs k1 _ g1 o1 pm => ?_)
  have vl : vs.length < 5000 := by
    rw [pm.length_eq, List.length_map, Array.length_toList]
    unfold scanBound at hb
    omega
  have hI : IntsAre vs (vs.map Builtin.Re.reRawOf) := ints_of vs fun v hv => by
    obtain ⟨e, he, q⟩ := List.mem_map.mp (pm.mem_iff.mp hv)
    obtain ⟨k, tk, h1, _⟩ := g e he
    exact ⟨k, tk, by rw [← q]; exact h1⟩
  have pk : (vs.map Builtin.Re.reRawOf).Perm (es.toList.map keyOf) := by
    have q := pm.map Builtin.Re.reRawOf
    rw [List.map_map] at q
    exact q
  refine wpAny_bind (wpAny_newList ?_ (by rw [sizeLine_eq]; omega))
  have hoL : (s1.heap.push (seqObj "list" vs.toArray 0)).get? s1.heap.objs.size = some (seqObj "list" vs.toArray 0) := Heap.get?_push_size _ rfl
  refine wpAny_bind (wpAny_holding (wpAny_call_entry slot_list_sort ⟨_, hoL, rfl⟩ entry_list_sort (SrtO.list_sort_ord SrtO.swo_int hoL (by rw [sizeLine_eq]; omega) (fun h2 => SrtO.ints_sortable hI h2) fun out z1 z2 => ⟨_, rfl, ?_⟩) (args_list_sort _)))
  obtain ⟨y1, y2, y3⟩ := SrtO.ints_out hI z1 z2
  obtain ⟨c, hc⟩ := sortedHeap_at (vs := vs) (out := out.toArray) hoL
  have pn : (out.map SrtO.iv).Perm (es.toList.map keyOf) := y2.trans pk
  refine wpAny_pure ⟨_, rfl, hQ _ s1.heap.objs.size out c (out.map SrtO.iv) (fun b u e => ?_) g1 o1 ?_ hc y1 (lt_of_le_nodup _ y3 (pn.nodup_iff.mpr nd)) (fun k => by rw [pn.mem_iff, ← hm k]) ?_⟩
  · have q := k1 b u e
    have hlt := Heap.lt_size q
    show (sortedHeap (s1.heap.push (seqObj "list" vs.toArray 0)) s1.heap.objs.size vs out.toArray).get? b = some u
    rw [sortedHeap_old (Nat.ne_of_lt hlt) (by rw [size_push']; exact Nat.lt_succ_of_lt hlt)]
    exact Heap.get?_push_of_some _ q
  · assumption
  · rw [y2.length_eq, List.length_map]
    exact vl
end
/-- the number of a set's members -/
theorem setR_len {w : World} {h : Heap} {a : Addr} {ns : List Int} {c : Nat} (R : SetR w h a (fun j => decide (j ∈ ns)) c) : c = (asc ns).length := by
  obtain ⟨o, es, ep, t, _, _, _, _, nd, hm, _, _, hn, _⟩ := R
  have nda : (asc ns).Nodup := by
    rw [List.nodup_iff_pairwise_ne]
    exact (asc_asc ns).imp fun {x y} h e => by omega
  have p : (es.toList.map keyOf).Perm (asc ns) := by
    refine (List.perm_ext_iff_of_nodup nd nda).mpr fun k => ?_
    rw [← hm k, asc_mem]
    exact decide_eq_true_iff
  have e := p.length_eq
  rw [List.length_map, Array.length_toList] at e
  rw [← hn]
  exact e
section
variable {X : Cx}
/-- set(l), set(t) of ints -/
def rSetI (K : PySem.W.Frag) (w : World) : List V → Hp → VK → Prop := fun xs H Q => ∃ (a : Addr) (ns : List Int), xs = [.ref a] ∧ (SqL K H a (iv ns) ∨ SqT K H a (iv ns)) ∧ ns.length ≤ 4000 ∧
  ∀ p, H p = none → Q (.ref p) (upd H p (SetO w p (fun j => decide (j ∈ ns)) (asc ns).length))
theorem call_setI (hc : X.calm = true) : CallR X (.type "set") (rSetI X.K X.w) := by
  intro pins s σ H xs us Q I r h
  obtain ⟨a, ns, rfl, hs, hl, q⟩ := h
  rw [Vals.ref1 r]
  have hb : ns.length + 1 < scanBound := by unfold scanBound; omega
  have fin : ∀ (h' : Heap) (tk c : Nat), SetR X.w h' s.heap.objs.size (fun j => decide (j ∈ ns)) c → c ≤ ns.length → (∀ b o, s.heap.get? b = some o → h'.get? b = some o) → EP X pins σ Q (.ref s.heap.objs.size) { s with heap := h', toks := tk } := fun h' tk c R _ k => by
    have e := setR_len R
    subst e
    exact ⟨.ref _, _, I.laid k (Nat.le_refl _) (setO_new R), rfl, q _ (I.hok.fresh (Nat.le_refl _))⟩
  rcases hs with hs | hs
  · obtain ⟨its, rv, pl, _⟩ := I.list hs
    exact setOfList ns (I.ok.hd hc) pl.isList (by simpa using rv.ints) hb fin
  · obtain ⟨its, rv, pl, _⟩ := I.tuple hs
    exact call_set_tupI ns (I.ok.hd hc) pl (by simpa using rv.ints) hb fin
/-- len(a set of ints) -/
theorem call_len_setO : CallR X (.builtin "len") (fun xs H Q => ∃ a S n, xs = [V.ref a] ∧ H a = some (SetO X.w a S n) ∧ Q (.int (n : Nat)) H) := by
  intro pins s σ H xs us Q I r h
  obtain ⟨a, S, n, rfl, ha, q⟩ := h
  rw [Vals.ref1 r]
  obtain ⟨o, es, ep, t, ho, hex, hd, _, _, _, hb, hf, hn, _⟩ := setO_get I ha
  unfold scanBound at hb
  exact call_len_set ho hex hd hf (by omega) ⟨.int n, H, I.tok _, ⟨_, by rw [hn]⟩, q⟩
/-- sorted(a set of ints) -/
def rSortedSetI (w : World) : List V → Hp → VK → Prop := fun vs H Q => ∃ (a : Addr) (ns : List Int) (n : Nat), vs = [V.ref a] ∧ H a = some (SetO w a (fun j => decide (j ∈ ns)) n) ∧
  ∀ p, H p = none → Q (.ref p) (upd H p (.lst (iv (asc ns))))
theorem cr_sortedSetI (hc : X.calm = true) : CallR X (.builtin "sorted") (rSortedSetI X.w) := by
  intro pins s σ H vs us Q I r h
  obtain ⟨a, ms, n, rfl, ha, q⟩ := h
  rw [Vals.ref1 r]
  refine sortedSetAny (setO_get I ha) (I.ok.hd hc) fun s' p out c ns k g o hp hg hi hs hm hl => ?_
  have e : ns = asc ms := asc_uniq hs fun z => (hm z).trans decide_eq_true_iff
  subst e
  have hlen : (iv (asc ms)).length ≤ sizeLine := by rw [iv_len, sizeLine_eq]; omega
  have hn : H p = none := I.hok.fresh hp
  have J : Inv X pins σ (upd H p (.lst (iv (asc ms)))) { s with heap := s'.heap, gens := s'.gens, drawn := s'.drawn, toks := s'.toks } :=
    I.call (ch := []) (Un.laid k hp hn) (I.hok.laid k hp ⟨hlen, out, c, vals_of_ints hi, hg⟩) (by rw [g]; exact I.bare) (fun _ z => nomatch z)
  have es : s' = { s with heap := s'.heap, gens := s'.gens, drawn := s'.drawn, toks := s'.toks } := by
    cases s'
    cases s
    cases o
    rfl
  rw [es]
  exact ⟨.ref p, _, J, rfl, q p hn⟩
end
end K21
end
section
set_option Elab.async false
set_option linter.all false
set_option maxRecDepth 100000
set_option maxHeartbeats 4000000
/-! rules that the layer lacks 2: enumerate(a tuple), zip(a list, a tuple), a copy of a dict by its call, the list of a dict's tuple keys -/
namespace K21
open PySem PySem.Spec PyProof.Rows L2
section
variable {X : Cx} {pins : List (Addr × Obj)} {σ : L2.St} {H : Hp} {s : Shared} {E : Value → Shared → Prop}
/-- one turn of an iterator that hands out new tuples -/
theorem itemT {I : Addr} {fp wr : List Addr} {n i : Nat} {Pt : Nat → Array Value → Prop} {St : Nat → Heap → Prop} {Mid : Nat → Addr → Heap → Prop} (W : WalksT X.prog X.w X.A I fp wr n Pt St Mid)
    (Iv : Inv X pins σ H s) (hw : ∀ b ∈ wr, FpOk X pins H b) (hi : i < n) (st : St i s.heap) (elts : List Expr) (kk : Nat) (tpos : Pos) :
    wpAny (model X.prog X.w) X.A (pyNext (.ref I)) (fun r s1 => ∃ u, r = some u ∧ wpAny (model X.prog X.w) X.A (letOwnedTupleGo (.Tuple elts kk tpos) (.ref I) u) (fun _ s2 =>
      ∃ T vals, u = .ref T ∧ Pt i vals ∧ s.heap.objs.size ≤ T ∧ St (i + 1) s2.heap ∧ ∀ xs, Vals xs vals.toList → xs.length ≤ sizeLine → Inv X pins σ (upd H T (.tup xs)) s2) E s1) E s := by
  refine W.item i s _ _ hi st fun T vals h' tk hP hT hTup hMid hk => ⟨.ref T, rfl, W.go elts kk tpos i T { s with heap := h', toks := tk } _ _ hMid fun h'' st' hk' => ⟨T, vals, rfl, hP, hT, st', fun xs r z => ?_⟩⟩
  have hTw : T ∉ wr := W.apart i T h' hMid
  obtain ⟨oT, e1, e2, e3⟩ := hTup
  exact Iv.turnedNew (t' := tk) (ch := wr) (fun b o hb e => hk' b o hb (hk b o hb e)) hw hT ⟨z, vals.toList, r, oT, hk' T oT hTw e1, e2, by simpa using e3⟩
theorem doneT {I : Addr} {fp wr : List Addr} {n : Nat} {Pt : Nat → Array Value → Prop} {St : Nat → Heap → Prop} {Mid : Nat → Addr → Heap → Prop} (W : WalksT X.prog X.w X.A I fp wr n Pt St Mid)
    (Iv : Inv X pins σ H s) (hw : ∀ b ∈ wr, FpOk X pins H b) (st : St n s.heap) : wpAny (model X.prog X.w) X.A (pyNext (.ref I)) (fun r s1 => r = none ∧ Inv X pins σ H s1) E s :=
  W.done s _ _ st fun h' tk hk => ⟨rfl, Iv.turnedL (t' := tk) hk hw⟩
end
/-! ### enumerate(t) -/
/-- the tuple at a, each item in a new pair -/
def IteT (K : PySem.W.Frag) (a : Addr) : It :=
  ⟨fun i H => ∃ (xs : List V) (x : V), SqT K H a xs ∧ xs[i]? = some x, fun i H v H' => ∃ T x, v = .ref T ∧ H T = none ∧ H' = upd H T (.tup [.int (i : Nat), x]) ∧ ∀ xs, SqT K H a xs → xs[i]? = some x, fun i H => ∃ xs : List V, SqT K H a xs ∧ xs.length = i⟩
theorem turn_enumT {P : Program} {w : World} {K : PySem.W.Frag} {elts : List Expr} {kk : Nat} {tpos : Pos} (a e it : Addr) :
    Turn P w K (.Tuple elts kk tpos) (IteT K a) [e, it] e (fun i h => (∃ old, IsEnum h e it ((i : Nat) : Int) old) ∧ h.IsTupleIter it a i ∧ e ≠ it) where
  mem := by simp
  obj := fun i h st b hb => by
    obtain ⟨⟨old, q1⟩, ⟨o, q2, _, q3⟩, _⟩ := st
    rcases List.mem_cons.mp hb with z | z
    · rw [z]
      exact ⟨_, q1, fun v q => nomatch q⟩
    · rw [List.mem_singleton.mp z]
      exact ⟨o, q2, fun v q => by rw [q3] at q; cases q⟩
  keep := fun i h h' st k => ⟨st.1.elim fun old q => ⟨old, k e (by simp) _ q⟩, st.2.1.at fun o q => k it (by simp) o q, st.2.2⟩
  item := by
    intro X hP hw hK hc i pins s σ H E I hf st hg
    subst hP hw hK
    obtain ⟨⟨old, q1⟩, q2, ne⟩ := st
    obtain ⟨xs, x, hq, hx⟩ := hg
    obtain ⟨its, rv, p, _⟩ := I.tuple hq
    obtain ⟨u, hu, ru⟩ := rv.get hx
    obtain ⟨oa, ea, ca, na, da⟩ := id p
    obtain ⟨oi, ei, ci, di⟩ := id q2
    have nai : a ≠ it := fun z => by
      rw [z, ei] at ea
      rw [← Option.some.inj ea, ci] at ca
      exact absurd (Value.type.inj ca) (by decide)
    have nae : e ≠ a := fun z => by
      rw [← z] at ea
      have z2 := Option.some.inj (ea.symm.trans q1)
      rw [z2] at ca
      exact absurd (Value.type.inj ca) (by decide)
    have hlt : i < its.toArray.size := by
      rw [List.size_toArray]
      exact (List.getElem?_eq_some_iff.mp hu).1
    have st0 : (∃ old, IsEnum s.heap e it (0 + (i : Int)) old) ∧ (s.heap.IsTupleIter it a i ∧ s.heap.IsTuple a its.toArray) := ⟨⟨old, by rw [Int.zero_add]; exact q1⟩, q2, p⟩
    have W := WalksT.enumFrom (prog := X.prog) (w := X.w) (A := X.A) 0 (Draws.tuple (prog := X.prog) (w := X.w) (A := X.A.in1) (by simp [I.ok.hd hc]) it a nai its.toArray) e ne (by simp [ne, nae]) (by simp)
    refine thn (itemT W I (fun b hb => hf b hb) hlt st0 elts kk tpos) fun r s1 h1 => ?_
    obtain ⟨v, hv, h1⟩ := h1
    refine ⟨v, hv, thn h1 fun _ s2 h2 => ?_⟩
    obtain ⟨T, vals, ev, hP, hT, st', J⟩ := h2
    subst ev
    obtain ⟨t, y, hy, evals⟩ := hP
    have ey : y = u := by
      have : its.toArray[i]? = some u := by simpa using hu
      rw [this] at hy
      exact (Option.some.inj hy).symm
    subst ey
    subst evals
    refine ⟨.ref T, _, J [.int ((i : Nat) : Int), x] (.cons ⟨_, by rw [Int.zero_add]⟩ (.cons ru .nil)) (by show 2 ≤ sizeLine; decide), rfl, ⟨T, x, rfl, I.hok.fresh hT, rfl, fun ys hy => by rw [I.tuple_inj hy hq]; exact hx⟩, ⟨?_, st'.2.1, ne⟩, fun b hb => ?_⟩
    · obtain ⟨old', q⟩ := st'.1
      rw [Int.zero_add] at q
      exact ⟨old', q⟩
    · have hbT : b ≠ T := by
        have hlt2 : b < s.heap.objs.size := by
          rcases List.mem_cons.mp hb with z | z
          · rw [z]; exact Heap.lt_size q1
          · rw [List.mem_singleton.mp z]; exact Heap.lt_size ei
        exact Nat.ne_of_lt (Nat.lt_of_lt_of_le hlt2 hT)
      rw [upd_ne hbT]
      exact (hf b hb).1
  done := by
    intro X hP hw hK hc i pins s σ H E I hf st hg
    subst hP hw hK
    obtain ⟨⟨old, q1⟩, q2, ne⟩ := st
    obtain ⟨xs, hq, hx⟩ := hg
    obtain ⟨its, rv, p, _⟩ := I.tuple hq
    obtain ⟨oa, ea, ca, na, da⟩ := id p
    obtain ⟨oi, ei, ci, di⟩ := id q2
    have nai : a ≠ it := fun z => by
      rw [z, ei] at ea
      rw [← Option.some.inj ea, ci] at ca
      exact absurd (Value.type.inj ca) (by decide)
    have nae : e ≠ a := fun z => by
      rw [← z] at ea
      have z2 := Option.some.inj (ea.symm.trans q1)
      rw [z2] at ca
      exact absurd (Value.type.inj ca) (by decide)
    have hl : its.toArray.size = i := by rw [List.size_toArray, ← rv.length, hx]
    have st0 : (∃ old, IsEnum s.heap e it (0 + ((its.toArray.size : Nat) : Int)) old) ∧ (s.heap.IsTupleIter it a its.toArray.size ∧ s.heap.IsTuple a its.toArray) := ⟨⟨old, by rw [Int.zero_add, hl]; exact q1⟩, by rw [hl]; exact q2, p⟩
    exact doneT (WalksT.enumFrom (prog := X.prog) (w := X.w) (A := X.A) 0 (Draws.tuple (prog := X.prog) (w := X.w) (A := X.A.in1) (by simp [I.ok.hd hc]) it a nai its.toArray) e ne (by simp [ne, nae]) (by simp)) I (fun b hb => hf b hb) st0
  self := fun A i s Q E st h => st.1.elim fun old q => wpAny_pyIter_enum q h
theorem enum1_meets {v : Value} {o : Obj} {G : Heap → Prop} (B : Begins v o G) :
    Meets (Builtin.«enumerate.__new__» ⟨[.type "enumerate", v], []⟩) (fun _ R s => G s.heap ∧
      R (.ok (.ret (.ref (s.heap.push o).objs.size))) { s with heap := (s.heap.push o).push { cls := .type "enumerate", data := .fields #[.none, .bool false, .ref s.heap.objs.size, rawInt 0, .none, .none] } }) :=
  .of_wp fun prog w A R s h => by
    obtain ⟨hp, g, d, tk, os⟩ := s
    obtain ⟨h1, h2⟩ := h
    have sub := sub_enumerate
    have q1 : ∀ {A' : Around} {E : Value → Shared → Prop} {Q : Value → Shared → Prop}, Q (.ref hp.objs.size) ⟨hp.push o, g, d, tk, os⟩ → wpAny (model prog w) A' (pyIter v) Q E ⟨hp, g, d, tk, os⟩ :=
      fun q => B.iter prog w _ _ ⟨hp, g, d, tk, os⟩ _ h1 q
    wp_walk using q1
    refine wpAny_stack_any fun st => wpAny_pure ?_
    split
    · rename_i c _ _ _ _ _
      cases (c == Value.type "enumerate") <;> (wp_walk using q1; exact ⟨_, rfl, h2⟩)
    · wp_walk using q1
      exact ⟨_, rfl, h2⟩
/-- enumerate(t): its two new cells -/
theorem enum1_begins {prog : Program} {w : World} {A : Around} {E : Value → Shared → Prop} {s : Shared} {l : Addr} {its : Array Value} {Q : Value → Shared → Prop} (hl : s.heap.IsTuple l its)
    (h : ∀ h', IsEnum h' (s.heap.objs.size + 1) s.heap.objs.size 0 .none → h'.IsTupleIter s.heap.objs.size l 0 → (∀ b o, s.heap.get? b = some o → h'.get? b = some o) → Q (.ref (s.heap.objs.size + 1)) { s with heap := h' }) :
    wpAny (model prog w) A (call (.type "enumerate") [.ref l]) Q E s := by
  refine callType_new F.called_enumerate (by decide) (F.typeCall_enumerate_1 _) (F.newCall_enumerate_1 _) (fun obj => F.args_object_init_2 obj _) F.entry_enumerate_new
    (enum1_meets (begins_tuple l its)) ⟨hl, ?_⟩
  have z : (s.heap.push { cls := .type "tuple_iterator", data := .fields #[.ref l, .int 0 0] }).objs.size = s.heap.objs.size + 1 := Heap.size_push ..
  show _ ∧ _
  rw [z]
  have e : IsEnum ((s.heap.push { cls := .type "tuple_iterator", data := .fields #[.ref l, .int 0 0] }).push { cls := .type "enumerate", data := .fields #[.none, .bool false, .ref s.heap.objs.size, rawInt 0, .none, .none] }) (s.heap.objs.size + 1) s.heap.objs.size 0 .none := by
    have q := Heap.get?_push_size (s.heap.push { cls := .type "tuple_iterator", data := .fields #[.ref l, .int 0 0] })
      (o := { cls := .type "enumerate", data := .fields #[.none, .bool false, .ref s.heap.objs.size, rawInt 0, .none, .none] }) rfl
    rw [z] at q
    exact q
  exact ⟨⟨_, e, rfl⟩, h _ e ⟨_, Heap.get?_push_of_some _ (Heap.get?_push_size _ rfl), rfl, rfl⟩ fun b o x => Heap.get?_push_of_some _ (Heap.get?_push_of_some _ x)⟩
/-- enumerate(x), x a list or a tuple -/
def iEnumA (K : PySem.W.Frag) (ta : TA) : TI := fun σ H R => ta σ H fun vs H1 => ∃ a xs, vs = [.ref a] ∧ ((SqL K H1 a xs ∧ R (Ite K a) H1) ∨ (SqT K H1 a xs ∧ R (IteT K a) H1))
theorem two_new {X : Cx} {pins : List (Addr × Obj)} {σ : L2.St} {H : Hp} {s : Shared} (I : Inv X pins σ H s) : ∀ b ∈ [s.heap.objs.size + 1, s.heap.objs.size], FpOk X pins H b := fun b hb => by
  have hle : s.heap.objs.size ≤ b := by
    rcases List.mem_cons.mp hb with z | z
    · omega
    · have := List.mem_singleton.mp z
      omega
  exact I.fpOk hle (I.hok.fresh hle)
theorem pi_enumA {X : Cx} {e : Expr} {ta : TA} {p pos tpos : Pos} {elts : List Expr} {kk : Nat} (hg : Gl X "enumerate") (hm : X.mg "enumerate" = none) (ha : PA X [e] ta) (hs : starEach [e] X.env = [(false, eval e X.env)] := by rfl) :
    PI X (.Tuple elts kk tpos) (.Call (.Name "enumerate" p) [e] [] pos) (iEnumA X.K ta) := by
  refine ⟨fun pins s σ H R I h => ?_⟩
  refine Call_ (ld_blt I hg hm boot_enumerate (PyProof.Rows.callWith_type1 (thn (ha.run pos pins s σ H _ I h) fun us s1 h1 => ?_) hs rfl))
  obtain ⟨vs, H1, I1, r1, a, xs, ex, q1⟩ := h1
  subst ex
  rw [Vals.ref1 r1]
  rcases q1 with ⟨hq, q⟩ | ⟨hq, q⟩
  · obtain ⟨its, rv, pl, _⟩ := I1.list hq
    refine call_enumerate_list pl.isList fun h' he hit hsz hk => wpAny_pyIter_enum he ?_
    exact ⟨s1.heap.objs.size + 1, [s1.heap.objs.size + 1, s1.heap.objs.size], _, _, H1, rfl, I1.kept (t' := s1.toks) hk, turn_enum a _ _, ⟨⟨.none, he⟩, hit, Nat.succ_ne_self _⟩, two_new I1, q⟩
  · obtain ⟨its, rv, pl, _⟩ := I1.tuple hq
    refine enum1_begins pl fun h' he hit hk => wpAny_pyIter_enum he ?_
    exact ⟨s1.heap.objs.size + 1, [s1.heap.objs.size + 1, s1.heap.objs.size], _, _, H1, rfl, I1.kept (t' := s1.toks) hk, turn_enumT a _ _, ⟨⟨.none, he⟩, hit, Nat.succ_ne_self _⟩, two_new I1, q⟩
end K21
end
section
set_option Elab.async false
set_option linter.all false
set_option maxRecDepth 100000
set_option maxHeartbeats 4000000
/-! rules that the layer lacks 3: zip(a list, a tuple), dict(d), list(d.keys()) of a dict with tuple keys -/
namespace K21
open PySem PySem.Spec PyProof.Rows L2
/-- the list at a and the tuple at b, their items in new pairs -/
def ItzLT (K : PySem.W.Frag) (a b : Addr) : It :=
  ⟨fun i H => ∃ (xs ys : List V) (x y : V), SqL K H a xs ∧ SqT K H b ys ∧ xs[i]? = some x ∧ ys[i]? = some y,
    fun i H v H' => ∃ T x y, v = .ref T ∧ H T = none ∧ H' = upd H T (.tup [x, y]) ∧ (∀ xs, SqL K H a xs → xs[i]? = some x) ∧ ∀ ys, SqT K H b ys → ys[i]? = some y,
    fun i H => ∃ xs ys : List V, SqL K H a xs ∧ SqT K H b ys ∧ xs.length = i ∧ ys.length = i⟩
theorem turn_zipLT {P : Program} {w : World} {K : PySem.W.Frag} {elts : List Expr} {kk : Nat} {tpos : Pos} {a b z TI TO i1 i2 : Addr} (D : ZipSep2 z TI TO i1 i2 [i1, a] [i2, b]) :
    Turn P w K (.Tuple elts kk tpos) (ItzLT K a b) [z, TI, TO, i1, i2] z (fun i h => IsZip h z TI TO .none ∧ IsTupOf2 h TI (.ref i1) (.ref i2) ∧ (∃ x y, IsTupOf2 h TO x y) ∧ h.IsListIter i1 a i ∧ h.IsTupleIter i2 b i) where
  mem := by simp
  obj := fun i h st c hc => by
    obtain ⟨h1, h2, ⟨x, y, h3⟩, ⟨o4, h4, _, d4⟩, ⟨o5, h5, _, d5⟩⟩ := st
    have e : c = z ∨ c = TI ∨ c = TO ∨ c = i1 ∨ c = i2 := by simpa using hc
    rcases e with e | e | e | e | e <;> rw [e]
    · exact ⟨_, h1, fun v q => nomatch q⟩
    · exact ⟨_, h2, fun v q => nomatch q⟩
    · exact ⟨_, h3, fun v q => nomatch q⟩
    · exact ⟨o4, h4, fun v q => by rw [d4] at q; cases q⟩
    · exact ⟨o5, h5, fun v q => by rw [d5] at q; cases q⟩
  keep := fun i h h' st k => ⟨k z (by simp) _ st.1, k TI (by simp) _ st.2.1, st.2.2.1.elim fun x q => q.elim fun y q => ⟨x, y, k TO (by simp) _ q⟩, st.2.2.2.1.at fun o q => k i1 (by simp) o q, st.2.2.2.2.at fun o q => k i2 (by simp) o q⟩
  item := by
    intro X hP hw hK hc i pins s σ H E I hf st hg
    subst hP hw hK
    obtain ⟨h1, h2, h3, h4, h5⟩ := st
    obtain ⟨xs, ys, x, y, hqx, hqy, hx, hy⟩ := hg
    obtain ⟨its, rv, p, _⟩ := I.list hqx
    obtain ⟨its2, rv2, p2, _⟩ := I.tuple hqy
    obtain ⟨u, hu, ru⟩ := rv.get hx
    obtain ⟨u2, hu2, ru2⟩ := rv2.get hy
    have na : a ≠ i1 := fun q => by
      obtain ⟨oi, ei, ci, _⟩ := h4
      obtain ⟨oa, ea, ca, _⟩ := p.isList
      rw [q, ei] at ea
      rw [← Option.some.inj ea, ci] at ca
      exact absurd (Value.type.inj ca) (by decide)
    have nb : b ≠ i2 := fun q => by
      obtain ⟨oi, ei, ci, _⟩ := h5
      obtain ⟨oa, ea, ca, _⟩ := id p2
      rw [q, ei] at ea
      rw [← Option.some.inj ea, ci] at ca
      exact absurd (Value.type.inj ca) (by decide)
    have l1 : i < its.toArray.size := by rw [List.size_toArray]; exact (List.getElem?_eq_some_iff.mp hu).1
    have l2 : i < its2.toArray.size := by rw [List.size_toArray]; exact (List.getElem?_eq_some_iff.mp hu2).1
    have W := WalksT.zipD2 (A := X.A) D (Draws.list (prog := X.prog) (w := X.w) (A := X.A.in1) (by simp [I.ok.hd hc]) i1 a na its.toArray) (Draws.tuple (prog := X.prog) (w := X.w) (A := X.A.in1) (by simp [I.ok.hd hc]) i2 b nb its2.toArray)
    have hwr : ∀ c ∈ [z, TO, i1, i2], FpOk X pins H c := fun c hcm => hf c (by
      have e : c = z ∨ c = TO ∨ c = i1 ∨ c = i2 := by simpa using hcm
      rcases e with e | e | e | e <;> simp [e])
    refine thn (itemT W I hwr (Nat.lt_min.mpr ⟨l1, l2⟩) ⟨h1, h2, h3, ⟨h4, p.isList⟩, ⟨h5, p2⟩⟩ elts kk tpos) fun r s1 g1 => ?_
    obtain ⟨v, hv, g1⟩ := g1
    refine ⟨v, hv, thn g1 fun _ s2 g2 => ?_⟩
    obtain ⟨T, vals, ev, ⟨y1, y2, hy1, hy2, evs⟩, hT, st', J⟩ := g2
    subst ev
    have e1 : y1 = u := by
      have q : its.toArray[i]? = some u := by simpa using hu
      rw [q] at hy1
      exact (Option.some.inj hy1).symm
    have e2 : y2 = u2 := by
      have q : its2.toArray[i]? = some u2 := by simpa using hu2
      rw [q] at hy2
      exact (Option.some.inj hy2).symm
    subst e1 e2 evs
    refine ⟨.ref T, _, J [x, y] (.cons ru (.cons ru2 .nil)) (by show 2 ≤ sizeLine; decide), rfl, ⟨T, x, y, rfl, I.hok.fresh hT, rfl, fun l hl => by rw [I.list_inj hl hqx]; exact hx, fun l hl => by rw [I.tuple_inj hl hqy]; exact hy⟩,
      ⟨st'.1, st'.2.1, st'.2.2.1, st'.2.2.2.1.1, st'.2.2.2.2.1⟩, fun c hcm => ?_⟩
    have lt : c < s.heap.objs.size := by
      have e : c = z ∨ c = TI ∨ c = TO ∨ c = i1 ∨ c = i2 := by simpa using hcm
      rcases e with e | e | e | e | e <;> rw [e]
      · exact Heap.lt_size h1
      · exact Heap.lt_size h2
      · obtain ⟨_, _, q⟩ := h3; exact Heap.lt_size q
      · obtain ⟨_, q, _⟩ := h4; exact Heap.lt_size q
      · obtain ⟨_, q, _⟩ := h5; exact Heap.lt_size q
    rw [upd_ne (Nat.ne_of_lt (Nat.lt_of_lt_of_le lt hT))]
    exact (hf c hcm).1
  done := by
    intro X hP hw hK hc i pins s σ H E I hf st hg
    subst hP hw hK
    obtain ⟨h1, h2, h3, h4, h5⟩ := st
    obtain ⟨xs, ys, hqx, hqy, hx, hy⟩ := hg
    obtain ⟨its, rv, p, _⟩ := I.list hqx
    obtain ⟨its2, rv2, p2, _⟩ := I.tuple hqy
    have na : a ≠ i1 := fun q => by
      obtain ⟨oi, ei, ci, _⟩ := h4
      obtain ⟨oa, ea, ca, _⟩ := p.isList
      rw [q, ei] at ea
      rw [← Option.some.inj ea, ci] at ca
      exact absurd (Value.type.inj ca) (by decide)
    have nb : b ≠ i2 := fun q => by
      obtain ⟨oi, ei, ci, _⟩ := h5
      obtain ⟨oa, ea, ca, _⟩ := id p2
      rw [q, ei] at ea
      rw [← Option.some.inj ea, ci] at ca
      exact absurd (Value.type.inj ca) (by decide)
    have l1 : its.toArray.size = i := by rw [List.size_toArray, ← rv.length, hx]
    have l2 : its2.toArray.size = i := by rw [List.size_toArray, ← rv2.length, hy]
    have W := WalksT.zipD2 (A := X.A) D (Draws.list (prog := X.prog) (w := X.w) (A := X.A.in1) (by simp [I.ok.hd hc]) i1 a na its.toArray) (Draws.tuple (prog := X.prog) (w := X.w) (A := X.A.in1) (by simp [I.ok.hd hc]) i2 b nb its2.toArray)
    have hwr : ∀ c ∈ [z, TO, i1, i2], FpOk X pins H c := fun c hcm => hf c (by
      have e : c = z ∨ c = TO ∨ c = i1 ∨ c = i2 := by simpa using hcm
      rcases e with e | e | e | e <;> simp [e])
    have em : min its.toArray.size its2.toArray.size = i := by rw [l1, l2, Nat.min_self]
    refine doneT W I hwr ?_
    rw [em]
    exact ⟨h1, h2, h3, ⟨h4, p.isList⟩, ⟨h5, p2⟩⟩
  self := fun A i s Q E st h => wpAny_pyIter_zip st.1 h
def iZipLT (K : PySem.W.Frag) (ta : TA) : TI := fun σ H R => ta σ H fun vs H1 => ∃ a b xs ys, vs = [.ref a, .ref b] ∧ SqL K H1 a xs ∧ SqT K H1 b ys ∧ R (ItzLT K a b) H1
theorem pi_zipLT {X : Cx} {e e2 : Expr} {ta : TA} {p pos tpos : Pos} {elts : List Expr} {kk : Nat} (hg : Gl X "zip") (hm : X.mg "zip" = none) (ha : PA X [e, e2] ta)
    (hs : starEach [e, e2] X.env = (false, eval e X.env) :: starEach [e2] X.env := by rfl) (hpl : (backTo pos (starEach [e2] X.env)).any (·.1) = false := by rfl) :
    PI X (.Tuple elts kk tpos) (.Call (.Name "zip" p) [e, e2] [] pos) (iZipLT X.K ta) := by
  refine ⟨fun pins s σ H R I h => ?_⟩
  refine Call_ (ld_blt I hg hm PyProof.Rows.boot_zip (PyProof.Rows.callWith_type1 (thn (ha.run pos pins s σ H _ I h) fun us s1 h1 => ?_) hs hpl))
  obtain ⟨vs, H1, I1, r1, a, b, xs, ys, ex, hqx, hqy, q⟩ := h1
  subst ex
  obtain ⟨u1, u2, eu, ra, rb⟩ := vals2 r1
  cases ra
  cases rb
  subst eu
  obtain ⟨its, rv, p1, _⟩ := I1.list hqx
  obtain ⟨its2, rv2, p2, _⟩ := I1.tuple hqy
  have lb : b < s1.heap.objs.size := by
    obtain ⟨_, e, _⟩ := id p2
    exact Heap.lt_size e
  refine zip_begins2 (begins_list a its.toArray) (begins_tuple b its2.toArray) p1.isList p2 fun h' k1 k2 k3 k4 k5 _ hk => wpAny_pyIter_zip k1 ?_
  refine ⟨s1.heap.objs.size + 4, [s1.heap.objs.size + 4, s1.heap.objs.size + 2, s1.heap.objs.size + 3, s1.heap.objs.size, s1.heap.objs.size + 1], _, _, H1, rfl, I1.kept (t' := s1.toks) hk,
    turn_zipLT (zip_sep2 (fun c hcm => by rw [List.mem_singleton.mp hcm]; exact p1.lt) fun c hcm => by rw [List.mem_singleton.mp hcm]; exact lb), ⟨k1, k2, ⟨_, _, k3⟩, ⟨_, k4, rfl, rfl⟩, ⟨_, k5, rfl, rfl⟩⟩, fun c hcm => ?_, q⟩
  have hle : s1.heap.objs.size ≤ c := by
    have e : c = s1.heap.objs.size + 4 ∨ c = s1.heap.objs.size + 2 ∨ c = s1.heap.objs.size + 3 ∨ c = s1.heap.objs.size ∨ c = s1.heap.objs.size + 1 := by simpa using hcm
    rcases e with e | e | e | e | e <;> rw [e]
    · exact Nat.le_add_right _ _
    · exact Nat.le_add_right _ _
    · exact Nat.le_add_right _ _
    · exact Nat.le_refl _
    · exact Nat.le_add_right _ _
  exact I1.fpOk hle (I1.hok.fresh hle)
theorem walk_zipLT {K : PySem.W.Frag} {a b : Addr} {xs ys : List V} (hl : xs.length = ys.length) : Walk (ItzLT K a b) xs.length (fun H => SqL K H a xs ∧ SqT K H b ys) (YPair (fun i => xs[i]?) (fun i => ys[i]?)) where
  goes := fun i H hi g => ⟨xs, ys, xs[i], ys[i], g.1, g.2, List.getElem?_eq_getElem hi, List.getElem?_eq_getElem (hl ▸ hi)⟩
  stops := fun H g => ⟨xs, ys, g.1, g.2, rfl, hl.symm⟩
  yields := fun i H x H' hi g y => by
    obtain ⟨T, u, v, e1, e2, e3, h1, h2⟩ := y
    exact ⟨T, u, v, e1, e2, e3, h1 xs g.1, h2 ys g.2⟩
theorem walk_enumT {K : PySem.W.Frag} {a : Addr} {xs : List V} : Walk (IteT K a) xs.length (fun H => SqT K H a xs) (YPair (fun i => some (.int (i : Nat))) (fun i => xs[i]?)) where
  goes := fun i H hi g => ⟨xs, xs[i], g, List.getElem?_eq_getElem hi⟩
  stops := fun H g => ⟨xs, g, rfl⟩
  yields := fun i H x H' hi g y => by
    obtain ⟨T, u, e1, e2, e3, h1⟩ := y
    exact ⟨T, _, u, e1, e2, e3, rfl, h1 xs g⟩
/-! ### dict(d) -/
theorem call_dictC {X : Cx} : CallR X (.type "dict") (fun xs H Q => ∃ (a : Addr) (kvs : List (Key × V)), xs = [.ref a] ∧ H a = some (.dK kvs) ∧ ∀ p, H p = none → Q (.ref p) (upd H p (.dK kvs))) := by
  intro pins s σ H xs us Q I r h
  obtain ⟨a, kvs, rfl, ha, q⟩ := h
  rw [Vals.ref1 r]
  exact d_copyOf I (Rd.of ha) fun p s' hp J => ⟨.ref p, _, J, rfl, q p hp⟩
/-! ### list(d.keys()) -/
section
variable {prog : Program} {w : World} {A : Around} {E : Value → Shared → Prop} {s : Shared} {o : Obj} {es : Array DictEntry} {ep : Nat}
/-- d.keys(), by the dict's object alone -/
theorem keys_meets (d : Addr) (hd : (d == sysModules) = false) :
    MeetsIn prog w (Builtin.«dict.keys» ⟨[.ref d], []⟩) (fun _ R s => s.TypeIs (.ref d) "dict" ∧ R (.ok (.ret (.ref s.heap.objs.size))) { s with heap := s.heap.push { cls := .type "dict_keys", data := .fields #[.ref d] } }) :=
  .of_wp fun A R s h => by
    obtain ⟨hT, h⟩ := h
    refine wpAny_bind ?_
    unfold Builtin.Dict.noArgs
    refine wpAny_bind (wpAny_notOrdered_dict hT ?_)
    show wpAny _ _ (pure d) _ _ s
    refine wpAny_pure ?_
    show wpAny _ _ (Builtin.Dict.showsAll d >>= _) _ _ s
    unfold Builtin.Dict.showsAll
    rw [if_neg (by rw [hd]; exact Bool.false_ne_true)]
    exact wpAny_bind (wpAny_pure (wpAny_bind (wpAny_newObj_type (wpAny_pure ⟨_, rfl, h⟩))))
/-- iter of that view -/
theorem keys_iter {v d : Addr} {Q : Value → Shared → Prop} (hv : PySem.W.KdlKeysView s.heap v d) (ho : s.heap.get? d = some o) (hd : o.data = .dict es ep)
    (hQ : Q (.ref s.heap.objs.size) { s with heap := s.heap.push { cls := .type "dict_keyiterator", data := .fields #[.ref d, .int 0 0, .int es.size 0, .int ep 0] } }) :
    wpAny (model prog w) A (pyIter (.ref v)) Q E s := by
  obtain ⟨ov, g1, g2, g3⟩ := id hv
  refine wpAny_pyIter_slot hv.typeIs PySem.W.kdl_slot_keys_iter (wpAny_call_entry PySem.W.kdl_slot_keys_iter hv.typeIs PySem.W.kdl_entry_keys_iter ?_ (PySem.W.kdl_args_keys_iter _))
  unfold Builtin.«dict_keys.__iter__»
  refine wpAny_bind (wpAny_pure (wpAny_bind ?_))
  unfold Builtin.Dict_items.dictOf
  refine wpAny_bind (wpAny_field g1 g3 (x := .ref d) rfl (wpAny_pure (wpAny_bind ?_)))
  unfold Builtin.Dict_items.newIterator
  refine wpAny_bind (wpAny_dictEntries ho hd (wpAny_bind (wpAny_dictEpoch ho hd ?_)))
  have own : Builtin.Dict_items.ownsTuple "dict_keyiterator" = false := by decide
  simp only [own, Bool.false_eq_true, if_false]
  refine wpAny_newObj_type (wpAny_pure ⟨_, rfl, "dict_keyiterator", _, ⟨_, Heap.get?_push_size _ rfl, rfl⟩, PySem.F.slot_dict_keyiterator_next.lookup, ?_⟩)
  simpa [rawInt] using hQ
theorem keys_src {r d : Addr} (hd : o.data = .dict es ep) : PySem.W.KdlSrc prog w "dict_keys" r d es.size (fun i v => ∃ en : DictEntry, es[i]? = some en ∧ v = en.key) (fun h => PySem.W.KdlKeysView h r d ∧ h.get? d = some o) where
  type := fun _ hm => hm.1.typeIs
  there := fun _ hm => ⟨by obtain ⟨_, e, _⟩ := hm.1; exact Heap.lt_size e, Heap.lt_size hm.2⟩
  keep := fun _ _ hm hk => ⟨by obtain ⟨ov, e, x⟩ := hm.1; exact ⟨ov, hk r (.inl rfl) ov e, x⟩, hk d (.inr rfl) o hm.2⟩
  notList := by decide
  notTuple := by decide
  hint := fun _ _ _ _ hm hq => PySem.W.kdl_hint_keys hm.1.typeIs hq
  iter := fun _ _ hh hm => ⟨_, _, (fun _ _ hq => keys_iter hm.1 hm.2 hd hq), walks_raw hh _ d (Nat.ne_of_lt (Heap.lt_size hm.2)) hd, ⟨⟨_, Heap.get?_push_size _ rfl, rfl, rfl⟩, Heap.get?_push_of_some _ hm.2⟩⟩
end
/-- list(e.keys()), e a dict with tuple keys -/
def tListKeys (te : TE) : TE := fun σ H Q => te σ H fun x H1 => ∃ d kvs, x = V.ref d ∧ H1 d = some (.dT kvs) ∧ ∀ p bs, H1 p = none → IsKeys H1 kvs bs → Q (.ref p) (upd H1 p (.lst (bs.map V.ref)))
theorem pe_listKeys {X : Cx} {e : Expr} {te : TE} {p apos cpos pos : Pos} (hc : X.calm = true) (he : PE X e te) (hg : Gl X "list") (hm : X.mg "list" = none) (hv : bootBuiltins "list" = some (.type "list"))
    (hbase : attributeBase e "keys" X.env (eval e X.env) = eval e X.env := by rfl) (hline : (apos.endLine == cpos.line) = true := by rfl)
    (hs : starEach [.Call (.Attribute e "keys" apos) [] [] cpos] X.env = (false, eval (.Call (.Attribute e "keys" apos) [] [] cpos) X.env) :: starEach [] X.env := by rfl) :
    PE X (.Call (.Name "list" p) [.Call (.Attribute e "keys" apos) [] [] cpos] [] pos) (tListKeys te) := by
  refine ⟨fun pins s σ H Q I hq => ?_⟩
  refine wpAny_Call_Name_kw (ld_blt I hg hm hv ?_)
  refine PyProof.Rows.callWith_type1 ?_ hs rfl
  rw [hs]
  show wpAny _ _ (spliced ((false, eval (.Call (.Attribute e "keys" apos) [] [] cpos) X.env) :: backTo pos (starEach [] X.env))) _ _ s
  refine Calls.spliced_cons ?_
  refine wpAny_Call_method (T := "dict") (id := "dict.keys") hbase rfl hline F.plainAttrs_dict F.slot_dict_keys F.type_dict_keys (thn (he.run pins s σ H _ I hq) fun u s1 h1 => ?_)
  obtain ⟨x, H1, I1, rx, d, kvs, ex, hd, q⟩ := h1
  subst ex
  obtain rfl : u = Value.ref d := rx
  obtain ⟨z, hs0, ks, pr, o, es, ep, ho, hx, hdt, hes, hn⟩ := I1.hok d _ hd
  have hT : s1.TypeIs (.ref d) "dict" := ⟨o, ho, hx.1⟩
  have I2 : Inv X pins σ H1 { s1 with heap := s1.heap.push { cls := .type "dict_keys", data := .fields #[.ref d] } } := I1.kept (t' := s1.toks) fun b ob q => Heap.get?_push_of_some _ q
  refine ⟨hT, fun a ea => ⟨o, by cases ea; exact ho, hx.2.1⟩, ?_⟩
  show wpAny _ _ (callWith cpos (.builtin "dict.keys") [.ref d] [] []) _ X.xe s1
  refine method_meetsIn F.slot_dict_keys F.entry_dict_keys rfl (PySem.evalArgs_none ⟨rfl, hT, F.args_dict_keys_1 _, _, keys_meets d hs0, hT, ?_⟩)
  refine Calls.spliced_nil ?_
  have l1 : es.size = ks.length := size_of_entries hes
  have l2 : kvs.length = ks.length := Paired.length pr
  refine PySem.W.kdl_call (keys_src hdt) (I1.ok.hd hc) ⟨⟨_, Heap.get?_push_size _ rfl, rfl, rfl⟩, Heap.get?_push_of_some _ ho⟩ (by omega) fun h' tk acc c kp eL it => ?_
  have ea : acc.toList = (ks.map fun x => x.2.1).map Value.ref := by
    have hl : acc.toList.length = ks.length := by rw [Array.length_toList, it.1]; exact l1
    rw [List.map_map]
    apply List.ext_getElem?
    intro j
    rw [List.getElem?_map]
    cases hj : acc.toList[j]? with
    | none => rw [List.getElem?_eq_none (by rw [← hl]; exact List.getElem?_eq_none_iff.mp hj)]; rfl
    | some v =>
      obtain ⟨en, hen, hv⟩ := it.2 j v (by rw [← Array.getElem?_toList]; exact hj)
      have qe := entry_at hes j
      rw [hen] at qe
      cases hb : ks[j]? with
      | none => rw [hb] at qe; cases qe
      | some b =>
        rw [hb] at qe
        have e2 : en = entryOfKey (tupleKind (mixKind X.prog X.w)) b := Option.some.inj qe
        rw [hv, e2]
        rfl
  have rv : Vals ((ks.map fun x => x.2.1).map V.ref) acc.toList := by rw [ea]; exact L2.vals_refs _
  have hsz : ((ks.map fun x => x.2.1).map V.ref).length ≤ sizeLine := by rw [List.length_map, List.length_map]; omega
  refine ⟨.ref _, _, I2.laid (t' := tk) (o := .lst ((ks.map fun x => x.2.1).map V.ref)) kp (Nat.le_refl _) ⟨hsz, acc.toList, c, rv, by rw [Array.toArray_toList]; exact eL⟩, rfl, q _ _ (I2.hok.fresh (Nat.le_refl _)) (isKeys_of pr)⟩
end K21
end
section
set_option Elab.async false
set_option linter.all false
set_option maxRecDepth 100000
set_option maxHeartbeats 4000000
/-! rules that the layer lacks 4: an own exception with an __init__ made where nothing is handled; several clauses «except X as n»; what the three classes do -/
namespace K21
open PySem PySem.Spec PyProof.Rows L2
theorem zc_of {cls : Value} {d : Option Addr} : ∀ o, L2N.Zn cls d o → Zc cls d o := fun o h => h.zc
/-- what takes any exception takes one whose context is None -/
theorem takesN_of {X : Cx} {W : WX} (t : L2.Takes X W) : L2N.Takes X W := fun u s' x => by
  obtain ⟨a, B, sI, pins, σ, H, cls, d, e, I, nb, up, sky, r⟩ := x
  refine t u s' ⟨a, B, sI, pins, σ, H, cls, d, e, I, nb, up, ?_, r⟩
  rcases sky with ⟨h1, h2, h3, oe, vs, h4, h5, h6⟩ | h | ⟨h1, h2, h3, h4⟩
  · exact .inl ⟨h1, h2, h3, oe, vs, h4, zc_of _ h5, h6⟩
  · exact .inr (.inl (L2H.flyingZ_imp zc_of h))
  · exact .inr (.inr ⟨h1, h2, h3, L2H.tracedZ_imp zc_of h4⟩)
section
variable {X : Cx} {e : Expr} {es : List Expr} {ta : TA} {p pos : Pos}
/-- C(e, ..) where nothing is handled: the context is None -/
theorem pmkN_oex {CX : CXT} {x : Str} {C fI : Addr} {k : Nat} {fd : FuncData} {ps : List Str} {sp : Sp} (T : OexC X.K C) (iC : PySem.W.findIn X.K (.ref C) "__init__" = some (some (.ref fI))) (tI : PySem.W.typeIn X.K (.ref fI) = some (.type "function"))
    (F1 : FnOk X.prog X.w X.K X.mg X.base CX k fI fd ps sp) (hr : Room (k + 1) X.A) (hb : Binds X.K fd ps []) (hx : Passes CX X (fun _ _ _ => False)) (hg : Gl X x) (hm : X.mg x = some (.ref C)) (ha : PA X (e :: es) ta)
    (hdb : (x == ("__debug__" : Str)) = false := by decide) (he : starEach (e :: es) X.env = (false, eval e X.env) :: starEach es X.env := by rfl) (hpl : (backTo pos (starEach es X.env)).any (·.1) = false := by rfl) :
    L2N.PMk X (.Call (.Name x p) (e :: es) [] pos) (tMkO C sp [] ta) := by
  intro pins s σ H Q I h
  obtain ⟨nm, q, N, bs, bm, sn, sub, ab, col, dd, k0, k1, k2, k3, k5, hC, hbm⟩ := T.cls
  refine wpAny_Call_Name_kw (ld_glob I hg hm ?_ hdb)
  refine PySem.W.callWith_K (h₀ := X.base) I.ok.mod.kin T.kC (thn (ha.run pos pins s σ H _ I h) fun us s1 h1 => ?_) he hpl
  obtain ⟨vs, H1, I1, r1, hz, q1⟩ := h1
  refine ⟨I1.kIn, ?_⟩
  show wpAny _ _ (call (.ref C) us) _ _ _
  obtain ⟨hp, g, dr, tk, os⟩ := s1
  have z : hp.objs.size ≤ hp.objs.size + 1 := Nat.le_succ _
  have hq := q1 (hp.objs.size + 1) (I1.hok.fresh z)
  rw [List.append_nil] at hq
  have kp : ∀ b o, hp.get? b = some o → ((hp.push (PySem.W.kdv_tup us)).push (PySem.HandSPX.excO C hp.objs.size)).get? b = some o := fun b o e => Heap.get?_push_of_some _ (Heap.get?_push_of_some _ e)
  have ge : ((hp.push (PySem.W.kdv_tup us)).push (PySem.HandSPX.excO C hp.objs.size)).get? (hp.objs.size + 1) = some (PySem.HandSPX.excO C hp.objs.size) := by heap_get
  have I2 : Inv X pins σ (upd H1 (hp.objs.size + 1) (exo (hp.objs.size + 1) C none)) ⟨(hp.push (PySem.W.kdv_tup us)).push (PySem.HandSPX.excO C hp.objs.size), g, dr, tk, os⟩ :=
    I1.laid (t' := tk) (a := hp.objs.size + 1) (o := exo (hp.objs.size + 1) C none) (h' := (hp.push (PySem.W.kdv_tup us)).push (PySem.HandSPX.excO C hp.objs.size)) kp z (exo_ok ge)
  have r2 : Vals (V.ref (hp.objs.size + 1) :: vs) (Value.ref (hp.objs.size + 1) :: us) := .cons rfl r1
  have hl : (Value.ref (hp.objs.size + 1) :: us ++ []).length = ps.length := by
    have e := r2.length
    rw [F1.len _ _ _ _ hq] at e
    rw [List.append_nil]
    exact e.symm
  have hus : us.length ≤ sizeLine := by
    rw [← Paired.length r1, sizeLine_eq]
    omega
  have b2 := hb _ (Value.ref (hp.objs.size + 1) :: us) I2.kIn hl
  rw [List.append_nil] at b2
  refine wpAny_call (PySem.HandSPX.call_own F.excBase_ValueError (fun Y => PySem.HandSPX.refsVE_contains Y bm hbm) (I1.kIn _ _ hC) (PySem.W.looks_findIn I1.kIn iC) (fun self => PySem.W.bind_fn I1.kIn self tI) hus
    (codeAny_mono (F1.run _ X.stack _ _ ⟨Value.ref (hp.objs.size + 1) :: us, []⟩ (Value.ref (hp.objs.size + 1) :: us) _ _ (fun _ _ _ => False) (hr.make C us []) (I2.env0.make C us []) b2 r2 hq) fun r s' hq' => ?_))
  rcases r with er | fl
  · exact hx pins σ _ _ er s' I2 hq'
  · cases fl with
    | ret u =>
      obtain ⟨v, H2, os2, bare2, un2, hok2, rv, ev, d, fs, ea, ed, hd1, q2⟩ := hq'
      subst ev
      obtain ⟨h2, g2, d2, t2, os'⟩ := s'
      obtain ⟨t0, G, J, kG, gn, hoe, na⟩ := mk_end0 (d2 := d2) (t2 := t2) I1 z kp un2 hok2 os2 bare2 ea ed hd1
      refine ⟨rv, hp.objs.size + 1, _, _, ⟨G, g2, d2, t2, os'⟩, _, .ref C, some d, rfl, J, kG, gn, hoe, ⟨rfl, rfl, fun vs hv => ?_⟩, rfl, rfl, na, rfl, bare2, raises_own T.exC T.tyC, q2⟩
      cases hv
      rfl
    | next => exact hq'.elim
    | brk => exact hq'.elim
    | cont => exact hq'.elim
end
/-! ### the three classes -/
/-- __init__ of an own exception with the one field f -/
def spXI (C : Addr) (f : Str) : Sp := fun vs H Q _ => ∃ (a : Addr) (v : V), vs = [.ref a, v] ∧ H a = some (exo a C none) ∧ ∀ dx, H dx = none → dx ≠ a → Q .non (upd (upd H dx (exd dx [(f, v)])) a (exo a C (some dx)))
/-- what is left of the making: a new dict that bears the field -/
theorem mkO_is {C : Addr} {f : Str} {ta : TA} {σ : L2.St} {H : Hp} {Q : XK} (h : ta σ H fun vs H1 => ∃ v, vs = [v] ∧ ∀ d, H1 d = none → Q (.ref C) (some d) (upd H1 d (.xd [(f, v)])))
    (mono : ∀ Q1 Q2 : List V → Hp → Prop, (∀ vs H, Q1 vs H → Q2 vs H) → ta σ H Q1 → ta σ H Q2) : tMkO C (spXI C f) [] ta σ H Q := by
  refine mono _ _ (fun vs H1 q => ?_) h
  obtain ⟨v, rfl, q⟩ := q
  refine ⟨by show 1 ≤ 1000; decide, fun a ha => ⟨a, v, rfl, upd_same, fun dx hdx ne => ?_⟩⟩
  have hdx' : H1 dx = none := by rw [upd_ne ne] at hdx; exact hdx
  refine ⟨rfl, dx, [(f, v)], upd_same, by rw [upd_ne ne, upd_same], hdx', ?_⟩
  have e : upd (del (upd (upd (upd H1 a (exo a C none)) dx (exd dx [(f, v)])) a (exo a C (some dx))) a) dx (HO.xd [(f, v)]) = upd H1 dx (.xd [(f, v)]) := by
    funext b
    by_cases h1 : b = dx
    · rw [h1, upd_same, upd_same]
    · rw [upd_ne h1, upd_ne h1]
      by_cases h2 : b = a
      · rw [h2, del_same, ha]
      · rw [del_ne h2, upd_ne h2, upd_ne h1, upd_ne h2]
  rw [e]
  exact q dx hdx'
/-! ### several clauses «except X as n», one name -/
def wNm (K : PySem.W.Frag) (i : Nat) (Wout : WX) (D : Ends) : List (Value × (Addr → Value → Option Addr → TS)) → WX
  | [] => Wout
  | (c, ts) :: r => fun cls d σ H => ∃ b, PySem.W.exmOne K cls c = some b ∧
    (b = true → ∀ a, H a = none → ts a cls d { nx := fun σ' H' => D.nx (σ'.set i none) H', rt := D.rt, bk := fun σ' H' => D.bk (σ'.set i none) H', ct := fun σ' H' => D.ct (σ'.set i none) H' } (σ.set i (some (.ref a))) H) ∧ (b = false → wNm K i Wout D r cls d σ H)
inductive HdsNm (X : Cx) (n : Str) : List ExceptHandler → List (Value × (Addr → Value → Option Addr → TS)) → Prop
  | nil : HdsNm X n [] []
  | cons {x : Str} {c : Value} {ts : Addr → Value → Option Addr → TS} {b0 : Stmt} {suite : List Stmt} {np pos' : Pos} {hds : List ExceptHandler} {l : List (Value × (Addr → Value → Option Addr → TS))} (hc : Names X x c)
      (hsu : ∀ (a : Addr) (oe : Obj) (cls : Value) (d : Option Addr) (pn : List (Addr × Obj)), Zc cls d oe → (∃ vs, oe.data = .fields vs) → PSs (X.suite a ((a, oe) :: pn)) (b0 :: suite) (ts a cls d)) (r : HdsNm X n hds l) :
      HdsNm X n (.ExceptHandler (some (.Name x np)) (some n) (b0 :: suite) pos' :: hds) ((c, ts) :: l)
section
variable {X : Cx} {n : Str} {i : Nat} {body : List Stmt} {h0 : ExceptHandler} {hds : List ExceptHandler} {l : List (Value × (Addr → Value → Option Addr → TS))} {pos : Pos} {tb : WX → TS} {Wout : WX}
theorem ps_try_named (hs : X.stack = X.env :: X.outer) (hf : X.env.frame = some X.env.locals) (hN : X.N.Nodup) (hi : X.N[i]? = some n) (hln : X.env.kindOf n = some .local) (tk : Takes X Wout)
    (hb : ∀ (W : WX) (pn : List (Addr × Obj)) (xe : Value → Shared → Prop), Takes (X.tr pn xe) W → PassesOwn (model X.prog X.w) X.A X.env xe → PSs (X.tr pn xe) body (tb W))
    (hh : HdsNm X n (h0 :: hds) l) : PS X (.Try body (h0 :: hds) [] [] pos) (fun D σ H => tb (wNm X.K i Wout D l) D σ H) := by
  refine ⟨fun pins s σ H D I h => ?_⟩
  have ok := I.ok
  have fr : X.A.frames = some (X.env :: X.outer) := by rw [ok.frames, hs]
  refine wpAny_Try_except ?_
  refine wpAny_mono ((hb (wNm X.K i Wout D l) (X.pn ++ pins) (fun e s₁ => wpAny (model X.prog X.w) X.A (noteFrame e X.env) (fun _ s₂ => wpAny (model X.prog X.w) X.A (setFlight e none) (fun _ s₃ =>
    wpAny (model X.prog X.w) X.A (handleBy e X.env (h0 :: hds)) (SP X pins D) X.xe s₃) X.xe s₂) X.xe s₁) (fun u s' xx => ?_) PassesOwn.looking).run [] s σ H D (I.toTry _) h) (fun f s1 hsp => ?_) (fun e s1 he => he)
  · obtain ⟨a, B, sI, pins', σ', H', cls, d, rfl, J', nb, up, sky, na, os, ag, w⟩ := xx
    have J : Inv X pins σ' H' sI := J'.ofTry ok
    have sky2 : Sky B (X.env :: X.outer) a (Zc cls d) X.env.locals s'.heap := by rw [← hs]; exact sky
    show wpAny (model X.prog X.w) X.A (noteFrame (.ref a) X.env) _ _ _
    refine Sky.land Zc.steady fr hf sky2 fun h3 fl3 up3 => ?_
    have J3 : Inv X pins σ' H' { s' with heap := h3 } := J.landed nb fl3.1 (up.trans up3) os ag
    obtain ⟨oe3, vs3, he3, hz3, hd3⟩ := fl3.there
    have far : a ∉ frs (X.env :: X.outer) := fun hm => by
      obtain ⟨_, o', e', hnf⟩ := fl3.2.2.1.mem hm
      have e2 := Option.some.inj (he3.symm.trans e')
      rw [← e2] at hnf
      exact hnf _ hd3
    have nL : a ≠ X.env.locals := fun z => far (List.mem_filterMap.mpr ⟨X.env, List.mem_cons_self, by rw [hf, z]⟩)
    have nF : a ∉ X.fs := fun hm => by
      obtain ⟨e, he, q⟩ := List.mem_filterMap.mp hm
      exact far (List.mem_filterMap.mpr ⟨e, List.mem_cons_of_mem _ he, q⟩)
    have S3 := J3.suite he3 hd3 na nL nF
    have go : ∀ {hds2 : List ExceptHandler} {l2 : List (Value × (Addr → Value → Option Addr → TS))}, HdsNm X n hds2 l2 → wNm X.K i Wout D l2 cls d σ' H' →
        wpAny (model X.prog X.w) X.A (handleBy (.ref a) X.env hds2) (SP X pins D) X.xe { s' with heap := h3 } := by
      intro hds2 l2 hk
      induction hk with
      | nil =>
        intro w
        refine wpAny_handleBy_nil ?_
        obtain ⟨k1, k2, k3, oe, vs, T, oT, ts', he, hz, hd, h1, hr⟩ := id fl3
        unfold PySem.passOn
        refine wpAny_bind (wpAny_field he hd h1 ?_)
        rw [if_neg (show ¬ ((Value.ref T == Value.none) = true) from by simp)]
        have fin : wpAny (model X.prog X.w) X.A (setFlight (.ref a) X.env.frame) (fun _ s4 => wpAny (model X.prog X.w) X.A (throw (.ref a) : Sem Flow) (SP X pins D) X.xe s4) X.xe { s' with heap := h3 } := by
          rw [hf]
          exact HandSPX.setFlight_upZ fl3 fun h4 hh4 up4 => wpAny_throw (tk _ _ ⟨a, B, sI, pins, σ', H', cls, d, rfl, J, nb, (up.trans up3).trans up4, .inr (.inr (by rw [hs]; exact hh4)), na, os, ag, w⟩)
        first
          | exact wpAny_bind (wpAny_pure (wpAny_bind fin))
          | exact wpAny_bind fin
      | @cons x c ts b0 suite np pos' hds3 l3 hc hsu r ih =>
        intro w
        obtain ⟨b, hb1, hyes, hno⟩ := w
        refine wpAny_handleBy_cons (codeAny_handlers_test ?_) (by intro q; cases q)
        have LT : PySem.W.Looks (model X.prog X.w) h3 (typeOf (.ref a)) cls := fun A Q E s k q => wpAny_typeOf_ref (k _ _ he3) (by rw [hz3.1]; exact q)
        have LM := PySem.W.exm_one (M := model X.prog X.w) (J3.kIn) LT hb1
        have test : ∀ {Q : Value → Shared → Prop} {E : Value → Shared → Prop}, Q c { s' with heap := h3 } → wpAny (model X.prog X.w) (X.A.mark (some (.ref a))) (eval (.Name x np) X.env) Q E { s' with heap := h3 } := fun {Q E} q => by
          obtain ⟨hg, hdbg, hm | ⟨hm, hv, hnn⟩⟩ := hc
          · exact ld_glob (X := X.suite a ((a, oe3) :: (X.pn ++ pins))) S3 hg hm q hdbg
          · exact ld_blt (X := X.suite a ((a, oe3) :: (X.pn ++ pins))) S3 hg hm hv q hnn hdbg
        refine test (LM.here ?_)
        cases b with
        | true =>
          refine codeAny_handlers_suite_as (HandSPX.lands_againZ fl3 fun h4 fl4 up4 => ?_)
          have J4 : Inv X pins σ' H' { s' with heap := h4 } := J.landed nb fl4.1 ((up.trans up3).trans up4) os ag
          obtain ⟨oe4, vs4, he4, hz4, hd4⟩ := fl4.there
          have S4 := J4.suite he4 hd4 na nL nF
          refine store_ok (X := X.suite a ((a, oe4) :: (X.pn ++ pins))) (v := .ref a) S4 hN hi (.inl hln) rfl (fun s5 S5 => ?_) (.inr hln)
          refine wpAny_mono ((hsu a oe4 cls d (X.pn ++ pins) hz4 ⟨_, hd4⟩).run [] s5 _ H' _ S5 (hyes rfl a na)) (fun f s6 hsp => ?_) (fun _ _ z => False.elim z)
          cases f with
          | next =>
            obtain ⟨σ6, H6, S6, q6⟩ := hsp
            exact gone_ok (S6.unsuite ok) hN hi hln fun s7 J7 => ⟨_, _, J7, q6⟩
          | brk =>
            obtain ⟨σ6, H6, S6, q6⟩ := hsp
            exact gone_ok (S6.unsuite ok) hN hi hln fun s7 J7 => ⟨_, _, J7, q6⟩
          | cont =>
            obtain ⟨σ6, H6, S6, q6⟩ := hsp
            exact gone_ok (S6.unsuite ok) hN hi hln fun s7 J7 => ⟨_, _, J7, q6⟩
          | ret u =>
            obtain ⟨v6, σ6, H6, S6, r6, q6⟩ := hsp
            exact gone_ok (S6.unsuite ok) hN hi hln fun s7 J7 => ⟨_, _, _, J7, r6, q6⟩
        | false =>
          show wpAny _ X.A (handleBy (.ref a) X.env hds3) _ _ _
          exact ih (hno rfl)
    exact go hh w
  · cases f with
    | next =>
      obtain ⟨σ2, H2, J2, q⟩ := hsp
      exact wpAny_execs_nil ⟨σ2, H2, J2.ofTry ok, q⟩
    | brk =>
      obtain ⟨σ2, H2, J2, q⟩ := hsp
      exact ⟨σ2, H2, J2.ofTry ok, q⟩
    | cont =>
      obtain ⟨σ2, H2, J2, q⟩ := hsp
      exact ⟨σ2, H2, J2.ofTry ok, q⟩
    | ret u =>
      obtain ⟨v, σ2, H2, J2, r, q⟩ := hsp
      exact ⟨v, σ2, H2, J2.ofTry ok, r, q⟩
end
end K21
end
section
set_option Elab.async false
set_option linter.all false
set_option maxRecDepth 100000
set_option maxHeartbeats 4000000
/-! rules that the layer lacks 5: {t: v} with a tuple key; for over a new dict with tuple keys -/
namespace K21
open PySem PySem.Spec PyProof.Rows L2
/-- {k: v}, k a tuple -/
def tDisp1T (tk tv : TE) : TE := fun σ H Q => ∀ p, H p = none → tk σ (upd H p (.dT [])) fun y H1 => tv σ H1 fun z H2 => ∃ (ks : List Key) (b : Addr), y = .ref b ∧ H2 b = some (.tup (ks.map kV)) ∧ H2 p = some (.dT []) ∧ Q (.ref p) (upd H2 p (.dT [(ks, z)]))
theorem pe_disp1T {X : Cx} {k v : Expr} {tk tv : TE} {pos : Pos} (hu : X.A.units < cLine) (hk : PE X k tk) (hv : PE X v tv) : PE X (.Dict [some k] [v] pos) (tDisp1T tk tv) := by
  refine ⟨fun pins s σ H Q I q => ?_⟩
  have hn := I.hok.fresh (Nat.le_refl s.heap.objs.size)
  have I1 := I.laid (a := s.heap.objs.size) (o := .dT []) (h' := s.heap.push { cls := .type "dict", data := .dict #[] }) (t' := s.toks) (fun _ _ q => Heap.get?_push_of_some _ q) (Nat.le_refl _) (dt_empty s.heap I.big)
  rw [arm_eval_Dict, zip_pairTrees [some k] [v] X.env pos rfl rfl, dictDisplay_pairs (pairTrees [some k] [v] X.env pos) (by intro z; cases z) (show 1 < 17 by decide)]
  refine wpAny_bind (wpAny_standAt (wpAny_bind (wpAny_subDictH (knd := tupleKind (mixKind X.prog X.w)) (Q := fun d s' => wpAny (model X.prog X.w) X.A (pure (Value.ref d)) (EP X pins σ Q) X.xe s') hu (show 1 ≤ 15 by decide) ?_)))
  refine pairTrees_cons_walk (thn (hk.run pins _ σ _ _ I1 (q _ hn)) fun u s1 ⟨y, H1, J1, ry, q1⟩ => thn (hv.run pins s1 σ H1 _ J1 q1) fun w2 s2 ⟨z, H2, J2, rz, ks, b, ey, hb, hp, q2⟩ => pairTrees_nil_walk ?_)
  subst ey
  cases (show u = Value.ref b from ry)
  obtain ⟨zl, hd, xs, rel, dd⟩ := dt_of J2.hok hp
  cases rel
  refine ⟨[(ks, b, w2)], ⟨rfl, rfl, key_of J2.hok hb, trivial⟩, dd, fun h' tk' dd' hs => wpAny_pure ⟨.ref s.heap.objs.size, _, ?_, rfl, q2⟩⟩
  obtain ⟨o, es, ep, hq, h2, h3, h4, _, h5⟩ := dd'
  have rel1 : KT H2 (putK [] ks z) (storedH [] ks b w2) := KT.put .nil ks hb rz
  refine d_write J2 (by rw [hp]; exact True.intro) hs ⟨o, hq⟩ ⟨Nat.le_trans (Nat.le_refl 1) (by rw [sizeLine_eq]; decide), hd, _, rel1.keeps fun c ys ec => ?_, o, es, ep, hq, h2, h3, h4, h5⟩
  rw [upd_ne (ne_of ec hp (fun z => nomatch z))]
  exact ec
/-- for k in e, e a dict with tuple keys that nothing writes from then on -/
def tFrz (td : TE) : TE := fun σ H Q => td σ H fun x H1 => ∃ d kvs, x = V.ref d ∧ H1 d = some (.dT kvs) ∧ ∀ o, Q (.ref d) (upd H1 d (.frz o (.dT kvs)))
theorem pe_frz {X : Cx} {e : Expr} {td : TE} (he : PE X e td) : PE X e (tFrz td) := by
  refine ⟨fun pins s σ H Q I h => thn (he.run pins s σ H _ I h) fun u s1 ⟨x, H1, I1, rx, d, kvs, ex, hd, q⟩ => ?_⟩
  subst ex
  obtain ⟨od, I2⟩ := I1.lock hd trivial
  exact ⟨.ref d, _, I2, rx, q od⟩
theorem pi_keysF {X : Cx} {tg e : Expr} {td : TE} (he : PE X e td) : PI X tg e (iKeys (tFrz td)) := pi_keys (pe_frz he)
end K21
end
section
set_option Elab.async false
set_option linter.all false
set_option maxRecDepth 100000
set_option maxHeartbeats 4000000
/-! walks 1: strike_equal, places_within -/
namespace K21
open PySem PySem.Spec PyProof.Rows L2
section
variable {P : Program} {w : World} {K : PySem.W.Frag} {mg : Str → Option Value} {base : Heap}
theorem scStrikeEqual : FnScope ["row", "kept", "tone"] ["row"] (defScope sStrikeEqual) := ⟨rfl, rfl, rfl, by decide +kernel, rfl, by decide +kernel, by decide +kernel⟩
def spStrike : Sp := fun vs H Q _ => ∃ (a : Addr) (ns : List Int), vs = [.ref a] ∧ H a = some (.tup (iv ns)) ∧ ns.length ≤ 1000 ∧
  ∀ H' p, Same H H' → H p = none → H' p = some (.tup (iv (strike ns))) → Q (.ref p) H'
theorem good_strike (T : Txt K mg) : Good P w K mg base CX0 1 "strike_equal" ["row"] [] spStrike := by
  refine good0 T.d_strike_equal T.g_strike_equal scStrikeEqual (fun _ _ _ _ _ _ us hl => match us, hl with | [_], _ => rfl) (fun vs H Q E h => ?_) (fun cdv A outer s H vs Q E hr h => ?_)
  · obtain ⟨a, ns, rfl, _⟩ := h
    rfl
  · obtain ⟨a, ns, rfl, ha, hl, k⟩ := h
    refine ⟨_, (pss_cons
    (ps_set (i := 1) scStrikeEqual.nd rfl (Or.inl rfl) (pe_lst pa_nil))
    (pss_cons
    (ps_for PassesOwn.never rfl (pi_tup (pv 0)) (pg_name (i := 2) scStrikeEqual.nd rfl (Or.inl rfl)) (pss_one
      (ps_if (PW.pt (pw_or (pt_not (pt_truth (pv 1) (fun _ => rfl))) (pw_or1 (pt_cmpR op_ne (pe_ix ix_list (pv 1) (pe_un un_neg (pe_int)) (fun _ _ => rfl)) (pv 2) (nomark _))))) (pss_one
        (ps_expr (pe_bm PySem.F.plainAttrs_list PySem.F.slot_list_append PySem.F.type_list_append mt_append (pv 1) (pa_cons (pv 2) pa_nil)))) pss_nil)))
    (pss_one
    (ps_ret (pe_callTy call_tuple_of (by rfl) T.n_tuple (by decide +kernel) (pa_cons (pv 1) pa_nil)))))), ?_⟩
    refine ⟨Nat.zero_le _, fun l hn => ?_⟩
    refine ⟨_, rfl, a, rfl, ⟨_, SqT.of (by rw [upd_ne (ne_of_none ha hn)]; exact ha)⟩, for_tup (xs := iv ns) (fun i σ H' => ∃ v, σ = [some (.ref a), some (.ref l), v] ∧ Same H H' ∧ H' l = some (.lst (iv (strike (ns.take i)))))
      ⟨none, rfl, Same.new hn, upd_same⟩ (fun i σ H' _ ⟨v, _, s5, _⟩ => SqT.of (s5 _ _ ha)) ?_ ?_⟩
    · rintro i y σ H' hi ⟨v, rfl, s5, hL⟩
      obtain ⟨z, hz, rfl⟩ := iv_get hi
      have hlen : (strike (ns.take i)).length ≤ i := Nat.le_trans (strike_len _) (by rw [List.length_take]; omega)
      have hi2 := lt_of_get hz
      have hin := take_more hz
      have app : ∀ (e : strike (ns.take (i + 1)) = strike (ns.take i) ++ [z]), tBM K "list" rAppend (tVar 1) (tCons (tVar 2) tNil) [some (V.ref a), some (V.ref l), some (V.int z)] H' fun x H1 =>
          ∃ v, [some (V.ref a), some (V.ref l), some (V.int z)] = [some (V.ref a), some (V.ref l), v] ∧ Same H H1 ∧ H1 l = some (.lst (iv (strike (ns.take (i + 1))))) := fun e => by
        refine ⟨_, rfl, Or.inl ⟨rfl, _, SqL.of hL⟩, _, rfl, l, _, _, rfl, rfl, hL, smallLine (by rw [iv_len]; omega), _, rfl, Same.out s5 hn, ?_⟩
        rw [upd_same, e]
        simp
      have st : strike (ns.take (i + 1)) = push (strike (ns.take i)) z := by rw [hin, strike_snoc]
      refine ⟨_, rfl, _, Or.inl ⟨_, SqL.of hL, rfl⟩, ?_⟩
      by_cases c : strike (ns.take i) = []
      · rw [c]
        refine app ?_
        rw [st, c]
        rfl
      · have hne : (iv (strike (ns.take i))).isEmpty = false := by
          cases q : strike (ns.take i) with
          | nil => exact absurd q c
          | cons _ _ => rfl
        rw [hne]
        obtain ⟨u, hu⟩ : ∃ u, strike (ns.take i) = (strike (ns.take i)).dropLast ++ [u] := ⟨(strike (ns.take i)).getLast c, (List.dropLast_concat_getLast c).symm⟩
        refine ⟨_, rfl, _, rfl, l, _, -1, .int u, rfl, rfl, SqL.of hL, ?_, _, rfl, rfl, _, rfl, ?_⟩
        · rw [hu]
          have := atI_last (iv (strike (ns.take i)).dropLast) (V.int u)
          simpa using this
        have hlast : (strike (ns.take i)).getLast? = some u := by rw [hu]; simp
        by_cases d : u = z
        · subst d
          refine iteF' ?_ ?_
          · simp
          · refine ⟨_, rfl, s5, ?_⟩
            rw [st, push, if_pos hlast]
            exact hL
        · refine iteT' ?_ (app ?_)
          · simpa using d
          · rw [st, push, if_neg]
            rw [hlast]
            intro e
            exact d (Option.some.inj e)
    · rintro σ H' ⟨v, rfl, s5, hL⟩
      rw [List.length_map, List.take_length] at hL
      refine ⟨_, rfl, l, _, rfl, Or.inl ⟨SqL.of hL, fun p hp => ?_⟩⟩
      exact k _ p (Same.nw s5 hp) (s5.free hp) upd_same
end
end K21
end
section
set_option Elab.async false
set_option linter.all false
set_option maxRecDepth 100000
set_option maxHeartbeats 4000000
/-! walks 2: is_whole, the checks -/
namespace K21
open PySem PySem.Spec PyProof.Rows L2
section
variable {P : Program} {w : World} {K : PySem.W.Frag} {mg : Str → Option Value} {base : Heap}
theorem Good.of {CX : CXT} {x : Str} {st : Stmt} {ps : List Str} {dvs dvs' : List V} {k : Nat} {sp : Sp} {fd : FuncData} (F : FnP K x x st dvs (He.ga K x) fd) (g : mg x = some (.ref (He.ga K x)))
    (ok : FnOk P w K mg base CX k (He.ga K x) fd ps sp) (b : ∃ ds, Vals dvs' ds ∧ Binds K fd ps ds) : Good P w K mg base CX k x ps dvs' sp := by
  obtain ⟨ds, r, b⟩ := b
  exact ⟨fd, ds, ok, r, b, g, F.kp⟩
/-- a thing that may stand where a colour is wanted -/
def Thing (H : Hp) (v : V) : Prop := flatV v = true ∨ ∃ a xs, v = .ref a ∧ H a = some (.tup xs)
theorem Thing.same {H H' : Hp} {v : V} (s : Same H H') (t : Thing H v) : Thing H' v := by
  rcases t with h | ⟨a, xs, rfl, h⟩
  · exact .inl h
  · exact .inr ⟨a, xs, rfl, s _ _ h⟩
theorem Thing.int {H : Hp} (n : Int) : Thing H (.int n) := .inl rfl
def wholeB (v : V) (a b : Int) : Bool := match v with
  | .int n => decide (a ≤ n) && decide (n ≤ b)
  | _ => false
def isIntV : V → Bool
  | .int _ => true
  | _ => false
def isBlV : V → Bool
  | .bl _ => true
  | _ => false
theorem Thing.ty {H : Hp} {v : V} (t : Thing H v) : ∃ ty, TyX K H v ty ∧ PySem.W.kitOne K ty (.type "int") = some (isIntV v || isBlV v) ∧ PySem.W.kitOne K ty (.type "bool") = some (isBlV v) := by
  rcases t with h | ⟨a, xs, rfl, h⟩
  · cases v with
    | non => exact ⟨_, .base .non, kit_ty (r := false) (by decide +kernel), kit_ty (r := false) (by decide +kernel)⟩
    | bl b => exact ⟨_, .base (.bl b), kit_ty (r := true) (by decide +kernel), kit_ty (r := true) (by decide +kernel)⟩
    | int b => exact ⟨_, .base (.int b), kit_ty (r := true) (by decide +kernel), kit_ty (r := false) (by decide +kernel)⟩
    | str b => exact ⟨_, .base (.str b), kit_ty (r := false) (by decide +kernel), kit_ty (r := false) (by decide +kernel)⟩
    | byt b => cases h
    | flt b => cases h
    | ref b => cases h
    | ty b => cases h
  · exact ⟨_, .base (.tup h), kit_ty (r := false) (by decide +kernel), kit_ty (r := false) (by decide +kernel)⟩
theorem scIsWhole : FnScope ["thing", "low", "high"] ["thing", "low", "high"] (defScope sIsWhole) := ⟨rfl, rfl, rfl, by decide +kernel, rfl, by decide +kernel, by decide +kernel⟩
def spWhole : Sp := fun vs H Q _ => ∃ (v : V) (a b : Int), vs = [v, .int a, .int b] ∧ Thing H v ∧ Q (.bl (wholeB v a b)) H
theorem good_whole (T : Txt K mg) : Good P w K mg base CX0 1 "is_whole" ["thing", "low", "high"] [] spWhole := by
  obtain ⟨fd, F⟩ := T.d_is_whole
  refine Good.of F T.g_is_whole (F.ok scIsWhole (fun vs H Q E h => ?_) (fun cdv A outer s H vs Q E hr h => ?_)) (FunD.binds1 (ps := ["thing", "low", "high"]) F 3 2 (by decide) rfl fun _ _ _ _ _ _ _ us its h1 h2 => match us, its, h1, h2 with | [_, _, _], [_, _], _, _ => ⟨_, rfl, rfl⟩)
  · obtain ⟨v, a, b, rfl, _⟩ := h
    rfl
  · obtain ⟨v, a, b, rfl, tv, k⟩ := h
    refine ⟨_, PSs.nox (pss_cons
    (ps_if (PW.pt (pw_or (pt_not (pt_val (pe_callB call_isi (by rfl) T.n_isinstance (by decide +kernel) (pa_cons (pv 0) (pa_cons (pe_bltn rfl T.n_int (v := .ty "int") (u := .type "int") (by decide +kernel) rfl) pa_nil))))) (pw_or1 (pt_val (pe_callB call_isi (by rfl) T.n_isinstance (by decide +kernel) (pa_cons (pv 0) (pa_cons (pe_bltn rfl T.n_bool (v := .ty "bool") (u := .type "bool") (by decide +kernel) rfl) pa_nil))))))) (pss_one
      (ps_ret (pe_bl))) pss_nil)
    (pss_cons
    (ps_if (PW.pt (pw_and (pt_cmpR op_notN (pv 1) (pe_non) (nomark _)) (pw_and1 (pt_cmpR op_lt (pv 0) (pv 1) (nomark _))))) (pss_one
      (ps_ret (pe_bl))) pss_nil)
    (pss_one
    (ps_ret ((pe_or (pe_cmpR op_isN (pv 2) (pe_non) (nomark _)) (pe_one (pe_cmpR op_le (pv 0) (pv 2) (nomark _))))))))), ?_⟩
    obtain ⟨ty, h1, h2, h3⟩ := tv.ty (K := K)
    refine ⟨_, rfl, _, _, _, _, _, rfl, .ty _, h1, h2, _, rfl, ?_⟩
    have fin : ∀ n, v = .int n → wholeB v a b = (decide (a ≤ n) && decide (n ≤ b)) := fun n e => by rw [e]; rfl
    have no : isIntV v = false → wholeB v a b = false := fun e => by cases v with
      | int n => cases e
      | _ => rfl
    by_cases hi : isIntV v = true
    · obtain ⟨n, rfl⟩ : ∃ n, v = .int n := by cases v with
        | int n => exact ⟨n, rfl⟩
        | _ => cases hi
      refine iteF' rfl ⟨_, rfl, _, _, _, _, _, rfl, .ty _, h1, h3, _, rfl, iteF' rfl ?_⟩
      rw [fin n rfl] at k
      refine ⟨_, rfl, rfl, _, rfl, iteT' rfl ⟨_, rfl, _, rfl, _, _, rfl, rfl, _, rfl, ?_⟩⟩
      by_cases c : n < a
      · refine iteT' (decide_eq_true c) ?_
        rw [decide_eq_false (by omega)] at k
        exact k
      · refine iteF' (decide_eq_false c) ⟨_, rfl, rfl, _, rfl, iteF' rfl ⟨_, rfl, _, rfl, _, _, rfl, rfl, ?_⟩⟩
        rw [decide_eq_true (show a ≤ n by omega)] at k
        exact k
    · have hi := Bool.eq_false_iff.mpr hi
      rw [no hi] at k
      rw [hi]
      cases hb : isBlV v with
      | false => exact iteT' rfl (iteT' rfl k)
      | true => exact iteF' rfl ⟨_, rfl, _, _, _, _, _, rfl, .ty _, h1, h3, _, rfl, iteT' hb k⟩
/-! ### the exceptions' __init__ -/
theorem scBadColourInit : FnScope ["self", "colour"] ["self", "colour"] (defScope sBadColourInit) := ⟨rfl, rfl, rfl, by decide +kernel, rfl, by decide +kernel, by decide +kernel⟩
theorem scBadRowInit : FnScope ["self", "index"] ["self", "index"] (defScope sBadRowInit) := ⟨rfl, rfl, rfl, by decide +kernel, rfl, by decide +kernel, by decide +kernel⟩
theorem scBadRowsInit : FnScope ["self", "index"] ["self", "index"] (defScope sBadRowsInit) := ⟨rfl, rfl, rfl, by decide +kernel, rfl, by decide +kernel, by decide +kernel⟩
def xiT (K : PySem.W.Frag) (f : Str) : TS := tSeq (tOst K f (tVar 0) (tVar 1)) tNext
theorem xi_pure {c f q : Str} {st : Stmt} {D : Ends} {H : Hp} {vs : List V} {Q : VK} {E : XK} (O : OwnX K mg c f st q) (hQ : ∀ σ H', D.nx σ H' = Q .non H') (hp : spXI (He.ga K c) f vs H Q E) : tOst K f (tVar 0) (tVar 1) D (start [("self" : Str), f] vs) H := by
  obtain ⟨a, v, rfl, ha, k⟩ := hp
  refine ⟨_, rfl, _, rfl, a, _, rfl, O.ox, O.no, .inl ⟨ha, fun dx h1 h2 => ?_⟩⟩
  rw [hQ]
  exact k dx h1 h2
structure XOk (P : Program) (w : World) (K : PySem.W.Frag) (mg : Str → Option Value) (base : Heap) (c f : Str) : Prop where
  ok : ∃ fd, FnOk P w K mg base CX0 1 (He.ma K (He.ga K c) "__init__") fd [("self" : Str), f] (spXI (He.ga K c) f) ∧ L2H.FnH P w K mg base CX0 1 (He.ma K (He.ga K c) "__init__") fd [("self" : Str), f] (spXI (He.ga K c) f) ∧ Binds K fd [("self" : Str), f] []
theorem xi_len {C : Addr} {f : Str} : ∀ vs H Q E, spXI C f vs H Q E → vs.length = [("self" : Str), f].length := fun vs H Q E h => by
  obtain ⟨a, v, rfl, _⟩ := h
  rfl
theorem xok_of {c f q : Str} {st : Stmt} (O : OwnX K mg c f st q) (S : FnScope [("self" : Str), f] [("self" : Str), f] (defScope st))
    (hb : ∀ (kV doc pm : Value) (an : Option Addr) (cdv ct : Value) (us : List Value), us.length = [("self" : Str), f].length → bindArgs (PySem.W.fnOf "__init__" q (defArgs st) (defBody st) (defScope st) .none kV doc pm an cdv ct) ⟨us, []⟩ = pure ([("self" : Str), f].zip us))
    (d1 : ∀ cdv A outer s H E, PSs (cxOf CX0 P w K mg base [("self" : Str), f] q (defScope st) (He.ma K (He.ga K c) "__init__") cdv A outer s H E) (defBody st) (tOst K f (tVar 0) (tVar 1)))
    (d2 : ∀ cdv A outer s H E p, PSs (L2H.cxH CX0 P w K mg base [("self" : Str), f] q (defScope st) (He.ma K (He.ga K c) "__init__") cdv A outer s H E p) (defBody st) (tOst K f (tVar 0) (tVar 1))) : XOk P w K mg base c f := by
  obtain ⟨fd, F⟩ := O.d
  refine ⟨fd, F.ok S xi_len (fun cdv A outer s H vs Q E hr h => ⟨_, d1 cdv A outer s H E, xi_pure O (fun _ _ => rfl) h⟩), ?_, F.bindsN hb⟩
  obtain ⟨oc, od, dV, kV, doc, pm, an, cdv, ct, osl, rfl, lk, hcd, _⟩ := F.ex
  exact L2H.fn_ofH lk hcd S xi_len fun A outer s H vs Q E p hot hr h => ⟨_, d2 cdv A outer s H E p, xi_pure O (fun _ _ => rfl) h⟩
theorem x_BadColour (T : Txt K mg) : XOk P w K mg base "BadColour" "colour" :=
  xok_of T.o_BadColour scBadColourInit (fun _ _ _ _ _ _ us hl => match us, hl with | [_, _], _ => rfl) (fun _ _ _ _ _ _ => pss_one (ps_ost (pv 0) (pv 1))) (fun _ _ _ _ _ _ _ => pss_one (ps_ost (pv 0) (pv 1)))
theorem x_BadRow (T : Txt K mg) : XOk P w K mg base "BadRow" "index" :=
  xok_of T.o_BadRow scBadRowInit (fun _ _ _ _ _ _ us hl => match us, hl with | [_, _], _ => rfl) (fun _ _ _ _ _ _ => pss_one (ps_ost (pv 0) (pv 1))) (fun _ _ _ _ _ _ _ => pss_one (ps_ost (pv 0) (pv 1)))
theorem x_BadRows (T : Txt K mg) : XOk P w K mg base "BadRows" "index" :=
  xok_of T.o_BadRows scBadRowsInit (fun _ _ _ _ _ _ us hl => match us, hl with | [_, _], _ => rfl) (fun _ _ _ _ _ _ => pss_one (ps_ost (pv 0) (pv 1))) (fun _ _ _ _ _ _ _ => pss_one (ps_ost (pv 0) (pv 1)))
/-- an own exception that bears v may be let out -/
def Out (K : PySem.W.Frag) (H : Hp) (E : XK) (c f : Str) (v : V) : Prop := ∀ H' d, Same H H' → H' d = some (.xd [(f, v)]) → E (.ref (He.ga K c)) (some d) H'
theorem Out.same {H H' : Hp} {E : XK} {c f : Str} {v : V} (o : Out K H E c f v) (s : Same H H') : Out K H' E c f v := fun H2 d s2 h => o H2 d (s.trans s2) h
/-- C(e, ..) where nothing is handled -/
theorem pmk_x {X : Cx} {c f q : Str} {st : Stmt} {e : Expr} {ta : TA} {p pos : Pos} (O : OwnX X.K X.mg c f st q) (Y : XOk X.prog X.w X.K X.mg X.base c f) (hr : Room 2 X.A) (hg : Gl X c) (ha : PA X [e] ta)
    (hdb : (c == ("__debug__" : Str)) = false := by decide) (he : starEach [e] X.env = (false, eval e X.env) :: starEach [] X.env := by rfl) (hpl : (backTo pos (starEach [] X.env)).any (·.1) = false := by rfl) :
    L2N.PMk X (.Call (.Name c p) [e] [] pos) (tMkO (He.ga X.K c) (spXI (He.ga X.K c) f) [] ta) := by
  obtain ⟨fd, F, _, b⟩ := Y.ok
  exact pmkN_oex O.ox O.ini O.ity F hr b pass0 hg O.g ha hdb he hpl
/-! ### check_colour -/
def spColour (K : PySem.W.Frag) : Sp := fun vs H Q E => ∃ v, vs = [v] ∧ Thing H v ∧ (wholeB v 0 99 = true → Q v H) ∧ (wholeB v 0 99 = false → Out K H E "BadColour" "colour" v)
theorem scCheckColour : FnScope ["colour"] ["colour"] (defScope sCheckColour) := ⟨rfl, rfl, rfl, by decide +kernel, rfl, by decide +kernel, by decide +kernel⟩
theorem good_colour (T : Txt K mg) : Good P w K mg base (L2N.CX P w) 3 "check_colour" ["colour"] [] (spColour K) := by
  have G_is_whole := good_whole (P := P) (w := w) (base := base) T
  refine goodX T.d_check_colour T.g_check_colour scCheckColour (fun _ _ _ _ _ _ us hl => match us, hl with | [_], _ => rfl) (fun vs H Q E h => ?_) (fun cdv A outer s H vs Q E hr h => ?_)
  · obtain ⟨v, rfl, _⟩ := h
    rfl
  · obtain ⟨v, rfl, tv, k1, k2⟩ := h
    refine ⟨_, (pss_cons
    (ps_if (pt_not (pt_val (pe_go G_is_whole hr (by decide) rfl (pa_cons (pv 0) (pa_cons (pe_int) (pa_cons (pe_const T.c_MOST_COLOUR rfl) pa_nil)))))) (pss_one
      (L2N.ps_raise rfl (L2N.takes_of rfl rfl rfl rfl) (pmk_x (f := "colour") T.o_BadColour (x_BadColour T) (hr.mono (by decide)) rfl (pa_cons (pv 0) pa_nil)))) pss_nil)
    (pss_one
    (ps_ret (pv 0)))), ?_⟩
    refine ⟨_, rfl, _, _, _, rfl, tv, _, rfl, ?_⟩
    cases e : wholeB v 0 99 with
    | true => exact iteF' rfl ⟨_, rfl, k1 e⟩
    | false =>
      refine iteT' rfl ?_
      refine mkO_is ⟨_, rfl, _, rfl, fun d hd => k2 e _ d (Same.new hd) upd_same⟩ (fun Q1 Q2 m ⟨v, e, q⟩ => ⟨v, e, m _ _ q⟩)
end
end K21
end
section
set_option Elab.async false
set_option linter.all false
set_option maxRecDepth 100000
set_option maxHeartbeats 4000000
/-! walks 3: check_row, check_head -/
namespace K21
open PySem PySem.Spec PyProof.Rows L2
/-- a row: a list or a tuple -/
def Row (H : Hp) (a : Addr) (xs : List V) : Prop := H a = some (.lst xs) ∨ H a = some (.tup xs)
theorem Row.same {H H' : Hp} {a : Addr} {xs : List V} (r : Row H a xs) (s : Same H H') : Row H' a xs := r.imp (s _ _) (s _ _)
theorem Row.sq {K : PySem.W.Frag} {H : Hp} {a : Addr} {xs : List V} (r : Row H a xs) : SqL K H a xs ∨ SqT K H a xs := r.imp SqL.of SqT.of
theorem for_enumA {K : PySem.W.Frag} {a : Addr} {xs : List V} {g : TG} {tb : TS} {D : Ends} {σ : L2.St} {H : Hp} (r : Row H a xs) (Pv : Nat → L2.St → Hp → Prop) (h0 : Pv 0 σ H) (hG : ∀ i σ' H', Pv i σ' H' → ∀ o, H a = some o → H' a = some o)
    (hs : ∀ i x σ' H' T, xs[i]? = some x → Pv i σ' H' → H' T = none → g (.ref T) σ' (upd H' T (.tup [.int (i : Nat), x])) fun σ2 H2 => tb { D with nx := Pv (i + 1), ct := Pv (i + 1), bk := D.nx } σ2 H2) (hd : ∀ σ' H', Pv xs.length σ' H' → D.nx σ' H') :
    (SqL K H a xs ∧ ∃ W : Nat → Nat → L2.St → Hp → Prop, (∃ m, W 0 m σ H) ∧ ∀ i m σ' H', W i m σ' H' →
      ((Ite K a).stop i H' ∧ D.nx σ' H') ∨ ((Ite K a).go i H' ∧ ∃ N : L2.St → Hp → Prop, (∀ σ'' H'', N σ'' H'' → ∃ m', m' < m ∧ W (i + 1) m' σ'' H'') ∧ ∀ x H'', (Ite K a).yld i H' x H'' → g x σ' H'' fun σ2 H2 => tb { D with nx := N, ct := N, bk := D.nx } σ2 H2)) ∨
    (SqT K H a xs ∧ ∃ W : Nat → Nat → L2.St → Hp → Prop, (∃ m, W 0 m σ H) ∧ ∀ i m σ' H', W i m σ' H' →
      ((IteT K a).stop i H' ∧ D.nx σ' H') ∨ ((IteT K a).go i H' ∧ ∃ N : L2.St → Hp → Prop, (∀ σ'' H'', N σ'' H'' → ∃ m', m' < m ∧ W (i + 1) m' σ'' H'') ∧ ∀ x H'', (IteT K a).yld i H' x H'' → g x σ' H'' fun σ2 H2 => tb { D with nx := N, ct := N, bk := D.nx } σ2 H2)) := by
  have step : ∀ i x σ' H' H'', i < xs.length → Pv i σ' H' → YPair (fun i => some (.int (i : Nat))) (fun i => xs[i]?) i H' x H'' → g x σ' H'' fun σ2 H2 => tb { D with nx := Pv (i + 1), ct := Pv (i + 1), bk := D.nx } σ2 H2 := by
    rintro i x σ' H' H'' hi p ⟨T, u, y, rfl, hT, rfl, hu, hy⟩
    cases hu
    exact hs i y σ' H' T hy p hT
  rcases r with h | h
  · exact .inl ⟨SqL.of h, for_it walk_enum Pv h0 (fun i σ' H' _ p => SqL.of (hG i σ' H' p _ h)) step hd⟩
  · exact .inr ⟨SqT.of h, for_it walk_enumT Pv h0 (fun i σ' H' _ p => SqT.of (hG i σ' H' p _ h)) step hd⟩
/-- a thing that is no row -/
inductive NoRow (H : Hp) : V → Prop where
  | flat {v : V} (h : flatV v = true) : NoRow H v
  | dT {a : Addr} {kvs : List (List Key × V)} (h : H a = some (.dT kvs)) : NoRow H (.ref a)
  | dK {a : Addr} {kvs : List (Key × V)} (h : H a = some (.dK kvs)) : NoRow H (.ref a)
theorem NoRow.same {H H' : Hp} {v : V} (s : Same H H') (t : NoRow H v) : NoRow H' v := by
  cases t with
  | flat h => exact .flat h
  | dT h => exact .dT (s _ _ h)
  | dK h => exact .dK (s _ _ h)
theorem kit_lt {K : PySem.W.Frag} {n : String} {b c r : Bool} (h1 : kitB n "list" = some b) (h2 : kitB n "tuple" = some c) (e : r = (b || c)) : PySem.W.kitAny K (.type n) [.type "list", .type "tuple"] = some r := by
  subst e
  exact kitAny_cons (kit_ty h1) (fun hb => by subst hb; exact kitAny_cons (b := c) (kit_ty h2) (fun hc => by subst hc; exact kitAny_nil) (fun hc => by subst hc; rfl)) (fun hb => by subst hb; rfl)
theorem NoRow.ty {K : PySem.W.Frag} {H : Hp} {v : V} (t : NoRow H v) : ∃ ty, TyX K H v ty ∧ PySem.W.kitAny K ty [.type "list", .type "tuple"] = some false := by
  cases t with
  | flat h =>
    cases v with
    | non => exact ⟨_, .base .non, kit_lt (b := false) (c := false) (by decide +kernel) (by decide +kernel) rfl⟩
    | bl b => exact ⟨_, .base (.bl b), kit_lt (b := false) (c := false) (by decide +kernel) (by decide +kernel) rfl⟩
    | int b => exact ⟨_, .base (.int b), kit_lt (b := false) (c := false) (by decide +kernel) (by decide +kernel) rfl⟩
    | str b => exact ⟨_, .base (.str b), kit_lt (b := false) (c := false) (by decide +kernel) (by decide +kernel) rfl⟩
    | byt b => cases h
    | flt b => cases h
    | ref b => cases h
    | ty b => cases h
  | dT h => exact ⟨_, .base (.dT h), kit_lt (b := false) (c := false) (by decide +kernel) (by decide +kernel) rfl⟩
  | dK h => exact ⟨_, .base (.dK h), kit_lt (b := false) (c := false) (by decide +kernel) (by decide +kernel) rfl⟩
theorem Row.ty {K : PySem.W.Frag} {H : Hp} {a : Addr} {xs : List V} (r : Row H a xs) : ∃ ty, TyX K H (.ref a) ty ∧ PySem.W.kitAny K ty [.type "list", .type "tuple"] = some true := by
  rcases r with h | h
  · exact ⟨_, .base (.lst h), kit_lt (b := true) (c := false) (by decide +kernel) (by decide +kernel) rfl⟩
  · exact ⟨_, .base (.tup h), kit_lt (b := false) (c := true) (by decide +kernel) (by decide +kernel) rfl⟩
/-- the first place of xs that is no colour -/
def badAt (xs : List V) : Option Nat := xs.findIdx? fun v => !wholeB v 0 99
def rowIx (xs : List V) (most : Nat) : Option Nat := if most < xs.length then some 0 else badAt xs
/-- the turn i of the loop of check_row: none ahead of i is bad -/
def OkTo (xs : List V) (i : Nat) : Prop := ∀ j v, j < i → xs[j]? = some v → wholeB v 0 99 = true
theorem badAt_none {xs : List V} (h : OkTo xs xs.length) : badAt xs = none := by
  refine List.findIdx?_eq_none_iff.mpr fun v hv => ?_
  obtain ⟨j, hj, e⟩ := List.getElem_of_mem hv
  rw [h j v hj (by rw [List.getElem?_eq_getElem hj, e])]
  rfl
theorem badAt_some {xs : List V} {i : Nat} {v : V} (h : OkTo xs i) (hv : xs[i]? = some v) (b : wholeB v 0 99 = false) : badAt xs = some i := by
  obtain ⟨hi, e⟩ := List.getElem?_eq_some_iff.mp hv
  refine List.findIdx?_eq_some_iff_getElem.mpr ⟨hi, ?_, fun j hj => ?_⟩
  · rw [e, b]
    rfl
  · have := h j (xs[j]'(by omega)) hj (List.getElem?_eq_getElem (by omega))
    rw [this]
    decide
section
variable {P : Program} {w : World} {K : PySem.W.Frag} {mg : Str → Option Value} {base : Heap}
/-- a thing given for a row -/
inductive Given (H : Hp) : V → Option (List V) → Prop where
  | no {v : V} (h : NoRow H v) : Given H v none
  | row {a : Addr} {xs : List V} (h : Row H a xs) (t : ∀ x ∈ xs, Thing H x) (l : xs.length ≤ 1000) : Given H (.ref a) (some xs)
theorem Given.same {H H' : Hp} {v : V} {o : Option (List V)} (s : Same H H') (t : Given H v o) : Given H' v o := by
  cases t with
  | no h => exact .no (h.same s)
  | row h t l => exact .row (h.same s) (fun x hx => (t x hx).same s) l
def givenIx (o : Option (List V)) (most : Nat) : Option Nat := match o with
  | none => some 0
  | some xs => rowIx xs most
def spRow (K : PySem.W.Frag) : Sp := fun vs H Q E => ∃ (v : V) (o : Option (List V)) (most : Nat), vs = [v, .int (most : Nat)] ∧ Given H v o ∧ (∀ i, givenIx o most = some i → Out K H E "BadRow" "index" (.int (i : Nat))) ∧
  (givenIx o most = none → ∀ xs, o = some xs → ∀ H' p, Same H H' → H' p = some (.tup xs) → Q (.ref p) H')
theorem scCheckRow : FnScope ["row", "most", "index", "colour"] ["row", "most"] (defScope sCheckRow) := ⟨rfl, rfl, rfl, by decide +kernel, rfl, by decide +kernel, by decide +kernel⟩
theorem good_row (T : Txt K mg) : Good P w K mg base (L2N.CX P w) 3 "check_row" ["row", "most"] [] (spRow K) := by
  have G_is_whole := good_whole (P := P) (w := w) (base := base) T
  obtain ⟨fd, F⟩ := T.d_check_row
  refine Good.of F T.g_check_row (F.ok scCheckRow (fun vs H Q E h => ?_) (fun cdv A outer s H vs Q E hr h => ?_)) (FunD.binds1 (ps := ["row", "most"]) F 2 1 (by decide) rfl fun _ _ _ _ _ _ _ us its h1 h2 => match us, its, h1, h2 with | [_, _], [_], _, _ => ⟨_, rfl, rfl⟩)
  · obtain ⟨v, _, _, rfl, _⟩ := h
    rfl
  · obtain ⟨v, o, most, rfl, gv, k1, k2⟩ := h
    refine ⟨_, (pss_cons
    (ps_if (PW.pt (pw_or (pt_not (pt_val (pe_callB call_isiT (by rfl) T.n_isinstance (by decide +kernel) (pa_cons (pv 0) (pa_cons (pe_tup (pa_cons (pe_bltn rfl T.n_list (v := .ty "list") (u := .type "list") (by decide +kernel) rfl) (pa_cons (pe_bltn rfl T.n_tuple (v := .ty "tuple") (u := .type "tuple") (by decide +kernel) rfl) pa_nil))) pa_nil))))) (pw_or1 (pt_cmpR op_gt (pe_callB call_len_seq (by rfl) T.n_len PySem.boot_len (pa_cons (pv 0) pa_nil)) (pv 1) (nomark _))))) (pss_one
      (L2N.ps_raise rfl (L2N.takes_of rfl rfl rfl rfl) (pmk_x (f := "index") T.o_BadRow (x_BadRow T) (hr.mono (by decide)) rfl (pa_cons (pe_int) pa_nil)))) pss_nil)
    (pss_cons
    (ps_for (passes_of rfl) rfl (pi_enumA rfl T.n_enumerate (pa_cons (pv 0) pa_nil)) (pg_tup rfl (pgs_cons (pg_name (i := 2) scCheckRow.nd rfl (Or.inl rfl)) (pgs_cons (pg_name (i := 3) scCheckRow.nd rfl (Or.inl rfl)) pgs_nil))) (pss_one
      (ps_if (pt_not (pt_val (pe_go G_is_whole hr (by decide) rfl (pa_cons (pv 3) (pa_cons (pe_int) (pa_cons (pe_const T.c_MOST_COLOUR rfl) pa_nil)))))) (pss_one
        (L2N.ps_raise rfl (L2N.takes_of rfl rfl rfl rfl) (pmk_x (f := "index") T.o_BadRow (x_BadRow T) (hr.mono (by decide)) rfl (pa_cons (pv 2) pa_nil)))) pss_nil)))
    (pss_one
    (ps_ret (pe_callTy call_tuple_of (by rfl) T.n_tuple (by decide +kernel) (pa_cons (pv 0) pa_nil)))))), ?_⟩
    have hy : ∀ p, H p = none → ∃ ty, TyX K (upd H p (.tup [.ty "list", .ty "tuple"])) v ty ∧ PySem.W.kitAny K ty [.type "list", .type "tuple"] = some o.isSome := fun p hp => by
      cases gv with
      | no h => exact (h.same (Same.new hp)).ty
      | row h t l => exact (h.same (Same.new hp)).ty
    refine ⟨_, rfl, (by rw [sizeLine_eq]; decide), fun p hp => ?_⟩
    obtain ⟨ty, h1, h2⟩ := hy p hp
    have s1 : Same H (upd H p (.tup [.ty "list", .ty "tuple"])) := Same.new hp
    refine ⟨_, p, _, ty, _, _, rfl, upd_same, .cons (.ty _) (.cons (.ty _) .nil), h1, h2, _, rfl, ?_⟩
    generalize upd H p (.tup [.ty "list", .ty "tuple"]) = H1 at s1
    cases gv with
    | no h =>
      refine iteT' rfl (iteT' rfl ?_)
      exact mkO_is ⟨_, rfl, fun d hd => k1 0 rfl _ d (Same.nw s1 hd) upd_same⟩ (fun Q1 Q2 m q => m _ _ q)
    | @row a xs h t l =>
      refine iteF' rfl ⟨_, rfl, a, xs, rfl, (h.same s1).sq, _, rfl, _, _, rfl, rfl, _, rfl, ?_⟩
      by_cases c : most < xs.length
      · refine iteT' (decide_eq_true (by omega)) ?_
        exact mkO_is ⟨_, rfl, fun d hd => k1 0 (if_pos c) _ d (Same.nw s1 hd) upd_same⟩ (fun Q1 Q2 m q => m _ _ q)
      refine iteF' (decide_eq_false (by omega)) ?_
      have e0 : rowIx xs most = badAt xs := if_neg c
      refine ⟨_, rfl, a, xs, rfl, for_enumA (xs := xs) (h.same s1) (fun i σ' H' => ∃ u v, σ' = [some (.ref a), some (.int (most : Nat)), u, v] ∧ Same H1 H' ∧ OkTo xs i)
        ⟨none, none, rfl, Same.refl _, fun j v hj => absurd hj (Nat.not_lt_zero _)⟩ (fun i σ' H' ⟨_, _, _, s2, _⟩ o e => s2 a o e) ?_ ?_⟩
      · rintro i x σ' H' T hx ⟨u, v, rfl, s2, ok⟩ hT
        have s3 : Same H (upd H' T (.tup [.int (i : Nat), x])) := Same.nw (s1.trans s2) hT
        refine ⟨T, _, rfl, SqT.of upd_same, rfl, _, _, rfl, _, _, rfl, rfl, ⟨_, rfl, _, _, _, rfl, (t x (List.mem_of_getElem? hx)).same s3, _, rfl, ?_⟩⟩
        cases e : wholeB x 0 99 with
        | true =>
          refine iteF' rfl ⟨_, _, rfl, Same.nw s2 hT, fun j v hj hv => ?_⟩
          rcases Nat.lt_succ_iff_lt_or_eq.mp hj with q | q
          · exact ok j v q hv
          · subst q
            rw [hx] at hv
            cases hv
            exact e
        | false =>
          refine iteT' rfl ?_
          exact mkO_is ⟨_, rfl, _, rfl, fun d hd => k1 i (e0.trans (badAt_some ok hx e)) _ d (Same.nw s3 hd) upd_same⟩ (fun Q1 Q2 m ⟨v, e, q⟩ => ⟨v, e, m _ _ q⟩)
      · rintro σ' H' ⟨u, v, rfl, s2, ok⟩
        have q := k2 (e0.trans (badAt_none ok)) xs rfl
        rcases h.same (s1.trans s2) with h' | h'
        · exact ⟨_, rfl, a, xs, rfl, .inl ⟨SqL.of h', fun l hl => q _ l (Same.nw (s1.trans s2) hl) upd_same⟩⟩
        · exact ⟨_, rfl, a, xs, rfl, .inr ⟨SqT.of h', q _ a (s1.trans s2) h'⟩⟩
/-! ### check_head -/
def spHead (K : PySem.W.Frag) : Sp := fun vs H Q E => ∃ v, vs = [v] ∧ ((v = .non ∧ Q .non H) ∨ (v ≠ .non ∧ Thing H v ∧ (wholeB v 0 99 = true → Q v H) ∧ (wholeB v 0 99 = false → Out K H E "BadColour" "colour" v)))
theorem scCheckHead : FnScope ["first"] ["first"] (defScope sCheckHead) := ⟨rfl, rfl, rfl, by decide +kernel, rfl, by decide +kernel, by decide +kernel⟩
theorem good_head (T : Txt K mg) : Good P w K mg base (L2N.CX P w) 4 "check_head" ["first"] [] (spHead K) := by
  have G_check_colour := good_colour (P := P) (w := w) (base := base) T
  refine goodX T.d_check_head T.g_check_head scCheckHead (fun _ _ _ _ _ _ us hl => match us, hl with | [_], _ => rfl) (fun vs H Q E h => ?_) (fun cdv A outer s H vs Q E hr h => ?_)
  · obtain ⟨v, rfl, _⟩ := h
    rfl
  · obtain ⟨v, rfl, k⟩ := h
    have hx_check_colour : Passes (L2N.CX P w) (cxOf (L2N.CX P w) P w K mg base ["first"] "check_head" (defScope sCheckHead) (He.ga K "check_head") cdv A outer s H E) E := L2N.passes_call (L2N.takes_of rfl rfl rfl rfl) (fun _ _ _ _ h => h)
    refine ⟨_, (pss_one
    (ps_ret (pe_ifExp (pt_cmpR op_isN (pv 0) (pe_non) (nomark _)) (pe_non) (pe_goX G_check_colour hr (by decide) rfl hx_check_colour (pa_cons (pv 0) pa_nil))))), ?_⟩
    rcases k with ⟨rfl, k⟩ | ⟨hn, tv, k⟩
    · exact ⟨_, rfl, rfl, _, rfl, iteT' rfl k⟩
    · exact ⟨_, rfl, rfl, _, rfl, iteF' (decide_eq_false hn) ⟨_, rfl, _, rfl, tv, k⟩⟩
end
end K21
end
section
set_option Elab.async false
set_option linter.all false
set_option maxRecDepth 100000
set_option maxHeartbeats 4000000
/-! walks 4: check_short_rows -/
namespace K21
open PySem PySem.Spec PyProof.Rows L2
section
variable {P : Program} {w : World} {K : PySem.W.Frag} {mg : Str → Option Value} {base : Heap}
theorem pe_goS {X : Cx} {CX : CXT} {k j : Nat} {x : Str} {ps : List Str} {dvs : List V} {sp : Sp} {E : L2.St → XK} {p pos : Pos} {e : Expr} {es : List Expr} {t : TA} (G : Good X.prog X.w X.K X.mg X.base CX k x ps dvs sp) (hr : Room j X.A) (hkj : k ≤ j) (hg : Gl X x)
    (hx : ∀ σ, PassesAt CX X σ (E σ)) (ha : PA X (e :: es) t) (hdb : (x == ("__debug__" : Str)) = false := by decide)
    (he : starEach (e :: es) X.env = (false, eval e X.env) :: starEach es X.env := by rfl) (hpl : (backTo pos (starEach es X.env)).any (·.1) = false := by rfl) : PE X (.Call (.Name x p) (e :: es) [] pos) (tCallSD sp dvs E t) := by
  obtain ⟨fd, ds, F, r, b, m, kp⟩ := G
  exact pe_callSD F (hr.mono hkj) hg m kp b r hx ha hdb he hpl
/-- C(e, ..) in an except suite -/
theorem pmk_xH {X : Cx} {c f q : Str} {st : Stmt} {e : Expr} {ta : TA} {p pos : Pos} (O : OwnX X.K X.mg c f st q) (Y : XOk X.prog X.w X.K X.mg X.base c f) (hr : L2H.RoomH 2 X.A) (hc : L2H.HotC X) (hg : Gl X c) (ha : PA X [e] ta)
    (hdb : (c == ("__debug__" : Str)) = false := by decide) (he : starEach [e] X.env = (false, eval e X.env) :: starEach [] X.env := by rfl) (hpl : (backTo pos (starEach [] X.env)).any (·.1) = false := by rfl) :
    L2H.PMk5 X (.Call (.Name c p) [e] [] pos) (tMkO (He.ga X.K c) (spXI (He.ga X.K c) f) [] ta) := by
  obtain ⟨fd, _, F, b⟩ := Y.ok
  exact L2H.pmk5_oexH O.ox O.ini O.ity F hr hc b pass0 hg O.g ha hdb he hpl
/-- several rows given -/
inductive GivenS (H : Hp) : V → Option (List (Option (List V))) → Prop where
  | no {v : V} (h : NoRow H v) : GivenS H v none
  | rows {a : Addr} {xs : List V} {os : List (Option (List V))} (h : Row H a xs) (l : xs.length = os.length) (t : ∀ (j : Nat) x o, xs[j]? = some x → os[j]? = some o → Given H x o) (z : os.length ≤ 1000) : GivenS H (.ref a) (some os)
def badRowAt (os : List (Option (List V))) : Option Nat := os.findIdx? fun o => (givenIx o 12).isSome
def shortIx : Option (List (Option (List V))) → Option Nat
  | none => some 0
  | some os => if os.length = 0 ∨ 3 < os.length then some 0 else badRowAt os
def GoodTo (os : List (Option (List V))) (i : Nat) : Prop := ∀ (j : Nat) o, j < i → os[j]? = some o → givenIx o 12 = none
theorem badRowAt_none {os : List (Option (List V))} (h : GoodTo os os.length) : badRowAt os = none := by
  refine List.findIdx?_eq_none_iff.mpr fun v hv => ?_
  obtain ⟨j, hj, e⟩ := List.getElem_of_mem hv
  rw [h j v hj (by rw [List.getElem?_eq_getElem hj, e])]
  rfl
theorem badRowAt_some {os : List (Option (List V))} {i : Nat} {o : Option (List V)} {m : Nat} (h : GoodTo os i) (hv : os[i]? = some o) (b : givenIx o 12 = some m) : badRowAt os = some i := by
  obtain ⟨hi, e⟩ := List.getElem?_eq_some_iff.mp hv
  refine List.findIdx?_eq_some_iff_getElem.mpr ⟨hi, ?_, fun j hj => ?_⟩
  · rw [e, b]
    rfl
  · have := h j (os[j]'(by omega)) hj (List.getElem?_eq_getElem (by omega))
    rw [this]
    decide
/-- ps: the tuples of the rows -/
def Tups (H : Hp) (ps : List V) (xss : List (List V)) : Prop := ps.length = xss.length ∧ ∀ (j : Nat) p xs, ps[j]? = some p → xss[j]? = some xs → ∃ a, p = .ref a ∧ H a = some (.tup xs)
theorem Tups.same {H H' : Hp} {ps : List V} {xss : List (List V)} (t : Tups H ps xss) (s : Same H H') : Tups H' ps xss := ⟨t.1, fun j p xs h1 h2 => by
  obtain ⟨a, e, h⟩ := t.2 j p xs h1 h2
  exact ⟨a, e, s _ _ h⟩⟩
theorem Tups.snoc {H : Hp} {ps : List V} {xss : List (List V)} {a : Addr} {xs : List V} (t : Tups H ps xss) (h : H a = some (.tup xs)) : Tups H (ps ++ [V.ref a]) (xss ++ [xs]) := ⟨by rw [List.length_append, List.length_append, t.1]; rfl, fun j p ys h1 h2 => by
  by_cases c : j < ps.length
  · rw [List.getElem?_append_left c] at h1
    rw [List.getElem?_append_left (by rw [← t.1]; exact c)] at h2
    exact t.2 j p ys h1 h2
  · rw [List.getElem?_append_right (by omega)] at h1
    rw [List.getElem?_append_right (by rw [← t.1]; omega)] at h2
    have e : j - ps.length = 0 := by
      have := lt_of_get h1
      simp at this
      omega
    have e2 : j - xss.length = 0 := by rw [← t.1]; exact e
    rw [e] at h1
    rw [e2] at h2
    cases h1
    cases h2
    exact ⟨a, rfl, h⟩⟩
def spShort (K : PySem.W.Frag) : Sp := fun vs H Q E => ∃ (v : V) (o : Option (List (Option (List V)))), vs = [v] ∧ GivenS H v o ∧ (∀ i, shortIx o = some i → Out K H E "BadRows" "index" (.int (i : Nat))) ∧
  (shortIx o = none → ∀ xss : List (List V), o = some (xss.map some) → ∀ H' l ps, Same H H' → H l = none → H' l = some (.lst ps) → Tups H' ps xss → Q (.ref l) H')
theorem all_some {α : Type} : ∀ {os : List (Option α)}, (∀ (j : Nat) (o : Option α), os[j]? = some o → o.isSome = true) → ∃ xs : List α, os = xs.map some
  | [], _ => ⟨[], rfl⟩
  | o :: os, h => by
    obtain ⟨xs, e⟩ := all_some (os := os) fun j o' ho => h (j + 1) o' ho
    have := h 0 o rfl
    cases o with
    | none => cases this
    | some x => exact ⟨x :: xs, by rw [e]; rfl⟩
theorem scCheckShortRows : FnScope ["rows", "found", "index", "row"] ["rows"] (defScope sCheckShortRows) := ⟨rfl, rfl, rfl, by decide +kernel, rfl, by decide +kernel, by decide +kernel⟩
theorem pmk2 {X : Cx} {e : Expr} {t : L2.St → Hp → XK → Prop} (h : L2N.PMk X e t) : PMk X e t := fun pins s σ H Q I q => by
  refine wpAny_mono (h pins s σ H Q I q) (fun u s' x => ?_) (fun _ _ z => z)
  obtain ⟨a, oe, vs, sI, H', cls, d, e1, I', k, n1, n2, z, r⟩ := x
  exact ⟨a, oe, vs, sI, H', cls, d, e1, I', k, n1, n2, z.zc, r⟩
def tsShort (K : PySem.W.Frag) (E : XK) : Addr → Value → Option Addr → TS := fun a cls d D σ H => tMkO (He.ga K "BadRows") (spXI (He.ga K "BadRows") "index") [] (tCons (tVar 2) tNil) σ H fun cls d H' => E cls d H'
def tTryS (K : PySem.W.Frag) (E : XK) : TS := fun D σ H => tDrop (tBM K "list" rAppend (tVar 1) (tCons (tCallSD (spRow K) [] (WE (wOnly K (.ref (He.ga K "BadRow")) (tsShort K E) (fun cls d _ H => E cls d H) D)) (tCons (tVar 3) (tCons (tC (.int 12)) tNil))) tNil)) D σ H
def mkOut (K : PySem.W.Frag) (H : Hp) (E : XK) : Prop := tMkO (He.ga K "BadRows") (spXI (He.ga K "BadRows") "index") [] (tCons (tC (.int 0)) tNil) [] H fun cls d H' => E cls d H'
theorem good_short (T : Txt K mg) : Good P w K mg base (L2.CX P w) 4 "check_short_rows" ["rows"] [] (spShort K) := by
  have G_check_row := good_row (P := P) (w := w) (base := base) T
  refine goodX T.d_check_short_rows T.g_check_short_rows scCheckShortRows (fun _ _ _ _ _ _ us hl => match us, hl with | [_], _ => rfl) (fun vs H Q E h => ?_) (fun cdv A outer s H vs Q E hr h => ?_)
  · obtain ⟨v, _, rfl, _⟩ := h
    rfl
  · obtain ⟨v, o, rfl, gv, k1, k2⟩ := h
    refine ⟨_, (pss_cons
    (ps_if (PW.pt (pw_or (pt_not (pt_val (pe_callB call_isiT (by rfl) T.n_isinstance (by decide +kernel) (pa_cons (pv 0) (pa_cons (pe_tup (pa_cons (pe_bltn rfl T.n_list (v := .ty "list") (u := .type "list") (by decide +kernel) rfl) (pa_cons (pe_bltn rfl T.n_tuple (v := .ty "tuple") (u := .type "tuple") (by decide +kernel) rfl) pa_nil))) pa_nil))))) (pw_or1 (pt_not (pt_chain op_le op_le (pe_int) (pe_callB call_len_seq (by rfl) T.n_len PySem.boot_len (pa_cons (pv 0) pa_nil)) (pe_const T.c_MOST_SHORT_ROWS rfl)))))) (pss_one
      (ps_raise rfl (takes_of rfl rfl rfl rfl) (pmk2 (pmk_x (f := "index") T.o_BadRows (x_BadRows T) (hr.mono (by decide)) rfl (pa_cons (pe_int) pa_nil))))) pss_nil)
    (pss_cons
    (ps_set (i := 1) scCheckShortRows.nd rfl (Or.inl rfl) (pe_lst pa_nil))
    (pss_cons
    (ps_for (passes_of rfl) rfl (pi_enumA rfl T.n_enumerate (pa_cons (pv 0) pa_nil)) (pg_tup rfl (pgs_cons (pg_name (i := 2) scCheckShortRows.nd rfl (Or.inl rfl)) (pgs_cons (pg_name (i := 3) scCheckShortRows.nd rfl (Or.inl rfl)) pgs_nil))) (pss_one
      (show PS _ _ (tTryS K E) from L2H.ps_try_onlyX (tb := fun W => tDrop (tBM K "list" rAppend (tVar 1) (tCons (tCallSD (spRow K) [] (WE W) (tCons (tVar 3) (tCons (tC (.int 12)) tNil))) tNil))) (ts := tsShort K E) rfl rfl ⟨rfl, by decide, Or.inl T.g_BadRow⟩ (L2H.passesAt_of rfl) (takes_of rfl rfl rfl rfl) (fun W pn xe tkN tk2 po => pss_one (by exact (ps_expr (pe_bm PySem.F.plainAttrs_list PySem.F.slot_list_append PySem.F.type_list_append mt_append (pv 1) (pa_cons (pe_goS (E := WE W) G_check_row hr (by decide) rfl (fun σ => L2N.passAt tkN σ) (pa_cons (pv 3) (pa_cons (pe_const T.c_LONGEST_SHORT_ROW rfl) pa_nil))) pa_nil))))) (fun a oe cls d pn hz hf tk hot => pss_one (L2H.ps_raiseHN hot tk (pmk_xH (f := "index") T.o_BadRows (x_BadRows T) (L2H.roomH_mark (hr.mono (by decide)) _) hot rfl (pa_cons (pv 2) pa_nil)))))))
    (pss_one
    (ps_ret (pv 1)))))), ?_⟩
    have hy : ∀ p, H p = none → ∃ ty, TyX K (upd H p (.tup [.ty "list", .ty "tuple"])) v ty ∧ PySem.W.kitAny K ty [.type "list", .type "tuple"] = some o.isSome := fun p hp => by
      cases gv with
      | no h => exact (h.same (Same.new hp)).ty
      | rows h l t => exact (h.same (Same.new hp)).ty
    refine ⟨_, rfl, (by rw [sizeLine_eq]; decide), fun p hp => ?_⟩
    obtain ⟨ty, h1, h2⟩ := hy p hp
    have s1 : Same H (upd H p (.tup [.ty "list", .ty "tuple"])) := Same.new hp
    refine ⟨_, p, _, ty, _, _, rfl, upd_same, .cons (.ty _) (.cons (.ty _) .nil), h1, h2, _, rfl, ?_⟩
    generalize upd H p (.tup [.ty "list", .ty "tuple"]) = H1 at s1
    cases gv with
    | no h =>
      refine iteT' rfl (iteT' rfl ?_)
      exact mkO_is ⟨_, rfl, fun d hd => k1 0 rfl _ d (Same.nw s1 hd) upd_same⟩ (fun Q1 Q2 m q => m _ _ q)
    | @rows a xs os h l t hz =>
      refine iteF' rfl ⟨_, rfl, a, xs, rfl, (h.same s1).sq, _, _, rfl, rfl, _, rfl, ?_⟩
      have bad : shortIx (some os) = some 0 → mkOut K H1 E := fun e => mkO_is ⟨_, rfl, fun d hd => k1 0 e _ d (Same.nw s1 hd) upd_same⟩ (fun Q1 Q2 m q => m _ _ q)
      by_cases c0 : os.length = 0
      · refine iteF' (decide_eq_false (by omega)) ⟨_, rfl, ?_⟩
        exact iteT' rfl (bad (if_pos (.inl c0)))
      refine iteT' (decide_eq_true (by omega)) ⟨_, _, rfl, rfl, _, rfl, ?_⟩
      by_cases c : 3 < os.length
      · exact iteT' (by rw [decide_eq_false (by omega)]; rfl) (bad (if_pos (.inr c)))
      refine iteF' (by rw [decide_eq_true (by omega)]; rfl) ?_
      have e0 : shortIx (some os) = badRowAt os := if_neg (by omega)
      refine ⟨Nat.zero_le _, fun f hf => ?_⟩
      have s2 : Same H (upd H1 f (.lst [])) := Same.nw s1 hf
      have h1' : ∀ o, upd H1 f (.lst []) a = some o → H a = some o := fun o ho => by
        rcases h with q | q
        · have := Same.nw (o := .lst []) s1 hf _ _ q
          exact q.trans (this.symm.trans ho)
        · have := Same.nw (o := .lst []) s1 hf _ _ q
          exact q.trans (this.symm.trans ho)
      refine ⟨_, rfl, a, xs, rfl, for_enumA (xs := xs) (h.same s2) (fun i σ' H' => ∃ u v ps xss, σ' = [some (.ref a), some (.ref f), u, v] ∧ Same H H' ∧ GoodTo os i ∧ H' f = some (.lst ps) ∧ H f = none ∧ Tups H' ps xss ∧ xss.map some = os.take i)
        ⟨none, none, [], [], rfl, s2, fun j v hj => absurd hj (Nat.not_lt_zero _), upd_same, s1.free hf, ⟨rfl, fun j p xs h1 => by cases h1⟩, rfl⟩ ?_ ?_ ?_⟩
      · rintro i σ' H' ⟨u, v, ps, xss, rfl, s3, ok, hf', hfn, tp, e⟩ o ho
        exact s3 a o (h1' o ho)
      · rintro i x σ' H' T' hx ⟨u, v, ps, xss, rfl, s3, ok, hf', hfn, tp, e⟩ hT
        have hi : i < os.length := by rw [← l]; exact lt_of_get hx
        have hio : os[i]? = some os[i] := List.getElem?_eq_getElem hi
        have s4 : Same H (upd H' T' (.tup [.int (i : Nat), x])) := Same.nw s3 hT
        have hfT : upd H' T' (.tup [.int (i : Nat), x]) f = some (.lst ps) := by rw [upd_ne (ne_of_none hf' hT)]; exact hf'
        refine ⟨T', _, rfl, SqT.of upd_same, rfl, _, _, rfl, _, _, rfl, rfl, ⟨_, rfl, .inl ⟨rfl, _, SqL.of hfT⟩, _, rfl, x, os[i], 12, rfl, (t i x _ hx hio).same s4, fun m hm => ?_, fun hno xs' hxs => ?_⟩⟩
        · intro H5 d s5 hd
          refine ⟨true, T.x_BadRow_BadRow, fun _ a' ha' => ?_, fun z => by cases z⟩
          exact mkO_is ⟨_, rfl, _, rfl, fun d' hd' => k1 i (e0.trans (badRowAt_some ok hio hm)) _ d' (Same.nw (s4.trans s5) hd') upd_same⟩ (fun Q1 Q2 m ⟨v, e, q⟩ => ⟨v, e, m _ _ q⟩)
        · intro H5 p s5 hp5
          have hf5 := s5 _ _ hfT
          refine ⟨f, ps, _, rfl, rfl, hf5, ?_, _, _, ps ++ [.ref p], xss ++ [xs'], rfl, ?_, ?_, upd_same, hfn, ?_, ?_⟩
          · have : ps.length ≤ os.length := by
              have := congrArg List.length e
              rw [List.length_map, List.length_take] at this
              rw [tp.1]
              omega
            exact smallLine (by omega)
          · exact Same.out (s4.trans s5) hfn
          · intro j o hj ho
            rcases Nat.lt_succ_iff_lt_or_eq.mp hj with q | q
            · exact ok j o q ho
            · subst q
              rw [hio] at ho
              cases ho
              exact hno
          · have tp5 : Tups H5 ps xss := (tp.same (Same.new hT)).same s5
            have keep : ∀ b xs, H5 b = some (.tup xs) → upd H5 f (.lst (ps ++ [.ref p])) b = some (.tup xs) := fun b xs hb => by
              rw [upd_ne]
              · exact hb
              · intro eb
                rw [eb, hf5] at hb
                cases hb
            have tp6 : Tups (upd H5 f (.lst (ps ++ [.ref p]))) ps xss := ⟨tp5.1, fun j q xs h1 h2 => by
              obtain ⟨b, eb, hb⟩ := tp5.2 j q xs h1 h2
              exact ⟨b, eb, keep b xs hb⟩⟩
            exact tp6.snoc (keep p _ hp5)
          · rw [List.map_append, e, take_more hio, hxs]
            rfl
      · rintro σ' H' ⟨u, v, ps, xss, rfl, s3, ok, hf', hfn, tp, e⟩
        rw [l, List.take_length] at e
        rw [l] at ok
        exact ⟨_, rfl, k2 (e0.trans (badRowAt_none ok)) xss (by rw [e]) _ _ ps s3 hfn hf' tp⟩
end
end K21
end
section
set_option Elab.async false
set_option linter.all false
set_option maxRecDepth 100000
set_option maxHeartbeats 4000000
/-! walks 5: places_within, without_head, parting_step -/
namespace K21
open PySem PySem.Spec PyProof.Rows L2
section
variable {P : Program} {w : World} {K : PySem.W.Frag} {mg : Str → Option Value} {base : Heap}
theorem scPlacesWithin : FnScope ["row", "within", "found", "place", "tone"] ["row", "within"] (defScope sPlacesWithin) := ⟨rfl, rfl, rfl, by decide +kernel, rfl, by decide +kernel, by decide +kernel⟩
def spPlaces : Sp := fun vs H Q _ => ∃ (a b : Addr) (ns ms : List Int), vs = [.ref a, .ref b] ∧ H a = some (.tup (iv ns)) ∧ H b = some (.tup (iv ms)) ∧ ns.length ≤ 1000 ∧
  (ns.Sublist ms → ∀ H' p, Same H H' → Q (.ref p) H') ∧ (¬ ns.Sublist ms → ∀ H', Same H H' → Q .non H')
theorem good_places (T : Txt K mg) : Good P w K mg base CX0 1 "places_within" ["row", "within"] [] spPlaces := by
  refine good0 T.d_places_within T.g_places_within scPlacesWithin (fun _ _ _ _ _ _ us hl => match us, hl with | [_, _], _ => rfl) (fun vs H Q E h => ?_) (fun cdv A outer s H vs Q E hr h => ?_)
  · obtain ⟨a, b, ns, ms, rfl, _⟩ := h
    rfl
  · obtain ⟨a, b, ns, ms, rfl, ha, hb, hl, k1, k2⟩ := h
    refine ⟨_, (pss_cons
    (ps_set (i := 2) scPlacesWithin.nd rfl (Or.inl rfl) (pe_lst pa_nil))
    (pss_cons
    (ps_set (i := 3) scPlacesWithin.nd rfl (Or.inl rfl) (pe_int))
    (pss_cons
    (ps_for PassesOwn.never rfl (pi_tup (pv 0)) (pg_name (i := 4) scPlacesWithin.nd rfl (Or.inl rfl)) (pss_cons
      (ps_while PassesOwn.never (PW.pt (pw_and (pt_cmpR op_lt (pv 3) (pe_callB call_len_seq (by rfl) T.n_len PySem.boot_len (pa_cons (pv 1) pa_nil)) (nomark _)) (pw_and1 (pt_cmpR op_ne (pe_ix ix_tup (pv 1) (pv 3) (fun _ _ => rfl)) (pv 4) (nomark _))))) (pss_one
        (ps_aug (i := 3) scPlacesWithin.nd rfl (Or.inl rfl) (pe_int) ip_add)))
      (pss_cons
      (ps_if (pt_cmpR op_eq (pv 3) (pe_callB call_len_seq (by rfl) T.n_len PySem.boot_len (pa_cons (pv 1) pa_nil)) (nomark _)) (pss_one
        (ps_ret (pe_non))) pss_nil)
      (pss_cons
      (ps_expr (pe_bm PySem.F.plainAttrs_list PySem.F.slot_list_append PySem.F.type_list_append mt_append (pv 2) (pa_cons (pv 3) pa_nil)))
      (pss_one
      (ps_aug (i := 3) scPlacesWithin.nd rfl (Or.inl rfl) (pe_int) ip_add))))))
    (pss_one
    (ps_ret (pe_callTy call_tuple_of (by rfl) T.n_tuple (by decide +kernel) (pa_cons (pv 2) pa_nil))))))), ?_⟩
    refine ⟨Nat.zero_le _, fun f hf => ?_⟩
    refine ⟨_, rfl, a, rfl, ⟨_, SqT.of (Same.new hf _ _ ha)⟩, for_tup (xs := iv ns) (fun i σ H' => ∃ (pl : Nat) (v : Option V) (ps : List V), σ = [some (.ref a), some (.ref b), some (.ref f), some (.int (pl : Nat)), v] ∧ Same H H' ∧ H' f = some (.lst ps) ∧ ps.length ≤ i ∧ pl ≤ ms.length ∧ pos ms 0 (ns.take i) = pl)
      ⟨0, none, [], rfl, Same.new hf, upd_same, Nat.zero_le _, Nat.zero_le _, rfl⟩ (fun i σ H' _ ⟨_, _, _, _, s5, _⟩ => SqT.of (s5 _ _ ha)) ?_ ?_⟩
    · rintro i y σ H' hi ⟨pl, v, ps, rfl, s5, hf', hps, hpl, hpos⟩
      obtain ⟨z, hz, rfl⟩ := iv_get hi
      have hin := take_more hz
      have hi2 := lt_of_get hz
      have hnext : pos ms 0 (ns.take (i + 1)) = adv ms pl z := by rw [hin, pos_app, hpos]; rfl
      have hsub : pos ms 0 ns = pos ms (pos ms 0 (ns.take (i + 1))) (ns.drop (i + 1)) := by rw [← pos_app, List.take_append_drop]
      have hb' := s5 _ _ hb
      refine ⟨fun m σ H2 => ∃ p : Nat, σ = [some (.ref a), some (.ref b), some (.ref f), some (.int (p : Nat)), some (.int z)] ∧ H2 = H' ∧ pl ≤ p ∧ p ≤ ms.length ∧ (∀ j, pl ≤ j → j < p → ms[j]? ≠ some z) ∧ m = ms.length - p,
        ⟨_, pl, rfl, rfl, Nat.le_refl _, hpl, fun j h1 h2 => absurd h2 (by omega), rfl⟩, ?_⟩
      rintro m σ H2 ⟨p, rfl, rfl, h1, h2, h3, rfl⟩
      -- the end of the inner loop
      have leave : (p = ms.length ∨ ms[p]? = some z) → tSeq (tIfS (tTest (tOp rEq (tVar 3) (tCB (fun xs H Q => ∃ p ys, xs = [.ref p] ∧ (SqL K H p ys ∨ SqT K H p ys) ∧ Q (.int ys.length) H) (tCons (tVar 1) tNil)))) (tRet (tC .non)) tNext)
          (tSeq (tDrop (tBM K "list" rAppend (tVar 2) (tCons (tVar 3) tNil))) (tAug 3 (tC (.int 1)) (ipI fun i j => i + j)))
          { nx := fun σ H' => ∃ (pl : Nat) (v : Option V) (ps : List V), σ = [some (.ref a), some (.ref b), some (.ref f), some (.int (pl : Nat)), v] ∧ Same H H' ∧ H' f = some (.lst ps) ∧ ps.length ≤ i + 1 ∧ pl ≤ ms.length ∧ pos ms 0 (ns.take (i + 1)) = pl, rt := Q }
          [some (.ref a), some (.ref b), some (.ref f), some (.int (p : Nat)), some (.int z)] H2 := fun stop => by
        refine ⟨_, rfl, _, rfl, b, _, rfl, .inr (SqT.of hb'), rfl, _, rfl, ?_⟩
        rw [iv_len]
        by_cases c : p = ms.length
        · refine iteT' (by simp [c]) (k2 (fun z' => (pos0_iff ms ns).mpr z' ?_) _ s5)
          rw [hsub, hnext, adv_none, pos_gone]
          intro j hj e
          by_cases hjp : j < p
          · exact h3 j hj hjp e
          · have := lt_of_get e
            omega
        · have e := stop.resolve_left c
          refine iteF' (by simp; omega) ⟨_, rfl, .inl ⟨rfl, _, SqL.of hf'⟩, _, rfl, f, ps, _, rfl, rfl, hf', smallLine (by omega), _, rfl, _, _, rfl, rfl, p + 1, _, _, rfl, Same.out s5 hf, upd_same, ?_, ?_, ?_⟩
          · rw [List.length_append]
            exact Nat.succ_le_succ hps
          · have := lt_of_get e
            omega
          · rw [hnext]
            exact adv_is h1 e h3
      refine ⟨_, rfl, _, rfl, b, _, rfl, .inr (SqT.of hb'), _, _, rfl, rfl, _, rfl, ?_⟩
      rw [iv_len]
      by_cases c : p = ms.length
      · refine iteF' (decide_eq_false (by omega)) ?_
        exact leave (.inl c)
      · have hp : p < ms.length := by omega
        refine iteT' (decide_eq_true (by omega)) ?_
        obtain ⟨u, hu⟩ : ∃ u, ms[p]? = some u := ⟨_, List.getElem?_eq_getElem hp⟩
        refine ⟨_, rfl, _, rfl, b, _, p, .int u, rfl, rfl, SqT.of hb', atI_nat (iv_at hu), _, rfl, rfl, _, rfl, ?_⟩
        by_cases d : u = z
        · subst d
          refine iteF' (by simp) ?_
          exact leave (.inr hu)
        · refine iteT' (by simp [d]) ⟨fun σ' H3 => ∃ q : Nat, σ' = [some (.ref a), some (.ref b), some (.ref f), some (.int (q : Nat)), some (.int z)] ∧ H3 = H2 ∧ q = p + 1, ?_, _, rfl, _, _, rfl, rfl, p + 1, rfl, rfl, rfl⟩
          rintro σ' H3 ⟨q, rfl, rfl, rfl⟩
          refine ⟨ms.length - (p + 1), by omega, p + 1, rfl, rfl, by omega, by omega, fun j h4 h5 e => ?_, rfl⟩
          rcases Nat.lt_succ_iff_lt_or_eq.mp h5 with q | q
          · exact h3 j h4 q e
          · subst q
            rw [hu] at e
            exact d (Option.some.inj e)
    · rintro σ H' ⟨pl, v, ps, rfl, s5, hf', hps, hpl, hpos⟩
      rw [iv_len, List.take_length] at hpos
      refine ⟨_, rfl, f, _, rfl, .inl ⟨SqL.of hf', fun p hp => k1 ?_ _ p (Same.nw s5 hp)⟩⟩
      refine (pos0_iff ms ns).mp ?_
      rw [hpos]
      unfold gone
      omega
end
end K21
end
section
set_option Elab.async false
set_option linter.all false
set_option maxRecDepth 100000
set_option maxHeartbeats 4000000
/-! walks 6: without_head, parting_step, next_places -/
namespace K21
open PySem PySem.Spec PyProof.Rows L2
def hv : Option Int → V
  | none => .non
  | some x => .int x
theorem cut_tail (xs : List V) : cutV xs (some 1) none = xs.tail := by
  unfold cutV
  have e : HT.sIx xs.length 0 (some 1) = min 1 xs.length := HT.sIx_nat _ _ 1
  rw [e, HT.sIx_none]
  cases xs with
  | nil => rfl
  | cons x r => simp
theorem cut_take (xs : List V) (n : Nat) : cutV xs none (some (n : Int)) = xs.take n := by
  unfold cutV
  rw [HT.sIx_none, HT.sIx_nat, List.drop_zero, Nat.sub_zero]
  by_cases h : n ≤ xs.length
  · rw [Nat.min_eq_left h]
  · rw [Nat.min_eq_right (by omega), List.take_length, List.take_of_length_le (by omega)]
theorem cut_one (xs : List V) (n : Nat) : cutV xs (some (n : Int)) (some ((n : Int) + 1)) = (xs.drop n).take 1 := by
  unfold cutV
  have e : ((n : Int) + 1) = ((n + 1 : Nat) : Int) := rfl
  rw [e, HT.sIx_nat, HT.sIx_nat]
  by_cases h : n < xs.length
  · rw [Nat.min_eq_left (by omega), Nat.min_eq_left (by omega)]
    congr 1
    omega
  · rw [Nat.min_eq_right (by omega), Nat.min_eq_right (by omega), List.drop_of_length_le (Nat.le_refl _), List.drop_of_length_le (by omega)]
    simp
theorem adv_step {ns : List Int} {p : Nat} {z : Int} (h : ns[p]? = some z) (t : Int) : adv ns p t = if t = z then p + 1 else adv ns (p + 1) t := by
  by_cases c : t = z
  · rw [if_pos c, c]
    exact adv_is (Nat.le_refl _) h (fun j h1 h2 => absurd h2 (by omega))
  · rw [if_neg c]
    have hp : ns[p]? ≠ some t := fun e => by
      rw [h] at e
      exact c (Option.some.inj e).symm
    by_cases q : nxt ns (p + 1) t < ns.length
    · obtain ⟨h1, h2, h3⟩ := nxt_lt q
      rw [show adv ns (p + 1) t = nxt ns (p + 1) t + 1 from if_pos q]
      refine adv_is (by omega) h1 fun j h4 h5 => ?_
      by_cases e : j = p
      · rw [e]
        exact hp
      · exact h3 j (by omega) h5
    · rw [show adv ns (p + 1) t = gone ns from if_neg q]
      refine adv_none fun j h4 => ?_
      by_cases e : j = p
      · rw [e]
        exact hp
      · exact nxt_ge q j (by omega)
theorem adv_end {ns : List Int} {p : Nat} (h : ns.length ≤ p) (t : Int) : adv ns p t = gone ns := adv_none fun j h1 e => by
  have := lt_of_get e
  omega
section
variable {P : Program} {w : World} {K : PySem.W.Frag} {mg : Str → Option Value} {base : Heap}
theorem scWithoutHead : FnScope ["row", "first", "kept"] ["row", "first"] (defScope sWithoutHead) := ⟨rfl, rfl, rfl, by decide +kernel, rfl, by decide +kernel, by decide +kernel⟩
def spWithout : Sp := fun vs H Q _ => ∃ (a : Addr) (ns : List Int) (f : Option Int), vs = [.ref a, hv f] ∧ H a = some (.tup (iv ns)) ∧ ns.length ≤ 1000 ∧
  ∀ H' p, Same H H' → H' p = some (.tup (iv (strip f ns))) → Q (.ref p) H'
theorem good_without (T : Txt K mg) : Good P w K mg base CX0 2 "without_head" ["row", "first"] [] spWithout := by
  have G_strike_equal := good_strike (P := P) (w := w) (base := base) T
  refine good0 T.d_without_head T.g_without_head scWithoutHead (fun _ _ _ _ _ _ us hl => match us, hl with | [_, _], _ => rfl) (fun vs H Q E h => ?_) (fun cdv A outer s H vs Q E hr h => ?_)
  · obtain ⟨a, ns, f, rfl, _⟩ := h
    rfl
  · obtain ⟨a, ns, f, rfl, ha, hl, k⟩ := h
    refine ⟨_, (pss_cons
    (ps_set (i := 2) scWithoutHead.nd rfl (Or.inl rfl) (pe_go G_strike_equal hr (by decide) rfl (pa_cons (pv 0) pa_nil)))
    (pss_cons
    (ps_if (PW.pt (pw_and (pt_cmpR op_notN (pv 1) (pe_non) (nomark _)) (pw_and (pt_truth (pv 2) (fun _ => rfl)) (pw_and1 (pt_cmpR op_eq (pe_ix ix_tup (pv 2) (pe_int) (fun _ _ => rfl)) (pv 1) (nomark _)))))) (pss_one
      (ps_ret (pe_slice sl_tupA (pv 2) (po_some (pe_int)) po_none))) pss_nil)
    (pss_one
    (ps_ret (pv 2))))), ?_⟩
    refine ⟨_, rfl, a, ns, rfl, ha, hl, fun H1 p s1 hn hp => ?_⟩
    cases f with
    | none => exact ⟨_, rfl, rfl, _, rfl, iteF' rfl ⟨_, rfl, k _ p s1 (by rw [strip_none]; exact hp)⟩⟩
    | some f =>
      refine ⟨_, rfl, rfl, _, rfl, iteT' rfl ⟨_, rfl, _, .inr (.inl ⟨_, SqT.of hp, rfl⟩), ?_⟩⟩
      cases e : strike ns with
      | nil =>
        refine iteF' rfl ⟨_, rfl, k _ p s1 ?_⟩
        rw [hp, e, strip, e]
        rw [if_neg (fun z => by cases z.2)]
      | cons x r =>
        rw [e] at hp
        refine iteT' rfl ⟨_, rfl, p, _, 0, .int x, rfl, rfl, SqT.of hp, atI_nat (j := 0) rfl, _, rfl, rfl, _, rfl, ?_⟩
        by_cases d : x = f
        · subst d
          refine iteT' (by simp [hv]) ⟨_, rfl, 1, rfl, p, _, rfl, SqT.of hp, fun z => ?_, fun _ p2 hp2 => k _ p2 (Same.nw s1 hp2) ?_⟩
          · have z1 := z.1
            rw [show HT.sIx (iv (x :: r)).length 0 (some 1) = min 1 (iv (x :: r)).length from HT.sIx_nat _ _ 1] at z1
            rw [iv_len] at z1
            simp at z1
          · rw [upd_same, cut_tail, strip, e, if_pos ⟨by simp, rfl⟩]
            rfl
        · refine iteF' (by simp [hv, d]) ⟨_, rfl, k _ p s1 ?_⟩
          rw [hp, strip, e, if_neg]
          intro z
          exact d (Option.some.inj z.2)
theorem scPartingStep : FnScope ["places", "gone", "either"] ["places", "gone", "either"] (defScope sPartingStep) := ⟨rfl, rfl, rfl, by decide +kernel, rfl, by decide +kernel, by decide +kernel⟩
def spParting : Sp := fun vs H Q _ => ∃ (a b : Addr) (p0 p1 g0 g1 : Int), vs = [.ref a, .ref b, .bl false] ∧ H a = some (.tup [.int p0, .int p1]) ∧ H b = some (.tup [.int g0, .int g1]) ∧ Q (.bl (!decide (p0 = g0) && decide (p1 = g1))) H
theorem good_parting (T : Txt K mg) : Good P w K mg base CX0 1 "parting_step" ["places", "gone", "either"] [] spParting := by
  refine good0 T.d_parting_step T.g_parting_step scPartingStep (fun _ _ _ _ _ _ us hl => match us, hl with | [_, _, _], _ => rfl) (fun vs H Q E h => ?_) (fun cdv A outer s H vs Q E hr h => ?_)
  · obtain ⟨a, b, _, _, _, _, rfl, _⟩ := h
    rfl
  · obtain ⟨a, b, p0, p1, g0, g1, rfl, ha, hb, k⟩ := h
    refine ⟨_, (pss_cons
    (ps_if (PW.pt (pw_and (pt_cmpR op_ne (pe_ix ix_tup (pv 0) (pe_int) (fun _ _ => rfl)) (pe_ix ix_tup (pv 1) (pe_int) (fun _ _ => rfl)) (nomark _)) (pw_and1 (pt_cmpR op_eq (pe_ix ix_tup (pv 0) (pe_int) (fun _ _ => rfl)) (pe_ix ix_tup (pv 1) (pe_int) (fun _ _ => rfl)) (nomark _))))) (pss_one
      (ps_ret (pe_bl))) pss_nil)
    (pss_one
    (ps_ret ((pe_and (pv 2) (pe_and (pe_cmpR op_eq (pe_ix ix_tup (pv 0) (pe_int) (fun _ _ => rfl)) (pe_ix ix_tup (pv 1) (pe_int) (fun _ _ => rfl)) (nomark _)) (pe_one (pe_cmpR op_ne (pe_ix ix_tup (pv 0) (pe_int) (fun _ _ => rfl)) (pe_ix ix_tup (pv 1) (pe_int) (fun _ _ => rfl)) (nomark _))))))))), ?_⟩
    refine ⟨_, rfl, a, _, 0, .int p0, rfl, rfl, SqT.of ha, atI_nat (j := 0) rfl, _, rfl, b, _, 0, .int g0, rfl, rfl, SqT.of hb, atI_nat (j := 0) rfl, rfl, _, rfl, ?_⟩
    by_cases c : p0 = g0
    · subst c
      refine iteF' (by simp) ⟨_, rfl, _, rfl, iteF' rfl ?_⟩
      simpa using k
    · refine iteT' (by simp [c]) ⟨_, rfl, a, _, 1, .int p1, rfl, rfl, SqT.of ha, atI_nat (j := 1) rfl, _, rfl, b, _, 1, .int g1, rfl, rfl, SqT.of hb, atI_nat (j := 1) rfl, rfl, _, rfl, ?_⟩
      by_cases d : p1 = g1
      · subst d
        have k' : Q (.bl true) H := by simpa [c] using k
        exact iteT' (by simp) k'
      · refine iteF' (by simp [d]) ⟨_, rfl, _, rfl, iteF' rfl ?_⟩
        simpa [d] using k
theorem scNextPlaces : FnScope ["row", "found", "place", "here", "k"] ["row"] (defScope sNextPlaces) := ⟨rfl, rfl, rfl, by decide +kernel, rfl, by decide +kernel, by decide +kernel⟩
/-- the table of next places of ns -/
def Nxs (H : Hp) (ds : List V) (ns : List Int) : Prop := ds.length = ns.length + 2 ∧ ∀ p, p ≤ ns.length + 1 → ∃ d kvs, ds[p]? = some (.ref d) ∧ H d = some (.dK kvs) ∧ ∀ t, valV kvs (.inl t) = if adv ns p t = gone ns then none else some (.int (adv ns p t : Nat))
def spNexts : Sp := fun vs H Q _ => ∃ (a : Addr) (ns : List Int), vs = [.ref a] ∧ H a = some (.tup (iv ns)) ∧ ns.length ≤ 1000 ∧
  ∀ H' l ds, Same H H' → H l = none → H' l = some (.lst ds) → Nxs H' ds ns → Q (.ref l) H'
theorem good_nexts (T : Txt K mg) : Good P w K mg base CX0 1 "next_places" ["row"] [] spNexts := by
  refine good0 T.d_next_places T.g_next_places scNextPlaces (fun _ _ _ _ _ _ us hl => match us, hl with | [_], _ => rfl) (fun vs H Q E h => ?_) (fun cdv A outer s H vs Q E hr h => ?_)
  · obtain ⟨a, ns, rfl, _⟩ := h
    rfl
  · obtain ⟨a, ns, rfl, ha, hl, k⟩ := h
    refine ⟨_, (pss_cons
    (ps_setLc (i := 1) (own := [("k", 4)]) rfl scNextPlaces.nd rfl rfl (sw_true rfl rfl rfl (by decide +kernel)) (pi_range1 rfl T.n_range (pa_cons (pe_op op_add (pe_callB call_len_seq (by rfl) T.n_len PySem.boot_len (pa_cons (pv 0) pa_nil)) (pe_int)) pa_nil)) (blkOk_by (N := ["row", "found", "place", "here", "k"]) (sc := defScope sNextPlaces) (by decide +kernel)) (fun _ _ _ _ _ => (pg_name (i := 4) scNextPlaces.nd rfl (Or.inl rfl))) (fun _ _ _ _ _ => pts_nil) (fun _ _ _ _ _ => (pe_dnewK)))
    (pss_cons
    (ps_for PassesOwn.never rfl (pi_revR rfl T.n_reversed (prg_1 rfl T.n_range (pe_callB call_len_seq (by rfl) T.n_len PySem.boot_len (pa_cons (pv 0) pa_nil)))) (pg_name (i := 2) scNextPlaces.nd rfl (Or.inl rfl)) (pss_cons
      (ps_set (i := 3) scNextPlaces.nd rfl (Or.inl rfl) (pe_callTy call_dictC (by rfl) T.n_dict (by decide +kernel) (pa_cons (pe_ix ix_list (pv 1) (pe_op op_add (pv 2) (pe_int)) (fun _ _ => rfl)) pa_nil)))
      (pss_cons
      (ps_dput (hu_of hr) (pv 3) (pe_ix ix_tup (pv 0) (pv 2) (fun _ _ => rfl)) (pe_op op_add (pv 2) (pe_int)) rfl)
      (pss_one
      (ps_asg (pv 3) (pg_sub (pv 1) (pv 2) set_list))))))
    (pss_one
    (ps_ret (pv 1))))), ?_⟩
    have big : (ns.length : Int) + 2 < 2 ^ 62 := by omega
    refine ⟨_, rfl, a, _, rfl, .inr (SqT.of ha), _, _, rfl, rfl, _, rfl, by rw [iv_len]; omega, by rw [iv_len]; omega, fun D hD => ?_⟩
    refine lc_range (fun i H' => Same H H' ∧ i ≤ ns.length + 2 ∧ ∃ ds : List V, H' D = some (.lst ds) ∧ ds.length = i ∧ ∀ (j : Nat) (x : V), ds[j]? = some x → ∃ d, x = .ref d ∧ H' d = some (.dK []))
      ⟨Same.new hD, Nat.zero_le _, [], upd_same, rfl, fun j x e => by cases e⟩ ?_ ?_
    · rintro i H' hi ⟨s1, hi2, ds, hds, hl2, hd⟩
      refine ⟨rfl, fun p hp => ⟨ds, by rw [upd_ne (ne_of_none hds hp)]; exact hds, smallLine (by omega), Same.out (Same.nw s1 hp) hD, ?_, ds ++ [V.ref p], upd_same, by rw [List.length_append, hl2]; rfl, fun j x e => ?_⟩⟩
      · rw [iv_len] at hi
        omega
      · by_cases c : j < ds.length
        · rw [List.getElem?_append_left c] at e
          obtain ⟨d, rfl, h⟩ := hd j x e
          refine ⟨d, rfl, ?_⟩
          rw [upd_ne, upd_ne (ne_of_none h hp)]
          · exact h
          · intro z
            rw [z, hds] at h
            cases h
        · rw [List.getElem?_append_right (by omega)] at e
          have := lt_of_get e
          have e0 : j - ds.length = 0 := by simp at this; omega
          rw [e0] at e
          cases e
          refine ⟨p, rfl, ?_⟩
          rw [upd_ne, upd_same]
          intro z
          rw [z, hds] at hp
          cases hp
    rintro H1 ⟨s1, _, ds, hds, hl1, hd⟩
    have hl2 : ds.length = ns.length + 2 := by rw [hl1, iv_len]; omega
    refine ⟨_, rfl, a, _, rfl, .inr (SqT.of (s1 _ _ ha)), _, rfl, by omega, by omega, by rw [iv_len]; omega, by rw [iv_len]; omega, ?_⟩
    refine for_it walk_rangeC (fun i σ H' => ∃ (u v : Option V) (ds : List V), σ = [some (.ref a), some (.ref D), u, v, none] ∧ Same H H' ∧ H' D = some (.lst ds) ∧ ds.length = ns.length + 2 ∧
      ∀ p, p ≤ ns.length + 1 → ∃ d kvs, ds[p]? = some (.ref d) ∧ H' d = some (.dK kvs) ∧ kvs.length ≤ i ∧ (ns.length ≤ p + i → ∀ t, valV kvs (.inl t) = if adv ns p t = gone ns then none else some (.int (adv ns p t : Nat))))
      ⟨none, none, ds, rfl, s1, hds, hl2, fun p hp => ?_⟩ (fun _ _ _ _ _ => trivial) ?_ ?_
    · obtain ⟨d, e, h⟩ := hd p ds[p] (List.getElem?_eq_getElem (by omega))
      refine ⟨d, [], by rw [List.getElem?_eq_getElem (by omega), e], h, Nat.le_refl _, fun hp2 t => ?_⟩
      rw [adv_end (by omega), if_pos rfl]
      rfl
    · rintro i x σ H' H'' hi ⟨u, v, ds, rfl, s2, hds, hdl, ht⟩ ⟨rfl, hx⟩
      rw [iv_len] at hi hx
      have hi' : i < ns.length := by omega
      obtain ⟨q, hq⟩ : ∃ q : Nat, ns.length = q + 1 + i := ⟨ns.length - 1 - i, by omega⟩
      have eq : (0 : Int) + (((ns.length : Int) - 0).toNat : Int) - 1 + (i : Nat) * (-1) = ((q : Nat) : Int) := by omega
      have hx : x = .int ((q : Nat) : Int) := hx.trans (congrArg V.int eq)
      subst hx
      obtain ⟨d, kvs, h1, h2, h3, h4⟩ := ht (q + 1) (by omega)
      refine ⟨_, rfl, _, rfl, _, _, rfl, rfl, D, ds, _, .ref d, rfl, rfl, SqL.of hds, atI_nat (j := q + 1) h1, d, kvs, rfl, h2, fun p hp => ?_⟩
      have hn : ns[q]? = some ns[q] := List.getElem?_eq_getElem (by omega)
      have ha2 : upd H'' p (HO.dK kvs) a = some (.tup (iv ns)) := Same.nw s2 hp _ _ ha
      have hds2 : upd H'' p (HO.dK kvs) D = some (.lst ds) := by rw [upd_ne (ne_of_none hds hp)]; exact hds
      have hpD : D ≠ p := ne_of_none hds hp
      have hpn : H p = none := s2.free hp
      refine ⟨_, rfl, _, _, rfl, rfl, _, rfl, _, rfl, _, rfl, a, _, q, _, rfl, rfl, SqT.of ha2, atI_nat (iv_at hn), p, _, rfl, DPut.k (k := .inl ns[q]) upd_same (smallLine (by omega)), ?_⟩
      refine ⟨_, rfl, _, rfl, _, rfl, D, ds, _, q, rfl, rfl, by rw [upd_ne hpD]; exact hds2, Evl.ixN_nat (by omega), _, _, _, rfl, ?_, upd_same, by rw [List.length_set, hdl], fun j hj => ?_⟩
      · exact Same.out (Same.out (Same.nw s2 hp) hpn) hD
      · by_cases e : j = q
        · subst e
          refine ⟨p, _, by rw [List.getElem?_set_self (by omega)], by rw [upd_ne hpD.symm, upd_same], Nat.le_trans (DSub.putK_len _ _ _) (by omega), fun hq2 t => ?_⟩
          rw [valV_put, adv_step hn]
          by_cases c : t = ns[j]
          · subst c
            rw [if_pos rfl, if_pos rfl, if_neg (by unfold gone; omega)]
            simp
          · rw [if_neg (fun z => c (Sum.inl.inj z)), if_neg c]
            exact h4 (by omega) t
        · obtain ⟨d', kvs', g1, g2, g3, g4⟩ := ht j hj
          have hd2 : d' ≠ D := fun z => by rw [z, hds] at g2; cases g2
          have hd3 : d' ≠ p := ne_of_none g2 hp
          refine ⟨d', kvs', by rw [List.getElem?_set_ne (by omega)]; exact g1, by rw [upd_ne hd2, upd_ne hd3, upd_ne hd3]; exact g2, by omega, fun hq2 t => g4 (by omega) t⟩
    · rintro σ H' ⟨u, v, ds, rfl, s2, hds, hdl, ht⟩
      refine ⟨_, rfl, k _ D ds s2 hD hds ⟨hdl, fun p hp => ?_⟩⟩
      obtain ⟨d', kvs', g1, g2, g3, g4⟩ := ht p hp
      exact ⟨d', kvs', g1, g2, g4 (by rw [iv_len]; omega)⟩
end
end K21
end
section
set_option Elab.async false
set_option linter.all false
set_option maxRecDepth 100000
set_option maxHeartbeats 4000000
/-! walks 7: first_unlike -/
namespace K21
open PySem PySem.Spec PyProof.Rows L2
abbrev Cu := SU × List Int
def kf (l r : List Int) (c : Cu) (ts : List Int) : List Cu := ts.filterMap fun t => (dlu l r c.1 t).map fun s' => (s', c.2 ++ [t])
theorem kf_cons {l r : List Int} {c : Cu} {t : Int} {ts : List Int} : kf l r c (t :: ts) = (match dlu l r c.1 t with | none => [] | some s' => [(s', c.2 ++ [t])]) ++ kf l r c ts := by
  unfold kf
  rw [List.filterMap_cons]
  cases dlu l r c.1 t <;> rfl
theorem kids_kf {l r : List Int} {c : Cu} : kids (dlu l r) (symu l r) c = kf l r c (asc (l ++ r)) := rfl
theorem keptu {l r : List Int} {hd : Option Int} {c : Cu} (h : run (dlu l r) (0, 0, hd) c.2 = some c.1) : c.1.1 ≤ l.length + 1 ∧ c.1.2.1 ≤ r.length + 1 ∧ (c.2 = [] → c.1.2.2 = hd) ∧ (∀ t, c.2.getLast? = some t → c.1.2.2 = some t) := by
  obtain ⟨a, b, _, _, e⟩ := runu_to h
  refine ⟨by rw [a]; exact pos_le l c.2 (Nat.zero_le _), by rw [b]; exact pos_le r c.2 (Nat.zero_le _), fun z => ?_, fun t z => ?_⟩
  · rw [e, z]
    rfl
  · rw [e, z]
    rfl
/-- the table of the states met -/
def MetU (kvs : List (List Key × V)) (met : List SU) : Prop := kvs.length = met.length ∧ ∀ (p q : Nat) (t : Int), (valV kvs [.inl (p : Int), .inl (q : Int), .inl t]).isSome = decide ((p, q, some t) ∈ met)
theorem MetU.nil : MetU [] [] := ⟨rfl, fun p q t => rfl⟩
theorem MetU.put {kvs : List (List Key × V)} {met : List SU} (m : MetU kvs met) {p q : Nat} {t : Int} (h : (p, q, some t) ∉ met) (v : V) : MetU (putK kvs [.inl (p : Int), .inl (q : Int), .inl t] v) (met ++ [(p, q, some t)]) := by
  have e : valV kvs [.inl (p : Int), .inl (q : Int), .inl t] = none := by
    have := m.2 p q t
    rw [decide_eq_false h] at this
    exact Option.isSome_eq_false_iff.mp this |> Option.isNone_iff_eq_none.mp
  refine ⟨by rw [putK_new v e, List.length_append, List.length_append, m.1]; rfl, fun p' q' t' => ?_⟩
  rw [valV_put]
  by_cases c : (p', q', t') = (p, q, t)
  · cases c
    rw [if_pos rfl]
    symm
    exact decide_eq_true (List.mem_append_right _ (List.mem_singleton.mpr rfl))
  · rw [if_neg, m.2]
    · congr 1
      simp only [List.mem_append, List.mem_singleton, eq_iff_iff]
      refine ⟨fun z => .inl z, fun z => z.resolve_right fun z => ?_⟩
      cases z
      exact c rfl
    · intro z
      simp only [List.cons.injEq, Sum.inl.injEq, Int.natCast_inj] at z
      obtain ⟨rfl, rfl, rfl, _⟩ := z
      exact c rfl
/-- an item of a level -/
def ItU (H : Hp) (v : V) (c : Cu) : Prop := ∃ x y, v = .ref x ∧ H x = some (.tup [.int (c.1.1 : Nat), .int (c.1.2.1 : Nat), .ref y]) ∧ H y = some (.tup (iv c.2))
theorem ItU.tk {H H' : Hp} {v : V} {c : Cu} (i : ItU H v c) (t : Tk H H') : ItU H' v c := by
  obtain ⟨x, y, e, h1, h2⟩ := i
  exact ⟨x, y, e, t _ _ h1, t _ _ h2⟩
/-- what stays through all loops -/
structure FuC (H : Hp) (D1 D2 g tn : Addr) (l r : List Int) : Prop where
  s1 : ∃ ds, H D1 = some (.lst ds) ∧ Nxs H ds l
  s2 : ∃ ds, H D2 = some (.lst ds) ∧ Nxs H ds r
  hg : H g = some (.tup (iv [((gone l : Nat) : Int), ((gone r : Nat) : Int)]))
  ht : H tn = some (.lst (iv (asc (l ++ r))))
theorem Nxs.same {H H' : Hp} {ds : List V} {ns : List Int} (n : Nxs H ds ns) (s : Same H H') : Nxs H' ds ns := ⟨n.1, fun p hp => by
  obtain ⟨d, kvs, h1, h2, h3⟩ := n.2 p hp
  exact ⟨d, kvs, h1, s _ _ h2, h3⟩⟩
theorem FuC.same {H H' : Hp} {D1 D2 g tn : Addr} {l r : List Int} (c : FuC H D1 D2 g tn l r) (s : Same H H') : FuC H' D1 D2 g tn l r where
  s1 := by obtain ⟨ds, h, n⟩ := c.s1; exact ⟨ds, s _ _ h, n.same s⟩
  s2 := by obtain ⟨ds, h, n⟩ := c.s2; exact ⟨ds, s _ _ h, n.same s⟩
  hg := s _ _ c.hg
  ht := s _ _ c.ht
/-- the innermost loop at its turn j -/
def FuIn (H0 : Hp) (pre : List (Option V)) (M L F y : Addr) (vs : List V) (l r : List Int) (hd : Option Int) (d : Nat) (past level : List Cu) (c : Cu) (R : List Cu) (j : Nat) : L2.St → Hp → Prop := fun σ H' =>
  ∃ (u v x : Option V) (met : List SU) (foll don : List Cu) (kvs : List (List Key × V)) (fs : List V), σ = pre ++ [u, v, x] ∧ Same H0 H' ∧ H' M = some (.dT kvs) ∧ MetU kvs met ∧ H' F = some (.lst fs) ∧ Al (ItU H') fs foll ∧
    H' L = some (.lst vs) ∧ Al (ItU H') vs level ∧ H' y = some (.tup (iv c.2)) ∧ Mid (dlu l r) (symu l r) (0, 0, hd) d past level foll met don (kf l r c ((asc (l ++ r)).drop j) ++ R) ∧ (∀ e ∈ past ++ level ++ foll, ¬ goalu l r e.1) ∧ foll.length ≤ met.length
def fuTurn (K : PySem.W.Frag) : TS := tSeq (tAsg (tTup (tCons (tDGet2 (tOp (rIxL K) (tVar 5) (tVar 12)) (tVar 16) (tOp (rIxT K) (tVar 7) (tC (V.int 0)))) (tCons (tDGet2 (tOp (rIxL K) (tVar 6) (tVar 13)) (tVar 16) (tOp (rIxT K) (tVar 7) (tC (V.int 1)))) tNil))) (gName 17))
  (tSeq (tAsg (tTup (tCons (tOp (rIxT K) (tVar 17) (tC (V.int 0))) (tCons (tOp (rIxT K) (tVar 17) (tC (V.int 1))) (tCons (tVar 16) tNil)))) (gName 18))
  (tSeq (tIfS (tOr (tTest (tOp rEq (tVar 16) (tVar 15))) (tOr (tTest (tOp (rEqD K) (tVar 17) (tVar 7))) (tB (tDIn (tVar 18) (tVar 9))))) tCont tNext)
  (tSeq (sDPut (tVar 9) (tVar 18) (tC (V.bl true)))
  (tSeq (tIfS (tAnd (tTest (tOp rNe (tVar 16) (tVar 3))) (tB (tCall spParting [] E0 (tCons (tVar 17) (tCons (tVar 7) (tCons (tVar 4) tNil)))))) (tRet (tOp (rCatA K) (tVar 14) (tTup (tCons (tVar 16) tNil)))) tNext)
  (tDrop (tBM K "list" rAppend (tVar 11) (tCons (tTup (tCons (tOp (rIxT K) (tVar 17) (tC (V.int 0))) (tCons (tOp (rIxT K) (tVar 17) (tC (V.int 1))) (tCons (tOp (rCatA K) (tVar 14) (tTup (tCons (tVar 16) tNil))) tNil)))) tNil)))))))
theorem tup_new {ta : TA} {σ : L2.St} {H : Hp} {Q : VK} (xs : List V) (h : ∀ Q' : List V → Hp → Prop, Q' xs H → ta σ H Q') (hl : xs.length ≤ 1000000) (k : ∀ x H1, H x = none → Same H H1 → H1 x = some (.tup xs) → Q (.ref x) H1) : tTup ta σ H Q :=
  h _ ⟨Nat.le_of_lt (smallLine hl), fun p hp => k p _ hp (Same.new hp) upd_same⟩
theorem seq_tup {ta : TA} {σ : L2.St} {H : Hp} {D : Ends} {i : Nat} {u : TS} (xs : List V) (h : ∀ Q' : List V → Hp → Prop, Q' xs H → ta σ H Q') (hl : xs.length ≤ 1000000) (k : ∀ x H1, H x = none → Same H H1 → H1 x = some (.tup xs) → u D (σ.set i (some (.ref x))) H1) :
    tSeq (tAsg (tTup ta) (gName i)) u D σ H := tup_new (Q := fun v H1 => u D (σ.set i (some v)) H1) xs h hl k
theorem fu_turn {K : PySem.W.Frag} {D : Ends} {H0 : Hp} {a b D1 D2 g tn M L F y : Addr} {vs : List V} {l r : List Int} {hd : Option Int} {d : Nat} {past level : List Cu} {c : Cu} {R : List Cu} {j : Nat} (C : FuC H0 D1 D2 g tn l r) (hM : H0 M = none) (hF : H0 F = none) (hLF : L ≠ F)
    (hl : l.length ≤ 40) (hr : r.length ≤ 40) (hcl : ∀ t ∈ l ++ r, 0 ≤ t ∧ t ≤ 99) (hrun : run (dlu l r) (0, 0, hd) c.2 = some c.1) (hc2 : c.2.length ≤ 1000) {z : Int} (hz : (asc (l ++ r))[j]? = some z) {σ : L2.St} {H' : Hp}
    (hP : FuIn H0 [some (.ref a), some (.ref b), some (hv hd), some .non, some (.bl false), some (.ref D1), some (.ref D2), some (.ref g), some (.ref tn), some (.ref M), some (.ref L), some (.ref F), some (.int (c.1.1 : Nat)), some (.int (c.1.2.1 : Nat)), some (.ref y), some (hv c.1.2.2)] M L F y vs l r hd d past level c R j σ H')
    (hnx : D.nx = FuIn H0 [some (.ref a), some (.ref b), some (hv hd), some .non, some (.bl false), some (.ref D1), some (.ref D2), some (.ref g), some (.ref tn), some (.ref M), some (.ref L), some (.ref F), some (.int (c.1.1 : Nat)), some (.int (c.1.2.1 : Nat)), some (.ref y), some (hv c.1.2.2)] M L F y vs l r hd d past level c R (j + 1))
    (hct : D.ct = D.nx) (hrt : ∀ w, IsMin (Cand hd l r) (some w) → ∀ H' p, Same H0 H' → H' p = some (.tup (iv w)) → D.rt (.ref p) H') : fuTurn K D (σ.set 16 (some (.int z))) H' := by
  obtain ⟨u, v, x, met, foll, don, kvs, fs, rfl, s0, hM', mu, hF', af, hL', al, hy, mid, ng, fm⟩ := hP
  have C' := C.same s0
  obtain ⟨ds1, hD1, n1⟩ := C'.s1
  obtain ⟨ds2, hD2, n2⟩ := C'.s2
  obtain ⟨kp, kq, _, _⟩ := keptu hrun
  obtain ⟨d1, kv1, e1, e2, e3⟩ := n1.2 c.1.1 kp
  obtain ⟨d2, kv2, f1, f2, f3⟩ := n2.2 c.1.2.1 kq
  have g1 : (valV kv1 (.inl z)).getD (.int ((gone l : Nat) : Int)) = .int ((adv l c.1.1 z : Nat) : Int) := by
    rw [e3]
    split
    · rename_i q; rw [q]; rfl
    · rfl
  have g2 : (valV kv2 (.inl z)).getD (.int ((gone r : Nat) : Int)) = .int ((adv r c.1.2.1 z : Nat) : Int) := by
    rw [f3]
    split
    · rename_i q; rw [q]; rfl
    · rfl
  have hdrop : (asc (l ++ r)).drop j = z :: (asc (l ++ r)).drop (j + 1) := by
    obtain ⟨hj, e⟩ := List.getElem?_eq_some_iff.mp hz
    rw [List.drop_eq_getElem_cons hj, e]
  rw [hdrop, kf_cons] at mid
  refine seq_tup [.int ((adv l c.1.1 z : Nat) : Int), .int ((adv r c.1.2.1 z : Nat) : Int)] ?_ (by simp) fun x1 H1 hx1 s1 h1 => ?_
  · intro Q' q
    refine ⟨_, rfl, _, rfl, D1, ds1, _, .ref d1, rfl, rfl, SqL.of hD1, atI_nat e1, d1, rfl, .inl ⟨_, .inl e2⟩, _, rfl, _, rfl, g, _, 0, _, rfl, rfl, SqT.of C'.hg, atI_nat (j := 0) rfl, _, DGet.k (k := .inl z) e2, ?_⟩
    refine ⟨_, rfl, _, rfl, D2, ds2, _, .ref d2, rfl, rfl, SqL.of hD2, atI_nat f1, d2, rfl, .inl ⟨_, .inl f2⟩, _, rfl, _, rfl, g, _, 1, _, rfl, rfl, SqT.of C'.hg, atI_nat (j := 1) rfl, _, DGet.k (k := .inl z) f2, ?_⟩
    show Q' [(valV kv1 (.inl z)).getD (.int ((gone l : Nat) : Int)), (valV kv2 (.inl z)).getD (.int ((gone r : Nat) : Int))] H'
    rw [g1, g2]
    exact q
  refine seq_tup [.int ((adv l c.1.1 z : Nat) : Int), .int ((adv r c.1.2.1 z : Nat) : Int), .int z] ?_ (by simp) fun x2 H2 hx2 s2 h2 => ?_
  · exact fun Q' q => ⟨_, rfl, x1, _, 0, _, rfl, rfl, SqT.of h1, atI_nat (j := 0) rfl, _, rfl, x1, _, 1, _, rfl, rfl, SqT.of h1, atI_nat (j := 1) rfl, _, rfl, q⟩
  have s12 := s1.trans s2
  have s02 := s0.trans s12
  have hg2 := s12 _ _ C'.hg
  have h1' := s2 _ _ h1
  have hM2 := s12 _ _ hM'
  have hF2 := s12 _ _ hF'
  have hL2 := s12 _ _ hL'
  have hy2 := s12 _ _ hy
  have af2 := af.imp fun v x h => h.tk (Tk.of s12)
  have al2 := al.imp fun v x h => h.tk (Tk.of s12)
  have again : ∀ (don' : List Cu), Mid (dlu l r) (symu l r) (0, 0, hd) d past level foll met don' (kf l r c ((asc (l ++ r)).drop (j + 1)) ++ R) → D.ct [some (.ref a), some (.ref b), some (hv hd), some .non, some (.bl false), some (.ref D1), some (.ref D2), some (.ref g), some (.ref tn), some (.ref M), some (.ref L), some (.ref F), some (.int (c.1.1 : Nat)), some (.int (c.1.2.1 : Nat)), some (.ref y), some (hv c.1.2.2), some (.int z), some (.ref x1), some (.ref x2)] H2 := fun don' mid' => by
    rw [hct, hnx]
    exact ⟨_, _, _, met, foll, don', kvs, fs, rfl, s02, hM2, mu, hF2, af2, hL2, al2, hy2, mid', ng, fm⟩
  have hsc : scal (.int z) (hv c.1.2.2) = true := by cases c.1.2.2 <;> rfl
  refine ⟨_, rfl, _, rfl, hsc, _, rfl, ?_⟩
  by_cases cA : c.1.2.2 = some z
  · refine iteT' (decide_eq_true (by rw [cA]; rfl)) (iteT' rfl (again don ?_))
    rw [show dlu l r c.1 z = none from if_pos (.inl cA)] at mid
    exact mid
  refine iteF' (decide_eq_false fun e => cA ?_) ⟨_, rfl, _, rfl, eqT (ns := [((adv l c.1.1 z : Nat) : Int), ((adv r c.1.2.1 z : Nat) : Int)]) h1' hg2 ⟨_, rfl, ?_⟩⟩
  · cases q : c.1.2.2 with
    | none => rw [q] at e; cases e
    | some t =>
      rw [q] at e
      cases e
      rfl
  by_cases cB : adv l c.1.1 z = gone l ∧ adv r c.1.2.1 z = gone r
  · refine iteT' (decide_eq_true (by rw [cB.1, cB.2])) (iteT' rfl (again don ?_))
    rw [show dlu l r c.1 z = none from if_pos (.inr cB)] at mid
    exact mid
  have hdl : dlu l r c.1 z = some (adv l c.1.1 z, adv r c.1.2.1 z, some z) := if_neg (fun h => h.elim cA cB)
  rw [hdl] at mid
  refine iteF' (decide_eq_false fun e => cB ?_) ⟨_, rfl, _, rfl, M, _, rfl, DGet.t (k := [.inl ((adv l c.1.1 z : Nat) : Int), .inl ((adv r c.1.2.1 z : Nat) : Int), .inl z]) hM2 h2, _, rfl, ?_⟩
  · simp only [List.cons.injEq, Int.natCast_inj, and_true] at e
    exact e
  by_cases cC : (adv l c.1.1 z, adv r c.1.2.1 z, some z) ∈ met
  · refine iteT' (by rw [mu.2]; exact decide_eq_true cC) (again _ (mid.skip cC))
  refine iteF' (by rw [mu.2]; exact decide_eq_false cC) ?_
  have ml : met.length ≤ 409600 := metu_len mid.nd hl hr hcl fun s hs => by
    obtain ⟨c', hc', ne', rfl⟩ := (mid.mt s).mp hs
    exact (runu_len (mid.ok c' hc') ne').2
  have mid2 := mid.add cC
  refine ⟨_, rfl, _, rfl, M, _, rfl, DPut.t (k := [.inl ((adv l c.1.1 z : Nat) : Int), .inl ((adv r c.1.2.1 z : Nat) : Int), .inl z]) hM2 h2 (smallLine (by rw [mu.1]; omega)), ?_⟩
  have mu3 := mu.put cC (.bl true)
  have s03 : Same H0 (upd H2 M (.dT (putK kvs [.inl ((adv l c.1.1 z : Nat) : Int), .inl ((adv r c.1.2.1 z : Nat) : Int), .inl z] (.bl true)))) := Same.out s02 hM
  have t3 : Tk H2 (upd H2 M (.dT (putK kvs [.inl ((adv l c.1.1 z : Nat) : Int), .inl ((adv r c.1.2.1 z : Nat) : Int), .inl z] (.bl true)))) := Tk.put hM2 (fun _ z => by cases z)
  have nF : F ≠ M := fun z => by rw [z, hM2] at hF2; cases hF2
  have nL : L ≠ M := fun z => by rw [z, hM2] at hL2; cases hL2
  have hM3 : upd H2 M (.dT (putK kvs [.inl ((adv l c.1.1 z : Nat) : Int), .inl ((adv r c.1.2.1 z : Nat) : Int), .inl z] (.bl true))) M = _ := upd_same
  have hF3 : upd H2 M (.dT (putK kvs [.inl ((adv l c.1.1 z : Nat) : Int), .inl ((adv r c.1.2.1 z : Nat) : Int), .inl z] (.bl true))) F = _ := (upd_ne nF).trans hF2
  have hL3 : upd H2 M (.dT (putK kvs [.inl ((adv l c.1.1 z : Nat) : Int), .inl ((adv r c.1.2.1 z : Nat) : Int), .inl z] (.bl true))) L = _ := (upd_ne nL).trans hL2
  generalize upd H2 M (.dT (putK kvs [.inl ((adv l c.1.1 z : Nat) : Int), .inl ((adv r c.1.2.1 z : Nat) : Int), .inl z] (.bl true))) = H3 at s03 t3 hM3 hF3 hL3
  have h13 := t3 _ _ h1'
  have hg3 := t3 _ _ hg2
  have hy3 := t3 _ _ hy2
  refine ⟨_, rfl, _, rfl, rfl, _, rfl, iteT' rfl ⟨_, rfl, _, rfl, _, rfl, x1, g, _, _, _, _, rfl, h13, hg3, _, rfl, ?_⟩⟩
  have hw : iv (c.2 ++ [z]) = iv c.2 ++ [V.int z] := List.map_append
  by_cases cD : goalu l r (adv l c.1.1 z, adv r c.1.2.1 z, some z)
  · refine iteT' (by rw [decide_eq_false (fun e => cD.1 (Int.ofNat_inj.mp e)), decide_eq_true (congrArg Nat.cast cD.2)]; rfl) ?_
    refine ⟨_, rfl, _, rfl, Nat.le_of_lt (smallLine (by simp)), fun p hp => catA (Same.new hp _ _ hy3) upd_same (by rw [iv_len]; simp; omega) fun H5 p5 s5 h5 => ?_⟩
    refine hrt (c.2 ++ [z]) (IsMin.congr cand_iff (mid.found dlu_sym ng cD)) H5 p5 (s03.trans ((Same.new hp).trans s5)) ?_
    rw [h5, hw]
  · refine iteF' ?_ ?_
    · by_cases q : adv l c.1.1 z = gone l
      · rw [decide_eq_true (congrArg Nat.cast q)]
        rfl
      · rw [decide_eq_false (p := ((adv r c.1.2.1 z : Nat) : Int) = ((gone r : Nat) : Int)) (fun e => cD ⟨q, Int.ofNat_inj.mp e⟩), Bool.and_false]
    refine ⟨_, rfl, .inl ⟨rfl, _, SqL.of hF3⟩, ?_⟩
    refine ⟨_, rfl, x1, _, 0, _, rfl, rfl, SqT.of h13, atI_nat (j := 0) rfl, _, rfl, x1, _, 1, _, rfl, rfl, SqT.of h13, atI_nat (j := 1) rfl, _, rfl, _, rfl, Nat.le_of_lt (smallLine (by simp)), fun p hp => ?_⟩
    refine catA (Same.new hp _ _ hy3) upd_same (by rw [iv_len]; simp; omega) fun H5 p5 s5 h5 => ?_
    refine ⟨Nat.le_of_lt (smallLine (by simp)), fun p6 hp6 => ?_⟩
    have s36 : Same H3 (upd H5 p6 (.tup [.int ((adv l c.1.1 z : Nat) : Int), .int ((adv r c.1.2.1 z : Nat) : Int), .ref p5])) := Same.nw ((Same.new hp).trans s5) hp6
    have h56 : upd H5 p6 (.tup [.int ((adv l c.1.1 z : Nat) : Int), .int ((adv r c.1.2.1 z : Nat) : Int), .ref p5]) p5 = some (.tup (iv (c.2 ++ [z]))) := by
      rw [upd_ne (ne_of_none h5 hp6), h5, hw]
    have h66 : upd H5 p6 (.tup [.int ((adv l c.1.1 z : Nat) : Int), .int ((adv r c.1.2.1 z : Nat) : Int), .ref p5]) p6 = _ := upd_same
    generalize upd H5 p6 (.tup [.int ((adv l c.1.1 z : Nat) : Int), .int ((adv r c.1.2.1 z : Nat) : Int), .ref p5]) = H6 at s36 h56 h66
    have hF6 := s36 _ _ hF3
    have t6 : Tk H6 (upd H6 F (.lst (fs ++ [V.ref p6]))) := Tk.put hF6 (fun _ z => by cases z)
    have t26 : Tk H2 (upd H6 F (.lst (fs ++ [V.ref p6]))) := (t3.trans (Tk.of s36)).trans t6
    refine ⟨F, fs, _, rfl, rfl, hF6, smallLine (by rw [af.1]; omega), ?_⟩
    rw [hnx]
    refine ⟨_, _, _, _, foll ++ [((adv l c.1.1 z, adv r c.1.2.1 z, some z), c.2 ++ [z])], _, _, fs ++ [V.ref p6], rfl, Same.out (s03.trans s36) hF, ?_, mu3, upd_same, ?_, ?_, ?_, t26 _ _ hy2, mid2, ?_, ?_⟩
    · rw [upd_ne nF.symm]
      exact s36 _ _ hM3
    · refine (af2.imp fun v x h => h.tk t26).snoc ⟨p6, p5, rfl, t6 _ _ h66, t6 _ _ h56⟩
    · rw [upd_ne hLF]
      exact s36 _ _ hL3
    · exact al2.imp fun v x h => h.tk t26
    · intro e he
      rw [← List.append_assoc] at he
      rcases List.mem_append.mp he with he | he
      · exact ng e he
      · rw [List.mem_singleton.mp he]
        exact cD
    · rw [List.length_append, List.length_append]
      exact Nat.add_le_add_right fm 1
/-- the loop over a level at its turn i -/
def FuMid (H0 : Hp) (pre : List (Option V)) (M L F : Addr) (vs : List V) (l r : List Int) (hd : Option Int) (d : Nat) (past level : List Cu) (i : Nat) : L2.St → Hp → Prop := fun σ H' =>
  ∃ (v1 v2 v3 v4 v5 v6 v7 : Option V) (met : List SU) (foll don : List Cu) (kvs : List (List Key × V)) (fs : List V), σ = pre ++ [v1, v2, v3, v4, v5, v6, v7] ∧ Same H0 H' ∧ H' M = some (.dT kvs) ∧ MetU kvs met ∧ H' F = some (.lst fs) ∧ Al (ItU H') fs foll ∧
    H' L = some (.lst vs) ∧ Al (ItU H') vs level ∧ Mid (dlu l r) (symu l r) (0, 0, hd) d past level foll met don (cands (dlu l r) (symu l r) (level.drop i)) ∧ (∀ e ∈ past ++ level ++ foll, ¬ goalu l r e.1) ∧ foll.length ≤ met.length
def fuLevel (K : PySem.W.Frag) : TS := tSeq (tAsg (tIf (fun σ H_1 Q => tVar 14 σ H_1 fun x H' => ∃ k, TruV K x H' k ∧ Q k H') (tOp (rIxT K) (tVar 14) (tUn (rU fun i => V.int (-i)) (tC (V.int 1)))) (tVar 2)) (gName 15)) (tFor (iList K (tVar 8)) (gName 16) (fuTurn K))
theorem fu_level {K : PySem.W.Frag} {D : Ends} {H0 : Hp} {a b D1 D2 g tn M L F : Addr} {vs : List V} {l r : List Int} {hd : Option Int} {d : Nat} {past level : List Cu} {i : Nat} (C : FuC H0 D1 D2 g tn l r) (hM : H0 M = none) (hF : H0 F = none) (hLF : L ≠ F)
    (hl : l.length ≤ 40) (hr : r.length ≤ 40) (hcl : ∀ t ∈ l ++ r, 0 ≤ t ∧ t ≤ 99) {y : V} (hi : vs[i]? = some y) {σ : L2.St} {H' : Hp} (hd2 : d ≤ 40)
    (hP : FuMid H0 [some (.ref a), some (.ref b), some (hv hd), some .non, some (.bl false), some (.ref D1), some (.ref D2), some (.ref g), some (.ref tn), some (.ref M), some (.ref L), some (.ref F)] M L F vs l r hd d past level i σ H')
    (hnx : D.nx = FuMid H0 [some (.ref a), some (.ref b), some (hv hd), some .non, some (.bl false), some (.ref D1), some (.ref D2), some (.ref g), some (.ref tn), some (.ref M), some (.ref L), some (.ref F)] M L F vs l r hd d past level (i + 1))
    (hrt : ∀ w, IsMin (Cand hd l r) (some w) → ∀ H' p, Same H0 H' → H' p = some (.tup (iv w)) → D.rt (.ref p) H') : gTup K 3 (gCons (gName 12) (gCons (gName 13) (gCons (gName 14) gNil))) y σ H' fun σ2 H2 => fuLevel K D σ2 H2 := by
  obtain ⟨v1, v2, v3, v4, v5, v6, v7, met, foll, don, kvs, fs, rfl, s0, hM', mu, hF', af, hL', al, mid, ng, fm⟩ := hP
  obtain ⟨c, hc, x, y', rfl, hx, hy⟩ := al.get hi
  have hdrop : level.drop i = c :: level.drop (i + 1) := by
    obtain ⟨hj, e⟩ := List.getElem?_eq_some_iff.mp hc
    rw [List.drop_eq_getElem_cons hj, e]
  have hcm : c ∈ level := List.mem_of_getElem? hc
  have hrun := mid.ok c (by simp [hcm])
  have hcl2 := mid.llen c hcm
  rw [hdrop] at mid
  obtain ⟨_, _, k3, k4⟩ := keptu hrun
  have C' := C.same s0
  refine ⟨x, _, rfl, SqT.of hx, rfl, _, _, rfl, _, _, rfl, _, _, rfl, rfl, ?_⟩
  have go : ∀ lastV, lastV = hv c.1.2.2 → tFor (iList K (tVar 8)) (gName 16) (fuTurn K) D [some (.ref a), some (.ref b), some (hv hd), some .non, some (.bl false), some (.ref D1), some (.ref D2), some (.ref g), some (.ref tn), some (.ref M), some (.ref L), some (.ref F), some (.int (c.1.1 : Nat)), some (.int (c.1.2.1 : Nat)), some (.ref y'), some lastV, v5, v6, v7] H' := by
    rintro lastV rfl
    refine ⟨_, rfl, tn, rfl, ⟨_, SqL.of C'.ht⟩, for_list (xs := iv (asc (l ++ r))) (fun j σ' H2 => FuIn H0 [some (.ref a), some (.ref b), some (hv hd), some .non, some (.bl false), some (.ref D1), some (.ref D2), some (.ref g), some (.ref tn), some (.ref M), some (.ref L), some (.ref F), some (.int (c.1.1 : Nat)), some (.int (c.1.2.1 : Nat)), some (.ref y'), some (hv c.1.2.2)] M L F y' vs l r hd d past level c (cands (dlu l r) (symu l r) (level.drop (i + 1))) j σ' H2) ?_ ?_ ?_ ?_⟩
    · exact ⟨_, _, _, met, foll, don, kvs, fs, rfl, s0, hM', mu, hF', af, hL', al, hy, mid, ng, fm⟩
    · rintro j σ' H2 _ ⟨_, _, _, _, _, _, _, _, _, s2, _⟩
      exact SqL.of (C.same s2).ht
    · intro j z σ' H2 hz hP
      obtain ⟨z, hz2, rfl⟩ := iv_get hz
      exact fu_turn (D := { D with nx := _, ct := _, bk := D.nx }) C hM hF hLF hl hr hcl hrun (by omega) hz2 hP rfl rfl hrt
    · rintro σ' H2 ⟨u, v, x', met, foll, don, kvs, fs, rfl, s0, hM', mu, hF', af, hL', al, hy, mid, ng, fm⟩
      rw [hnx]
      rw [iv_len, List.drop_length] at mid
      exact ⟨_, _, _, _, _, _, _, met, foll, don, kvs, fs, rfl, s0, hM', mu, hF', af, hL', al, mid, ng, fm⟩
  cases e : c.2 with
  | nil =>
    refine ⟨_, rfl, _, .inr (.inl ⟨_, SqT.of hy, rfl⟩), iteF' (by rw [e]; rfl) ⟨_, rfl, go _ ?_⟩⟩
    rw [k3 e]
  | cons x1 r1 =>
    obtain ⟨u, hu⟩ : ∃ u, c.2.getLast? = some u := by
      rw [e]
      exact ⟨_, List.getLast?_cons⟩
    refine ⟨_, rfl, _, .inr (.inl ⟨_, SqT.of hy, rfl⟩), iteT' (by rw [e]; rfl) ⟨_, rfl, _, rfl, y', _, -1, .int u, rfl, rfl, SqT.of hy, ?_, go _ ?_⟩⟩
    · have ew : c.2 = c.2.dropLast ++ [u] := by
        have ne : c.2 ≠ [] := by rw [e]; simp
        have := List.dropLast_concat_getLast ne
        rw [List.getLast?_eq_some_getLast ne] at hu
        rw [Option.some.inj hu] at this
        exact this.symm
      rw [ew]
      have := atI_last (iv c.2.dropLast) (V.int u)
      simpa using this
    · rw [k4 u hu]
      rfl
section
variable {P : Program} {w : World} {K : PySem.W.Frag} {mg : Str → Option Value} {base : Heap}
theorem scFirstUnlike : FnScope ["left", "right", "head", "end", "either", "left_steps", "right_steps", "gone", "tones", "met", "level", "following", "left_place", "right_place", "row", "last", "tone", "places", "state"] ["left", "right", "head", "end", "either"] (defScope sFirstUnlike) := ⟨rfl, rfl, rfl, by decide +kernel, rfl, by decide +kernel, by decide +kernel⟩
def spUnlike : Sp := fun vs H Q _ => ∃ (a b : Addr) (l r : List Int) (hd : Option Int), vs = [.ref a, .ref b, hv hd, .non, .bl false] ∧ H a = some (.tup (iv l)) ∧ H b = some (.tup (iv r)) ∧ l.length ≤ 40 ∧ r.length ≤ 40 ∧ (∀ t ∈ l ++ r, 0 ≤ t ∧ t ≤ 99) ∧
  ((∀ w, ¬ Cand hd l r w) → ∀ H', Same H H' → Q .non H') ∧ (∀ w, IsMin (Cand hd l r) (some w) → ∀ H' p, Same H H' → H' p = some (.tup (iv w)) → Q (.ref p) H')
theorem good_unlike (T : Txt K mg) : Good P w K mg base CX0 2 "first_unlike" ["left", "right", "head", "end", "either"] [] spUnlike := by
  have G_next_places := good_nexts (P := P) (w := w) (base := base) T
  have G_parting_step := good_parting (P := P) (w := w) (base := base) T
  refine good0 T.d_first_unlike T.g_first_unlike scFirstUnlike (fun _ _ _ _ _ _ us hl => match us, hl with | [_, _, _, _, _], _ => rfl) (fun vs H Q E h => ?_) (fun cdv A outer s H vs Q E hr h => ?_)
  · obtain ⟨a, b, l, r, hd, rfl, _⟩ := h
    rfl
  · obtain ⟨a, b, l, r, hd, rfl, ha, hb, hl, hrl, hc, k1, k2⟩ := h
    refine ⟨_, (pss_cons
    (ps_set (i := 5) scFirstUnlike.nd rfl (Or.inl rfl) (pe_go G_next_places hr (by decide) rfl (pa_cons (pv 0) pa_nil)))
    (pss_cons
    (ps_set (i := 6) scFirstUnlike.nd rfl (Or.inl rfl) (pe_go G_next_places hr (by decide) rfl (pa_cons (pv 1) pa_nil)))
    (pss_cons
    (ps_set (i := 7) scFirstUnlike.nd rfl (Or.inl rfl) (pe_tup (pa_cons (pe_op op_add (pe_callB call_len_seq (by rfl) T.n_len PySem.boot_len (pa_cons (pv 0) pa_nil)) (pe_int)) (pa_cons (pe_op op_add (pe_callB call_len_seq (by rfl) T.n_len PySem.boot_len (pa_cons (pv 1) pa_nil)) (pe_int)) pa_nil))))
    (pss_cons
    (ps_set (i := 8) scFirstUnlike.nd rfl (Or.inl rfl) (pe_callB (cr_sortedSetI rfl) (by rfl) T.n_sorted (by decide +kernel) (pa_cons (pe_callTy (call_setI rfl) (by rfl) T.n_set (by decide +kernel) (pa_cons (pe_op op_catA (pv 0) (pv 1)) pa_nil)) pa_nil)))
    (pss_cons
    (ps_set (i := 9) scFirstUnlike.nd rfl (Or.inl rfl) (pe_dnewT))
    (pss_cons
    (ps_set (i := 10) scFirstUnlike.nd rfl (Or.inl rfl) (pe_lst (pa_cons (pe_tup (pa_cons (pe_int) (pa_cons (pe_int) (pa_cons (pe_tup pa_nil) pa_nil)))) pa_nil)))
    (pss_cons
    (ps_while PassesOwn.never (pt_truth (pv 10) (fun _ => rfl)) (pss_cons
      (ps_set (i := 11) scFirstUnlike.nd rfl (Or.inl rfl) (pe_lst pa_nil))
      (pss_cons
      (ps_for PassesOwn.never rfl (pi_list (pv 10)) (pg_tup rfl (pgs_cons (pg_name (i := 12) scFirstUnlike.nd rfl (Or.inl rfl)) (pgs_cons (pg_name (i := 13) scFirstUnlike.nd rfl (Or.inl rfl)) (pgs_cons (pg_name (i := 14) scFirstUnlike.nd rfl (Or.inl rfl)) pgs_nil)))) (pss_cons
        (ps_set (i := 15) scFirstUnlike.nd rfl (Or.inl rfl) (pe_ifExp (pt_truth (pv 14) (fun _ => rfl)) (pe_ix ix_tup (pv 14) (pe_un un_neg (pe_int)) (fun _ _ => rfl)) (pv 2)))
        (pss_one
        (ps_for PassesOwn.never rfl (pi_list (pv 8)) (pg_name (i := 16) scFirstUnlike.nd rfl (Or.inl rfl)) (pss_cons
          (ps_set (i := 17) scFirstUnlike.nd rfl (Or.inl rfl) (pe_tup (pa_cons (pe_dget2 (hu_of hr) (pe_ix ix_list (pv 5) (pv 12) (fun _ _ => rfl)) (pv 16) (pe_ix ix_tup (pv 7) (pe_int) (fun _ _ => rfl)) ⟨rfl, rfl, rfl, rfl⟩) (pa_cons (pe_dget2 (hu_of hr) (pe_ix ix_list (pv 6) (pv 13) (fun _ _ => rfl)) (pv 16) (pe_ix ix_tup (pv 7) (pe_int) (fun _ _ => rfl)) ⟨rfl, rfl, rfl, rfl⟩) pa_nil))))
          (pss_cons
          (ps_set (i := 18) scFirstUnlike.nd rfl (Or.inl rfl) (pe_tup (pa_cons (pe_ix ix_tup (pv 17) (pe_int) (fun _ _ => rfl)) (pa_cons (pe_ix ix_tup (pv 17) (pe_int) (fun _ _ => rfl)) (pa_cons (pv 16) pa_nil)))))
          (pss_cons
          (ps_if (PW.pt (pw_or (pt_cmpR op_eq (pv 16) (pv 15) (nomark _)) (pw_or (pt_cmpR (op_eqD (hu64 hr)) (pv 17) (pv 7) (nomark _)) (pw_or1 (pt_cmp (pc_din (hu_of hr) (pv 18) (pv 9))))))) (pss_one
            ps_continue) pss_nil)
          (pss_cons
          (ps_dput (hu_of hr) (pv 9) (pv 18) (pe_bl) rfl)
          (pss_cons
          (ps_if (PW.pt (pw_and (pt_cmpR op_ne (pv 16) (pv 3) (nomark _)) (pw_and1 (pt_val (pe_go G_parting_step hr (by decide) rfl (pa_cons (pv 17) (pa_cons (pv 7) (pa_cons (pv 4) pa_nil)))))))) (pss_one
            (ps_ret (pe_op op_catA (pv 14) (pe_tup (pa_cons (pv 16) pa_nil))))) pss_nil)
          (pss_one
          (ps_expr (pe_bm PySem.F.plainAttrs_list PySem.F.slot_list_append PySem.F.type_list_append mt_append (pv 11) (pa_cons (pe_tup (pa_cons (pe_ix ix_tup (pv 17) (pe_int) (fun _ _ => rfl)) (pa_cons (pe_ix ix_tup (pv 17) (pe_int) (fun _ _ => rfl)) (pa_cons (pe_op op_catA (pv 14) (pe_tup (pa_cons (pv 16) pa_nil))) pa_nil)))) pa_nil)))))))))))))
      (pss_one
      (ps_set (i := 10) scFirstUnlike.nd rfl (Or.inl rfl) (pe_callTy call_list_of (by rfl) T.n_list (by decide +kernel) (pa_cons (pv 11) pa_nil)))))))
    (pss_one
    (ps_ret (pe_non)))))))))), ?_⟩
    refine ⟨_, rfl, a, l, rfl, ha, by omega, fun H1 D1 ds1 s1 _ h1 n1 => ?_⟩
    refine ⟨_, rfl, b, r, rfl, s1 _ _ hb, by omega, fun H2 D2 ds2 s2 _ h2 n2 => ?_⟩
    have s12 := s1.trans s2
    dsimp only [gName]
    refine seq_tup [.int ((gone l : Nat) : Int), .int ((gone r : Nat) : Int)] ?_ (by simp) fun g H3 hg s3 h3 => ?_
    · intro Q' q
      refine ⟨_, rfl, a, _, rfl, .inr (SqT.of (s12 _ _ ha)), _, _, rfl, rfl, _, rfl, b, _, rfl, .inr (SqT.of (s12 _ _ hb)), _, _, rfl, rfl, ?_⟩
      rw [iv_len, iv_len]
      exact q
    have s13 := s12.trans s3
    refine ⟨_, rfl, _, rfl, catA (s13 _ _ ha) (s13 _ _ hb) (by rw [iv_len, iv_len]; omega) fun H4 p4 s4 h4 => ?_⟩
    rw [show iv l ++ iv r = iv (l ++ r) from List.map_append.symm] at h4
    refine ⟨p4, l ++ r, rfl, .inr (SqT.of h4), by rw [List.length_append]; omega, fun p5 hp5 => fresh hp5 fun H5 s5 h5 => ⟨p5, l ++ r, _, rfl, h5, fun tn htn => fresh htn fun H0 s6 h6 => ?_⟩⟩
    have s36 := (s4.trans s5).trans s6
    have C : FuC H0 D1 D2 g tn l r := ⟨⟨ds1, s36 _ _ (s3 _ _ (s2 _ _ h1)), ((n1.same s2).same s3).same s36⟩, ⟨ds2, s36 _ _ (s3 _ _ h2), (n2.same s3).same s36⟩, s36 _ _ h3, h6⟩
    have s00 : Same H H0 := s13.trans s36
    clear s36 h6 s6 h5 s5 h4 s4 h3 s3 h1 h2 n1 n2 s1 s2 s12 s13
    refine fun M hM => fresh hM fun H1 s1 h1 => ⟨Nat.zero_le _, fun p0 hp0 => fresh hp0 fun H2 s2 h2 => ⟨Nat.le_of_lt (smallLine (by simp)), fun p1 hp1 => fresh hp1 fun H3 s3 h3 => ⟨Nat.le_of_lt (smallLine (by simp)), fun L hL => fresh hL fun H4 s4 h4 => ?_⟩⟩⟩
    have s04 := ((s1.trans s2).trans s3).trans s4
    refine ⟨fun m σ H' => ∃ (v1 v2 v3 v4 v5 v6 v7 v8 : Option V) (L : Addr) (d : Nat) (past level : List Cu) (met : List SU) (kvs : List (List Key × V)) (vs : List V),
        σ = [some (.ref a), some (.ref b), some (hv hd), some .non, some (.bl false), some (.ref D1), some (.ref D2), some (.ref g), some (.ref tn), some (.ref M), some (.ref L), v1, v2, v3, v4, v5, v6, v7, v8] ∧ Same H0 H' ∧ H' M = some (.dT kvs) ∧ MetU kvs met ∧
        H0 L = none ∧ H' L = some (.lst vs) ∧ Al (ItU H') vs level ∧ Lev (dlu l r) (0, 0, hd) d past level met ∧ (∀ e ∈ past ++ level, ¬ goalu l r e.1) ∧ m + d = 42, ⟨42, none, none, none, none, none, none, none, none, L, 0, [], [((0, 0, hd), [])], [], [], [.ref p1], rfl, s04, s4 _ _ (s3 _ _ (s2 _ _ h1)), MetU.nil, ((s1.trans s2).trans s3).free hL, h4, Al.one ⟨p1, p0, rfl, s4 _ _ h3, s4 _ _ (s3 _ _ h2)⟩, Lev.start, ?_, rfl⟩, ?_⟩
    · intro e he z
      rw [List.mem_singleton.mp he] at z
      have z2 : 0 = r.length + 1 := z.2
      omega
    · rintro m σ H' ⟨v1, v2, v3, v4, v5, v6, v7, v8, L, d, past, level, met, kvs, vs, rfl, s0, hM', mu, hLn, hL', al, lev, ng, hm⟩
      refine ⟨_, rfl, _, .inl ⟨vs, SqL.of hL', rfl⟩, ?_⟩
      cases hvs : vs with
      | nil =>
        refine iteF' rfl (k1 (fun w hw => ?_) H' (s00.trans s0))
        have e : level = [] := List.length_eq_zero_iff.mp (by rw [← al.1, hvs]; rfl)
        subst e
        exact lev.none (G := goalu l r) (fun x hx => ng x (by simp [hx])) w ((cand_iff w).mpr hw)
      | cons v0 r0 =>
        rw [← hvs]
        obtain ⟨c0, hc0, _⟩ := al.get (j := 0) (v := v0) (by rw [hvs]; rfl)
        have hcm : c0 ∈ level := List.mem_of_getElem? hc0
        have hd40 : d ≤ 40 := by
          have h1 := lev.llen c0 hcm
          by_cases e : c0.2 = []
          · rw [e] at h1
            rw [← h1]
            exact Nat.zero_le _
          · rcases (runu_len (lev.ok c0 (by simp [hcm])) e).1 with q | q
            · have := q.length_le
              omega
            · have := q.length_le
              omega
        refine iteT' (by rw [hvs]; rfl) ⟨fun σ' H'' => ∃ m', m' < m ∧ _, fun _ _ h => h, Nat.zero_le _, fun F hF => ?_⟩
        have hF0 : H0 F = none := s0.free hF
        have hLF : L ≠ F := ne_of_none hL' hF
        refine ⟨_, rfl, L, rfl, ⟨_, SqL.of (Same.new hF _ _ hL')⟩, for_list (xs := vs) (fun i σ' H'' => FuMid H0 [some (.ref a), some (.ref b), some (hv hd), some .non, some (.bl false), some (.ref D1), some (.ref D2), some (.ref g), some (.ref tn), some (.ref M), some (.ref L), some (.ref F)] M L F vs l r hd d past level i σ' H'') ?_ ?_ ?_ ?_⟩
        · refine ⟨v2, v3, v4, v5, v6, v7, v8, met, [], [], kvs, [], rfl, Same.nw s0 hF, Same.new hF _ _ hM', mu, upd_same, Al.nil, Same.new hF _ _ hL', al.imp fun v x h => h.tk (Tk.of (Same.new hF)), lev.mid (symu_asc l r), fun e he => ng e (by simpa using he), Nat.zero_le _⟩
        · rintro i σ' H'' _ ⟨_, _, _, _, _, _, _, _, _, _, _, _, _, _, _, _, _, _, h, _⟩
          exact SqL.of h
        · intro i y σ' H'' hy hP
          exact fu_level (D := { nx := _, rt := Q, ct := _, bk := _ }) C hM hF0 hLF hl hrl hc hy hd40 hP rfl (fun w hw H5 p5 s5 h5 => k2 w hw H5 p5 (s00.trans s5) h5)
        · rintro σ' H'' ⟨u1, u2, u3, u4, u5, u6, u7, met', foll, don, kvs', fs, rfl, s0', hM'', mu', hF'', af, hL'', al', mid, ng', fm⟩
          rw [al'.1, List.drop_length] at mid
          have nxt := mid.next dlu_sym
          refine ⟨_, rfl, F, fs, rfl, .inl (SqL.of hF''), fun L2 hL2 => ⟨m - 1, by omega, _, _, _, _, _, _, _, _, L2, d + 1, past ++ level, foll, met', kvs', fs, rfl, Same.nw s0' hL2, Same.new hL2 _ _ hM'', mu', s0'.free hL2, upd_same, af.imp fun v x h => h.tk (Tk.of (Same.new hL2)), nxt, ng', by omega⟩⟩
end
end K21
end
section
set_option Elab.async false
set_option linter.all false
set_option maxRecDepth 100000
set_option maxHeartbeats 4000000
/-! walks 8: PartingLine, line_for, reach_lacks -/
namespace K21
open PySem PySem.Spec PyProof.Rows L2
section
variable {P : Program} {w : World} {K : PySem.W.Frag} {mg : Str → Option Value} {base : Heap}
/-! ### line_for -/
theorem scLineFor : FnScope ["left", "right", "first", "end", "either", "free", "least"] ["left", "right", "first", "end", "either"] (defScope sLineFor) := ⟨rfl, rfl, rfl, by decide +kernel, rfl, by decide +kernel, by decide +kernel⟩
def spLine : Sp := fun vs H Q _ => ∃ (a b : Addr) (l r : List Int) (hd : Option Int), vs = [.ref a, .ref b, hv hd, .non, .bl false] ∧ H a = some (.tup (iv l)) ∧ H b = some (.tup (iv r)) ∧ l.length ≤ 40 ∧ r.length ≤ 40 ∧ (∀ t ∈ l ++ r, 0 ≤ t ∧ t ≤ 99) ∧ (∃ w, Cand hd l r w) ∧
  (∀ f, hd = some f → ∀ w, IsMin (Cand hd l r) (some w) → ∀ H' p, Same H H' → H' p = some (.tup (iv (f :: w))) → Q (.ref p) H') ∧
  (hd = none → ∀ u o res, IsMin (Cand none l r) (some u) → IsMin (Cand (some 0) l r) o → pick3 (some u) o = some res → ∀ H' p, Same H H' → H' p = some (.tup (iv res)) → Q (.ref p) H')
theorem cand_len {hd : Option Int} {l r w : List Int} (h : Cand hd l r w) : w.length ≤ l.length := h.2.2.2.1.length_le
theorem good_line (T : Txt K mg) : Good P w K mg base CX0 3 "line_for" ["left", "right", "first", "end", "either"] [] spLine := by
  have G_first_unlike := good_unlike (P := P) (w := w) (base := base) T
  refine good0 T.d_line_for T.g_line_for scLineFor (fun _ _ _ _ _ _ us hl => match us, hl with | [_, _, _, _, _], _ => rfl) (fun vs H Q E h => ?_) (fun cdv A outer s H vs Q E hr h => ?_)
  · obtain ⟨a, b, l, r, hd, rfl, _⟩ := h
    rfl
  · obtain ⟨a, b, l, r, hd, rfl, ha, hb, hl, hrl, hc, ⟨w0, hw0⟩, k1, k2⟩ := h
    refine ⟨_, (pss_cons
    (ps_if (pt_cmpR op_notN (pv 2) (pe_non) (nomark _)) (pss_one
      (ps_ret (pe_op op_catA (pe_tup (pa_cons (pv 2) pa_nil)) (pe_go G_first_unlike hr (by decide) rfl (pa_cons (pv 0) (pa_cons (pv 1) (pa_cons (pv 2) (pa_cons (pv 3) (pa_cons (pv 4) pa_nil))))))))) pss_nil)
    (pss_cons
    (ps_set (i := 5) scLineFor.nd rfl (Or.inl rfl) (pe_go G_first_unlike hr (by decide) rfl (pa_cons (pv 0) (pa_cons (pv 1) (pa_cons (pe_non) (pa_cons (pv 3) (pa_cons (pv 4) pa_nil)))))))
    (pss_cons
    (ps_set (i := 6) scLineFor.nd rfl (Or.inl rfl) (pe_go G_first_unlike hr (by decide) rfl (pa_cons (pv 0) (pa_cons (pv 1) (pa_cons (pe_int) (pa_cons (pv 3) (pa_cons (pv 4) pa_nil)))))))
    (pss_cons
    (ps_if (PW.pt (pw_and (pt_cmpR op_notN (pv 6) (pe_non) (nomark _)) (pw_and1 (pt_cmpR op_eq (pe_callB call_len_seq (by rfl) T.n_len PySem.boot_len (pa_cons (pv 6) pa_nil)) (pe_callB call_len_seq (by rfl) T.n_len PySem.boot_len (pa_cons (pv 5) pa_nil)) (nomark _))))) (pss_one
      (ps_ret (pe_op op_catA (pe_tup (pa_cons (pe_int) pa_nil)) (pv 6)))) pss_nil)
    (pss_one
    (ps_ret (pe_op op_catA (pe_tup (pa_cons (pe_int) pa_nil)) (pv 5)))))))), ?_⟩
    cases hd with
    | some f =>
      refine ⟨_, rfl, rfl, _, rfl, iteT' rfl ⟨_, rfl, Nat.le_of_lt (smallLine (by simp)), fun p hp => ?_⟩⟩
      generalize hH1 : upd _ p _ = H1
      obtain ⟨s1, h1⟩ := got hH1 hp
      refine ⟨_, rfl, _, rfl, _, rfl, _, rfl, _, rfl, a, b, l, r, some f, rfl, s1 _ _ ha, s1 _ _ hb, hl, hrl, hc, fun z => absurd hw0 (z w0), fun w hw H2 p2 s2 h2 => ?_⟩
      have := cand_len hw.1
      refine catA (s2 _ _ h1) h2 (by rw [iv_len]; simp; omega) fun H3 p3 s3 h3 => k1 f rfl w hw H3 p3 ((s1.trans s2).trans s3) h3
    | none =>
      refine ⟨_, rfl, rfl, _, rfl, iteF' rfl ?_⟩
      refine ⟨_, rfl, _, rfl, _, rfl, _, rfl, a, b, l, r, none, rfl, ha, hb, hl, hrl, hc, fun z => absurd hw0 (z w0), fun u hu H2 p2 s2 h2 => ?_⟩
      have hul := cand_len hu.1
      have fin : ∀ (v6 : Option V) H3, Same H2 H3 → ∀ o, IsMin (Cand (some 0) l r) o → pick3 (some u) o = some (1 :: u) → tOp (rCatA K) (tTup (tCons (tC (.int 1)) tNil)) (tVar 5) [some (.ref a), some (.ref b), some (hv none), some .non, some (.bl false), some (.ref p2), v6] H3 Q := fun v6 H3 s3 o ho hp => by
        refine ⟨Nat.le_of_lt (smallLine (by simp)), fun p hp' => ?_⟩
        generalize hH4 : upd _ p _ = H4
        obtain ⟨s4, h4⟩ := got hH4 hp'
        exact ⟨_, rfl, catA h4 (s4 _ _ (s3 _ _ h2)) (by rw [iv_len]; simp; omega) fun H5 p5 s5 h5 => k2 rfl u o _ hu ho hp H5 p5 (((s2.trans s3).trans s4).trans s5) h5⟩
      refine ⟨_, rfl, _, rfl, _, rfl, _, rfl, a, b, l, r, some 0, rfl, s2 _ _ ha, s2 _ _ hb, hl, hrl, hc, fun z H3 s3 => ?_, fun v hv' H3 p3 s3 h3 => ?_⟩
      · refine ⟨_, rfl, rfl, _, rfl, iteF' rfl ?_⟩
        exact fin _ H3 s3 none z rfl
      · have hvl := cand_len hv'.1
        refine ⟨_, rfl, rfl, _, rfl, iteT' rfl ⟨_, rfl, p3, _, rfl, .inr (SqT.of h3), _, rfl, p2, _, rfl, .inr (SqT.of (s3 _ _ h2)), rfl, _, rfl, ?_⟩⟩
        rw [iv_len, iv_len]
        by_cases c : v.length = u.length
        · refine iteT' (by simp [c]) ⟨Nat.le_of_lt (smallLine (by simp)), fun p hp' => ?_⟩
          generalize hH4 : upd _ p _ = H4
          obtain ⟨s4, h4⟩ := got hH4 hp'
          exact ⟨_, rfl, catA h4 (s4 _ _ h3) (by rw [iv_len]; simp; omega) fun H5 p5 s5 h5 => k2 rfl u (some v) _ hu hv' (if_pos c) H5 p5 (((s2.trans s3).trans s4).trans s5) h5⟩
        · refine iteF' (by simp; omega) (fin _ H3 s3 (some v) hv' (if_neg c))
/-! ### PartingLine.__init__ -/
theorem scPartingLineInit : FnScope ["self", "colours"] ["self", "colours"] (defScope sPartingLineInit) := ⟨rfl, rfl, rfl, by decide +kernel, rfl, by decide +kernel, by decide +kernel⟩
def spPLI (K : PySem.W.Frag) : Sp := fun vs H Q _ => ∃ (x dx : Addr) (v : V), vs = [.ref x, v] ∧ H x = some (.ins (cPL K) dx []) ∧ Q .non (upd H x (.ins (cPL K) dx [("colours", v)]))
theorem ok_pli (T : Txt K mg) : ∃ fd, FnOk P w K mg base CX0 1 (He.ma K (cPL K) "__init__") fd ["self", "colours"] (spPLI K) ∧ Binds K fd ["self", "colours"] [] := by
  obtain ⟨fd, F⟩ := T.d_plInit
  refine ⟨fd, F.ok scPartingLineInit (fun vs H Q E h => ?_) (fun cdv A outer s H vs Q E hr h => ?_), F.bindsN (fun _ _ _ _ _ _ us hl => match us, hl with | [_, _], _ => rfl)⟩
  · obtain ⟨x, dx, v, rfl, _⟩ := h
    rfl
  · obtain ⟨x, dx, v, rfl, hx, k⟩ := h
    refine ⟨_, pss_one (ps_fld (pv 0) (pv 1) rfl), ?_⟩
    exact ⟨_, rfl, _, rfl, x, _, dx, _, rfl, hx, T.pcl, T.pno, by decide, k⟩
/-! ### reach_lacks -/
theorem whole_int {v : V} {a b : Int} (h : wholeB v a b = true) : ∃ n, v = .int n ∧ a ≤ n ∧ n ≤ b := by
  cases v with
  | int n =>
    have h' : (decide (a ≤ n) && decide (n ≤ b)) = true := h
    rw [Bool.and_eq_true, decide_eq_true_eq, decide_eq_true_eq] at h'
    exact ⟨n, rfl, h'.1, h'.2⟩
  | _ => cases h
theorem ints_of : ∀ {xs : List V}, badAt xs = none → ∃ ns : List Int, xs = iv ns ∧ ∀ t ∈ ns, 0 ≤ t ∧ t ≤ 99
  | [], _ => ⟨[], rfl, fun t h => by cases h⟩
  | x :: xs, h => by
    have h0 := List.findIdx?_eq_none_iff.mp h
    have hx := h0 x List.mem_cons_self
    have hw : wholeB x 0 99 = true := by simpa using hx
    obtain ⟨n, rfl, a, b⟩ := whole_int hw
    obtain ⟨ns, e, hns⟩ := ints_of (xs := xs) (List.findIdx?_eq_none_iff.mpr fun y hy => h0 y (List.mem_cons_of_mem _ hy))
    refine ⟨n :: ns, by rw [e]; rfl, fun t ht => ?_⟩
    rcases List.mem_cons.mp ht with e | e
    · subst e
      exact ⟨a, b⟩
    · exact hns t e
theorem row_ints {o : Option (List V)} {most : Nat} (h : givenIx o most = none) : ∃ ns : List Int, o = some (iv ns) ∧ ns.length ≤ most ∧ ∀ t ∈ ns, 0 ≤ t ∧ t ≤ 99 := by
  cases o with
  | none => cases h
  | some xs =>
    have h' : rowIx xs most = none := h
    unfold rowIx at h'
    split at h'
    · cases h'
    · rename_i c
      obtain ⟨ns, e, hns⟩ := ints_of h'
      refine ⟨ns, by rw [e], ?_, hns⟩
      rw [e, iv_len] at c
      omega
def fsOf : Option Int → List Int
  | none => [0, 1, 2]
  | some f => [f]
/-- a line as the program gives it, or None -/
def PLine (K : PySem.W.Frag) (H : Hp) (v : V) : Option (List Int) → Prop
  | none => v = .non
  | some x => ∃ p dx t, v = .ref p ∧ H p = some (.ins (cPL K) dx [("colours", .ref t)]) ∧ H t = some (.tup (iv x))
theorem PLine.same {K : PySem.W.Frag} {H H' : Hp} {v : V} {o : Option (List Int)} (p : PLine K H v o) (s : Same H H') : PLine K H' v o := by
  cases o with
  | none => exact p
  | some x =>
    obtain ⟨p, dx, t, e, h1, h2⟩ := p
    exact ⟨p, dx, t, e, s _ _ h1, s _ _ h2⟩
theorem strip_mem {hd : Option Int} {l : List Int} {t : Int} (h : t ∈ strip hd l) : t ∈ l := (strike_sub l).subset ((strip_sub hd l).subset h)
theorem due_nil {hd : Option Int} {l r : List Int} (h : (strip hd l).Sublist (strike r)) : IsMin (DueW (fsOf hd) l r) none := by
  have hc := cand_none.mpr h
  cases hd with
  | none =>
    rw [strip_none] at hc
    exact due_free (free := none) (least := none) hc fun w hw => hc w ⟨hw.1, hw.2.1, fun e => by
      have : w.head? = none := e
      exact hw.1 (List.head?_eq_none_iff.mp this), hw.2.2.2.1, hw.2.2.2.2⟩
  | some f => exact due_first (r := none) hc
def spReach (K : PySem.W.Frag) : Sp := fun vs H Q E => ∃ (v1 v2 v3 : V) (o1 o2 : Option (List V)), vs = [v1, v2, v3] ∧ Given H v1 o1 ∧ Given H v2 o2 ∧ Thing H v3 ∧
  (∀ i, givenIx o1 40 = some i → Out K H E "BadRow" "index" (.int (i : Nat))) ∧ (givenIx o1 40 = none → ∀ i, givenIx o2 40 = some i → Out K H E "BadRow" "index" (.int (i : Nat))) ∧
  (givenIx o1 40 = none → givenIx o2 40 = none → v3 ≠ .non → wholeB v3 0 99 = false → Out K H E "BadColour" "colour" v3) ∧
  (∀ l r hd, o1 = some (iv l) → o2 = some (iv r) → l.length ≤ 40 → r.length ≤ 40 → (∀ t ∈ l, 0 ≤ t ∧ t ≤ 99) → (∀ t ∈ r, 0 ≤ t ∧ t ≤ 99) → v3 = hv hd → (∀ f, hd = some f → 0 ≤ f ∧ f ≤ 99) → ∀ res, IsMin (DueW (fsOf hd) l r) res → ∀ H' v, Same H H' → PLine K H' v res → Q v H')
def reachRest (K : PySem.W.Frag) : TS := tSeq (tAsg (tCall spWithout [] E0 (tCons (tVar 3) (tCons (tVar 5) tNil))) (gName 3)) (tSeq (tAsg (tCall spStrike [] E0 (tCons (tVar 4) tNil)) (gName 4)) (tSeq (tIfS (tTest (tOp (fun x y H Q => y = V.non ∧ Q (V.bl !decide (x = V.non)) H) (tCall spPlaces [] E0 (tCons (tVar 3) (tCons (tVar 4) tNil))) (tC V.non))) (tRet (tC V.non)) tNext)
  (tRet (tMake (cPL K) (spPLI K) [] E0 (tCons (tCall spLine [] E0 (tCons (tVar 3) (tCons (tVar 4) (tCons (tVar 5) (tCons (tC V.non) (tCons (tC (V.bl false)) tNil)))))) tNil)))))
theorem reach_rest {D : Ends} {v1 v2 v3 : V} {p1 p2 : Addr} {hd : Option Int} {l r : List Int} {H : Hp} (h1 : H p1 = some (.tup (iv l))) (h2 : H p2 = some (.tup (iv r))) (ll : l.length ≤ 40) (lr : r.length ≤ 40) (cl : ∀ t ∈ l, 0 ≤ t ∧ t ≤ 99) (cr : ∀ t ∈ r, 0 ≤ t ∧ t ≤ 99)
    (k : ∀ res, IsMin (DueW (fsOf hd) l r) res → ∀ H' v, Same H H' → PLine K H' v res → D.rt v H') : reachRest K D [some v1, some v2, some v3, some (.ref p1), some (.ref p2), some (hv hd)] H := by
  refine ⟨_, rfl, _, rfl, p1, l, hd, rfl, h1, by omega, fun H1 q1 s1 e1 => ?_⟩
  refine ⟨_, rfl, p2, r, rfl, s1 _ _ h2, by omega, fun H2 q2 s2 _ e2 => ?_⟩
  have e1' := s2 _ _ e1
  have s12 := s1.trans s2
  have ls := strip_len hd l
  have lk := strike_len r
  refine ⟨_, rfl, _, rfl, q1, q2, strip hd l, strike r, rfl, e1', e2, by omega, fun hsub H3 p3 s3 => ⟨rfl, _, rfl, iteT' rfl (k none (due_nil hsub) H3 .non (s12.trans s3) rfl)⟩, fun hns H3 s3 => ⟨rfl, _, rfl, iteF' rfl ?_⟩⟩
  have ex : ∃ w, Cand hd (strip hd l) (strike r) w := by
    refine Classical.byContradiction fun z => hns (cand_none.mp fun w hw => z ⟨w, hw⟩)
  have cc : ∀ t ∈ strip hd l ++ strike r, 0 ≤ t ∧ t ≤ 99 := fun t ht => by
    rcases List.mem_append.mp ht with q | q
    · exact cl t (strip_mem q)
    · exact cr t ((strike_sub r).subset q)
  have fin : ∀ res, IsMin (DueW (fsOf hd) l r) (some res) → ∀ H4 p4, Same H3 H4 → H4 p4 = some (.tup (iv res)) → ∀ x dx, H4 x = none → H4 dx = none → dx ≠ x → spPLI K (.ref x :: ([.ref p4] ++ [])) (upd (upd H4 dx (.own x)) x (.ins (cPL K) dx [])) (fun v H2 => v = .non ∧ D.rt (.ref x) H2) E0 := fun res hres H4 p4 s4 h4 x dx hx hdx hne => by
    have s5 : Same H4 (upd (upd (upd H4 dx (.own x)) x (.ins (cPL K) dx [])) x (.ins (cPL K) dx [("colours", .ref p4)])) := Same.out (Same.out (Same.new hdx) hx) hx
    exact ⟨x, dx, .ref p4, rfl, upd_same, rfl, k (some res) hres _ _ (((s12.trans s3).trans s4).trans s5) ⟨x, dx, p4, rfl, upd_same, s5 _ _ h4⟩⟩
  refine ⟨_, rfl, _, rfl, _, rfl, q1, q2, strip hd l, strike r, hd, rfl, s3 _ _ e1', s3 _ _ e2, by omega, by omega, cc, ex, ?_, ?_⟩
  · rintro f rfl w hw H4 p4 s4 h4
    exact fin (f :: w) (due_first hw) H4 p4 s4 h4
  · rintro rfl u o res hu ho hp H4 p4 s4 h4
    rw [strip_none] at hu ho
    refine fin res ?_ H4 p4 s4 h4
    rw [← hp]
    exact due_free hu ho
theorem scReachLacks : FnScope ["one", "other", "first", "left", "right", "head"] ["one", "other", "first"] (defScope sReachLacks) := ⟨rfl, rfl, rfl, by decide +kernel, rfl, by decide +kernel, by decide +kernel⟩
theorem ok_reach (T : Txt K mg) {fd : FuncData} (F : FnP K "reach_lacks" "reach_lacks" sReachLacks [V.non] (He.ga K "reach_lacks") fd) : FnOk P w K mg base (L2N.CX P w) 5 (He.ga K "reach_lacks") fd ["one", "other", "first"] (spReach K) := by
  have G_check_row := good_row (P := P) (w := w) (base := base) T
  have G_check_head := good_head (P := P) (w := w) (base := base) T
  have G_without_head := good_without (P := P) (w := w) (base := base) T
  have G_strike_equal := good_strike (P := P) (w := w) (base := base) T
  have G_places_within := good_places (P := P) (w := w) (base := base) T
  have G_line_for := good_line (P := P) (w := w) (base := base) T
  obtain ⟨fi, F_pli, b_pli⟩ := ok_pli (P := P) (w := w) (base := base) T
  refine F.ok scReachLacks (fun vs H Q E h => ?_) (fun cdv A outer s H vs Q E hr h => ?_)
  · obtain ⟨v1, v2, v3, o1, o2, rfl, _⟩ := h
    rfl
  · obtain ⟨v1, v2, v3, o1, o2, rfl, g1, g2, t3, k1, k2, k3, k4⟩ := h
    have hx_check_row : Passes (L2N.CX P w) (cxOf (L2N.CX P w) P w K mg base ["one", "other", "first", "left", "right", "head"] "reach_lacks" (defScope sReachLacks) (He.ga K "reach_lacks") cdv A outer s H E) E := L2N.passes_call (L2N.takes_of rfl rfl rfl rfl) (fun _ _ _ _ h => h)
    have hx_check_head := hx_check_row
    refine ⟨_, (pss_cons
    (ps_set (i := 3) scReachLacks.nd rfl (Or.inl rfl) (pe_goX G_check_row hr (by decide) rfl hx_check_row (pa_cons (pv 0) (pa_cons (pe_const T.c_LONGEST_ROW rfl) pa_nil))))
    (pss_cons
    (ps_set (i := 4) scReachLacks.nd rfl (Or.inl rfl) (pe_goX G_check_row hr (by decide) rfl hx_check_row (pa_cons (pv 1) (pa_cons (pe_const T.c_LONGEST_ROW rfl) pa_nil))))
    (pss_cons
    (ps_set (i := 5) scReachLacks.nd rfl (Or.inl rfl) (pe_goX G_check_head hr (by decide) rfl hx_check_head (pa_cons (pv 2) pa_nil)))
    (pss_cons
    (ps_set (i := 3) scReachLacks.nd rfl (Or.inl rfl) (pe_go G_without_head hr (by decide) rfl (pa_cons (pv 3) (pa_cons (pv 5) pa_nil))))
    (pss_cons
    (ps_set (i := 4) scReachLacks.nd rfl (Or.inl rfl) (pe_go G_strike_equal hr (by decide) rfl (pa_cons (pv 4) pa_nil)))
    (pss_cons
    (ps_if (pt_cmpR op_notN (pe_go G_places_within hr (by decide) rfl (pa_cons (pv 3) (pa_cons (pv 4) pa_nil))) (pe_non) (nomark _)) (pss_one
      (ps_ret (pe_non))) pss_nil)
    (pss_one
    (ps_ret (pe_make T.pmk F_pli (hr.mono (by decide)) rfl T.g_PartingLine b_pli .nil pass0 (pa_cons (pe_go G_line_for hr (by decide) rfl (pa_cons (pv 3) (pa_cons (pv 4) (pa_cons (pv 5) (pa_cons (pe_non) (pa_cons (pe_bl) pa_nil)))))) pa_nil)))))))))), ?_⟩
    refine ⟨_, rfl, _, o1, 40, rfl, g1, k1, fun e1 xs1 hx1 H1 p1 s1 h1 => ?_⟩
    refine ⟨_, rfl, _, o2, 40, rfl, g2.same s1, fun i e2 => (k2 e1 i e2).same s1, fun e2 xs2 hx2 H2 p2 s2 h2 => ?_⟩
    obtain ⟨l, hl, ll, cl⟩ := row_ints e1
    obtain ⟨r, hr', lr, cr⟩ := row_ints e2
    rw [hl] at hx1
    rw [hr'] at hx2
    cases hx1
    cases hx2
    have s12 := s1.trans s2
    have go : ∀ hd : Option Int, v3 = hv hd → (∀ f, hd = some f → 0 ≤ f ∧ f ≤ 99) → reachRest K { nx := fun x H' => Q .non H', rt := Q } [some v1, some v2, some v3, some (.ref p1), some (.ref p2), some (hv hd)] H2 := fun hd e he =>
      reach_rest (s2 _ _ h1) h2 ll lr cl cr fun res hres H' v s hp => k4 l r hd hl hr' ll lr cl cr e he res hres H' v (s12.trans s) hp
    refine ⟨_, rfl, v3, rfl, ?_⟩
    by_cases c : v3 = .non
    · exact .inl ⟨c, go none c (fun f e => by cases e)⟩
    · refine .inr ⟨c, t3.same s12, fun hw => ?_, fun hw => (k3 e1 e2 c hw).same s12⟩
      obtain ⟨n, e, a, b⟩ := whole_int hw
      rw [e]
      exact go (some n) e (fun f z => by cases z; exact ⟨a, b⟩)
end
end K21
end
section
set_option Elab.async false
set_option linter.all false
set_option maxRecDepth 100000
set_option maxHeartbeats 4000000
/-! walks 9: for shortest_over -/
namespace K21
open PySem PySem.Spec PyProof.Rows L2
theorem lc_zipr {K : PySem.W.Frag} {a b : Addr} {xs ys : List V} {g : TG} {tt : TT} {te : TE} {vs : List Nat} {σ : L2.St} {H1 : Hp} {D : Addr} {Qd : Hp → Prop} (Rl : Nat → List V → Hp → Prop) (hl : xs.length = ys.length) (ha : H1 a = some (.lst xs)) (hb : H1 b = some (.tup ys)) (hD : H1 D = none) (hn : xs.length ≤ 100000) (h0 : Rl 0 [] H1)
    (st : ∀ i l H H', Tk H H' → Rl i l H → Rl i l H') (hz : ∀ i l H, Rl i l H → l.length ≤ i)
    (hs : ∀ i x y H l T, xs[i]? = some x → ys[i]? = some y → Same H1 H → H T = some (.tup [x, y]) → Rl i l H → ∀ (C1 : V → Hp → Prop) (C0 : Hp → Prop), (∀ z H', Same H H' → Rl (i + 1) (l ++ [z]) H' → C1 z H') → (∀ H', Same H H' → Rl (i + 1) l H' → C0 H') → LcTurn g tt te vs σ H (.ref T) C1 C0)
    (hd : ∀ H l, Same H1 H → H D = some (.lst l) → Rl xs.length l H → Qd H) :
    ∃ W : Nat → Nat → Hp → Prop, (∃ m, W 0 m (upd H1 D (.lst []))) ∧ ∀ i m H, W i m H →
      ((ItzLT K a b).stop i H ∧ Qd H) ∨ ((ItzLT K a b).go i H ∧ ∃ Nx : Hp → Prop, (∀ H', Nx H' → ∃ m', m' < m ∧ W (i + 1) m' H') ∧ ∀ x H', (ItzLT K a b).yld i H x H' → g x (wipe σ vs) H' fun σ2 H2 => wipe σ2 vs = wipe σ vs ∧ tt σ2 H2 fun b H3 =>
        if b = true then te σ2 H3 fun y H4 => ∃ acc, H4 D = some (.lst acc) ∧ acc.length < sizeLine ∧ Nx (upd H4 D (.lst (acc ++ [y]))) else Nx H3) := by
  refine lc_it (walk_zipLT hl) (fun i H => Same H1 H ∧ i ≤ xs.length ∧ ∃ l, H D = some (.lst l) ∧ Rl i l H) ⟨Same.new hD, Nat.zero_le _, [], upd_same, st _ _ _ _ (Tk.of (Same.new hD)) h0⟩ (fun i H _ ⟨s, _⟩ => ⟨SqL.of (s _ _ ha), SqT.of (s _ _ hb)⟩) ?_ (fun H ⟨s, _, l, h, r⟩ => hd H l s h r)
  rintro i v H H' hlt ⟨s, hi, l, h, r⟩ ⟨T, x, y, rfl, hT, rfl, hx, hy⟩
  have s1 : Same H (upd H T (.tup [x, y])) := Same.new hT
  refine hs i x y _ l T hx hy (s.trans s1) upd_same (st _ _ _ _ (Tk.of s1) r) _ _ (fun z H' s' r' => ⟨l, s' _ _ (s1 _ _ h), smallLine (Nat.le_trans (hz i l H r) (by omega)), Same.out ((s.trans s1).trans s') hD, hlt, l ++ [z], upd_same, st _ _ _ _ (Tk.put (s' _ _ (s1 _ _ h)) (fun _ q => by cases q)) r'⟩) (fun H' s' r' => ⟨(s.trans s1).trans s', hlt, l, s' _ _ (s1 _ _ h), r'⟩)
/-! ### the mathematics once more -/
abbrev Co := List Nat × List Int
def nz (ps : List Nat) : List Int := ps.map fun n : Nat => ((n : Nat) : Int)
def nk (ps : List Nat) : List Key := ps.map fun n : Nat => (Sum.inl ((n : Nat) : Int) : Key)
theorem nk_kV (ps : List Nat) : (nk ps).map kV = iv (nz ps) := by
  unfold nk nz iv
  rw [List.map_map, List.map_map]
  rfl
theorem nz_inj : ∀ {a b : List Nat}, nz a = nz b → a = b
  | [], [], _ => rfl
  | [], _ :: _, h => by cases h
  | _ :: _, [], h => by cases h
  | x :: a, y :: b, h => by
    injection h with h1 h2
    rw [nz_inj h2, Int.ofNat_inj.mp h1]
theorem nk_inj : ∀ {a b : List Nat}, nk a = nk b → a = b
  | [], [], _ => rfl
  | [], _ :: _, h => by cases h
  | _ :: _, [], h => by cases h
  | x :: a, y :: b, h => by
    injection h with h1 h2
    rw [nk_inj h2, Int.ofNat_inj.mp (Sum.inl.inj h1)]
theorem lft_le {m : Nat} : ∀ {rows : Rws} {ps : List Nat}, (∀ r ∈ rows, r.length ≤ m) → lft rows ps ≤ m * rows.length
  | [], _, _ => Nat.zero_le _
  | _ :: _, [], _ => Nat.zero_le _
  | r :: rs, p :: ps, h => by
    have ih := lft_le (ps := ps) fun x hx => h x (List.mem_cons_of_mem r hx)
    have h1 := h r List.mem_cons_self
    show (r.length - p) + lft rs ps ≤ m * (rs.length + 1)
    rw [Nat.mul_add]
    omega
def MetO (kvs : List (List Key × V)) (met : List (List Nat)) : Prop := kvs.length = met.length ∧ ∀ ps : List Nat, (valV kvs (nk ps)).isSome = decide (ps ∈ met)
theorem MetO.nil : MetO [] [] := ⟨rfl, fun ps => rfl⟩
theorem MetO.put {kvs : List (List Key × V)} {met : List (List Nat)} (m : MetO kvs met) {ps : List Nat} (h : ps ∉ met) (v : V) : MetO (putK kvs (nk ps) v) (met ++ [ps]) := by
  have e : valV kvs (nk ps) = none := by
    have := m.2 ps
    rw [decide_eq_false h] at this
    exact Option.isSome_eq_false_iff.mp this |> Option.isNone_iff_eq_none.mp
  refine ⟨by rw [putK_new v e, List.length_append, List.length_append, m.1]; rfl, fun ps' => ?_⟩
  rw [valV_put]
  by_cases c : ps' = ps
  · subst c
    rw [if_pos rfl]
    symm
    exact decide_eq_true (List.mem_append_right _ (List.mem_singleton.mpr rfl))
  · rw [if_neg (fun z => c (nk_inj z)), m.2]
    congr 1
    simp only [List.mem_append, List.mem_singleton, eq_iff_iff]
    exact ⟨fun z => .inl z, fun z => z.resolve_right c⟩
def TupI (H : Hp) (v : V) (ns : List Int) : Prop := ∃ a, v = .ref a ∧ H a = some (.tup (iv ns))
theorem TupI.tk {H H' : Hp} {v : V} {ns : List Int} (i : TupI H v ns) (t : Tk H H') : TupI H' v ns := by
  obtain ⟨a, e, h⟩ := i
  exact ⟨a, e, t _ _ h⟩
def ItO (H : Hp) (v : V) (c : Co) : Prop := ∃ x y z, v = .ref x ∧ H x = some (.tup [.ref y, .ref z]) ∧ H y = some (.tup (iv (nz c.1))) ∧ H z = some (.tup (iv c.2))
theorem ItO.tk {H H' : Hp} {v : V} {c : Co} (i : ItO H v c) (t : Tk H H') : ItO H' v c := by
  obtain ⟨x, y, z, e, h1, h2, h3⟩ := i
  exact ⟨x, y, z, e, t _ _ h1, t _ _ h2, t _ _ h3⟩
structure SoC (H : Hp) (I en : Addr) (rows : Rws) : Prop where
  hi : ∃ is, H I = some (.lst is) ∧ Al (TupI H) is rows
  he : H en = some (.tup (iv (nz (endsO rows))))
theorem SoC.same {H H' : Hp} {I en : Addr} {rows : Rws} (c : SoC H I en rows) (s : Same H H') : SoC H' I en rows where
  hi := by obtain ⟨is, h, a⟩ := c.hi; exact ⟨is, s _ _ h, a.imp fun v x h => h.tk (Tk.of s)⟩
  he := s _ _ c.he
def kfo (rows : Rws) (c : Co) (ts : List Int) : List Co := ts.filterMap fun t => (dlo rows c.1 t).map fun s' => (s', c.2 ++ [t])
theorem kfo_cons {rows : Rws} {c : Co} {t : Int} {ts : List Int} (h : t ∈ wantO rows c.1) : kfo rows c (t :: ts) = (aheadO rows c.1 t, c.2 ++ [t]) :: kfo rows c ts := by
  unfold kfo
  rw [List.filterMap_cons, show dlo rows c.1 t = some (aheadO rows c.1 t) from if_pos h]
  rfl
/-! ### the comprehension of the places ahead -/
def ahE (K : PySem.W.Frag) : TE := tCB (fun xs H_1 Q => ∃ p ys, xs = [V.ref p] ∧ ((SqL K H_1 p ys ∧ ∀ (l : Addr), H_1 l = none → Q (V.ref l) (upd H_1 l (HO.tup ys))) ∨ SqT K H_1 p ys ∧ Q (V.ref p) H_1)) (tCons (tLc (iZipLT K (tCons (tVar 5) (tCons (tVar 10) tNil))) (gTup K 2 (gCons (gName 14) (gCons (gName 15) gNil))) tYes
  (tOp (rI0 fun i j => V.int (i + j)) (tVar 15) (tCB (fun xs H Q => (∃ i, xs = [V.int i] ∧ Q (V.int i) H) ∨ ∃ k, xs = [V.bl k] ∧ Q (V.int (if k = true then 1 else 0)) H) (tCons (tOp (rEqD K) (tSl (rSlA K) (tVar 14) (tPart (tVar 15)) (tPart (tOp (rI0 fun i j => V.int (i + j)) (tVar 15) (tC (V.int 1))))) (tTup (tCons (tVar 12) tNil))) tNil))) [14, 15]) tNil)
theorem zip_get {α β : Type} {xs : List α} {ys : List β} {i : Nat} {x : α} {y : β} (h1 : xs[i]? = some x) (h2 : ys[i]? = some y) : (xs.zip ys)[i]? = some (x, y) := by
  rw [List.getElem?_zip_eq_some]
  exact ⟨h1, h2⟩
theorem cut_iv {r : List Int} {p : Nat} : cutV (iv r) (some ((p : Nat) : Int)) (some ((p : Nat) + 1 : Int)) = iv ((r.drop p).take 1) := by
  rw [cut_one]
  unfold iv
  rw [List.map_take, List.map_drop]
theorem cut_whole {r : List Int} {p : Nat} (h : HT.sIx (iv r).length 0 (some ((p : Nat) : Int)) = 0 ∧ HT.sIx (iv r).length (iv r).length (some ((p : Nat) + 1 : Int)) = (iv r).length) : iv r = iv ((r.drop p).take 1) := by
  rw [iv_len] at h
  have h1 := h.1
  have h2 := h.2
  rw [HT.sIx_nat] at h1
  rw [show ((p : Nat) + 1 : Int) = ((p + 1 : Nat) : Int) from rfl, HT.sIx_nat] at h2
  congr 1
  by_cases c : p = 0
  · subst c
    rw [List.drop_zero, List.take_of_length_le (by omega)]
  · have : r.length = 0 := by omega
    rw [List.length_eq_zero_iff.mp this]
    simp
theorem take_one {r : List Int} {p : Nat} {t : Int} : decide ((r.drop p).take 1 = [t]) = true ↔ r[p]? = some t := by
  rw [decide_eq_true_eq]
  by_cases h : p < r.length
  · rw [List.drop_eq_getElem_cons h, List.getElem?_eq_getElem h, List.take_succ_cons, List.take_zero, List.cons.injEq, Option.some.injEq]
    exact ⟨fun z => z.1, fun z => ⟨z, rfl⟩⟩
  · rw [List.drop_of_length_le (by omega), List.getElem?_eq_none (by omega)]
    simp
theorem ah_go {K : PySem.W.Frag} {H : Hp} {rows : Rws} {ps : List Nat} {I en y : Addr} {s0 s1 s2 s3 s4 s6 s7 s8 s9 s11 s13 s14 s15 : Option V} {t : Int} {Q : VK} (C : SoC H I en rows) (hl : ps.length = rows.length) (h3 : rows.length ≤ 1000) (hy : H y = some (.tup (iv (nz ps))))
    (k : ∀ H' p, Same H H' → H' p = some (.tup (iv (nz (aheadO rows ps t)))) → Q (.ref p) H') : ahE K [s0, s1, s2, s3, s4, some (.ref I), s6, s7, s8, s9, some (.ref y), s11, some (.int t), s13, s14, s15] H Q := by
  obtain ⟨is, hI, al⟩ := C.hi
  have hll : is.length = (iv (nz ps)).length := by rw [al.1, iv_len, nz, List.length_map, hl]
  refine ⟨_, rfl, _, rfl, I, y, is, _, rfl, SqL.of hI, SqT.of hy, fun D hD => ?_⟩
  refine lc_zipr (fun i l _ => i ≤ is.length ∧ l = iv (nz (((rows.zip ps).take i).map (ah1 t)))) hll hI hy hD (by rw [al.1]; omega) ⟨Nat.zero_le _, rfl⟩ (fun _ _ _ _ _ h => h) ?_ ?_ ?_
  · rintro i l _ ⟨hi, rfl⟩
    rw [iv_len, nz, List.length_map, List.length_map, List.length_take]
    omega
  · rintro i x v H2 l T hx hv s2 hT ⟨hi, rfl⟩ C1 C0 c1 c0
    obtain ⟨r, hr, a, rfl, ha⟩ := al.get hx
    obtain ⟨z, hz, rfl⟩ := iv_get hv
    obtain ⟨p, hp, rfl⟩ : ∃ p : Nat, ps[i]? = some p ∧ z = p := by
      unfold nz at hz
      rw [List.getElem?_map] at hz
      cases q : ps[i]? with
      | none => rw [q] at hz; cases hz
      | some p => rw [q] at hz; exact ⟨p, rfl, (Option.some.inj hz).symm⟩
    have ha2 := s2 _ _ ha
    have fin : ∀ H3, Same H2 H3 → ∀ b : Bool, (b = true ↔ r[p]? = some t) → C1 (.int ((p : Int) + (if b = true then 1 else 0))) H3 := fun H3 s3 b hb => by
      refine c1 _ H3 s3 ⟨lt_of_get hx, ?_⟩
      rw [take_more (zip_get hr hp), List.map_append]
      have e : ((p : Int) + (if b = true then 1 else 0)) = ((ah1 t (r, p) : Nat) : Int) := by
        unfold ah1
        by_cases c : r[p]? = some t
        · rw [if_pos (hb.mpr c), if_pos c]
          rfl
        · rw [if_neg (fun z => c (hb.mp z)), if_neg c]
          show (p : Int) + 0 = p
          omega
      rw [e]
      unfold nz iv
      simp
    refine ⟨T, _, rfl, SqT.of hT, rfl, _, _, rfl, _, _, rfl, rfl, rfl, ?_⟩
    refine ⟨_, rfl, _, rfl, _, rfl, (p : Int), rfl, _, rfl, _, _, rfl, rfl, _, rfl, a, _, rfl, SqT.of ha2, fun q => ?_, fun _ q hq => ?_⟩
    · have hq : H2 a = some (.tup (iv ((r.drop p).take 1))) := by
        rw [ha2, cut_whole q]
      refine ⟨_, rfl, Nat.le_of_lt (smallLine (by simp)), fun p6 hp6 => ?_⟩
      generalize hH6 : upd _ p6 _ = H6
      obtain ⟨s6, h6⟩ := got hH6 hp6
      exact eqT (ns := (r.drop p).take 1) (ms := [t]) (s6 _ _ hq) h6 (.inr ⟨_, rfl, _, _, rfl, rfl, fin H6 s6 _ take_one⟩)
    · generalize hH5 : upd _ q _ = H5
      obtain ⟨s5, h5⟩ := got hH5 hq
      rw [cut_iv] at h5
      refine ⟨_, rfl, Nat.le_of_lt (smallLine (by simp)), fun p6 hp6 => ?_⟩
      generalize hH6 : upd _ p6 _ = H6
      obtain ⟨s6, h6⟩ := got hH6 hp6
      exact eqT (ns := (r.drop p).take 1) (ms := [t]) (s6 _ _ h5) h6 (.inr ⟨_, rfl, _, _, rfl, rfl, fin H6 (s5.trans s6) _ take_one⟩)
  · rintro H2 l s2 h2 ⟨_, rfl⟩
    rw [List.take_of_length_le (by rw [List.length_zip, al.1]; omega)] at h2
    exact ⟨D, _, rfl, .inl ⟨SqL.of h2, fun q hq => k _ q (Same.nw s2 hq) upd_same⟩⟩
/-! ### the comprehension of the tones wanted -/
def waE (K : PySem.W.Frag) : TE := tLc (iZipLT K (tCons (tVar 5) (tCons (tVar 10) tNil))) (gTup K 2 (gCons (gName 14) (gCons (gName 15) gNil))) (tTest (tOp (rI0 fun i j => V.bl (decide (i < j))) (tVar 15) (tCB (fun xs H Q => ∃ p ys, xs = [V.ref p] ∧ (SqL K H p ys ∨ SqT K H p ys) ∧ Q (V.int ↑ys.length) H) (tCons (tVar 14) tNil))))
  (tOp (rIxT K) (tVar 14) (tVar 15)) [14, 15]
theorem want_go {K : PySem.W.Frag} {H : Hp} {rows : Rws} {ps : List Nat} {I en y : Addr} {s0 s1 s2 s3 s4 s6 s7 s8 s9 s11 s12 s13 s14 s15 : Option V} {Q : VK} (C : SoC H I en rows) (hl : ps.length = rows.length) (h3 : rows.length ≤ 1000) (hy : H y = some (.tup (iv (nz ps))))
    (k : ∀ H' p, Same H H' → H' p = some (.lst (iv (wantO rows ps))) → Q (.ref p) H') : waE K [s0, s1, s2, s3, s4, some (.ref I), s6, s7, s8, s9, some (.ref y), s11, s12, s13, s14, s15] H Q := by
  obtain ⟨is, hI, al⟩ := C.hi
  have hll : is.length = (iv (nz ps)).length := by rw [al.1, iv_len, nz, List.length_map, hl]
  refine ⟨_, rfl, _, rfl, I, y, is, _, rfl, SqL.of hI, SqT.of hy, fun D hD => ?_⟩
  refine lc_zipr (fun i l _ => i ≤ is.length ∧ l = iv (((rows.zip ps).take i).filterMap fun x => x.1[x.2]?)) hll hI hy hD (by rw [al.1]; omega) ⟨Nat.zero_le _, rfl⟩ (fun _ _ _ _ _ h => h) ?_ ?_ ?_
  · rintro i l _ ⟨hi, rfl⟩
    rw [iv_len]
    refine Nat.le_trans (List.length_filterMap_le _ _) ?_
    rw [List.length_take]
    omega
  · rintro i x v H2 l T hx hv s2 hT ⟨hi, rfl⟩ C1 C0 c1 c0
    obtain ⟨r, hr, a, rfl, ha⟩ := al.get hx
    obtain ⟨z, hz, rfl⟩ := iv_get hv
    obtain ⟨p, hp, rfl⟩ : ∃ p : Nat, ps[i]? = some p ∧ z = p := by
      unfold nz at hz
      rw [List.getElem?_map] at hz
      cases q : ps[i]? with
      | none => rw [q] at hz; cases hz
      | some p => rw [q] at hz; exact ⟨p, rfl, (Option.some.inj hz).symm⟩
    have ha2 := s2 _ _ ha
    refine ⟨T, _, rfl, SqT.of hT, rfl, _, _, rfl, _, _, rfl, rfl, rfl, _, rfl, _, rfl, a, _, rfl, .inr (SqT.of ha2), _, _, rfl, rfl, _, rfl, ?_⟩
    rw [iv_len]
    by_cases c : p < r.length
    · have hn : r[p]? = some r[p] := List.getElem?_eq_getElem c
      refine iteT' (decide_eq_true (by omega)) ⟨_, rfl, _, rfl, a, _, _, .int r[p], rfl, rfl, SqT.of ha2, atI_nat (iv_at hn), c1 _ H2 (Same.refl H2) ⟨lt_of_get hx, ?_⟩⟩
      rw [take_more (zip_get hr hp), List.filterMap_append]
      unfold iv
      rw [List.map_append]
      congr 1
      simp [hn]
    · refine iteF' (decide_eq_false (by omega)) (c0 H2 (Same.refl H2) ⟨lt_of_get hx, ?_⟩)
      rw [take_more (zip_get hr hp), List.filterMap_append]
      simp [List.getElem?_eq_none (Nat.le_of_not_lt c)]
  · rintro H2 l s2 h2 ⟨_, rfl⟩
    rw [List.take_of_length_le (by rw [List.length_zip, al.1]; omega)] at h2
    exact k H2 D s2 h2
/-! ### the innermost loop -/
def SoIn (H0 : Hp) (pre : List (Option V)) (M L F y z S : Addr) (vs : List V) (rows : Rws) (d : Nat) (past level : List Co) (c : Co) (R : List Co) (j : Nat) : L2.St → Hp → Prop := fun σ H' =>
  ∃ (u1 u2 u3 u4 : Option V) (met : List (List Nat)) (foll don : List Co) (kvs : List (List Key × V)) (fs : List V), σ = pre ++ [u1, u2, u3, u4] ∧ Same H0 H' ∧ H' M = some (.dT kvs) ∧ MetO kvs met ∧ H' F = some (.lst fs) ∧ Al (ItO H') fs foll ∧
    H' L = some (.lst vs) ∧ Al (ItO H') vs level ∧ H' y = some (.tup (iv (nz c.1))) ∧ H' z = some (.tup (iv c.2)) ∧ Mid (dlo rows) (symo rows) (rows.map fun _ => 0) d past level foll met don (kfo rows c ((symo rows c.1).drop j) ++ R) ∧ foll.length ≤ met.length ∧ H' S = some (.lst (iv (symo rows c.1)))
def soTurn (K : PySem.W.Frag) : TS := tSeq (tAsg (ahE K) (gName 13)) (tIfS (tB (tDNotIn (tVar 13) (tVar 8))) (tSeq (sDPut (tVar 8) (tVar 13) (tC (V.bl true))) (tDrop (tBM K "list" rAppend (tVar 9) (tCons (tTup (tCons (tVar 13) (tCons (tOp (rCatA K) (tVar 4) (tTup (tCons (tVar 12) tNil))) tNil))) tNil)))) tNext)
theorem ah_seq {K : PySem.W.Frag} {H : Hp} {rows : Rws} {ps : List Nat} {I en y : Addr} {s0 s1 s2 s3 s4 s6 s7 s8 s9 s11 s13 s14 s15 : Option V} {t : Int} {D : Ends} {u : TS} (C : SoC H I en rows) (hl : ps.length = rows.length) (h3 : rows.length ≤ 1000) (hy : H y = some (.tup (iv (nz ps))))
    (k : ∀ H' p, Same H H' → H' p = some (.tup (iv (nz (aheadO rows ps t)))) → u D [s0, s1, s2, s3, s4, some (.ref I), s6, s7, s8, s9, some (.ref y), s11, some (.int t), some (.ref p), s14, s15] H') : tSeq (tAsg (ahE K) (gName 13)) u D [s0, s1, s2, s3, s4, some (.ref I), s6, s7, s8, s9, some (.ref y), s11, some (.int t), s13, s14, s15] H :=
  ah_go (Q := fun v H1 => u D [s0, s1, s2, s3, s4, some (.ref I), s6, s7, s8, s9, some (.ref y), s11, some (.int t), some v, s14, s15] H1) C hl h3 hy k
theorem so_turn {K : PySem.W.Frag} {D : Ends} {H0 : Hp} {I en M L F y z S : Addr} {s0 s1 s2 s3 s11 : Option V} {vs : List V} {rows : Rws} {d : Nat} {past level : List Co} {c : Co} {R : List Co} {j : Nat} (C : SoC H0 I en rows) (hM : H0 M = none) (hF : H0 F = none) (hLF : L ≠ F) (hSF : S ≠ F)
    (h3 : rows.length ≤ 3) (hr : ∀ r ∈ rows, r.length ≤ 40) (hrun : run (dlo rows) (rows.map fun _ => 0) c.2 = some c.1) (hc2 : c.2.length ≤ 1000) {t : Int} (ht : (symo rows c.1)[j]? = some t) {σ : L2.St} {H' : Hp}
    (hP : SoIn H0 [s0, s1, s2, s3, some (.ref z), some (.ref I), some (.ref en), some (.ref L), some (.ref M), some (.ref F), some (.ref y), s11] M L F y z S vs rows d past level c R j σ H')
    (hnx : D.nx = SoIn H0 [s0, s1, s2, s3, some (.ref z), some (.ref I), some (.ref en), some (.ref L), some (.ref M), some (.ref F), some (.ref y), s11] M L F y z S vs rows d past level c R (j + 1)) : soTurn K D (σ.set 12 (some (.int t))) H' := by
  obtain ⟨u1, u2, u3, u4, met, foll, don, kvs, fs, rfl, q0, hM', mu, hF', af, hL', al, hy, hz, mid, fm, hS⟩ := hP
  have hv := (Vd.zero rows).run hrun
  have hdrop : (symo rows c.1).drop j = t :: (symo rows c.1).drop (j + 1) := by
    obtain ⟨hj, e⟩ := List.getElem?_eq_some_iff.mp ht
    rw [List.drop_eq_getElem_cons hj, e]
  have hw : t ∈ wantO rows c.1 := asc_mem.mp (List.mem_of_getElem? ht)
  rw [hdrop, kfo_cons hw] at mid
  refine ah_seq (C.same q0) hv.len (by omega) hy fun H2 p q2 hp => ?_
  have q02 := q0.trans q2
  have hM2 := q2 _ _ hM'
  have hF2 := q2 _ _ hF'
  have hL2 := q2 _ _ hL'
  have hS2 := q2 _ _ hS
  have hy2 := q2 _ _ hy
  have hz2 := q2 _ _ hz
  have af2 := af.imp fun v x h => h.tk (Tk.of q2)
  have al2 := al.imp fun v x h => h.tk (Tk.of q2)
  refine ⟨_, rfl, _, rfl, M, _, rfl, DGet.t (k := nk (aheadO rows c.1 t)) hM2 (by rw [nk_kV]; exact hp), _, rfl, ?_⟩
  rw [mu.2]
  by_cases cC : aheadO rows c.1 t ∈ met
  · refine iteF' (by rw [decide_eq_true cC]; rfl) ?_
    show D.nx _ _
    rw [hnx]
    exact ⟨_, _, _, _, met, foll, _, kvs, fs, rfl, q02, hM2, mu, hF2, af2, hL2, al2, hy2, hz2, mid.skip cC, fm, hS2⟩
  refine iteT' (by rw [decide_eq_false cC]; rfl) ?_
  have ml : met.length ≤ 262144 := met_len mid.nd h3 hr fun s hs => by
    obtain ⟨c', hc', _, rfl⟩ := (mid.mt s).mp hs
    exact (Vd.zero rows).run (mid.ok c' hc')
  have mid2 := mid.add cC
  have mu3 := mu.put cC (.bl true)
  have nF : F ≠ M := fun z => by rw [z, hM2] at hF2; cases hF2
  have nL : L ≠ M := fun z => by rw [z, hM2] at hL2; cases hL2
  have nS : S ≠ M := fun z => by rw [z, hM2] at hS2; cases hS2
  refine ⟨_, rfl, _, rfl, M, _, rfl, DPut.t (k := nk (aheadO rows c.1 t)) hM2 (by rw [nk_kV]; exact hp) (smallLine (by rw [mu.1]; omega)), ?_⟩
  have q03 : Same H0 (upd H2 M (.dT (putK kvs (nk (aheadO rows c.1 t)) (.bl true)))) := Same.out q02 hM
  have t3 : Tk H2 (upd H2 M (.dT (putK kvs (nk (aheadO rows c.1 t)) (.bl true)))) := Tk.put hM2 (fun _ z => by cases z)
  have hM3 : upd H2 M (.dT (putK kvs (nk (aheadO rows c.1 t)) (.bl true))) M = _ := upd_same
  have hF3 : upd H2 M (.dT (putK kvs (nk (aheadO rows c.1 t)) (.bl true))) F = _ := (upd_ne nF).trans hF2
  have hL3 : upd H2 M (.dT (putK kvs (nk (aheadO rows c.1 t)) (.bl true))) L = _ := (upd_ne nL).trans hL2
  have hS3 : upd H2 M (.dT (putK kvs (nk (aheadO rows c.1 t)) (.bl true))) S = _ := (upd_ne nS).trans hS2
  generalize upd H2 M (.dT (putK kvs (nk (aheadO rows c.1 t)) (.bl true))) = H3 at q03 t3 hM3 hF3 hL3 hS3
  have hp3 := t3 _ _ hp
  have hz3 := t3 _ _ hz2
  have hw2 : iv (c.2 ++ [t]) = iv c.2 ++ [V.int t] := List.map_append
  refine ⟨_, rfl, .inl ⟨rfl, _, SqL.of hF3⟩, _, rfl, _, rfl, _, rfl, Nat.le_of_lt (smallLine (by simp)), fun p4 hp4 => ?_⟩
  refine catA (Same.new hp4 _ _ hz3) upd_same (by rw [iv_len]; simp; omega) fun H5 p5 q5 h5 => ?_
  refine ⟨Nat.le_of_lt (smallLine (by simp)), fun p6 hp6 => ?_⟩
  generalize hH6 : upd _ p6 _ = H6
  obtain ⟨q6, h6⟩ := got hH6 hp6
  have q36 : Same H3 H6 := ((Same.new hp4).trans q5).trans q6
  have h56 : H6 p5 = some (.tup (iv (c.2 ++ [t]))) := by rw [hw2]; exact q6 _ _ h5
  have hF6 := q36 _ _ hF3
  have t6 : Tk H6 (upd H6 F (.lst (fs ++ [V.ref p6]))) := Tk.put hF6 (fun _ z => by cases z)
  have t26 : Tk H2 (upd H6 F (.lst (fs ++ [V.ref p6]))) := (t3.trans (Tk.of q36)).trans t6
  refine ⟨F, fs, _, rfl, rfl, hF6, smallLine (by rw [af.1]; omega), ?_⟩
  rw [hnx]
  refine ⟨_, _, _, _, _, foll ++ [(aheadO rows c.1 t, c.2 ++ [t])], _, _, fs ++ [V.ref p6], rfl, Same.out (q03.trans q36) hF, ?_, mu3, upd_same, ?_, ?_, ?_, t26 _ _ hy2, t26 _ _ hz2, mid2, ?_, by rw [upd_ne hSF]; exact q36 _ _ hS3⟩
  · rw [upd_ne nF.symm]
    exact q36 _ _ hM3
  · exact (af2.imp fun v x h => h.tk t26).snoc ⟨p6, p, p5, rfl, t6 _ _ h6, t26 _ _ hp, t6 _ _ h56⟩
  · rw [upd_ne hLF]
    exact q36 _ _ hL3
  · exact al2.imp fun v x h => h.tk t26
  · rw [List.length_append, List.length_append]
    exact Nat.add_le_add_right fm 1
theorem want_seq {K : PySem.W.Frag} {H : Hp} {rows : Rws} {ps : List Nat} {I en y : Addr} {s0 s1 s2 s3 s4 s6 s7 s8 s9 s11 s12 s13 s14 s15 : Option V} {D : Ends} {u : TS} (C : SoC H I en rows) (hl : ps.length = rows.length) (h3 : rows.length ≤ 1000) (hy : H y = some (.tup (iv (nz ps))))
    (k : ∀ H' p, Same H H' → H' p = some (.lst (iv (wantO rows ps))) → u D [s0, s1, s2, s3, s4, some (.ref I), s6, s7, s8, s9, some (.ref y), some (.ref p), s12, s13, s14, s15] H') : tSeq (tAsg (waE K) (gName 11)) u D [s0, s1, s2, s3, s4, some (.ref I), s6, s7, s8, s9, some (.ref y), s11, s12, s13, s14, s15] H :=
  want_go (Q := fun v H1 => u D [s0, s1, s2, s3, s4, some (.ref I), s6, s7, s8, s9, some (.ref y), some v, s12, s13, s14, s15] H1) C hl h3 hy k
/-- the loop over a level at its turn i -/
def SoMid (H0 : Hp) (s0 s1 s2 s3 : Option V) (I en M L F : Addr) (vs : List V) (rows : Rws) (d : Nat) (past level : List Co) (i : Nat) : L2.St → Hp → Prop := fun σ H' =>
  ∃ (v4 u1 u2 u3 u4 u5 u6 : Option V) (met : List (List Nat)) (foll don : List Co) (kvs : List (List Key × V)) (fs : List V), σ = [s0, s1, s2, s3, v4, some (.ref I), some (.ref en), some (.ref L), some (.ref M), some (.ref F), u1, u2, u3, u4, u5, u6] ∧ Same H0 H' ∧ H' M = some (.dT kvs) ∧ MetO kvs met ∧ H' F = some (.lst fs) ∧ Al (ItO H') fs foll ∧
    H' L = some (.lst vs) ∧ Al (ItO H') vs level ∧ Mid (dlo rows) (symo rows) (rows.map fun _ => 0) d past level foll met don (cands (dlo rows) (symo rows) (level.drop i)) ∧ foll.length ≤ met.length ∧ (∀ e ∈ level.take i, e.1 ≠ endsO rows)
def soLevel (K : PySem.W.Frag) (w : World) : TS := tSeq (tIfS (tTest (tOp (rEqD K) (tVar 10) (tVar 6))) (tRet (tVar 4)) tNext) (tSeq (tAsg (waE K) (gName 11)) (tFor (iList K (tCB (rSortedSetI w) (tCons (tCB (rSetI K w) (tCons (tVar 11) tNil)) tNil))) (gName 12) (soTurn K)))
theorem so_level {K : PySem.W.Frag} {w : World} {D : Ends} {H0 : Hp} {I en M L F : Addr} {s0 s1 s2 s3 : Option V} {vs : List V} {rows : Rws} {d : Nat} {past level : List Co} {met0 : List (List Nat)} {i : Nat} (C : SoC H0 I en rows) (hM : H0 M = none) (hF : H0 F = none) (hLF : L ≠ F)
    (h3 : rows.length ≤ 3) (hr : ∀ r ∈ rows, r.length ≤ 40) (lev : Lev (dlo rows) (rows.map fun _ => 0) d past level met0) (hp : ∀ e ∈ past, e.1 ≠ endsO rows) (hd2 : d ≤ 1000) {v : V} (hi : vs[i]? = some v) {σ : L2.St} {H' : Hp}
    (hP : SoMid H0 s0 s1 s2 s3 I en M L F vs rows d past level i σ H') (hnx : D.nx = SoMid H0 s0 s1 s2 s3 I en M L F vs rows d past level (i + 1))
    (hrt : ∀ w, IsMin (PP rows (rows.map fun _ => 0)) (some w) → ∀ H' p, Same H0 H' → H' p = some (.tup (iv w)) → D.rt (.ref p) H') : gTup K 2 (gCons (gName 10) (gCons (gName 4) gNil)) v σ H' fun σ2 H2 => soLevel K w D σ2 H2 := by
  obtain ⟨v4, u1, u2, u3, u4, u5, u6, met, foll, don, kvs, fs, rfl, q0, hM', mu, hF', af, hL', al, mid, fm, ng⟩ := hP
  obtain ⟨c, hc, x, y, z, rfl, hx, hy, hz⟩ := al.get hi
  have hdrop : level.drop i = c :: level.drop (i + 1) := by
    obtain ⟨hj, e⟩ := List.getElem?_eq_some_iff.mp hc
    rw [List.drop_eq_getElem_cons hj, e]
  have hcm : c ∈ level := List.mem_of_getElem? hc
  have hrun := mid.ok c (by simp [hcm])
  have hcl2 := mid.llen c hcm
  have hv := (Vd.zero rows).run hrun
  have C' := C.same q0
  refine ⟨x, _, rfl, SqT.of hx, rfl, _, _, rfl, _, _, rfl, rfl, ?_⟩
  refine ⟨_, rfl, _, rfl, eqT hy C'.he ⟨_, rfl, ?_⟩⟩
  by_cases ce : c.1 = endsO rows
  · refine iteT' (decide_eq_true (by rw [ce])) ⟨_, rfl, hrt c.2 ?_ H' z q0 hz⟩
    have el : level = level.take i ++ c :: level.drop (i + 1) := by rw [← hdrop, List.take_append_drop]
    refine IsMin.congr (fun w => ?_) (lev.found el (G := fun s => s = endsO rows) (fun e he => ?_) ce)
    · constructor
      · rintro ⟨s, h, rfl⟩
        exact h
      · exact fun h => ⟨_, h, rfl⟩
    · rcases List.mem_append.mp he with q | q
      · exact hp e q
      · exact ng e q
  refine iteF' (decide_eq_false fun e => ce (nz_inj e)) ?_
  refine want_seq C' hv.len (by omega) hy fun H2 W q2 hW => ?_
  refine ⟨_, rfl, W, _, rfl, .inl (SqL.of hW), ?_, fun p3 hp3 => ⟨p3, wantO rows c.1, _, rfl, upd_same, fun S hS => ⟨S, rfl, ⟨_, SqL.of upd_same⟩, ?_⟩⟩⟩
  · unfold wantO
    refine Nat.le_trans (List.length_filterMap_le _ _) ?_
    rw [List.length_zip]
    omega
  generalize hH4 : upd _ S _ = H4
  obtain ⟨q4, h4⟩ := got hH4 hS
  have q04 : Same H' H4 := (q2.trans (Same.new hp3)).trans q4
  have hF4 := q04 _ _ hF'
  have hSF : S ≠ F := (ne_of_none ((Same.new hp3) _ _ (q2 _ _ hF')) hS).symm
  refine for_list (xs := iv (symo rows c.1)) (fun j σ' H5 => SoIn H0 [s0, s1, s2, s3, some (.ref z), some (.ref I), some (.ref en), some (.ref L), some (.ref M), some (.ref F), some (.ref y), some (.ref W)] M L F y z S vs rows d past level c (cands (dlo rows) (symo rows) (level.drop (i + 1))) j σ' H5) ?_ ?_ ?_ ?_
  · rw [hdrop] at mid
    exact ⟨_, _, _, _, met, foll, don, kvs, fs, rfl, q0.trans q04, q04 _ _ hM', mu, hF4, af.imp fun v x h => h.tk (Tk.of q04), q04 _ _ hL', al.imp fun v x h => h.tk (Tk.of q04), q04 _ _ hy, q04 _ _ hz, mid, fm, h4⟩
  · rintro j σ' H5 _ ⟨_, _, _, _, _, _, _, _, _, _, _, _, _, _, _, _, _, _, _, _, _, h⟩
    exact SqL.of h
  · intro j t σ' H5 ht hP
    obtain ⟨t, ht2, rfl⟩ := iv_get ht
    exact so_turn (D := { D with nx := _, ct := _, bk := D.nx }) C hM hF hLF hSF h3 hr hrun (by omega) ht2 hP rfl
  · rintro σ' H5 ⟨w1, w2, w3, w4, met', foll', don', kvs', fs', rfl, q5, hM5, mu5, hF5, af5, hL5, al5, hy5, hz5, mid5, fm5, hS5⟩
    rw [hnx]
    rw [iv_len, List.drop_length] at mid5
    refine ⟨_, _, _, _, _, _, _, met', foll', don', kvs', fs', rfl, q5, hM5, mu5, hF5, af5, hL5, al5, mid5, fm5, fun e he => ?_⟩
    rw [take_more hc] at he
    rcases List.mem_append.mp he with q | q
    · exact ng e q
    · rw [List.mem_singleton.mp q]
      exact ce
end K21
end
section
set_option Elab.async false
set_option linter.all false
set_option maxRecDepth 100000
set_option maxHeartbeats 4000000
/-! walks 10: shortest_over -/
namespace K21
open PySem PySem.Spec PyProof.Rows L2
theorem map_some_inj {α : Type} : ∀ {a b : List α}, a.map some = b.map some → a = b
  | [], [], _ => rfl
  | [], _ :: _, h => by cases h
  | _ :: _, [], h => by cases h
  | x :: a, y :: b, h => by
    injection h with h1 h2
    rw [Option.some.inj h1, map_some_inj h2]
theorem short_ints {o : Option (List (Option (List V)))} (h : shortIx o = none) : ∃ nss : Rws, o = some (nss.map fun ns => some (iv ns)) ∧ 1 ≤ nss.length ∧ nss.length ≤ 3 ∧ ∀ ns ∈ nss, ns.length ≤ 12 ∧ ∀ t ∈ ns, 0 ≤ t ∧ t ≤ 99 := by
  cases o with
  | none => cases h
  | some os =>
    have h' : (if os.length = 0 ∨ 3 < os.length then some 0 else badRowAt os) = none := h
    split at h'
    · cases h'
    rename_i c
    have key : ∀ (os : List (Option (List V))), badRowAt os = none → ∃ nss : Rws, os = nss.map (fun ns => some (iv ns)) ∧ ∀ ns ∈ nss, ns.length ≤ 12 ∧ ∀ t ∈ ns, 0 ≤ t ∧ t ≤ 99 := by
      intro os
      induction os with
      | nil => exact fun _ => ⟨[], rfl, fun ns h => by cases h⟩
      | cons o os ih =>
        intro hb
        have h0 := List.findIdx?_eq_none_iff.mp hb
        have h1 : givenIx o 12 = none := by
          have := h0 o List.mem_cons_self
          simpa using this
        obtain ⟨nss, e, hn⟩ := ih (List.findIdx?_eq_none_iff.mpr fun y hy => h0 y (List.mem_cons_of_mem _ hy))
        obtain ⟨ns, e1, l1, c1⟩ := row_ints h1
        refine ⟨ns :: nss, by rw [e, e1]; rfl, fun x hx => ?_⟩
        rcases List.mem_cons.mp hx with q | q
        · subst q
          exact ⟨l1, c1⟩
        · exact hn x q
    obtain ⟨nss, e, hn⟩ := key os h'
    have el : os.length = nss.length := by rw [e, List.length_map]
    exact ⟨nss, by rw [e], by omega, by omega, hn⟩
abbrev tupT (K : PySem.W.Frag) (te : TE) : TE := tCB (fun xs H_1 Q => ∃ p ys, xs = [V.ref p] ∧ ((SqL K H_1 p ys ∧ ∀ (l : Addr), H_1 l = none → Q (V.ref l) (upd H_1 l (HO.tup ys))) ∨ SqT K H_1 p ys ∧ Q (V.ref p) H_1)) (tCons te tNil)
/-- tuple([te for row in inner]), te an int told by out -/
theorem tl_go {K : PySem.W.Frag} {te : TE} {H : Hp} {I : Addr} {is : List V} {out : List Int} {s0 s1 s2 s3 s4 : Option V} {r : List (Option V)} {Q : VK} (hI : H I = some (.lst is)) (hn : is.length ≤ 1000) (hl : out.length = is.length)
    (ht : ∀ (i : Nat) x z H2, is[i]? = some x → out[i]? = some z → Same H H2 → ∀ C1 : V → Hp → Prop, C1 (.int z) H2 → te (s0 :: s1 :: s2 :: s3 :: some x :: some (.ref I) :: r) H2 C1)
    (k : ∀ H' p, Same H H' → H' p = some (.tup (iv out)) → Q (.ref p) H') : tupT K (tLc (iList K (tVar 5)) (gName 4) tYes te [4]) (s0 :: s1 :: s2 :: s3 :: s4 :: some (.ref I) :: r) H Q := by
  refine ⟨_, rfl, I, rfl, ⟨_, SqL.of hI⟩, fun D hD => ?_⟩
  refine lc_listr (fun i l _ => i ≤ is.length ∧ l = iv (out.take i)) hI hD (by omega) ⟨Nat.zero_le _, rfl⟩ (fun _ _ _ _ _ h => h) ?_ ?_ ?_
  · rintro i l _ ⟨hi, rfl⟩
    rw [iv_len, List.length_take]
    omega
  · rintro i x H2 l hx s2' ⟨hi, rfl⟩ C1 C0 c1 c0
    have hi2 := lt_of_get hx
    have ho : out[i]? = some out[i] := List.getElem?_eq_getElem (by omega)
    refine ⟨rfl, ?_⟩
    refine ht i x out[i] H2 hx ho s2' C1 (c1 _ H2 (Same.refl H2) ⟨hi2, ?_⟩)
    rw [take_more ho]
    unfold iv
    rw [List.map_append]
    rfl
  · rintro H2 l s2' h2 ⟨_, rfl⟩
    rw [List.take_of_length_le (by omega)] at h2
    exact ⟨D, _, rfl, .inl ⟨SqL.of h2, fun q hq => k _ q (Same.nw s2' hq) upd_same⟩⟩
theorem tl_seq {K : PySem.W.Frag} {te : TE} {H : Hp} {I : Addr} {is : List V} {out : List Int} {s0 s1 s2 s3 s4 : Option V} {r : List (Option V)} {D : Ends} {u : TS} {n : Nat} (hI : H I = some (.lst is)) (hn : is.length ≤ 1000) (hl : out.length = is.length)
    (ht : ∀ (i : Nat) x z H2, is[i]? = some x → out[i]? = some z → Same H H2 → ∀ C1 : V → Hp → Prop, C1 (.int z) H2 → te (s0 :: s1 :: s2 :: s3 :: some x :: some (.ref I) :: r) H2 C1)
    (k : ∀ H' p, Same H H' → H' p = some (.tup (iv out)) → u D ((s0 :: s1 :: s2 :: s3 :: s4 :: some (.ref I) :: r).set n (some (.ref p))) H') : tSeq (tAsg (tupT K (tLc (iList K (tVar 5)) (gName 4) tYes te [4])) (gName n)) u D (s0 :: s1 :: s2 :: s3 :: s4 :: some (.ref I) :: r) H :=
  tl_go (Q := fun v H1 => u D ((s0 :: s1 :: s2 :: s3 :: s4 :: some (.ref I) :: r).set n (some v)) H1) hI hn hl ht k
theorem lev0_seq {K : PySem.W.Frag} {te : TE} {H : Hp} {I : Addr} {is : List V} {out : List Int} {s0 s1 s2 s3 s4 : Option V} {r : List (Option V)} {D : Ends} {u : TS} (hI : H I = some (.lst is)) (hn : is.length ≤ 1000) (hl : out.length = is.length)
    (ht : ∀ (i : Nat) x z H2, is[i]? = some x → out[i]? = some z → Same H H2 → ∀ C1 : V → Hp → Prop, C1 (.int z) H2 → te (s0 :: s1 :: s2 :: s3 :: some x :: some (.ref I) :: r) H2 C1)
    (k : ∀ H' L p1 y p0, Same H H' → H' y = some (.tup (iv out)) → H' p0 = some (.tup []) → H' p1 = some (.tup [.ref y, .ref p0]) → H' L = some (.lst [.ref p1]) → H L = none → u D ((s0 :: s1 :: s2 :: s3 :: s4 :: some (.ref I) :: r).set 7 (some (.ref L))) H') :
    tSeq (tAsg (tLst (tCons (tTup (tCons (tupT K (tLc (iList K (tVar 5)) (gName 4) tYes te [4])) (tCons (tTup tNil) tNil))) tNil)) (gName 7)) u D (s0 :: s1 :: s2 :: s3 :: s4 :: some (.ref I) :: r) H := by
  refine tl_go (K := K) (te := te) (out := out) (Q := fun v H1 => tTup tNil (s0 :: s1 :: s2 :: s3 :: s4 :: some (.ref I) :: r) H1 fun v2 H2 => [v, v2].length ≤ sizeLine ∧ ∀ p, H2 p = none → [V.ref p].length ≤ sizeLine ∧ ∀ L, upd H2 p (.tup [v, v2]) L = none → u D ((s0 :: s1 :: s2 :: s3 :: s4 :: some (.ref I) :: r).set 7 (some (.ref L))) (upd (upd H2 p (.tup [v, v2])) L (.lst [.ref p]))) hI hn hl ht fun H1 y q1 h1 => ?_
  refine ⟨Nat.zero_le _, fun p0 hp0 => ⟨Nat.le_of_lt (smallLine (by simp)), fun p1 hp1 => ⟨Nat.le_of_lt (smallLine (by simp)), fun L hL => ?_⟩⟩⟩
  generalize hH2 : upd H1 p0 _ = H2 at hp1 hL
  obtain ⟨q2, h2⟩ := got hH2 hp0
  generalize hH3 : upd _ p1 _ = H3 at hL
  obtain ⟨q3, h3⟩ := got hH3 hp1
  generalize hH4 : upd _ L _ = H4
  obtain ⟨q4, h4⟩ := got hH4 hL
  exact k H4 L p1 y p0 (((q1.trans q2).trans q3).trans q4) (q4 _ _ (q3 _ _ (q2 _ _ h1))) (q4 _ _ (q3 _ _ h2)) (q4 _ _ h3) h4 (((q1.trans q2).trans q3).free hL)
def soRest (K : PySem.W.Frag) (w : World) : TS := tSeq (tAsg (tLc (iList K (tVar 2)) (gName 4) tYes (tCall spWithout [] E0 (tCons (tVar 4) (tCons (tVar 3) tNil))) [4]) (gName 5))
  (tSeq (tAsg (tupT K (tLc (iList K (tVar 5)) (gName 4) tYes (tCB (fun xs H Q => ∃ p ys, xs = [V.ref p] ∧ (SqL K H p ys ∨ SqT K H p ys) ∧ Q (V.int ↑ys.length) H) (tCons (tVar 4) tNil)) [4])) (gName 6))
  (tSeq (tAsg (tLst (tCons (tTup (tCons (tupT K (tLc (iList K (tVar 5)) (gName 4) tYes (tC (V.int 0)) [4])) (tCons (tTup tNil) tNil))) tNil)) (gName 7))
  (tSeq (tAsg tDNewT (gName 8))
  (tSeq (tWhile (fun σ H_1 Q => tVar 7 σ H_1 fun x H' => ∃ k, TruV K x H' k ∧ Q k H')
    (tSeq (tAsg (tLst tNil) (gName 9)) (tSeq (tFor (iList K (tVar 7)) (gTup K 2 (gCons (gName 10) (gCons (gName 4) gNil))) (soLevel K w))
      (tAsg (tCB (fun xs H_1 Q => ∃ p ys, xs = [V.ref p] ∧ (SqL K H_1 p ys ∨ SqT K H_1 p ys) ∧ ∀ (l : Addr), H_1 l = none → Q (V.ref l) (upd H_1 l (HO.lst ys))) (tCons (tVar 9) tNil)) (gName 7)))))
  (tRet (tTup tNil))))))
theorem so_rest {K : PySem.W.Frag} {w : World} {D : Ends} {H : Hp} {W : Addr} {v1 v3 : V} {hd : Option Int} {nss : Rws} {ps : List V} (hW : H W = some (.lst ps)) (tp : Tups H ps (nss.map iv)) (h3 : nss.length ≤ 3) (hns : ∀ ns ∈ nss, ns.length ≤ 12)
    (hrt : ∀ w, IsMin (PP (nss.map (strip hd)) ((nss.map (strip hd)).map fun _ => 0)) (some w) → ∀ H' p, Same H H' → H' p = some (.tup (iv w)) → D.rt (.ref p) H') :
    soRest K w D [some v1, some v3, some (.ref W), some (hv hd), none, none, none, none, none, none, none, none, none, none, none, none] H := by
  have hpl : ps.length = nss.length := by rw [tp.1, List.length_map]
  refine ⟨_, rfl, W, rfl, ⟨_, SqL.of hW⟩, fun I hI => ?_⟩
  refine lc_listr (fun i l H2 => i ≤ ps.length ∧ Al (TupI H2) l ((nss.map (strip hd)).take i)) hW hI (by omega) ⟨Nat.zero_le _, Al.nil⟩ (fun i l H1 H2 t h => ⟨h.1, h.2.imp fun v x q => q.tk t⟩) ?_ ?_ ?_
  · rintro i l H2 ⟨hi, al⟩
    rw [al.1, List.length_take]
    omega
  · rintro i x H2 l hx s2 ⟨hi, al⟩ C1 C0 c1 c0
    have hil := lt_of_get hx
    have hn : nss[i]? = some nss[i] := List.getElem?_eq_getElem (by omega)
    obtain ⟨a, rfl, ha⟩ := tp.2 i x (iv nss[i]) hx (by rw [List.getElem?_map, hn]; rfl)
    have hlen := hns nss[i] (List.mem_of_getElem? hn)
    refine ⟨rfl, ?_⟩
    refine ⟨_, rfl, _, rfl, a, nss[i], hd, rfl, s2 _ _ ha, by omega, fun H3 p s3 h3' => c1 _ H3 s3 ⟨hil, ?_⟩⟩
    rw [take_more (x := strip hd nss[i]) (by rw [List.getElem?_map, hn]; rfl)]
    exact (al.imp fun v x q => q.tk (Tk.of s3)).snoc ⟨p, rfl, h3'⟩
  · rintro H1 is s1 h1 ⟨_, al⟩
    rw [List.take_of_length_le (by rw [List.length_map]; omega)] at al
    generalize hrows : nss.map (strip hd) = rows at al hrt
    have hr3 : rows.length ≤ 3 := by rw [← hrows, List.length_map]; exact h3
    have hr : ∀ r ∈ rows, r.length ≤ 40 := fun r hr => by
      rw [← hrows] at hr
      obtain ⟨ns, hn, rfl⟩ := List.mem_map.mp hr
      exact Nat.le_trans (strip_len hd ns) (Nat.le_trans (hns ns hn) (by decide))
    have hil : is.length = rows.length := al.1
    dsimp only [gName]
    refine tl_seq (out := nz (endsO rows)) h1 (by omega) (by rw [nz, List.length_map, endsO, List.length_map, hil]) (fun i x z H2 hx hz s2 C1 c1 => ?_) fun H2 en s2 h2 => ?_
    · obtain ⟨r, hr', a, rfl, ha⟩ := al.get hx
      refine ⟨_, rfl, a, _, rfl, .inr (SqT.of (s2 _ _ ha)), ?_⟩
      unfold nz endsO at hz
      rw [List.getElem?_map, List.getElem?_map, hr'] at hz
      cases hz
      rw [iv_len]
      exact c1
    have C2 : SoC H2 I en rows := ⟨⟨is, s2 _ _ h1, al.imp fun v x q => q.tk (Tk.of s2)⟩, h2⟩
    have s02 : Same H H2 := s1.trans s2
    refine lev0_seq (out := nz (rows.map fun _ => 0)) (s2 _ _ h1) (by omega) (by rw [nz, List.length_map, List.length_map, hil]) (fun i x z H3 hx hz s3 C1 c1 => ?_) fun H0 L p1 y p0 s3 hy hp0 hp1 hL hLn => ?_
    · obtain ⟨r, hr', _⟩ := al.get hx
      unfold nz at hz
      rw [List.getElem?_map, List.getElem?_map, hr'] at hz
      cases hz
      exact c1
    have C0 := C2.same s3
    refine fun M hM => ?_
    generalize hH5 : upd _ M _ = H5
    obtain ⟨q5, h5⟩ := got hH5 hM
    have hMn : H2 M = none := s3.free hM
    refine ⟨fun m σ H' => ∃ (u4 u9 u10 u11 u12 u13 u14 u15 : Option V) (L : Addr) (d : Nat) (past level : List Co) (met : List (List Nat)) (kvs : List (List Key × V)) (vs : List V),
        σ = [some v1, some v3, some (.ref W), some (hv hd), u4, some (.ref I), some (.ref en), some (.ref L), some (.ref M), u9, u10, u11, u12, u13, u14, u15] ∧ Same H2 H' ∧ H' M = some (.dT kvs) ∧ MetO kvs met ∧
        H2 L = none ∧ H' L = some (.lst vs) ∧ Al (ItO H') vs level ∧ Lev (dlo rows) (rows.map fun _ => 0) d past level met ∧ (∀ e ∈ past, e.1 ≠ endsO rows) ∧ m + d = lft rows (rows.map fun _ => 0) + 2,
      ⟨_, none, none, none, none, none, none, none, none, L, 0, [], [(rows.map fun _ => 0, [])], [], [], [.ref p1], rfl, s3.trans q5, h5, MetO.nil, hLn, q5 _ _ hL, Al.one ⟨p1, y, p0, rfl, q5 _ _ hp1, q5 _ _ hy, q5 _ _ hp0⟩, Lev.start, fun e he => (by cases he), rfl⟩, ?_⟩
    rintro m σ H' ⟨u4, u9, u10, u11, u12, u13, u14, u15, L, d, past, level, met, kvs, vs, rfl, q0, hM', mu, hLn, hL', al', lev, ng, hm⟩
    refine ⟨_, rfl, _, .inl ⟨vs, SqL.of hL', rfl⟩, ?_⟩
    cases hvs : vs with
    | nil =>
      exfalso
      have e : level = [] := List.length_eq_zero_iff.mp (by rw [← al'.1, hvs]; rfl)
      subst e
      obtain ⟨w', hw'⟩ := PP_some (rows := rows) _ (rows.map fun _ => 0) (Nat.le_refl _) (Vd.zero rows)
      exact lev.none (G := fun s => s = endsO rows) ng w' ⟨_, hw', rfl⟩
    | cons v0 r0 =>
      rw [← hvs]
      obtain ⟨c0, hc0, _⟩ := al'.get (j := 0) (v := v0) (by rw [hvs]; rfl)
      have hcm : c0 ∈ level := List.mem_of_getElem? hc0
      have hdB : d ≤ lft rows (rows.map fun _ => 0) := by
        have h1 := lev.llen c0 hcm
        have h2 := PP_len (lev.ok c0 (by simp [hcm]))
        omega
      have hB : lft rows (rows.map fun _ => 0) ≤ 40 * rows.length := lft_le hr
      refine iteT' (by rw [hvs]; rfl) ⟨fun σ' H'' => ∃ m', m' < m ∧ _, fun _ _ h => h, Nat.zero_le _, fun F hF => ?_⟩
      have hF0 : H2 F = none := q0.free hF
      have hLF : L ≠ F := ne_of_none hL' hF
      refine ⟨_, rfl, L, rfl, ⟨_, SqL.of (Same.new hF _ _ hL')⟩, for_list (xs := vs) (fun i σ' H'' => SoMid H2 (some v1) (some v3) (some (.ref W)) (some (hv hd)) I en M L F vs rows d past level i σ' H'') ?_ ?_ ?_ ?_⟩
      · exact ⟨_, _, _, _, _, _, _, met, [], [], kvs, [], rfl, Same.nw q0 hF, Same.new hF _ _ hM', mu, upd_same, Al.nil, Same.new hF _ _ hL', al'.imp fun v x h => h.tk (Tk.of (Same.new hF)), lev.mid (symo_asc rows), Nat.zero_le _, fun e he => (by cases he)⟩
      · rintro i σ' H'' _ ⟨_, _, _, _, _, _, _, _, _, _, _, _, _, _, _, _, _, _, h, _⟩
        exact SqL.of h
      · intro i y σ' H'' hy hP
        exact so_level (D := { nx := _, rt := _, ct := _, bk := _ }) C2 hMn hF0 hLF hr3 hr lev ng (by omega) hy hP rfl (fun w hw H5 p5 s5 h5 => hrt w hw H5 p5 (s02.trans s5) h5)
      · rintro σ' H'' ⟨v4, w1, w2, w3, w4, w5, w6, met', foll, don, kvs', fs, rfl, q0', hM'', mu', hF'', af, hL'', al'', mid, fm, ng'⟩
        rw [al''.1, List.drop_length] at mid
        rw [al''.1, List.take_length] at ng'
        have nxt := mid.next dlo_sym
        refine ⟨_, rfl, F, fs, rfl, .inl (SqL.of hF''), fun L2 hL2 => ⟨m - 1, by omega, _, _, _, _, _, _, _, _, L2, d + 1, past ++ level, foll, met', kvs', fs, rfl, Same.nw q0' hL2, Same.new hL2 _ _ hM'', mu', q0'.free hL2, upd_same, af.imp fun v x h => h.tk (Tk.of (Same.new hL2)), nxt, fun e he => ?_, by omega⟩⟩
        rcases List.mem_append.mp he with q | q
        · exact ng e q
        · exact ng' e q

section
variable {P : Program} {w : World} {K : PySem.W.Frag} {mg : Str → Option Value} {base : Heap}
def spShortest (K : PySem.W.Frag) : Sp := fun vs H Q E => ∃ (v1 v3 : V) (o : Option (List (Option (List V)))), vs = [v1, v3] ∧ GivenS H v1 o ∧ Thing H v3 ∧
  (∀ i, shortIx o = some i → Out K H E "BadRows" "index" (.int (i : Nat))) ∧ (shortIx o = none → v3 ≠ .non → wholeB v3 0 99 = false → Out K H E "BadColour" "colour" v3) ∧
  (∀ (nss : Rws) hd, o = some (nss.map fun ns => some (iv ns)) → shortIx o = none → v3 = hv hd → (∀ f, hd = some f → 0 ≤ f ∧ f ≤ 99) → ∀ w, IsMin (PP (nss.map (strip hd)) ((nss.map (strip hd)).map fun _ => 0)) (some w) → ∀ H' p, Same H H' → H' p = some (.tup (iv w)) → Q (.ref p) H')
theorem scShortestOver : FnScope ["rows", "first", "whole", "head", "row", "inner", "ends", "level", "met", "following", "places", "wanted", "tone", "ahead", "here", "place"] ["rows", "first"] (defScope sShortestOver) := ⟨rfl, rfl, rfl, by decide +kernel, rfl, by decide +kernel, by decide +kernel⟩
theorem ok_shortest (T : Txt K mg) {fd : FuncData} (F : FnP K "shortest_over" "shortest_over" sShortestOver [V.non] (He.ga K "shortest_over") fd) : FnOk P w K mg base (L2.CX P w) 6 (He.ga K "shortest_over") fd ["rows", "first"] (spShortest K) := by
  have G_check_short_rows := good_short (P := P) (w := w) (base := base) T
  have G_check_head := good_head (P := P) (w := w) (base := base) T
  have G_without_head := good_without (P := P) (w := w) (base := base) T
  refine F.ok scShortestOver (fun vs H Q E h => ?_) (fun cdv A outer s H vs Q E hr h => ?_)
  · obtain ⟨v1, v3, o, rfl, _⟩ := h
    rfl
  · obtain ⟨v1, v3, o, rfl, g1, t3, k1, k2, k3⟩ := h
    have hx_check_short_rows : Passes (L2.CX P w) (cxOf (L2.CX P w) P w K mg base ["rows", "first", "whole", "head", "row", "inner", "ends", "level", "met", "following", "places", "wanted", "tone", "ahead", "here", "place"] "shortest_over" (defScope sShortestOver) (He.ga K "shortest_over") cdv A outer s H E) E := passes_call (takes_of rfl rfl rfl rfl) (fun _ _ _ _ h => h)
    have hx_check_head : Passes (L2N.CX P w) (cxOf (L2.CX P w) P w K mg base ["rows", "first", "whole", "head", "row", "inner", "ends", "level", "met", "following", "places", "wanted", "tone", "ahead", "here", "place"] "shortest_over" (defScope sShortestOver) (He.ga K "shortest_over") cdv A outer s H E) E := L2N.passes_call (takesN_of (takes_of rfl rfl rfl rfl)) (fun _ _ _ _ h => h)
    refine ⟨_, (pss_cons
    (ps_set (i := 2) scShortestOver.nd rfl (Or.inl rfl) (pe_goX G_check_short_rows hr (by decide) rfl hx_check_short_rows (pa_cons (pv 0) pa_nil)))
    (pss_cons
    (ps_set (i := 3) scShortestOver.nd rfl (Or.inr rfl) (pe_goX G_check_head hr (by decide) rfl hx_check_head (pa_cons (pv 1) pa_nil)))
    (pss_cons
    (ps_setLc (i := 5) (own := [("row", 4)]) rfl scShortestOver.nd rfl rfl (sw_true rfl rfl rfl (by decide +kernel)) (pi_list (pv 2)) (blkOk_by (N := ["rows", "first", "whole", "head", "row", "inner", "ends", "level", "met", "following", "places", "wanted", "tone", "ahead", "here", "place"]) (sc := defScope sShortestOver) (by decide +kernel)) (fun _ _ _ _ _ => (pg_name (i := 4) scShortestOver.nd rfl (Or.inl rfl))) (fun _ _ _ _ _ => pts_nil) (fun _ _ _ _ _ => (pe_go G_without_head hr (by decide) rfl (pa_cons (pv 4) (pa_cons (pv 3) pa_nil)))))
    (pss_cons
    (ps_set (i := 6) scShortestOver.nd rfl (Or.inl rfl) (pe_callTy call_tuple_of (by rfl) T.n_tuple (by decide +kernel) (pa_cons (pe_lc (own := [("row", 4)]) rfl scShortestOver.nd (pi_list (pv 5)) (blkOk_by (N := ["rows", "first", "whole", "head", "row", "inner", "ends", "level", "met", "following", "places", "wanted", "tone", "ahead", "here", "place"]) (sc := defScope sShortestOver) (by decide +kernel)) (fun _ _ _ _ _ => (pg_name (i := 4) scShortestOver.nd rfl (Or.inl rfl))) (fun _ _ _ _ _ => pts_nil) (fun _ _ _ _ _ => (pe_callB (call_len_seqK (K := K) rfl) (by rfl) T.n_len PySem.boot_len (pa_cons (pv 4) pa_nil)))) pa_nil)))
    (pss_cons
    (ps_set (i := 7) scShortestOver.nd rfl (Or.inl rfl) (pe_lst (pa_cons (pe_tup (pa_cons (pe_callTy call_tuple_of (by rfl) T.n_tuple (by decide +kernel) (pa_cons (pe_lc (own := [("row", 4)]) rfl scShortestOver.nd (pi_list (pv 5)) (blkOk_by (N := ["rows", "first", "whole", "head", "row", "inner", "ends", "level", "met", "following", "places", "wanted", "tone", "ahead", "here", "place"]) (sc := defScope sShortestOver) (by decide +kernel)) (fun _ _ _ _ _ => (pg_name (i := 4) scShortestOver.nd rfl (Or.inl rfl))) (fun _ _ _ _ _ => pts_nil) (fun _ _ _ _ _ => (pe_int))) pa_nil)) (pa_cons (pe_tup pa_nil) pa_nil))) pa_nil)))
    (pss_cons
    (ps_set (i := 8) scShortestOver.nd rfl (Or.inl rfl) (pe_dnewT))
    (pss_cons
    (ps_while (passes_of rfl) (pt_truth (pv 7) (fun _ => rfl)) (pss_cons
      (ps_set (i := 9) scShortestOver.nd rfl (Or.inl rfl) (pe_lst pa_nil))
      (pss_cons
      (ps_for (passes_of rfl) rfl (pi_list (pv 7)) (pg_tup rfl (pgs_cons (pg_name (i := 10) scShortestOver.nd rfl (Or.inl rfl)) (pgs_cons (pg_name (i := 4) scShortestOver.nd rfl (Or.inl rfl)) pgs_nil))) (pss_cons
        (ps_if (pt_cmpR (op_eqD (hu64 hr)) (pv 10) (pv 6) (nomark _)) (pss_one
          (ps_ret (pv 4))) pss_nil)
        (pss_cons
        (ps_setLc (i := 11) (own := [("here", 14), ("place", 15)]) rfl scShortestOver.nd rfl rfl (sw_true rfl rfl rfl (by decide +kernel)) (pi_zipLT rfl T.n_zip (pa_cons (pv 5) (pa_cons (pv 10) pa_nil))) (blkOk_by (N := ["rows", "first", "whole", "head", "row", "inner", "ends", "level", "met", "following", "places", "wanted", "tone", "ahead", "here", "place"]) (sc := defScope sShortestOver) (by decide +kernel)) (fun _ _ _ _ _ => (pg_tupK (K := K) (n := 2) rfl rfl (pgs_cons (pg_name (i := 14) scShortestOver.nd rfl (Or.inl rfl)) (pgs_cons (pg_name (i := 15) scShortestOver.nd rfl (Or.inl rfl)) pgs_nil)))) (fun _ _ _ _ _ => pts_one (pt_cmpR op_lt (pv 15) (pe_callB (call_len_seqK (K := K) rfl) (by rfl) T.n_len PySem.boot_len (pa_cons (pv 14) pa_nil)) (nomark _))) (fun _ _ _ _ _ => (pe_ix (ix_tupK (K := K) rfl) (pv 14) (pv 15) (fun _ _ => rfl))))
        (pss_one
        (ps_for (passes_of rfl) rfl (pi_list (pe_callB (cr_sortedSetI rfl) (by rfl) T.n_sorted (by decide +kernel) (pa_cons (pe_callTy (call_setI rfl) (by rfl) T.n_set (by decide +kernel) (pa_cons (pv 11) pa_nil)) pa_nil))) (pg_name (i := 12) scShortestOver.nd rfl (Or.inr rfl)) (pss_cons
          (ps_set (i := 13) scShortestOver.nd rfl (Or.inl rfl) (pe_callTy call_tuple_of (by rfl) T.n_tuple (by decide +kernel) (pa_cons (pe_lc (own := [("here", 14), ("place", 15)]) rfl scShortestOver.nd (pi_zipLT rfl T.n_zip (pa_cons (pv 5) (pa_cons (pv 10) pa_nil))) (blkOk_by (N := ["rows", "first", "whole", "head", "row", "inner", "ends", "level", "met", "following", "places", "wanted", "tone", "ahead", "here", "place"]) (sc := defScope sShortestOver) (by decide +kernel)) (fun _ _ _ _ _ => (pg_tupK (K := K) (n := 2) rfl rfl (pgs_cons (pg_name (i := 14) scShortestOver.nd rfl (Or.inl rfl)) (pgs_cons (pg_name (i := 15) scShortestOver.nd rfl (Or.inl rfl)) pgs_nil)))) (fun _ _ _ _ _ => pts_nil) (fun _ _ _ _ _ => (pe_op op_add (pv 15) (pe_callTy call_int1 (by rfl) T.n_int (by decide +kernel) (pa_cons (pe_cmpR (op_eqDK (K := K) rfl (hu64 hr)) (pe_slice (sl_tupAK (K := K) rfl) (pv 14) (po_some (pv 15)) (po_some (pe_op op_add (pv 15) (pe_int)))) (pe_tup (pa_cons (pv 12) pa_nil)) (nomark _)) pa_nil))))) pa_nil)))
          (pss_one
          (ps_if (pt_cmp (pc_dnotin (hu_of hr) (pv 13) (pv 8))) (pss_cons
            (ps_dput (hu_of hr) (pv 8) (pv 13) (pe_bl) rfl)
            (pss_one
            (ps_expr (pe_bm PySem.F.plainAttrs_list PySem.F.slot_list_append PySem.F.type_list_append mt_append (pv 9) (pa_cons (pe_tup (pa_cons (pv 13) (pa_cons (pe_op op_catA (pv 4) (pe_tup (pa_cons (pv 12) pa_nil))) pa_nil))) pa_nil))))) pss_nil))))))))
      (pss_one
      (ps_set (i := 7) scShortestOver.nd rfl (Or.inl rfl) (pe_callTy call_list_of (by rfl) T.n_list (by decide +kernel) (pa_cons (pv 9) pa_nil)))))))
    (pss_one
    (ps_ret (pe_tup pa_nil)))))))))), ?_⟩
    refine ⟨_, rfl, v1, o, rfl, g1, k1, fun e1 xss hx H1 W ps s1 hWn hW tp => ?_⟩
    obtain ⟨nss, eo, _, hn3, hns⟩ := short_ints e1
    have ex : xss = nss.map iv := by
      have e := Option.some.inj (hx.symm.trans eo)
      have : xss.map some = (nss.map iv).map some := by rw [e, List.map_map]; rfl
      exact map_some_inj this
    subst ex
    have go : ∀ hd : Option Int, v3 = hv hd → (∀ f, hd = some f → 0 ≤ f ∧ f ≤ 99) → soRest K w { nx := fun x H' => Q .non H', rt := Q } [some v1, some v3, some (.ref W), some (hv hd), none, none, none, none, none, none, none, none, none, none, none, none] H1 := fun hd e hb =>
      so_rest hW tp hn3 (fun ns h => (hns ns h).1) fun w hw H' p s hp => k3 nss hd eo e1 e hb w hw H' p (s1.trans s) hp
    refine ⟨_, rfl, v3, rfl, ?_⟩
    by_cases c : v3 = .non
    · exact .inl ⟨c, go none c (fun f z => by cases z)⟩
    · refine .inr ⟨c, t3.same s1, fun hw => ?_, fun hw => (k2 e1 c hw).same s1⟩
      obtain ⟨n, e, a, b⟩ := whole_int hw
      subst e
      exact go (some n) rfl (fun f z => by cases z; exact ⟨a, b⟩)
/-! ### the two, called -/
theorem good_reach3 (T : Txt K mg) : Good P w K mg base (L2N.CX P w) 5 "reach_lacks" ["one", "other", "first"] [] (spReach K) := by
  obtain ⟨fd, F⟩ := T.d_reach_lacks
  exact Good.of F T.g_reach_lacks (ok_reach T F) (FunD.binds1 F 3 1 (by decide) rfl fun _ _ _ _ _ _ _ us its h1 h2 => match us, its, h1, h2 with | [_, _, _], [_], _, _ => ⟨_, rfl, rfl⟩)
theorem good_reach2 (T : Txt K mg) : Good P w K mg base (L2N.CX P w) 5 "reach_lacks" ["one", "other", "first"] [.non] (spReach K) := by
  obtain ⟨fd, F⟩ := T.d_reach_lacks
  exact Good.of F T.g_reach_lacks (ok_reach T F) (FunD.binds1 F 2 0 (by decide) rfl fun _ _ _ _ _ _ _ us its h1 h2 => match us, its, h1, h2 with | [_, _], [_], _, _ => ⟨_, rfl, rfl⟩)
theorem kw_reach (T : Txt K mg) : ∃ (fd : FuncData) (its : List Value), FnOk P w K mg base (L2N.CX P w) 5 (He.ga K "reach_lacks") fd ["one", "other", "first"] (spReach K) ∧ KBn K fd ["one", "other", "first"] 2 ["first"] (fun us ws => us ++ ws) (fun vs zs => vs ++ zs) ∧ PySem.W.keepIn K (.ref (He.ga K "reach_lacks")) = true := by
  obtain ⟨fd, F⟩ := T.d_reach_lacks
  obtain ⟨its, b⟩ := FunD.kbindsD (ps := ["one", "other", "first"]) F 2 ["first"] (fun us _ ws => us ++ ws) (by decide) (fun r1 _ r3 => r1.append r3) fun _ _ _ _ _ _ _ us its ws h1 h2 h3 => match us, its, ws, h1, h2, h3 with | [_, _], [_], [_], _, _, _ => ⟨_, rfl, rfl⟩
  exact ⟨fd, its, ok_reach T F, b, F.kp⟩
theorem good_shortest2 (T : Txt K mg) : Good P w K mg base (L2.CX P w) 6 "shortest_over" ["rows", "first"] [] (spShortest K) := by
  obtain ⟨fd, F⟩ := T.d_shortest_over
  exact Good.of F T.g_shortest_over (ok_shortest T F) (FunD.binds1 F 2 1 (by decide) rfl fun _ _ _ _ _ _ _ us its h1 h2 => match us, its, h1, h2 with | [_, _], [_], _, _ => ⟨_, rfl, rfl⟩)
theorem good_shortest1 (T : Txt K mg) : Good P w K mg base (L2.CX P w) 6 "shortest_over" ["rows", "first"] [.non] (spShortest K) := by
  obtain ⟨fd, F⟩ := T.d_shortest_over
  exact Good.of F T.g_shortest_over (ok_shortest T F) (FunD.binds1 F 1 0 (by decide) rfl fun _ _ _ _ _ _ _ us its h1 h2 => match us, its, h1, h2 with | [_], [_], _, _ => ⟨_, rfl, rfl⟩)
end
end K21
end
section
set_option Elab.async false
set_option linter.all false
set_option maxRecDepth 100000
set_option maxHeartbeats 4000000
/-! the law's defs 1: the hand -/
namespace K21
open PySem PySem.Spec PyProof.Rows L2
/-- the hand -/
def HandOk (hd cells : Addr) (H : Hp) : Prop := ∃ (a b c : Int) (ns : List Int), H hd = some (.lst [.ref cells, .int a, .int b, .int c]) ∧ 0 ≤ a ∧ H cells = some (.lst (iv ns))
/-- all but the hand stays -/
def But (hd : Addr) (H H' : Hp) : Prop := ∀ b u, b ≠ hd → H b = some u → H' b = some u
theorem But.refl (hd : Addr) (H : Hp) : But hd H H := fun _ _ _ h => h
theorem But.of {hd : Addr} {H H' : Hp} (s : Same H H') : But hd H H' := fun b u _ h => s b u h
theorem But.trans {hd : Addr} {H H1 H2 : Hp} (a : But hd H H1) (b : But hd H1 H2) : But hd H H2 := fun p u n h => b p u n (a p u n h)
theorem But.put {hd : Addr} {H H' : Hp} {o : HO} (a : But hd H H') : But hd H (upd H' hd o) := fun b u n h => by
  rw [upd_ne n]
  exact a b u n h
theorem HandOk.ne {hd : Addr} {H : Hp} {cells : Addr} {xs : List V} {ns : List Int} (h : H hd = some (.lst (.ref cells :: xs))) (hc : H cells = some (.lst (iv ns))) : cells ≠ hd := fun e => by
  rw [e, h] at hc
  have := HO.lst.inj (Option.some.inj hc)
  cases ns with
  | nil => cases this
  | cons n r => cases this
theorem HandOk.same {hd cells : Addr} {H H' : Hp} (h : HandOk hd cells H) (s : Same H H') : HandOk hd cells H' := by
  obtain ⟨a, b, c, ns, h1, h2, h3⟩ := h
  exact ⟨a, b, c, ns, s _ _ h1, h2, s _ _ h3⟩
/-- something else may change -/
theorem HandOk.out {hd cells : Addr} {H : Hp} {p : Addr} {o : HO} (h : HandOk hd cells H) (n1 : p ≠ hd) (n2 : p ≠ cells) : HandOk hd cells (upd H p o) := by
  obtain ⟨a, b, c, ns, h1, h2, h3⟩ := h
  exact ⟨a, b, c, ns, by rw [upd_ne n1.symm]; exact h1, h2, by rw [upd_ne n2.symm]; exact h3⟩
theorem HandOk.off {hd cells : Addr} {H : Hp} {p : Addr} (h : HandOk hd cells H) (n : H p = none) : p ≠ hd ∧ p ≠ cells := by
  obtain ⟨a, b, c, ns, h1, h2, h3⟩ := h
  exact ⟨(ne_of_none h1 n).symm, (ne_of_none h3 n).symm⟩
theorem HandOk.set {hd : Addr} {H : Hp} {cells : Addr} {a b c : Int} {ns : List Int} {xs : List V} (h : H hd = some (.lst (.ref cells :: xs))) (ha : 0 ≤ a) (hc : H cells = some (.lst (iv ns))) : HandOk hd cells (upd H hd (.lst [.ref cells, .int a, .int b, .int c])) :=
  ⟨a, b, c, ns, upd_same, ha, by rw [upd_ne (HandOk.ne h hc)]; exact hc⟩
section
variable {P : Program} {w : World} {K : PySem.W.Frag} {mg : Str → Option Value} {base : Heap}
theorem scLawMixed : FnScope ["_law_number", "_law_turn", "_law_once", "_law_twice"] ["_law_number", "_law_turn"] (defScope sLawMixed) := ⟨rfl, rfl, rfl, by decide +kernel, rfl, by decide +kernel, by decide +kernel⟩
def spMixed : Sp := fun vs H Q _ => ∃ n t : Int, vs = [.int n, .int t] ∧ ∀ r : Int, 0 ≤ r → Q (.int r) H
theorem good_mixed (T : Txt K mg) : Good P w K mg base CX0 1 "_law_mixed" ["_law_number", "_law_turn"] [] spMixed := by
  refine good0 T.d_law_mixed T.g_law_mixed scLawMixed (fun _ _ _ _ _ _ us hl => match us, hl with | [_, _], _ => rfl) (fun vs H Q E h => ?_) (fun cdv A outer s H vs Q E hr h => ?_)
  · obtain ⟨n, t, rfl, _⟩ := h
    rfl
  · obtain ⟨n, t, rfl, k⟩ := h
    refine ⟨_, (pss_cons
    (ps_set (i := 2) scLawMixed.nd rfl (Or.inl rfl) (pe_op op_mod (pe_callTy call_int1 (by rfl) T.n_int (by decide +kernel) (pa_cons (pe_op op_add (pe_op op_add (pe_op op_mul (pv 0) (pe_int)) (pe_op op_mul (pv 1) (pe_int))) (pe_int)) pa_nil)) (pe_int)))
    (pss_cons
    (ps_set (i := 3) scLawMixed.nd rfl (Or.inl rfl) (pe_op op_mod (pe_callTy call_int1 (by rfl) T.n_int (by decide +kernel) (pa_cons (pe_op op_add (pe_op op_add (pe_op op_mul (pv 2) (pv 2)) (pe_op op_mul (pv 1) (pe_int))) (pe_op op_fdiv (pv 2) (pe_int))) pa_nil)) (pe_int)))
    (pss_one
    (ps_ret (pe_op op_fdiv (pe_callTy call_int1 (by rfl) T.n_int (by decide +kernel) (pa_cons (pe_op op_mod (pe_callTy call_int1 (by rfl) T.n_int (by decide +kernel) (pa_cons (pe_op op_add (pe_op op_mul (pv 3) (pe_int)) (pe_op op_fdiv (pv 2) (pe_int))) pa_nil)) (pe_int)) pa_nil)) (pe_int)))))), ?_⟩
    have b1 : ∀ x : Int, 0 ≤ x % 2147483647 := fun x => Int.emod_nonneg x (by decide)
    have b2 : ∀ x : Int, x % 2147483647 < 2147483647 := fun x => Int.emod_lt_of_pos x (by decide)
    have b3 : ∀ x : Int, 0 ≤ x % 2147483629 := fun x => Int.emod_nonneg x (by decide)
    have b4 : ∀ x : Int, x % 2147483629 < 2147483629 := fun x => Int.emod_lt_of_pos x (by decide)
    have cm : ∀ x y : Int, CMul (x % 2147483647) y := fun x y => .inl ⟨by have := b1 x; omega, by have := b2 x; omega⟩
    refine ⟨_, rfl, _, _, rfl, rfl, .inr (by decide), _, rfl, _, _, rfl, rfl, .inr (by decide), _, _, rfl, rfl, _, _, rfl, rfl, .inl ⟨_, rfl, _, _, rfl, rfl, (show (0 : Int) < 2147483647 by decide), ?_⟩⟩
    refine ⟨_, rfl, _, rfl, _, _, rfl, rfl, cm _ _, _, rfl, _, _, rfl, rfl, .inr (by decide), _, _, rfl, rfl, _, rfl, _, _, rfl, rfl, ⟨by decide, by decide⟩, _, _, rfl, rfl, .inl ⟨_, rfl, _, _, rfl, rfl, (show (0 : Int) < 2147483629 by decide), ?_⟩⟩
    refine ⟨_, rfl, _, _, rfl, rfl, .inr (by decide), _, rfl, _, _, rfl, rfl, ⟨by decide, by decide⟩, _, _, rfl, rfl, .inl ⟨_, rfl, _, _, rfl, rfl, (show (0 : Int) < 2147483579 by decide), .inl ⟨_, rfl, _, _, rfl, rfl, ⟨by decide, by decide⟩, k _ ?_⟩⟩⟩
    exact Int.ediv_nonneg (Int.emod_nonneg _ (by decide)) (by decide)
theorem scLawTake : FnScope ["_law_hand_here", "_law_many", "_law_cell", "_law_rest"] ["_law_hand_here", "_law_many"] (defScope sLawTake) := ⟨rfl, rfl, rfl, by decide +kernel, rfl, by decide +kernel, by decide +kernel⟩
def spTake : Sp := fun vs H Q _ => ∃ (hd cells : Addr) (m : Int), vs = [.ref hd, .int m] ∧ HandOk hd cells H ∧ 0 < m ∧ m < 1073741824 ∧ ∀ (r : Int) H', 0 ≤ r → r < m → But hd H H' → HandOk hd cells H' → Q (.int r) H'
def takeRest (K : PySem.W.Frag) : TS := tSeq (tIfS (tTest (tOp (rI0 fun i j => V.bl (decide (j < i))) (tOp (rIxL K) (tVar 0) (tC (V.int 2))) (tC (V.int 0)))) (tSeq (tAsg (tOp (rIxL K) (tVar 0) (tC (V.int 2))) (gName 3)) (tSeq (tAsg (tOp (rI CDiv fun i j => V.int (i / j)) (tCB (fun xs H Q => (∃ i, xs = [V.int i] ∧ Q (V.int i) H) ∨ ∃ k, xs = [V.bl k] ∧ Q (V.int (if k = true then 1 else 0)) H) (tCons (tVar 3) tNil)) (tVar 1)) (gSub (tVar 0) (tC (V.int 2)) rSetL)) (tRet (tOp (rI (fun x j => 0 < j) fun i j => V.int (i % j)) (tCB (fun xs H Q => (∃ i, xs = [V.int i] ∧ Q (V.int i) H) ∨ ∃ k, xs = [V.bl k] ∧ Q (V.int (if k = true then 1 else 0)) H) (tCons (tVar 3) tNil)) (tVar 1))))) tNext) (tSeq (tAsg (tOp (rI (fun x j => 0 < j) fun i j => V.int (i % j)) (tCB (fun xs H Q => (∃ i, xs = [V.int i] ∧ Q (V.int i) H) ∨ ∃ k, xs = [V.bl k] ∧ Q (V.int (if k = true then 1 else 0)) H) (tCons (tOp (rI0 fun i j => V.int (i + j)) (tOp (rIxL K) (tVar 0) (tC (V.int 3))) (tC (V.int 1))) tNil)) (tC (V.int 2147483587))) (gSub (tVar 0) (tC (V.int 3)) rSetL)) (tRet (tOp (rI (fun x j => 0 < j) fun i j => V.int (i % j)) (tCB (fun xs H Q => (∃ i, xs = [V.int i] ∧ Q (V.int i) H) ∨ ∃ k, xs = [V.bl k] ∧ Q (V.int (if k = true then 1 else 0)) H) (tCons (tCall spMixed [] E0 (tCons (tOp (rIxL K) (tVar 0) (tC (V.int 3))) (tCons (tOp (rIxL K) (tVar 0) (tC (V.int 1))) tNil))) tNil)) (tVar 1))))
theorem take_rest {K : PySem.W.Frag} {D : Ends} {H : Hp} {hd cells : Addr} {m : Int} {v : Option V} (hm : 0 < m) (hm2 : m < 1073741824) (ok : HandOk hd cells H) (k : ∀ (r : Int) H', 0 ≤ r → r < m → But hd H H' → HandOk hd cells H' → D.rt (.int r) H') : takeRest K D [some (.ref hd), some (.int m), v, none] H := by
  obtain ⟨a, b, c, ns, h1, h2, h3⟩ := ok
  refine ⟨_, rfl, hd, _, 2, .int b, rfl, rfl, SqL.of h1, atI_nat (j := 2) rfl, _, _, rfl, rfl, _, rfl, ?_⟩
  by_cases cb : 0 < b
  · refine iteT' (decide_eq_true cb) ⟨_, rfl, hd, _, 2, .int b, rfl, rfl, SqL.of h1, atI_nat (j := 2) rfl, _, rfl, .inl ⟨_, rfl, _, rfl, _, _, rfl, rfl, ⟨hm, hm2⟩, _, rfl, hd, _, 2, 2, rfl, rfl, h1, rfl, _, rfl, .inl ⟨_, rfl, _, rfl, _, _, rfl, rfl, hm, ?_⟩⟩⟩
    exact k _ _ (Int.emod_nonneg _ (by omega)) (Int.emod_lt_of_pos _ hm) (But.put (But.refl hd H)) (HandOk.set h1 h2 h3)
  · refine iteF' (decide_eq_false cb) ⟨_, rfl, hd, _, 3, .int c, rfl, rfl, SqL.of h1, atI_nat (j := 3) rfl, _, _, rfl, rfl, .inl ⟨_, rfl, _, _, rfl, rfl, (show (0 : Int) < 2147483587 by decide), _, rfl, hd, _, 3, 3, rfl, rfl, h1, rfl, ?_⟩⟩
    have ok3 : HandOk hd cells (upd H hd (.lst [.ref cells, .int a, .int b, .int ((c + 1) % 2147483587)])) := HandOk.set h1 h2 h3
    have bt : But hd H (upd H hd (.lst [.ref cells, .int a, .int b, .int ((c + 1) % 2147483587)])) := But.put (But.refl hd H)
    have h4 : upd H hd (.lst [.ref cells, .int a, .int b, .int ((c + 1) % 2147483587)]) hd = _ := upd_same
    refine ⟨_, rfl, hd, _, 3, .int ((c + 1) % 2147483587), rfl, rfl, SqL.of h4, atI_nat (j := 3) rfl, _, rfl, hd, _, 1, .int a, rfl, rfl, SqL.of h4, atI_nat (j := 1) rfl, _, _, rfl, fun r hr => .inl ⟨_, rfl, _, rfl, _, _, rfl, rfl, hm, ?_⟩⟩
    exact k _ _ (Int.emod_nonneg _ (by omega)) (Int.emod_lt_of_pos _ hm) bt ok3
theorem good_take (T : Txt K mg) : Good P w K mg base CX0 2 "_law_take" ["_law_hand_here", "_law_many"] [] spTake := by
  have G_law_mixed := good_mixed (P := P) (w := w) (base := base) T
  refine good0 T.d_law_take T.g_law_take scLawTake (fun _ _ _ _ _ _ us hl => match us, hl with | [_, _], _ => rfl) (fun vs H Q E h => ?_) (fun cdv A outer s H vs Q E hr h => ?_)
  · obtain ⟨hd, cells, m, rfl, _⟩ := h
    rfl
  · obtain ⟨hd, cells, m, rfl, ok, hm, hm2, k⟩ := h
    refine ⟨_, (pss_cons
    (ps_if (PW.pt (pw_and (pt_cmpR op_eq (pe_ix ix_list (pv 0) (pe_int) (fun _ _ => rfl)) (pe_int) (nomark _)) (pw_and1 (pt_cmpR op_lt (pe_ix ix_list (pv 0) (pe_int) (fun _ _ => rfl)) (pe_callB call_len_seq (by rfl) T.n_len PySem.boot_len (pa_cons (pe_ix ix_list (pv 0) (pe_int) (fun _ _ => rfl)) pa_nil)) (nomark _))))) (pss_cons
      (ps_set (i := 2) scLawTake.nd rfl (Or.inl rfl) (pe_ix ix_list (pe_ix ix_list (pv 0) (pe_int) (fun _ _ => rfl)) (pe_ix ix_list (pv 0) (pe_int) (fun _ _ => rfl)) (fun _ _ => rfl)))
      (pss_cons
      (ps_asg (pe_op op_add (pe_ix ix_list (pv 0) (pe_int) (fun _ _ => rfl)) (pe_int)) (pg_sub (pv 0) (pe_int) set_list))
      (pss_cons
      (ps_if (pt_cmpR op_lt (pv 2) (pe_op op_pow (pe_int) (pe_int)) (nomark _)) (pss_one
        (ps_ret (pe_op op_mod (pe_callTy call_int1 (by rfl) T.n_int (by decide +kernel) (pa_cons (pe_go G_law_mixed hr (by decide) rfl (pa_cons (pe_op op_mod (pe_callTy call_int1 (by rfl) T.n_int (by decide +kernel) (pa_cons (pv 2) pa_nil)) (pe_int)) (pa_cons (pe_ix ix_list (pv 0) (pe_int) (fun _ _ => rfl)) pa_nil))) pa_nil)) (pv 1)))) pss_nil)
      (pss_one
      (ps_asg (pv 2) (pg_sub (pv 0) (pe_int) set_list)))))) pss_nil)
    (pss_cons
    (ps_if (pt_cmpR op_gt (pe_ix ix_list (pv 0) (pe_int) (fun _ _ => rfl)) (pe_int) (nomark _)) (pss_cons
      (ps_set (i := 3) scLawTake.nd rfl (Or.inl rfl) (pe_ix ix_list (pv 0) (pe_int) (fun _ _ => rfl)))
      (pss_cons
      (ps_asg (pe_op op_fdiv (pe_callTy call_int1 (by rfl) T.n_int (by decide +kernel) (pa_cons (pv 3) pa_nil)) (pv 1)) (pg_sub (pv 0) (pe_int) set_list))
      (pss_one
      (ps_ret (pe_op op_mod (pe_callTy call_int1 (by rfl) T.n_int (by decide +kernel) (pa_cons (pv 3) pa_nil)) (pv 1)))))) pss_nil)
    (pss_cons
    (ps_asg (pe_op op_mod (pe_callTy call_int1 (by rfl) T.n_int (by decide +kernel) (pa_cons (pe_op op_add (pe_ix ix_list (pv 0) (pe_int) (fun _ _ => rfl)) (pe_int)) pa_nil)) (pe_int)) (pg_sub (pv 0) (pe_int) set_list))
    (pss_one
    (ps_ret (pe_op op_mod (pe_callTy call_int1 (by rfl) T.n_int (by decide +kernel) (pa_cons (pe_go G_law_mixed hr (by decide) rfl (pa_cons (pe_ix ix_list (pv 0) (pe_int) (fun _ _ => rfl)) (pa_cons (pe_ix ix_list (pv 0) (pe_int) (fun _ _ => rfl)) pa_nil))) pa_nil)) (pv 1))))))), ?_⟩
    have ok0 := ok
    obtain ⟨a, b, c, ns, h1, h2, h3⟩ := ok
    refine ⟨_, rfl, hd, _, 2, .int b, rfl, rfl, SqL.of h1, atI_nat (j := 2) rfl, rfl, _, rfl, ?_⟩
    by_cases cb : b = 0
    rotate_left
    · refine iteF' (by simp [cb]) (iteF' rfl ?_)
      exact take_rest hm hm2 ok0 k
    refine iteT' (by simp [cb]) ⟨_, rfl, hd, _, 1, .int a, rfl, rfl, SqL.of h1, atI_nat (j := 1) rfl, _, rfl, hd, _, 0, .ref cells, rfl, rfl, SqL.of h1, atI_nat (j := 0) rfl, cells, _, rfl, .inl (SqL.of h3), _, _, rfl, rfl, _, rfl, ?_⟩
    rw [iv_len]
    by_cases ca : a < ns.length
    rotate_left
    · refine iteF' (decide_eq_false ca) ?_
      exact take_rest hm hm2 ok0 k
    obtain ⟨j, rfl⟩ : ∃ j : Nat, a = j := ⟨a.toNat, by omega⟩
    have hj : j < ns.length := by omega
    have hn : ns[j]? = some ns[j] := List.getElem?_eq_getElem hj
    refine iteT' (decide_eq_true ca) ⟨_, rfl, hd, _, 0, .ref cells, rfl, rfl, SqL.of h1, atI_nat (j := 0) rfl, _, rfl, hd, _, 1, .int j, rfl, rfl, SqL.of h1, atI_nat (j := 1) rfl, cells, _, _, .int ns[j], rfl, rfl, SqL.of h3, atI_nat (iv_at hn), ?_⟩
    refine ⟨_, rfl, hd, _, 1, .int j, rfl, rfl, SqL.of h1, atI_nat (j := 1) rfl, _, _, rfl, rfl, _, rfl, hd, _, 1, 1, rfl, rfl, h1, rfl, ?_⟩
    have okA : HandOk hd cells (upd H hd (.lst [.ref cells, .int ((j : Int) + 1), .int b, .int c])) := HandOk.set h1 (by omega) h3
    have btA : But hd H (upd H hd (.lst [.ref cells, .int ((j : Int) + 1), .int b, .int c])) := But.put (But.refl hd H)
    have hA : upd H hd (.lst [.ref cells, .int ((j : Int) + 1), .int b, .int c]) hd = _ := upd_same
    have hcA : upd H hd (.lst [.ref cells, .int ((j : Int) + 1), .int b, .int c]) cells = some (.lst (iv ns)) := by rw [upd_ne (HandOk.ne h1 h3)]; exact h3
    refine ⟨_, rfl, _, _, rfl, rfl, ⟨by decide, by decide, by decide⟩, _, _, rfl, rfl, _, rfl, ?_⟩
    by_cases cc : ns[j] < 10 ^ (18 : Int).toNat
    · refine iteT' (decide_eq_true cc) ⟨_, rfl, .inl ⟨_, rfl, _, _, rfl, rfl, (show (0 : Int) < 2147483647 by decide), _, rfl, hd, _, 1, .int ((j : Int) + 1), rfl, rfl, SqL.of hA, atI_nat (j := 1) rfl, _, _, rfl, fun r hr => .inl ⟨_, rfl, _, rfl, _, _, rfl, rfl, hm, ?_⟩⟩⟩
      exact k _ _ (Int.emod_nonneg _ (by omega)) (Int.emod_lt_of_pos _ hm) btA okA
    · refine iteF' (decide_eq_false cc) ⟨_, rfl, _, rfl, hd, _, 2, 2, rfl, rfl, hA, rfl, ?_⟩
      exact take_rest hm hm2 (HandOk.set hA (by omega) hcA) fun r H' h0 hr bt ok => k r H' h0 hr ((But.put btA).trans bt) ok
end
end K21
end
section
set_option Elab.async false
set_option linter.all false
set_option maxRecDepth 100000
set_option maxHeartbeats 4000000
/-! the law's defs 2 -/
namespace K21
open PySem PySem.Spec PyProof.Rows L2
theorem cutK_tail (xs : List V) : cutV xs (some 1) none = xs.tail := by
  unfold cutV
  have e : HT.sIx xs.length 0 (some 1) = min 1 xs.length := HT.sIx_nat _ _ 1
  rw [e, HT.sIx_none]
  cases xs with
  | nil => rfl
  | cons x r => simp
theorem cutK_take (xs : List V) (n : Nat) : cutV xs none (some (n : Int)) = xs.take n := by
  unfold cutV
  rw [HT.sIx_none, HT.sIx_nat, List.drop_zero, Nat.sub_zero]
  by_cases h : n ≤ xs.length
  · rw [Nat.min_eq_left h]
  · rw [Nat.min_eq_right (by omega), List.take_length, List.take_of_length_le (by omega)]
section
variable {P : Program} {w : World} {K : PySem.W.Frag} {mg : Str → Option Value} {base : Heap}
theorem scLawPick : FnScope ["_law_hand_here", "_law_things"] ["_law_hand_here", "_law_things"] (defScope sLawPick) := ⟨rfl, rfl, rfl, by decide +kernel, rfl, by decide +kernel, by decide +kernel⟩
def spPick : Sp := fun vs H Q _ => ∃ (hd cells t : Addr) (xs : List V), vs = [.ref hd, .ref t] ∧ HandOk hd cells H ∧ H t = some (.lst xs) ∧ t ≠ hd ∧ xs ≠ [] ∧ xs.length ≤ 1000 ∧ ∀ v H', v ∈ xs → But hd H H' → HandOk hd cells H' → Q v H'
theorem good_pick (T : Txt K mg) : Good P w K mg base CX0 3 "_law_pick" ["_law_hand_here", "_law_things"] [] spPick := by
  have G_law_take := good_take (P := P) (w := w) (base := base) T
  refine good0 T.d_law_pick T.g_law_pick scLawPick (fun _ _ _ _ _ _ us hl => match us, hl with | [_, _], _ => rfl) (fun vs H Q E h => ?_) (fun cdv A outer s H vs Q E hr h => ?_)
  · obtain ⟨hd, cells, t, xs, rfl, _⟩ := h
    rfl
  · obtain ⟨hd, cells, t, xs, rfl, ok, ht, hne, hx, hl, k⟩ := h
    refine ⟨_, (pss_one
    (ps_ret (pe_ix ix_list (pv 1) (pe_go G_law_take hr (by decide) rfl (pa_cons (pv 0) (pa_cons (pe_callB call_len_seq (by rfl) T.n_len PySem.boot_len (pa_cons (pv 1) pa_nil)) pa_nil))) (fun _ _ => rfl)))), ?_⟩
    have hpos : 0 < xs.length := List.length_pos_iff.mpr hx
    refine ⟨_, rfl, _, rfl, _, rfl, t, _, rfl, .inl (SqL.of ht), hd, cells, _, rfl, ok, by omega, by omega, fun r H1 h0 h1 bt ok1 => ?_⟩
    obtain ⟨j, rfl⟩ : ∃ j : Nat, r = j := ⟨r.toNat, by omega⟩
    have hj : xs[j]? = some (xs[j]'(by omega)) := List.getElem?_eq_getElem (by omega)
    exact ⟨t, xs, j, _, rfl, rfl, SqL.of (bt _ _ hne ht), atI_nat hj, k _ H1 (List.mem_of_getElem? hj) bt ok1⟩
theorem scLawTone : FnScope ["_law_hand_here", "_law_tones"] ["_law_hand_here", "_law_tones"] (defScope sLawTone) := ⟨rfl, rfl, rfl, by decide +kernel, rfl, by decide +kernel, by decide +kernel⟩
def spTone : Sp := fun vs H Q _ => ∃ (hd cells : Addr) (m : Int), vs = [.ref hd, .int m] ∧ HandOk hd cells H ∧ 0 < m ∧ m ≤ 100 ∧ ∀ (r : Int) H', 0 ≤ r → r < 100 → But hd H H' → HandOk hd cells H' → Q (.int r) H'
theorem good_tone (T : Txt K mg) : Good P w K mg base CX0 3 "_law_tone" ["_law_hand_here", "_law_tones"] [] spTone := by
  have G_law_take := good_take (P := P) (w := w) (base := base) T
  refine good0 T.d_law_tone T.g_law_tone scLawTone (fun _ _ _ _ _ _ us hl => match us, hl with | [_, _], _ => rfl) (fun vs H Q E h => ?_) (fun cdv A outer s H vs Q E hr h => ?_)
  · obtain ⟨hd, cells, m, rfl, _⟩ := h
    rfl
  · obtain ⟨hd, cells, m, rfl, ok, hm, hm2, k⟩ := h
    refine ⟨_, (pss_one
    (ps_ret (pe_ifExp (pt_cmpR op_eq (pe_go G_law_take hr (by decide) rfl (pa_cons (pv 0) (pa_cons (pe_int) pa_nil))) (pe_int) (nomark _)) (pe_go G_law_take hr (by decide) rfl (pa_cons (pv 0) (pa_cons (pe_int) pa_nil))) (pe_go G_law_take hr (by decide) rfl (pa_cons (pv 0) (pa_cons (pv 1) pa_nil)))))), ?_⟩
    refine ⟨_, rfl, hd, cells, 16, rfl, ok, by decide, by decide, fun r H1 h0 h1 bt ok1 => ⟨rfl, _, rfl, ?_⟩⟩
    by_cases c : r = 0
    · refine iteT' (by simp [c]) ⟨_, rfl, hd, cells, 100, rfl, ok1, by decide, by decide, fun r2 H2 h02 h12 bt2 ok2 => k r2 H2 h02 h12 (bt.trans bt2) ok2⟩
    · refine iteF' (by simp [c]) ⟨_, rfl, _, rfl, hd, cells, m, rfl, ok1, hm, by omega, fun r2 H2 h02 h12 bt2 ok2 => k r2 H2 h02 (by omega) (bt.trans bt2) ok2⟩
theorem scLawRow : FnScope ["_law_hand_here", "_law_most", "_law_tones", "_law_turn"] ["_law_hand_here", "_law_most", "_law_tones"] (defScope sLawRow) := ⟨rfl, rfl, rfl, by decide +kernel, rfl, by decide +kernel, by decide +kernel⟩
def spRowOf : Sp := fun vs H Q _ => ∃ (hd cells : Addr) (n : Nat) (m : Int), vs = [.ref hd, .int (n : Nat), .int m] ∧ HandOk hd cells H ∧ n ≤ 100 ∧ 0 < m ∧ m ≤ 100 ∧ ∀ (ns : List Int) H' p, ns.length ≤ n → (∀ t ∈ ns, 0 ≤ t ∧ t ≤ 99) → But hd H H' → HandOk hd cells H' → H p = none → H' p = some (.lst (iv ns)) → Q (.ref p) H'
theorem good_rowOf (T : Txt K mg) : Good P w K mg base CX0 4 "_law_row" ["_law_hand_here", "_law_most", "_law_tones"] [] spRowOf := by
  have G_law_take := good_take (P := P) (w := w) (base := base) T
  have G_law_tone := good_tone (P := P) (w := w) (base := base) T
  refine good0 T.d_law_row T.g_law_row scLawRow (fun _ _ _ _ _ _ us hl => match us, hl with | [_, _, _], _ => rfl) (fun vs H Q E h => ?_) (fun cdv A outer s H vs Q E hr h => ?_)
  · obtain ⟨hd, cells, n, m, rfl, _⟩ := h
    rfl
  · obtain ⟨hd, cells, n, m, rfl, ok, hn, hm, hm2, k⟩ := h
    refine ⟨_, (pss_one
    (ps_ret (pe_lc (own := [("_law_turn", 3)]) rfl scLawRow.nd (pi_range1 rfl T.n_range (pa_cons (pe_go G_law_take hr (by decide) rfl (pa_cons (pv 0) (pa_cons (pe_op op_add (pv 1) (pe_int)) pa_nil))) pa_nil)) (blkOk_by (N := ["_law_hand_here", "_law_most", "_law_tones", "_law_turn"]) (sc := defScope sLawRow) (by decide +kernel)) (fun _ _ _ _ _ => (pg_name (i := 3) scLawRow.nd rfl (Or.inl rfl))) (fun _ _ _ _ _ => pts_nil) (fun _ _ _ _ _ => (pe_go G_law_tone hr (by decide) rfl (pa_cons (pv 0) (pa_cons (pv 2) pa_nil))))))), ?_⟩
    refine ⟨_, rfl, _, rfl, _, _, rfl, rfl, hd, cells, _, rfl, ok, by omega, by omega, fun r H1 h0 h1 bt ok1 => ⟨r, rfl, by omega, by omega, fun D hD => ?_⟩⟩
    obtain ⟨nD1, nD2⟩ := ok1.off hD
    have hDH : H D = none := by
      cases q : H D with
      | none => rfl
      | some u =>
        rw [bt D u nD1 q] at hD
        cases hD
    refine lc_range (fun i H2 => i ≤ r.toNat ∧ But hd H H2 ∧ HandOk hd cells H2 ∧ ∃ ns : List Int, H2 D = some (.lst (iv ns)) ∧ ns.length = i ∧ ∀ t ∈ ns, 0 ≤ t ∧ t ≤ 99) ⟨Nat.zero_le _, fun b u nb h => ?_, ok1.out nD1 nD2, [], upd_same, rfl, fun t h => by cases h⟩ ?_ ?_
    · rw [upd_ne (fun e => by rw [e, hDH] at h; cases h)]
      exact bt b u nb h
    · rintro i H2 hi ⟨hi2, bt2, ok2, ns, hD2, hl, hc⟩
      refine ⟨rfl, ?_⟩
      refine ⟨_, rfl, _, rfl, hd, cells, m, rfl, ok2, hm, hm2, fun z H3 z0 z1 bt3 ok3 => ⟨iv ns, bt3 _ _ nD1 hD2, smallLine (by rw [iv_len]; omega), hi, fun b u nb h => ?_, ok3.out nD1 nD2, ns ++ [z], ?_, by rw [List.length_append, hl]; rfl, fun t ht => ?_⟩⟩
      · rw [upd_ne (fun e => by rw [e, hDH] at h; cases h)]
        exact bt3 b u nb (bt2 b u nb h)
      · rw [upd_same]
        unfold iv
        rw [List.map_append]
        rfl
      · rcases List.mem_append.mp ht with q | q
        · exact hc t q
        · rw [List.mem_singleton.mp q]
          exact ⟨z0, by omega⟩
    · rintro H2 ⟨_, bt2, ok2, ns, hD2, hl, hc⟩
      exact k ns H2 D (by omega) hc bt2 ok2 hDH hD2
theorem scLawStruck : FnScope ["_law_row_here", "_law_at"] ["_law_row_here"] (defScope sLawStruck) := ⟨rfl, rfl, rfl, by decide +kernel, rfl, by decide +kernel, by decide +kernel⟩
def spStruck : Sp := fun vs H Q _ => ∃ (a : Addr) (ns : List Int), vs = [.ref a] ∧ H a = some (.lst (iv ns)) ∧ ns.length ≤ 1000 ∧ ∀ H' p, Same H H' → H p = none → H' p = some (.lst (iv (strike ns))) → Q (.ref p) H'
theorem strike_at {ns : List Int} {i : Nat} {z : Int} (h : ns[i]? = some z) : strike (ns.take (i + 1)) = if i = 0 ∨ ns[i - 1]? ≠ some z then strike (ns.take i) ++ [z] else strike (ns.take i) := by
  rw [take_more h, strike_snoc, push, strike_last, List.getLast?_take]
  by_cases c : i = 0
  · subst c
    simp
  · rw [if_neg c]
    have : i - 1 < ns.length := by have := lt_of_get h; omega
    rw [List.getElem?_eq_getElem this]
    by_cases d : ns[i - 1] = z
    · simp [c, d]
    · simp [c, d]
theorem good_struck (T : Txt K mg) : Good P w K mg base CX0 1 "_law_struck" ["_law_row_here"] [] spStruck := by
  refine good0 T.d_law_struck T.g_law_struck scLawStruck (fun _ _ _ _ _ _ us hl => match us, hl with | [_], _ => rfl) (fun vs H Q E h => ?_) (fun cdv A outer s H vs Q E hr h => ?_)
  · obtain ⟨a, ns, rfl, _⟩ := h
    rfl
  · obtain ⟨a, ns, rfl, ha, hl, k⟩ := h
    refine ⟨_, (pss_one
    (ps_ret (pe_lc (own := [("_law_at", 1)]) rfl scLawStruck.nd (pi_range1 rfl T.n_range (pa_cons (pe_callB call_len_seq (by rfl) T.n_len PySem.boot_len (pa_cons (pv 0) pa_nil)) pa_nil)) (blkOk_by (N := ["_law_row_here", "_law_at"]) (sc := defScope sLawStruck) (by decide +kernel)) (fun _ _ _ _ _ => (pg_name (i := 1) scLawStruck.nd rfl (Or.inl rfl))) (fun _ _ _ _ _ => pts_one (PW.pt (pw_or (pt_cmpR op_eq (pv 1) (pe_int) (nomark _)) (pw_or1 (pt_cmpR op_ne (pe_ix (ix_listK (K := K) rfl) (pv 0) (pv 1) (fun _ _ => rfl)) (pe_ix (ix_listK (K := K) rfl) (pv 0) (pe_op op_sub (pv 1) (pe_int)) (fun _ _ => rfl)) (nomark _)))))) (fun _ _ _ _ _ => (pe_ix (ix_listK (K := K) rfl) (pv 0) (pv 1) (fun _ _ => rfl)))))), ?_⟩
    refine ⟨_, rfl, a, _, rfl, .inl (SqL.of ha), _, rfl, by omega, by rw [iv_len]; omega, fun D hD => ?_⟩
    refine lc_ranger (fun i l _ => l = iv (strike (ns.take i))) hD (by rw [iv_len]; omega) rfl (fun _ _ _ _ _ h => h) ?_ ?_ ?_
    · rintro i l _ rfl
      rw [iv_len]
      exact Nat.le_trans (strike_len _) (by rw [List.length_take]; omega)
    · rintro i H2 l hi s2 rfl C1 C0 c1 c0
      rw [iv_len] at hi
      have hi' : i < ns.length := by omega
      have hn : ns[i]? = some ns[i] := List.getElem?_eq_getElem hi'
      have ha2 := s2 _ _ ha
      have st := strike_at hn
      have ei : ((0 : Int) + (i : Nat)) = ((i : Nat) : Int) := by omega
      have yes : ∀ H3, Same H2 H3 → (i = 0 ∨ ns[i - 1]? ≠ some ns[i]) → C1 (.int ns[i]) H3 := fun H3 s3 c => c1 _ H3 s3 (by rw [st, if_pos c]; unfold iv; rw [List.map_append]; rfl)
      rw [ei]
      have fin : ∀ H3, Same H2 H3 → (i = 0 ∨ ns[i - 1]? ≠ some ns[i]) → tOp (rIxL K) (tVar 0) (tVar 1) [some (.ref a), some (.int (i : Nat))] H3 C1 := fun H3 s3 c => ⟨_, rfl, _, rfl, a, _, i, _, rfl, rfl, SqL.of (s3 _ _ ha2), atI_nat (iv_at hn), yes H3 s3 c⟩
      refine ⟨rfl, ?_⟩
      refine ⟨_, rfl, rfl, _, rfl, ?_⟩
      by_cases c : i = 0
      · exact iteT' (by simp [c]) (iteT' rfl (fin H2 (Same.refl H2) (.inl c)))
      · have hp : i - 1 < ns.length := by omega
        have hpn : ns[i - 1]? = some ns[i - 1] := List.getElem?_eq_getElem hp
        have e1 : ((i : Nat) : Int) - 1 = ((i - 1 : Nat) : Int) := by omega
        refine iteF' (by simp; omega) ⟨_, rfl, _, rfl, a, _, i, _, rfl, rfl, SqL.of ha2, atI_nat (iv_at hn), _, rfl, _, rfl, _, _, rfl, rfl, a, _, _, .int ns[i - 1], rfl, rfl, SqL.of ha2, by rw [e1]; exact atI_nat (iv_at hpn), rfl, _, rfl, ?_⟩
        by_cases d : ns[i] = ns[i - 1]
        · refine iteF' (by simp [d]) (c0 H2 (Same.refl H2) ?_)
          rw [st, if_neg]
          rintro (q | q)
          · exact c q
          · exact q (by rw [hpn, d])
        · refine iteT' (by simp [d]) (fin H2 (Same.refl H2) (.inr ?_))
          rw [hpn]
          exact fun e => d (Option.some.inj e).symm
    · rintro H2 l s2 h2 rfl
      rw [iv_len, List.take_of_length_le (by omega)] at h2
      exact k H2 D s2 hD h2
theorem scLawStrip : FnScope ["_law_row_here", "_law_head", "_law_out"] ["_law_row_here", "_law_head"] (defScope sLawStrip) := ⟨rfl, rfl, rfl, by decide +kernel, rfl, by decide +kernel, by decide +kernel⟩
def hvv : Option Int → V
  | none => .non
  | some x => .int x
def spStrip : Sp := fun vs H Q _ => ∃ (a : Addr) (ns : List Int) (f : Option Int), vs = [.ref a, hvv f] ∧ H a = some (.lst (iv ns)) ∧ ns.length ≤ 1000 ∧ ∀ H' p, Same H H' → H p = none → H' p = some (.lst (iv (strip f ns))) → Q (.ref p) H'
theorem good_strip (T : Txt K mg) : Good P w K mg base CX0 2 "_law_strip" ["_law_row_here", "_law_head"] [] spStrip := by
  have G_law_struck := good_struck (P := P) (w := w) (base := base) T
  refine good0 T.d_law_strip T.g_law_strip scLawStrip (fun _ _ _ _ _ _ us hl => match us, hl with | [_, _], _ => rfl) (fun vs H Q E h => ?_) (fun cdv A outer s H vs Q E hr h => ?_)
  · obtain ⟨a, ns, f, rfl, _⟩ := h
    rfl
  · obtain ⟨a, ns, f, rfl, ha, hl, k⟩ := h
    refine ⟨_, (pss_cons
    (ps_set (i := 2) scLawStrip.nd rfl (Or.inl rfl) (pe_go G_law_struck hr (by decide) rfl (pa_cons (pv 0) pa_nil)))
    (pss_one
    (ps_ret (pe_ifExp (PW.pt (pw_and (pt_cmpR op_notN (pv 1) (pe_non) (nomark _)) (pw_and1 (pt_cmpR (op_eqD (hu64 hr)) (pe_slice sl_list (pv 2) po_none (po_some (pe_int))) (pe_lst (pa_cons (pv 1) pa_nil)) (nomark _))))) (pe_slice sl_list (pv 2) (po_some (pe_int)) po_none) (pv 2))))), ?_⟩
    refine ⟨_, rfl, a, ns, rfl, ha, hl, fun H1 p s1 hn hp => ?_⟩
    cases f with
    | none => exact ⟨_, rfl, rfl, _, rfl, iteF' rfl (iteF' rfl ⟨_, rfl, k H1 p s1 hn (by rw [strip_none]; exact hp)⟩)⟩
    | some f =>
      refine ⟨_, rfl, rfl, _, rfl, iteT' rfl ⟨_, rfl, 1, rfl, p, _, rfl, SqL.of hp, fun q hq => ?_⟩⟩
      generalize hH2 : upd _ q _ = H2
      obtain ⟨s2, h2⟩ := got hH2 hq
      rw [show cutV (iv (strike ns)) none (some 1) = iv ((strike ns).take 1) from by rw [show (1 : Int) = ((1 : Nat) : Int) from rfl, cutK_take]; unfold iv; rw [List.map_take]] at h2
      refine ⟨_, rfl, Nat.le_of_lt (smallLine (by simp)), fun q3 hq3 => ?_⟩
      generalize hH3 : upd _ q3 _ = H3
      obtain ⟨s3, h3⟩ := got hH3 hq3
      have hp3 := s3 _ _ (s2 _ _ hp)
      have s13 := (s1.trans s2).trans s3
      refine eqL (ns := (strike ns).take 1) (ms := [f]) (s3 _ _ h2) h3 ⟨_, rfl, ?_⟩
      cases e : strike ns with
      | nil =>
        refine iteF' (by simp) ⟨_, rfl, k H3 p s13 hn ?_⟩
        rw [hp3, e, strip, e, if_neg (fun z => by cases z.2)]
      | cons x r =>
        rw [e] at hp3
        by_cases d : x = f
        · subst d
          refine iteT' (by simp) ⟨_, rfl, 1, rfl, p, _, rfl, SqL.of hp3, fun q4 hq4 => k _ q4 (Same.nw s13 hq4) (s13.free hq4) ?_⟩
          rw [upd_same, cutK_tail, strip, e, if_pos ⟨by simp, rfl⟩]
          rfl
        · refine iteF' (by simp [d]) ⟨_, rfl, k H3 p s13 hn ?_⟩
          rw [hp3, strip, e, if_neg]
          intro z
          exact d (Option.some.inj z.2)
end
end K21
end
section
set_option Elab.async false
set_option linter.all false
set_option maxRecDepth 100000
set_option maxHeartbeats 4000000
/-! the law's defs 3 -/
namespace K21
open PySem PySem.Spec PyProof.Rows L2
theorem lexLt_lx : ∀ a b : List Int, HT.lexLt a b = lx a b
  | [], [] => rfl
  | [], _ :: _ => rfl
  | _ :: _, [] => rfl
  | x :: xs, y :: ys => by rw [HT.lexLt_cons, lx_cons, lexLt_lx xs ys]
section
variable {P : Program} {w : World} {K : PySem.W.Frag} {mg : Str → Option Value} {base : Heap}
theorem Row.ix {K : PySem.W.Frag} {H : Hp} {a : Addr} {xs : List V} {i : Int} {v : V} {Q : VK} (r : Row H a xs) (h : atI xs i = some v) (q : Q v H) : rIx K (.ref a) (.int i) H Q := by
  rcases r with r | r
  · exact .inl ⟨a, xs, i, v, rfl, rfl, SqL.of r, h, q⟩
  · exact .inr (.inl ⟨a, xs, i, v, rfl, rfl, SqT.of r, h, q⟩)
theorem scLawHidden : FnScope ["_law_row_here", "_law_within", "_law_at", "_law_colour"] ["_law_row_here", "_law_within"] (defScope sLawHidden) := ⟨rfl, rfl, rfl, by decide +kernel, rfl, by decide +kernel, by decide +kernel⟩
def spHidden : Sp := fun vs H Q _ => ∃ (a b : Addr) (ns ms : List Int), vs = [.ref a, .ref b] ∧ Row H a (iv ns) ∧ H b = some (.lst (iv ms)) ∧ Q (.bl (decide (ns.Sublist ms))) H
theorem good_hidden (T : Txt K mg) : Good P w K mg base CX0 1 "_law_hidden" ["_law_row_here", "_law_within"] [] spHidden := by
  refine good0 T.d_law_hidden T.g_law_hidden scLawHidden (fun _ _ _ _ _ _ us hl => match us, hl with | [_, _], _ => rfl) (fun vs H Q E h => ?_) (fun cdv A outer s H vs Q E hr h => ?_)
  · obtain ⟨a, b, ns, ms, rfl, _⟩ := h
    rfl
  · obtain ⟨a, b, ns, ms, rfl, ha, hb, k⟩ := h
    refine ⟨_, (pss_cons
    (ps_set (i := 2) scLawHidden.nd rfl (Or.inl rfl) (pe_int))
    (pss_cons
    (ps_for PassesOwn.never rfl (pi_list (pv 1)) (pg_name (i := 3) scLawHidden.nd rfl (Or.inl rfl)) (pss_one
      (ps_if (PW.pt (pw_and (pt_cmpR op_lt (pv 2) (pe_callB call_len_seq (by rfl) T.n_len PySem.boot_len (pa_cons (pv 0) pa_nil)) (nomark _)) (pw_and1 (pt_cmpR op_eq (pe_ix ix_seq (pv 0) (pv 2) (fun _ _ => rfl)) (pv 3) (nomark _))))) (pss_one
        (ps_set (i := 2) scLawHidden.nd rfl (Or.inl rfl) (pe_op op_add (pv 2) (pe_int)))) pss_nil)))
    (pss_one
    (ps_ret (pe_cmpR op_eq (pv 2) (pe_callB call_len_seq (by rfl) T.n_len PySem.boot_len (pa_cons (pv 0) pa_nil)) (nomark _)))))), ?_⟩
    refine ⟨_, rfl, b, rfl, ⟨_, SqL.of hb⟩, for_list (xs := iv ms) (fun i σ H' => H' = H ∧ ∃ v, σ = [some (.ref a), some (.ref b), some (.int (((ms.take i).foldl (hgo ns) 0 : Nat) : Int)), v] ∧ (ms.take i).foldl (hgo ns) 0 ≤ ns.length) ⟨rfl, _, rfl, Nat.zero_le _⟩ (fun i σ H' _ ⟨e, _⟩ => by rw [e]; exact SqL.of hb) ?_ ?_⟩
    · rintro i y σ H' hi ⟨rfl, v, rfl, hle⟩
      obtain ⟨z, hz, rfl⟩ := iv_get hi
      have e : (ms.take (i + 1)).foldl (hgo ns) 0 = hgo ns ((ms.take i).foldl (hgo ns) 0) z := by rw [take_more hz, List.foldl_append]; rfl
      refine ⟨_, rfl, _, rfl, a, _, rfl, ha.sq, _, _, rfl, rfl, _, rfl, ?_⟩
      generalize (ms.take i).foldl (hgo ns) 0 = n at e hle
      have le2 := hgo_le (row := ns) (c := z) hle
      rw [e]
      rw [iv_len]
      by_cases c : n < ns.length
      · have hn : ns[n]? = some ns[n] := List.getElem?_eq_getElem c
        refine iteT' (decide_eq_true (by omega)) ⟨_, rfl, _, rfl, ha.ix (atI_nat (iv_at hn)) ⟨_, rfl, rfl, _, rfl, ?_⟩⟩
        by_cases d : ns[n] = z
        · refine iteT' (by simp [d]) ⟨_, rfl, _, _, rfl, rfl, rfl, some (.int z), ?_, le2⟩
          rw [show hgo ns n z = n + 1 from if_pos (by rw [hn, d])]
          rfl
        · refine iteF' (by simp [d]) ⟨rfl, some (.int z), ?_, le2⟩
          rw [show hgo ns n z = n from if_neg (by rw [hn]; exact fun q => d (Option.some.inj q))]
          rfl
      · refine iteF' (decide_eq_false (by omega)) (iteF' rfl ⟨rfl, some (.int z), ?_, le2⟩)
        rw [show hgo ns n z = n from if_neg (by rw [List.getElem?_eq_none (by omega)]; exact fun q => by cases q)]
        rfl
    · rintro σ H' ⟨rfl, v, rfl, hle⟩
      refine ⟨_, rfl, _, rfl, a, _, rfl, ha.sq, rfl, ?_⟩
      rw [iv_len, iv_len, List.take_length]
      have e : decide (V.int ((ms.foldl (hgo ns) 0 : Nat) : Int) = V.int ((ns.length : Nat) : Int)) = decide (ns.Sublist ms) := by
        rw [decide_eq_decide, ← hgo0_iff]
        constructor
        · intro q
          exact Int.ofNat_inj.mp (V.int.inj q)
        · intro q
          rw [q]
      rw [e]
      exact k
theorem scLawWhole : FnScope ["_law_thing"] ["_law_thing"] (defScope sLawWhole) := ⟨rfl, rfl, rfl, by decide +kernel, rfl, by decide +kernel, by decide +kernel⟩
def spLWhole : Sp := fun vs H Q _ => ∃ v : V, vs = [v] ∧ Thing H v ∧ Q (.bl (isIntV v)) H
theorem good_lwhole (T : Txt K mg) : Good P w K mg base CX0 1 "_law_whole" ["_law_thing"] [] spLWhole := by
  refine good0 T.d_law_whole T.g_law_whole scLawWhole (fun _ _ _ _ _ _ us hl => match us, hl with | [_], _ => rfl) (fun vs H Q E h => ?_) (fun cdv A outer s H vs Q E hr h => ?_)
  · obtain ⟨v, rfl, _⟩ := h
    rfl
  · obtain ⟨v, rfl, tv, k⟩ := h
    refine ⟨_, (pss_one
    (ps_ret ((pe_and (pe_callB call_isi (by rfl) T.n_isinstance (by decide +kernel) (pa_cons (pv 0) (pa_cons (pe_bltn rfl T.n_int (v := .ty "int") (u := .type "int") (by decide +kernel) rfl) pa_nil))) (pe_one (pe_not (pe_callB call_isi (by rfl) T.n_isinstance (by decide +kernel) (pa_cons (pv 0) (pa_cons (pe_bltn rfl T.n_bool (v := .ty "bool") (u := .type "bool") (by decide +kernel) rfl) pa_nil))))))))), ?_⟩
    obtain ⟨ty, h1, h2, h3⟩ := tv.ty (K := K)
    refine ⟨_, rfl, _, _, _, _, _, rfl, .ty _, h1, h2, _, rfl, ?_⟩
    cases hi : isIntV v with
    | true =>
      have hb : isBlV v = false := by cases v <;> first | rfl | cases hi
      rw [hi] at k
      rw [hb] at h3
      exact iteT' rfl ⟨_, rfl, _, _, _, _, _, rfl, .ty _, h1, h3, _, rfl, k⟩
    | false =>
      rw [hi] at k
      cases hb : isBlV v with
      | true =>
        rw [hb] at h3
        exact iteT' rfl ⟨_, rfl, _, _, _, _, _, rfl, .ty _, h1, h3, _, rfl, k⟩
      | false => exact iteF' rfl k
theorem scLawLess : FnScope ["_law_one", "_law_other"] ["_law_one", "_law_other"] (defScope sLawLess) := ⟨rfl, rfl, rfl, by decide +kernel, rfl, by decide +kernel, by decide +kernel⟩
def spLess : Sp := fun vs H Q _ => ∃ (a b : Addr) (ns ms : List Int), vs = [.ref a, .ref b] ∧ H a = some (.tup (iv ns)) ∧ H b = some (.tup (iv ms)) ∧ ∀ c : Bool, (c = true ↔ sl ns ms) → Q (.bl c) H
theorem good_less (T : Txt K mg) : Good P w K mg base CX0 1 "_law_less" ["_law_one", "_law_other"] [] spLess := by
  refine good0 T.d_law_less T.g_law_less scLawLess (fun _ _ _ _ _ _ us hl => match us, hl with | [_, _], _ => rfl) (fun vs H Q E h => ?_) (fun cdv A outer s H vs Q E hr h => ?_)
  · obtain ⟨a, b, ns, ms, rfl, _⟩ := h
    rfl
  · obtain ⟨a, b, ns, ms, rfl, ha, hb, k⟩ := h
    refine ⟨_, (pss_one
    (ps_ret ((pe_or (pe_cmpR op_lt (pe_callB call_len_seq (by rfl) T.n_len PySem.boot_len (pa_cons (pv 0) pa_nil)) (pe_callB call_len_seq (by rfl) T.n_len PySem.boot_len (pa_cons (pv 1) pa_nil)) (nomark _)) (pe_one ((pe_and (pe_cmpR op_eq (pe_callB call_len_seq (by rfl) T.n_len PySem.boot_len (pa_cons (pv 0) pa_nil)) (pe_callB call_len_seq (by rfl) T.n_len PySem.boot_len (pa_cons (pv 1) pa_nil)) (nomark _)) (pe_one (pe_cmpR (op_ltT (Nat.lt_of_le_of_lt (Nat.le_add_right _ 64) (hu64 hr))) (pv 0) (pv 1) (nomark _)))))))))), ?_⟩
    refine ⟨_, rfl, a, _, rfl, .inr (SqT.of ha), _, rfl, b, _, rfl, .inr (SqT.of hb), _, _, rfl, rfl, _, rfl, ?_⟩
    rw [iv_len, iv_len]
    by_cases c : ns.length < ms.length
    · exact iteT' (decide_eq_true (by omega)) (k true ⟨fun _ => .inl c, fun _ => rfl⟩)
    refine iteF' (decide_eq_false (by omega)) ⟨_, rfl, a, _, rfl, .inr (SqT.of ha), _, rfl, b, _, rfl, .inr (SqT.of hb), rfl, _, rfl, ?_⟩
    rw [iv_len, iv_len]
    by_cases d : ns.length = ms.length
    · refine iteT' (by simp [d]) ⟨_, rfl, _, rfl, a, b, ns, ms, rfl, rfl, SqT.of ha, SqT.of hb, ?_⟩
      refine k _ ?_
      rw [lexLt_lx]
      exact ⟨fun q => .inr ⟨d, q⟩, fun q => q.elim (fun z => absurd z c) (fun z => z.2)⟩
    · refine iteF' (by simp; omega) (k false ⟨fun q => (by cases q), fun q => q.elim (fun z => absurd z c) (fun z => absurd z.1 d)⟩)
end
end K21
end
section
set_option Elab.async false
set_option linter.all false
set_option maxRecDepth 100000
set_option maxHeartbeats 4000000
/-! the law's defs 4 -/
namespace K21
open PySem PySem.Spec PyProof.Rows L2
section
variable {P : Program} {w : World} {K : PySem.W.Frag} {mg : Str → Option Value} {base : Heap}
theorem scLawHand : FnScope ["_law_script", "_law_total", "_law_cells", "_law_cell"] ["_law_script"] (defScope sLawHand) := ⟨rfl, rfl, rfl, by decide +kernel, rfl, by decide +kernel, by decide +kernel⟩
def spHand (K : PySem.W.Frag) : Sp := fun vs H Q _ => ∃ (a : Addr) (ns : List Int), vs = [.ref a] ∧ SqL K H a (iv ns) ∧ ns.length ≤ 1000 ∧ ∀ H' hd cells, Same H H' → HandOk hd cells H' → Q (.ref hd) H'
theorem SqL.same {K : PySem.W.Frag} {H H' : Hp} {a : Addr} {xs : List V} (h : SqL K H a xs) (s : Same H H') : SqL K H' a xs :=
  h.elim (fun h => .inl (h.elim (fun h => .inl (s _ _ h)) fun ⟨o, h⟩ => .inr ⟨o, s _ _ h⟩)) fun h => .inr h
theorem good_hand (T : Txt K mg) : Good P w K mg base CX0 1 "_law_hand" ["_law_script"] [] (spHand K) := by
  refine good0 T.d_law_hand T.g_law_hand scLawHand (fun _ _ _ _ _ _ us hl => match us, hl with | [_], _ => rfl) (fun vs H Q E h => ?_) (fun cdv A outer s H vs Q E hr h => ?_)
  · obtain ⟨a, ns, rfl, _⟩ := h
    rfl
  · obtain ⟨a, ns, rfl, ha, hl, k⟩ := h
    refine ⟨_, (pss_cons
    (ps_set (i := 1) scLawHand.nd rfl (Or.inl rfl) (pe_op op_add (pe_callB call_len_seq (by rfl) T.n_len PySem.boot_len (pa_cons (pv 0) pa_nil)) (pe_int)))
    (pss_cons
    (ps_set (i := 2) scLawHand.nd rfl (Or.inl rfl) (pe_lst pa_nil))
    (pss_cons
    (ps_for PassesOwn.never rfl (pi_list (pv 0)) (pg_name (i := 3) scLawHand.nd rfl (Or.inl rfl)) (pss_cons
      (ps_set (i := 1) scLawHand.nd rfl (Or.inl rfl) (pe_op op_mod (pe_callTy call_int1 (by rfl) T.n_int (by decide +kernel) (pa_cons (pe_op op_add (pe_op op_mul (pv 1) (pe_int)) (pe_callTy call_int1 (by rfl) T.n_int (by decide +kernel) (pa_cons (pv 3) pa_nil))) pa_nil)) (pe_int)))
      (pss_one
      (ps_expr (pe_bm PySem.F.plainAttrs_list PySem.F.slot_list_append PySem.F.type_list_append mt_append (pv 2) (pa_cons (pe_callB call_abs (by rfl) T.n_abs (by decide +kernel) (pa_cons (pe_callTy call_int1 (by rfl) T.n_int (by decide +kernel) (pa_cons (pv 3) pa_nil)) pa_nil)) pa_nil))))))
    (pss_one
    (ps_ret (pe_lst (pa_cons (pv 2) (pa_cons (pe_int) (pa_cons (pe_int) (pa_cons (pv 1) pa_nil)))))))))), ?_⟩
    refine ⟨_, rfl, a, _, rfl, .inl ha, _, _, rfl, rfl, Nat.zero_le _, fun D hD => ?_⟩
    refine ⟨_, rfl, a, rfl, ⟨_, SqL.same ha (Same.new hD)⟩, for_list (xs := iv ns) (fun i σ H' => i ≤ ns.length ∧ ∃ (t : Int) (v : Option V) (ms : List Int), σ = [some (.ref a), some (.int t), some (.ref D), v] ∧ Same H H' ∧ H' D = some (.lst (iv ms)) ∧ ms.length = i) ⟨Nat.zero_le _, _, _, [], rfl, Same.new hD, upd_same, rfl⟩ (fun i σ H' _ ⟨_, _, _, _, _, s1, _⟩ => SqL.same ha s1) ?_ ?_⟩
    · rintro i y σ H' hi ⟨hil, t, v, ms, rfl, s1, hD', hm⟩
      obtain ⟨z, hz, rfl⟩ := iv_get hi
      have hlt := lt_of_get hz
      refine ⟨_, rfl, _, _, rfl, rfl, .inr (by decide), _, rfl, .inl ⟨_, rfl, _, _, rfl, rfl, .inl ⟨_, rfl, _, _, rfl, rfl, (show (0 : Int) < 2147483587 by decide), ?_⟩⟩⟩
      refine ⟨_, rfl, .inl ⟨rfl, _, SqL.of hD'⟩, _, rfl, .inl ⟨_, rfl, _, rfl, D, _, _, rfl, rfl, hD', smallLine (by rw [iv_len]; omega), hlt, _, _, ms ++ [if z < 0 then -z else z], rfl, Same.out s1 hD, ?_, by rw [List.length_append, hm]; rfl⟩⟩
      rw [upd_same]
      unfold iv
      rw [List.map_append]
      rfl
    · rintro σ H' ⟨_, t, v, ms, rfl, s1, hD', hm⟩
      refine ⟨_, rfl, _, rfl, Nat.le_of_lt (smallLine (by simp)), fun p hp => ?_⟩
      exact k _ p D (Same.nw s1 hp) ⟨0, 0, t, ms, upd_same, Int.le_refl _, by rw [upd_ne (ne_of_none hD' hp)]; exact hD'⟩
/-! ### _law_tuples -/
theorem scLawTuples : FnScope ["_law_thing", "_law_item"] ["_law_thing"] (defScope sLawTuples) := ⟨rfl, rfl, rfl, by decide +kernel, rfl, by decide +kernel, by decide +kernel⟩
theorem fn_false {CX : CXT} {f : Addr} {fd : FuncData} {ps : List Str} : FnOk P w K mg base CX 0 f fd ps (fun _ _ _ _ => False) := ⟨fun _ _ _ _ h => h.elim, fun _ _ _ _ _ _ _ _ _ _ _ _ _ h => h.elim⟩
def spTupI : Sp := fun vs H Q _ => ∃ n : Int, vs = [.int n] ∧ Q (.bl true) H
theorem good_tupI (T : Txt K mg) : Good P w K mg base CX0 1 "_law_tuples" ["_law_thing"] [] spTupI := by
  have G_law_tuples : Good P w K mg base CX0 0 "_law_tuples" ["_law_thing"] [] (fun _ _ _ _ => False) := by
    obtain ⟨fd, F⟩ := T.d_law_tuples
    exact Good.of F T.g_law_tuples fn_false ⟨[], .nil, F.bindsN (fun _ _ _ _ _ _ us hl => match us, hl with | [_], _ => rfl)⟩
  refine good0 T.d_law_tuples T.g_law_tuples scLawTuples (fun _ _ _ _ _ _ us hl => match us, hl with | [_], _ => rfl) (fun vs H Q E h => ?_) (fun cdv A outer s H vs Q E hr h => ?_)
  · obtain ⟨n, rfl, _⟩ := h
    rfl
  · obtain ⟨n, rfl, k⟩ := h
    refine ⟨_, (pss_cons
    (ps_if (pt_val (pe_callB call_isi (by rfl) T.n_isinstance (by decide +kernel) (pa_cons (pv 0) (pa_cons (pe_bltn rfl T.n_tuple (v := .ty "tuple") (u := .type "tuple") (by decide +kernel) rfl) pa_nil)))) (pss_one
      (ps_ret (pe_notT (pe_lc (own := [("_law_item", 1)]) rfl scLawTuples.nd (pi_tup (pv 0)) (blkOk_by (N := ["_law_thing", "_law_item"]) (sc := defScope sLawTuples) (by decide +kernel)) (fun _ _ _ _ _ => (pg_name (i := 1) scLawTuples.nd rfl (Or.inl rfl))) (fun _ _ _ _ _ => pts_one (pt_not (pt_val (pe_go G_law_tuples hr (by decide) rfl (pa_cons (pv 1) pa_nil))))) (fun _ _ _ _ _ => (pe_int)))))) pss_nil)
    (pss_one
    (ps_ret ((pe_or (pe_cmpR op_isN (pv 0) (pe_non) (nomark _)) (pe_one ((pe_and (pe_callB call_isi (by rfl) T.n_isinstance (by decide +kernel) (pa_cons (pv 0) (pa_cons (pe_bltn rfl T.n_int (v := .ty "int") (u := .type "int") (by decide +kernel) rfl) pa_nil))) (pe_one (pe_not (pe_callB call_isi (by rfl) T.n_isinstance (by decide +kernel) (pa_cons (pv 0) (pa_cons (pe_bltn rfl T.n_bool (v := .ty "bool") (u := .type "bool") (by decide +kernel) rfl) pa_nil))))))))))))), ?_⟩
    refine ⟨_, rfl, _, _, _, _, _, rfl, .ty _, .base (.int n), kit_ty (r := false) (by decide +kernel), _, rfl, iteF' rfl ?_⟩
    refine ⟨_, rfl, rfl, _, rfl, iteF' rfl ⟨_, rfl, _, _, _, _, _, rfl, .ty _, .base (.int n), kit_ty (r := true) (by decide +kernel), _, rfl, iteT' rfl ⟨_, rfl, _, _, _, _, _, rfl, .ty _, .base (.int n), kit_ty (r := false) (by decide +kernel), _, rfl, k⟩⟩⟩
def spTupT : Sp := fun vs H Q _ => ∃ (a : Addr) (ns : List Int), vs = [.ref a] ∧ H a = some (.tup (iv ns)) ∧ ns.length ≤ 1000 ∧ ∀ H', Same H H' → Q (.bl true) H'
theorem good_tuples (T : Txt K mg) : Good P w K mg base CX0 2 "_law_tuples" ["_law_thing"] [] spTupT := by
  have G_law_tuples := good_tupI (P := P) (w := w) (base := base) T
  refine good0 T.d_law_tuples T.g_law_tuples scLawTuples (fun _ _ _ _ _ _ us hl => match us, hl with | [_], _ => rfl) (fun vs H Q E h => ?_) (fun cdv A outer s H vs Q E hr h => ?_)
  · obtain ⟨a, ns, rfl, _⟩ := h
    rfl
  · obtain ⟨a, ns, rfl, ha, hl, k⟩ := h
    refine ⟨_, (pss_cons
    (ps_if (pt_val (pe_callB call_isi (by rfl) T.n_isinstance (by decide +kernel) (pa_cons (pv 0) (pa_cons (pe_bltn rfl T.n_tuple (v := .ty "tuple") (u := .type "tuple") (by decide +kernel) rfl) pa_nil)))) (pss_one
      (ps_ret (pe_notT (pe_lc (own := [("_law_item", 1)]) rfl scLawTuples.nd (pi_tup (pv 0)) (blkOk_by (N := ["_law_thing", "_law_item"]) (sc := defScope sLawTuples) (by decide +kernel)) (fun _ _ _ _ _ => (pg_name (i := 1) scLawTuples.nd rfl (Or.inl rfl))) (fun _ _ _ _ _ => pts_one (pt_not (pt_val (pe_go G_law_tuples hr (by decide) rfl (pa_cons (pv 1) pa_nil))))) (fun _ _ _ _ _ => (pe_int)))))) pss_nil)
    (pss_one
    (ps_ret ((pe_or (pe_cmpR op_isN (pv 0) (pe_non) (nomark _)) (pe_one ((pe_and (pe_callB call_isi (by rfl) T.n_isinstance (by decide +kernel) (pa_cons (pv 0) (pa_cons (pe_bltn rfl T.n_int (v := .ty "int") (u := .type "int") (by decide +kernel) rfl) pa_nil))) (pe_one (pe_not (pe_callB call_isi (by rfl) T.n_isinstance (by decide +kernel) (pa_cons (pv 0) (pa_cons (pe_bltn rfl T.n_bool (v := .ty "bool") (u := .type "bool") (by decide +kernel) rfl) pa_nil))))))))))))), ?_⟩
    refine ⟨_, rfl, _, _, _, _, _, rfl, .ty _, .base (.tup ha), kit_ty (r := true) (by decide +kernel), _, rfl, iteT' rfl ?_⟩
    refine ⟨_, rfl, a, rfl, ⟨_, SqT.of ha⟩, fun D hD => ?_⟩
    refine lc_tupr (xs := iv ns) (fun i l _ => l = []) ha hD (by rw [iv_len]; omega) rfl (fun _ _ _ _ _ h => h) (fun i l _ h => by rw [h]; exact Nat.zero_le _) ?_ ?_
    · rintro i x H2 l hx s2 rfl C1 C0 c1 c0
      obtain ⟨z, hz, rfl⟩ := iv_get hx
      exact ⟨rfl, _, rfl, z, rfl, _, rfl, iteF' rfl (c0 H2 (Same.refl H2) rfl)⟩
    · rintro H2 l s2 h2 rfl
      exact ⟨_, .inl ⟨_, SqL.of h2, rfl⟩, k H2 s2⟩
end
end K21
end
section
set_option Elab.async false
set_option linter.all false
set_option maxRecDepth 100000
set_option maxHeartbeats 4000000
/-! the law's defs 5: line_run, inner -/
namespace K21
open PySem PySem.Spec PyProof.Rows L2
theorem tw_len {c : Int} : ∀ {r : List Int} {n : Nat}, (∀ j, j < n → r[j]? = some c) → r[n]? ≠ some c → (r.takeWhile fun x => decide (x = c)).length = n
  | [], 0, _, _ => rfl
  | [], n + 1, h, _ => by cases h 0 (Nat.succ_pos n)
  | x :: r, 0, _, h => by
    have hx : x ≠ c := fun e => h (by rw [e]; rfl)
    rw [List.takeWhile_cons, if_neg (by simpa using hx)]
    rfl
  | x :: r, n + 1, h, h2 => by
    have hx : x = c := Option.some.inj (h 0 (Nat.succ_pos n))
    rw [List.takeWhile_cons, if_pos (by simpa using hx), List.length_cons, tw_len (n := n) (fun j hj => h (j + 1) (Nat.succ_lt_succ hj)) h2]
theorem szl_is {now : List Int} {c : Int} {n : Nat} (h1 : 1 ≤ n) (h : ∀ j, j < n → now[j]? = some c) (h2 : now[n]? ≠ some c) : szl now = n := by
  cases now with
  | nil => cases h 0 h1
  | cons x r =>
    have hx : x = c := Option.some.inj (h 0 h1)
    obtain ⟨m, rfl⟩ : ∃ m, n = m + 1 := ⟨n - 1, by omega⟩
    subst hx
    show 1 + (r.takeWhile fun y => decide (y = x)).length = m + 1
    rw [tw_len (n := m) (fun j hj => h (j + 1) (Nat.succ_lt_succ hj)) h2]
    omega
theorem szl_le {now : List Int} (h : now ≠ []) : szl now ≤ now.length := by
  cases now with
  | nil => exact absurd rfl h
  | cons x r =>
    show 1 + (r.takeWhile fun y => decide (y = x)).length ≤ r.length + 1
    have := (List.takeWhile_sublist (p := fun y => decide (y = x)) (l := r)).length_le
    omega
section
variable {P : Program} {w : World} {K : PySem.W.Frag} {mg : Str → Option Value} {base : Heap}
theorem scLawLineRun : FnScope ["_law_line", "_law_row_here", "_law_now", "_law_tone_here", "_law_size", "_law_at"] ["_law_line", "_law_row_here"] (defScope sLawLineRun) := ⟨rfl, rfl, rfl, by decide +kernel, rfl, by decide +kernel, by decide +kernel⟩
def spLineRun : Sp := fun vs H Q _ => ∃ (a b : Addr) (line row : List Int), vs = [.ref a, .ref b] ∧ H a = some (.tup (iv line)) ∧ H b = some (.lst (iv row)) ∧ line ≠ [] ∧ line.length ≤ 1000 ∧ ∀ H' p, Same H H' → H p = none → H' p = some (.lst (iv (lrun line row))) → Q (.ref p) H'
theorem good_lineRun (T : Txt K mg) : Good P w K mg base CX0 1 "_law_line_run" ["_law_line", "_law_row_here"] [] spLineRun := by
  refine good0 T.d_law_line_run T.g_law_line_run scLawLineRun (fun _ _ _ _ _ _ us hl => match us, hl with | [_, _], _ => rfl) (fun vs H Q E h => ?_) (fun cdv A outer s H vs Q E hr h => ?_)
  · obtain ⟨a, b, line, row, rfl, _⟩ := h
    rfl
  · obtain ⟨a, b, line, row, rfl, ha, hb, hne, hl, k⟩ := h
    refine ⟨_, (pss_cons
    (ps_set (i := 2) scLawLineRun.nd rfl (Or.inl rfl) (pe_callTy call_list_of (by rfl) T.n_list (by decide +kernel) (pa_cons (pv 0) pa_nil)))
    (pss_cons
    (ps_for PassesOwn.never rfl (pi_list (pv 1)) (pg_name (i := 3) scLawLineRun.nd rfl (Or.inl rfl)) (pss_cons
      (ps_set (i := 4) scLawLineRun.nd rfl (Or.inl rfl) (pe_int))
      (pss_cons
      (ps_for PassesOwn.never rfl (pi_range2 rfl T.n_range (pa_cons (pe_int) (pa_cons (pe_callB call_len_seq (by rfl) T.n_len PySem.boot_len (pa_cons (pv 2) pa_nil)) pa_nil))) (pg_name (i := 5) scLawLineRun.nd rfl (Or.inl rfl)) (pss_cons
        (ps_if (pt_cmpR op_ne (pe_ix ix_list (pv 2) (pv 5) (fun _ _ => rfl)) (pe_ix ix_list (pv 2) (pe_int) (fun _ _ => rfl)) (nomark _)) (pss_one
          ps_break) pss_nil)
        (pss_one
        (ps_set (i := 4) scLawLineRun.nd rfl (Or.inl rfl) (pe_op op_add (pv 5) (pe_int))))))
      (pss_one
      (ps_for PassesOwn.never rfl (pi_range1 rfl T.n_range (pa_cons (pv 4) pa_nil)) (pg_name (i := 5) scLawLineRun.nd rfl (Or.inl rfl)) (pss_one
        (ps_asg (pv 3) (pg_sub (pv 2) (pv 5) set_list))))))))
    (pss_one
    (ps_ret (pv 2))))), ?_⟩
    refine ⟨_, rfl, a, _, rfl, .inr (SqT.of ha), fun D hD => ?_⟩
    have hbD : b ≠ D := ne_of_none hb hD
    refine ⟨_, rfl, b, rfl, ⟨_, SqL.of (by rw [upd_ne hbD]; exact hb)⟩, for_list (xs := iv row) (fun i σ H' => ∃ (v4 v5 v6 : Option V), σ = [some (.ref a), some (.ref b), some (.ref D), v4, v5, v6] ∧ Same H H' ∧ H' D = some (.lst (iv (lrun line (row.take i))))) ⟨_, _, _, rfl, Same.new hD, upd_same⟩ (fun i σ H' _ ⟨_, _, _, _, s1, _⟩ => SqL.of (s1 _ _ hb)) ?_ ?_⟩
    · rintro i y σ H' hi ⟨v4, v5, v6, rfl, s1, hD'⟩
      obtain ⟨z, hz, rfl⟩ := iv_get hi
      have hnow : lrun line (row.take (i + 1)) = pour (lrun line (row.take i)) z := by unfold lrun; rw [take_more hz, List.foldl_append]; rfl
      have hlen : (lrun line (row.take i)).length = line.length := lrun_len line _ hne
      rw [hnow]
      generalize lrun line (row.take i) = now at hD' hlen
      have hnn : now ≠ [] := fun e => hne (List.length_eq_zero_iff.mp (by rw [← hlen, e]; rfl))
      have hpos : 0 < now.length := List.length_pos_iff.mpr hnn
      obtain ⟨c, hc⟩ : ∃ c, now[0]? = some c := ⟨_, List.getElem?_eq_getElem hpos⟩
      -- behind the search of the size
      have pourIt : ∀ (v6 : Option V), tFor (iRng1 (tCons (tVar 4) tNil)) (gName 5) (tAsg (tVar 3) (gSub (tVar 2) (tVar 5) rSetL)) { nx := fun σ H' => ∃ (v4 v5 v6 : Option V), σ = [some (.ref a), some (.ref b), some (.ref D), v4, v5, v6] ∧ Same H H' ∧ H' D = some (.lst (iv (pour now z))), rt := Q }
          [some (.ref a), some (.ref b), some (.ref D), some (.int z), some (.int (szl now : Nat)), v6] H' := fun v6 => by
        have hs := szl_le hnn
        refine ⟨_, rfl, _, rfl, by omega, by omega, for_range (fun j σ H2 => ∃ v6 : Option V, σ = [some (.ref a), some (.ref b), some (.ref D), some (.int z), some (.int (szl now : Nat)), v6] ∧ Same H H2 ∧ H2 D = some (.lst (iv (List.replicate j z ++ now.drop j)))) ⟨_, rfl, s1, hD'⟩ ?_ ?_⟩
        · rintro j σ H2 hj ⟨v6, rfl, s2, hD2⟩
          have hj2 : j < now.length := by omega
          rw [show (0 : Int) + (j : Nat) = ((j : Nat) : Int) from by omega]
          refine ⟨_, rfl, _, rfl, _, rfl, D, _, _, j, rfl, rfl, hD2, Evl.ixN_nat (by rw [iv_len, List.length_append, List.length_replicate, List.length_drop]; omega), _, rfl, Same.out s2 hD, ?_⟩
          rw [upd_same]
          unfold iv
          rw [← List.map_set]
          congr 3
          rw [List.set_append_right _ _ (by rw [List.length_replicate]; omega), List.length_replicate, Nat.sub_self, List.drop_eq_getElem_cons hj2, List.set_cons_zero, List.replicate_succ', List.append_assoc]
          rfl
        · rintro σ H2 ⟨v6, rfl, s2, hD2⟩
          exact ⟨_, _, _, rfl, s2, by rw [hD2]; unfold pour; rw [Int.toNat_natCast]⟩
      refine ⟨_, rfl, D, _, rfl, .inl (SqL.of hD'), _, _, rfl, ⟨by decide, by decide, by rw [iv_len]; omega, by rw [iv_len]; omega⟩, ?_⟩
      refine for_range (fun j σ H2 => H2 = H' ∧ j + 1 ≤ now.length ∧ (∃ v6 : Option V, σ = [some (.ref a), some (.ref b), some (.ref D), some (.int z), some (.int ((j + 1 : Nat) : Int)), v6]) ∧ ∀ q, q < j + 1 → now[q]? = some c) ⟨rfl, by omega, ⟨_, rfl⟩, fun q hq => by rw [show q = 0 by omega]; exact hc⟩ ?_ ?_
      · rintro j σ H2 hj ⟨rfl, hj1, ⟨v6, rfl⟩, hq⟩
        rw [iv_len] at hj
        have hj2 : j + 1 < now.length := by omega
        have ej : (1 : Int) + (j : Nat) = ((j + 1 : Nat) : Int) := by omega
        rw [ej]
        have hn : now[j + 1]? = some now[j + 1] := List.getElem?_eq_getElem hj2
        refine ⟨_, rfl, _, rfl, D, _, _, _, rfl, rfl, SqL.of hD', atI_nat (iv_at hn), _, rfl, D, _, 0, .int c, rfl, rfl, SqL.of hD', atI_nat (j := 0) (iv_at hc), rfl, _, rfl, ?_⟩
        by_cases d : now[j + 1] = c
        · refine iteF' (by simp [d]) ⟨_, rfl, _, _, rfl, rfl, rfl, by omega, ⟨_, rfl⟩, fun q hq2 => ?_⟩
          rcases Nat.lt_succ_iff_lt_or_eq.mp hq2 with e | e
          · exact hq q e
          · rw [e, hn, d]
        · refine iteT' (by simp [d]) ?_
          have e : szl now = j + 1 := szl_is (by omega) hq (by rw [hn]; exact fun e => d (Option.some.inj e))
          have := pourIt (some (.int ((j + 1 : Nat) : Int)))
          rw [e] at this
          exact this
      · rintro σ H2 ⟨rfl, hj1, ⟨v6, rfl⟩, hq⟩
        rw [iv_len] at hj1 hq ⊢
        have ej : ((now.length : Int) - 1).toNat + 1 = now.length := by omega
        rw [ej] at hq ⊢
        have e : szl now = now.length := szl_is hpos hq (by rw [List.getElem?_eq_none (Nat.le_refl _)]; exact fun e => by cases e)
        have := pourIt v6
        rw [e] at this
        exact this
    · rintro σ H' ⟨v4, v5, v6, rfl, s1, hD'⟩
      rw [iv_len, List.take_length] at hD'
      exact ⟨_, rfl, k H' D s1 hD hD'⟩
/-! ### _law_inner -/
def ik (w : List Int) : List Key := w.map Sum.inl
theorem ik_kV (w : List Int) : (ik w).map kV = iv w := by
  unfold ik iv
  rw [List.map_map]
  rfl
theorem ik_inj : ∀ {a b : List Int}, ik a = ik b → a = b
  | [], [], _ => rfl
  | [], _ :: _, h => by cases h
  | _ :: _, [], h => by cases h
  | x :: a, y :: b, h => by
    injection h with h1 h2
    rw [ik_inj h2, Sum.inl.inj h1]
def Has (kvs : List (List Key × V)) (w : List Int) : Prop := (valV kvs (ik w)).isSome = true
theorem Has.put {kvs : List (List Key × V)} {u w : List Int} {v : V} : Has (putK kvs (ik u) v) w ↔ w = u ∨ Has kvs w := by
  unfold Has
  rw [valV_put]
  by_cases c : w = u
  · subst c
    rw [if_pos rfl]
    simp
  · rw [if_neg (fun e => c (ik_inj e))]
    exact ⟨.inr, fun z => z.resolve_left c⟩
theorem mem_putK {kvs : List (List Key × V)} {k : List Key} {v : V} {p : List Key × V} (h : p ∈ putK kvs k v) : p.1 = k ∨ ∃ q ∈ kvs, q.1 = p.1 := by
  unfold putK at h
  split at h
  · obtain ⟨q, hq, e⟩ := List.mem_map.mp h
    split at e
    · rename_i c
      left
      rw [← e]
      exact c
    · right
      exact ⟨q, hq, by rw [e]⟩
  · rcases List.mem_append.mp h with q | q
    · exact .inr ⟨p, q, rfl⟩
    · rw [List.mem_singleton.mp q]
      exact .inl rfl
theorem Has.at {kvs : List (List Key × V)} {w : List Int} (h : Has kvs w) : ∃ (j : Nat) (v : V), kvs[j]? = some (ik w, v) := by
  unfold Has at h
  obtain ⟨v, hv⟩ := Option.isSome_iff_exists.mp h
  obtain ⟨p, hp, e⟩ := List.mem_map.mp (valV_in hv)
  obtain ⟨j, hj, e2⟩ := List.getElem_of_mem hp
  exact ⟨j, p.2, by rw [List.getElem?_eq_getElem hj, e2, ← e]⟩
/-- the words without equal neighbours that are hidden in r -/
structure Inn (kvs : List (List Key × V)) (r : List Int) : Prop where
  all : ∀ p ∈ kvs, ∃ w, p.1 = ik w ∧ Nb w ∧ w.Sublist r
  has : ∀ w, Nb w → w.Sublist r → Has kvs w
  len : kvs.length ≤ 2 ^ r.length
theorem paired_get {α β : Type} {R : α → β → Prop} {l1 : List α} {l2 : List β} (h : Paired R l1 l2) : ∀ {j : Nat} {y : β}, l2[j]? = some y → ∃ x, l1[j]? = some x ∧ R x y := by
  induction h with
  | nil => intro j y e; cases e
  | cons r t ih =>
    intro j y e
    cases j with
    | zero => cases e; exact ⟨_, rfl, r⟩
    | succ j => exact ih e
theorem getLast_iv {w : List Int} {u : Int} (h : w.getLast? = some u) : atI (iv w) (-1) = some (V.int u) := by
  have ne : w ≠ [] := fun e => by rw [e] at h; cases h
  have ew : w = w.dropLast ++ [u] := by
    have := List.dropLast_concat_getLast ne
    rw [List.getLast?_eq_some_getLast ne] at h
    rw [Option.some.inj h] at this
    exact this.symm
  rw [ew]
  have := atI_last (iv w.dropLast) (V.int u)
  simpa using this
theorem scLawInner : FnScope ["_law_row_here", "_law_found", "_law_tone_here", "_law_inner_here"] ["_law_row_here"] (defScope sLawInner) := ⟨rfl, rfl, rfl, by decide +kernel, rfl, by decide +kernel, by decide +kernel⟩
def spInner : Sp := fun vs H Q _ => ∃ (a : Addr) (ns : List Int), vs = [.ref a] ∧ H a = some (.lst (iv ns)) ∧ ns.length ≤ 12 ∧ ∀ H' d kvs, Same H H' → H d = none → H' d = some (.dT kvs) → Inn kvs ns → Q (.ref d) H'
theorem good_inner (T : Txt K mg) : Good P w K mg base CX0 1 "_law_inner" ["_law_row_here"] [] spInner := by
  refine good0 T.d_law_inner T.g_law_inner scLawInner (fun _ _ _ _ _ _ us hl => match us, hl with | [_], _ => rfl) (fun vs H Q E h => ?_) (fun cdv A outer s H vs Q E hr h => ?_)
  · obtain ⟨a, ns, rfl, _⟩ := h
    rfl
  · obtain ⟨a, ns, rfl, ha, hl, k⟩ := h
    refine ⟨_, (pss_cons
    (ps_set (i := 1) scLawInner.nd rfl (Or.inl rfl) (pe_disp1T (Nat.lt_of_le_of_lt (Nat.le_add_right _ 64) (hu64 hr)) (pe_tup pa_nil) pe_bl))
    (pss_cons
    (ps_for PassesOwn.never rfl (pi_list (pv 0)) (pg_name (i := 2) scLawInner.nd rfl (Or.inl rfl)) (pss_one
      (ps_for PassesOwn.never rfl (pi_list (pe_listKeys rfl (pv 1) rfl T.n_list (by decide +kernel))) (pg_name (i := 3) scLawInner.nd rfl (Or.inl rfl)) (pss_one
        (ps_if (PW.pt (pw_or (pt_cmpR (op_eqD (hu64 hr)) (pv 3) (pe_tup pa_nil) (nomark _)) (pw_or1 (pt_cmpR op_ne (pe_ix ix_tup (pv 3) (pe_un un_neg (pe_int)) (fun _ _ => rfl)) (pv 2) (nomark _))))) (pss_one
          (ps_dput (hu_of hr) (pv 1) (pe_op op_catA (pv 3) (pe_tup (pa_cons (pv 2) pa_nil))) (pe_bl) rfl)) pss_nil)))))
    (pss_one
    (ps_ret (pv 1))))), ?_⟩
    refine fun d hd => ⟨Nat.zero_le _, fun p0 hp0 => ⟨[], p0, rfl, upd_same, by rw [upd_ne (fun e => by rw [← e, upd_same] at hp0; cases hp0), upd_same], ?_⟩⟩
    have s0 : Same H (upd (upd (upd H d (.dT [])) p0 (.tup [])) d (.dT [([], .bl true)])) := Same.out (Same.nw (Same.new hd) hp0) hd
    have h0 : upd (upd (upd H d (.dT [])) p0 (.tup [])) d (.dT [([], .bl true)]) d = some (.dT [([], .bl true)]) := upd_same
    generalize upd (upd (upd H d (.dT [])) p0 (.tup [])) d (.dT [([], .bl true)]) = H0 at s0 h0
    refine ⟨_, rfl, a, rfl, ⟨_, SqL.of (s0 _ _ ha)⟩, for_list (xs := iv ns) (fun i σ H' => ∃ (v2 v3 : Option V) (kvs : List (List Key × V)), σ = [some (.ref a), some (.ref d), v2, v3] ∧ Same H H' ∧ H' d = some (.dT kvs) ∧ Inn kvs (ns.take i))
      ⟨_, _, _, rfl, s0, h0, ⟨fun p hp => ⟨[], by rw [List.mem_singleton.mp hp]; rfl, trivial, List.Sublist.refl _⟩, fun w _ hw => ?_, Nat.le_refl 1⟩⟩ (fun i σ H' _ ⟨_, _, _, _, s1, _⟩ => SqL.of (s1 _ _ ha)) ?_ ?_⟩
    · have : w = [] := List.sublist_nil.mp hw
      subst this
      rfl
    · rintro i y σ H1 hi ⟨v2, v3, kvs, rfl, s1, hd1, inn⟩
      obtain ⟨z, hz, rfl⟩ := iv_get hi
      have hil := lt_of_get hz
      have hr : (ns.take i).length = i := by rw [List.length_take]; omega
      have hk1 : kvs.length ≤ 4096 := Nat.le_trans inn.len (by rw [hr]; exact Nat.le_trans (Nat.pow_le_pow_right (by decide) (show i ≤ 12 by omega)) (by decide))
      rw [show (fun σ H' => ∃ (v2 v3 : Option V) (kvs : List (List Key × V)), σ = [some (.ref a), some (.ref d), v2, v3] ∧ Same H H' ∧ H' d = some (.dT kvs) ∧ Inn kvs (ns.take (i + 1))) = (fun σ H' => ∃ (v2 v3 : Option V) (kvs : List (List Key × V)), σ = [some (.ref a), some (.ref d), v2, v3] ∧ Same H H' ∧ H' d = some (.dT kvs) ∧ Inn kvs (ns.take i ++ [z])) from by rw [take_more hz]]
      generalize ns.take i = r at inn hr
      refine ⟨_, rfl, d, kvs, rfl, hd1, fun p bs hp isk => ⟨p, rfl, ⟨_, SqL.of upd_same⟩, ?_⟩⟩
      have hpd : p ≠ d := (ne_of_none hd1 hp).symm
      have hbl : bs.length = kvs.length := (Paired.length isk).symm
      refine for_list (xs := bs.map V.ref) (fun j σ H2 => ∃ (v3 : Option V) (kvs' : List (List Key × V)), σ = [some (.ref a), some (.ref d), some (.int z), v3] ∧ Same H H2 ∧ H2 p = some (.lst (bs.map V.ref)) ∧ Tk H1 H2 ∧ H2 d = some (.dT kvs') ∧ (∀ q ∈ kvs', ∃ w, q.1 = ik w ∧ Nb w ∧ w.Sublist (r ++ [z])) ∧
        (∀ w, Nb w → w.Sublist r → Has kvs' w) ∧ (∀ j', j' < j → ∀ w v, kvs[j']? = some (ik w, v) → w.getLast? ≠ some z → Has kvs' (w ++ [z])) ∧ kvs'.length ≤ kvs.length + j) ⟨_, kvs, rfl, Same.nw s1 hp, upd_same, Tk.of (Same.new hp), by rw [upd_ne hpd.symm]; exact hd1, fun q hq => ?_, inn.has, fun j' h => absurd h (Nat.not_lt_zero _), Nat.le_refl _⟩ (fun j σ H2 _ ⟨_, _, _, _, h, _⟩ => SqL.of h) ?_ ?_
      · obtain ⟨w, e, hn, hs⟩ := inn.all q hq
        exact ⟨w, e, hn, hs.trans (List.sublist_append_left _ _)⟩
      · rintro j y σ H2 hj ⟨v3, kvs', rfl, s2, hp2, t2, hd2, hall, hhas, hdone, hlen⟩
        rw [List.getElem?_map] at hj
        obtain ⟨b, hb, rfl⟩ : ∃ b, bs[j]? = some b ∧ y = V.ref b := by
          cases q : bs[j]? with
          | none => rw [q] at hj; cases hj
          | some b => rw [q] at hj; exact ⟨b, rfl, (Option.some.inj hj).symm⟩
        have hjl : j < kvs.length := by have := lt_of_get hb; omega
        obtain ⟨q, hq, hbq⟩ := paired_get isk hb
        obtain ⟨w, ew, hnw, hsw⟩ := inn.all q (List.mem_of_getElem? hq)
        rw [ew, ik_kV] at hbq
        have hb2 := t2 _ _ hbq
        -- the word is put in
        have body : ∀ H3, Same H2 H3 → w.getLast? ≠ some z → sDPut (tVar 1) (tOp (rCatA K) (tVar 3) (tTup (tCons (tVar 2) tNil))) (tC (V.bl true)) { nx := fun σ H2 => ∃ (v3 : Option V) (kvs' : List (List Key × V)), σ = [some (.ref a), some (.ref d), some (.int z), v3] ∧ Same H H2 ∧ H2 p = some (.lst (bs.map V.ref)) ∧ Tk H1 H2 ∧ H2 d = some (.dT kvs') ∧ (∀ q ∈ kvs', ∃ w, q.1 = ik w ∧ Nb w ∧ w.Sublist (r ++ [z])) ∧
            (∀ w, Nb w → w.Sublist r → Has kvs' w) ∧ (∀ j', j' < j + 1 → ∀ w v, kvs[j']? = some (ik w, v) → w.getLast? ≠ some z → Has kvs' (w ++ [z])) ∧ kvs'.length ≤ kvs.length + (j + 1), rt := Q } [some (.ref a), some (.ref d), some (.int z), some (.ref b)] H3 := fun H3 s3 hlast => by
          refine ⟨_, rfl, _, rfl, _, rfl, Nat.le_of_lt (smallLine (by simp)), fun q4 hq4 => ?_⟩
          generalize hH4 : upd _ q4 _ = H4
          obtain ⟨s4, h4⟩ := got hH4 hq4
          have hwl : w.length ≤ 12 := by have := hsw.length_le; omega
          refine catA (s4 _ _ (s3 _ _ hb2)) h4 (by rw [iv_len]; simp; omega) fun H5 p5 s5 h5 => ?_
          have s25 := (s3.trans s4).trans s5
          have hd5 := s25 _ _ hd2
          refine ⟨d, _, rfl, DPut.t (k := ik (w ++ [z])) hd5 (by rw [ik_kV, h5]; unfold iv; rw [List.map_append]; rfl) (smallLine (by omega)), _, _, rfl, Same.out (s2.trans s25) hd, by rw [upd_ne hpd]; exact s25 _ _ hp2, (t2.trans (Tk.of s25)).trans (Tk.put hd5 fun _ z => by cases z), upd_same, fun q hq => ?_, fun u hu hus => Has.put.mpr (.inr (hhas u hu hus)), fun j' hj' u v' hu hul => ?_, ?_⟩
          · rcases mem_putK hq with e | ⟨q', hq', e⟩
            · exact ⟨w ++ [z], e, (Nb_snoc z w).mpr ⟨hnw, hlast⟩, List.Sublist.append hsw (List.Sublist.refl _)⟩
            · obtain ⟨u, e2, h1, h2⟩ := hall q' hq'
              exact ⟨u, by rw [← e, e2], h1, h2⟩
          · rcases Nat.lt_succ_iff_lt_or_eq.mp hj' with e | e
            · exact Has.put.mpr (.inr (hdone j' e u v' hu hul))
            · subst e
              rw [hq] at hu
              have e3 : q.1 = ik u := congrArg Prod.fst (Option.some.inj hu)
              rw [ew] at e3
              rw [ik_inj e3]
              exact Has.put.mpr (.inl rfl)
          · have := DSub.putK_len kvs' (ik (w ++ [z])) (.bl true)
            omega
        refine ⟨_, rfl, Nat.zero_le _, fun q4 hq4 => ?_⟩
        generalize hH4 : upd _ q4 _ = H4
        obtain ⟨s4, h4⟩ := got hH4 hq4
        refine eqT (ns := w) (ms := []) (s4 _ _ hb2) h4 ⟨_, rfl, ?_⟩
        cases ew0 : w.getLast? with
        | none =>
          have : w = [] := List.getLast?_eq_none_iff.mp ew0
          exact iteT' (by rw [this]; rfl) (iteT' rfl (body H4 s4 (by rw [ew0]; exact fun e => by cases e)))
        | some u =>
          have hne : w ≠ [] := fun e => by rw [e] at ew0; cases ew0
          refine iteF' (decide_eq_false hne) ⟨_, rfl, _, rfl, b, _, -1, .int u, rfl, rfl, SqT.of (s4 _ _ hb2), getLast_iv ew0, _, rfl, rfl, _, rfl, ?_⟩
          by_cases du : u = z
          · subst du
            refine iteF' (by simp) ⟨_, _, rfl, s2.trans s4, s4 _ _ hp2, t2.trans (Tk.of s4), s4 _ _ hd2, hall, hhas, fun j' hj' x v' hx hxl => ?_, by omega⟩
            rcases Nat.lt_succ_iff_lt_or_eq.mp hj' with e | e
            · exact hdone j' e x v' hx hxl
            · subst e
              rw [hq] at hx
              have e3 : q.1 = ik x := congrArg Prod.fst (Option.some.inj hx)
              rw [ew] at e3
              rw [← ik_inj e3] at hxl
              exact absurd ew0 hxl
          · exact iteT' (by simp [du]) (body H4 s4 (by rw [ew0]; exact fun e => du (Option.some.inj e)))
      · rintro σ H2 ⟨v3, kvs', rfl, s2, hp2, t2, hd2, hall, hhas, hdone, hlen⟩
        rw [List.length_map, hbl] at hdone hlen
        refine ⟨_, _, kvs', rfl, s2, hd2, hall, fun w hnw hsw => ?_, ?_⟩
        · rcases sub_snoc.mp hsw with q | ⟨u, rfl, q⟩
          · exact hhas w hnw q
          · obtain ⟨h1, h2⟩ := (Nb_snoc z u).mp hnw
            obtain ⟨j, v, hj⟩ := (inn.has u h1 q).at
            exact hdone j (lt_of_get hj) u v hj h2
        · rw [List.length_append, List.length_singleton, Nat.pow_succ]
          have := inn.len
          omega
    · rintro σ H' ⟨v2, v3, kvs, rfl, s1, hd1, inn⟩
      rw [iv_len, List.take_length] at inn
      exact ⟨_, rfl, k H' d kvs s1 hd hd1 inn⟩
end
end K21
end
section
set_option Elab.async false
set_option linter.all false
set_option maxRecDepth 100000
set_option maxHeartbeats 4000000
/-! the law's defs 6: due -/
namespace K21
open PySem PySem.Spec PyProof.Rows L2
section
variable {P : Program} {w : World} {K : PySem.W.Frag} {mg : Str → Option Value} {base : Heap}
/-- a tuple of ints, or None -/
def TupO (H : Hp) (v : V) : Option (List Int) → Prop
  | none => v = .non
  | some x => ∃ t, v = .ref t ∧ H t = some (.tup (iv x))
theorem TupO.tk {H H' : Hp} {v : V} {o : Option (List Int)} (p : TupO H v o) (t : Tk H H') : TupO H' v o := by
  cases o with
  | none => exact p
  | some x =>
    obtain ⟨a, e, h⟩ := p
    exact ⟨a, e, t _ _ h⟩
theorem DueW_snoc {fs : List Int} {f : Int} {one other x : List Int} : DueW (fs ++ [f]) one other x ↔ DueW fs one other x ∨ ∃ w, x = f :: w ∧ w ≠ [] ∧ w.head? ≠ some f ∧ Nb w ∧ w.Sublist (strip (some f) one) ∧ ¬ w.Sublist other := by
  unfold DueW
  constructor
  · rintro ⟨g, hg, r⟩
    rcases List.mem_append.mp hg with q | q
    · exact .inl ⟨g, q, r⟩
    · rw [List.mem_singleton.mp q] at r
      exact .inr r
  · rintro (⟨g, hg, r⟩ | r)
    · exact ⟨g, List.mem_append_left _ hg, r⟩
    · exact ⟨f, List.mem_append_right _ (List.mem_singleton.mpr rfl), r⟩
def dueIn (K : PySem.W.Frag) : TS := tIfS (tAnd (tTest (tOp (rNeD K) (tVar 5) (tTup tNil))) (tAnd (tTest (tOp rNe (tOp (rIxT K) (tVar 5) (tC (V.int 0))) (tVar 4))) (tNot (tB (tCall spHidden [] E0 (tCons (tVar 5) (tCons (tVar 1) tNil))))))) (tIfS (tOr (tTest (tOp (fun x y H Q => y = V.non ∧ Q (V.bl (decide (x = V.non))) H) (tVar 3) (tC V.non))) (tB (tCall spLess [] E0 (tCons (tOp (rCatA K) (tTup (tCons (tVar 4) tNil)) (tVar 5)) (tCons (tVar 3) tNil))))) (tAsg (tOp (rCatA K) (tTup (tCons (tVar 4) tNil)) (tVar 5)) (gName 3)) tNext) tNext
/-- one word weighed -/
theorem due_in {K : PySem.W.Frag} {D : Ends} {a b q : Addr} {other w : List Int} {f : Int} {v2 bv : V} {bo : Option (List Int)} {P0 : List Int → Prop} {H : Hp} (hb : H b = some (.lst (iv other))) (hq : H q = some (.tup (iv w))) (hwl : w.length ≤ 1000) (tb : TupO H bv bo) (mb : IsMin P0 bo)
    (k : ∀ H' bv' bo', Same H H' → TupO H' bv' bo' → IsMin (fun x => P0 x ∨ (x = f :: w ∧ w ≠ [] ∧ w.head? ≠ some f ∧ ¬ w.Sublist other)) bo' → D.nx [some (.ref a), some (.ref b), some v2, some bv', some (.int f), some (.ref q)] H') :
    dueIn K D [some (.ref a), some (.ref b), some v2, some bv, some (.int f), some (.ref q)] H := by
  have skip : ∀ H', Same H H' → ¬ (w ≠ [] ∧ w.head? ≠ some f ∧ ¬ w.Sublist other) → D.nx [some (.ref a), some (.ref b), some v2, some bv, some (.int f), some (.ref q)] H' := fun H' s n =>
    k H' bv bo s (tb.tk (Tk.of s)) (mb.congr fun x => ⟨.inl, fun z => z.resolve_right fun e => n e.2⟩)
  refine ⟨_, rfl, Nat.zero_le _, fun p0 hp0 => ?_⟩
  generalize hH1 : upd _ p0 _ = H1
  obtain ⟨s1, h1⟩ := got hH1 hp0
  refine neT (ns := w) (ms := []) (s1 _ _ hq) h1 ⟨_, rfl, ?_⟩
  cases hw : w with
  | nil => exact iteF' (by simp) (iteF' rfl (skip H1 s1 fun z => z.1 hw))
  | cons x r =>
    have hw0 : (iv w)[0]? = some (V.int x) := by rw [hw]; rfl
    refine iteT' (by simp) ⟨_, rfl, q, _, 0, .int x, rfl, rfl, SqT.of (s1 _ _ hq), atI_nat (j := 0) hw0, _, rfl, rfl, _, rfl, ?_⟩
    by_cases c1 : x = f
    · exact iteF' (by simp [c1]) (iteF' rfl (skip H1 s1 fun z => z.2.1 (by rw [hw, c1]; rfl)))
    refine iteT' (by simp [c1]) ⟨_, rfl, _, rfl, q, b, w, other, rfl, .inr (s1 _ _ hq), s1 _ _ hb, _, rfl, ?_⟩
    by_cases c2 : w.Sublist other
    · exact iteF' (by rw [decide_eq_true c2]; rfl) (skip H1 s1 fun z => z.2.2 c2)
    refine iteT' (by rw [decide_eq_false c2]; rfl) ?_
    have good : w ≠ [] ∧ w.head? ≠ some f ∧ ¬ w.Sublist other := ⟨by rw [hw]; simp, by rw [hw]; exact fun e => c1 (Option.some.inj e), c2⟩
    have put : ∀ H2 c, Same H H2 → (c = true ↔ (bo = none ∨ ∃ y, bo = some y ∧ sl (f :: w) y)) → c = true → tAsg (tOp (rCatA K) (tTup (tCons (tVar 4) tNil)) (tVar 5)) (gName 3) D [some (.ref a), some (.ref b), some v2, some bv, some (.int f), some (.ref q)] H2 := fun H2 c s2 hc ht => by
      refine ⟨_, rfl, Nat.le_of_lt (smallLine (by simp)), fun p3 hp3 => ?_⟩
      generalize hH3 : upd _ p3 _ = H3
      obtain ⟨s3, h3⟩ := got hH3 hp3
      refine ⟨_, rfl, catA h3 (s3 _ _ (s2 _ _ hq)) (by rw [iv_len]; simp; omega) fun H4 p4 s4 h4 => k H4 _ (some (f :: w)) ((s2.trans s3).trans s4) ⟨p4, rfl, h4⟩ ?_⟩
      have m := IsMin.add mb (x := f :: w) hc
      rw [if_pos ht] at m
      exact m.congr fun x => ⟨fun z => z.imp id fun e => ⟨e, good⟩, fun z => z.imp id fun e => e.1⟩
    cases bo with
    | none =>
      have e : bv = .non := tb
      refine ⟨_, rfl, rfl, _, rfl, iteT' (by rw [e]; rfl) (iteT' rfl (put H1 true s1 ⟨fun _ => .inl rfl, fun _ => rfl⟩ rfl))⟩
    | some y =>
      obtain ⟨t, rfl, ht⟩ := id tb
      refine ⟨_, rfl, rfl, _, rfl, iteF' rfl ?_⟩
      refine ⟨_, rfl, Nat.le_of_lt (smallLine (by simp)), fun p3 hp3 => ?_⟩
      generalize hH3 : upd _ p3 _ = H3
      obtain ⟨s3, h3⟩ := got hH3 hp3
      refine ⟨_, rfl, catA h3 (s3 _ _ (s1 _ _ hq)) (by rw [iv_len]; simp; omega) fun H4 p4 s4 h4 => ?_⟩
      have s14 := (s1.trans s3).trans s4
      refine ⟨_, rfl, p4, t, f :: w, y, rfl, h4, s14 _ _ ht, fun c hc => ⟨_, rfl, ?_⟩⟩
      cases c with
      | true => exact iteT' rfl (put H4 true s14 ⟨fun _ => .inr ⟨y, rfl, hc.mp rfl⟩, fun _ => rfl⟩ rfl)
      | false =>
        refine iteF' rfl (k H4 _ (some y) s14 (tb.tk (Tk.of s14)) ?_)
        have m := IsMin.add mb (x := f :: w) (c := false) ⟨fun z => (by cases z), fun z => by
          rcases z with e | ⟨y', e, q'⟩
          · cases e
          · cases e
            exact hc.mpr q'⟩
        rw [if_neg (by decide)] at m
        exact m.congr fun x => ⟨fun z => z.imp id fun e => ⟨e, good⟩, fun z => z.imp id fun e => e.1⟩
theorem scLawDue : FnScope ["_law_one", "_law_other", "_law_head", "_law_best", "_law_first", "_law_row_here"] ["_law_one", "_law_other", "_law_head"] (defScope sLawDue) := ⟨rfl, rfl, rfl, by decide +kernel, rfl, by decide +kernel, by decide +kernel⟩
def spDue : Sp := fun vs H Q _ => ∃ (a b : Addr) (one other : List Int) (hd : Option Int), vs = [.ref a, .ref b, hvv hd] ∧ H a = some (.lst (iv one)) ∧ H b = some (.lst (iv other)) ∧ one.length ≤ 12 ∧
  ∀ res, IsMin (DueW (fsOf hd) one other) res → ∀ H' v, Same H H' → TupO H' v res → Q v H'
theorem good_due (T : Txt K mg) : Good P w K mg base CX0 3 "_law_due" ["_law_one", "_law_other", "_law_head"] [] spDue := by
  have G_law_strip := good_strip (P := P) (w := w) (base := base) T
  have G_law_inner := good_inner (P := P) (w := w) (base := base) T
  have G_law_hidden := good_hidden (P := P) (w := w) (base := base) T
  have G_law_less := good_less (P := P) (w := w) (base := base) T
  refine good0 T.d_law_due T.g_law_due scLawDue (fun _ _ _ _ _ _ us hl => match us, hl with | [_, _, _], _ => rfl) (fun vs H Q E h => ?_) (fun cdv A outer s H vs Q E hr h => ?_)
  · obtain ⟨a, b, one, other, hd, rfl, _⟩ := h
    rfl
  · obtain ⟨a, b, one, other, hd, rfl, ha, hb, hl, k⟩ := h
    refine ⟨_, (pss_cons
    (ps_set (i := 3) scLawDue.nd rfl (Or.inl rfl) (pe_non))
    (pss_cons
    (ps_for PassesOwn.never rfl (pi_list (pe_ifExp (pt_cmpR op_isN (pv 2) (pe_non) (nomark _)) (pe_lst (pa_cons (pe_int) (pa_cons (pe_int) (pa_cons (pe_int) pa_nil)))) (pe_lst (pa_cons (pv 2) pa_nil)))) (pg_name (i := 4) scLawDue.nd rfl (Or.inl rfl)) (pss_one
      (ps_for PassesOwn.never rfl (pi_keysF (pe_go G_law_inner hr (by decide) rfl (pa_cons (pe_go G_law_strip hr (by decide) rfl (pa_cons (pv 0) (pa_cons (pv 4) pa_nil))) pa_nil))) (pg_name (i := 5) scLawDue.nd rfl (Or.inl rfl)) (pss_one
        (ps_if (PW.pt (pw_and (pt_cmpR (op_neD (hu64 hr)) (pv 5) (pe_tup pa_nil) (nomark _)) (pw_and (pt_cmpR op_ne (pe_ix ix_tup (pv 5) (pe_int) (fun _ _ => rfl)) (pv 4) (nomark _)) (pw_and1 (pt_not (pt_val (pe_go G_law_hidden hr (by decide) rfl (pa_cons (pv 5) (pa_cons (pv 1) pa_nil))))))))) (pss_one
          (ps_if (PW.pt (pw_or (pt_cmpR op_isN (pv 3) (pe_non) (nomark _)) (pw_or1 (pt_val (pe_go G_law_less hr (by decide) rfl (pa_cons (pe_op op_catA (pe_tup (pa_cons (pv 4) pa_nil)) (pv 5)) (pa_cons (pv 3) pa_nil))))))) (pss_one
            (ps_set (i := 3) scLawDue.nd rfl (Or.inl rfl) (pe_op op_catA (pe_tup (pa_cons (pv 4) pa_nil)) (pv 5)))) pss_nil)) pss_nil)))))
    (pss_one
    (ps_ret (pv 3))))), ?_⟩
    have loop : ∀ H1 lf, Same H H1 → H1 lf = some (.lst (iv (fsOf hd))) → ∃ x, (V.ref lf) = .ref x ∧ (∃ xs, SqL K H1 x xs) ∧ ∃ W : Nat → Nat → L2.St → Hp → Prop, (∃ m, W 0 m [some (.ref a), some (.ref b), some (hvv hd), some .non, none, none] H1) ∧ ∀ i m σ H, W i m σ H →
        ((Itl K x).stop i H ∧ tRet (tVar 3) { nx := fun x H' => Q V.non H', rt := Q } σ H) ∨ ((Itl K x).go i H ∧ ∃ N : L2.St → Hp → Prop, (∀ σ' H', N σ' H' → ∃ m', m' < m ∧ W (i + 1) m' σ' H') ∧ ∀ x' H', (Itl K x).yld i H x' H' → gName 4 x' σ H' fun σ2 H2 =>
          (tFor (iKeys (tFrz (tCall spInner [] E0 (tCons (tCall spStrip [] E0 (tCons (tVar 0) (tCons (tVar 4) tNil))) tNil)))) (gName 5) (dueIn K)) { nx := N, rt := Q, ct := N, bk := tRet (tVar 3) { nx := fun x H' => Q V.non H', rt := Q } } σ2 H2) := by
      intro H1 lf s1 hlf
      refine ⟨lf, rfl, ⟨_, SqL.of hlf⟩, ?_⟩
      refine for_list (D := { nx := _, rt := Q }) (xs := iv (fsOf hd)) (fun i σ H' => ∃ (bv : V) (v4 v5 : Option V) (bo : Option (List Int)), σ = [some (.ref a), some (.ref b), some (hvv hd), some bv, v4, v5] ∧ Same H1 H' ∧ TupO H' bv bo ∧ IsMin (DueW ((fsOf hd).take i) one other) bo) ?_ ?_ ?_ ?_
      · exact ⟨_, _, _, none, rfl, Same.refl _, rfl, fun x ⟨g, hg, _⟩ => by cases hg⟩
      · rintro i σ H' _ ⟨_, _, _, _, _, s, _⟩
        exact SqL.of (s _ _ hlf)
      · rintro i y σ H2 hy ⟨bv, v4, v5, bo, rfl, s2, tb, mb⟩
        obtain ⟨f, hf, rfl⟩ := iv_get hy
        have s02 := s1.trans s2
        refine ⟨_, rfl, _, rfl, a, one, some f, rfl, s02 _ _ ha, by omega, fun H3 p3 s3 _ h3 => ?_⟩
        have sl3 := strip_len (some f) one
        refine ⟨p3, _, rfl, h3, by omega, fun H4 d kvs s4 hdn hd4 inn => ⟨d, kvs, rfl, hd4, fun o => ⟨d, o, rfl, .inr ⟨kvs, upd_same, ?_⟩⟩⟩⟩
        have s24 := s3.trans s4
        have hd2 : H2 d = none := s3.free hdn
        have s25 : Same H2 (upd H4 d (.frz o (.dT kvs))) := Same.out s24 hd2
        have h5 : upd H4 d (.frz o (.dT kvs)) d = some (.frz o (.dT kvs)) := upd_same
        have t45 : Tk H4 (upd H4 d (.frz o (.dT kvs))) := Tk.put hd4 fun _ z => by cases z
        generalize upd H4 d (.frz o (.dT kvs)) = H5 at s25 h5 t45
        refine for_it walk_keysT (fun j σ H' => ∃ (bv : V) (v5 : Option V) (bo : Option (List Int)), σ = [some (.ref a), some (.ref b), some (hvv hd), some bv, some (.int f), v5] ∧ Same H5 H' ∧ TupO H' bv bo ∧ IsMin (fun x => DueW ((fsOf hd).take i) one other x ∨ ∃ j', j' < j ∧ ∃ w v, kvs[j']? = some (ik w, v) ∧ x = f :: w ∧ w ≠ [] ∧ w.head? ≠ some f ∧ ¬ w.Sublist other) bo)
          ⟨bv, v5, bo, rfl, Same.refl _, tb.tk (Tk.of s25), mb.congr fun x => ⟨.inl, fun z => z.resolve_right fun ⟨j', h, _⟩ => absurd h (Nat.not_lt_zero _)⟩⟩ (fun j σ H' _ ⟨_, _, _, _, s, _⟩ => s _ _ h5) ?_ ?_
        · rintro j x σ H6 H7 hj ⟨bv, v5, bo, rfl, s6, tb, mb⟩ ⟨rfl, kk, v, q, hkv, rfl, hq⟩
          obtain ⟨w, ew, hnw, hsw⟩ := inn.all _ (List.mem_of_getElem? hkv)
          have ew : kk = ik w := ew
          rw [ew, ik_kV] at hq
          rw [ew] at hkv
          have hwl := hsw.length_le
          refine due_in (P0 := _) (s6 _ _ (s25 _ _ (s02 _ _ hb))) hq (by omega) tb mb fun H8 bv' bo' s8 tb' mb' => ⟨bv', _, bo', rfl, s6.trans s8, tb', mb'.congr fun x => ?_⟩
          constructor
          · rintro ((z | ⟨j', hj', r⟩) | ⟨e, r⟩)
            · exact .inl z
            · exact .inr ⟨j', by omega, r⟩
            · exact .inr ⟨j, by omega, w, v, hkv, e, r⟩
          · rintro (z | ⟨j', hj', w', v', hk', r⟩)
            · exact .inl (.inl z)
            · rcases Nat.lt_succ_iff_lt_or_eq.mp hj' with e | e
              · exact .inl (.inr ⟨j', e, w', v', hk', r⟩)
              · subst e
                rw [hkv] at hk'
                have e3 := ik_inj (congrArg Prod.fst (Option.some.inj hk'))
                rw [← e3] at r
                exact .inr r
        · rintro σ H6 ⟨bv, v5, bo, rfl, s6, tb, mb⟩
          refine ⟨bv, _, _, bo, rfl, (s2.trans s25).trans s6, tb, mb.congr fun x => ?_⟩
          rw [take_more hf, DueW_snoc]
          constructor
          · rintro (z | ⟨j', hj', w', v', hk', e, r1, r2, r3⟩)
            · exact .inl z
            · obtain ⟨w2, e2, hn2, hs2⟩ := inn.all _ (List.mem_of_getElem? hk')
              have e2 : ik w' = ik w2 := e2
              rw [← ik_inj e2] at hn2 hs2
              exact .inr ⟨w', e, r1, r2, hn2, hs2, r3⟩
          · rintro (z | ⟨w', e, r1, r2, hn2, hs2, r3⟩)
            · exact .inl z
            · obtain ⟨j', v', hj'⟩ := (inn.has w' hn2 hs2).at
              exact .inr ⟨j', lt_of_get hj', w', v', hj', e, r1, r2, r3⟩
      · rintro σ H' ⟨bv, v4, v5, bo, rfl, s, tb, mb⟩
        rw [iv_len, List.take_length] at mb
        exact ⟨_, rfl, k bo mb H' bv (s1.trans s) tb⟩
    cases hd with
    | none =>
      refine ⟨_, rfl, rfl, _, rfl, iteT' rfl ⟨Nat.le_of_lt (smallLine (by simp)), fun lf hlf => ?_⟩⟩
      exact loop _ lf (Same.new hlf) upd_same
    | some f =>
      refine ⟨_, rfl, rfl, _, rfl, iteF' rfl ⟨_, rfl, Nat.le_of_lt (smallLine (by simp)), fun lf hlf => ?_⟩⟩
      exact loop _ lf (Same.new hlf) upd_same
end
end K21
end
section
set_option Elab.async false
set_option linter.all false
set_option maxRecDepth 100000
set_option maxHeartbeats 4000000
/-! the law's defs 7: step, shortest -/
namespace K21
open PySem PySem.Spec PyProof.Rows L2
def LstI (H : Hp) (v : V) (ns : List Int) : Prop := ∃ a, v = .ref a ∧ H a = some (.lst (iv ns))
theorem LstI.same {H H' : Hp} {v : V} {ns : List Int} (i : LstI H v ns) (s : Same H H') : LstI H' v ns := by
  obtain ⟨a, e, h⟩ := i
  exact ⟨a, e, s _ _ h⟩
abbrev lenR (K : PySem.W.Frag) : List V → Hp → VK → Prop := fun xs H Q => ∃ p ys, xs = [V.ref p] ∧ (SqL K H p ys ∨ SqT K H p ys) ∧ Q (V.int ↑ys.length) H
def stWant (K : PySem.W.Frag) : TE := tLc (iRng1 (tCons (tC (V.int 3)) tNil)) (gName 8) (tTest (tOp (rI0 fun i j => V.bl (decide (i < j))) (tOp (rIxT K) (tVar 1) (tVar 8)) (tCB (lenR K) (tCons (tOp (rIxL K) (tVar 0) (tVar 8)) tNil)))) (tOp (rIxL K) (tOp (rIxL K) (tVar 0) (tVar 8)) (tOp (rIxT K) (tVar 1) (tVar 8))) [8]
def stAh (K : PySem.W.Frag) : TE := tupT K (tLc (iRng1 (tCons (tC (V.int 3)) tNil)) (gName 8) tYes (tOp (rI0 fun i j => V.int (i + j)) (tOp (rIxT K) (tVar 1) (tVar 8)) (tIf (tTest (tOp (rEqD K) (tSl (rSlL K) (tOp (rIxL K) (tVar 0) (tVar 8)) (tPart (tOp (rIxT K) (tVar 1) (tVar 8))) (tPart (tOp (rI0 fun i j => V.int (i + j)) (tOp (rIxT K) (tVar 1) (tVar 8)) (tC (V.int 1))))) (tLst (tCons (tVar 5) tNil)))) (tC (V.int 1)) (tC (V.int 0)))) [8])
structure StC (H : Hp) (I pl : Addr) (is : List V) (rows : Rws) (ps : List Nat) : Prop where
  hI : H I = some (.lst is)
  al : Al (LstI H) is rows
  h3 : rows.length = 3
  hpl : H pl = some (.tup (iv (nz ps)))
  hl : ps.length = 3
theorem StC.same {H H' : Hp} {I pl : Addr} {is : List V} {rows : Rws} {ps : List Nat} (c : StC H I pl is rows ps) (s : Same H H') : StC H' I pl is rows ps := ⟨s _ _ c.hI, c.al.imp fun v x h => h.same s, c.h3, s _ _ c.hpl, c.hl⟩
theorem StC.at {H : Hp} {I pl : Addr} {is : List V} {rows : Rws} {ps : List Nat} (c : StC H I pl is rows ps) {i : Nat} (hi : i < 3) : ∃ a r p, is[i]? = some (.ref a) ∧ H a = some (.lst (iv r)) ∧ rows[i]? = some r ∧ ps[i]? = some p ∧ (rows.zip ps)[i]? = some (r, p) ∧ (iv (nz ps))[i]? = some (.int (p : Nat)) := by
  have h1 := c.al.1
  have h3 := c.h3
  have hl := c.hl
  have hx : is[i]? = some (is[i]'(by omega)) := List.getElem?_eq_getElem (by omega)
  obtain ⟨r, hr, a, e, ha⟩ := c.al.get hx
  have hp : ps[i]? = some (ps[i]'(by omega)) := List.getElem?_eq_getElem (by omega)
  refine ⟨a, r, _, by rw [hx, e], ha, hr, hp, zip_get hr hp, iv_at ?_⟩
  unfold nz
  rw [List.getElem?_map, hp]
  rfl
theorem st_want {K : PySem.W.Frag} {H : Hp} {I pl : Addr} {is : List V} {rows : Rws} {ps : List Nat} {r : List (Option V)} {s2 s3 s4 s5 s6 s7 s8 : Option V} {Q : VK} (c : StC H I pl is rows ps) (k : ∀ H' p, Same H H' → H' p = some (.lst (iv (wantO rows ps))) → Q (.ref p) H') :
    stWant K [some (.ref I), some (.ref pl), s2, s3, s4, s5, s6, s7, s8] H Q := by
  have hz : (rows.zip ps).length = 3 := by rw [List.length_zip, c.h3, c.hl]; rfl
  refine ⟨3, rfl, by decide, by decide, fun D hD => ?_⟩
  refine lc_ranger (fun i l _ => i ≤ 3 ∧ l = iv (((rows.zip ps).take i).filterMap fun x => x.1[x.2]?)) hD (by decide) ⟨Nat.zero_le _, rfl⟩ (fun _ _ _ _ _ h => h) ?_ ?_ ?_
  · rintro i l _ ⟨hi, rfl⟩
    rw [iv_len]
    refine Nat.le_trans (List.length_filterMap_le _ _) ?_
    rw [List.length_take]
    omega
  · rintro i H2 l hi sm ⟨_, rfl⟩ C1 C0 c1 c0
    have hi3 : i < 3 := hi
    obtain ⟨a, r, p, h1, h2, h3, h4, h5, h6⟩ := (c.same sm).at hi3
    have c2 := c.same sm
    rw [show ((0 : Int) + (i : Nat)) = ((i : Nat) : Int) from by omega]
    refine ⟨rfl, _, rfl, _, rfl, pl, _, _, _, rfl, rfl, SqT.of c2.hpl, atI_nat h6, _, rfl, _, rfl, I, is, _, _, rfl, rfl, SqL.of c2.hI, atI_nat h1, a, _, rfl, .inl (SqL.of h2), _, _, rfl, rfl, _, rfl, ?_⟩
    rw [iv_len]
    by_cases cc : p < r.length
    · have hn : r[p]? = some r[p] := List.getElem?_eq_getElem cc
      refine iteT' (decide_eq_true (by omega)) ⟨_, rfl, _, rfl, I, is, _, _, rfl, rfl, SqL.of c2.hI, atI_nat h1, _, rfl, _, rfl, pl, _, _, _, rfl, rfl, SqT.of c2.hpl, atI_nat h6, a, _, _, .int r[p], rfl, rfl, SqL.of h2, atI_nat (iv_at hn), c1 _ H2 (Same.refl H2) ⟨hi3, ?_⟩⟩
      rw [take_more h5, List.filterMap_append]
      unfold iv
      rw [List.map_append]
      congr 1
      simp [hn]
    · refine iteF' (decide_eq_false (by omega)) (c0 H2 (Same.refl H2) ⟨hi3, ?_⟩)
      rw [take_more h5, List.filterMap_append]
      simp [List.getElem?_eq_none (Nat.le_of_not_lt cc)]
  · rintro H2 l sm h2 ⟨_, rfl⟩
    rw [List.take_of_length_le (by rw [hz]; exact Nat.le_refl 3)] at h2
    exact k H2 D sm h2
theorem st_ah {K : PySem.W.Frag} {H : Hp} {I pl : Addr} {is : List V} {rows : Rws} {ps : List Nat} {s2 s3 s4 s6 s7 s8 : Option V} {t : Int} {Q : VK} (c : StC H I pl is rows ps) (k : ∀ H' p, Same H H' → H' p = some (.tup (iv (nz (aheadO rows ps t)))) → Q (.ref p) H') :
    stAh K [some (.ref I), some (.ref pl), s2, s3, s4, some (.int t), s6, s7, s8] H Q := by
  have hz : (rows.zip ps).length = 3 := by rw [List.length_zip, c.h3, c.hl]; rfl
  refine ⟨3, rfl, by decide, by decide, fun D hD => ?_⟩
  refine lc_ranger (fun i l _ => i ≤ 3 ∧ l = iv (nz (((rows.zip ps).take i).map (ah1 t)))) hD (by decide) ⟨Nat.zero_le _, rfl⟩ (fun _ _ _ _ _ h => h) ?_ ?_ ?_
  · rintro i l _ ⟨hi, rfl⟩
    rw [iv_len, nz, List.length_map, List.length_map, List.length_take]
    omega
  · rintro i H2 l hi sm ⟨_, rfl⟩ C1 C0 c1 c0
    have hi3 : i < 3 := hi
    obtain ⟨a, r, p, h1, h2, h3, h4, h5, h6⟩ := (c.same sm).at hi3
    have c2 := c.same sm
    rw [show ((0 : Int) + (i : Nat)) = ((i : Nat) : Int) from by omega]
    have fin : ∀ H3, Same H2 H3 → ∀ z : Int, z = ((ah1 t (r, p) : Nat) : Int) → C1 (.int z) H3 := fun H3 s3 z hz => by
      refine c1 _ H3 s3 ⟨hi3, ?_⟩
      rw [take_more h5, List.map_append, hz]
      unfold nz iv
      simp
    refine ⟨rfl, ?_⟩
    refine ⟨_, rfl, _, rfl, pl, _, _, _, rfl, rfl, SqT.of c2.hpl, atI_nat h6, ?_⟩
    refine ⟨_, rfl, _, rfl, I, is, _, _, rfl, rfl, SqL.of c2.hI, atI_nat h1, _, rfl, _, rfl, pl, _, _, _, rfl, rfl, SqT.of c2.hpl, atI_nat h6, _, rfl, _, rfl, _, rfl, pl, _, _, _, rfl, rfl, SqT.of c2.hpl, atI_nat h6, _, _, rfl, rfl, _, rfl, a, _, rfl, SqL.of h2, fun q hq => ?_⟩
    generalize hH3 : upd _ q _ = H3
    obtain ⟨s3', h3'⟩ := got hH3 hq
    rw [cut_iv] at h3'
    refine ⟨_, rfl, Nat.le_of_lt (smallLine (by simp)), fun q2 hq2 => ?_⟩
    generalize hH4 : upd _ q2 _ = H4
    obtain ⟨s4', h4'⟩ := got hH4 hq2
    refine eqL (ns := (r.drop p).take 1) (ms := [t]) (s4' _ _ h3') h4' ⟨_, rfl, ?_⟩
    by_cases cc : r[p]? = some t
    · refine iteT' (take_one.mpr cc) ⟨_, _, rfl, rfl, fin H4 (s3'.trans s4') _ ?_⟩
      rw [show ah1 t (r, p) = p + 1 from if_pos cc]
      rfl
    · refine iteF' (Bool.eq_false_iff.mpr fun e => cc (take_one.mp e)) ⟨_, _, rfl, rfl, fin H4 (s3'.trans s4') _ ?_⟩
      rw [show ah1 t (r, p) = p from if_neg cc]
      show (p : Int) + 0 = p
      omega
  · rintro H2 l sm h2 ⟨_, rfl⟩
    rw [List.take_of_length_le (by rw [hz]; exact Nat.le_refl 3)] at h2
    exact ⟨D, _, rfl, .inl ⟨SqL.of h2, fun q hq => k _ q (Same.nw sm hq) upd_same⟩⟩
theorem ahst_seq {K : PySem.W.Frag} {H : Hp} {I pl : Addr} {is : List V} {rows : Rws} {ps : List Nat} {s2 s3 s4 s6 s7 s8 : Option V} {t : Int} {D : Ends} {u : TS} (c : StC H I pl is rows ps) (k : ∀ H' p, Same H H' → H' p = some (.tup (iv (nz (aheadO rows ps t)))) → u D [some (.ref I), some (.ref pl), s2, s3, s4, some (.int t), some (.ref p), s7, s8] H') :
    tSeq (tAsg (stAh K) (gName 6)) u D [some (.ref I), some (.ref pl), s2, s3, s4, some (.int t), s6, s7, s8] H :=
  st_ah (Q := fun v H1 => u D [some (.ref I), some (.ref pl), s2, s3, s4, some (.int t), some v, s7, s8] H1) c k
theorem wantst_seq {K : PySem.W.Frag} {H : Hp} {I pl : Addr} {is : List V} {rows : Rws} {ps : List Nat} {s2 s3 s4 s5 s6 s7 s8 : Option V} {D : Ends} {u : TS} (c : StC H I pl is rows ps) (k : ∀ H' p, Same H H' → H' p = some (.lst (iv (wantO rows ps))) → u D [some (.ref I), some (.ref pl), s2, some (.ref p), s4, s5, s6, s7, s8] H') :
    tSeq (tAsg (stWant K) (gName 3)) u D [some (.ref I), some (.ref pl), s2, s3, s4, s5, s6, s7, s8] H :=
  st_want (r := []) (Q := fun v H1 => u D [some (.ref I), some (.ref pl), s2, some v, s4, s5, s6, s7, s8] H1) c k
section
variable {P : Program} {w : World} {K : PySem.W.Frag} {mg : Str → Option Value} {base : Heap}
theorem scLawStep : FnScope ["_law_rows", "_law_places", "_law_best", "_law_wanted", "_law_least", "_law_tone_here", "_law_ahead", "_law_row_here", "_law_at"] ["_law_rows", "_law_places", "_law_best"] (defScope sLawStep) := ⟨rfl, rfl, rfl, by decide +kernel, rfl, by decide +kernel, by decide +kernel⟩
def spStep : Sp := fun vs H Q _ => ∃ (I pl B : Addr) (is : List V) (rows : Rws) (ps : List Nat) (kvs : List (List Key × V)), vs = [.ref I, .ref pl, .ref B] ∧ H I = some (.lst is) ∧ Al (LstI H) is rows ∧ rows.length = 3 ∧ (∀ r ∈ rows, r.length ≤ 40) ∧ H pl = some (.tup (iv (nz ps))) ∧ Vd rows ps ∧ H B = some (.dT kvs) ∧
  (∀ t ∈ wantO rows ps, ∃ a x, valV kvs (nk (aheadO rows ps t)) = some (.ref a) ∧ H a = some (.tup (iv x)) ∧ IsMin (PP rows (aheadO rows ps t)) (some x)) ∧ ∀ x, IsMin (PP rows ps) (some x) → ∀ H' p, Same H H' → H' p = some (.tup (iv x)) → Q (.ref p) H'
theorem good_step (T : Txt K mg) : Good P w K mg base CX0 2 "_law_step" ["_law_rows", "_law_places", "_law_best"] [] spStep := by
  have G_law_less := good_less (P := P) (w := w) (base := base) T
  refine good0 T.d_law_step T.g_law_step scLawStep (fun _ _ _ _ _ _ us hl => match us, hl with | [_, _, _], _ => rfl) (fun vs H Q E h => ?_) (fun cdv A outer s H vs Q E hr h => ?_)
  · obtain ⟨I, pl, B, is, rows, ps, kvs, rfl, _⟩ := h
    rfl
  · obtain ⟨I, pl, B, is, rows, ps, kvs, rfl, hI, al, h3, hr40, hpl, hv, hB, hbest, k⟩ := h
    refine ⟨_, (pss_cons
    (ps_setLc (i := 3) (own := [("_law_at", 8)]) rfl scLawStep.nd rfl rfl (sw_true rfl rfl rfl (by decide +kernel)) (pi_range1 rfl T.n_range (pa_cons (pe_int) pa_nil)) (blkOk_by (N := ["_law_rows", "_law_places", "_law_best", "_law_wanted", "_law_least", "_law_tone_here", "_law_ahead", "_law_row_here", "_law_at"]) (sc := defScope sLawStep) (by decide +kernel)) (fun _ _ _ _ _ => (pg_name (i := 8) scLawStep.nd rfl (Or.inl rfl))) (fun _ _ _ _ _ => pts_one (pt_cmpR op_lt (pe_ix (ix_tupK (K := K) rfl) (pv 1) (pv 8) (fun _ _ => rfl)) (pe_callB (call_len_seqK (K := K) rfl) (by rfl) T.n_len PySem.boot_len (pa_cons (pe_ix (ix_listK (K := K) rfl) (pv 0) (pv 8) (fun _ _ => rfl)) pa_nil)) (nomark _))) (fun _ _ _ _ _ => (pe_ix (ix_listK (K := K) rfl) (pe_ix (ix_listK (K := K) rfl) (pv 0) (pv 8) (fun _ _ => rfl)) (pe_ix (ix_tupK (K := K) rfl) (pv 1) (pv 8) (fun _ _ => rfl)) (fun _ _ => rfl))))
    (pss_cons
    (ps_set (i := 4) scLawStep.nd rfl (Or.inl rfl) (pe_non))
    (pss_cons
    (ps_for PassesOwn.never rfl (pi_list (pv 3)) (pg_name (i := 5) scLawStep.nd rfl (Or.inr rfl)) (pss_cons
      (ps_set (i := 6) scLawStep.nd rfl (Or.inl rfl) (pe_callTy call_tuple_of (by rfl) T.n_tuple (by decide +kernel) (pa_cons (pe_lc (own := [("_law_at", 8)]) rfl scLawStep.nd (pi_range1 rfl T.n_range (pa_cons (pe_int) pa_nil)) (blkOk_by (N := ["_law_rows", "_law_places", "_law_best", "_law_wanted", "_law_least", "_law_tone_here", "_law_ahead", "_law_row_here", "_law_at"]) (sc := defScope sLawStep) (by decide +kernel)) (fun _ _ _ _ _ => (pg_name (i := 8) scLawStep.nd rfl (Or.inl rfl))) (fun _ _ _ _ _ => pts_nil) (fun _ _ _ _ _ => (pe_op op_add (pe_ix (ix_tupK (K := K) rfl) (pv 1) (pv 8) (fun _ _ => rfl)) (pe_ifExp (pt_cmpR (op_eqDK (K := K) rfl (hu64 hr)) (pe_slice (sl_listK (K := K) rfl) (pe_ix (ix_listK (K := K) rfl) (pv 0) (pv 8) (fun _ _ => rfl)) (po_some (pe_ix (ix_tupK (K := K) rfl) (pv 1) (pv 8) (fun _ _ => rfl))) (po_some (pe_op op_add (pe_ix (ix_tupK (K := K) rfl) (pv 1) (pv 8) (fun _ _ => rfl)) (pe_int)))) (pe_lst (pa_cons (pv 5) pa_nil)) (nomark _)) (pe_int) (pe_int))))) pa_nil)))
      (pss_cons
      (ps_set (i := 7) scLawStep.nd rfl (Or.inl rfl) (pe_op op_catA (pe_tup (pa_cons (pv 5) pa_nil)) (pe_dget (hu_of hr) (pv 2) (pv 6) (fun _ _ => rfl))))
      (pss_one
      (ps_if (PW.pt (pw_or (pt_cmpR op_isN (pv 4) (pe_non) (nomark _)) (pw_or1 (pt_val (pe_go G_law_less hr (by decide) rfl (pa_cons (pv 7) (pa_cons (pv 4) pa_nil))))))) (pss_one
        (ps_set (i := 4) scLawStep.nd rfl (Or.inl rfl) (pv 7))) pss_nil)))))
    (pss_one
    (ps_ret (pe_ifExp (pt_cmpR op_isN (pv 4) (pe_non) (nomark _)) (pe_tup pa_nil) (pv 4))))))), ?_⟩
    have C : StC H I pl is rows ps := ⟨hI, al, h3, hpl, by rw [hv.len, h3]⟩
    obtain ⟨b, hb⟩ : ∃ b : Int → List Int, ∀ t, t ∈ wantO rows ps → ∃ a, valV kvs (nk (aheadO rows ps t)) = some (.ref a) ∧ H a = some (.tup (iv (b t))) ∧ IsMin (PP rows (aheadO rows ps t)) (some (b t)) := by
      refine Classical.axiomOfChoice (r := fun (t : Int) (x : List Int) => t ∈ wantO rows ps → ∃ a, valV kvs (nk (aheadO rows ps t)) = some (V.ref a) ∧ H a = some (.tup (iv x)) ∧ IsMin (PP rows (aheadO rows ps t)) (some x)) fun t => ?_
      by_cases c : t ∈ wantO rows ps
      · obtain ⟨a, x, h⟩ := hbest t c
        exact ⟨x, fun _ => ⟨a, h⟩⟩
      · exact ⟨[], fun z => absurd z c⟩
    refine wantst_seq C fun H1 W s1 hW => ?_
    refine ⟨_, rfl, W, rfl, ⟨_, SqL.of hW⟩, for_list (xs := iv (wantO rows ps)) (fun i σ H' => ∃ (bv : V) (v5 v6 v7 v8 : Option V) (bo : Option (List Int)), σ = [some (.ref I), some (.ref pl), some (.ref B), some (.ref W), some bv, v5, v6, v7, v8] ∧ Same H1 H' ∧ TupO H' bv bo ∧ IsMin (fun x => ∃ t ∈ (wantO rows ps).take i, x = t :: b t) bo)
      ⟨_, _, _, _, _, none, rfl, Same.refl _, rfl, fun x ⟨t, ht, _⟩ => by cases ht⟩ (fun i σ H' _ ⟨_, _, _, _, _, _, _, s, _⟩ => SqL.of (s _ _ hW)) ?_ ?_⟩
    · rintro i y σ H2 hy ⟨bv, v5, v6, v7, v8, bo, rfl, s2, tb, mb⟩
      obtain ⟨t, ht, rfl⟩ := iv_get hy
      have htm : t ∈ wantO rows ps := List.mem_of_getElem? ht
      obtain ⟨a, ha1, ha2, ha3⟩ := hb t htm
      have s02 := s1.trans s2
      have hbl : (b t).length ≤ 1000 := by
        have h1 := PP_len ha3.1
        have h2 := lft_le (rows := rows) (ps := aheadO rows ps t) hr40
        rw [h3] at h2
        omega
      refine ahst_seq (C.same s02) fun H3 p s3 hp => ?_
      refine ⟨_, rfl, Nat.le_of_lt (smallLine (by simp)), fun q hq => ?_⟩
      generalize hH4 : upd _ q _ = H4
      obtain ⟨s4, h4⟩ := got hH4 hq
      have s04 := (s02.trans s3).trans s4
      refine ⟨_, rfl, _, rfl, B, _, rfl, by rw [← ha1]; exact DGet.t (s04 _ _ hB) (by rw [nk_kV]; exact s4 _ _ hp), catA h4 (s04 _ _ ha2) (by rw [iv_len]; simp; omega) fun H5 p5 s5 h5 => ?_⟩
      have h5 : H5 p5 = some (.tup (iv (t :: b t))) := h5
      have s25 := (s3.trans s4).trans s5
      have st : ∀ c : Bool, (c = true ↔ (bo = none ∨ ∃ y, bo = some y ∧ sl (t :: b t) y)) → IsMin (fun x => ∃ t ∈ (wantO rows ps).take (i + 1), x = t :: b t) (if c = true then some (t :: b t) else bo) := fun c hc => by
        refine (IsMin.add mb hc).congr fun x => ?_
        rw [take_more ht]
        constructor
        · rintro (⟨u, hu, e⟩ | e)
          · exact ⟨u, List.mem_append_left _ hu, e⟩
          · exact ⟨t, List.mem_append_right _ (List.mem_singleton.mpr rfl), e⟩
        · rintro ⟨u, hu, e⟩
          rcases List.mem_append.mp hu with q | q
          · exact .inl ⟨u, q, e⟩
          · rw [List.mem_singleton.mp q] at e
            exact .inr e
      cases bo with
      | none =>
        have e : bv = .non := tb
        refine ⟨_, rfl, rfl, _, rfl, iteT' (by rw [e]; rfl) (iteT' rfl ⟨_, rfl, _, _, _, _, _, some (t :: b t), rfl, s2.trans s25, ⟨p5, rfl, h5⟩, st true ⟨fun _ => .inl rfl, fun _ => rfl⟩⟩)⟩
      | some y =>
        obtain ⟨tt, rfl, htt⟩ := id tb
        refine ⟨_, rfl, rfl, _, rfl, iteF' rfl ⟨_, rfl, _, rfl, p5, tt, t :: b t, y, rfl, h5, s25 _ _ htt, fun c hc => ⟨_, rfl, ?_⟩⟩⟩
        have m := st c ⟨fun z => .inr ⟨y, rfl, hc.mp z⟩, fun z => by
          rcases z with e | ⟨y', e, q'⟩
          · cases e
          · cases e
            exact hc.mpr q'⟩
        cases c with
        | true => exact iteT' rfl ⟨_, rfl, _, _, _, _, _, some (t :: b t), rfl, s2.trans s25, ⟨p5, rfl, h5⟩, m⟩
        | false => exact iteF' rfl ⟨_, _, _, _, _, some y, rfl, s2.trans s25, tb.tk (Tk.of s25), m⟩
    · rintro σ H2 ⟨bv, v5, v6, v7, v8, bo, rfl, s2, tb, mb⟩
      rw [iv_len, List.take_length] at mb
      have fin := PP_step hv (b := b) (fun t ht => (hb t ht).elim fun a h => h.2.2) mb
      cases bo with
      | none =>
        have e : bv = .non := tb
        refine ⟨_, rfl, rfl, _, rfl, iteT' (by rw [e]; rfl) ⟨Nat.zero_le _, fun q hq => k _ fin _ q ((s1.trans s2).trans (Same.new hq)) upd_same⟩⟩
      | some y =>
        obtain ⟨tt, rfl, htt⟩ := id tb
        exact ⟨_, rfl, rfl, _, rfl, iteF' rfl ⟨_, rfl, k _ fin H2 tt (s1.trans s2) htt⟩⟩
end
end K21
end
section
set_option Elab.async false
set_option linter.all false
set_option maxRecDepth 100000
set_option maxHeartbeats 4000000
/-! the law's defs 8: shortest -/
namespace K21
open PySem PySem.Spec PyProof.Rows L2
section
variable {P : Program} {w : World} {K : PySem.W.Frag} {mg : Str → Option Value} {base : Heap}
theorem scLawShortest : FnScope ["_law_rows", "_law_best", "_law_first", "_law_second", "_law_third"] ["_law_rows"] (defScope sLawShortest) := ⟨rfl, rfl, rfl, by decide +kernel, rfl, by decide +kernel, by decide +kernel⟩
def spShortest3 : Sp := fun vs H Q _ => ∃ (I : Addr) (is : List V) (rows : Rws), vs = [.ref I] ∧ H I = some (.lst is) ∧ Al (LstI H) is rows ∧ rows.length = 3 ∧ (∀ r ∈ rows, r.length ≤ 12) ∧
  ∀ x, IsMin (PP rows (rows.map fun _ => 0)) (some x) → ∀ H' p, Same H H' → H' p = some (.tup (iv x)) → Q (.ref p) H'
/-- what the table holds -/
structure BestOk (H : Hp) (kvs : List (List Key × V)) (r0 r1 r2 : List Int) (S : Nat → Nat → Nat → Prop) : Prop where
  at' : ∀ p q r, p ≤ r0.length → q ≤ r1.length → r ≤ r2.length → S p q r → ∃ a x, valV kvs (nk [p, q, r]) = some (.ref a) ∧ H a = some (.tup (iv x)) ∧ IsMin (PP [r0, r1, r2] [p, q, r]) (some x)
theorem BestOk.tk {H H' : Hp} {kvs : List (List Key × V)} {r0 r1 r2 : List Int} {S S' : Nat → Nat → Nat → Prop} (b : BestOk H kvs r0 r1 r2 S) (t : Tk H H') (h : ∀ p q r, p ≤ r0.length → q ≤ r1.length → r ≤ r2.length → S' p q r → S p q r) : BestOk H' kvs r0 r1 r2 S' :=
  ⟨fun p q r h1 h2 h3 hs => by
    obtain ⟨a, x, e1, e2, e3⟩ := b.at' p q r h1 h2 h3 (h p q r h1 h2 h3 hs)
    exact ⟨a, x, e1, t _ _ e2, e3⟩⟩
def dn (n0 n1 n2 i j k : Nat) (p q r : Nat) : Prop := n0 < p + i ∨ (n0 = p + i ∧ (n1 < q + j ∨ (n1 = q + j ∧ n2 < r + k)))
theorem ah1_cases (t : Int) (r : List Int) (p : Nat) : ah1 t (r, p) = p ∨ ah1 t (r, p) = p + 1 := by
  unfold ah1
  split
  · exact .inr rfl
  · exact .inl rfl
theorem good_shortest3 (T : Txt K mg) : Good P w K mg base CX0 3 "_law_shortest" ["_law_rows"] [] spShortest3 := by
  have G_law_step := good_step (P := P) (w := w) (base := base) T
  refine good0 T.d_law_shortest T.g_law_shortest scLawShortest (fun _ _ _ _ _ _ us hl => match us, hl with | [_], _ => rfl) (fun vs H Q E h => ?_) (fun cdv A outer s H vs Q E hr h => ?_)
  · obtain ⟨I, is, rows, rfl, _⟩ := h
    rfl
  · obtain ⟨I, is, rows, rfl, hI, al, h3, hr12, k⟩ := h
    refine ⟨_, (pss_cons
    (ps_set (i := 1) scLawShortest.nd rfl (Or.inl rfl) (pe_dnewT))
    (pss_cons
    (ps_for PassesOwn.never rfl (pi_revR rfl T.n_reversed (prg_1 rfl T.n_range (pe_op op_add (pe_callB call_len_seq (by rfl) T.n_len PySem.boot_len (pa_cons (pe_ix ix_list (pv 0) (pe_int) (fun _ _ => rfl)) pa_nil)) (pe_int)))) (pg_name (i := 2) scLawShortest.nd rfl (Or.inl rfl)) (pss_one
      (ps_for PassesOwn.never rfl (pi_revR rfl T.n_reversed (prg_1 rfl T.n_range (pe_op op_add (pe_callB call_len_seq (by rfl) T.n_len PySem.boot_len (pa_cons (pe_ix ix_list (pv 0) (pe_int) (fun _ _ => rfl)) pa_nil)) (pe_int)))) (pg_name (i := 3) scLawShortest.nd rfl (Or.inl rfl)) (pss_one
        (ps_for PassesOwn.never rfl (pi_revR rfl T.n_reversed (prg_1 rfl T.n_range (pe_op op_add (pe_callB call_len_seq (by rfl) T.n_len PySem.boot_len (pa_cons (pe_ix ix_list (pv 0) (pe_int) (fun _ _ => rfl)) pa_nil)) (pe_int)))) (pg_name (i := 4) scLawShortest.nd rfl (Or.inl rfl)) (pss_one
          (ps_dput (hu_of hr) (pv 1) (pe_tup (pa_cons (pv 2) (pa_cons (pv 3) (pa_cons (pv 4) pa_nil)))) (pe_go G_law_step hr (by decide) rfl (pa_cons (pv 0) (pa_cons (pe_tup (pa_cons (pv 2) (pa_cons (pv 3) (pa_cons (pv 4) pa_nil)))) (pa_cons (pv 1) pa_nil)))) rfl)))))))
    (pss_one
    (ps_ret (pe_dget (hu_of hr) (pv 1) (pe_tup (pa_cons (pe_int) (pa_cons (pe_int) (pa_cons (pe_int) pa_nil)))) (fun _ _ => rfl)))))), ?_⟩
    obtain ⟨r0, r1, r2, rfl⟩ : ∃ r0 r1 r2, rows = [r0, r1, r2] := match rows, h3 with | [r0, r1, r2], _ => ⟨r0, r1, r2, rfl⟩
    obtain ⟨x0, x1, x2, rfl⟩ : ∃ x0 x1 x2, is = [x0, x1, x2] := match is, al.1 with | [x0, x1, x2], _ => ⟨x0, x1, x2, rfl⟩
    obtain ⟨⟨a0, rfl, h0⟩, al1⟩ := al.tail
    obtain ⟨⟨a1, rfl, h1⟩, al2⟩ := al1.tail
    obtain ⟨⟨a2, rfl, h2⟩, _⟩ := al2.tail
    have l0 : r0.length ≤ 12 := hr12 r0 (by simp)
    have l1 : r1.length ≤ 12 := hr12 r1 (by simp)
    have l2 : r2.length ≤ 12 := hr12 r2 (by simp)
    refine fun M hM => ?_
    have rng : ∀ (σ : L2.St) (H' : Hp) (j : Nat) (a : Addr) (r : List Int) (n : Nat) (tb : TS) (D : Ends), σ[0]? = some (some (V.ref I)) → Same H H' → ([V.ref a0, V.ref a1, V.ref a2] : List V)[j]? = some (.ref a) → H a = some (.lst (iv r)) → r.length ≤ 12 → (∃ W : Nat → Nat → L2.St → Hp → Prop, (∃ m, W 0 m σ H') ∧ ∀ i m σ H, W i m σ H → ((Itc ((r.length : Nat) : Int) (-1) (r.length + 1)).stop i H ∧ D.nx σ H) ∨ ((Itc ((r.length : Nat) : Int) (-1) (r.length + 1)).go i H ∧ ∃ N : L2.St → Hp → Prop, (∀ σ' H', N σ' H' → ∃ m', m' < m ∧ W (i + 1) m' σ' H') ∧ ∀ x H', (Itc ((r.length : Nat) : Int) (-1) (r.length + 1)).yld i H x H' → gName n x σ H' fun σ2 H2 => tb { D with nx := N, ct := N, bk := D.nx } σ2 H2)) →
        tFor (iRevR (tRg1 (tOp (rI0 fun i j => V.int (i + j)) (tCB (fun xs H_1 Q => ∃ p ys, xs = [V.ref p] ∧ (SqL K H_1 p ys ∨ SqT K H_1 p ys) ∧ Q (V.int ↑ys.length) H_1) (tCons (tOp (rIxL K) (tVar 0) (tC (V.int ((j : Nat) : Int)))) tNil)) (tC (V.int 1))))) (gName n) tb D σ H' := fun σ H' j a r n tb D e0 s ej ha hl hR => by
      refine ⟨_, e0, I, _, _, .ref a, rfl, rfl, SqL.of (s _ _ hI), atI_nat ej, a, _, rfl, .inl (SqL.of (s _ _ ha)), _, _, rfl, rfl, _, rfl, by omega, by omega, by rw [iv_len]; omega, by rw [iv_len]; omega, ?_⟩
      have e1 : ((iv r).length : Int) + 1 - 0 = ((r.length + 1 : Nat) : Int) := by rw [iv_len]; omega
      rw [e1, Int.toNat_natCast]
      have e2 : (0 : Int) + ((r.length + 1 : Nat) : Int) - 1 = ((r.length : Nat) : Int) := by omega
      rw [e2]
      exact hR
    have vl : ∀ (n i : Nat), i < n + 1 → ∃ p : Nat, p + i = n ∧ ((n : Nat) : Int) + (i : Nat) * (-1) = ((p : Nat) : Int) := fun n i h => ⟨n - i, by omega, by omega⟩
    dsimp only [gName]
    refine rng _ _ 0 a0 r0 2 _ _ rfl (Same.new hM) rfl h0 l0 ?_
    refine for_it walk_rangeC (fun i σ H' => i ≤ r0.length + 1 ∧ ∃ (v2 v3 v4 : Option V) (kvs : List (List Key × V)), σ = [some (.ref I), some (.ref M), v2, v3, v4] ∧ Same H H' ∧ H' M = some (.dT kvs) ∧ BestOk H' kvs r0 r1 r2 (dn r0.length r1.length r2.length i 0 0) ∧ kvs.length ≤ i * 196)
      ⟨Nat.zero_le _, _, _, _, [], rfl, Same.new hM, upd_same, ⟨fun p q r h1 h2 h3 hs => ?_⟩, Nat.zero_le _⟩ (fun _ _ _ _ _ => trivial) ?_ ?_
    · exfalso
      unfold dn at hs
      omega
    · rintro i x σ H1 H1' hi ⟨_, v2, v3, v4, kvs, rfl, s1, hM1, best, hk⟩ ⟨rfl, hx⟩
      obtain ⟨p, hp, ep⟩ := vl r0.length i hi
      have hx : x = .int ((p : Nat) : Int) := hx.trans (congrArg V.int ep)
      subst hx
      refine rng _ _ 1 a1 r1 3 _ _ rfl s1 rfl h1 l1 ?_
      refine for_it walk_rangeC (fun j σ H' => j ≤ r1.length + 1 ∧ ∃ (v3 v4 : Option V) (kvs : List (List Key × V)), σ = [some (.ref I), some (.ref M), some (.int (p : Nat)), v3, v4] ∧ Same H H' ∧ H' M = some (.dT kvs) ∧ BestOk H' kvs r0 r1 r2 (dn r0.length r1.length r2.length i j 0) ∧ kvs.length ≤ i * 196 + j * 14)
        ⟨Nat.zero_le _, _, _, kvs, rfl, s1, hM1, best, by omega⟩ (fun _ _ _ _ _ => trivial) ?_ ?_
      · rintro j x σ H2 H2' hj ⟨_, v3, v4, kvs, rfl, s2, hM2, best, hk⟩ ⟨rfl, hx⟩
        obtain ⟨q, hq, eq⟩ := vl r1.length j hj
        have hx : x = .int ((q : Nat) : Int) := hx.trans (congrArg V.int eq)
        subst hx
        refine rng _ _ 2 a2 r2 4 _ _ rfl s2 rfl h2 l2 ?_
        refine for_it walk_rangeC (fun k σ H' => k ≤ r2.length + 1 ∧ ∃ (v4 : Option V) (kvs : List (List Key × V)), σ = [some (.ref I), some (.ref M), some (.int (p : Nat)), some (.int (q : Nat)), v4] ∧ Same H H' ∧ H' M = some (.dT kvs) ∧ BestOk H' kvs r0 r1 r2 (dn r0.length r1.length r2.length i j k) ∧ kvs.length ≤ i * 196 + j * 14 + k)
          ⟨Nat.zero_le _, _, kvs, rfl, s2, hM2, best, by omega⟩ (fun _ _ _ _ _ => trivial) ?_ ?_
        · rintro m x σ H3 H3' hm ⟨_, v4, kvs, rfl, s3, hM3, best, hk⟩ ⟨rfl, hx⟩
          obtain ⟨r, hr', er⟩ := vl r2.length m hm
          have hx : x = .int ((r : Nat) : Int) := hx.trans (congrArg V.int er)
          subst hx
          have vd : Vd [r0, r1, r2] [p, q, r] := ⟨by omega, by omega, by omega, trivial⟩
          refine ⟨_, rfl, _, rfl, _, rfl, _, rfl, Nat.le_of_lt (smallLine (by simp)), fun pl hpl => ?_⟩
          generalize hH4 : upd _ pl _ = H4
          obtain ⟨s4, h4⟩ := got hH4 hpl
          have s04 := s3.trans s4
          refine ⟨_, rfl, I, pl, M, _, [r0, r1, r2], [p, q, r], kvs, rfl, s04 _ _ hI, al.imp fun v x h => h.same s04, rfl, fun z hz => Nat.le_trans (hr12 z hz) (by decide), h4, vd, s4 _ _ hM3, fun t ht => ?_, fun xx hxx H5 tt s5 h5 => ?_⟩
          · have va : Vd [r0, r1, r2] (aheadO [r0, r1, r2] [p, q, r] t) := Vd.ahead vd
            have lf : lft [r0, r1, r2] (aheadO [r0, r1, r2] [p, q, r] t) < lft [r0, r1, r2] [p, q, r] := lft_ahead ht
            have lf : (r0.length - ah1 t (r0, p)) + ((r1.length - ah1 t (r1, q)) + ((r2.length - ah1 t (r2, r)) + 0)) < (r0.length - p) + ((r1.length - q) + ((r2.length - r) + 0)) := lf
            have c0 := ah1_cases t r0 p
            have c1 := ah1_cases t r1 q
            have c2 := ah1_cases t r2 r
            have v0 : ah1 t (r0, p) ≤ r0.length := va.1
            have v1 : ah1 t (r1, q) ≤ r1.length := va.2.1
            have v2 : ah1 t (r2, r) ≤ r2.length := va.2.2.1
            obtain ⟨a, x, e1, e2, e3⟩ := best.at' (ah1 t (r0, p)) (ah1 t (r1, q)) (ah1 t (r2, r)) v0 v1 v2 (by unfold dn; omega)
            exact ⟨a, x, e1, s4 _ _ e2, e3⟩
          · refine ⟨_, rfl, _, rfl, _, rfl, _, rfl, Nat.le_of_lt (smallLine (by simp)), fun kp hkp => ?_⟩
            generalize hH6 : upd _ kp _ = H6
            obtain ⟨s6, h6⟩ := got hH6 hkp
            have s36 := (s4.trans s5).trans s6
            have hM6 := s36 _ _ hM3
            refine ⟨M, _, rfl, DPut.t (k := nk [p, q, r]) hM6 (by rw [nk_kV]; exact h6) (smallLine (by omega)), hm, _, _, rfl, Same.out (s3.trans s36) hM, upd_same, ⟨fun p' q' r' h1 h2 h3 hs => ?_⟩, ?_⟩
            · have t67 : Tk H6 (upd H6 M (.dT (putK kvs (nk [p, q, r]) (.ref tt)))) := Tk.put hM6 fun _ z => by cases z
              by_cases e : [p', q', r'] = [p, q, r]
              · cases e
                exact ⟨tt, xx, by rw [valV_put, if_pos rfl], t67 _ _ (s6 _ _ h5), hxx⟩
              · have e2 : ¬ (p' = p ∧ q' = q ∧ r' = r) := fun ⟨u1, u2, u3⟩ => e (by rw [u1, u2, u3])
                obtain ⟨a, x, e4, e5, e6⟩ := best.at' p' q' r' h1 h2 h3 (by unfold dn at hs ⊢; omega)
                exact ⟨a, x, by rw [valV_put, if_neg (fun z => e (nk_inj z))]; exact e4, t67 _ _ (s36 _ _ e5), e6⟩
            · have := DSub.putK_len kvs (nk [p, q, r]) (.ref tt)
              omega
        · rintro σ H3 ⟨_, v4, kvs, rfl, s3, hM3, best, hk⟩
          exact ⟨hj, _, _, kvs, rfl, s3, hM3, best.tk (Tk.refl _) (fun p q r h1 h2 h3 hs => by unfold dn at hs ⊢; omega), by omega⟩
      · rintro σ H2 ⟨_, v3, v4, kvs, rfl, s2, hM2, best, hk⟩
        exact ⟨hi, _, _, _, kvs, rfl, s2, hM2, best.tk (Tk.refl _) (fun p q r h1 h2 h3 hs => by unfold dn at hs ⊢; omega), by omega⟩
    · rintro σ H1 ⟨_, v2, v3, v4, kvs, rfl, s1, hM1, best, hk⟩
      obtain ⟨a, x, e1, e2, e3⟩ := best.at' 0 0 0 (Nat.zero_le _) (Nat.zero_le _) (Nat.zero_le _) (by unfold dn; omega)
      refine ⟨_, rfl, Nat.le_of_lt (smallLine (by simp)), fun kp hkp => ?_⟩
      generalize hH6 : upd _ kp _ = H6
      obtain ⟨s6, h6⟩ := got hH6 hkp
      refine ⟨M, _, rfl, by rw [← e1]; exact DGet.t (k := nk [0, 0, 0]) (s6 _ _ hM1) (by rw [nk_kV]; exact h6), k x e3 H6 a (s1.trans s6) (s6 _ _ e2)⟩
end
end K21
end
section
set_option Elab.async false
set_option linter.all false
set_option maxRecDepth 100000
set_option maxHeartbeats 4000000
/-! the law's defs 9: varied -/
namespace K21
open PySem PySem.Spec PyProof.Rows L2
def Tones (ns : List Int) : Prop := ∀ t ∈ ns, 0 ≤ t ∧ t ≤ 99
def TonesV (xs : List V) : Prop := ∀ x ∈ xs, ∃ t : Int, x = .int t ∧ 0 ≤ t ∧ t ≤ 99
theorem Tones.v {ns : List Int} (h : Tones ns) : TonesV (iv ns) := fun x hx => by
  obtain ⟨t, ht, rfl⟩ := List.mem_map.mp hx
  exact ⟨t, rfl, h t ht⟩
theorem TonesV.iv : ∀ {xs : List V}, TonesV xs → ∃ ns, xs = iv ns ∧ Tones ns
  | [], _ => ⟨[], rfl, fun t h => by cases h⟩
  | x :: xs, h => by
    obtain ⟨t, rfl, h1⟩ := h x List.mem_cons_self
    obtain ⟨ns, e, h2⟩ := TonesV.iv (xs := xs) fun y hy => h y (List.mem_cons_of_mem _ hy)
    refine ⟨t :: ns, by rw [e]; rfl, fun u hu => ?_⟩
    rcases List.mem_cons.mp hu with q | q
    · rw [q]
      exact h1
    · exact h2 u q
theorem TonesV.ins {xs : List V} {i : Nat} {y : V} (h : TonesV xs) (hy : ∃ t : Int, y = .int t ∧ 0 ≤ t ∧ t ≤ 99) : TonesV (xs.take i ++ [y] ++ xs.drop i) := fun x hx => by
  rcases List.mem_append.mp hx with q | q
  · rcases List.mem_append.mp q with q | q
    · exact h x (List.mem_of_mem_take q)
    · rw [List.mem_singleton.mp q]
      exact hy
  · exact h x (List.mem_of_mem_drop q)
theorem TonesV.set {xs : List V} {i : Nat} {y : V} (h : TonesV xs) (hy : ∃ t : Int, y = .int t ∧ 0 ≤ t ∧ t ≤ 99) : TonesV (xs.set i y) := fun x hx => by
  rcases List.mem_or_eq_of_mem_set hx with q | q
  · exact h x q
  · rw [q]
    exact hy
/-- the list that is being varied -/
def VI (H0 : Hp) (hd cells a Dl : Addr) (m : Int) (n : Nat) (c : Nat) (σ : L2.St) (H' : Hp) : Prop := ∃ (kind : Int) (at_ : Nat) (v7 : Option V) (xs : List V), σ = [some (.ref hd), some (.ref a), some (.int m), some (.int (n : Nat)), some (.ref Dl), some (.int kind), some (.int (at_ : Nat)), v7] ∧
  But hd H0 H' ∧ HandOk hd cells H' ∧ H' Dl = some (.lst xs) ∧ xs.length ≤ c ∧ TonesV xs ∧ at_ ≤ 1000
theorem VI.mono {H0 : Hp} {hd cells a Dl : Addr} {m : Int} {n c c' : Nat} {σ : L2.St} {H' : Hp} (h : VI H0 hd cells a Dl m n c σ H') (hc : c ≤ c') : VI H0 hd cells a Dl m n c' σ H' := by
  obtain ⟨k, t, v, xs, e, h1, h2, h3, h4, h5⟩ := h
  exact ⟨k, t, v, xs, e, h1, h2, h3, Nat.le_trans h4 hc, h5⟩
theorem vi_put {H0 : Hp} {hd cells a Dl : Addr} {m : Int} {n c : Nat} {H' : Hp} {kind : Int} {at_ : Nat} {v7 : Option V} {xs : List V} (hD : H0 Dl = none) (n1 : Dl ≠ hd) (n2 : Dl ≠ cells) (b : But hd H0 H') (ok : HandOk hd cells H') (hl : xs.length ≤ c) (ht : TonesV xs) (ha : at_ ≤ 1000) :
    VI H0 hd cells a Dl m n c [some (.ref hd), some (.ref a), some (.int m), some (.int (n : Nat)), some (.ref Dl), some (.int kind), some (.int (at_ : Nat)), v7] (upd H' Dl (.lst xs)) :=
  ⟨_, _, _, xs, rfl, fun b' u nb h => by rw [upd_ne (fun e => by rw [e, hD] at h; cases h)]; exact b b' u nb h, ok.out n1 n2, upd_same, hl, ht, ha⟩
theorem minL (at_ L k : Nat) (h : k < L) : ∃ q : Nat, (if ((L : Nat) : Int) - ((k + 1 : Nat) : Int) < ((at_ : Nat) : Int) then ((L : Nat) : Int) - ((k + 1 : Nat) : Int) else ((at_ : Nat) : Int)) = ((q : Nat) : Int) ∧ q + k < L := by
  split
  · exact ⟨L - (k + 1), by omega, by omega⟩
  · exact ⟨at_, rfl, by omega⟩
abbrev insR : V → List V → Hp → VK → Prop := fun x vs H Q => ∃ l xs i y, x = V.ref l ∧ vs = [V.int i, y] ∧ H l = some (HO.lst xs) ∧ xs.length < sizeLine ∧ 0 ≤ i ∧ i < 2 ^ 63 ∧ Q V.non (upd H l (HO.lst (List.take i.toNat xs ++ [y] ++ List.drop i.toNat xs)))
abbrev lenV (K : PySem.W.Frag) : TE := tCB (fun xs H_1 Q => ∃ p ys, xs = [V.ref p] ∧ (SqL K H_1 p ys ∨ SqT K H_1 p ys) ∧ Q (V.int ↑ys.length) H_1) (tCons (tVar 4) tNil)
abbrev minV (K : PySem.W.Frag) (k : Int) : TE := tCB (fun xs H Q => ∃ i j, xs = [V.int i, V.int j] ∧ Q (V.int (if j < i then j else i)) H) (tCons (tVar 6) (tCons (tOp (rI0 fun i j => V.int (i - j)) (lenV K) (tC (V.int k))) tNil))
abbrev truV (K : PySem.W.Frag) : TT := fun σ H_1 Q => tVar 4 σ H_1 fun x H' => ∃ k, TruV K x H' k ∧ Q k H'
def vs0 (K : PySem.W.Frag) : TS := tIfS (tAnd (tTest (tOp rEq (tVar 5) (tC (V.int 0)))) (truV K)) (tDrop (tBM K "list" insR (tVar 4) (tCons (tVar 6) (tCons (tOp (rIxL K) (tVar 4) (minV K 1)) tNil)))) tNext
def vs1 (K : PySem.W.Frag) : TS := tIfS (tTest (tOp rEq (tVar 5) (tC (V.int 1)))) (tDrop (tBM K "list" insR (tVar 4) (tCons (tC (V.int 0)) (tCons (tCall spTake [] E0 (tCons (tVar 0) (tCons (tVar 2) tNil))) tNil)))) tNext
def vs2 (K : PySem.W.Frag) : TS := tIfS (tAnd (tTest (tOp rEq (tVar 5) (tC (V.int 2)))) (truV K)) (tDrop (tBM K "list" rPopAt (tVar 4) (tCons (minV K 1) tNil))) tNext
def vs3 (K : PySem.W.Frag) : TS := tIfS (tTest (tOp rEq (tVar 5) (tC (V.int 3)))) (tDrop (tBM K "list" insR (tVar 4) (tCons (tVar 6) (tCons (tCall spTone [] E0 (tCons (tVar 0) (tCons (tVar 2) tNil))) tNil)))) tNext
def vs4 (K : PySem.W.Frag) : TS := tIfS (tAnd (tTest (tOp rEq (tVar 5) (tC (V.int 4)))) (tTest (tOp (rI0 fun i j => V.bl (decide (j < i))) (lenV K) (tC (V.int 1))))) (tSeq (tAsg (minV K 2) (gName 7)) (tAsg (tTup (tCons (tOp (rIxL K) (tVar 4) (tOp (rI0 fun i j => V.int (i + j)) (tVar 7) (tC (V.int 1)))) (tCons (tOp (rIxL K) (tVar 4) (tVar 7)) tNil))) (gTup K 2 (gCons (gSub (tVar 4) (tVar 7) rSetL) (gCons (gSub (tVar 4) (tOp (rI0 fun i j => V.int (i + j)) (tVar 7) (tC (V.int 1))) rSetL) gNil))))) tNext
def vs5 (K : PySem.W.Frag) : TS := tIfS (tAnd (tTest (tOp rEq (tVar 5) (tC (V.int 5)))) (truV K)) (tAsg (tCall spTone [] E0 (tCons (tVar 0) (tCons (tVar 2) tNil))) (gSub (tVar 4) (minV K 1) rSetL)) tNext
section
variable {K : PySem.W.Frag} {D : Ends} {H0 H' : Hp} {hd cells a Dl : Addr} {m : Int} {n c : Nat} {σ : L2.St}
theorem v0_ok (hD : H0 Dl = none) (n1 : Dl ≠ hd) (n2 : Dl ≠ cells) (hc : c ≤ 1000) (hP : VI H0 hd cells a Dl m n c σ H') (k : ∀ σ' H'', VI H0 hd cells a Dl m n (c + 1) σ' H'' → D.nx σ' H'') : vs0 K D σ H' := by
  have hP0 := hP.mono (Nat.le_succ c)
  obtain ⟨kind, at_, v7, xs, rfl, b, ok, hx, hl, ht, ha⟩ := hP
  refine ⟨_, rfl, rfl, _, rfl, ?_⟩
  by_cases ck : kind = 0
  · refine iteT' (by simp [ck]) ⟨_, rfl, _, .inl ⟨_, SqL.of hx, rfl⟩, ?_⟩
    cases e : xs with
    | nil => exact iteF' rfl (k _ _ hP0)
    | cons y r =>
      rw [← e]
      have hpos : 0 < xs.length := by rw [e]; exact Nat.succ_pos _
      obtain ⟨q, eq, hq⟩ := minL at_ xs.length 0 hpos
      have hy : xs[q]? = some (xs[q]'(by omega)) := List.getElem?_eq_getElem (by omega)
      refine iteT' (by rw [e]; rfl) ⟨_, rfl, .inl ⟨rfl, _, SqL.of hx⟩, _, rfl, _, rfl, _, rfl, _, rfl, Dl, _, rfl, .inl (SqL.of hx), _, _, rfl, rfl, _, _, rfl, Dl, xs, _, _, rfl, rfl, SqL.of hx, (eq ▸ atI_nat hy), Dl, xs, _, _, rfl, rfl, hx, smallLine (by omega), by omega, by omega, k _ _ ?_⟩
      exact vi_put hD n1 n2 b ok (by simp; omega) (ht.ins (ht _ (List.mem_of_getElem? hy))) ha
  · exact iteF' (by simp [ck]) (iteF' rfl (k _ _ hP0))
theorem v1_ok (hD : H0 Dl = none) (n1 : Dl ≠ hd) (n2 : Dl ≠ cells) (hc : c ≤ 1000) (hm : 0 < m) (hm2 : m ≤ 100) (hP : VI H0 hd cells a Dl m n c σ H') (k : ∀ σ' H'', VI H0 hd cells a Dl m n (c + 1) σ' H'' → D.nx σ' H'') : vs1 K D σ H' := by
  have hP0 := hP.mono (Nat.le_succ c)
  obtain ⟨kind, at_, v7, xs, rfl, b, ok, hx, hl, ht, ha⟩ := hP
  refine ⟨_, rfl, rfl, _, rfl, ?_⟩
  by_cases ck : kind = 1
  · refine iteT' (by simp [ck]) ⟨_, rfl, .inl ⟨rfl, _, SqL.of hx⟩, _, rfl, _, rfl, hd, cells, m, rfl, ok, hm, by omega, fun r H1 r0 r1 b1 ok1 => ⟨Dl, xs, _, _, rfl, rfl, b1 _ _ n1 hx, smallLine (by omega), by decide, by decide, k _ _ ?_⟩⟩
    exact vi_put hD n1 n2 (b.trans b1) ok1 (by simp; omega) (ht.ins ⟨r, rfl, r0, by omega⟩) ha
  · exact iteF' (by simp [ck]) (k _ _ hP0)
theorem v2_ok (hD : H0 Dl = none) (n1 : Dl ≠ hd) (n2 : Dl ≠ cells) (hc : c ≤ 1000) (hP : VI H0 hd cells a Dl m n c σ H') (k : ∀ σ' H'', VI H0 hd cells a Dl m n (c + 1) σ' H'' → D.nx σ' H'') : vs2 K D σ H' := by
  have hP0 := hP.mono (Nat.le_succ c)
  obtain ⟨kind, at_, v7, xs, rfl, b, ok, hx, hl, ht, ha⟩ := hP
  refine ⟨_, rfl, rfl, _, rfl, ?_⟩
  by_cases ck : kind = 2
  · refine iteT' (by simp [ck]) ⟨_, rfl, _, .inl ⟨_, SqL.of hx, rfl⟩, ?_⟩
    cases e : xs with
    | nil => exact iteF' rfl (k _ _ hP0)
    | cons y r =>
      rw [← e]
      have hpos : 0 < xs.length := by rw [e]; exact Nat.succ_pos _
      obtain ⟨q, eq, hq⟩ := minL at_ xs.length 0 hpos
      have hy : xs[q]? = some (xs[q]'(by omega)) := List.getElem?_eq_getElem (by omega)
      obtain ⟨jj, z1, z2, z3⟩ := atI_get (atI_nat hy)
      refine iteT' (by rw [e]; rfl) ⟨_, rfl, .inl ⟨rfl, _, SqL.of hx⟩, _, rfl, _, rfl, Dl, _, rfl, .inl (SqL.of hx), _, _, rfl, rfl, _, _, rfl, Dl, xs, (q : Int), jj, _, rfl, (eq ▸ rfl), hx, by omega, by omega, z1, z2, k _ _ ?_⟩
      exact vi_put hD n1 n2 b ok (by have := List.length_eraseIdx_le xs jj; omega) (fun x h => ht x (List.mem_of_mem_eraseIdx h)) ha
  · exact iteF' (by simp [ck]) (iteF' rfl (k _ _ hP0))
theorem v3_ok (hD : H0 Dl = none) (n1 : Dl ≠ hd) (n2 : Dl ≠ cells) (hc : c ≤ 1000) (hm : 0 < m) (hm2 : m ≤ 100) (hP : VI H0 hd cells a Dl m n c σ H') (k : ∀ σ' H'', VI H0 hd cells a Dl m n (c + 1) σ' H'' → D.nx σ' H'') : vs3 K D σ H' := by
  have hP0 := hP.mono (Nat.le_succ c)
  obtain ⟨kind, at_, v7, xs, rfl, b, ok, hx, hl, ht, ha⟩ := hP
  refine ⟨_, rfl, rfl, _, rfl, ?_⟩
  by_cases ck : kind = 3
  · refine iteT' (by simp [ck]) ⟨_, rfl, .inl ⟨rfl, _, SqL.of hx⟩, _, rfl, _, rfl, _, rfl, hd, cells, m, rfl, ok, hm, hm2, fun r H1 r0 r1 b1 ok1 => ⟨Dl, xs, _, _, rfl, rfl, b1 _ _ n1 hx, smallLine (by omega), by omega, by omega, k _ _ ?_⟩⟩
    exact vi_put hD n1 n2 (b.trans b1) ok1 (by simp; omega) (ht.ins ⟨r, rfl, r0, by omega⟩) ha
  · exact iteF' (by simp [ck]) (k _ _ hP0)
theorem v4_ok (hD : H0 Dl = none) (n1 : Dl ≠ hd) (n2 : Dl ≠ cells) (hc : c ≤ 1000) (hP : VI H0 hd cells a Dl m n c σ H') (k : ∀ σ' H'', VI H0 hd cells a Dl m n (c + 1) σ' H'' → D.nx σ' H'') : vs4 K D σ H' := by
  have hP0 := hP.mono (Nat.le_succ c)
  obtain ⟨kind, at_, v7, xs, rfl, b, ok, hx, hl, ht, ha⟩ := hP
  refine ⟨_, rfl, rfl, _, rfl, ?_⟩
  by_cases ck : kind = 4
  · refine iteT' (by simp [ck]) ⟨_, rfl, Dl, _, rfl, .inl (SqL.of hx), _, _, rfl, rfl, _, rfl, ?_⟩
    by_cases cl : 1 < xs.length
    · obtain ⟨q, eq, hq⟩ := minL at_ xs.length 1 cl
      have hy : xs[q]? = some (xs[q]'(by omega)) := List.getElem?_eq_getElem (by omega)
      have hz : xs[q + 1]? = some (xs[q + 1]'(by omega)) := List.getElem?_eq_getElem (by omega)
      have fin : ∀ vq : Int, vq = ((q : Nat) : Int) → tAsg (tTup (tCons (tOp (rIxL K) (tVar 4) (tOp (rI0 fun i j => V.int (i + j)) (tVar 7) (tC (V.int 1)))) (tCons (tOp (rIxL K) (tVar 4) (tVar 7)) tNil))) (gTup K 2 (gCons (gSub (tVar 4) (tVar 7) rSetL) (gCons (gSub (tVar 4) (tOp (rI0 fun i j => V.int (i + j)) (tVar 7) (tC (V.int 1))) rSetL) gNil))) D
          [some (.ref hd), some (.ref a), some (.int m), some (.int (n : Nat)), some (.ref Dl), some (.int kind), some (.int (at_ : Nat)), some (.int vq)] H' := by
        rintro vq rfl
        refine ⟨_, rfl, _, rfl, _, _, rfl, rfl, Dl, xs, ((q + 1 : Nat) : Int), _, rfl, rfl, SqL.of hx, atI_nat hz, _, rfl, _, rfl, Dl, xs, _, _, rfl, rfl, SqL.of hx, atI_nat hy, Nat.le_of_lt (smallLine (by simp)), fun p hp => ?_⟩
        generalize hH1 : upd _ p _ = H1
        obtain ⟨s1, h1⟩ := got hH1 hp
        have hx1 := s1 _ _ hx
        refine ⟨p, _, rfl, SqT.of h1, rfl, _, _, rfl, _, rfl, _, rfl, Dl, xs, _, q, rfl, rfl, hx1, Evl.ixN_nat (by omega), _, _, rfl, _, rfl, _, rfl, _, _, rfl, rfl, Dl, _, ((q + 1 : Nat) : Int), q + 1, rfl, rfl, upd_same, Evl.ixN_nat (by rw [List.length_set]; omega), rfl, k _ _ ?_⟩
        rw [show upd (upd H1 Dl (.lst (xs.set q xs[q + 1]))) Dl (.lst ((xs.set q xs[q + 1]).set (q + 1) xs[q])) = upd H1 Dl (.lst ((xs.set q xs[q + 1]).set (q + 1) xs[q])) from by
          funext b
          by_cases e : b = Dl
          · rw [e, upd_same, upd_same]
          · rw [upd_ne e, upd_ne e, upd_ne e]]
        exact vi_put hD n1 n2 (b.trans (But.of s1)) (ok.same s1) (by rw [List.length_set, List.length_set]; omega) ((ht.set (ht _ (List.mem_of_getElem? hz))).set (ht _ (List.mem_of_getElem? hy))) ha
      refine iteT' (decide_eq_true (by omega)) ⟨_, rfl, _, rfl, Dl, _, rfl, .inl (SqL.of hx), _, _, rfl, rfl, _, _, rfl, fin _ eq⟩
    · exact iteF' (decide_eq_false (by omega)) (k _ _ hP0)
  · exact iteF' (by simp [ck]) (iteF' rfl (k _ _ hP0))
theorem v5_ok (hD : H0 Dl = none) (n1 : Dl ≠ hd) (n2 : Dl ≠ cells) (hc : c ≤ 1000) (hm : 0 < m) (hm2 : m ≤ 100) (hP : VI H0 hd cells a Dl m n c σ H') (k : ∀ σ' H'', VI H0 hd cells a Dl m n (c + 1) σ' H'' → D.nx σ' H'') : vs5 K D σ H' := by
  have hP0 := hP.mono (Nat.le_succ c)
  obtain ⟨kind, at_, v7, xs, rfl, b, ok, hx, hl, ht, ha⟩ := hP
  refine ⟨_, rfl, rfl, _, rfl, ?_⟩
  by_cases ck : kind = 5
  · refine iteT' (by simp [ck]) ⟨_, rfl, _, .inl ⟨_, SqL.of hx, rfl⟩, ?_⟩
    cases e : xs with
    | nil => exact iteF' rfl (k _ _ hP0)
    | cons y r =>
      rw [← e]
      have hpos : 0 < xs.length := by rw [e]; exact Nat.succ_pos _
      obtain ⟨q, eq, hq⟩ := minL at_ xs.length 0 hpos
      refine iteT' (by rw [e]; rfl) ⟨_, rfl, _, rfl, hd, cells, m, rfl, ok, hm, hm2, fun r H1 r0 r1 b1 ok1 => ?_⟩
      have hx1 := b1 _ _ n1 hx
      refine ⟨_, rfl, _, rfl, _, rfl, Dl, _, rfl, .inl (SqL.of hx1), _, _, rfl, rfl, _, _, rfl, Dl, xs, (q : Int), q, rfl, (eq ▸ rfl), hx1, Evl.ixN_nat (by omega), k _ _ ?_⟩
      exact vi_put hD n1 n2 (b.trans b1) ok1 (by rw [List.length_set]; omega) (ht.set ⟨r, rfl, r0, by omega⟩) ha
  · exact iteF' (by simp [ck]) (iteF' rfl (k _ _ hP0))
end
section
variable {P : Program} {w : World} {K : PySem.W.Frag} {mg : Str → Option Value} {base : Heap}
theorem scLawVaried : FnScope ["_law_hand_here", "_law_row_here", "_law_tones", "_law_most", "_law_out", "_law_kind", "_law_at", "_law_place"] ["_law_hand_here", "_law_row_here", "_law_tones", "_law_most"] (defScope sLawVaried) := ⟨rfl, rfl, rfl, by decide +kernel, rfl, by decide +kernel, by decide +kernel⟩
def spVaried : Sp := fun vs H Q _ => ∃ (hd cells a : Addr) (ns : List Int) (m : Int) (n : Nat), vs = [.ref hd, .ref a, .int m, .int (n : Nat)] ∧ HandOk hd cells H ∧ H a = some (.lst (iv ns)) ∧ ns.length ≤ 60 ∧ Tones ns ∧ 0 < m ∧ m ≤ 100 ∧
  ∀ (ms : List Int) H' p, ms.length ≤ n → Tones ms → But hd H H' → HandOk hd cells H' → H p = none → H' p = some (.lst (iv ms)) → Q (.ref p) H'
theorem good_varied (T : Txt K mg) : Good P w K mg base CX0 4 "_law_varied" ["_law_hand_here", "_law_row_here", "_law_tones", "_law_most"] [] spVaried := by
  have G_law_take := good_take (P := P) (w := w) (base := base) T
  have G_law_tone := good_tone (P := P) (w := w) (base := base) T
  refine good0 T.d_law_varied T.g_law_varied scLawVaried (fun _ _ _ _ _ _ us hl => match us, hl with | [_, _, _, _], _ => rfl) (fun vs H Q E h => ?_) (fun cdv A outer s H vs Q E hr h => ?_)
  · obtain ⟨hd, cells, a, ns, m, n, rfl, _⟩ := h
    rfl
  · obtain ⟨hd, cells, a, ns, m, n, rfl, ok, ha, hl, hc, hm, hm2, k⟩ := h
    refine ⟨_, (pss_cons
    (ps_set (i := 4) scLawVaried.nd rfl (Or.inl rfl) (pe_callTy call_list_of (by rfl) T.n_list (by decide +kernel) (pa_cons (pv 1) pa_nil)))
    (pss_cons
    (ps_set (i := 5) scLawVaried.nd rfl (Or.inl rfl) (pe_go G_law_take hr (by decide) rfl (pa_cons (pv 0) (pa_cons (pe_int) pa_nil))))
    (pss_cons
    (ps_set (i := 6) scLawVaried.nd rfl (Or.inl rfl) (pe_go G_law_take hr (by decide) rfl (pa_cons (pv 0) (pa_cons (pe_op op_add (pe_callB call_len_seq (by rfl) T.n_len PySem.boot_len (pa_cons (pv 4) pa_nil)) (pe_int)) pa_nil))))
    (pss_cons
    (ps_if (PW.pt (pw_and (pt_cmpR op_eq (pv 5) (pe_int) (nomark _)) (pw_and1 (pt_truth (pv 4) (fun _ => rfl))))) (pss_one
      (ps_expr (pe_bm PySem.F.plainAttrs_list PySem.F.slot_list_insert PySem.F.type_list_insert mt_insert (pv 4) (pa_cons (pv 6) (pa_cons (pe_ix ix_list (pv 4) (pe_callB (call_min2 rfl) (by rfl) T.n_min (by decide +kernel) (pa_cons (pv 6) (pa_cons (pe_op op_sub (pe_callB call_len_seq (by rfl) T.n_len PySem.boot_len (pa_cons (pv 4) pa_nil)) (pe_int)) pa_nil))) (fun _ _ => rfl)) pa_nil))))) pss_nil)
    (pss_cons
    (ps_if (pt_cmpR op_eq (pv 5) (pe_int) (nomark _)) (pss_one
      (ps_expr (pe_bm PySem.F.plainAttrs_list PySem.F.slot_list_insert PySem.F.type_list_insert mt_insert (pv 4) (pa_cons (pe_int) (pa_cons (pe_go G_law_take hr (by decide) rfl (pa_cons (pv 0) (pa_cons (pv 2) pa_nil))) pa_nil))))) pss_nil)
    (pss_cons
    (ps_if (PW.pt (pw_and (pt_cmpR op_eq (pv 5) (pe_int) (nomark _)) (pw_and1 (pt_truth (pv 4) (fun _ => rfl))))) (pss_one
      (ps_expr (pe_bm PySem.F.plainAttrs_list PySem.F.slot_list_pop PySem.F.type_list_pop mt_popAt (pv 4) (pa_cons (pe_callB (call_min2 rfl) (by rfl) T.n_min (by decide +kernel) (pa_cons (pv 6) (pa_cons (pe_op op_sub (pe_callB call_len_seq (by rfl) T.n_len PySem.boot_len (pa_cons (pv 4) pa_nil)) (pe_int)) pa_nil))) pa_nil)))) pss_nil)
    (pss_cons
    (ps_if (pt_cmpR op_eq (pv 5) (pe_int) (nomark _)) (pss_one
      (ps_expr (pe_bm PySem.F.plainAttrs_list PySem.F.slot_list_insert PySem.F.type_list_insert mt_insert (pv 4) (pa_cons (pv 6) (pa_cons (pe_go G_law_tone hr (by decide) rfl (pa_cons (pv 0) (pa_cons (pv 2) pa_nil))) pa_nil))))) pss_nil)
    (pss_cons
    (ps_if (PW.pt (pw_and (pt_cmpR op_eq (pv 5) (pe_int) (nomark _)) (pw_and1 (pt_cmpR op_gt (pe_callB call_len_seq (by rfl) T.n_len PySem.boot_len (pa_cons (pv 4) pa_nil)) (pe_int) (nomark _))))) (pss_cons
      (ps_set (i := 7) scLawVaried.nd rfl (Or.inl rfl) (pe_callB (call_min2 rfl) (by rfl) T.n_min (by decide +kernel) (pa_cons (pv 6) (pa_cons (pe_op op_sub (pe_callB call_len_seq (by rfl) T.n_len PySem.boot_len (pa_cons (pv 4) pa_nil)) (pe_int)) pa_nil))))
      (pss_one
      (ps_asg (pe_tup (pa_cons (pe_ix ix_list (pv 4) (pe_op op_add (pv 7) (pe_int)) (fun _ _ => rfl)) (pa_cons (pe_ix ix_list (pv 4) (pv 7) (fun _ _ => rfl)) pa_nil))) (pg_tup rfl (pgs_cons (pg_sub (pv 4) (pv 7) set_list) (pgs_cons (pg_sub (pv 4) (pe_op op_add (pv 7) (pe_int)) set_list) pgs_nil)))))) pss_nil)
    (pss_cons
    (ps_if (PW.pt (pw_and (pt_cmpR op_eq (pv 5) (pe_int) (nomark _)) (pw_and1 (pt_truth (pv 4) (fun _ => rfl))))) (pss_one
      (ps_asg (pe_go G_law_tone hr (by decide) rfl (pa_cons (pv 0) (pa_cons (pv 2) pa_nil))) (pg_sub (pv 4) (pe_callB (call_min2 rfl) (by rfl) T.n_min (by decide +kernel) (pa_cons (pv 6) (pa_cons (pe_op op_sub (pe_callB call_len_seq (by rfl) T.n_len PySem.boot_len (pa_cons (pv 4) pa_nil)) (pe_int)) pa_nil))) set_list))) pss_nil)
    (pss_one
    (ps_ret (pe_slice sl_list (pv 4) po_none (po_some (pv 3)))))))))))))), ?_⟩
    refine ⟨_, rfl, a, _, rfl, .inl (SqL.of ha), fun Dl hD => ?_⟩
    have ok1 := ok.same (Same.new (o := .lst (iv ns)) hD)
    have nD1 : Dl ≠ hd := (ok.off hD).1
    have nD2 : Dl ≠ cells := (ok.off hD).2
    refine ⟨_, rfl, hd, cells, 6, rfl, ok1, by decide, by decide, fun kind H1 _ _ b1 ok1 => ?_⟩
    have hx1 := b1 _ _ nD1 upd_same
    refine ⟨_, rfl, _, rfl, Dl, _, rfl, .inl (SqL.of hx1), _, _, rfl, rfl, hd, cells, _, rfl, ok1, by omega, by rw [iv_len]; omega, fun r H2 r0 r1 b2 ok2 => ?_⟩
    rw [iv_len] at r1
    obtain ⟨at_, rfl⟩ : ∃ at_ : Nat, r = at_ := ⟨r.toNat, by omega⟩
    have hP : VI H hd cells a Dl m n 60 [some (.ref hd), some (.ref a), some (.int m), some (.int (n : Nat)), some (.ref Dl), some (.int kind), some (.int (at_ : Nat)), none] H2 :=
      ⟨_, _, _, iv ns, rfl, ((But.of (Same.new hD)).trans b1).trans b2, ok2, b2 _ _ nD1 hx1, by rw [iv_len]; exact hl, hc.v, by omega⟩
    refine v0_ok hD nD1 nD2 (by decide) hP fun σ H3 hP => v1_ok hD nD1 nD2 (by decide) hm hm2 hP fun σ H4 hP => v2_ok hD nD1 nD2 (by decide) hP fun σ H5 hP => v3_ok hD nD1 nD2 (by decide) hm hm2 hP fun σ H6 hP => v4_ok hD nD1 nD2 (by decide) hP fun σ H7 hP => v5_ok hD nD1 nD2 (by decide) hm hm2 hP fun σ H8 hP => ?_
    obtain ⟨kind, at_, v7, xs, rfl, b, ok8, hx, hl8, ht, _⟩ := hP
    refine ⟨_, rfl, _, rfl, (n : Int), rfl, Dl, xs, rfl, SqL.of hx, fun p hp => ?_⟩
    rw [cutK_take]
    obtain ⟨ms, e, hms⟩ := TonesV.iv (xs := xs.take n) fun x h => ht x (List.mem_of_mem_take h)
    rw [e]
    refine k ms _ p ?_ hms (b.trans (But.of (Same.new hp))) (ok8.same (Same.new hp)) ?_ upd_same
    · have := congrArg List.length e
      rw [iv_len, List.length_take] at this
      omega
    · cases q : H p with
      | none => rfl
      | some u =>
        have hpn : p ≠ hd := (ok8.off hp).1
        rw [b p u hpn q] at hp
        cases hp
end
end K21
end
section
set_option Elab.async false
set_option linter.all false
set_option maxRecDepth 100000
set_option maxHeartbeats 4000000
/-! the law's defs 10: lacks -/
namespace K21
open PySem PySem.Spec PyProof.Rows L2
theorem hvv_hv (f : Option Int) : hvv f = hv f := by cases f <;> rfl
/-- none is due: the stripped row is hidden -/
theorem due_none {hd : Option Int} {one other : List Int} (h : IsMin (DueW (fsOf hd) one other) none) : (strip hd one).Sublist other := by
  refine strip_hid.mp (cand_none.mp fun w hw => ?_)
  obtain ⟨c1, c2, c3, c4, c5⟩ := hw
  have c5' : ¬ w.Sublist other := fun z => c5 ((sub_strike c2).mpr z)
  cases hd with
  | some f => exact h (f :: w) ⟨f, List.mem_singleton.mpr rfl, w, rfl, c1, c3, c2, c4, c5'⟩
  | none =>
    rw [strip_none] at c4
    have key : ∀ f ∈ [0, 1, 2], w.head? ≠ some f → False := fun f hf hh => h (f :: w) ⟨f, hf, w, rfl, c1, hh, c2, (sub_strip hh).mpr c4, c5'⟩
    by_cases h0 : w.head? = some 0
    · exact key 1 (by simp) (by rw [h0]; decide)
    · exact key 0 (by simp) h0
theorem due_some {hd : Option Int} {one other x : List Int} (h : DueW (fsOf hd) one other x) : ∃ f w, x = f :: w ∧ w ≠ [] ∧ Nb (f :: w) ∧ w.Sublist one ∧ ¬ w.Sublist other := by
  obtain ⟨f, _, w, e, c1, c2, c3, c4, c5⟩ := h
  exact ⟨f, w, e, c1, ⟨c2, c3⟩, (c4.trans (strip_sub _ _)).trans (strike_sub _), c5⟩
theorem asc_one {ns : List Int} (h : ns ≠ []) : (asc ns).length = 1 ↔ ∀ x ∈ ns, ∀ y ∈ ns, x = y := by
  constructor
  · intro e x hx y hy
    obtain ⟨z, ez⟩ := List.length_eq_one_iff.mp e
    have h1 := asc_mem.mpr hx
    have h2 := asc_mem.mpr hy
    rw [ez] at h1 h2
    rw [List.mem_singleton.mp h1, List.mem_singleton.mp h2]
  · intro e
    cases ns with
    | nil => exact absurd rfl h
    | cons x r =>
      have : asc (x :: r) = [x] := by
        refine asc_eq (asc_asc _) (List.pairwise_singleton _ x) fun z => ?_
        rw [asc_mem, List.mem_singleton]
        exact ⟨fun hz => e z hz x List.mem_cons_self, fun hz => by rw [hz]; exact List.mem_cons_self⟩
      rw [this]
      rfl
section
variable {P : Program} {w : World} {K : PySem.W.Frag} {mg : Str → Option Value} {base : Heap}
/-- two lines of equal colours -/
def EqPL (K : PySem.W.Frag) (a b : Addr) (H : Hp) : Prop := ∃ dx dy t u x, H a = some (.ins (cPL K) dx [("colours", .ref t)]) ∧ H b = some (.ins (cPL K) dy [("colours", .ref u)]) ∧ H t = some (.tup (iv x)) ∧ H u = some (.tup (iv x))
theorem scPartingLineEq : FnScope ["self", "other"] ["self", "other"] (defScope sPartingLineEq) := ⟨rfl, rfl, rfl, by decide +kernel, rfl, by decide +kernel, by decide +kernel⟩
theorem pl_ty (T : Txt K mg) {H : Hp} {a dx : Addr} {fs : List (Str × V)} (h : H a = some (.ins (cPL K) dx fs)) : TyX K H (.ref a) (.ref (cPL K)) ∧ PySem.W.kitOne K (.ref (cPL K)) (.ref (cPL K)) = some true :=
  ⟨.base (.ins h T.pcl T.plx.cls T.plx.spg T.plx.tks T.plx.mro), by unfold PySem.W.kitOne; rw [if_pos (by simp)]⟩
theorem ok_pleq (T : Txt K mg) : ∃ fd, FnOk P w K mg base CX0 1 (He.ma K (cPL K) "__eq__") fd ["self", "other"] (spEq (EqPL K)) ∧ Binds K fd ["self", "other"] [] := by
  obtain ⟨fd, F⟩ := T.d_plEq
  refine ⟨fd, F.ok scPartingLineEq (fun vs H Q E h => ?_) (fun cdv A outer s H vs Q E hr h => ?_), F.bindsN (fun _ _ _ _ _ _ us hl => match us, hl with | [_, _], _ => rfl)⟩
  · obtain ⟨a, b, rfl, _⟩ := h
    rfl
  · obtain ⟨a, b, rfl, ⟨dx, dy, t, u, x, ha, hb, ht, hu⟩, k⟩ := h
    refine ⟨_, PSs.nox (pss_one
    (ps_ret ((pe_and (pe_callB call_isi (by rfl) T.n_isinstance (by decide +kernel) (pa_cons (pv 1) (pa_cons (pe_glob rfl T.g_PartingLine rfl (v := .ref (cPL K))) pa_nil))) (pe_one (pe_cmpR (op_eqD (hu64 hr)) (pe_fld (pv 0) rfl) (pe_fld (pv 1) rfl) (nomark _))))))), ?_⟩
    obtain ⟨h1, h2⟩ := pl_ty T hb
    refine ⟨_, rfl, _, _, _, _, _, rfl, .own _, h1, h2, _, rfl, iteT' rfl ?_⟩
    refine ⟨_, rfl, a, _, dx, _, _, rfl, ha, T.pcl, T.pno, rfl, _, rfl, b, _, dy, _, _, rfl, hb, T.pcl, T.pno, rfl, eqT ht hu ?_⟩
    rw [decide_eq_true rfl]
    exact k H fun _ _ h => h
end
end K21
end
section
set_option Elab.async false
set_option linter.all false
set_option maxRecDepth 100000
set_option maxHeartbeats 4000000
/-! the law's defs 11: lacks -/
namespace K21
open PySem PySem.Spec PyProof.Rows L2
theorem badAt_tones {ns : List Int} (h : Tones ns) : badAt (iv ns) = none := badAt_none fun j v hj hv => by
  obtain ⟨z, hz, rfl⟩ := iv_get hv
  obtain ⟨h1, h2⟩ := h z (List.mem_of_getElem? hz)
  show (decide ((0 : Int) ≤ z) && decide (z ≤ 99)) = true
  rw [decide_eq_true h1, decide_eq_true h2]
  rfl
theorem given_tones {ns : List Int} {most : Nat} (h : Tones ns) (hl : ns.length ≤ most) : givenIx (some (iv ns)) most = none := by
  show rowIx (iv ns) most = none
  unfold rowIx
  rw [if_neg (by rw [iv_len]; omega)]
  exact badAt_tones h
theorem given_row {H : Hp} {p : Addr} {ns : List Int} (h : Row H p (iv ns)) (hl : ns.length ≤ 1000) : Given H (.ref p) (some (iv ns)) := .row h (fun x hx => by
  obtain ⟨z, _, rfl⟩ := List.mem_map.mp hx
  exact Thing.int z) (by rw [iv_len]; exact hl)
theorem hv_inj {a b : Option Int} (h : hv a = hv b) : a = b := by
  cases a with
  | none => cases b with
    | none => rfl
    | some b => cases h
  | some a => cases b with
    | none => cases h
    | some b => cases h; rfl
theorem reach_go {K : PySem.W.Frag} {H : Hp} {Q : VK} {E : XK} {p1 p2 : Addr} {l r : List Int} {h : Option Int} (h1 : Row H p1 (iv l)) (h2 : Row H p2 (iv r)) (ll : l.length ≤ 40) (lr : r.length ≤ 40) (tl : Tones l) (tr : Tones r) (hh : ∀ f, h = some f → 0 ≤ f ∧ f ≤ 99)
    (k : ∀ res, IsMin (DueW (fsOf h) l r) res → ∀ H' v, Same H H' → PLine K H' v res → Q v H') : spReach K [.ref p1, .ref p2, hv h] H Q E := by
  have g1 := given_tones tl ll
  have g2 := given_tones tr lr
  refine ⟨_, _, _, some (iv l), some (iv r), rfl, given_row h1 (by omega), given_row h2 (by omega), ?_, fun i e => ?_, fun _ i e => ?_, fun _ _ hn hw => ?_, fun l' r' h' e1 e2 _ _ _ _ e3 _ res hres H' v s hp => ?_⟩
  · cases h with
    | none => exact .inl rfl
    | some f => exact .inl rfl
  · rw [g1] at e
    cases e
  · rw [g2] at e
    cases e
  · cases h with
    | none => exact absurd rfl hn
    | some f =>
      obtain ⟨a, b⟩ := hh f rfl
      have : (decide ((0 : Int) ≤ f) && decide (f ≤ 99)) = false := hw
      rw [decide_eq_true a, decide_eq_true b] at this
      cases this
  · have := iv_inj (Option.some.inj e1)
    have := iv_inj (Option.some.inj e2)
    have := hv_inj e3
    subst l' r' h'
    exact k res hres H' v s hp
abbrev lenS (w : World) (te : TE) : TE := tCB (fun xs H_1 Q => ∃ a S n, xs = [V.ref a] ∧ H_1 a = some (SetO w a S n) ∧ Q (V.int ↑n) H_1) (tCons te tNil)
abbrev isNR : R2 := fun x y H Q => y = V.non ∧ Q (V.bl (decide (x = V.non))) H
def lacksRest (K : PySem.W.Frag) (w : World) : TS := tSeq (tAsg (tIf (tTest (tOp isNR (tVar 5) (tC V.non))) (tCall (spReach K) [V.non] (fun x x_1 x_2 => False) (tCons (tupT K (tVar 2)) (tCons (tVar 3) tNil))) (tCall (spReach K) [] (fun x x_1 x_2 => False) (tCons (tVar 2) (tCons (tupT K (tVar 3)) (tCons (tVar 5) tNil))))) (gName 6))
  (tSeq (tAsg (tCall spDue [] E0 (tCons (tVar 2) (tCons (tVar 3) (tCons (tVar 5) tNil)))) (gName 7))
  (tSeq (tIfS (tTest (tOp isNR (tVar 7) (tC V.non))) (tRet (tAndV (tOp isNR (tVar 6) (tC V.non)) (tCall spHidden [] E0 (tCons (tCall spStrip [] E0 (tCons (tVar 2) (tCons (tVar 5) tNil))) (tCons (tVar 3) tNil))))) tNext)
  (tSeq (tIfS (tOr (tNot (tB (tCB (rIsi K) (tCons (tVar 6) (tCons (tC (V.ref (cPL K))) tNil))))) (tOr (tTest (tOp (rNeD K) (tFld K (tVar 6) ("colours")) (tVar 7))) (tNot (tB (tCall spTupT [] E0 (tCons (tFld K (tVar 6) ("colours")) tNil)))))) (tRet (tC (V.bl false))) tNext)
  (tSeq (tIfS (tOr (tTest (tOp rNe (lenS w (tCB (rSetI K w) (tCons (tCall spLineRun [] E0 (tCons (tVar 7) (tCons (tVar 2) tNil))) tNil))) (tC (V.int 1)))) (tTest (tOp rEq (lenS w (tCB (rSetI K w) (tCons (tCall spLineRun [] E0 (tCons (tVar 7) (tCons (tVar 3) tNil))) tNil))) (tC (V.int 1))))) (tRet (tC (V.bl false))) tNext)
  (tRet (tAndV (tOp (rEqG (DIns (cPL K) (EqPL K))) (tCallN 2 1 (spReach K) (fun vs zs => vs ++ zs) (fun x x_1 x_2 => False) (tCons (tVar 2) (tCons (tVar 3) tNil)) (tCons (tVar 5) tNil)) (tVar 6)) (tOp isNR (tCall (spReach K) [] (fun x x_1 x_2 => False) (tCons (tVar 2) (tCons (tVar 2) (tCons (tVar 5) tNil)))) (tC V.non))))))))
theorem lacks_rest {K : PySem.W.Frag} {mg : Str → Option Value} {w : World} (T : Txt K mg) {D : Ends} {H : Hp} {a1 a2 : Addr} {one other : List Int} {h : Option Int} {s0 s1 s4 s6 s7 : Option V} (h1 : H a1 = some (.lst (iv one))) (h2 : H a2 = some (.lst (iv other))) (l1 : one.length ≤ 12) (l2 : other.length ≤ 12)
    (t1 : Tones one) (t2 : Tones other) (hh : ∀ f, h = some f → 0 ≤ f ∧ f ≤ 99) (k : ∀ H', Same H H' → D.rt (.bl true) H') : lacksRest K w D [s0, s1, some (.ref a1), some (.ref a2), s4, some (hv h), s6, s7] H := by
  -- behind the first call
  have rest : ∀ res, IsMin (DueW (fsOf h) one other) res → ∀ H1 v, Same H H1 → PLine K H1 v res → tSeq (tAsg (tCall spDue [] E0 (tCons (tVar 2) (tCons (tVar 3) (tCons (tVar 5) tNil)))) (gName 7))
      (tSeq (tIfS (tTest (tOp isNR (tVar 7) (tC V.non))) (tRet (tAndV (tOp isNR (tVar 6) (tC V.non)) (tCall spHidden [] E0 (tCons (tCall spStrip [] E0 (tCons (tVar 2) (tCons (tVar 5) tNil))) (tCons (tVar 3) tNil))))) tNext)
      (tSeq (tIfS (tOr (tNot (tB (tCB (rIsi K) (tCons (tVar 6) (tCons (tC (V.ref (cPL K))) tNil))))) (tOr (tTest (tOp (rNeD K) (tFld K (tVar 6) ("colours")) (tVar 7))) (tNot (tB (tCall spTupT [] E0 (tCons (tFld K (tVar 6) ("colours")) tNil)))))) (tRet (tC (V.bl false))) tNext)
      (tSeq (tIfS (tOr (tTest (tOp rNe (lenS w (tCB (rSetI K w) (tCons (tCall spLineRun [] E0 (tCons (tVar 7) (tCons (tVar 2) tNil))) tNil))) (tC (V.int 1)))) (tTest (tOp rEq (lenS w (tCB (rSetI K w) (tCons (tCall spLineRun [] E0 (tCons (tVar 7) (tCons (tVar 3) tNil))) tNil))) (tC (V.int 1))))) (tRet (tC (V.bl false))) tNext)
      (tRet (tAndV (tOp (rEqG (DIns (cPL K) (EqPL K))) (tCallN 2 1 (spReach K) (fun vs zs => vs ++ zs) (fun x x_1 x_2 => False) (tCons (tVar 2) (tCons (tVar 3) tNil)) (tCons (tVar 5) tNil)) (tVar 6)) (tOp isNR (tCall (spReach K) [] (fun x x_1 x_2 => False) (tCons (tVar 2) (tCons (tVar 2) (tCons (tVar 5) tNil)))) (tC V.non))))))) D [s0, s1, some (.ref a1), some (.ref a2), s4, some (hv h), some v, s7] H1 := by
    intro res hres H1 v sm1 hp
    refine ⟨_, rfl, _, rfl, _, rfl, a1, a2, one, other, h, (by rw [hvv_hv]; rfl), sm1 _ _ h1, sm1 _ _ h2, l1, fun res' hres' H2 v' sm2 tp => ?_⟩
    have er := hres'.uniq hres
    subst er
    have sm12 := sm1.trans sm2
    have hp2 := hp.same sm2
    cases res' with
    | none =>
      have e1 : v = .non := hp
      have e2 : v' = .non := tp
      refine ⟨_, rfl, rfl, _, rfl, iteT' (by rw [e2]; rfl) ⟨_, rfl, rfl, _, rfl, iteT' (by rw [e1]; rfl) ⟨_, rfl, _, rfl, a1, one, h, (by rw [hvv_hv]; rfl), sm12 _ _ h1, by omega, fun H3 p sm3 _ h3 => ?_⟩⟩⟩
      refine ⟨_, rfl, p, a2, strip h one, other, rfl, .inl h3, sm3 _ _ (sm12 _ _ h2), ?_⟩
      rw [decide_eq_true (due_none hres')]
      exact k H3 (sm12.trans sm3)
    | some x =>
      obtain ⟨t', rfl, ht'⟩ := id tp
      obtain ⟨p, dx, t, rfl, hpp, ht⟩ := hp2
      obtain ⟨f, wd, rfl, hne, hnb, hw1, hw2⟩ := due_some hres'.1
      have hwl := hw1.length_le
      obtain ⟨ty1, ty2⟩ := pl_ty T hpp
      refine ⟨_, rfl, rfl, _, rfl, iteF' rfl ?_⟩
      refine ⟨_, rfl, _, _, _, _, _, rfl, .own _, ty1, ty2, _, rfl, iteF' rfl ?_⟩
      refine ⟨_, rfl, p, _, dx, _, _, rfl, hpp, T.pcl, T.pno, rfl, _, rfl, neT ht ht' ⟨_, rfl, ?_⟩⟩
      refine iteF' (by rw [decide_eq_true rfl]; rfl) ⟨_, rfl, p, _, dx, _, _, rfl, hpp, T.pcl, T.pno, rfl, t, _, rfl, ht, by rw [List.length_cons]; omega, fun H3 sm3 => ⟨_, rfl, iteF' rfl ?_⟩⟩
      have sm13 := sm12.trans sm3
      refine ⟨_, rfl, _, rfl, t', a1, f :: wd, one, rfl, sm3 _ _ ht', sm13 _ _ h1, by simp, by rw [List.length_cons]; omega, fun H4 q4 sm4 _ h4 => ?_⟩
      refine ⟨q4, _, rfl, .inl (SqL.of h4), by rw [lrun_len _ _ (by simp), List.length_cons]; omega, fun q5 hq5 => ?_⟩
      generalize hH5 : upd _ q5 _ = H5
      obtain ⟨sm5, h5⟩ := got hH5 hq5
      have e1 : (asc (lrun (f :: wd) one)).length = 1 := (asc_one (fun e => by have := lrun_len (f :: wd) one (by simp); rw [e] at this; cases this)).mpr ((lrun_all hnb one).mpr hw1)
      refine ⟨q5, _, _, rfl, h5, rfl, _, rfl, iteF' (by rw [e1]; rfl) ?_⟩
      have sm35 := sm4.trans sm5
      have sm15 := sm13.trans sm35
      refine ⟨_, rfl, _, rfl, t', a2, f :: wd, other, rfl, sm35 _ _ (sm3 _ _ ht'), sm15 _ _ h2, by simp, by rw [List.length_cons]; omega, fun H6 q6 sm6 _ h6 => ?_⟩
      refine ⟨q6, _, rfl, .inl (SqL.of h6), by rw [lrun_len _ _ (by simp), List.length_cons]; omega, fun q7 hq7 => ?_⟩
      generalize hH7 : upd _ q7 _ = H7
      obtain ⟨sm7, h7⟩ := got hH7 hq7
      have e2 : (asc (lrun (f :: wd) other)).length ≠ 1 := fun e => hw2 ((lrun_all hnb other).mp ((asc_one (fun e => by have := lrun_len (f :: wd) other (by simp); rw [e] at this; cases this)).mp e))
      refine ⟨q7, _, _, rfl, h7, rfl, _, rfl, iteF' (by simp only [decide_eq_false_iff_not, V.int.injEq]; omega) ?_⟩
      have sm37 := (sm35.trans sm6).trans sm7
      have sm17 := sm13.trans sm37
      refine ⟨_, rfl, _, rfl, _, rfl, rfl, rfl, reach_go (.inl (sm17 _ _ h1)) (.inl (sm17 _ _ h2)) (by omega) (by omega) t1 t2 hh fun res2 hres2 H8 v8 sm8 hp8 => ?_⟩
      have er2 := hres2.uniq hres'
      subst er2
      obtain ⟨p8, dx8, t8, rfl, hp8, ht8⟩ := hp8
      have sm38 := sm37.trans sm8
      refine ⟨_, rfl, ⟨p8, p, dx8, dx, _, _, rfl, rfl, hp8, sm38 _ _ (sm3 _ _ hpp), dx8, dx, t8, t, _, hp8, sm38 _ _ (sm3 _ _ hpp), ht8, sm38 _ _ (sm3 _ _ ht)⟩, fun H9 sm9 => ⟨_, rfl, iteT' rfl ?_⟩⟩
      have sm19 := (sm17.trans sm8).trans (show Same H8 H9 from sm9)
      refine ⟨_, rfl, _, rfl, _, rfl, reach_go (.inl (sm19 _ _ h1)) (.inl (sm19 _ _ h1)) (by omega) (by omega) t1 t1 hh fun res3 hres3 H10 v10 sm10 hp10 => ?_⟩
      have er3 := hres3.uniq (due_nil (strip_hid.mpr ((strip_sub h one).trans (strike_sub one))))
      subst er3
      have e3 : v10 = .non := hp10
      subst e3
      exact ⟨rfl, k H10 (sm19.trans sm10)⟩
  cases h with
  | none =>
    refine ⟨_, rfl, rfl, _, rfl, iteT' rfl ⟨_, rfl, a1, _, rfl, .inl ⟨SqL.of h1, fun q hq => ?_⟩⟩⟩
    generalize hH1 : upd _ q _ = H1
    obtain ⟨sm1, hq1⟩ := got hH1 hq
    exact ⟨_, rfl, reach_go (h := none) (.inr hq1) (.inl (sm1 _ _ h2)) (by omega) (by omega) t1 t2 hh fun res hres H' v s hp => rest res hres H' v (sm1.trans s) hp⟩
  | some f =>
    refine ⟨_, rfl, rfl, _, rfl, iteF' rfl ⟨_, rfl, _, rfl, a2, _, rfl, .inl ⟨SqL.of h2, fun q hq => ?_⟩⟩⟩
    generalize hH1 : upd _ q _ = H1
    obtain ⟨sm1, hq1⟩ := got hH1 hq
    exact ⟨_, rfl, reach_go (h := some f) (.inl (sm1 _ _ h1)) (.inr hq1) (by omega) (by omega) t1 t2 hh fun res hres H' v s hp => rest res hres H' v (sm1.trans s) hp⟩
section
variable {P : Program} {w : World} {K : PySem.W.Frag} {mg : Str → Option Value} {base : Heap}
theorem no_pass {X : Cx} : Passes (L2N.CX X.prog X.w) X (fun _ _ _ => False) := L2N.passes_call (takesN_of takes_none5) (fun _ _ _ _ h => h.elim)
theorem no_pass2 {X : Cx} : Passes (L2.CX X.prog X.w) X (fun _ _ _ => False) := passes_call takes_none5 (fun _ _ _ _ h => h.elim)
theorem pe_reachK {X : Cx} {p pos : Pos} {e : Expr} {es : List Expr} {kws : List Keyword} {t tk : TA} {E : XK} {fd : FuncData} (F : FnOk X.prog X.w X.K X.mg X.base (L2N.CX X.prog X.w) 5 (He.ga X.K "reach_lacks") fd ["one", "other", "first"] (spReach X.K)) (b : KBn X.K fd ["one", "other", "first"] 2 ["first"] (fun us ws => us ++ ws) (fun vs zs => vs ++ zs))
    (kp : PySem.W.keepIn X.K (.ref (He.ga X.K "reach_lacks")) = true) (m : X.mg "reach_lacks" = some (.ref (He.ga X.K "reach_lacks"))) (hr : Room 5 X.A) (hg : Gl X "reach_lacks") (hx : Passes (L2N.CX X.prog X.w) X E) (ha : PA X (e :: es) t) (hkw : PK X kws tk)
    (hall : (backToKw pos (keywordEach kws X.env)).all (·.1.isSome) = true := by rfl) (hks : (backToKw pos (keywordEach kws X.env)).filterMap (·.1) = [("first" : Str)] := by rfl)
    (hdb : (("reach_lacks" : Str) == ("__debug__" : Str)) = false := by decide) (he : starEach (e :: es) X.env = (false, eval e X.env) :: starEach es X.env := by rfl)
    (hpl : ((backTo pos (starEach (e :: es) X.env)).any (·.1) || (backToKw pos (keywordEach kws X.env)).any (·.1.isNone)) = false := by rfl) :
    PE X (.Call (.Name "reach_lacks" p) (e :: es) kws pos) (tCallN 2 1 (spReach X.K) (fun vs zs => vs ++ zs) E t tk) :=
  pe_callN F hr hg m kp b hx ha hkw hall hks hdb he hpl
theorem scLawLacks : FnScope ["_law_hand_here", "_law_tones", "_law_one", "_law_other", "_law_turn", "_law_head", "_law_told", "_law_due_here"] ["_law_hand_here"] (defScope sLawLacks) := ⟨rfl, rfl, rfl, by decide +kernel, rfl, by decide +kernel, by decide +kernel⟩
def spHandTrue : Sp := fun vs H Q _ => ∃ (hd cells : Addr), vs = [.ref hd] ∧ HandOk hd cells H ∧ ∀ H', But hd H H' → HandOk hd cells H' → Q (.bl true) H'
theorem good_lacks (T : Txt K mg) : Good P w K mg base CX0 8 "_law_lacks" ["_law_hand_here"] [] spHandTrue := by
  have G_law_take := good_take (P := P) (w := w) (base := base) T
  have G_law_pick := good_pick (P := P) (w := w) (base := base) T
  have G_law_row := good_rowOf (P := P) (w := w) (base := base) T
  have G_law_varied := good_varied (P := P) (w := w) (base := base) T
  have G_law_due := good_due (P := P) (w := w) (base := base) T
  have G_law_hidden := good_hidden (P := P) (w := w) (base := base) T
  have G_law_strip := good_strip (P := P) (w := w) (base := base) T
  have G_law_tuples := good_tuples (P := P) (w := w) (base := base) T
  have G_law_line_run := good_lineRun (P := P) (w := w) (base := base) T
  have G_reach2 := good_reach2 (P := P) (w := w) (base := base) T
  have G_reach3 := good_reach3 (P := P) (w := w) (base := base) T
  obtain ⟨fk, itk, Fk, bk, kpk⟩ := kw_reach (P := P) (w := w) (base := base) T
  obtain ⟨fe, Feq, beq⟩ := ok_pleq (P := P) (w := w) (base := base) T
  refine good0 T.d_law_lacks T.g_law_lacks scLawLacks (fun _ _ _ _ _ _ us hl => match us, hl with | [_], _ => rfl) (fun vs H Q E h => ?_) (fun cdv A outer s H vs Q E hr h => ?_)
  · obtain ⟨hd, cells, rfl, _⟩ := h
    rfl
  · obtain ⟨hd, cells, rfl, ok, k⟩ := h
    refine ⟨_, (pss_cons
    (ps_set (i := 1) scLawLacks.nd rfl (Or.inl rfl) (pe_go G_law_pick hr (by decide) rfl (pa_cons (pv 0) (pa_cons (pe_lst (pa_cons (pe_int) (pa_cons (pe_int) (pa_cons (pe_int) (pa_cons (pe_int) pa_nil))))) pa_nil))))
    (pss_cons
    (ps_set (i := 2) scLawLacks.nd rfl (Or.inl rfl) (pe_go G_law_row hr (by decide) rfl (pa_cons (pv 0) (pa_cons (pe_int) (pa_cons (pv 1) pa_nil)))))
    (pss_cons
    (ps_set (i := 3) scLawLacks.nd rfl (Or.inl rfl) (pe_ifExp (pt_cmpR op_eq (pe_go G_law_take hr (by decide) rfl (pa_cons (pv 0) (pa_cons (pe_int) pa_nil))) (pe_int) (nomark _)) (pe_go G_law_row hr (by decide) rfl (pa_cons (pv 0) (pa_cons (pe_int) (pa_cons (pv 1) pa_nil)))) (pe_go G_law_varied hr (by decide) rfl (pa_cons (pv 0) (pa_cons (pv 2) (pa_cons (pv 1) (pa_cons (pe_int) pa_nil)))))))
    (pss_cons
    (ps_for PassesOwn.never rfl (pi_range1 rfl T.n_range (pa_cons (pe_go G_law_take hr (by decide) rfl (pa_cons (pv 0) (pa_cons (pe_int) pa_nil))) pa_nil)) (pg_name (i := 4) scLawLacks.nd rfl (Or.inl rfl)) (pss_one
      (ps_set (i := 3) scLawLacks.nd rfl (Or.inl rfl) (pe_go G_law_varied hr (by decide) rfl (pa_cons (pv 0) (pa_cons (pv 3) (pa_cons (pv 1) (pa_cons (pe_int) pa_nil))))))))
    (pss_cons
    (ps_set (i := 5) scLawLacks.nd rfl (Or.inl rfl) (pe_go G_law_pick hr (by decide) rfl (pa_cons (pv 0) (pa_cons (pe_lst (pa_cons (pe_non) (pa_cons (pe_non) (pa_cons (pe_int) (pa_cons (pe_int) (pa_cons (pe_int) (pa_cons (pe_ix ix_list (pe_op op_cat (pv 2) (pe_lst (pa_cons (pe_int) pa_nil))) (pe_int) (fun _ _ => rfl)) pa_nil))))))) pa_nil))))
    (pss_cons
    (ps_set (i := 6) scLawLacks.nd rfl (Or.inl rfl) (pe_ifExp (pt_cmpR op_isN (pv 5) (pe_non) (nomark _)) (pe_goX G_reach2 hr (by decide) rfl no_pass (pa_cons (pe_callTy call_tuple_of (by rfl) T.n_tuple (by decide +kernel) (pa_cons (pv 2) pa_nil)) (pa_cons (pv 3) pa_nil))) (pe_goX G_reach3 hr (by decide) rfl no_pass (pa_cons (pv 2) (pa_cons (pe_callTy call_tuple_of (by rfl) T.n_tuple (by decide +kernel) (pa_cons (pv 3) pa_nil)) (pa_cons (pv 5) pa_nil))))))
    (pss_cons
    (ps_set (i := 7) scLawLacks.nd rfl (Or.inl rfl) (pe_go G_law_due hr (by decide) rfl (pa_cons (pv 2) (pa_cons (pv 3) (pa_cons (pv 5) pa_nil)))))
    (pss_cons
    (ps_if (pt_cmpR op_isN (pv 7) (pe_non) (nomark _)) (pss_one
      (ps_ret ((pe_and (pe_cmpR op_isN (pv 6) (pe_non) (nomark _)) (pe_one (pe_go G_law_hidden hr (by decide) rfl (pa_cons (pe_go G_law_strip hr (by decide) rfl (pa_cons (pv 2) (pa_cons (pv 5) pa_nil))) (pa_cons (pv 3) pa_nil)))))))) pss_nil)
    (pss_cons
    (ps_if (PW.pt (pw_or (pt_not (pt_val (pe_callB call_isi (by rfl) T.n_isinstance (by decide +kernel) (pa_cons (pv 6) (pa_cons (pe_glob rfl T.g_PartingLine rfl (v := .ref (cPL K))) pa_nil))))) (pw_or (pt_cmpR (op_neD (hu64 hr)) (pe_fld (pv 6) rfl) (pv 7) (nomark _)) (pw_or1 (pt_not (pt_val (pe_go G_law_tuples hr (by decide) rfl (pa_cons (pe_fld (pv 6) rfl) pa_nil)))))))) (pss_one
      (ps_ret (pe_bl))) pss_nil)
    (pss_cons
    (ps_if (PW.pt (pw_or (pt_cmpR op_ne (pe_callB call_len_setO (by rfl) T.n_len PySem.boot_len (pa_cons (pe_callTy (call_setI rfl) (by rfl) T.n_set (by decide +kernel) (pa_cons (pe_go G_law_line_run hr (by decide) rfl (pa_cons (pv 7) (pa_cons (pv 2) pa_nil))) pa_nil)) pa_nil)) (pe_int) (nomark _)) (pw_or1 (pt_cmpR op_eq (pe_callB call_len_setO (by rfl) T.n_len PySem.boot_len (pa_cons (pe_callTy (call_setI rfl) (by rfl) T.n_set (by decide +kernel) (pa_cons (pe_go G_law_line_run hr (by decide) rfl (pa_cons (pv 7) (pa_cons (pv 3) pa_nil))) pa_nil)) pa_nil)) (pe_int) (nomark _))))) (pss_one
      (ps_ret (pe_bl))) pss_nil)
    (pss_one
    (ps_ret ((pe_and (pe_cmpR (op_eqG (rcG_ins Feq T.plx.eqf T.plx.fn beq pass0) (hr.mono (by decide))) (pe_reachK Fk bk kpk T.g_reach_lacks (hr.mono (by decide)) rfl no_pass (pa_cons (pv 2) (pa_cons (pv 3) pa_nil)) (pk_cons (pv 5) pk_nil)) (pv 6) (nomark _)) (pe_one (pe_cmpR op_isN (pe_goX G_reach3 hr (by decide) rfl no_pass (pa_cons (pv 2) (pa_cons (pv 2) (pa_cons (pv 5) pa_nil)))) (pe_non) (nomark _))))))))))))))))), ?_⟩
    refine ⟨_, rfl, Nat.le_of_lt (smallLine (by simp)), fun q hq => ?_⟩
    generalize hH1 : upd _ q _ = H1
    obtain ⟨s1, h1⟩ := got hH1 hq
    refine ⟨hd, cells, q, _, rfl, ok.same s1, h1, (ok.off hq).1, by simp, by simp, fun v H2 hvm b2 ok2 => ?_⟩
    obtain ⟨m, rfl, hm, hm2⟩ : ∃ m : Int, v = .int m ∧ 0 < m ∧ m ≤ 100 := by
      simp only [List.mem_cons, List.not_mem_nil, or_false] at hvm
      rcases hvm with rfl | rfl | rfl | rfl <;> exact ⟨_, rfl, by decide, by decide⟩
    have b02 : But hd H H2 := (But.of s1).trans b2
    refine ⟨_, rfl, _, rfl, hd, cells, 8, m, rfl, ok2, by decide, hm, hm2, fun one H3 a1 l1 c1 b3 ok3 n1 h1 => ?_⟩
    have na1 : a1 ≠ hd := (ok2.off n1).1
    have b03 := b02.trans b3
    have loop : ∀ H4 a2 (other : List Int), But hd H H4 → HandOk hd cells H4 → H4 a1 = some (.lst (iv one)) → H4 a2 = some (.lst (iv other)) → a2 ≠ hd → other.length ≤ 12 → Tones other → tSeq (tFor (iRng1 (tCons (tCall spTake [] E0 (tCons (tVar 0) (tCons (tC (V.int 4)) tNil))) tNil)) (gName 4) (tAsg (tCall spVaried [] E0 (tCons (tVar 0) (tCons (tVar 3) (tCons (tVar 1) (tCons (tC (V.int 12)) tNil))))) (gName 3)))
        (tSeq (tAsg (tCall spPick [] E0 (tCons (tVar 0) (tCons (tLst (tCons (tC V.non) (tCons (tC V.non) (tCons (tC (V.int 0)) (tCons (tC (V.int 1)) (tCons (tC (V.int 2)) (tCons (tOp (rIxL K) (tOp rCat (tVar 2) (tLst (tCons (tC (V.int 7)) tNil))) (tC (V.int 0))) tNil))))))) tNil))) (gName 5)) (lacksRest K w)) { nx := fun x H' => Q V.non H', rt := Q } [some (.ref hd), some (.int m), some (.ref a1), some (.ref a2), none, none, none, none] H4 := by
      intro H4 a2 other b04 ok4 g1 g2 na2 lo to
      refine ⟨_, rfl, hd, cells, 4, rfl, ok4, by decide, by decide, fun r H5 r0 r1 b5 ok5 => ⟨r, rfl, by omega, by omega, ?_⟩⟩
      refine for_range (fun i σ H' => ∃ (a2 : Addr) (ms : List Int) (v4 : Option V), σ = [some (.ref hd), some (.int m), some (.ref a1), some (.ref a2), v4, none, none, none] ∧ But hd H H' ∧ HandOk hd cells H' ∧ H' a1 = some (.lst (iv one)) ∧ H' a2 = some (.lst (iv ms)) ∧ a2 ≠ hd ∧ ms.length ≤ 12 ∧ Tones ms) ⟨a2, other, none, rfl, b04.trans b5, ok5, b5 _ _ na1 g1, b5 _ _ na2 g2, na2, lo, to⟩ ?_ ?_
      · rintro i σ H6 hi ⟨a2, ms, v4, rfl, b6, ok6, g1, g2, na2, lo, to⟩
        refine ⟨_, rfl, _, rfl, _, rfl, hd, cells, a2, ms, m, 12, rfl, ok6, g2, by omega, to, hm, hm2, fun ms' H7 p7 l7 c7 b7 ok7 n7 h7 => ⟨p7, ms', _, rfl, b6.trans b7, ok7, b7 _ _ na1 g1, h7, (ok6.off n7).1, l7, c7⟩⟩
      · rintro σ H6 ⟨a2, ms, v4, rfl, b6, ok6, g1, g2, na2, lo, to⟩
        refine ⟨_, rfl, _, rfl, Nat.le_of_lt (smallLine (by simp)), fun q hq => ?_⟩
        generalize hH7 : upd _ q _ = H7
        obtain ⟨s7, h7⟩ := got hH7 hq
        refine ⟨a1, q, _, _, rfl, rfl, s7 _ _ g1, h7, Nat.le_of_lt (smallLine (by rw [iv_len]; simp; omega)), fun p hp => ?_⟩
        generalize hH8 : upd _ p _ = H8
        obtain ⟨s8, h8⟩ := got hH8 hp
        obtain ⟨z, hz, z0, z1⟩ : ∃ z : Int, (iv one ++ [V.int 7])[0]? = some (V.int z) ∧ 0 ≤ z ∧ z ≤ 99 := by
          cases one with
          | nil => exact ⟨7, rfl, by decide, by decide⟩
          | cons y r => exact ⟨y, rfl, c1 y List.mem_cons_self⟩
        refine ⟨p, _, 0, .int z, rfl, rfl, SqL.of h8, atI_nat (j := 0) hz, Nat.le_of_lt (smallLine (by simp)), fun l hl => ?_⟩
        generalize hH9 : upd _ l _ = H9
        obtain ⟨s9, h9⟩ := got hH9 hl
        have s69 := (s7.trans s8).trans s9
        have ok8 := ok6.same (s7.trans s8)
        refine ⟨hd, cells, l, _, rfl, ok8.same s9, h9, (ok8.off hl).1, by simp, by simp, fun v H10 hvm b10 ok10 => ?_⟩
        have bt : But hd H H10 := (b6.trans (But.of s69)).trans b10
        obtain ⟨h, rfl, hh⟩ : ∃ h : Option Int, v = hv h ∧ ∀ f, h = some f → 0 ≤ f ∧ f ≤ 99 := by
          simp only [List.mem_cons, List.not_mem_nil, or_false] at hvm
          rcases hvm with rfl | rfl | rfl | rfl | rfl | rfl
          · exact ⟨none, rfl, fun f e => by cases e⟩
          · exact ⟨none, rfl, fun f e => by cases e⟩
          · exact ⟨some 0, rfl, fun f e => by cases e; decide⟩
          · exact ⟨some 1, rfl, fun f e => by cases e; decide⟩
          · exact ⟨some 2, rfl, fun f e => by cases e; decide⟩
          · exact ⟨some z, rfl, fun f e => by cases e; exact ⟨z0, z1⟩⟩
        exact lacks_rest (D := { nx := fun x H' => Q V.non H', rt := Q }) T (b10 _ _ na1 (s69 _ _ g1)) (b10 _ _ na2 (s69 _ _ g2)) (by omega) lo c1 to hh fun H' sm => k H' (bt.trans (But.of sm)) (ok10.same sm)
    refine ⟨_, rfl, hd, cells, 4, rfl, ok3, by decide, by decide, fun r H4 r0 r1 b4 ok4 => ⟨rfl, _, rfl, ?_⟩⟩
    by_cases cr : r = 0
    · refine iteT' (by simp [cr]) ⟨_, rfl, _, rfl, hd, cells, 8, m, rfl, ok4, by decide, hm, hm2, fun other H5 a2 l2 c2 b5 ok5 n2 h2 => ?_⟩
      exact loop H5 a2 other ((b03.trans b4).trans b5) ok5 (b5 _ _ na1 (b4 _ _ na1 h1)) h2 (ok4.off n2).1 (by omega) c2
    · refine iteF' (by simp [cr]) ⟨_, rfl, _, rfl, _, rfl, hd, cells, a1, one, m, 8, rfl, ok4, b4 _ _ na1 h1, by omega, c1, hm, hm2, fun other H5 a2 l2 c2 b5 ok5 n2 h2 => ?_⟩
      exact loop H5 a2 other ((b03.trans b4).trans b5) ok5 (b5 _ _ na1 (b4 _ _ na1 h1)) h2 (ok4.off n2).1 (by omega) c2
end
end K21
end
section
set_option Elab.async false
set_option linter.all false
set_option maxRecDepth 100000
set_option maxHeartbeats 4000000
/-! the law's defs 12: asked -/
namespace K21
open PySem PySem.Spec PyProof.Rows L2
def askH (K : PySem.W.Frag) (tag c f : Str) : Addr → Value → Option Addr → TS := fun a cls d => tRet (tTup (tCons (tC (.str tag)) (tCons (tXf a cls d (He.ga K c) f (tVar 4)) tNil)))
def askL (K : PySem.W.Frag) : List (Value × (Addr → Value → Option Addr → TS)) := [(.ref (He.ga K "BadRow"), askH K "row" "BadRow" "index"), (.ref (He.ga K "BadRows"), askH K "rows" "BadRows" "index"), (.ref (He.ga K "BadColour"), askH K "colour" "BadColour" "colour")]
def askB (K : PySem.W.Frag) (W : WX) : TS := tRet (tIf (tTest (tOp rEq (tVar 0) (tC (V.int 0)))) (tCallSD (spReach K) [] (WE W) (tCons (tVar 1) (tCons (tVar 2) (tCons (tVar 3) tNil)))) (tCallSD (spShortest K) [] (WE W) (tCons (tVar 1) (tCons (tVar 3) tNil))))
def askT (K : PySem.W.Frag) : TS := fun D σ H => askB K (wNm K 4 (fun _ _ _ _ => False) D (askL K)) D σ H
section
variable {P : Program} {w : World} {K : PySem.W.Frag} {mg : Str → Option Value} {base : Heap}
theorem scLawAsked : FnScope ["_law_kind", "_law_one", "_law_other", "_law_first", "raised"] ["_law_kind", "_law_one", "_law_other", "_law_first"] (defScope sLawAsked) := ⟨rfl, rfl, rfl, by decide +kernel, rfl, by decide +kernel, by decide +kernel⟩
/-- what is answered: by tag and value -/
def Ans2 (K : PySem.W.Frag) (H : Hp) (vs : List V) (tag : Str) (val : V) : Prop :=
  (∃ v1 v2 v3 o1 o2, vs = [.int 0, v1, v2, v3] ∧ Given H v1 o1 ∧ Given H v2 o2 ∧ Thing H v3 ∧ v3 ≠ .non ∧ wholeB v3 0 99 = false ∧
    ((∃ i : Nat, givenIx o1 40 = some i ∧ tag = "row" ∧ val = .int (i : Nat)) ∨ (givenIx o1 40 = none ∧ ∃ i : Nat, givenIx o2 40 = some i ∧ tag = "row" ∧ val = .int (i : Nat)) ∨ (givenIx o1 40 = none ∧ givenIx o2 40 = none ∧ tag = "colour" ∧ val = v3))) ∨
  (∃ v1 v3 o, vs = [.int 1, v1, .non, v3] ∧ GivenS H v1 o ∧ Thing H v3 ∧ v3 ≠ .non ∧ wholeB v3 0 99 = false ∧ ((∃ i : Nat, shortIx o = some i ∧ tag = "rows" ∧ val = .int (i : Nat)) ∨ (shortIx o = none ∧ tag = "colour" ∧ val = v3)))
def spAsked (K : PySem.W.Frag) : Sp := fun vs H Q _ => ∃ tag val, Ans2 K H vs tag val ∧ ∀ H' t, Same H H' → H' t = some (.tup [.str tag, val]) → Q (.ref t) H'
theorem ask_row (T : Txt K mg) {D : Ends} {s0 s1 s2 s3 s4 : Option V} {H : Hp} {dd : Addr} {val : V} (h : H dd = some (.xd [("index", val)])) (k : ∀ H' t, Same H H' → H' t = some (.tup [.str "row", val]) → D.rt (.ref t) H') : wNm K 4 (fun _ _ _ _ => False) D (askL K) (.ref (He.ga K "BadRow")) (some dd) [s0, s1, s2, s3, s4] H :=
  ⟨true, T.x_BadRow_BadRow, fun _ a ha => ⟨_, rfl, rfl, rfl, dd, _, val, rfl, h, rfl, Nat.le_of_lt (smallLine (by simp)), fun p hp => k _ p (Same.new hp) upd_same⟩, (fun z => nomatch z)⟩
theorem ask_rows (T : Txt K mg) {D : Ends} {s0 s1 s2 s3 s4 : Option V} {H : Hp} {dd : Addr} {val : V} (h : H dd = some (.xd [("index", val)])) (k : ∀ H' t, Same H H' → H' t = some (.tup [.str "rows", val]) → D.rt (.ref t) H') : wNm K 4 (fun _ _ _ _ => False) D (askL K) (.ref (He.ga K "BadRows")) (some dd) [s0, s1, s2, s3, s4] H :=
  ⟨false, T.x_BadRows_BadRow, (fun z => nomatch z), fun _ => ⟨true, T.x_BadRows_BadRows, fun _ a ha => ⟨_, rfl, rfl, rfl, dd, _, val, rfl, h, rfl, Nat.le_of_lt (smallLine (by simp)), fun p hp => k _ p (Same.new hp) upd_same⟩, (fun z => nomatch z)⟩⟩
theorem ask_colour (T : Txt K mg) {D : Ends} {s0 s1 s2 s3 s4 : Option V} {H : Hp} {dd : Addr} {val : V} (h : H dd = some (.xd [("colour", val)])) (k : ∀ H' t, Same H H' → H' t = some (.tup [.str "colour", val]) → D.rt (.ref t) H') : wNm K 4 (fun _ _ _ _ => False) D (askL K) (.ref (He.ga K "BadColour")) (some dd) [s0, s1, s2, s3, s4] H :=
  ⟨false, T.x_BadColour_BadRow, (fun z => nomatch z), fun _ => ⟨false, T.x_BadColour_BadRows, (fun z => nomatch z), fun _ => ⟨true, T.x_BadColour_BadColour, fun _ a ha => ⟨_, rfl, rfl, rfl, dd, _, val, rfl, h, rfl, Nat.le_of_lt (smallLine (by simp)), fun p hp => k _ p (Same.new hp) upd_same⟩, (fun z => nomatch z)⟩⟩⟩
theorem no_colour {v : V} {hd : Option Int} (e : v = hv hd) (n : v ≠ .non) (hb : ∀ f, hd = some f → 0 ≤ f ∧ f ≤ 99) (w : wholeB v 0 99 = false) : False := by
  subst e
  cases hd with
  | none => exact n rfl
  | some f =>
    obtain ⟨a, b⟩ := hb f rfl
    have : (decide ((0 : Int) ≤ f) && decide (f ≤ 99)) = false := w
    rw [decide_eq_true a, decide_eq_true b] at this
    cases this
theorem good_asked (T : Txt K mg) : Good P w K mg base CX0 7 "_law_asked" ["_law_kind", "_law_one", "_law_other", "_law_first"] [] (spAsked K) := by
  have G_reach3 := good_reach3 (P := P) (w := w) (base := base) T
  have G_short2 := good_shortest2 (P := P) (w := w) (base := base) T
  refine good0 T.d_law_asked T.g_law_asked scLawAsked (fun _ _ _ _ _ _ us hl => match us, hl with | [_, _, _, _], _ => rfl) (fun vs H Q E h => ?_) (fun cdv A outer s H vs Q E hr h => ?_)
  · obtain ⟨tag, val, ⟨_, _, _, _, _, rfl, _⟩ | ⟨_, _, _, rfl, _⟩, _⟩ := h <;> rfl
  · obtain ⟨tag, val, h, k⟩ := h
    refine ⟨_, (pss_one
    (show PS _ _ (askT K) from ps_try_named (tb := askB K) (l := askL K) rfl rfl scLawAsked.nd rfl rfl takes_none5 (fun W pn xe tk po => pss_one (by exact (ps_ret (pe_ifExp (pt_cmpR op_eq (pv 0) (pe_int) (nomark _)) (pe_goS (E := WE W) G_reach3 hr (by decide) rfl (fun σ => L2N.passAt (takesN_of tk) σ) (pa_cons (pv 1) (pa_cons (pv 2) (pa_cons (pv 3) pa_nil)))) (pe_goS (E := WE W) G_short2 hr (by decide) rfl (fun σ => passAt tk σ) (pa_cons (pv 1) (pa_cons (pv 3) pa_nil))))))) (.cons ⟨rfl, by decide, Or.inl T.g_BadRow⟩ (fun a oe cls d pn hz hf => pss_one (by exact (ps_ret (pe_tup (pa_cons (pe_str) (pa_cons (pe_xf T.o_BadRow.xf T.o_BadRow.no hz hf (pv 4)) pa_nil)))))) (.cons ⟨rfl, by decide, Or.inl T.g_BadRows⟩ (fun a oe cls d pn hz hf => pss_one (by exact (ps_ret (pe_tup (pa_cons (pe_str) (pa_cons (pe_xf T.o_BadRows.xf T.o_BadRows.no hz hf (pv 4)) pa_nil)))))) (.cons ⟨rfl, by decide, Or.inl T.g_BadColour⟩ (fun a oe cls d pn hz hf => pss_one (by exact (ps_ret (pe_tup (pa_cons (pe_str) (pa_cons (pe_xf T.o_BadColour.xf T.o_BadColour.no hz hf (pv 4)) pa_nil)))))) .nil))))), ?_⟩
    rcases h with ⟨v1, v2, v3, o1, o2, rfl, g1, g2, t3, n3, w3, h⟩ | ⟨v1, v3, o, rfl, g1, t3, n3, w3, h⟩
    · refine ⟨_, rfl, rfl, _, rfl, iteT' rfl ⟨_, rfl, _, rfl, _, rfl, v1, v2, v3, o1, o2, rfl, g1, g2, t3, fun i e H' d s hd => ?_, fun e1 i e H' d s hd => ?_, fun e1 e2 _ _ H' d s hd => ?_, fun l r hd _ _ _ _ _ _ e3 hb => absurd w3 fun w => no_colour e3 n3 hb w⟩⟩
      · rcases h with ⟨j, ej, rfl, rfl⟩ | ⟨ej, _⟩ | ⟨ej, _⟩
        · rw [ej] at e
          cases e
          exact ask_row T hd fun H2 t s2 h2 => k H2 t (s.trans s2) h2
        · rw [ej] at e
          cases e
        · rw [ej] at e
          cases e
      · rcases h with ⟨j, ej, _⟩ | ⟨_, j, ej, rfl, rfl⟩ | ⟨_, ej, _⟩
        · rw [ej] at e1
          cases e1
        · rw [ej] at e
          cases e
          exact ask_row T hd fun H2 t s2 h2 => k H2 t (s.trans s2) h2
        · rw [ej] at e
          cases e
      · rcases h with ⟨j, ej, _⟩ | ⟨_, j, ej, _⟩ | ⟨_, _, rfl, rfl⟩
        · rw [ej] at e1
          cases e1
        · rw [ej] at e2
          cases e2
        · exact ask_colour T hd fun H2 t s2 h2 => k H2 t (s.trans s2) h2
    · refine ⟨_, rfl, rfl, _, rfl, iteF' rfl ⟨_, rfl, _, rfl, v1, v3, o, rfl, g1, t3, fun i e H' d s hd => ?_, fun e1 _ _ H' d s hd => ?_, fun nss hd eo e1 e3 hb => absurd w3 fun w => no_colour e3 n3 hb w⟩⟩
      · rcases h with ⟨j, ej, rfl, rfl⟩ | ⟨ej, _⟩
        · rw [ej] at e
          cases e
          exact ask_rows T hd fun H2 t s2 h2 => k H2 t (s.trans s2) h2
        · rw [ej] at e
          cases e
      · rcases h with ⟨j, ej, _⟩ | ⟨_, rfl, rfl⟩
        · rw [ej] at e1
          cases e1
        · exact ask_colour T hd fun H2 t s2 h2 => k H2 t (s.trans s2) h2
end
end K21
end
section
set_option Elab.async false
set_option linter.all false
set_option maxRecDepth 100000
set_option maxHeartbeats 4000000
/-! the law's defs 13: no_row -/
namespace K21
open PySem PySem.Spec PyProof.Rows L2
theorem badAt_pre {pre post : List V} {b : V} (h : ∀ x ∈ pre, wholeB x 0 99 = true) (hb : wholeB b 0 99 = false) : badAt (pre ++ b :: post) = some pre.length := by
  refine badAt_some (v := b) (fun j v hj hv => ?_) ?_ hb
  · rw [List.getElem?_append_left hj] at hv
    exact h v (List.mem_of_getElem? hv)
  · rw [List.getElem?_append_right (Nat.le_refl _), Nat.sub_self]
    rfl
theorem Tones.whole {ns : List Int} (h : Tones ns) : ∀ x ∈ iv ns, wholeB x 0 99 = true := fun x hx => by
  obtain ⟨z, hz, rfl⟩ := List.mem_map.mp hx
  obtain ⟨h1, h2⟩ := h z hz
  show (decide ((0 : Int) ≤ z) && decide (z ≤ 99)) = true
  rw [decide_eq_true h1, decide_eq_true h2]
  rfl
theorem Thing.but {hd cells : Addr} {H H' : Hp} {v : V} (t : Thing H v) (ok : HandOk hd cells H) (b : But hd H H') : Thing H' v := by
  rcases t with h | ⟨a, xs, rfl, h⟩
  · exact .inl h
  · obtain ⟨_, _, _, _, h1, _⟩ := ok
    exact .inr ⟨a, xs, rfl, b _ _ (fun e => by rw [e, h1] at h; cases h) h⟩
theorem NoRow.but {hd : Addr} {H H' : Hp} {v : V} (t : NoRow H v) (n : ∀ p, v = .ref p → p ≠ hd) (b : But hd H H') : NoRow H' v := by
  cases t with
  | flat h => exact .flat h
  | dT h => exact .dT (b _ _ (n _ rfl) h)
  | dK h => exact .dK (b _ _ (n _ rfl) h)
theorem Given.but {hd cells : Addr} {H H' : Hp} {v : V} {o : Option (List V)} (g : Given H v o) (n : ∀ p, v = .ref p → p ≠ hd) (ok : HandOk hd cells H) (b : But hd H H') : Given H' v o := by
  cases g with
  | no h => exact .no (h.but n b)
  | row h t l => exact .row (h.imp (b _ _ (n _ rfl)) (b _ _ (n _ rfl))) (fun x hx => (t x hx).but ok b) l
theorem List_ne {hd cells a : Addr} {H : Hp} {ns : List Int} (ok : HandOk hd cells H) (h : H a = some (.lst (iv ns))) : a ≠ hd := fun e => by
  obtain ⟨x, y, z, ms, h1, _, _⟩ := ok
  rw [e, h1] at h
  have := HO.lst.inj (Option.some.inj h)
  cases ns with
  | nil => cases this
  | cons n r => cases this
section
variable {P : Program} {w : World} {K : PySem.W.Frag} {mg : Str → Option Value} {base : Heap}
theorem scLawNoRow : FnScope ["_law_hand_here", "_law_row_here", "_law_most", "_law_kind", "_law_at", "_law_out", "_law_late"] ["_law_hand_here", "_law_row_here", "_law_most"] (defScope sLawNoRow) := ⟨rfl, rfl, rfl, by decide +kernel, rfl, by decide +kernel, by decide +kernel⟩
def spNoRow : Sp := fun vs H Q _ => ∃ (hd cells a : Addr) (ns : List Int) (most : Nat), vs = [.ref hd, .ref a, .int (most : Nat)] ∧ HandOk hd cells H ∧ H a = some (.lst (iv ns)) ∧ a ≠ hd ∧ Tones ns ∧ ns.length ≤ 60 ∧ 2 ≤ most ∧ most ≤ 60 ∧
  ∀ v o ix H' t, Given H' v o → (∀ b, v = .ref b → b ≠ hd) → givenIx o most = some ix → But hd H H' → HandOk hd cells H' → H' t = some (.tup [v, .int (ix : Nat)]) → Q (.ref t) H'
theorem good_noRow (T : Txt K mg) : Good P w K mg base CX0 4 "_law_no_row" ["_law_hand_here", "_law_row_here", "_law_most"] [] spNoRow := by
  have G_law_take := good_take (P := P) (w := w) (base := base) T
  have G_law_pick := good_pick (P := P) (w := w) (base := base) T
  refine good0 T.d_law_no_row T.g_law_no_row scLawNoRow (fun _ _ _ _ _ _ us hl => match us, hl with | [_, _, _], _ => rfl) (fun vs H Q E h => ?_) (fun cdv A outer s H vs Q E hr h => ?_)
  · obtain ⟨hd, cells, a, ns, most, rfl, _⟩ := h
    rfl
  · obtain ⟨hd, cells, a, ns, most, rfl, ok, ha, na, tn, hl, hm, hm2, k⟩ := h
    refine ⟨_, (pss_cons
    (ps_set (i := 3) scLawNoRow.nd rfl (Or.inl rfl) (pe_go G_law_take hr (by decide) rfl (pa_cons (pv 0) (pa_cons (pe_int) pa_nil))))
    (pss_cons
    (ps_if (pt_cmpR op_eq (pv 3) (pe_int) (nomark _)) (pss_one
      (ps_ret (pe_tup (pa_cons (pe_go G_law_pick hr (by decide) rfl (pa_cons (pv 0) (pa_cons (pe_lst (pa_cons (pe_non) (pa_cons (pe_int) (pa_cons (pe_str) (pa_cons (pe_dnewT) (pa_cons (pe_bl) pa_nil)))))) pa_nil))) (pa_cons (pe_int) pa_nil))))) pss_nil)
    (pss_cons
    (ps_if (pt_cmpR op_eq (pv 3) (pe_int) (nomark _)) (pss_one
      (ps_ret (pe_tup (pa_cons (pe_lc (own := [("_law_at", 4)]) rfl scLawNoRow.nd (pi_range1 rfl T.n_range (pa_cons (pe_op op_add (pv 2) (pe_int)) pa_nil)) (blkOk_by (N := ["_law_hand_here", "_law_row_here", "_law_most", "_law_kind", "_law_at", "_law_out", "_law_late"]) (sc := defScope sLawNoRow) (by decide +kernel)) (fun _ _ _ _ _ => (pg_name (i := 4) scLawNoRow.nd rfl (Or.inl rfl))) (fun _ _ _ _ _ => pts_nil) (fun _ _ _ _ _ => (pe_op op_mod (pe_callTy call_int1 (by rfl) T.n_int (by decide +kernel) (pa_cons (pv 4) pa_nil)) (pe_int)))) (pa_cons (pe_int) pa_nil))))) pss_nil)
    (pss_cons
    (ps_set (i := 5) scLawNoRow.nd rfl (Or.inl rfl) (pe_slice sl_list (pe_callTy call_list_of (by rfl) T.n_list (by decide +kernel) (pa_cons (pv 1) pa_nil)) po_none (po_some (pe_op op_sub (pv 2) (pe_int)))))
    (pss_cons
    (ps_set (i := 4) scLawNoRow.nd rfl (Or.inl rfl) (pe_go G_law_take hr (by decide) rfl (pa_cons (pv 0) (pa_cons (pe_op op_add (pe_callB call_len_seq (by rfl) T.n_len PySem.boot_len (pa_cons (pv 5) pa_nil)) (pe_int)) pa_nil))))
    (pss_cons
    (ps_expr (pe_bm PySem.F.plainAttrs_list PySem.F.slot_list_insert PySem.F.type_list_insert mt_insert (pv 5) (pa_cons (pv 4) (pa_cons (pe_go G_law_pick hr (by decide) rfl (pa_cons (pv 0) (pa_cons (pe_lst (pa_cons (pe_non) (pa_cons (pe_bl) (pa_cons (pe_un un_neg (pe_int)) (pa_cons (pe_int) (pa_cons (pe_str) (pa_cons (pe_tup (pa_cons (pe_int) pa_nil)) (pa_cons (pe_op op_pow (pe_int) (pe_int)) pa_nil)))))))) pa_nil))) pa_nil))))
    (pss_cons
    (ps_if (PW.pt (pw_and (pt_cmpR op_eq (pv 3) (pe_int) (nomark _)) (pw_and1 (pt_cmpR op_gt (pv 4) (pe_int) (nomark _))))) (pss_cons
      (ps_set (i := 6) scLawNoRow.nd rfl (Or.inl rfl) (pe_op op_cat (pe_slice sl_list (pv 5) po_none (po_some (pv 4))) (pe_lst (pa_cons (pe_int) pa_nil))))
      (pss_one
      (ps_ret (pe_ifExp (pt_cmpR op_lt (pe_callB call_len_seq (by rfl) T.n_len PySem.boot_len (pa_cons (pv 6) pa_nil)) (pv 2) (nomark _)) (pe_tup (pa_cons (pe_callTy call_tuple_of (by rfl) T.n_tuple (by decide +kernel) (pa_cons (pe_op op_cat (pv 6) (pe_lst (pa_cons (pe_bl) pa_nil))) pa_nil)) (pa_cons (pe_op op_add (pv 4) (pe_int)) pa_nil))) (pe_tup (pa_cons (pe_callTy call_tuple_of (by rfl) T.n_tuple (by decide +kernel) (pa_cons (pv 5) pa_nil)) (pa_cons (pv 4) pa_nil))))))) pss_nil)
    (pss_one
    (ps_ret (pe_tup (pa_cons (pv 5) (pa_cons (pv 4) pa_nil)))))))))))), ?_⟩
    refine ⟨_, rfl, hd, cells, 4, rfl, ok, by decide, by decide, fun kind H1 _ _ b1 ok1 => ?_⟩
    have ha1 := b1 _ _ na ha
    refine ⟨_, rfl, rfl, _, rfl, ?_⟩
    by_cases k0 : kind = 0
    · -- no row at all
      refine iteT' (by simp [k0]) ⟨_, rfl, fun d hd' => ?_⟩
      generalize hH2 : upd _ d _ = H2
      obtain ⟨s2, h2⟩ := got hH2 hd'
      refine ⟨Nat.le_of_lt (smallLine (by simp)), fun l hl => ?_⟩
      generalize hH3 : upd _ l _ = H3
      obtain ⟨s3, h3⟩ := got hH3 hl
      have ok2 := ok1.same s2
      have ok3 := ok2.same s3
      refine ⟨hd, cells, l, _, rfl, ok3, h3, (ok2.off hl).1, by simp, by simp, fun v H4 hv b4 ok4 => ?_⟩
      have nd : d ≠ hd := (ok1.off hd').1
      have h24 := b4 _ _ nd (s3 _ _ h2)
      refine ⟨Nat.le_of_lt (smallLine (by simp)), fun t ht => ?_⟩
      have s5 : Same H4 (upd H4 t (.tup [v, .int 0])) := Same.new ht
      have fin : ∀ (nr : NoRow H4 v) (n : ∀ p, v = .ref p → p ≠ hd), Q (.ref t) (upd H4 t (.tup [v, .int 0])) := fun nr n =>
        k v none 0 _ t (.no (nr.same s5)) n rfl (((b1.trans (But.of (s2.trans s3))).trans b4).trans (But.of s5)) (ok4.same s5) upd_same
      simp only [List.mem_cons, List.not_mem_nil, or_false] at hv
      rcases hv with rfl | rfl | rfl | rfl | rfl
      · exact fin (.flat rfl) (fun p e => by cases e)
      · exact fin (.flat rfl) (fun p e => by cases e)
      · exact fin (.flat rfl) (fun p e => by cases e)
      · exact fin (.dT h24) (fun p e => by cases e; exact nd)
      · exact fin (.flat rfl) (fun p e => by cases e)
    refine iteF' (by simp [k0]) ⟨_, rfl, rfl, _, rfl, ?_⟩
    by_cases k1 : kind = 1
    · -- too long
      refine iteT' (by simp [k1]) ⟨_, rfl, _, _, rfl, rfl, _, rfl, by omega, by omega, fun D hD => ?_⟩
      refine lc_ranger (fun i l _ => l.length = i ∧ ∀ x ∈ l, ∃ z : Int, x = .int z) hD (by omega) ⟨rfl, fun x h => by cases h⟩ (fun _ _ _ _ _ h => h) (fun i l _ h => by rw [h.1]; exact Nat.le_refl _) ?_ ?_
      · rintro i H2 l hi s2 ⟨hl2, hx⟩ C1 C0 c1 c0
        refine ⟨rfl, ?_⟩
        refine ⟨_, rfl, .inl ⟨_, rfl, _, _, rfl, rfl, (show (0 : Int) < 3 by decide), c1 _ H2 (Same.refl H2) ⟨by rw [List.length_append, hl2]; rfl, fun x h => ?_⟩⟩⟩
        rcases List.mem_append.mp h with q | q
        · exact hx x q
        · exact ⟨_, List.mem_singleton.mp q⟩
      · rintro H2 l s2 h2 ⟨hl2, hx⟩
        refine ⟨Nat.le_of_lt (smallLine (by simp)), fun t ht => ?_⟩
        have s5 : Same H2 (upd H2 t (.tup [.ref D, .int 0])) := Same.new ht
        have hlen : l.length = most + 1 := by rw [hl2]; omega
        refine k (.ref D) (some l) 0 _ t (.row (.inl (s5 _ _ h2)) (fun x h => by obtain ⟨z, rfl⟩ := hx x h; exact Thing.int z) (by omega)) (fun p e => by cases e; exact (ok1.off hD).1) ?_ (b1.trans (But.of (s2.trans s5))) (ok1.same (s2.trans s5)) upd_same
        show rowIx l most = some 0
        unfold rowIx
        rw [if_pos (by omega)]
    refine iteF' (by simp [k1]) ?_
    -- a bad colour is put in
    refine ⟨_, rfl, a, _, rfl, .inl (SqL.of ha1), fun L hL => ?_⟩
    generalize hH2 : upd _ L _ = H2
    obtain ⟨s2, h2⟩ := got hH2 hL
    refine ⟨_, rfl, _, _, rfl, rfl, ((most - 1 : Nat) : Int), congrArg V.int (by omega), L, _, rfl, SqL.of h2, fun O hO => ?_⟩
    generalize hH3 : upd _ O _ = H3
    obtain ⟨s3, h3⟩ := got hH3 hO
    rw [cutK_take] at h3
    have e3 : (iv ns).take (most - 1) = iv (ns.take (most - 1)) := by unfold iv; rw [List.map_take]
    rw [e3] at h3
    have tn' : Tones (ns.take (most - 1)) := fun t h => tn t (List.mem_of_mem_take h)
    have ln' : (ns.take (most - 1)).length ≤ most - 1 := by rw [List.length_take]; omega
    generalize ns.take (most - 1) = ms at h3 tn' ln'
    have ok2 := ok1.same s2
    have ok3 := ok2.same s3
    have nO := (ok2.off hO).1
    have nO2 := (ok2.off hO).2
    refine ⟨_, rfl, _, rfl, O, _, rfl, .inl (SqL.of h3), _, _, rfl, rfl, hd, cells, _, rfl, ok3, by omega, by rw [iv_len]; omega, fun r H4 r0 r1 b4 ok4 => ?_⟩
    rw [iv_len] at r1
    obtain ⟨at_, rfl⟩ : ∃ at_ : Nat, r = at_ := ⟨r.toNat, by omega⟩
    have hat : at_ ≤ ms.length := by omega
    have h4 := b4 _ _ nO h3
    refine ⟨_, rfl, .inl ⟨rfl, _, SqL.of h4⟩, _, rfl, _, rfl, _, rfl, Nat.le_of_lt (smallLine (by simp)), fun p1 hp1 => ?_⟩
    generalize hH5 : upd _ p1 _ = H5
    obtain ⟨s5, h5⟩ := got hH5 hp1
    refine ⟨_, _, rfl, rfl, ⟨by decide, by decide, by decide⟩, Nat.le_of_lt (smallLine (by simp)), fun l hl => ?_⟩
    generalize hH6 : upd _ l _ = H6
    obtain ⟨s6, h6⟩ := got hH6 hl
    have ok5 := ok4.same s5
    refine ⟨hd, cells, l, _, rfl, ok5.same s6, h6, (ok5.off hl).1, by simp, by simp, fun b H7 hb b7 ok7 => ?_⟩
    have h7 := b7 _ _ nO (s6 _ _ (s5 _ _ h4))
    have hp7 : H7 p1 = some (.tup [.int 1]) := b7 _ _ (ok4.off hp1).1 (s6 _ _ h5)
    have hbT : Thing H7 b ∧ wholeB b 0 99 = false := by
      simp only [List.mem_cons, List.not_mem_nil, or_false] at hb
      rcases hb with rfl | rfl | rfl | rfl | rfl | rfl | rfl
      · exact ⟨.inl rfl, rfl⟩
      · exact ⟨.inl rfl, rfl⟩
      · exact ⟨.inl rfl, by decide⟩
      · exact ⟨.inl rfl, by decide⟩
      · exact ⟨.inl rfl, rfl⟩
      · exact ⟨.inr ⟨p1, _, rfl, hp7⟩, rfl⟩
      · exact ⟨.inl rfl, by decide⟩
    have b07 : But hd H H7 := ((((b1.trans (But.of (s2.trans s3))).trans b4).trans (But.of (s5.trans s6)))).trans b7
    refine ⟨O, _, _, _, rfl, rfl, h7, smallLine (by rw [iv_len]; omega), by omega, by omega, ?_⟩
    rw [Int.toNat_natCast]
    have hxl : ((iv ms).take at_).length = at_ := by rw [List.length_take, iv_len]; omega
    have hO1 : H O = none := by
      cases q : H O with
      | none => rfl
      | some u => rw [s2 _ _ (b1 _ _ nO q)] at hO; cases hO
    have h8 : upd H7 O (.lst ((iv ms).take at_ ++ [b] ++ (iv ms).drop at_)) O = _ := upd_same
    have t78 : Tk H7 (upd H7 O (.lst ((iv ms).take at_ ++ [b] ++ (iv ms).drop at_))) := Tk.put h7 fun _ z => by cases z
    have ok8 : HandOk hd cells (upd H7 O (.lst ((iv ms).take at_ ++ [b] ++ (iv ms).drop at_))) := ok7.out nO nO2
    have b08 : But hd H (upd H7 O (.lst ((iv ms).take at_ ++ [b] ++ (iv ms).drop at_))) := fun c u nc hc => by
      rw [upd_ne (fun e => by rw [e, hO1] at hc; cases hc)]
      exact b07 c u nc hc
    generalize upd H7 O (.lst ((iv ms).take at_ ++ [b] ++ (iv ms).drop at_)) = H8 at h8 t78 ok8 b08
    have bT8 : Thing H8 b := by
      rcases hbT.1 with q | ⟨x, xs, rfl, q⟩
      · exact .inl q
      · exact .inr ⟨x, xs, rfl, t78 _ _ q⟩
    have ivT : ∀ x ∈ iv ms, Thing H8 x := fun x hx => by
      obtain ⟨z, _, rfl⟩ := List.mem_map.mp hx
      exact Thing.int z
    have preW : ∀ x ∈ (iv ms).take at_, wholeB x 0 99 = true := fun x hx => tn'.whole x (List.mem_of_mem_take hx)
    have allT : ∀ x ∈ (iv ms).take at_ ++ [b] ++ (iv ms).drop at_, Thing H8 x := fun x hx => by
      rcases List.mem_append.mp hx with q | q
      · rcases List.mem_append.mp q with q | q
        · exact ivT x (List.mem_of_mem_take q)
        · rw [List.mem_singleton.mp q]
          exact bT8
      · exact ivT x (List.mem_of_mem_drop q)
    have lenX : ((iv ms).take at_ ++ [b] ++ (iv ms).drop at_).length = ms.length + 1 := by
      rw [List.length_append, List.length_append, hxl, List.length_drop, iv_len, List.length_singleton]
      omega
    have ixX : givenIx (some ((iv ms).take at_ ++ [b] ++ (iv ms).drop at_)) most = some at_ := by
      show rowIx _ most = some at_
      unfold rowIx
      rw [if_neg (by rw [lenX]; omega), List.append_assoc, List.singleton_append, badAt_pre preW hbT.2, hxl]
    have out : ∀ (σ6 : Option V) H9 t, Same H8 H9 → H9 t = some (.tup [.ref O, .int (at_ : Nat)]) → Q (.ref t) H9 := fun _ H9 t s9 h9 =>
      k (.ref O) (some ((iv ms).take at_ ++ [b] ++ (iv ms).drop at_)) at_ H9 t (.row (.inl (s9 _ _ h8)) (fun x hx => (allT x hx).same s9) (by rw [lenX]; omega)) (fun p e => by cases e; exact nO) ixX (b08.trans (But.of s9)) (ok8.same s9) h9
    have ret : tRet (tTup (tCons (tVar 5) (tCons (tVar 4) tNil))) { nx := fun x H' => Q V.non H', rt := Q } [some (.ref hd), some (.ref a), some (.int (most : Nat)), some (.int kind), some (.int (at_ : Nat)), some (.ref O), none] H8 :=
      ⟨_, rfl, _, rfl, Nat.le_of_lt (smallLine (by simp)), fun t ht => out none _ t (Same.new ht) upd_same⟩
    refine ⟨_, rfl, rfl, _, rfl, ?_⟩
    by_cases k3 : kind = 3
    · refine iteT' (by simp [k3]) ⟨_, rfl, _, _, rfl, rfl, _, rfl, ?_⟩
      by_cases ka : 0 < at_
      · refine iteT' (decide_eq_true (by omega)) ⟨_, rfl, _, rfl, ((at_ : Nat) : Int), rfl, O, _, rfl, SqL.of h8, fun L2 hL2 => ?_⟩
        generalize hH9 : upd _ L2 _ = H9
        obtain ⟨s9, h9⟩ := got hH9 hL2
        rw [cutK_take, List.append_assoc, List.take_append_of_le_length (by rw [hxl]; exact Nat.le_refl _), List.take_take, Nat.min_self] at h9
        refine ⟨Nat.le_of_lt (smallLine (by simp)), fun q hq => ?_⟩
        generalize hH10 : upd _ q _ = H10
        obtain ⟨s10, h10⟩ := got hH10 hq
        refine ⟨L2, q, _, _, rfl, rfl, s10 _ _ h9, h10, Nat.le_of_lt (smallLine (by rw [hxl]; simp; omega)), fun lt hlt => ?_⟩
        generalize hH11 : upd _ lt _ = H11
        obtain ⟨s11, h11⟩ := got hH11 hlt
        have ll : ((iv ms).take at_ ++ [V.int 1]).length = at_ + 1 := by rw [List.length_append, hxl]; rfl
        refine ⟨_, rfl, lt, _, rfl, .inl (SqL.of h11), _, rfl, _, _, rfl, rfl, _, rfl, ?_⟩
        rw [ll]
        by_cases kl : at_ + 1 < most
        · refine iteT' (decide_eq_true (by omega)) ⟨_, rfl, Nat.le_of_lt (smallLine (by simp)), fun q2 hq2 => ?_⟩
          generalize hH12 : upd _ q2 _ = H12
          obtain ⟨s12, h12⟩ := got hH12 hq2
          refine ⟨lt, q2, _, _, rfl, rfl, s12 _ _ h11, h12, Nat.le_of_lt (smallLine (by rw [ll]; simp; omega)), fun l3 hl3 => ?_⟩
          generalize hH13 : upd _ l3 _ = H13
          obtain ⟨s13, h13⟩ := got hH13 hl3
          refine ⟨l3, _, rfl, .inl ⟨SqL.of h13, fun tt htt => ?_⟩⟩
          generalize hH14 : upd _ tt _ = H14
          obtain ⟨s14, h14⟩ := got hH14 htt
          refine ⟨_, rfl, _, _, rfl, rfl, Nat.le_of_lt (smallLine (by simp)), fun t ht => ?_⟩
          have s15 : Same H14 (upd H14 t (.tup [.ref tt, .int ((at_ : Int) + 1)])) := Same.new ht
          have s8f : Same H8 (upd H14 t (.tup [.ref tt, .int ((at_ : Int) + 1)])) := ((((((s9.trans s10).trans s11).trans s12).trans s13).trans s14).trans s15)
          have ntt : tt ≠ hd := ((ok8.same (((((s9.trans s10).trans s11).trans s12).trans s13))).off htt).1
          refine k (.ref tt) (some ((iv ms).take at_ ++ [V.int 1] ++ [V.bl false])) (at_ + 1) _ t (.row (.inr (s15 _ _ h14)) (fun x hx => ?_) (by rw [List.length_append, ll]; simp; omega)) (fun p e => by cases e; exact ntt) ?_ (b08.trans (But.of s8f)) (ok8.same s8f) upd_same
          · rcases List.mem_append.mp hx with q | q
            · rcases List.mem_append.mp q with q | q
              · exact (ivT x (List.mem_of_mem_take q)).same s8f
              · rw [List.mem_singleton.mp q]
                exact Thing.int 1
            · rw [List.mem_singleton.mp q]
              exact .inl rfl
          · show rowIx _ most = some (at_ + 1)
            unfold rowIx
            rw [if_neg (by rw [List.length_append, ll]; simp; omega), badAt_pre (pre := (iv ms).take at_ ++ [V.int 1]) (fun x hx => ?_) rfl, ll]
            rcases List.mem_append.mp hx with q | q
            · exact preW x q
            · rw [List.mem_singleton.mp q]
              decide
        · refine iteF' (decide_eq_false (by omega)) ⟨_, rfl, O, _, rfl, .inl ⟨SqL.of (s11 _ _ (s10 _ _ (s9 _ _ h8))), fun tt htt => ?_⟩⟩
          generalize hH12 : upd _ tt _ = H12
          obtain ⟨s12, h12⟩ := got hH12 htt
          refine ⟨_, rfl, Nat.le_of_lt (smallLine (by simp)), fun t ht => ?_⟩
          have s13 : Same H12 (upd H12 t (.tup [.ref tt, .int (at_ : Int)])) := Same.new ht
          have s8f : Same H8 (upd H12 t (.tup [.ref tt, .int (at_ : Int)])) := (((s9.trans s10).trans s11).trans s12).trans s13
          have ntt : tt ≠ hd := ((ok8.same ((s9.trans s10).trans s11)).off htt).1
          exact k (.ref tt) (some ((iv ms).take at_ ++ [b] ++ (iv ms).drop at_)) at_ _ t (.row (.inr (s13 _ _ h12)) (fun x hx => (allT x hx).same s8f) (by rw [lenX]; omega)) (fun p e => by cases e; exact ntt) ixX (b08.trans (But.of s8f)) (ok8.same s8f) upd_same
      · exact iteF' (decide_eq_false (by omega)) ret
    · exact iteF' (by simp [k3]) (iteF' rfl ret)
end
end K21
end
section
set_option Elab.async false
set_option linter.all false
set_option maxRecDepth 100000
set_option maxHeartbeats 4000000
/-! the law's defs 14: bad_row, bad_rows -/
namespace K21
open PySem PySem.Spec PyProof.Rows L2
/-- what stands for a first colour and is none -/
def Odd (H : Hp) (v : V) : Prop := (∃ n : Int, v = .int n ∧ wholeB (.int n) 0 99 = false) ∨ v = .bl true ∨ v = .str "1" ∨ ∃ a, v = .ref a ∧ H a = some (.tup [.int 1])
theorem Odd.same {H H' : Hp} {v : V} (o : Odd H v) (s : Same H H') : Odd H' v := by
  rcases o with h | h | h | ⟨a, e, h⟩
  · exact .inl h
  · exact .inr (.inl h)
  · exact .inr (.inr (.inl h))
  · exact .inr (.inr (.inr ⟨a, e, s _ _ h⟩))
theorem Odd.but {hd cells : Addr} {H H' : Hp} {v : V} (o : Odd H v) (ok : HandOk hd cells H) (b : But hd H H') : Odd H' v := by
  rcases o with h | h | h | ⟨a, e, h⟩
  · exact .inl h
  · exact .inr (.inl h)
  · exact .inr (.inr (.inl h))
  · obtain ⟨_, _, _, _, h1, _⟩ := ok
    exact .inr (.inr (.inr ⟨a, e, b _ _ (fun e => by rw [e, h1] at h; cases h) h⟩))
theorem Odd.facts {H : Hp} {v : V} (o : Odd H v) : Thing H v ∧ v ≠ .non ∧ wholeB v 0 99 = false := by
  rcases o with ⟨n, rfl, h⟩ | rfl | rfl | ⟨a, rfl, h⟩
  · exact ⟨.inl rfl, (fun e => by cases e), h⟩
  · exact ⟨.inl rfl, (fun e => by cases e), rfl⟩
  · exact ⟨.inl rfl, (fun e => by cases e), rfl⟩
  · exact ⟨.inr ⟨a, _, rfl, h⟩, (fun e => by cases e), rfl⟩
theorem Odd.data {K : PySem.W.Frag} {H : Hp} {v : V} (o : Odd H v) : ∃ d : PyData, (∀ H', Same H H' → Dp K H' v d) ∧ d.canLay0 = true ∧ d.depth ≤ 1 := by
  rcases o with ⟨n, rfl, h⟩ | rfl | rfl | ⟨a, rfl, h⟩
  · exact ⟨.int n, fun H' s => .int n, rfl, Nat.zero_le _⟩
  · exact ⟨.bool true, fun H' s => .bl true, rfl, Nat.zero_le _⟩
  · exact ⟨.str "1", fun H' s => .str "1", by decide +kernel, Nat.zero_le _⟩
  · exact ⟨.tuple [.int 1], fun H' s => .tup (SqT.of (s _ _ h)) (.cons (.int 1) .nil), rfl, Nat.le_refl 1⟩
theorem sh_tag {tag : Str} {d : PyData} (h : PyData.canLay0 (.str tag) = true) (hd : d.canLay0 = true) (hp : d.depth ≤ 1) : SeqAt.shaped (.tuple [.str tag, d]) = true := by
  unfold SeqAt.shaped
  have e1 : PyData.canLay0 (.tuple [.str tag, d]) = true := by
    show (PyData.canLay0 (.str tag) && (PyData.canLay0 d && true)) = true
    rw [h, hd]
    rfl
  have e2 : PyData.depth (.tuple [.str tag, d]) ≤ 64 := by
    show max 0 (max d.depth 0) + 1 ≤ 64
    omega
  rw [e1, decide_eq_true e2]
  rfl
theorem eqv_tag {tag : Str} {d : PyData} (h : PyData.canLay0 (.str tag) = true) (hd : d.canLay0 = true) : PyData.eqv (.tuple [.str tag, d]) (.tuple [.str tag, d]) = true := by
  refine PySem.SeqAt.eqv_refl _ ?_
  show (PyData.canLay0 (.str tag) && (PyData.canLay0 d && true)) = true
  rw [h, hd]
  rfl
section
variable {K : PySem.W.Frag} {H : Hp} {t u : Addr} {tag : Str} {val : V} {d : PyData} {Q : VK}
theorem ne_tag (ht : H t = some (.tup [.str tag, val])) (hu : H u = some (.tup [.str tag, val])) (dp : Dp K H val d) (h : PyData.canLay0 (.str tag) = true) (hd : d.canLay0 = true) (hp : d.depth ≤ 1) (q : Q (.bl false) H) : rNeD K (.ref t) (.ref u) H Q :=
  ⟨_, _, .tup (SqT.of ht) (.cons (.str tag) (.cons dp .nil)), .tup (SqT.of hu) (.cons (.str tag) (.cons dp .nil)), sh_tag h hd hp, sh_tag h hd hp, by rw [eqv_tag h hd]; exact q⟩
theorem eq_tag (ht : H t = some (.tup [.str tag, val])) (hu : H u = some (.tup [.str tag, val])) (dp : Dp K H val d) (h : PyData.canLay0 (.str tag) = true) (hd : d.canLay0 = true) (hp : d.depth ≤ 1) (q : Q (.bl true) H) : rEqD K (.ref t) (.ref u) H Q :=
  ⟨_, _, .tup (SqT.of ht) (.cons (.str tag) (.cons dp .nil)), .tup (SqT.of hu) (.cons (.str tag) (.cons dp .nil)), sh_tag h hd hp, sh_tag h hd hp, by rw [eqv_tag h hd]; exact q⟩
end
def oddE : TE := tCall spPick [] E0 (tCons (tVar 0) (tCons (tLst (tCons (tUn (rU fun i => V.int (-i)) (tC (V.int 1))) (tCons (tC (V.int 100)) (tCons (tC (V.bl true)) (tCons (tC (V.str "1")) (tCons (tTup (tCons (tC (V.int 1)) tNil)) (tCons (tOp (rI CPow fun i j => V.int (i ^ j.toNat)) (tC (V.int 10)) (tC (V.int 20))) tNil))))))) tNil))
theorem odd_go {hd cells : Addr} {σ : L2.St} {H : Hp} {Q : VK} (e0 : σ[0]? = some (some (V.ref hd))) (ok : HandOk hd cells H) (k : ∀ v H', Odd H' v → But hd H H' → HandOk hd cells H' → Q v H') : oddE σ H Q := by
  refine ⟨_, e0, _, rfl, Nat.le_of_lt (smallLine (by simp)), fun p1 hp1 => ?_⟩
  generalize hH5 : upd _ p1 _ = H5
  obtain ⟨s5, h5⟩ := got hH5 hp1
  refine ⟨_, _, rfl, rfl, ⟨by decide, by decide, by decide⟩, Nat.le_of_lt (smallLine (by simp)), fun l hl => ?_⟩
  generalize hH6 : upd _ l _ = H6
  obtain ⟨s6, h6⟩ := got hH6 hl
  have ok5 := ok.same s5
  refine ⟨hd, cells, l, _, rfl, ok5.same s6, h6, (ok5.off hl).1, by simp, by simp, fun b H7 hb b7 ok7 => k b H7 ?_ ((But.of (s5.trans s6)).trans b7) ok7⟩
  have hp7 : H7 p1 = some (.tup [.int 1]) := b7 _ _ (ok.off hp1).1 (s6 _ _ h5)
  simp only [List.mem_cons, List.not_mem_nil, or_false] at hb
  rcases hb with rfl | rfl | rfl | rfl | rfl | rfl
  · exact .inl ⟨_, rfl, by decide⟩
  · exact .inl ⟨_, rfl, by decide⟩
  · exact .inr (.inl rfl)
  · exact .inr (.inr (.inl rfl))
  · exact .inr (.inr (.inr ⟨p1, rfl, hp7⟩))
  · exact .inl ⟨_, rfl, by decide⟩
theorem odd_seq {hd cells : Addr} {σ : L2.St} {H : Hp} {D : Ends} {u : TS} {n : Nat} (e0 : σ[0]? = some (some (V.ref hd))) (ok : HandOk hd cells H) (k : ∀ v H', Odd H' v → But hd H H' → HandOk hd cells H' → u D (σ.set n (some v)) H') : tSeq (tAsg oddE (gName n)) u D σ H :=
  odd_go (Q := fun v H1 => u D (σ.set n (some v)) H1) e0 ok k
section
variable {P : Program} {w : World} {K : PySem.W.Frag} {mg : Str → Option Value} {base : Heap}
theorem scLawBadRow : FnScope ["_law_hand_here", "_law_bad", "_law_index", "_law_worse", "_law_later", "_law_odd"] ["_law_hand_here"] (defScope sLawBadRow) := ⟨rfl, rfl, rfl, by decide +kernel, rfl, by decide +kernel, by decide +kernel⟩
theorem good_badRow (T : Txt K mg) : Good P w K mg base CX0 8 "_law_bad_row" ["_law_hand_here"] [] spHandTrue := by
  have G_law_no_row := good_noRow (P := P) (w := w) (base := base) T
  have G_law_pick := good_pick (P := P) (w := w) (base := base) T
  have G_law_asked := good_asked (P := P) (w := w) (base := base) T
  refine good0 T.d_law_bad_row T.g_law_bad_row scLawBadRow (fun _ _ _ _ _ _ us hl => match us, hl with | [_], _ => rfl) (fun vs H Q E h => ?_) (fun cdv A outer s H vs Q E hr h => ?_)
  · obtain ⟨hd, cells, rfl, _⟩ := h
    rfl
  · obtain ⟨hd, cells, rfl, ok, k⟩ := h
    refine ⟨_, (pss_cons
    (ps_asg (pe_go G_law_no_row hr (by decide) rfl (pa_cons (pv 0) (pa_cons (pe_lst (pa_cons (pe_int) (pa_cons (pe_int) (pa_cons (pe_int) pa_nil)))) (pa_cons (pe_int) pa_nil)))) (pg_tup rfl (pgs_cons (pg_name (i := 1) scLawBadRow.nd rfl (Or.inl rfl)) (pgs_cons (pg_name (i := 2) scLawBadRow.nd rfl (Or.inl rfl)) pgs_nil))))
    (pss_cons
    (ps_asg (pe_go G_law_no_row hr (by decide) rfl (pa_cons (pv 0) (pa_cons (pe_lst (pa_cons (pe_int) (pa_cons (pe_int) pa_nil))) (pa_cons (pe_int) pa_nil)))) (pg_tup rfl (pgs_cons (pg_name (i := 3) scLawBadRow.nd rfl (Or.inl rfl)) (pgs_cons (pg_name (i := 4) scLawBadRow.nd rfl (Or.inl rfl)) pgs_nil))))
    (pss_cons
    (ps_set (i := 5) scLawBadRow.nd rfl (Or.inl rfl) (pe_go G_law_pick hr (by decide) rfl (pa_cons (pv 0) (pa_cons (pe_lst (pa_cons (pe_un un_neg (pe_int)) (pa_cons (pe_int) (pa_cons (pe_bl) (pa_cons (pe_str) (pa_cons (pe_tup (pa_cons (pe_int) pa_nil)) (pa_cons (pe_op op_pow (pe_int) (pe_int)) pa_nil))))))) pa_nil))))
    (pss_cons
    (ps_if (PW.pt (pw_or (pt_cmpR (op_neD (hu64 hr)) (pe_go G_law_asked hr (by decide) rfl (pa_cons (pe_int) (pa_cons (pv 1) (pa_cons (pv 3) (pa_cons (pv 5) pa_nil))))) (pe_tup (pa_cons (pe_str) (pa_cons (pv 2) pa_nil))) (nomark _)) (pw_or1 (pt_cmpR (op_neD (hu64 hr)) (pe_go G_law_asked hr (by decide) rfl (pa_cons (pe_int) (pa_cons (pe_lst (pa_cons (pe_int) (pa_cons (pe_int) pa_nil))) (pa_cons (pv 3) (pa_cons (pv 5) pa_nil))))) (pe_tup (pa_cons (pe_str) (pa_cons (pv 4) pa_nil))) (nomark _))))) (pss_one
      (ps_ret (pe_bl))) pss_nil)
    (pss_one
    (ps_ret (pe_cmpR (op_eqD (hu64 hr)) (pe_go G_law_asked hr (by decide) rfl (pa_cons (pe_int) (pa_cons (pe_lst (pa_cons (pe_int) (pa_cons (pe_int) pa_nil))) (pa_cons (pe_tup (pa_cons (pe_int) pa_nil)) (pa_cons (pv 5) pa_nil))))) (pe_tup (pa_cons (pe_str) (pa_cons (pv 5) pa_nil))) (nomark _)))))))), ?_⟩
    -- the first bad row
    refine ⟨_, rfl, Nat.le_of_lt (smallLine (by simp)), fun q1 hq1 => ?_⟩
    generalize hH1 : upd _ q1 _ = H1
    obtain ⟨s1, h1⟩ := got hH1 hq1
    refine ⟨hd, cells, q1, [1, 2, 0], 40, rfl, ok.same s1, h1, (ok.off hq1).1, (by intro t ht; simp at ht; omega), by decide, by decide, by decide, fun bad o1 i1 H2 t1 g1 n1 e1 b2 ok2 ht1 => ?_⟩
    refine ⟨t1, _, rfl, SqT.of ht1, rfl, _, _, rfl, _, _, rfl, rfl, ?_⟩
    -- the second
    refine ⟨_, rfl, Nat.le_of_lt (smallLine (by simp)), fun q2 hq2 => ?_⟩
    generalize hH3 : upd _ q2 _ = H3
    obtain ⟨s3, h3⟩ := got hH3 hq2
    have ok3 := ok2.same s3
    refine ⟨hd, cells, q2, [2, 1], 40, rfl, ok3, h3, (ok2.off hq2).1, (by intro t ht; simp at ht; omega), by decide, by decide, by decide, fun worse o2 i2 H4 t2 g2 n2 e2 b4 ok4 ht2 => ?_⟩
    refine ⟨t2, _, rfl, SqT.of ht2, rfl, _, _, rfl, _, _, rfl, rfl, ?_⟩
    have g1' := (g1.same s3).but n1 ok3 b4
    refine odd_go rfl ok4 fun odd H5 hodd b5 ok5 => ?_
    have g1'' := g1'.but n1 ok4 b5
    have g2'' := g2.but n2 ok4 b5
    obtain ⟨f1, f2, f3⟩ := hodd.facts
    have b05 : But hd H H5 := ((((But.of s1).trans b2).trans (But.of s3)).trans b4).trans b5
    -- asked with both
    refine ⟨_, rfl, _, rfl, _, rfl, "row", .int (i1 : Nat), .inl ⟨bad, worse, odd, o1, o2, rfl, g1'', g2'', f1, f2, f3, .inl ⟨i1, e1, rfl, rfl⟩⟩, fun H6 t6 s6 h6 => ?_⟩
    refine ⟨_, rfl, Nat.le_of_lt (smallLine (by simp)), fun t7 ht7 => ?_⟩
    generalize hH7 : upd _ t7 _ = H7
    obtain ⟨s7, h7⟩ := got hH7 ht7
    refine ne_tag (s7 _ _ h6) h7 (.int _) (by decide +kernel) rfl (Nat.zero_le _) ⟨_, rfl, iteF' rfl ?_⟩
    have s57 := s6.trans s7
    -- asked with a good one first
    refine ⟨Nat.le_of_lt (smallLine (by simp)), fun q8 hq8 => ?_⟩
    generalize hH8 : upd _ q8 _ = H8
    obtain ⟨s8, h8⟩ := got hH8 hq8
    have s58 := s57.trans s8
    have tn12 : Tones [1, 2] := by intro t ht; simp at ht; omega
    have go12 : givenIx (some (iv [1, 2])) 40 = none := given_tones tn12 (by decide)
    refine ⟨_, rfl, _, rfl, "row", .int (i2 : Nat), .inl ⟨.ref q8, worse, odd, some (iv [1, 2]), o2, rfl, given_row (.inl h8) (by decide), g2''.same s58, f1.same s58, f2, f3, .inr (.inl ⟨go12, i2, e2, rfl, rfl⟩)⟩, fun H9 t9 s9 h9 => ?_⟩
    refine ⟨_, rfl, Nat.le_of_lt (smallLine (by simp)), fun t10 ht10 => ?_⟩
    generalize hH10 : upd _ t10 _ = H10
    obtain ⟨s10, h10⟩ := got hH10 ht10
    refine ne_tag (s10 _ _ h9) h10 (.int _) (by decide +kernel) rfl (Nat.zero_le _) ⟨_, rfl, iteF' rfl ?_⟩
    have s510 := (s58.trans s9).trans s10
    -- asked with two good ones
    refine ⟨Nat.le_of_lt (smallLine (by simp)), fun q11 hq11 => ?_⟩
    generalize hH11 : upd _ q11 _ = H11
    obtain ⟨s11, h11⟩ := got hH11 hq11
    refine ⟨Nat.le_of_lt (smallLine (by simp)), fun q12 hq12 => ?_⟩
    generalize hH12 : upd _ q12 _ = H12
    obtain ⟨s12, h12⟩ := got hH12 hq12
    have s512 := (s510.trans s11).trans s12
    have tn1 : Tones [1] := by intro t ht; simp at ht; omega
    have go1 : givenIx (some (iv [1])) 40 = none := given_tones tn1 (by decide)
    refine ⟨_, rfl, "colour", odd, .inl ⟨.ref q11, .ref q12, odd, some (iv [1, 2]), some (iv [1]), rfl, given_row (.inl (s12 _ _ h11)) (by decide), given_row (.inr h12) (by decide), f1.same s512, f2, f3, .inr (.inr ⟨go12, go1, rfl, rfl⟩)⟩, fun H13 t13 s13 h13 => ?_⟩
    refine ⟨_, rfl, Nat.le_of_lt (smallLine (by simp)), fun t14 ht14 => ?_⟩
    generalize hH14 : upd _ t14 _ = H14
    obtain ⟨s14, h14⟩ := got hH14 ht14
    have s514 := (s512.trans s13).trans s14
    obtain ⟨d, dd, d1, d2⟩ := hodd.data (K := K)
    exact eq_tag (s14 _ _ h13) h14 (dd H14 s514) (by decide +kernel) d1 d2 (k H14 (b05.trans (But.of s514)) (ok5.same s514))
end
end K21
end
section
set_option Elab.async false
set_option linter.all false
set_option maxRecDepth 100000
set_option maxHeartbeats 4000000
/-! the law's defs 15: bad_rows -/
namespace K21
open PySem PySem.Spec PyProof.Rows L2
def thingE : TE := tCall spPick [] E0 (tCons (tVar 0) (tCons (tLst (tCons (tC V.non) (tCons (tC (V.int 3)) (tCons (tC (V.str "12")) (tCons (tTup tNil) (tCons (tLst tNil) (tCons (tLst (tCons (tLst tNil) (tCons (tLst tNil) (tCons (tLst tNil) (tCons (tLst tNil) tNil))))) (tCons (tTup (tCons (tTup (tCons (tC (V.int 1)) tNil)) (tCons (tTup (tCons (tC (V.int 2)) tNil)) (tCons (tTup (tCons (tC (V.int 3)) tNil)) (tCons (tTup (tCons (tC (V.int 1)) tNil)) tNil))))) tNil)))))))) tNil))
theorem four {H : Hp} {xs : List V} {os : List (Option (List V))} {x0 x1 x2 x3 : V} {o0 o1 o2 o3 : Option (List V)} (e1 : xs = [x0, x1, x2, x3]) (e2 : os = [o0, o1, o2, o3]) (g0 : Given H x0 o0) (g1 : Given H x1 o1) (g2 : Given H x2 o2) (g3 : Given H x3 o3) : ∀ (j : Nat) x o, xs[j]? = some x → os[j]? = some o → Given H x o := by
  subst e1 e2
  intro j x o h1 h2
  match j, h1, h2 with
  | 0, h1, h2 => cases h1; cases h2; exact g0
  | 1, h1, h2 => cases h1; cases h2; exact g1
  | 2, h1, h2 => cases h1; cases h2; exact g2
  | 3, h1, h2 => cases h1; cases h2; exact g3
  | n + 4, h1, h2 => cases h1
theorem thing_go {hd cells : Addr} {σ : L2.St} {H : Hp} {Q : VK} (e0 : σ[0]? = some (some (V.ref hd))) (ok : HandOk hd cells H) (k : ∀ v o H', GivenS H' v o → shortIx o = some 0 → But hd H H' → HandOk hd cells H' → Q v H') : thingE σ H Q := by
  refine ⟨_, e0, Nat.zero_le _, fun a1 ha1 => ?_⟩
  generalize hH1 : upd _ a1 _ = H1
  obtain ⟨s1, h1⟩ := got hH1 ha1
  refine ⟨Nat.zero_le _, fun a2 ha2 => ?_⟩
  generalize hH2 : upd _ a2 _ = H2
  obtain ⟨s2, h2⟩ := got hH2 ha2
  refine ⟨Nat.zero_le _, fun b1 hb1 => ?_⟩
  generalize hH3 : upd _ b1 _ = H3
  obtain ⟨s3, h3⟩ := got hH3 hb1
  refine ⟨Nat.zero_le _, fun b2 hb2 => ?_⟩
  generalize hH4 : upd _ b2 _ = H4
  obtain ⟨s4, h4⟩ := got hH4 hb2
  refine ⟨Nat.zero_le _, fun b3 hb3 => ?_⟩
  generalize hH5 : upd _ b3 _ = H5
  obtain ⟨s5, h5⟩ := got hH5 hb3
  refine ⟨Nat.zero_le _, fun b4 hb4 => ?_⟩
  generalize hH6 : upd _ b4 _ = H6
  obtain ⟨s6, h6⟩ := got hH6 hb4
  refine ⟨Nat.le_of_lt (smallLine (by simp)), fun a3 ha3 => ?_⟩
  generalize hH7 : upd _ a3 _ = H7
  obtain ⟨s7, h7⟩ := got hH7 ha3
  refine ⟨Nat.le_of_lt (smallLine (by simp)), fun c1 hc1 => ?_⟩
  generalize hH8 : upd _ c1 _ = H8
  obtain ⟨s8, h8⟩ := got hH8 hc1
  refine ⟨Nat.le_of_lt (smallLine (by simp)), fun c2 hc2 => ?_⟩
  generalize hH9 : upd _ c2 _ = H9
  obtain ⟨s9, h9⟩ := got hH9 hc2
  refine ⟨Nat.le_of_lt (smallLine (by simp)), fun c3 hc3 => ?_⟩
  generalize hH10 : upd _ c3 _ = H10
  obtain ⟨s10, h10⟩ := got hH10 hc3
  refine ⟨Nat.le_of_lt (smallLine (by simp)), fun c4 hc4 => ?_⟩
  generalize hH11 : upd _ c4 _ = H11
  obtain ⟨s11, h11⟩ := got hH11 hc4
  refine ⟨Nat.le_of_lt (smallLine (by simp)), fun a4 ha4 => ?_⟩
  generalize hH12 : upd _ a4 _ = H12
  obtain ⟨s12, h12⟩ := got hH12 ha4
  refine ⟨Nat.le_of_lt (smallLine (by simp)), fun l hl => ?_⟩
  generalize hH13 : upd _ l _ = H13
  obtain ⟨s13, h13⟩ := got hH13 hl
  have t12 := s12.trans s13
  have t11 := s11.trans t12
  have t10 := s10.trans t11
  have t9 := s9.trans t10
  have t8 := s8.trans t9
  have t7 := s7.trans t8
  have t6 := s6.trans t7
  have t5 := s5.trans t6
  have t4 := s4.trans t5
  have t3 := s3.trans t4
  have t2 := s2.trans t3
  have t1 := s1.trans t2
  have ok1 := ok.same s1
  have ok2 := ok1.same s2
  have ok3 := ok2.same s3
  have ok4 := ok3.same s4
  have ok5 := ok4.same s5
  have ok6 := ok5.same s6
  have ok7 := ok6.same s7
  have ok8 := ok7.same s8
  have ok9 := ok8.same s9
  have ok10 := ok9.same s10
  have ok11 := ok10.same s11
  have ok12 := ok11.same s12
  refine ⟨hd, cells, l, _, rfl, ok12.same s13, h13, (ok12.off hl).1, by simp, by simp, fun v H14 hv b14 ok14 => ?_⟩
  have bt : But hd H H14 := (But.of t1).trans b14
  simp only [List.mem_cons, List.not_mem_nil, or_false] at hv
  rcases hv with rfl | rfl | rfl | rfl | rfl | rfl | rfl
  · exact k _ none H14 (.no (.flat rfl)) rfl bt ok14
  · exact k _ none H14 (.no (.flat rfl)) rfl bt ok14
  · exact k _ none H14 (.no (.flat rfl)) rfl bt ok14
  · exact k _ (some []) H14 (.rows (.inr (b14 _ _ (ok.off ha1).1 (t2 _ _ h1))) rfl (fun j x o h => by cases h) (Nat.zero_le _)) rfl bt ok14
  · exact k _ (some []) H14 (.rows (.inl (b14 _ _ (ok1.off ha2).1 (t3 _ _ h2))) rfl (fun j x o h => by cases h) (Nat.zero_le _)) rfl bt ok14
  · refine k _ (some [some [], some [], some [], some []]) H14 (.rows (.inl (b14 _ _ (ok6.off ha3).1 (t8 _ _ h7))) rfl (four rfl rfl ?_ ?_ ?_ ?_) (by decide)) rfl bt ok14
    · exact given_row (ns := []) (.inl (b14 _ _ (ok2.off hb1).1 (t4 _ _ h3))) (by decide)
    · exact given_row (ns := []) (.inl (b14 _ _ (ok3.off hb2).1 (t5 _ _ h4))) (by decide)
    · exact given_row (ns := []) (.inl (b14 _ _ (ok4.off hb3).1 (t6 _ _ h5))) (by decide)
    · exact given_row (ns := []) (.inl (b14 _ _ (ok5.off hb4).1 (t7 _ _ h6))) (by decide)
  · refine k _ (some [some (iv [1]), some (iv [2]), some (iv [3]), some (iv [1])]) H14 (.rows (.inr (b14 _ _ (ok11.off ha4).1 (s13 _ _ h12))) rfl (four rfl rfl ?_ ?_ ?_ ?_) (by simp)) rfl bt ok14
    · exact given_row (ns := [1]) (.inr (b14 _ _ (ok7.off hc1).1 (t9 _ _ h8))) (by decide)
    · exact given_row (ns := [2]) (.inr (b14 _ _ (ok8.off hc2).1 (t10 _ _ h9))) (by decide)
    · exact given_row (ns := [3]) (.inr (b14 _ _ (ok9.off hc3).1 (t11 _ _ h10))) (by decide)
    · exact given_row (ns := [1]) (.inr (b14 _ _ (ok10.off hc4).1 (t12 _ _ h11))) (by decide)
theorem LstI.but {hd cells : Addr} {H H' : Hp} {v : V} {ns : List Int} (i : LstI H v ns) (ok : HandOk hd cells H) (b : But hd H H') : LstI H' v ns := by
  obtain ⟨a, e, h⟩ := i
  exact ⟨a, e, b _ _ (List_ne ok h) h⟩
theorem rows_given {H : Hp} {rs : List V} {nss : Rws} (al : Al (LstI H) rs nss) (hns : ∀ ns ∈ nss, ns.length ≤ 12 ∧ Tones ns) : ∀ (j : Nat) x o, rs[j]? = some x → (nss.map fun ns => some (iv ns))[j]? = some o → Given H x o := fun j x o h1 h2 => by
  obtain ⟨ns, hn, a, rfl, ha⟩ := al.get h1
  rw [List.getElem?_map, hn] at h2
  cases h2
  have := (hns ns (List.mem_of_getElem? hn)).1
  exact given_row (.inl ha) (by omega)
theorem rows_ok {nss : Rws} (h1 : 1 ≤ nss.length) (h3 : nss.length ≤ 3) (hns : ∀ ns ∈ nss, ns.length ≤ 12 ∧ Tones ns) : shortIx (some (nss.map fun ns => some (iv ns))) = none := by
  show (if (nss.map fun ns => some (iv ns)).length = 0 ∨ 3 < (nss.map fun ns => some (iv ns)).length then some 0 else badRowAt (nss.map fun ns => some (iv ns))) = none
  rw [List.length_map, if_neg (by omega)]
  refine badRowAt_none fun j o hj ho => ?_
  rw [List.getElem?_map] at ho
  cases q : nss[j]? with
  | none => rw [q] at ho; cases ho
  | some ns =>
    rw [q] at ho
    cases ho
    obtain ⟨h1, h2⟩ := hns ns (List.mem_of_getElem? q)
    exact given_tones h2 h1
section
variable {P : Program} {w : World} {K : PySem.W.Frag} {mg : Str → Option Value} {base : Heap}
theorem scLawBadRows : FnScope ["_law_hand_here", "_law_rows", "_law_odd", "_law_thing", "_law_spoilt", "_law_at"] ["_law_hand_here", "_law_rows"] (defScope sLawBadRows) := ⟨rfl, rfl, rfl, by decide +kernel, rfl, by decide +kernel, by decide +kernel⟩
def spBadRows : Sp := fun vs H Q _ => ∃ (hd cells R : Addr) (rs : List V) (nss : Rws), vs = [.ref hd, .ref R] ∧ HandOk hd cells H ∧ H R = some (.lst rs) ∧ R ≠ hd ∧ Al (LstI H) rs nss ∧ 1 ≤ nss.length ∧ nss.length ≤ 3 ∧ (∀ ns ∈ nss, ns.length ≤ 12 ∧ Tones ns) ∧ ∀ H', But hd H H' → HandOk hd cells H' → Q (.bl true) H'
theorem good_badRows (T : Txt K mg) : Good P w K mg base CX0 8 "_law_bad_rows" ["_law_hand_here", "_law_rows"] [] spBadRows := by
  have G_law_no_row := good_noRow (P := P) (w := w) (base := base) T
  have G_law_take := good_take (P := P) (w := w) (base := base) T
  have G_law_pick := good_pick (P := P) (w := w) (base := base) T
  have G_law_asked := good_asked (P := P) (w := w) (base := base) T
  refine good0 T.d_law_bad_rows T.g_law_bad_rows scLawBadRows (fun _ _ _ _ _ _ us hl => match us, hl with | [_, _], _ => rfl) (fun vs H Q E h => ?_) (fun cdv A outer s H vs Q E hr h => ?_)
  · obtain ⟨hd, cells, R, rs, nss, rfl, _⟩ := h
    rfl
  · obtain ⟨hd, cells, R, rs, nss, rfl, ok, hR, nR, al, hl1, hl3, hns, k⟩ := h
    refine ⟨_, (pss_cons
    (ps_set (i := 2) scLawBadRows.nd rfl (Or.inl rfl) (pe_go G_law_pick hr (by decide) rfl (pa_cons (pv 0) (pa_cons (pe_lst (pa_cons (pe_un un_neg (pe_int)) (pa_cons (pe_int) (pa_cons (pe_bl) (pa_cons (pe_str) (pa_cons (pe_tup (pa_cons (pe_int) pa_nil)) (pa_cons (pe_op op_pow (pe_int) (pe_int)) pa_nil))))))) pa_nil))))
    (pss_cons
    (ps_set (i := 3) scLawBadRows.nd rfl (Or.inl rfl) (pe_go G_law_pick hr (by decide) rfl (pa_cons (pv 0) (pa_cons (pe_lst (pa_cons (pe_non) (pa_cons (pe_int) (pa_cons (pe_str) (pa_cons (pe_tup pa_nil) (pa_cons (pe_lst pa_nil) (pa_cons (pe_lst (pa_cons (pe_lst pa_nil) (pa_cons (pe_lst pa_nil) (pa_cons (pe_lst pa_nil) (pa_cons (pe_lst pa_nil) pa_nil))))) (pa_cons (pe_tup (pa_cons (pe_tup (pa_cons (pe_int) pa_nil)) (pa_cons (pe_tup (pa_cons (pe_int) pa_nil)) (pa_cons (pe_tup (pa_cons (pe_int) pa_nil)) (pa_cons (pe_tup (pa_cons (pe_int) pa_nil)) pa_nil))))) pa_nil)))))))) pa_nil))))
    (pss_cons
    (ps_if (PW.pt (pw_or (pt_cmpR (op_neD (hu64 hr)) (pe_go G_law_asked hr (by decide) rfl (pa_cons (pe_int) (pa_cons (pv 3) (pa_cons (pe_non) (pa_cons (pv 2) pa_nil))))) (pe_tup (pa_cons (pe_str) (pa_cons (pe_int) pa_nil))) (nomark _)) (pw_or1 (pt_cmpR (op_neD (hu64 hr)) (pe_go G_law_asked hr (by decide) rfl (pa_cons (pe_int) (pa_cons (pv 1) (pa_cons (pe_non) (pa_cons (pv 2) pa_nil))))) (pe_tup (pa_cons (pe_str) (pa_cons (pv 2) pa_nil))) (nomark _))))) (pss_one
      (ps_ret (pe_bl))) pss_nil)
    (pss_cons
    (ps_set (i := 4) scLawBadRows.nd rfl (Or.inl rfl) (pe_callTy call_list_of (by rfl) T.n_list (by decide +kernel) (pa_cons (pv 1) pa_nil)))
    (pss_cons
    (ps_set (i := 5) scLawBadRows.nd rfl (Or.inl rfl) (pe_go G_law_take hr (by decide) rfl (pa_cons (pv 0) (pa_cons (pe_callB call_len_seq (by rfl) T.n_len PySem.boot_len (pa_cons (pv 1) pa_nil)) pa_nil))))
    (pss_cons
    (ps_asg (pe_ix ix_tup (pe_go G_law_no_row hr (by decide) rfl (pa_cons (pv 0) (pa_cons (pe_ix ix_list (pv 1) (pv 5) (fun _ _ => rfl)) (pa_cons (pe_int) pa_nil)))) (pe_int) (fun _ _ => rfl)) (pg_sub (pv 4) (pv 5) set_list))
    (pss_one
    (ps_ret (pe_cmpR (op_eqD (hu64 hr)) (pe_go G_law_asked hr (by decide) rfl (pa_cons (pe_int) (pa_cons (pv 4) (pa_cons (pe_non) (pa_cons (pv 2) pa_nil))))) (pe_tup (pa_cons (pe_str) (pa_cons (pv 5) pa_nil))) (nomark _)))))))))), ?_⟩
    refine odd_seq rfl ok fun odd H1 hodd b1 ok1 => ?_
    have al1 := al.imp fun v x h => h.but ok b1
    have hR1 := b1 _ _ nR hR
    refine thing_go rfl ok1 fun thing o H2 gs sx b2 ok2 => ?_
    have al2 := al1.imp fun v x h => h.but ok1 b2
    have hR2 := b2 _ _ nR hR1
    have hodd2 := hodd.but ok1 b2
    obtain ⟨f1, f2, f3⟩ := hodd2.facts
    refine ⟨_, rfl, _, rfl, "rows", .int (0 : Nat), .inr ⟨thing, odd, o, rfl, gs, f1, f2, f3, .inl ⟨0, sx, rfl, rfl⟩⟩, fun H3 t3 s3 h3 => ?_⟩
    refine ⟨Nat.le_of_lt (smallLine (by simp)), fun t4 ht4 => ?_⟩
    generalize hH4 : upd _ t4 _ = H4
    obtain ⟨s4, h4⟩ := got hH4 ht4
    refine ne_tag (s4 _ _ h3) h4 (.int _) (by decide +kernel) rfl (Nat.zero_le _) ⟨_, rfl, iteF' rfl ?_⟩
    have s24 := s3.trans s4
    have al4 := al2.imp fun v x h => h.same s24
    refine ⟨_, rfl, _, rfl, "colour", odd, .inr ⟨.ref R, odd, some (nss.map fun ns => some (iv ns)), rfl, .rows (.inl (s24 _ _ hR2)) (by rw [List.length_map]; exact al.1) (rows_given al4 hns) (by rw [List.length_map]; omega), f1.same s24, f2, f3, .inr ⟨rows_ok hl1 hl3 hns, rfl, rfl⟩⟩, fun H5 t5 s5 h5 => ?_⟩
    refine ⟨_, rfl, Nat.le_of_lt (smallLine (by simp)), fun t6 ht6 => ?_⟩
    generalize hH6 : upd _ t6 _ = H6
    obtain ⟨s6, h6⟩ := got hH6 ht6
    have s26 := (s24.trans s5).trans s6
    obtain ⟨d, dd, d1, d2⟩ := hodd2.data (K := K)
    refine ne_tag (s6 _ _ h5) h6 (dd H6 s26) (by decide +kernel) d1 d2 ⟨_, rfl, iteF' rfl ?_⟩
    -- one of the rows is spoilt
    have hR6 := s26 _ _ hR2
    refine ⟨_, rfl, R, _, rfl, .inl (SqL.of hR6), fun S hS => ?_⟩
    generalize hH7 : upd _ S _ = H7
    obtain ⟨s7, h7⟩ := got hH7 hS
    have ok6 := ok2.same s26
    have ok7 := ok6.same s7
    have nS := (ok6.off hS).1
    have nS2 := (ok6.off hS).2
    have hrl := al.1
    refine ⟨_, rfl, _, rfl, R, _, rfl, .inl (SqL.of (s7 _ _ hR6)), hd, cells, _, rfl, ok7, by omega, by omega, fun r H8 r0 r1 b8 ok8 => ?_⟩
    obtain ⟨at_, rfl⟩ : ∃ at_ : Nat, r = at_ := ⟨r.toNat, by omega⟩
    have hat : at_ < rs.length := by omega
    have hx : rs[at_]? = some rs[at_] := List.getElem?_eq_getElem hat
    have s27 := s26.trans s7
    have al8 := al2.imp fun v x h => (h.same s27).but ok7 b8
    obtain ⟨ns, hn, a, ea, ha⟩ := al8.get hx
    obtain ⟨n12, ntn⟩ := hns ns (List.mem_of_getElem? hn)
    have hR8 := b8 _ _ nR (s7 _ _ hR6)
    refine ⟨_, rfl, _, rfl, _, rfl, R, rs, _, .ref a, rfl, rfl, SqL.of hR8, atI_nat (hx.trans (congrArg some ea)), hd, cells, a, ns, 12, rfl, ok8, ha, List_ne ok8 ha, ntn, by omega, by decide, by decide, fun v o9 ix H9 t9 g9 n9 e9 b9 ok9 ht9 => ?_⟩
    refine ⟨t9, _, 0, v, rfl, rfl, SqT.of ht9, atI_nat (j := 0) rfl, ?_⟩
    have hS9 := b9 _ _ nS (b8 _ _ nS h7)
    refine ⟨_, rfl, _, rfl, S, rs, _, at_, rfl, rfl, hS9, Evl.ixN_nat hat, ?_⟩
    have al9 := al8.imp fun v x h => h.but ok8 b9
    have h10 : upd H9 S (.lst (rs.set at_ v)) S = _ := upd_same
    have ok10 : HandOk hd cells (upd H9 S (.lst (rs.set at_ v))) := ok9.out nS nS2
    have hS1 : H S = none := by
      cases q : H S with
      | none => rfl
      | some u => rw [s26 _ _ (b2 _ _ nS (b1 _ _ nS q))] at hS; cases hS
    have b09 : But hd H H9 := (((b1.trans b2).trans (But.of s27)).trans b8).trans b9
    have b010 : But hd H (upd H9 S (.lst (rs.set at_ v))) := fun c u nc hc => by
      rw [upd_ne (fun e => by rw [e, hS1] at hc; cases hc)]
      exact b09 c u nc hc
    have hodd9 := ((hodd2.same s27).but ok7 b8).but ok8 b9
    have t910 : Tk H9 (upd H9 S (.lst (rs.set at_ v))) := Tk.put hS9 fun _ z => by cases z
    have nv : ∀ p, v = .ref p → p ≠ S := fun p e z => by
      subst z
      subst e
      cases g9 with
      | no h => cases h with
        | flat h => cases h
        | dT h => rw [hS9] at h; cases h
        | dK h => rw [hS9] at h; cases h
      | @row _ xs h t l =>
        rcases h with h | h
        · rw [hS9] at h
          have exs : rs = xs := HO.lst.inj (Option.some.inj h)
          have hm : rs[at_] ∈ xs := exs ▸ List.getElem_mem hat
          rcases t _ hm with q | ⟨x, ys, e, q⟩
          · rw [ea] at q
            cases q
          · rw [ea] at e
            cases e
            have := b9 _ _ (List_ne ok8 ha) ha
            rw [this] at q
            cases q
        · rw [hS9] at h
          cases h
    -- the rows other than the spoilt one, and that one
    have gall : ∀ (j : Nat) x o, (rs.set at_ v)[j]? = some x → ((nss.map fun ns => some (iv ns)).set at_ o9)[j]? = some o → Given (upd H9 S (.lst (rs.set at_ v))) x o := by
      intro j x o h1 h2
      by_cases e : j = at_
      · subst e
        rw [List.getElem?_set_self hat] at h1
        rw [List.getElem?_set_self (by rw [List.length_map]; omega)] at h2
        cases h1
        cases h2
        have tk : ∀ x, Thing H9 x → Thing (upd H9 S (.lst (rs.set j v))) x := fun x t => by
          rcases t with q | ⟨y, ys, e, q⟩
          · exact .inl q
          · exact .inr ⟨y, ys, e, t910 _ _ q⟩
        cases g9 with
        | no h => cases h with
          | flat h => exact .no (.flat h)
          | dT h => exact .no (.dT (by rw [upd_ne (nv _ rfl)]; exact h))
          | dK h => exact .no (.dK (by rw [upd_ne (nv _ rfl)]; exact h))
        | row h t l =>
          have ne := nv _ rfl
          exact .row (h.imp (fun q => by rw [upd_ne ne]; exact q) (fun q => by rw [upd_ne ne]; exact q)) (fun x hx => tk x (t x hx)) l
      · rw [List.getElem?_set_ne (fun z => e z.symm)] at h1 h2
        obtain ⟨ns', hn', a', rfl, ha'⟩ := al9.get h1
        rw [List.getElem?_map, hn'] at h2
        cases h2
        have := (hns ns' (List.mem_of_getElem? hn')).1
        refine given_row (.inl ?_) (by omega)
        rw [upd_ne]
        · exact ha'
        · intro z
          obtain ⟨ns2, _, a2, e2, ha2⟩ := al2.get h1
          cases e2
          exact ne_of_none (s26 _ _ ha2) hS z
    have hlen : ((nss.map fun ns => some (iv ns)).set at_ o9).length = nss.length := by rw [List.length_set, List.length_map]
    have hix : shortIx (some ((nss.map fun ns => some (iv ns)).set at_ o9)) = some at_ := by
      show (if ((nss.map fun ns => some (iv ns)).set at_ o9).length = 0 ∨ 3 < ((nss.map fun ns => some (iv ns)).set at_ o9).length then some 0 else badRowAt ((nss.map fun ns => some (iv ns)).set at_ o9)) = some at_
      rw [hlen, if_neg (by omega)]
      refine badRowAt_some (o := o9) (fun j o hj ho => ?_) (List.getElem?_set_self (by rw [List.length_map]; omega)) e9
      rw [List.getElem?_set_ne (by omega), List.getElem?_map] at ho
      cases q : nss[j]? with
      | none => rw [q] at ho; cases ho
      | some ns' =>
        rw [q] at ho
        cases ho
        obtain ⟨u1, u2⟩ := hns ns' (List.mem_of_getElem? q)
        exact given_tones u2 u1
    have hodd10 : Odd (upd H9 S (.lst (rs.set at_ v))) odd := by
      rcases hodd9 with h | h | h | ⟨x, e, h⟩
      · exact .inl h
      · exact .inr (.inl h)
      · exact .inr (.inr (.inl h))
      · exact .inr (.inr (.inr ⟨x, e, t910 _ _ h⟩))
    generalize upd H9 S (.lst (rs.set at_ v)) = H10 at h10 ok10 b010 gall hodd10
    obtain ⟨f4, f5, f6⟩ := hodd10.facts
    refine ⟨_, rfl, _, rfl, "rows", .int (at_ : Nat), .inr ⟨.ref S, odd, some ((nss.map fun ns => some (iv ns)).set at_ o9), rfl, .rows (.inl h10) (by rw [hlen, List.length_set]; exact al.1) gall (by rw [hlen]; omega), f4, f5, f6, .inl ⟨at_, hix, rfl, rfl⟩⟩, fun H11 t11 s11 h11 => ?_⟩
    refine ⟨_, rfl, Nat.le_of_lt (smallLine (by simp)), fun t12 ht12 => ?_⟩
    generalize hH12 : upd _ t12 _ = H12
    obtain ⟨s12, h12⟩ := got hH12 ht12
    have s1012 := s11.trans s12
    exact eq_tag (s12 _ _ h11) h12 (.int _) (by decide +kernel) rfl (Nat.zero_le _) (k H12 (b010.trans (But.of s1012)) (ok10.same s1012))
end
end K21
end
section
set_option Elab.async false
set_option linter.all false
set_option maxRecDepth 100000
set_option maxHeartbeats 4000000
/-! the law's defs 16: over -/
namespace K21
open PySem PySem.Spec PyProof.Rows L2
theorem Al.take {α : Type} {R : V → α → Prop} {vs : List V} {l : List α} (a : Al R vs l) (n : Nat) : Al R (vs.take n) (l.take n) := ⟨by rw [List.length_take, List.length_take, a.1], fun j v x h1 h2 => by
  by_cases c : j < n
  · rw [List.getElem?_take_of_lt c] at h1 h2
    exact a.2 j v x h1 h2
  · rw [List.getElem?_eq_none (by rw [List.length_take]; omega)] at h1
    cases h1⟩
theorem Al.app {α : Type} {R : V → α → Prop} : ∀ {vs ws : List V} {l m : List α}, Al R vs l → Al R ws m → Al R (vs ++ ws) (l ++ m)
  | [], _, [], _, _, b => b
  | [], _, _ :: _, _, a, _ => by cases a.1
  | _ :: _, _, [], _, a, _ => by cases a.1
  | v :: vs, ws, x :: l, m, a, b => Al.cons a.tail.1 (Al.app a.tail.2 b)
/-- a comprehension that makes a new list of each -/
theorem lc_new {K : PySem.W.Frag} {te : TE} {σ : L2.St} {R D : Addr} {rs : List V} {nss : Rws} {H1 : Hp} {Qd : Hp → Prop} (f : List Int → List Int) (hR : H1 R = some (.lst rs)) (al : Al (LstI H1) rs nss) (hD : H1 D = none) (hn : rs.length ≤ 1000) (hw : wipe ((wipe σ [10]).set 10 (some (V.ref 0))) [10] = wipe σ [10])
    (hw2 : ∀ a : Addr, wipe ((wipe σ [10]).set 10 (some (V.ref a))) [10] = wipe σ [10])
    (ht : ∀ (i : Nat) a ns H2, nss[i]? = some ns → rs[i]? = some (V.ref a) → Same H1 H2 → H2 a = some (.lst (iv ns)) → ∀ C1 : V → Hp → Prop, (∀ H3 p, Same H2 H3 → H2 p = none → H3 p = some (.lst (iv (f ns))) → C1 (.ref p) H3) → te ((wipe σ [10]).set 10 (some (.ref a))) H2 C1)
    (hd : ∀ H l, Same H1 H → H D = some (.lst l) → Al (LstI H) l (nss.map f) → Qd H) :
    ∃ W : Nat → Nat → Hp → Prop, (∃ m, W 0 m (upd H1 D (.lst []))) ∧ ∀ i m H, W i m H →
      ((Itl K R).stop i H ∧ Qd H) ∨ ((Itl K R).go i H ∧ ∃ Nx : Hp → Prop, (∀ H', Nx H' → ∃ m', m' < m ∧ W (i + 1) m' H') ∧ ∀ x H', (Itl K R).yld i H x H' → gName 10 x (wipe σ [10]) H' fun σ2 H2 => wipe σ2 [10] = wipe σ [10] ∧ tYes σ2 H2 fun b H3 =>
        if b = true then te σ2 H3 fun y H4 => ∃ acc, H4 D = some (.lst acc) ∧ acc.length < sizeLine ∧ Nx (upd H4 D (.lst (acc ++ [y]))) else Nx H3) := by
  have LN : ∀ {H : Hp} {p : Addr} {v : V} {x : List Int} {o : HO}, (∃ a, v = V.ref a ∧ a ≠ D ∧ H a = some (.lst (iv x))) → LstI H v x := fun ⟨a, e, _, h⟩ => ⟨a, e, h⟩
  refine lc_list (xs := rs) (fun i H => Same H1 H ∧ i ≤ rs.length ∧ ∃ l, H D = some (.lst l) ∧ Al (fun v ns => ∃ a, v = V.ref a ∧ a ≠ D ∧ H a = some (.lst (iv ns))) l ((nss.map f).take i)) ⟨Same.new hD, Nat.zero_le _, [], upd_same, Al.nil⟩ (fun i H _ ⟨s, _⟩ => SqL.of (s _ _ hR)) ?_ ?_
  · rintro i x H hx ⟨s, hi, l, hl, al2⟩
    have hlt := lt_of_get hx
    obtain ⟨ns, hn2, a, rfl, ha⟩ := al.get hx
    refine ⟨hw2 a, ?_⟩
    refine ht i a ns H hn2 hx s (s _ _ ha) _ fun H3 p s3 hp h3 => ⟨l, s3 _ _ hl, smallLine (by rw [al2.1, List.length_take]; omega), Same.out (s.trans s3) hD, hlt, l ++ [.ref p], upd_same, ?_⟩
    have npD : p ≠ D := fun e => by rw [e, hl] at hp; cases hp
    rw [take_more (x := f ns) (by rw [List.getElem?_map, hn2]; rfl)]
    refine Al.snoc (al2.imp fun v x ⟨b, e, nb, hb⟩ => ⟨b, e, nb, by rw [upd_ne nb]; exact s3 _ _ hb⟩) ⟨p, rfl, npD, by rw [upd_ne npD]; exact h3⟩
  · rintro H ⟨s, _, l, hl, al2⟩
    rw [List.take_of_length_le (by rw [List.length_map, ← al.1]; exact Nat.le_refl _)] at al2
    exact hd H l s hl (al2.imp fun v x ⟨b, e, _, hb⟩ => ⟨b, e, hb⟩)
theorem dpa_lists {K : PySem.W.Frag} {H : Hp} : ∀ {rs : List V} {nss : Rws}, Al (LstI H) rs nss → DpAll K H rs (nss.map fun ns => PyData.list (ns.map PyData.int))
  | [], [], _ => .nil
  | [], _ :: _, a => by cases a.1
  | _ :: _, [], a => by cases a.1
  | v :: rs, ns :: nss, a => by
    obtain ⟨⟨p, rfl, hp⟩, a2⟩ := a.tail
    exact .cons (.lst (SqL.of hp) (dpa_iv ns)) (dpa_lists a2)
theorem can_lists : ∀ nss : Rws, PyData.canLayAll0 (nss.map fun ns => PyData.list (ns.map PyData.int)) = true
  | [] => rfl
  | ns :: nss => by simp [PyData.canLayAll0, PyData.canLay0, PySem.W.ke_canLayAll0, can_lists nss]
theorem depth_lists : ∀ nss : Rws, PyData.depthAll (nss.map fun ns => PyData.list (ns.map PyData.int)) ≤ 1
  | [] => Nat.zero_le _
  | ns :: nss => by
    have ih := depth_lists nss
    simp only [List.map_cons, PyData.depthAll, PyData.depth, PySem.W.ke_depthAll]
    omega
theorem eq_lists {K : PySem.W.Frag} {H : Hp} {a b : Addr} {rs ks : List V} {nss : Rws} {Q : VK} (ha : H a = some (.lst rs)) (hb : H b = some (.lst ks)) (al : Al (LstI H) rs nss) (bl : Al (LstI H) ks nss) (q : Q (.bl true) H) : rEqD K (.ref a) (.ref b) H Q := by
  have sh : SeqAt.shaped (.list (nss.map fun ns => PyData.list (ns.map PyData.int))) = true := by
    unfold SeqAt.shaped
    have e1 : PyData.canLay0 (.list (nss.map fun ns => PyData.list (ns.map PyData.int))) = true := can_lists nss
    have e2 : PyData.depth (.list (nss.map fun ns => PyData.list (ns.map PyData.int))) ≤ 64 := by
      have := depth_lists nss
      show PyData.depthAll _ + 1 ≤ 64
      omega
    rw [e1, decide_eq_true e2]
    rfl
  refine ⟨_, _, .lst (SqL.of ha) (dpa_lists al), .lst (SqL.of hb) (dpa_lists bl), sh, sh, ?_⟩
  have e1 : PyData.canLay0 (.list (nss.map fun ns => PyData.list (ns.map PyData.int))) = true := can_lists nss
  rw [PySem.SeqAt.eqv_refl _ e1]
  exact q
theorem map_iv_inj : ∀ {a b : Rws}, a.map iv = b.map iv → a = b
  | [], [], _ => rfl
  | [], _ :: _, h => by cases h
  | _ :: _, [], h => by cases h
  | x :: a, y :: b, h => by
    injection h with h1 h2
    rw [iv_inj h1, map_iv_inj h2]
theorem over_go {K : PySem.W.Frag} {H : Hp} {Q : VK} {E : XK} {R : Addr} {rs : List V} {nss : Rws} {h : Option Int} (hR : Row H R rs) (al : Al (LstI H) rs nss) (h1 : 1 ≤ nss.length) (h3 : nss.length ≤ 3) (hns : ∀ ns ∈ nss, ns.length ≤ 12 ∧ Tones ns) (hh : ∀ f, h = some f → 0 ≤ f ∧ f ≤ 99)
    (k : ∀ w, IsMin (PP (nss.map (strip h)) ((nss.map (strip h)).map fun _ => 0)) (some w) → ∀ H' p, Same H H' → H' p = some (.tup (iv w)) → Q (.ref p) H') : spShortest K [.ref R, hv h] H Q E := by
  have g := rows_ok h1 h3 hns
  refine ⟨_, _, some (nss.map fun ns => some (iv ns)), rfl, .rows hR (by rw [List.length_map]; exact al.1) (rows_given al hns) (by rw [List.length_map]; omega), ?_, fun i e => ?_, fun _ hn hw => ?_, fun nss' h' e1 _ e3 _ w hw H' p s hp => ?_⟩
  · cases h with
    | none => exact .inl rfl
    | some f => exact .inl rfl
  · rw [g] at e
    cases e
  · cases h with
    | none => exact absurd rfl hn
    | some f =>
      obtain ⟨a, b⟩ := hh f rfl
      have : (decide ((0 : Int) ≤ f) && decide (f ≤ 99)) = false := hw
      rw [decide_eq_true a, decide_eq_true b] at this
      cases this
  · have e2 : nss.map iv = nss'.map iv := map_some_inj (by rw [List.map_map, List.map_map]; exact Option.some.inj e1)
    have e4 : nss = nss' := map_iv_inj e2
    have := hv_inj e3
    subst h'
    subst e4
    exact k w hw H' p s hp
def overEnd (K : PySem.W.Frag) : TS := tSeq (tAsg (tLc (iList K (tVar 4)) (gName 10) tYes (tCB (fun xs H Q => ∃ p ys, xs = [V.ref p] ∧ (SqL K H p ys ∨ SqT K H p ys) ∧ ∀ (l : Addr), H l = none → Q (V.ref l) (upd H l (HO.lst ys))) (tCons (tVar 10) tNil)) [10]) (gName 6))
  (tSeq (tAsg (tOp rCat (tLc (iList K (tVar 4)) (gName 10) tYes (tCall spStrip [] E0 (tCons (tVar 10) (tCons (tVar 5) tNil))) [10]) (tLst (tCons (tLst tNil) (tCons (tLst tNil) tNil)))) (gName 7))
  (tSeq (tAsg (tIf (tTest (tOp isNR (tVar 5) (tC V.non))) (tCall (spShortest K) [V.non] (fun x x_1 x_2 => False) (tCons (tVar 4) tNil)) (tCall (spShortest K) [] (fun x x_1 x_2 => False) (tCons (tupT K (tVar 4)) (tCons (tVar 5) tNil)))) (gName 8))
  (tRet (tAndV (tOp (rEqD K) (tVar 8) (tCall spShortest3 [] E0 (tCons (tSl (rSlL K) (tVar 7) tNoPart (tPart (tC (V.int 3)))) tNil))) (tAndV (tCall spTupT [] E0 (tCons (tVar 8) tNil)) (tAndV (tOp (rEqD K) (tVar 4) (tVar 6)) (tCall spBadRows [] E0 (tCons (tVar 0) (tCons (tVar 4) tNil)))))))))
theorem over_end {K : PySem.W.Frag} {D : Ends} {H : Hp} {hd cells R : Addr} {rs : List V} {nss : Rws} {h : Option Int} {s1 s2 s3 s6 s7 s8 s9 s10 : Option V} (ok : HandOk hd cells H) (hR : H R = some (.lst rs)) (nR : R ≠ hd) (al : Al (LstI H) rs nss) (h1 : 1 ≤ nss.length) (h3 : nss.length ≤ 3) (hns : ∀ ns ∈ nss, ns.length ≤ 12 ∧ Tones ns)
    (hh : ∀ f, h = some f → 0 ≤ f ∧ f ≤ 99) (k : ∀ H', But hd H H' → HandOk hd cells H' → D.rt (.bl true) H') : overEnd K D [some (.ref hd), s1, s2, s3, some (.ref R), some (hv h), s6, s7, s8, s9, s10] H := by
  have hrl := al.1
  refine ⟨_, rfl, R, rfl, ⟨_, SqL.of hR⟩, fun D1 hD1 => ?_⟩
  refine lc_new id hR al hD1 (by omega) rfl (fun _ => rfl) (fun i a ns H2 _ _ _ ha C1 c1 => ⟨_, rfl, a, _, rfl, .inl (SqL.of ha), fun q hq => c1 _ q (Same.new hq) hq upd_same⟩) fun H1 ks sm1 hK1 kal => ?_
  rw [List.map_id] at kal
  have al1 := al.imp fun v x h => h.same sm1
  refine ⟨_, rfl, R, rfl, ⟨_, SqL.of (sm1 _ _ hR)⟩, fun D2 hD2 => ?_⟩
  refine lc_new (strip h) (sm1 _ _ hR) al1 hD2 (by omega) rfl (fun _ => rfl) (fun i a ns H2 hn _ _ ha C1 c1 => ⟨_, rfl, _, rfl, a, ns, h, (by rw [hvv_hv]; rfl), ha, ?_, fun H3 p s hp h3 => c1 H3 p s hp h3⟩) fun H2 is sm2 hI2 ial => ?_
  · have := (hns ns (List.mem_of_getElem? hn)).1
    omega
  refine ⟨Nat.zero_le _, fun e1 he1 => ?_⟩
  generalize hH3 : upd _ e1 _ = H3
  obtain ⟨sm3, g3⟩ := got hH3 he1
  refine ⟨Nat.zero_le _, fun e2 he2 => ?_⟩
  generalize hH4 : upd _ e2 _ = H4
  obtain ⟨sm4, g4⟩ := got hH4 he2
  refine ⟨Nat.le_of_lt (smallLine (by simp)), fun b hb => ?_⟩
  generalize hH5 : upd _ b _ = H5
  obtain ⟨sm5, g5⟩ := got hH5 hb
  have sm25 := (sm3.trans sm4).trans sm5
  have hil : is.length = nss.length := by rw [ial.1, List.length_map]
  refine ⟨D2, b, _, _, rfl, rfl, sm25 _ _ hI2, g5, Nat.le_of_lt (smallLine (by simp; omega)), fun I hI => ?_⟩
  generalize hH6 : upd _ I _ = H6
  obtain ⟨sm6, g6⟩ := got hH6 hI
  have sm26 := sm25.trans sm6
  have sm06 := (sm1.trans sm2).trans sm26
  have padAl : Al (LstI H6) (is ++ [V.ref e1, V.ref e2]) (nss.map (strip h) ++ [[], []]) := Al.app (ial.imp fun v x h => h.same sm26) (Al.cons ⟨e1, rfl, sm6 _ _ (sm5 _ _ (sm4 _ _ g3))⟩ (Al.one ⟨e2, rfl, sm6 _ _ (sm5 _ _ g4)⟩))
  have al6 := al.imp fun v x h => h.same sm06
  have hR6 := sm06 _ _ hR
  have hK6 := sm26 _ _ (sm2 _ _ hK1)
  have kal6 := kal.imp fun v x h => h.same (sm2.trans sm26)
  -- behind the answer
  have rest : ∀ wd, IsMin (PP (nss.map (strip h)) ((nss.map (strip h)).map fun _ => 0)) (some wd) → ∀ H7 p, Same H6 H7 → H7 p = some (.tup (iv wd)) → tRet (tAndV (tOp (rEqD K) (tVar 8) (tCall spShortest3 [] E0 (tCons (tSl (rSlL K) (tVar 7) tNoPart (tPart (tC (V.int 3)))) tNil))) (tAndV (tCall spTupT [] E0 (tCons (tVar 8) tNil)) (tAndV (tOp (rEqD K) (tVar 4) (tVar 6)) (tCall spBadRows [] E0 (tCons (tVar 0) (tCons (tVar 4) tNil))))))
      D [some (.ref hd), s1, s2, s3, some (.ref R), some (hv h), some (.ref D1), some (.ref I), some (.ref p), s9, s10] H7 := by
    intro wd hwd H7 p sm7 hp
    have hwl : wd.length ≤ 1000 := by
      have h1 := PP_len hwd.1
      have h2 := lft_le (m := 12) (rows := nss.map (strip h)) (ps := (nss.map (strip h)).map fun _ => 0) fun r hr => by
        obtain ⟨ns, hn, rfl⟩ := List.mem_map.mp hr
        exact Nat.le_trans (strip_len h ns) (hns ns hn).1
      rw [List.length_map] at h2
      omega
    refine ⟨_, rfl, _, rfl, 3, rfl, I, _, rfl, SqL.of (sm7 _ _ g6), fun q hq => ?_⟩
    generalize hH8 : upd _ q _ = H8
    obtain ⟨sm8, g8⟩ := got hH8 hq
    rw [show (3 : Int) = ((3 : Nat) : Int) from rfl, cutK_take] at g8
    have sm68 := sm7.trans sm8
    have e3 : (nss.map (strip h) ++ [[], []]).take 3 = nss.map (strip h) ++ List.replicate (3 - nss.length) [] := by
      rw [List.take_append, List.take_of_length_le (by rw [List.length_map]; omega), List.length_map]
      congr 1
      rcases (show nss.length = 1 ∨ nss.length = 2 ∨ nss.length = 3 by omega) with e | e | e <;> rw [e] <;> rfl
    refine ⟨q, _, _, rfl, g8, (padAl.imp fun v x h => h.same sm68).take 3, ?_, fun r hr => ?_, fun x hx H9 p9 sm9 g9 => ?_⟩
    · rw [e3, List.length_append, List.length_map, List.length_replicate]
      omega
    · rw [e3] at hr
      rcases List.mem_append.mp hr with z | z
      · obtain ⟨ns, hn, rfl⟩ := List.mem_map.mp z
        exact Nat.le_trans (strip_len h ns) (hns ns hn).1
      · rw [List.eq_of_mem_replicate z]
        exact Nat.zero_le _
    · rw [e3] at hx
      have ex := over_pad _ hwd hx
      subst ex
      have sm69 := sm68.trans sm9
      refine eqT (sm9 _ _ (sm8 _ _ hp)) g9 ⟨_, rfl, iteT' (by simp) ⟨_, rfl, p, wd, rfl, sm9 _ _ (sm8 _ _ hp), hwl, fun H10 sm10 => ⟨_, rfl, iteT' rfl ?_⟩⟩⟩
      have sm610 := sm69.trans sm10
      have al10 := al6.imp fun v x h => h.same sm610
      refine ⟨_, rfl, _, rfl, eq_lists (sm610 _ _ hR6) (sm610 _ _ hK6) al10 (kal6.imp fun v x h => h.same sm610) ⟨_, rfl, iteT' rfl ?_⟩⟩
      have sm010 := sm06.trans sm610
      exact ⟨_, rfl, _, rfl, hd, cells, R, rs, nss, rfl, ok.same sm010, sm010 _ _ hR, nR, al10, h1, h3, hns, fun H' b' ok' => k H' ((But.of sm010).trans b') ok'⟩
  cases h with
  | none =>
    refine ⟨_, rfl, rfl, _, rfl, iteT' rfl ⟨_, rfl, ?_⟩⟩
    dsimp only [tNil]
    exact over_go (h := none) (.inl hR6) al6 h1 h3 hns hh fun wd hwd H7 p sm7 hp => rest wd hwd H7 p sm7 hp
  | some f =>
    refine ⟨_, rfl, rfl, _, rfl, iteF' rfl ⟨_, rfl, R, _, rfl, .inl ⟨SqL.of hR6, fun q hq => ?_⟩⟩⟩
    generalize hH7 : upd _ q _ = H7
    obtain ⟨sm7, g7⟩ := got hH7 hq
    refine ⟨_, rfl, ?_⟩
    dsimp only [tNil]
    exact over_go (h := some f) (.inr g7) (al6.imp fun v x h => h.same sm7) h1 h3 hns hh fun wd hwd H8 p sm8 hp => rest wd hwd H8 p (sm7.trans sm8) hp
def overHead (K : PySem.W.Frag) : TS := tSeq (tAsg (tCall spPick [] E0 (tCons (tVar 0) (tCons (tLst (tCons (tC V.non) (tCons (tC (V.int 0)) (tCons (tC (V.int 1)) (tCons (tOp (rIxL K) (tOp rCat (tOp (rIxL K) (tVar 4) (tC (V.int 0))) (tLst (tCons (tC (V.int 7)) tNil))) (tC (V.int 0))) tNil))))) tNil))) (gName 5)) (overEnd K)
theorem over_head {K : PySem.W.Frag} {D : Ends} {H : Hp} {hd cells R : Addr} {rs : List V} {nss : Rws} {s1 s2 s3 s5 s6 s7 s8 s9 s10 : Option V} (ok : HandOk hd cells H) (hR : H R = some (.lst rs)) (nR : R ≠ hd) (al : Al (LstI H) rs nss) (h1 : 1 ≤ nss.length) (h3 : nss.length ≤ 3) (hns : ∀ ns ∈ nss, ns.length ≤ 12 ∧ Tones ns)
    (k : ∀ H', But hd H H' → HandOk hd cells H' → D.rt (.bl true) H') : overHead K D [some (.ref hd), s1, s2, s3, some (.ref R), s5, s6, s7, s8, s9, s10] H := by
  have hrl := al.1
  have hx : rs[0]? = some (rs[0]'(by omega)) := List.getElem?_eq_getElem (by omega)
  obtain ⟨one, hn, a, ea, ha⟩ := al.get hx
  obtain ⟨lo, to⟩ := hns one (List.mem_of_getElem? hn)
  refine ⟨_, rfl, _, rfl, R, _, 0, .ref a, rfl, rfl, SqL.of hR, atI_nat (j := 0) (hx.trans (congrArg some ea)), Nat.le_of_lt (smallLine (by simp)), fun q hq => ?_⟩
  generalize hH7 : upd _ q _ = H7
  obtain ⟨s7', h7⟩ := got hH7 hq
  refine ⟨a, q, _, _, rfl, rfl, s7' _ _ ha, h7, Nat.le_of_lt (smallLine (by rw [iv_len]; simp; omega)), fun p hp => ?_⟩
  generalize hH8 : upd _ p _ = H8
  obtain ⟨s8', h8⟩ := got hH8 hp
  obtain ⟨z, hz, z0, z1⟩ : ∃ z : Int, (iv one ++ [V.int 7])[0]? = some (V.int z) ∧ 0 ≤ z ∧ z ≤ 99 := by
    cases one with
    | nil => exact ⟨7, rfl, by decide, by decide⟩
    | cons y r => exact ⟨y, rfl, to y List.mem_cons_self⟩
  refine ⟨p, _, 0, .int z, rfl, rfl, SqL.of h8, atI_nat (j := 0) hz, Nat.le_of_lt (smallLine (by simp)), fun l hl => ?_⟩
  generalize hH9 : upd _ l _ = H9
  obtain ⟨s9', h9⟩ := got hH9 hl
  have s69 := (s7'.trans s8').trans s9'
  have ok8 := ok.same (s7'.trans s8')
  refine ⟨hd, cells, l, _, rfl, ok8.same s9', h9, (ok8.off hl).1, by simp, by simp, fun v H10 hvm b10 ok10 => ?_⟩
  have bt : But hd H H10 := (But.of s69).trans b10
  obtain ⟨h, rfl, hh⟩ : ∃ h : Option Int, v = hv h ∧ ∀ f, h = some f → 0 ≤ f ∧ f ≤ 99 := by
    simp only [List.mem_cons, List.not_mem_nil, or_false] at hvm
    rcases hvm with rfl | rfl | rfl | rfl
    · exact ⟨none, rfl, fun f e => by cases e⟩
    · exact ⟨some 0, rfl, fun f e => by cases e; decide⟩
    · exact ⟨some 1, rfl, fun f e => by cases e; decide⟩
    · exact ⟨some z, rfl, fun f e => by cases e; exact ⟨z0, z1⟩⟩
  exact over_end ok10 (bt _ _ nR hR) nR (al.imp fun v x h => h.but ok bt) h1 h3 hns hh fun H' b' ok' => k H' (bt.trans b') ok'
def overVar (K : PySem.W.Frag) : TS := tSeq (tIfS (tAnd (tTest (tOp (rI0 fun i j => V.bl (decide (j < i))) (tVar 2) (tC (V.int 1)))) (tTest (tOp rEq (tCall spTake [] E0 (tCons (tVar 0) (tCons (tC (V.int 2)) tNil))) (tC (V.int 0))))) (tAsg (tCall spVaried [] E0 (tCons (tVar 0) (tCons (tOp (rIxL K) (tVar 4) (tC (V.int 0))) (tCons (tVar 1) (tCons (tVar 3) tNil))))) (gSub (tVar 4) (tC (V.int 1)) rSetL)) tNext) (overHead K)
theorem over_var {K : PySem.W.Frag} {D : Ends} {H0 H : Hp} {hd cells R : Addr} {rs : List V} {nss : Rws} {m : Int} {n mo : Nat} {s5 s6 s7 s8 s9 s10 : Option V} (hR0 : H0 R = none) (b0 : But hd H0 H) (ok : HandOk hd cells H) (hR : H R = some (.lst rs)) (nR : R ≠ hd) (nR2 : R ≠ cells) (al : Al (fun v ns => ∃ a, v = V.ref a ∧ a ≠ R ∧ H a = some (.lst (iv ns))) rs nss) (hn : nss.length = n) (h1 : 1 ≤ n) (h3 : n ≤ 3)
    (hns : ∀ ns ∈ nss, ns.length ≤ 12 ∧ Tones ns) (hmo : mo ≤ 12) (hm : 0 < m) (hm2 : m ≤ 100) (k : ∀ H', But hd H0 H' → HandOk hd cells H' → D.rt (.bl true) H') : overVar K D [some (.ref hd), some (.int m), some (.int (n : Nat)), some (.int (mo : Nat)), some (.ref R), s5, s6, s7, s8, s9, s10] H := by
  have hrl := al.1
  have LN : ∀ {H : Hp} {rs : List V} {nss : Rws}, Al (fun v ns => ∃ a, v = V.ref a ∧ a ≠ R ∧ H a = some (.lst (iv ns))) rs nss → Al (LstI H) rs nss := fun al => al.imp fun v x ⟨a, e, _, h⟩ => ⟨a, e, h⟩
  refine ⟨_, rfl, _, _, rfl, rfl, _, rfl, ?_⟩
  by_cases cn : 1 < n
  · refine iteT' (decide_eq_true (by omega)) ⟨_, rfl, hd, cells, 2, rfl, ok, by decide, by decide, fun r H1 r0 r1 b1 ok1 => ⟨rfl, _, rfl, ?_⟩⟩
    have al1 : Al (fun v ns => ∃ a, v = V.ref a ∧ a ≠ R ∧ H1 a = some (.lst (iv ns))) rs nss := al.imp fun v x ⟨a, e, na, h⟩ => ⟨a, e, na, b1 _ _ (List_ne ok h) h⟩
    have hR1 := b1 _ _ nR hR
    by_cases cr : r = 0
    · have hx : rs[0]? = some (rs[0]'(by omega)) := List.getElem?_eq_getElem (by omega)
      obtain ⟨one, hn0, a, ea, na, ha⟩ := al1.get hx
      obtain ⟨lo, to⟩ := hns one (List.mem_of_getElem? hn0)
      refine iteT' (by simp [cr]) ⟨_, rfl, _, rfl, R, _, 0, .ref a, rfl, rfl, SqL.of hR1, atI_nat (j := 0) (hx.trans (congrArg some ea)), _, rfl, _, rfl, hd, cells, a, one, m, mo, rfl, ok1, ha, by omega, to, hm, hm2, fun ms H2 p lp cp b2 ok2 hp h2 => ?_⟩
      have hR2 := b2 _ _ nR hR1
      have npR : p ≠ R := fun e => by rw [e, hR1] at hp; cases hp
      refine ⟨_, rfl, R, rs, 1, 1, rfl, rfl, hR2, Evl.ixN_nat (j := 1) (by omega), ?_⟩
      have al2 : Al (fun v ns => ∃ a, v = V.ref a ∧ a ≠ R ∧ H2 a = some (.lst (iv ns))) rs nss := al1.imp fun v x ⟨a, e, na, h⟩ => ⟨a, e, na, b2 _ _ (List_ne ok1 h) h⟩
      have al3 : Al (LstI (upd H2 R (.lst (rs.set 1 (.ref p))))) (rs.set 1 (.ref p)) (nss.set 1 ms) := by
        refine ⟨by rw [List.length_set, List.length_set, hrl], fun j v x h1' h2' => ?_⟩
        by_cases e : j = 1
        · subst e
          rw [List.getElem?_set_self (by omega)] at h1' h2'
          cases h1'
          cases h2'
          exact ⟨p, rfl, by rw [upd_ne npR]; exact h2⟩
        · rw [List.getElem?_set_ne (by omega)] at h1' h2'
          obtain ⟨b, eb, nb, hb⟩ := al2.2 j v x h1' h2'
          exact ⟨b, eb, by rw [upd_ne nb]; exact hb⟩
      refine over_head (ok2.out nR nR2) upd_same nR al3 (by rw [List.length_set]; omega) (by rw [List.length_set]; omega) (fun ns hns' => ?_) fun H' b' ok' => k H' (But.trans (fun c u nc hc => ?_) b') ok'
      · rcases List.mem_or_eq_of_mem_set hns' with q | q
        · exact hns ns q
        · rw [q]
          exact ⟨by omega, cp⟩
      · rw [upd_ne (fun e => by rw [e, hR0] at hc; cases hc)]
        exact b2 _ _ nc (b1 _ _ nc (b0 _ _ nc hc))
    · exact iteF' (by simp [cr]) (over_head ok1 hR1 nR (LN al1) (by omega) (by omega) hns fun H' b' ok' => k H' ((b0.trans b1).trans b') ok')
  · exact iteF' (decide_eq_false (by omega)) (iteF' rfl (over_head ok hR nR (LN al) (by omega) (by omega) hns fun H' b' ok' => k H' (b0.trans b') ok'))
def overRows (K : PySem.W.Frag) : TS := tSeq (tAsg (tLc (iRng1 (tCons (tVar 2) tNil)) (gName 9) tYes (tCall spRowOf [] E0 (tCons (tVar 0) (tCons (tVar 3) (tCons (tVar 1) tNil)))) [9]) (gName 4)) (overVar K)
theorem over_rows {K : PySem.W.Frag} {D : Ends} {H : Hp} {hd cells : Addr} {m : Int} {n mo : Nat} (ok : HandOk hd cells H) (h1 : 1 ≤ n) (h3 : n ≤ 3) (hmo : mo ≤ 12) (hm : 0 < m) (hm2 : m ≤ 100) (k : ∀ H', But hd H H' → HandOk hd cells H' → D.rt (.bl true) H') :
    overRows K D [some (.ref hd), some (.int m), some (.int (n : Nat)), some (.int (mo : Nat)), none, none, none, none, none, none, none] H := by
  refine ⟨_, rfl, _, rfl, by omega, by omega, fun R hR => ?_⟩
  obtain ⟨nR, nR2⟩ := ok.off hR
  refine lc_range (fun i H' => But hd H H' ∧ HandOk hd cells H' ∧ ∃ (l : List V) (nss : Rws), H' R = some (.lst l) ∧ Al (fun v ns => ∃ a, v = V.ref a ∧ a ≠ R ∧ H' a = some (.lst (iv ns))) l nss ∧ nss.length = i ∧ ∀ ns ∈ nss, ns.length ≤ 12 ∧ Tones ns)
    ⟨fun b u nb h => ?_, ok.out nR nR2, [], [], upd_same, Al.nil, rfl, fun ns h => by cases h⟩ ?_ ?_
  · rw [upd_ne (fun e => by rw [e, hR] at h; cases h)]
    exact h
  · rintro i H1 hi ⟨b1, ok1, l, nss, hl, al, hn, hns⟩
    refine ⟨rfl, ?_⟩
    refine ⟨_, rfl, _, rfl, _, rfl, hd, cells, mo, m, rfl, ok1, by omega, hm, hm2, fun ns H2 p lp cp b2 ok2 hp h2 => ?_⟩
    have hl2 := b2 _ _ nR hl
    have npR : p ≠ R := fun e => by rw [e, hl] at hp; cases hp
    refine ⟨l, hl2, smallLine (by rw [al.1]; omega), fun b u nb h => ?_, ok2.out nR nR2, l ++ [.ref p], nss ++ [ns], upd_same, ?_, by rw [List.length_append, hn]; rfl, fun x hx => ?_⟩
    · rw [upd_ne (fun e => by rw [e, hR] at h; cases h)]
      exact b2 _ _ nb (b1 _ _ nb h)
    · exact Al.snoc (al.imp fun v x ⟨a, e, na, ha⟩ => ⟨a, e, na, by rw [upd_ne na]; exact b2 _ _ (List_ne ok1 ha) ha⟩) ⟨p, rfl, npR, by rw [upd_ne npR]; exact h2⟩
    · rcases List.mem_append.mp hx with q | q
      · exact hns x q
      · rw [List.mem_singleton.mp q]
        exact ⟨by omega, cp⟩
  · rintro H1 ⟨b1, ok1, l, nss, hl, al, hn, hns⟩
    exact over_var hR b1 ok1 hl nR nR2 al (by omega) h1 h3 hns hmo hm hm2 k
section
variable {P : Program} {w : World} {K : PySem.W.Frag} {mg : Str → Option Value} {base : Heap}
theorem scLawOver : FnScope ["_law_hand_here", "_law_tones", "_law_many", "_law_most", "_law_rows", "_law_head", "_law_kept", "_law_inner_here", "_law_told", "_law_at", "_law_row_here"] ["_law_hand_here"] (defScope sLawOver) := ⟨rfl, rfl, rfl, by decide +kernel, rfl, by decide +kernel, by decide +kernel⟩
theorem good_over (T : Txt K mg) : Good P w K mg base CX0 9 "_law_over" ["_law_hand_here"] [] spHandTrue := by
  have G_law_take := good_take (P := P) (w := w) (base := base) T
  have G_law_pick := good_pick (P := P) (w := w) (base := base) T
  have G_law_row := good_rowOf (P := P) (w := w) (base := base) T
  have G_law_varied := good_varied (P := P) (w := w) (base := base) T
  have G_law_strip := good_strip (P := P) (w := w) (base := base) T
  have G_law_tuples := good_tuples (P := P) (w := w) (base := base) T
  have G_law_shortest := good_shortest3 (P := P) (w := w) (base := base) T
  have G_law_bad_rows := good_badRows (P := P) (w := w) (base := base) T
  have G_short1 := good_shortest1 (P := P) (w := w) (base := base) T
  have G_short2 := good_shortest2 (P := P) (w := w) (base := base) T
  refine good0 T.d_law_over T.g_law_over scLawOver (fun _ _ _ _ _ _ us hl => match us, hl with | [_], _ => rfl) (fun vs H Q E h => ?_) (fun cdv A outer s H vs Q E hr h => ?_)
  · obtain ⟨hd, cells, rfl, _⟩ := h
    rfl
  · obtain ⟨hd, cells, rfl, ok, k⟩ := h
    refine ⟨_, (pss_cons
    (ps_set (i := 1) scLawOver.nd rfl (Or.inr rfl) (pe_go G_law_pick hr (by decide) rfl (pa_cons (pv 0) (pa_cons (pe_lst (pa_cons (pe_int) (pa_cons (pe_int) (pa_cons (pe_int) (pa_cons (pe_int) pa_nil))))) pa_nil))))
    (pss_cons
    (ps_set (i := 2) scLawOver.nd rfl (Or.inl rfl) (pe_op op_add (pe_int) (pe_go G_law_take hr (by decide) rfl (pa_cons (pv 0) (pa_cons (pe_int) pa_nil)))))
    (pss_cons
    (ps_set (i := 3) scLawOver.nd rfl (Or.inr rfl) (pe_int))
    (pss_cons
    (ps_if (pt_cmpR op_eq (pe_go G_law_take hr (by decide) rfl (pa_cons (pv 0) (pa_cons (pe_int) pa_nil))) (pe_int) (nomark _)) (pss_one
      (ps_set (i := 3) scLawOver.nd rfl (Or.inr rfl) (pe_ifExp (PW.pt (pw_or (pt_cmpR op_lt (pv 2) (pe_int) (nomark _)) (pw_or1 (pt_cmpR op_eq (pe_go G_law_take hr (by decide) rfl (pa_cons (pv 0) (pa_cons (pe_int) pa_nil))) (pe_int) (nomark _))))) (pe_int) (pe_int)))) pss_nil)
    (pss_cons
    (ps_setLc (i := 4) (own := [("_law_at", 9)]) rfl scLawOver.nd rfl rfl (sw_true rfl rfl rfl (by decide +kernel)) (pi_range1 rfl T.n_range (pa_cons (pv 2) pa_nil)) (blkOk_by (N := ["_law_hand_here", "_law_tones", "_law_many", "_law_most", "_law_rows", "_law_head", "_law_kept", "_law_inner_here", "_law_told", "_law_at", "_law_row_here"]) (sc := defScope sLawOver) (by decide +kernel)) (fun _ _ _ _ _ => (pg_name (i := 9) scLawOver.nd rfl (Or.inl rfl))) (fun _ _ _ _ _ => pts_nil) (fun _ _ _ _ _ => (pe_go G_law_row hr (by decide) rfl (pa_cons (pv 0) (pa_cons (pv 3) (pa_cons (pv 1) pa_nil))))))
    (pss_cons
    (ps_if (PW.pt (pw_and (pt_cmpR op_gt (pv 2) (pe_int) (nomark _)) (pw_and1 (pt_cmpR op_eq (pe_go G_law_take hr (by decide) rfl (pa_cons (pv 0) (pa_cons (pe_int) pa_nil))) (pe_int) (nomark _))))) (pss_one
      (ps_asg (pe_go G_law_varied hr (by decide) rfl (pa_cons (pv 0) (pa_cons (pe_ix ix_list (pv 4) (pe_int) (fun _ _ => rfl)) (pa_cons (pv 1) (pa_cons (pv 3) pa_nil))))) (pg_sub (pv 4) (pe_int) set_list))) pss_nil)
    (pss_cons
    (ps_set (i := 5) scLawOver.nd rfl (Or.inr rfl) (pe_go G_law_pick hr (by decide) rfl (pa_cons (pv 0) (pa_cons (pe_lst (pa_cons (pe_non) (pa_cons (pe_int) (pa_cons (pe_int) (pa_cons (pe_ix ix_list (pe_op op_cat (pe_ix ix_list (pv 4) (pe_int) (fun _ _ => rfl)) (pe_lst (pa_cons (pe_int) pa_nil))) (pe_int) (fun _ _ => rfl)) pa_nil))))) pa_nil))))
    (pss_cons
    (ps_setLc (i := 6) (own := [("_law_row_here", 10)]) rfl scLawOver.nd rfl rfl (sw_true rfl rfl rfl (by decide +kernel)) (pi_list (pv 4)) (blkOk_by (N := ["_law_hand_here", "_law_tones", "_law_many", "_law_most", "_law_rows", "_law_head", "_law_kept", "_law_inner_here", "_law_told", "_law_at", "_law_row_here"]) (sc := defScope sLawOver) (by decide +kernel)) (fun _ _ _ _ _ => (pg_name (i := 10) scLawOver.nd rfl (Or.inl rfl))) (fun _ _ _ _ _ => pts_nil) (fun _ _ _ _ _ => (pe_callTy (call_list_ofK (K := K) rfl) (by rfl) T.n_list (by decide +kernel) (pa_cons (pv 10) pa_nil))))
    (pss_cons
    (ps_set (i := 7) scLawOver.nd rfl (Or.inl rfl) (pe_op op_cat (pe_lc (own := [("_law_row_here", 10)]) rfl scLawOver.nd (pi_list (pv 4)) (blkOk_by (N := ["_law_hand_here", "_law_tones", "_law_many", "_law_most", "_law_rows", "_law_head", "_law_kept", "_law_inner_here", "_law_told", "_law_at", "_law_row_here"]) (sc := defScope sLawOver) (by decide +kernel)) (fun _ _ _ _ _ => (pg_name (i := 10) scLawOver.nd rfl (Or.inl rfl))) (fun _ _ _ _ _ => pts_nil) (fun _ _ _ _ _ => (pe_go G_law_strip hr (by decide) rfl (pa_cons (pv 10) (pa_cons (pv 5) pa_nil))))) (pe_lst (pa_cons (pe_lst pa_nil) (pa_cons (pe_lst pa_nil) pa_nil)))))
    (pss_cons
    (ps_set (i := 8) scLawOver.nd rfl (Or.inl rfl) (pe_ifExp (pt_cmpR op_isN (pv 5) (pe_non) (nomark _)) (pe_goX G_short1 hr (by decide) rfl no_pass2 (pa_cons (pv 4) pa_nil)) (pe_goX G_short2 hr (by decide) rfl no_pass2 (pa_cons (pe_callTy call_tuple_of (by rfl) T.n_tuple (by decide +kernel) (pa_cons (pv 4) pa_nil)) (pa_cons (pv 5) pa_nil)))))
    (pss_one
    (ps_ret ((pe_and (pe_cmpR (op_eqD (hu64 hr)) (pv 8) (pe_go G_law_shortest hr (by decide) rfl (pa_cons (pe_slice sl_list (pv 7) po_none (po_some (pe_int))) pa_nil)) (nomark _)) (pe_and (pe_go G_law_tuples hr (by decide) rfl (pa_cons (pv 8) pa_nil)) (pe_and (pe_cmpR (op_eqD (hu64 hr)) (pv 4) (pv 6) (nomark _)) (pe_one (pe_go G_law_bad_rows hr (by decide) rfl (pa_cons (pv 0) (pa_cons (pv 4) pa_nil)))))))))))))))))))), ?_⟩
    refine ⟨_, rfl, Nat.le_of_lt (smallLine (by simp)), fun q hq => ?_⟩
    generalize hH1 : upd _ q _ = H1
    obtain ⟨s1, h1⟩ := got hH1 hq
    refine ⟨hd, cells, q, _, rfl, ok.same s1, h1, (ok.off hq).1, by simp, by simp, fun v H2 hvm b2 ok2 => ?_⟩
    obtain ⟨m, rfl, hm, hm2⟩ : ∃ m : Int, v = .int m ∧ 0 < m ∧ m ≤ 100 := by
      simp only [List.mem_cons, List.not_mem_nil, or_false] at hvm
      rcases hvm with rfl | rfl | rfl | rfl <;> exact ⟨_, rfl, by decide, by decide⟩
    have b02 : But hd H H2 := (But.of s1).trans b2
    refine ⟨_, rfl, hd, cells, 3, rfl, ok2, by decide, by decide, fun r H3 r0 r1 b3 ok3 => ⟨1, r, rfl, rfl, ?_⟩⟩
    have b03 := b02.trans b3
    obtain ⟨n, en, hn1, hn3⟩ : ∃ n : Nat, (1 : Int) + r = n ∧ 1 ≤ n ∧ n ≤ 3 := ⟨(1 + r).toNat, by omega, by omega, by omega⟩
    have go : ∀ (mo : Nat) (z : Int) H4, z = mo → mo ≤ 12 → But hd H H4 → HandOk hd cells H4 → overRows K { nx := fun x H' => Q V.non H', rt := Q } [some (.ref hd), some (.int m), some (.int (1 + r)), some (.int z), none, none, none, none, none, none, none] H4 := fun mo z H4 ez hmo b04 ok4 => by
      rw [en, ez]
      exact over_rows ok4 hn1 hn3 hmo hm hm2 fun H' b' ok' => k H' (b04.trans b') ok'
    refine ⟨_, rfl, hd, cells, 6, rfl, ok3, by decide, by decide, fun r2 H4 _ _ b4 ok4 => ⟨rfl, _, rfl, ?_⟩⟩
    by_cases c6 : r2 = 0
    · refine iteT' (by simp [c6]) ⟨_, rfl, _, _, rfl, rfl, _, rfl, ?_⟩
      by_cases c3 : 1 + r < 3
      · exact iteT' (decide_eq_true c3) (iteT' rfl (go 12 12 H4 rfl (by decide) (b03.trans b4) ok4))
      · refine iteF' (decide_eq_false c3) ⟨_, rfl, hd, cells, 4, rfl, ok4, by decide, by decide, fun r3 H5 _ _ b5 ok5 => ⟨rfl, _, rfl, ?_⟩⟩
        by_cases c4 : r3 = 0
        · exact iteT' (by simp [c4]) (go 12 12 H5 rfl (by decide) ((b03.trans b4).trans b5) ok5)
        · exact iteF' (by simp [c4]) (go 7 7 H5 rfl (by decide) ((b03.trans b4).trans b5) ok5)
    · exact iteF' (by simp [c6]) (go 5 5 H4 rfl (by decide) (b03.trans b4) ok4)
end
end K21
end
section
set_option Elab.async false
set_option linter.all false
set_option maxRecDepth 100000
set_option maxHeartbeats 4000000
/-! the law's defs 17: long_lacks, law -/
namespace K21
open PySem PySem.Spec PyProof.Rows L2
abbrev fldC (K : PySem.W.Frag) : TE := tFld K (tVar 5) ("colours")
def longRest (K : PySem.W.Frag) (w : World) : TS := tSeq (tAsg (tCall (spReach K) [] (fun x x_1 x_2 => False) (tCons (tVar 3) (tCons (tVar 2) (tCons (tVar 4) tNil)))) (gName 5))
  (tSeq (tIfS (tB (tCall spHidden [] E0 (tCons (tCall spStrip [] E0 (tCons (tVar 3) (tCons (tVar 4) tNil))) (tCons (tVar 2) tNil)))) (tRet (tOp isNR (tVar 5) (tC V.non))) tNext)
  (tSeq (tIfS (tOr (tNot (tB (tCB (rIsi K) (tCons (tVar 5) (tCons (tC (V.ref (cPL K))) tNil))))) (tOr (tNot (tB (tCB (rIsi K) (tCons (fldC K) (tCons (tC (V.ty "tuple")) tNil))))) (tNot (tTest (tChain (rI0 fun i j => V.bl (decide (i < j))) (rI0 fun i j => V.bl (decide (i ≤ j))) (tC (V.int 1)) (tCB (lenR K) (tCons (fldC K) tNil)) (tC (V.int 41))))))) (tRet (tC (V.bl false))) tNext)
  (tSeq (tIfS (tTest (tOp (rNeD K) (tLc (iTup K (fldC K)) (gName 7) (tOr (tNot (tB (tCall spLWhole [] E0 (tCons (tVar 7) tNil)))) (tOr (tTest (tOp (rI0 fun i j => V.bl (decide (i < j))) (tVar 7) (tC (V.int 0)))) (tTest (tOp (rI0 fun i j => V.bl (decide (j < i))) (tVar 7) (tC (V.int 99)))))) (tC (V.int 1)) [7]) (tLst tNil))) (tRet (tC (V.bl false))) tNext)
  (tSeq (tIfS (tAnd (tTest (tOp (fun x y H Q => y = V.non ∧ Q (V.bl !decide (x = V.non)) H) (tVar 4) (tC V.non))) (tTest (tOp rNe (tOp (rIxT K) (fldC K) (tC (V.int 0))) (tVar 4)))) (tRet (tC (V.bl false))) tNext)
  (tRet (tAndV (tOp rEq (lenS w (tCB (rSetI K w) (tCons (tCall spLineRun [] E0 (tCons (fldC K) (tCons (tVar 3) tNil))) tNil))) (tC (V.int 1))) (tOp (rI0 fun i j => V.bl (decide (j < i))) (lenS w (tCB (rSetI K w) (tCons (tCall spLineRun [] E0 (tCons (fldC K) (tCons (tVar 2) tNil))) tNil))) (tC (V.int 1)))))))))
theorem long_rest {K : PySem.W.Frag} {mg : Str → Option Value} {w : World} (T : Txt K mg) {D : Ends} {H : Hp} {a1 a2 : Addr} {one other : List Int} {h : Option Int} {s0 s1 s5 s6 s7 : Option V} (h1 : H a1 = some (.lst (iv one))) (h2 : H a2 = some (.lst (iv other))) (l1 : one.length ≤ 40) (l2 : other.length ≤ 40)
    (t1 : Tones one) (t2 : Tones other) (hh : ∀ f, h = some f → 0 ≤ f ∧ f ≤ 99) (k : ∀ H', Same H H' → D.rt (.bl true) H') : longRest K w D [s0, s1, some (.ref a2), some (.ref a1), some (hv h), s5, s6, s7] H := by
  refine ⟨_, rfl, _, rfl, _, rfl, reach_go (.inl h1) (.inl h2) l1 l2 t1 t2 hh fun res hres H1 v sm1 hp => ?_⟩
  refine ⟨_, rfl, _, rfl, a1, one, h, (by rw [hvv_hv]; rfl), sm1 _ _ h1, by omega, fun H2 p sm2 _ h2' => ?_⟩
  have sm12 := sm1.trans sm2
  refine ⟨_, rfl, p, a2, strip h one, other, rfl, .inl h2', sm12 _ _ h2, _, rfl, ?_⟩
  by_cases c : (strip h one).Sublist other
  · refine iteT' (decide_eq_true c) ?_
    have e := hres.uniq (due_nil (strip_hid.mpr c))
    subst e
    have e2 : v = .non := hp
    subst e2
    exact ⟨_, rfl, rfl, k H2 sm12⟩
  refine iteF' (decide_eq_false c) ?_
  cases res with
  | none => exact absurd (due_none hres) c
  | some x =>
    obtain ⟨f, wd, ex, hne, hnb, hw1, hw2⟩ := due_some hres.1
    obtain ⟨f', hf', wd', ex', _⟩ := hres.1
    have eff : f' = f := by rw [ex] at ex'; exact (List.cons.inj ex').1.symm
    subst eff
    subst ex
    have hwl := hw1.length_le
    have hwp : 0 < wd.length := List.length_pos_iff.mpr hne
    have tf : 0 ≤ f' ∧ f' ≤ 99 := by
      cases h with
      | none =>
        have : f' ∈ ([0, 1, 2] : List Int) := hf'
        simp only [List.mem_cons, List.not_mem_nil, or_false] at this
        omega
      | some g =>
        have : f' ∈ ([g] : List Int) := hf'
        rw [List.mem_singleton.mp this]
        exact hh g rfl
    have tx : Tones (f' :: wd) := fun t ht => by
      rcases List.mem_cons.mp ht with q | q
      · rw [q]
        exact tf
      · exact t1 t (hw1.subset q)
    obtain ⟨pp, dx, t, rfl, hpp, ht⟩ := hp.same sm2
    obtain ⟨ty1, ty2⟩ := pl_ty T hpp
    refine ⟨_, rfl, _, _, _, _, _, rfl, .own _, ty1, ty2, _, rfl, iteF' rfl ?_⟩
    refine ⟨_, rfl, pp, _, dx, _, _, rfl, hpp, T.pcl, T.pno, rfl, _, _, _, _, _, rfl, .ty _, .base (.tup ht), kit_ty (r := true) (by decide +kernel), _, rfl, iteF' rfl ?_⟩
    refine ⟨_, rfl, pp, _, dx, _, _, rfl, hpp, T.pcl, T.pno, rfl, t, _, rfl, .inr (SqT.of ht), _, _, rfl, rfl, _, rfl, ?_⟩
    rw [iv_len, List.length_cons]
    refine iteT' (decide_eq_true (by omega)) ⟨_, _, rfl, rfl, _, rfl, iteF' (by rw [decide_eq_true (by omega)]; rfl) ?_⟩
    refine ⟨_, rfl, pp, _, dx, _, _, rfl, hpp, T.pcl, T.pno, rfl, t, rfl, ⟨_, SqT.of ht⟩, fun D3 hD3 => ?_⟩
    refine lc_tupr (xs := iv (f' :: wd)) (fun i l _ => l = []) ht hD3 (by rw [iv_len, List.length_cons]; omega) rfl (fun _ _ _ _ _ h => h) (fun i l _ h => by rw [h]; exact Nat.zero_le _) ?_ ?_
    · rintro i y H3 l hy s3 rfl C1 C0 c1 c0
      obtain ⟨z, hz, rfl⟩ := iv_get hy
      obtain ⟨z0, z1⟩ := tx z (List.mem_of_getElem? hz)
      exact ⟨rfl, _, rfl, _, rfl, Thing.int z, _, rfl, iteF' rfl ⟨_, rfl, _, _, rfl, rfl, _, rfl, iteF' (decide_eq_false (by omega)) ⟨_, rfl, _, _, rfl, rfl, _, rfl, iteF' (decide_eq_false (by omega)) (c0 H3 (Same.refl H3) rfl)⟩⟩⟩
    · rintro H3 l s3 h3 rfl
      refine ⟨Nat.zero_le _, fun q hq => ?_⟩
      generalize hH4 : upd _ q _ = H4
      obtain ⟨s4, h4⟩ := got hH4 hq
      refine neL (ns := []) (ms := []) (s4 _ _ h3) h4 ⟨_, rfl, iteF' rfl ?_⟩
      have s24 := s3.trans s4
      have hpp4 := s24 _ _ hpp
      have ht4 := s24 _ _ ht
      -- the two ends
      have fin : tRet (tAndV (tOp rEq (lenS w (tCB (rSetI K w) (tCons (tCall spLineRun [] E0 (tCons (fldC K) (tCons (tVar 3) tNil))) tNil))) (tC (V.int 1))) (tOp (rI0 fun i j => V.bl (decide (j < i))) (lenS w (tCB (rSetI K w) (tCons (tCall spLineRun [] E0 (tCons (fldC K) (tCons (tVar 2) tNil))) tNil))) (tC (V.int 1)))) D [s0, s1, some (.ref a2), some (.ref a1), some (hv h), some (.ref pp), s6, s7] H4 := by
        have sm14 := sm12.trans s24
        refine ⟨_, rfl, pp, _, dx, _, _, rfl, hpp4, T.pcl, T.pno, rfl, _, rfl, t, a1, f' :: wd, one, rfl, ht4, sm14 _ _ h1, by simp, by rw [List.length_cons]; omega, fun H5 q5 s5 _ h5 => ?_⟩
        refine ⟨q5, _, rfl, .inl (SqL.of h5), by rw [lrun_len _ _ (by simp), List.length_cons]; omega, fun q6 hq6 => ?_⟩
        generalize hH6 : upd _ q6 _ = H6
        obtain ⟨s6', h6⟩ := got hH6 hq6
        have e1 : (asc (lrun (f' :: wd) one)).length = 1 := (asc_one (fun e => by have := lrun_len (f' :: wd) one (by simp); rw [e] at this; cases this)).mpr ((lrun_all hnb one).mpr hw1)
        refine ⟨q6, _, _, rfl, h6, rfl, _, rfl, iteT' (by rw [e1]; rfl) ?_⟩
        have s46 := s5.trans s6'
        refine ⟨_, rfl, pp, _, dx, _, _, rfl, s46 _ _ hpp4, T.pcl, T.pno, rfl, _, rfl, t, a2, f' :: wd, other, rfl, s46 _ _ ht4, (sm14.trans s46) _ _ h2, by simp, by rw [List.length_cons]; omega, fun H7 q7 s7' _ h7 => ?_⟩
        refine ⟨q7, _, rfl, .inl (SqL.of h7), by rw [lrun_len _ _ (by simp), List.length_cons]; omega, fun q8 hq8 => ?_⟩
        generalize hH8 : upd _ q8 _ = H8
        obtain ⟨s8, h8⟩ := got hH8 hq8
        have nn : lrun (f' :: wd) other ≠ [] := fun e => by have := lrun_len (f' :: wd) other (by simp); rw [e] at this; cases this
        have e2 : (asc (lrun (f' :: wd) other)).length ≠ 1 := fun e => hw2 ((lrun_all hnb other).mp ((asc_one nn).mp e))
        have e3 : 0 < (asc (lrun (f' :: wd) other)).length := by
          cases e : lrun (f' :: wd) other with
          | nil => exact absurd e nn
          | cons y r => exact List.length_pos_of_mem (asc_mem.mpr (List.mem_cons_self (a := y) (l := r)))
        refine ⟨q8, _, _, rfl, h8, _, _, rfl, rfl, ?_⟩
        show D.rt (.bl (decide ((1 : Int) < (((asc (lrun (f' :: wd) other)).length : Nat) : Int)))) H8
        rw [decide_eq_true (by omega)]
        exact k H8 (((sm14.trans s46).trans s7').trans s8)
      cases h with
      | none => exact ⟨_, rfl, rfl, _, rfl, iteF' rfl (iteF' rfl fin)⟩
      | some g =>
        have eg : f' = g := List.mem_singleton.mp hf'
        refine ⟨_, rfl, rfl, _, rfl, iteT' rfl ⟨_, rfl, pp, _, dx, _, _, rfl, hpp4, T.pcl, T.pno, rfl, t, _, 0, .int f', rfl, rfl, SqT.of ht4, atI_nat (j := 0) rfl, _, rfl, rfl, _, rfl, iteF' (by simp [hv, eg]) fin⟩⟩
def longHead (K : PySem.W.Frag) (w : World) : TS := tSeq (tAsg (tCall spPick [] E0 (tCons (tVar 0) (tCons (tLst (tCons (tC V.non) (tCons (tC (V.int 0)) (tCons (tOp (rIxL K) (tOp rCat (tVar 3) (tLst (tCons (tC (V.int 3)) tNil))) (tC (V.int 0))) tNil)))) tNil))) (gName 4)) (longRest K w)
theorem long_head {K : PySem.W.Frag} {mg : Str → Option Value} {w : World} (T : Txt K mg) {D : Ends} {H : Hp} {hd cells a1 a2 : Addr} {one other : List Int} {s1 s4 s5 s6 s7 : Option V} (ok : HandOk hd cells H) (g1 : H a1 = some (.lst (iv one))) (g2 : H a2 = some (.lst (iv other))) (l1 : one.length ≤ 40) (l2 : other.length ≤ 40)
    (t1 : Tones one) (t2 : Tones other) (k : ∀ H', But hd H H' → HandOk hd cells H' → D.rt (.bl true) H') : longHead K w D [some (.ref hd), s1, some (.ref a2), some (.ref a1), s4, s5, s6, s7] H := by
  refine ⟨_, rfl, _, rfl, Nat.le_of_lt (smallLine (by simp)), fun q hq => ?_⟩
  generalize hH7 : upd _ q _ = H7
  obtain ⟨s7', h7⟩ := got hH7 hq
  refine ⟨a1, q, _, _, rfl, rfl, s7' _ _ g1, h7, Nat.le_of_lt (smallLine (by rw [iv_len]; simp; omega)), fun p hp => ?_⟩
  generalize hH8 : upd _ p _ = H8
  obtain ⟨s8', h8⟩ := got hH8 hp
  obtain ⟨z, hz, z0, z1⟩ : ∃ z : Int, (iv one ++ [V.int 3])[0]? = some (V.int z) ∧ 0 ≤ z ∧ z ≤ 99 := by
    cases one with
    | nil => exact ⟨3, rfl, by decide, by decide⟩
    | cons y r => exact ⟨y, rfl, t1 y List.mem_cons_self⟩
  refine ⟨p, _, 0, .int z, rfl, rfl, SqL.of h8, atI_nat (j := 0) hz, Nat.le_of_lt (smallLine (by simp)), fun l hl => ?_⟩
  generalize hH9 : upd _ l _ = H9
  obtain ⟨s9', h9⟩ := got hH9 hl
  have s69 := (s7'.trans s8').trans s9'
  have ok8 := ok.same (s7'.trans s8')
  refine ⟨hd, cells, l, _, rfl, ok8.same s9', h9, (ok8.off hl).1, by simp, by simp, fun v H10 hvm b10 ok10 => ?_⟩
  have bt : But hd H H10 := (But.of s69).trans b10
  obtain ⟨h, rfl, hh⟩ : ∃ h : Option Int, v = hv h ∧ ∀ f, h = some f → 0 ≤ f ∧ f ≤ 99 := by
    simp only [List.mem_cons, List.not_mem_nil, or_false] at hvm
    rcases hvm with rfl | rfl | rfl
    · exact ⟨none, rfl, fun f e => by cases e⟩
    · exact ⟨some 0, rfl, fun f e => by cases e; decide⟩
    · exact ⟨some z, rfl, fun f e => by cases e; exact ⟨z0, z1⟩⟩
  exact long_rest T (bt _ _ (List_ne ok g1) g1) (bt _ _ (List_ne ok g2) g2) l1 l2 t1 t2 hh fun H' sm => k H' (bt.trans (But.of sm)) (ok10.same sm)
section
variable {P : Program} {w : World} {K : PySem.W.Frag} {mg : Str → Option Value} {base : Heap}
theorem scLawLongLacks : FnScope ["_law_hand_here", "_law_tones", "_law_other", "_law_one", "_law_head", "_law_told", "_law_at", "_law_tone_here"] ["_law_hand_here"] (defScope sLawLongLacks) := ⟨rfl, rfl, rfl, by decide +kernel, rfl, by decide +kernel, by decide +kernel⟩
theorem good_longLacks (T : Txt K mg) : Good P w K mg base CX0 8 "_law_long_lacks" ["_law_hand_here"] [] spHandTrue := by
  have G_law_take := good_take (P := P) (w := w) (base := base) T
  have G_law_pick := good_pick (P := P) (w := w) (base := base) T
  have G_law_varied := good_varied (P := P) (w := w) (base := base) T
  have G_law_hidden := good_hidden (P := P) (w := w) (base := base) T
  have G_law_strip := good_strip (P := P) (w := w) (base := base) T
  have G_law_whole := good_lwhole (P := P) (w := w) (base := base) T
  have G_law_line_run := good_lineRun (P := P) (w := w) (base := base) T
  have G_reach3 := good_reach3 (P := P) (w := w) (base := base) T
  refine good0 T.d_law_long_lacks T.g_law_long_lacks scLawLongLacks (fun _ _ _ _ _ _ us hl => match us, hl with | [_], _ => rfl) (fun vs H Q E h => ?_) (fun cdv A outer s H vs Q E hr h => ?_)
  · obtain ⟨hd, cells, rfl, _⟩ := h
    rfl
  · obtain ⟨hd, cells, rfl, ok, k⟩ := h
    refine ⟨_, (pss_cons
    (ps_set (i := 1) scLawLongLacks.nd rfl (Or.inr rfl) (pe_go G_law_pick hr (by decide) rfl (pa_cons (pv 0) (pa_cons (pe_lst (pa_cons (pe_int) (pa_cons (pe_int) (pa_cons (pe_int) pa_nil)))) pa_nil))))
    (pss_cons
    (ps_setLc (i := 2) (own := [("_law_at", 6)]) rfl scLawLongLacks.nd rfl rfl (sw_true rfl rfl rfl (by decide +kernel)) (pi_range1 rfl T.n_range (pa_cons (pe_op op_sub (pe_int) (pe_go G_law_take hr (by decide) rfl (pa_cons (pv 0) (pa_cons (pe_int) pa_nil)))) pa_nil)) (blkOk_by (N := ["_law_hand_here", "_law_tones", "_law_other", "_law_one", "_law_head", "_law_told", "_law_at", "_law_tone_here"]) (sc := defScope sLawLongLacks) (by decide +kernel)) (fun _ _ _ _ _ => (pg_name (i := 6) scLawLongLacks.nd rfl (Or.inl rfl))) (fun _ _ _ _ _ => pts_nil) (fun _ _ _ _ _ => (pe_go G_law_take hr (by decide) rfl (pa_cons (pv 0) (pa_cons (pv 1) pa_nil)))))
    (pss_cons
    (ps_setLc (i := 3) (own := [("_law_tone_here", 7)]) rfl scLawLongLacks.nd rfl rfl (sw_true rfl rfl rfl (by decide +kernel)) (pi_list (pv 2)) (blkOk_by (N := ["_law_hand_here", "_law_tones", "_law_other", "_law_one", "_law_head", "_law_told", "_law_at", "_law_tone_here"]) (sc := defScope sLawLongLacks) (by decide +kernel)) (fun _ _ _ _ _ => (pg_name (i := 7) scLawLongLacks.nd rfl (Or.inl rfl))) (fun _ _ _ _ _ => pts_one (pt_cmpR op_gt (pe_go G_law_take hr (by decide) rfl (pa_cons (pv 0) (pa_cons (pe_int) pa_nil))) (pe_int) (nomark _))) (fun _ _ _ _ _ => (pv 7)))
    (pss_cons
    (ps_if (pt_cmpR op_gt (pe_go G_law_take hr (by decide) rfl (pa_cons (pv 0) (pa_cons (pe_int) pa_nil))) (pe_int) (nomark _)) (pss_one
      (ps_set (i := 3) scLawLongLacks.nd rfl (Or.inl rfl) (pe_go G_law_varied hr (by decide) rfl (pa_cons (pv 0) (pa_cons (pv 2) (pa_cons (pv 1) (pa_cons (pe_int) pa_nil))))))) pss_nil)
    (pss_cons
    (ps_set (i := 4) scLawLongLacks.nd rfl (Or.inl rfl) (pe_go G_law_pick hr (by decide) rfl (pa_cons (pv 0) (pa_cons (pe_lst (pa_cons (pe_non) (pa_cons (pe_int) (pa_cons (pe_ix ix_list (pe_op op_cat (pv 3) (pe_lst (pa_cons (pe_int) pa_nil))) (pe_int) (fun _ _ => rfl)) pa_nil)))) pa_nil))))
    (pss_cons
    (ps_set (i := 5) scLawLongLacks.nd rfl (Or.inl rfl) (pe_goX G_reach3 hr (by decide) rfl no_pass (pa_cons (pv 3) (pa_cons (pv 2) (pa_cons (pv 4) pa_nil)))))
    (pss_cons
    (ps_if (pt_val (pe_go G_law_hidden hr (by decide) rfl (pa_cons (pe_go G_law_strip hr (by decide) rfl (pa_cons (pv 3) (pa_cons (pv 4) pa_nil))) (pa_cons (pv 2) pa_nil)))) (pss_one
      (ps_ret (pe_cmpR op_isN (pv 5) (pe_non) (nomark _)))) pss_nil)
    (pss_cons
    (ps_if (PW.pt (pw_or (pt_not (pt_val (pe_callB call_isi (by rfl) T.n_isinstance (by decide +kernel) (pa_cons (pv 5) (pa_cons (pe_glob rfl T.g_PartingLine rfl (v := .ref (cPL K))) pa_nil))))) (pw_or (pt_not (pt_val (pe_callB call_isi (by rfl) T.n_isinstance (by decide +kernel) (pa_cons (pe_fld (pv 5) rfl) (pa_cons (pe_bltn rfl T.n_tuple (v := .ty "tuple") (u := .type "tuple") (by decide +kernel) rfl) pa_nil))))) (pw_or1 (pt_not (pt_chain op_lt op_le (pe_int) (pe_callB call_len_seq (by rfl) T.n_len PySem.boot_len (pa_cons (pe_fld (pv 5) rfl) pa_nil)) (pe_int))))))) (pss_one
      (ps_ret (pe_bl))) pss_nil)
    (pss_cons
    (ps_if (pt_cmpR (op_neD (hu64 hr)) (pe_lc (own := [("_law_tone_here", 7)]) rfl scLawLongLacks.nd (pi_tup (pe_fld (pv 5) rfl)) (blkOk_by (N := ["_law_hand_here", "_law_tones", "_law_other", "_law_one", "_law_head", "_law_told", "_law_at", "_law_tone_here"]) (sc := defScope sLawLongLacks) (by decide +kernel)) (fun _ _ _ _ _ => (pg_name (i := 7) scLawLongLacks.nd rfl (Or.inl rfl))) (fun _ _ _ _ _ => pts_one (PW.pt (pw_or (pt_not (pt_val (pe_go G_law_whole hr (by decide) rfl (pa_cons (pv 7) pa_nil)))) (pw_or (pt_cmpR op_lt (pv 7) (pe_int) (nomark _)) (pw_or1 (pt_cmpR op_gt (pv 7) (pe_int) (nomark _))))))) (fun _ _ _ _ _ => (pe_int))) (pe_lst pa_nil) (nomark _)) (pss_one
      (ps_ret (pe_bl))) pss_nil)
    (pss_cons
    (ps_if (PW.pt (pw_and (pt_cmpR op_notN (pv 4) (pe_non) (nomark _)) (pw_and1 (pt_cmpR op_ne (pe_ix ix_tup (pe_fld (pv 5) rfl) (pe_int) (fun _ _ => rfl)) (pv 4) (nomark _))))) (pss_one
      (ps_ret (pe_bl))) pss_nil)
    (pss_one
    (ps_ret ((pe_and (pe_cmpR op_eq (pe_callB call_len_setO (by rfl) T.n_len PySem.boot_len (pa_cons (pe_callTy (call_setI rfl) (by rfl) T.n_set (by decide +kernel) (pa_cons (pe_go G_law_line_run hr (by decide) rfl (pa_cons (pe_fld (pv 5) rfl) (pa_cons (pv 3) pa_nil))) pa_nil)) pa_nil)) (pe_int) (nomark _)) (pe_one (pe_cmpR op_gt (pe_callB call_len_setO (by rfl) T.n_len PySem.boot_len (pa_cons (pe_callTy (call_setI rfl) (by rfl) T.n_set (by decide +kernel) (pa_cons (pe_go G_law_line_run hr (by decide) rfl (pa_cons (pe_fld (pv 5) rfl) (pa_cons (pv 2) pa_nil))) pa_nil)) pa_nil)) (pe_int) (nomark _))))))))))))))))), ?_⟩
    refine ⟨_, rfl, Nat.le_of_lt (smallLine (by simp)), fun q hq => ?_⟩
    generalize hH1 : upd _ q _ = H1
    obtain ⟨s1, h1⟩ := got hH1 hq
    refine ⟨hd, cells, q, _, rfl, ok.same s1, h1, (ok.off hq).1, by simp, by simp, fun v H2 hvm b2 ok2 => ?_⟩
    obtain ⟨m, rfl, hm, hm2⟩ : ∃ m : Int, v = .int m ∧ 0 < m ∧ m ≤ 100 := by
      simp only [List.mem_cons, List.not_mem_nil, or_false] at hvm
      rcases hvm with rfl | rfl | rfl <;> exact ⟨_, rfl, by decide, by decide⟩
    have b02 : But hd H H2 := (But.of s1).trans b2
    refine ⟨_, rfl, hd, cells, 3, rfl, ok2, by decide, by decide, fun r H3 r0 r1 b3 ok3 => ⟨40, r, rfl, rfl, _, rfl, by omega, by omega, fun D2 hD2 => ?_⟩⟩
    have b03 := b02.trans b3
    have off : ∀ {Hx : Hp} {Dx : Addr}, But hd H Hx → HandOk hd cells Hx → Hx Dx = none → H Dx = none := fun {Hx Dx} b okx hx => by
      cases q : H Dx with
      | none => rfl
      | some u =>
        rw [b _ _ (okx.off hx).1 q] at hx
        cases hx
    obtain ⟨n1, n2⟩ := ok3.off hD2
    have hD20 := off b03 ok3 hD2
    refine lc_range (fun i H' => But hd H H' ∧ HandOk hd cells H' ∧ ∃ ns : List Int, H' D2 = some (.lst (iv ns)) ∧ ns.length = i ∧ Tones ns) ⟨fun b u nb h => ?_, ok3.out n1 n2, [], upd_same, rfl, fun t h => by cases h⟩ ?_ ?_
    · rw [upd_ne (fun e => by rw [e, hD20] at h; cases h)]
      exact b03 b u nb h
    · rintro i H4 hi ⟨b4, ok4, ns, hns, hl, tn⟩
      refine ⟨rfl, ?_⟩
      refine ⟨_, rfl, _, rfl, hd, cells, m, rfl, ok4, hm, by omega, fun z H5 z0 z1 b5 ok5 => ⟨iv ns, b5 _ _ n1 hns, smallLine (by rw [iv_len]; omega), fun b u nb h => ?_, ok5.out n1 n2, ns ++ [z], ?_, by rw [List.length_append, hl]; rfl, fun t ht => ?_⟩⟩
      · rw [upd_ne (fun e => by rw [e, hD20] at h; cases h)]
        exact b5 _ _ nb (b4 _ _ nb h)
      · rw [upd_same]
        unfold iv
        rw [List.map_append]
        rfl
      · rcases List.mem_append.mp ht with q | q
        · exact tn t q
        · rw [List.mem_singleton.mp q]
          exact ⟨z0, by omega⟩
    · rintro H4 ⟨b4, ok4, other, ho, hl, to⟩
      have lo : other.length ≤ 40 := by omega
      refine ⟨_, rfl, D2, rfl, ⟨_, SqL.of ho⟩, fun D3 hD3 => ?_⟩
      obtain ⟨m1, m2⟩ := ok4.off hD3
      have n23 : D2 ≠ D3 := ne_of_none ho hD3
      have hD30 := off b4 ok4 hD3
      refine lc_list (xs := iv other) (fun i H' => But hd H H' ∧ HandOk hd cells H' ∧ H' D2 = some (.lst (iv other)) ∧ ∃ ns : List Int, H' D3 = some (.lst (iv ns)) ∧ ns.length ≤ i ∧ Tones ns) ⟨fun b u nb h => ?_, ok4.out m1 m2, by rw [upd_ne n23]; exact ho, [], upd_same, Nat.zero_le _, fun t h => by cases h⟩ (fun i H' _ ⟨_, _, h, _⟩ => SqL.of h) ?_ ?_
      · rw [upd_ne (fun e => by rw [e, hD30] at h; cases h)]
        exact b4 b u nb h
      · rintro i x H5 hx ⟨b5, ok5, ho5, ns, hns, hl, tn⟩
        obtain ⟨z, hz, rfl⟩ := iv_get hx
        have hlt := lt_of_get hz
        refine ⟨rfl, ?_⟩
        refine ⟨_, rfl, hd, cells, 8, rfl, ok5, by decide, by decide, fun r H6 _ _ b6 ok6 => ⟨_, _, rfl, rfl, _, rfl, ?_⟩⟩
        have ho6 := b6 _ _ n1 ho5
        have hns6 := b6 _ _ m1 hns
        by_cases cr : 0 < r
        · refine iteT' (decide_eq_true cr) ⟨_, rfl, iv ns, hns6, smallLine (by rw [iv_len]; omega), fun b u nb h => ?_, ok6.out m1 m2, by rw [upd_ne n23]; exact ho6, ns ++ [z], ?_, by rw [List.length_append]; exact Nat.succ_le_succ hl, fun t ht => ?_⟩
          · rw [upd_ne (fun e => by rw [e, hD30] at h; cases h)]
            exact b6 _ _ nb (b5 _ _ nb h)
          · rw [upd_same]
            unfold iv
            rw [List.map_append]
            rfl
          · rcases List.mem_append.mp ht with q | q
            · exact tn t q
            · rw [List.mem_singleton.mp q]
              exact to z (List.mem_of_getElem? hz)
        · exact iteF' (decide_eq_false cr) ⟨b5.trans b6, ok6, ho6, ns, hns6, by omega, tn⟩
      · rintro H5 ⟨b5, ok5, ho5, ns, hns, hl, tn⟩
        rw [iv_len] at hl
        refine ⟨_, rfl, hd, cells, 3, rfl, ok5, by decide, by decide, fun r H6 _ _ b6 ok6 => ⟨_, _, rfl, rfl, _, rfl, ?_⟩⟩
        have ho6 := b6 _ _ n1 ho5
        have hns6 := b6 _ _ m1 hns
        have b06 := b5.trans b6
        by_cases cr : 0 < r
        · refine iteT' (decide_eq_true cr) ⟨_, rfl, _, rfl, _, rfl, hd, cells, D2, other, m, 40, rfl, ok6, ho6, by omega, to, hm, hm2, fun ms H7 p lp cp b7 ok7 hp h7 => ?_⟩
          exact long_head T ok7 h7 (b7 _ _ n1 ho6) lp lo cp to fun H' b' ok' => k H' ((b06.trans b7).trans b') ok'
        · refine iteF' (decide_eq_false cr) ?_
          exact long_head T ok6 hns6 ho6 (by omega) lo tn to fun H' b' ok' => k H' (b06.trans b') ok'
end
end K21
end
section
set_option Elab.async false
set_option linter.all false
set_option maxRecDepth 100000
set_option maxHeartbeats 4000000
/-! the law itself -/
namespace K21
open PySem PySem.Spec PyProof.Rows L2
def spLaw (K : PySem.W.Frag) : Sp := fun vs H Q _ => ∃ (a : Addr) (ns : List Int), vs = [.ref a] ∧ SqL K H a (ns.map V.int) ∧ ns.length ≤ 63 ∧ ∀ H', Q (.bl true) H'
theorem scLaw : FnScope ["_law_script", "_law_hand_here", "_law_turn"] ["_law_script"] (defScope sLaw) := ⟨rfl, rfl, rfl, by decide +kernel, rfl, by decide +kernel, by decide +kernel⟩
theorem ok_law {P : Program} {w : World} {K : PySem.W.Frag} {mg : Str → Option Value} {base : Heap} {fd : FuncData} (T : Txt K mg) (F : FnP K "law" "law" sLaw [] (He.ga K "law") fd) : FnOk P w K mg base CX0 20 (He.ga K "law") fd ["_law_script"] (spLaw K) := by
  have G_law_take := good_take (P := P) (w := w) (base := base) T
  have G_law_hand := good_hand (P := P) (w := w) (base := base) T
  have G_law_lacks := good_lacks (P := P) (w := w) (base := base) T
  have G_law_over := good_over (P := P) (w := w) (base := base) T
  have G_law_long_lacks := good_longLacks (P := P) (w := w) (base := base) T
  have G_law_bad_row := good_badRow (P := P) (w := w) (base := base) T
  refine F.ok scLaw (fun vs H Q E h => ?_) (fun cdv A outer s H vs Q E hr h => ?_)
  · obtain ⟨a, ns, rfl, _⟩ := h
    rfl
  · obtain ⟨a, ns, rfl, hS, hl, k⟩ := h
    refine ⟨_, PSs.nox ((pss_cons
    (ps_set (i := 1) scLaw.nd rfl (Or.inl rfl) (pe_go G_law_hand hr (by decide) rfl (pa_cons (pv 0) pa_nil)))
    (pss_cons
    (ps_for PassesOwn.never rfl (pi_range1 rfl T.n_range (pa_cons (pe_int) pa_nil)) (pg_name (i := 2) scLaw.nd rfl (Or.inl rfl)) (pss_one
      (ps_if (PW.pt (pw_or (pt_not (pt_val (pe_go G_law_lacks hr (by decide) rfl (pa_cons (pv 1) pa_nil)))) (pw_or1 (pt_not (pt_val (pe_go G_law_over hr (by decide) rfl (pa_cons (pv 1) pa_nil))))))) (pss_one
        (ps_ret (pe_bl))) pss_nil)))
    (pss_cons
    (ps_if (PW.pt (pw_and (pt_cmpR op_eq (pe_go G_law_take hr (by decide) rfl (pa_cons (pv 1) (pa_cons (pe_int) pa_nil))) (pe_int) (nomark _)) (pw_and1 (pt_not (pt_val (pe_go G_law_long_lacks hr (by decide) rfl (pa_cons (pv 1) pa_nil))))))) (pss_one
      (ps_ret (pe_bl))) pss_nil)
    (pss_one
    (ps_ret (pe_go G_law_bad_row hr (by decide) rfl (pa_cons (pv 1) pa_nil)))))))), ?_⟩
    refine ⟨_, rfl, a, ns, rfl, hS, by omega, fun H1 hd cells s1 ok1 => ?_⟩
    refine ⟨_, rfl, by decide, by decide, for_range (fun i σ H' => ∃ v2 : Option V, σ = [some (.ref a), some (.ref hd), v2] ∧ HandOk hd cells H') ⟨none, rfl, ok1⟩ ?_ ?_⟩
    · rintro i σ H2 hi ⟨v2, rfl, ok2⟩
      refine ⟨_, rfl, hd, cells, rfl, ok2, fun H3 b3 ok3 => ⟨_, rfl, iteF' rfl ⟨_, rfl, hd, cells, rfl, ok3, fun H4 b4 ok4 => ⟨_, rfl, iteF' rfl ⟨_, rfl, ok4⟩⟩⟩⟩⟩
    · rintro σ H2 ⟨v2, rfl, ok2⟩
      refine ⟨_, rfl, hd, cells, 4, rfl, ok2, by decide, by decide, fun r H3 r0 r1 b3 ok3 => ?_⟩
      have last : ∀ H4, HandOk hd cells H4 → tRet (tCall spHandTrue [] E0 (tCons (tVar 1) tNil)) { nx := fun _ H' => Q V.non H', rt := Q } [some (.ref a), some (.ref hd), v2] H4 := fun H4 ok4 => ⟨_, rfl, hd, cells, rfl, ok4, fun H5 _ _ => k H5⟩
      by_cases c : (V.int r) = V.int 0
      · refine ⟨rfl, _, rfl, iteT' (decide_eq_true c) ?_⟩
        exact ⟨_, rfl, hd, cells, rfl, ok3, fun H4 b4 ok4 => ⟨_, rfl, iteF' rfl (last H4 ok4)⟩⟩
      · exact ⟨rfl, _, rfl, iteF' (decide_eq_false c) (iteF' rfl (last H3 ok3))⟩
end K21
end
set_option Elab.async false
set_option linter.all false
set_option maxRecDepth 100000
set_option maxHeartbeats 4000000
namespace K21
open PySem PySem.Spec PyProof.Rows L2
theorem the_end {P : Program} {w : World} {h : Heap} {K : PySem.W.Frag} {mg : Str → Option Value} {f : Addr} (X : K.In h) (G : h.Ns mainGlobals mg) (hfa : mg ("law" : Str) = some (.ref f)) (c : He.SaysX facts fns [] [] exB w h K) :
    ∃ fd : FuncData, (∀ (s : Shared) (v : Value), BindsTo s fd ⟨[v], []⟩ [("_law_script", v)]) ∧ ∀ base : Heap, K.In base → base.Ns mainGlobals mg → FnOk P w K mg base CX0 20 f fd ["_law_script"] (spLaw K) := by
  have T := txt_of X G c
  obtain ⟨fd, F⟩ := T.d_law
  have e := hfa.symm.trans T.g_law
  cases e
  have b := FunD.bindsA (ps := ["_law_script"]) F fun _ _ _ _ _ _ us hl => match us, hl with | [_], _ => rfl
  exact ⟨fd, fun s v => b s [v] rfl, fun base _ _ => ok_law T F⟩
end K21
open PySem PySem.W PySem.Calls PyProof.Rows
theorem PySem.Challenge.cw_spreadhues_k21_whole_rows_that_reach_mor_holds : PySem.Challenge.rw_spreadhues_k21_whole_rows_that_reach_mor.Holds := by
  w_on; o_law
  refine HandSHeadRun.head_any (r := K21.R) (q := view K21.R.prog [52]) (H := K21.hk) (ob := K21.ob) (M := 3000) (loose := K21.names) (d := HandSHeadRun.topDef K21.R.prog 52) (kwd := []) K21.ob_eq
    (by kernel_rfl) (fun s => by kernel_rfl) K21.headRun (by kernel_rfl) (by kernel_rfl) (by kernel_rfl) (by rfl) (by first | assumption | decide +kernel) (by decide +kernel) ⟨rfl, rfl, rfl, rfl, rfl, by decide +kernel⟩ ?hw ?hc
  case hw => w_witness2
  case hc =>
    refine L2.walk_ofE (l := PySem.Challenge.rw_spreadhues_k21_whole_rows_that_reach_mor) (n := 63) (k := 20) (x := "_law_script") (CX := L2.CX0) rfl (by decide) (by kernel_rfl) ⟨rfl, by decide, by decide⟩ ?F (fun _ _ _ _ z => z)
    intro w mg fa h Y G hmg0
    obtain ⟨K, KX, c⟩ := Y
    have hmg : mg ("law" : PySem.Str) = some (.ref fa) := by
      have e : (HandSHeadRun.topDef K21.R.prog 52).name = ("law" : PySem.Str) := by kernel_rfl
      rw [← e]
      exact hmg0
    obtain ⟨fd, hb, hF⟩ := K21.the_end (P := (PySem.Challenge.rw_spreadhues_k21_whole_rows_that_reach_mor).prog) (w := w) KX G hmg c
    exact ⟨K, fd, K21.spLaw K, KX, hb, fun H a ns hl _ hS => ⟨a, ns, rfl, hS, hl, fun _ => rfl⟩, hF⟩
