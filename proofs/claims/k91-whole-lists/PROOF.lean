import PyProof.Rows.All
import Wide.All
import OpenK.AllK
import Wide.FinOn
import HandS.ForMost
import HandS.Defaults
import HandS.GenCall
import KE.KStateDown
import HandS.Head0
import HandS.Head1
import HandS.Head2
import HandS.HeadEnd
import HandS.HeadHook1
import HandS.HeadHook2
import HandS.GenList
import PyProof.TupleOfSeq
import KE.KStar
import HandS.GenYield
import HandS.Comp
import HandS.MakeKwOnly
import HandS.Deep
import HandS.SortInts
import KE.SortData
import HandS.IsInst
import HandS.TupAny
import PyProof.Transfer
import HandS.Iter
import HandS.Conv
import HandS.SetFor
import KE.DataFind
import HandS.BoundList
import HandS.Zip
import KE.GoesEnumKw
import HandS.Flow
import PyProof.EnumMake
import PyProof.Draws
import KE.GoesMore
import HandS.Dict
import PySem.Challenge.RW_crossrank_k91_whole_lists_and_places
set_option Elab.async false
set_option linter.all false
set_option maxRecDepth 100000
/-! The text of the row by places: its defs and their names. Printed by gen_t.py. -/
namespace K91
open PySem L2
def top (i : Nat) : Stmt := PySem.Challenge.pw_crossrank_k91_whole_lists_and_places.main.body.getD i (.Pass ⟨0, 0, 0, 0⟩)
abbrev sIsInt : Stmt := top 10
abbrev sIsBtw : Stmt := top 11
abbrev sIsLess : Stmt := top 13
abbrev sFaults : Stmt := top 26
abbrev sNeedS : Stmt := top 27
abbrev sIsSorted : Stmt := top 28
abbrev sMayNext : Stmt := top 29
abbrev sFirstL : Stmt := top 30
abbrev sIsOnly : Stmt := top 31
abbrev sCInit : Stmt := inClass (top 34) 0
abbrev sCBelow : Stmt := inClass (top 34) 1
abbrev sCNext : Stmt := inClass (top 34) 2
abbrev sCFrom : Stmt := inClass (top 34) 3
abbrev sCountL : Stmt := top 35
abbrev sLists : Stmt := top 36
abbrev sListAt : Stmt := top 37
abbrev sIndexOf : Stmt := top 38
abbrev sPlaces : Stmt := top 40
abbrev sNeedV : Stmt := top 41
abbrev sSteps : Stmt := top 42
abbrev sAfter : Stmt := top 43
abbrev sLPen : Stmt := top 45
abbrev sLDraw : Stmt := top 46
abbrev sLNum : Stmt := top 47
abbrev sLNames : Stmt := top 48
abbrev sLVal : Stmt := top 49
abbrev sLBag : Stmt := top 50
abbrev sLMarks : Stmt := top 51
abbrev sLLower : Stmt := top 52
abbrev sLFault : Stmt := top 53
abbrev sLInv : Stmt := top 54
abbrev sLPat : Stmt := top 55
abbrev sLSortable : Stmt := top 56
abbrev sLOrders : Stmt := top 57
abbrev sLAll : Stmt := top 58
abbrev sLNumR : Stmt := top 59
abbrev sLPlaces : Stmt := top 60
abbrev sLaw : Stmt := top 61
theorem cIsInt : FnScope ["thing"] ["thing"] (defScope sIsInt) :=
  ⟨rfl, rfl, rfl, by decide +kernel, rfl, by decide +kernel, by decide +kernel⟩
theorem cIsBtw : FnScope ["thing", "low", "high"] ["thing", "low", "high"] (defScope sIsBtw) :=
  ⟨rfl, rfl, rfl, by decide +kernel, rfl, by decide +kernel, by decide +kernel⟩
theorem cIsLess : FnScope ["a", "b", "converted"] ["a", "b", "converted"] (defScope sIsLess) :=
  ⟨rfl, rfl, rfl, by decide +kernel, rfl, by decide +kernel, by decide +kernel⟩
theorem gFaults : GScope ["row", "converted", "i", "j"] ["row", "converted"] (defScope sFaults) :=
  ⟨rfl, rfl, rfl, by decide +kernel, rfl, by decide +kernel, by decide +kernel⟩
theorem cNeedS : FnScope ["row", "converted", "i", "j"] ["row", "converted"] (defScope sNeedS) :=
  ⟨rfl, rfl, rfl, by decide +kernel, rfl, by decide +kernel, by decide +kernel⟩
theorem cIsSorted : FnScope ["row", "converted", "fault"] ["row", "converted"] (defScope sIsSorted) :=
  ⟨rfl, rfl, rfl, by decide +kernel, rfl, by decide +kernel, by decide +kernel⟩
theorem cMayNext : FnScope ["left", "converted"] ["left", "converted"] (defScope sMayNext) :=
  ⟨rfl, rfl, rfl, by decide +kernel, rfl, by decide +kernel, by decide +kernel⟩
theorem cFirstL : FnScope ["values", "converted", "left", "found", "free"] ["values", "converted"] (defScope sFirstL) :=
  ⟨rfl, rfl, rfl, by decide +kernel, rfl, by decide +kernel, by decide +kernel⟩
theorem cIsOnly : FnScope ["row", "converted", "ascends"] ["row", "converted"] (defScope sIsOnly) :=
  ⟨rfl, rfl, rfl, by decide +kernel, rfl, by decide +kernel, by decide +kernel⟩
theorem cCInit : FnScope ["self", "values", "converted", "first"] ["self", "values", "converted"] (defScope sCInit) :=
  ⟨rfl, rfl, rfl, by decide +kernel, rfl, by decide +kernel, by decide +kernel⟩
theorem cCBelow : FnScope ["self", "value", "converted"] ["self", "value", "converted"] (defScope sCBelow) :=
  ⟨rfl, rfl, rfl, by decide +kernel, rfl, by decide +kernel, by decide +kernel⟩
theorem cCNext : FnScope ["self", "first"] ["self", "first"] (defScope sCNext) :=
  ⟨rfl, rfl, rfl, by decide +kernel, rfl, by decide +kernel, by decide +kernel⟩
theorem gCFrom : GScope ["self", "first", "k", "rest"] ["self", "first"] (defScope sCFrom) :=
  ⟨rfl, rfl, rfl, by decide +kernel, rfl, by decide +kernel, by decide +kernel⟩
theorem cCountL : FnScope ["values", "converted"] ["values", "converted"] (defScope sCountL) :=
  ⟨rfl, rfl, rfl, by decide +kernel, rfl, by decide +kernel, by decide +kernel⟩
theorem gLists : GScope ["values", "limit", "converted", "counts"] ["values", "limit", "converted"] (defScope sLists) :=
  ⟨rfl, rfl, rfl, by decide +kernel, rfl, by decide +kernel, by decide +kernel⟩
theorem cListAt : FnScope ["values", "index", "converted", "counts", "found", "first", "k", "many"] ["values", "index", "converted"] (defScope sListAt) :=
  ⟨rfl, rfl, rfl, by decide +kernel, rfl, by decide +kernel, by decide +kernel⟩
theorem cIndexOf : FnScope ["row", "converted", "counts", "found", "first", "value", "place"] ["row", "converted"] (defScope sIndexOf) :=
  ⟨rfl, rfl, rfl, by decide +kernel, rfl, by decide +kernel, by decide +kernel⟩
theorem cPlaces : FnScope ["row", "value", "converted", "low", "high", "k", "other"] ["row", "value", "converted"] (defScope sPlaces) :=
  ⟨rfl, rfl, rfl, by decide +kernel, rfl, by decide +kernel, by decide +kernel⟩
theorem cNeedV : FnScope ["row", "other", "alone"] ["row", "other"] (defScope sNeedV) :=
  ⟨rfl, rfl, rfl, by decide +kernel, rfl, by decide +kernel, by decide +kernel⟩
theorem cSteps : FnScope ["row", "other", "converted", "now", "steps", "place", "value", "index"] ["row", "other", "converted"] (defScope sSteps) :=
  ⟨rfl, rfl, rfl, by decide +kernel, rfl, by decide +kernel, by decide +kernel⟩
theorem cAfter : FnScope ["row", "steps", "converted", "now", "k", "index"] ["row", "steps", "converted"] (defScope sAfter) :=
  ⟨rfl, rfl, rfl, by decide +kernel, rfl, by decide +kernel, by decide +kernel⟩
theorem cLPen : FnScope ["_law_script"] ["_law_script"] (defScope sLPen) :=
  ⟨rfl, rfl, rfl, by decide +kernel, rfl, by decide +kernel, by decide +kernel⟩
theorem cLDraw : FnScope ["_law_pen_here", "_law_many", "_law_digit", "_law_at", "_law_cell", "_law_great", "_law_mixed"] ["_law_pen_here", "_law_many"] (defScope sLDraw) :=
  ⟨rfl, rfl, rfl, by decide +kernel, rfl, by decide +kernel, by decide +kernel⟩
theorem cLNum : FnScope ["_law_pen_here", "_law_high", "_law_far"] ["_law_pen_here", "_law_high"] (defScope sLNum) :=
  ⟨rfl, rfl, rfl, by decide +kernel, rfl, by decide +kernel, by decide +kernel⟩
theorem cLNames : FnScope ["_law_pen_here", "_law_many", "_law_left"] ["_law_pen_here", "_law_many"] (defScope sLNames) :=
  ⟨rfl, rfl, rfl, by decide +kernel, rfl, by decide +kernel, by decide +kernel⟩
theorem cLVal : FnScope ["_law_pen_here", "_law_names_here", "_law_high", "_law_way", "_law_kind", "_law_own", "_law_measure", "_law_near", "_law_few"] ["_law_pen_here", "_law_names_here", "_law_high", "_law_way"] (defScope sLVal) :=
  ⟨rfl, rfl, rfl, by decide +kernel, rfl, by decide +kernel, by decide +kernel⟩
theorem cLBag : FnScope ["_law_pen_here", "_law_most", "_law_names_here", "_law_high", "_law_way", "_law_found", "_law_k", "_law_one"] ["_law_pen_here", "_law_most"] (defScope sLBag) :=
  ⟨rfl, rfl, rfl, by decide +kernel, rfl, by decide +kernel, by decide +kernel⟩
theorem cLMarks : FnScope ["_law_pen_here", "_law_bag_here", "_law_some"] ["_law_pen_here", "_law_bag_here"] (defScope sLMarks) :=
  ⟨rfl, rfl, rfl, by decide +kernel, rfl, by decide +kernel, by decide +kernel⟩
theorem cLLower : FnScope ["_law_one", "_law_mate", "_law_marks_here"] ["_law_one", "_law_mate", "_law_marks_here"] (defScope sLLower) :=
  ⟨rfl, rfl, rfl, by decide +kernel, rfl, by decide +kernel, by decide +kernel⟩
theorem cLFault : FnScope ["_law_line", "_law_marks_here", "_law_i", "_law_j"] ["_law_line", "_law_marks_here"] (defScope sLFault) :=
  ⟨rfl, rfl, rfl, by decide +kernel, rfl, by decide +kernel, by decide +kernel⟩
theorem cLInv : FnScope ["_law_bag_here", "_law_marks_here", "_law_one", "_law_plain", "_law_found", "_law_mate"] ["_law_bag_here", "_law_marks_here"] (defScope sLInv) :=
  ⟨rfl, rfl, rfl, by decide +kernel, rfl, by decide +kernel, by decide +kernel⟩
theorem cLPat : FnScope ["_law_bag_here", "_law_marks_here", "_law_some", "_law_line", "_law_ends", "_law_one", "_law_mate", "_law_third", "_law_fourth"] ["_law_bag_here", "_law_marks_here"] (defScope sLPat) :=
  ⟨rfl, rfl, rfl, by decide +kernel, rfl, by decide +kernel, by decide +kernel⟩
theorem cLSortable : FnScope ["_law_pen_here", "_law_most", "_law_bag_here", "_law_marks_here", "_law_circle", "_law_out"] ["_law_pen_here", "_law_most"] (defScope sLSortable) :=
  ⟨rfl, rfl, rfl, by decide +kernel, rfl, by decide +kernel, by decide +kernel⟩
theorem cLOrders : FnScope ["_law_items", "_law_found", "_law_k"] ["_law_items"] (defScope sLOrders) :=
  ⟨rfl, rfl, rfl, by decide +kernel, rfl, by decide +kernel, by decide +kernel⟩
theorem cLAll : FnScope ["_law_bag_here", "_law_marks_here"] ["_law_bag_here", "_law_marks_here"] (defScope sLAll) :=
  ⟨rfl, rfl, rfl, by decide +kernel, rfl, by decide +kernel, by decide +kernel⟩
theorem cLNumR : FnScope ["_law_bag_here", "_law_marks_here", "_law_due", "_law_k"] ["_law_bag_here", "_law_marks_here", "_law_due"] (defScope sLNumR) :=
  ⟨rfl, rfl, rfl, by decide +kernel, rfl, by decide +kernel, by decide +kernel⟩
theorem cLPlaces : FnScope ["_law_bag_here", "_law_marks_here", "_law_due", "_law_one", "_law_rest", "_law_left", "_law_found", "_law_line", "_law_told"] ["_law_bag_here", "_law_marks_here", "_law_due", "_law_one"] (defScope sLPlaces) :=
  ⟨rfl, rfl, rfl, by decide +kernel, rfl, by decide +kernel, by decide +kernel⟩
theorem cLaw : FnScope ["_law_script", "_law_pen_here", "_law_turn", "_law_bag_here", "_law_marks_here", "_law_due", "_law_one", "_law_again", "_law_line", "_law_mate"] ["_law_script"] (defScope sLaw) :=
  ⟨rfl, rfl, rfl, by decide +kernel, rfl, by decide +kernel, by decide +kernel⟩
end K91
set_option Elab.async false
set_option linter.all false
set_option maxRecDepth 100000
set_option maxHeartbeats 0
/-! The head: facts by names, the run of the top. Printed by gen_t.py. -/
namespace K91
open PySem PySem.Spec PyProof.Rows L2
/-- where the default of a keyword-only parameter stands -/
def kwAt (f : Str × Option Str) (x : Str) (K : PySem.W.Frag) : Addr := match K.lookup (He.fAd K f) with
  | some ⟨_, _, .func fd, _⟩ => (match fd.kwdefaults with
    | .ref D => (match PySem.W.nsIn K D x with
      | some (some (.ref a)) => a
      | _ => 0)
    | _ => 0)
  | _ => 0
def emptyAt (K : PySem.W.Frag) (a : Addr) : Bool := match K.lookup a with
  | some ⟨.type c, _, .seq its _, _⟩ => decide (c = "tuple") && decide (its.size = 0)
  | _ => false
def dIsInt : He.DefD := ⟨("is_integer", none), "is_integer", "is_integer", defArgs sIsInt, defBody sIsInt, defScope sIsInt, [], []⟩
def dIsBtw : He.DefD := ⟨("is_between", none), "is_between", "is_between", defArgs sIsBtw, defBody sIsBtw, defScope sIsBtw, [], []⟩
def dIsLess : He.DefD := ⟨("is_less", none), "is_less", "is_less", defArgs sIsLess, defBody sIsLess, defScope sIsLess, [], [("converted", .adr (kwAt ("is_less", none) "converted"))]⟩
def dFaults : He.DefD := ⟨("faults", none), "faults", "faults", defArgs sFaults, defBody sFaults, defScope sFaults, [], [("converted", .adr (kwAt ("faults", none) "converted"))]⟩
def dNeedS : He.DefD := ⟨("need_sorted", none), "need_sorted", "need_sorted", defArgs sNeedS, defBody sNeedS, defScope sNeedS, [], []⟩
def dIsSorted : He.DefD := ⟨("is_sorted", none), "is_sorted", "is_sorted", defArgs sIsSorted, defBody sIsSorted, defScope sIsSorted, [], [("converted", .adr (kwAt ("is_sorted", none) "converted"))]⟩
def dMayNext : He.DefD := ⟨("may_come_next", none), "may_come_next", "may_come_next", defArgs sMayNext, defBody sMayNext, defScope sMayNext, [], []⟩
def dFirstL : He.DefD := ⟨("first_list", none), "first_list", "first_list", defArgs sFirstL, defBody sFirstL, defScope sFirstL, [], [("converted", .adr (kwAt ("first_list", none) "converted"))]⟩
def dIsOnly : He.DefD := ⟨("is_only_list", none), "is_only_list", "is_only_list", defArgs sIsOnly, defBody sIsOnly, defScope sIsOnly, [], [("converted", .adr (kwAt ("is_only_list", none) "converted"))]⟩
def dCInit : He.DefD := ⟨("Counts", some "__init__"), "__init__", "Counts.__init__", defArgs sCInit, defBody sCInit, defScope sCInit, [], []⟩
def dCBelow : He.DefD := ⟨("Counts", some "set_below"), "set_below", "Counts.set_below", defArgs sCBelow, defBody sCBelow, defScope sCBelow, [], []⟩
def dCNext : He.DefD := ⟨("Counts", some "next_values"), "next_values", "Counts.next_values", defArgs sCNext, defBody sCNext, defScope sCNext, [], []⟩
def dCFrom : He.DefD := ⟨("Counts", some "lists_from"), "lists_from", "Counts.lists_from", defArgs sCFrom, defBody sCFrom, defScope sCFrom, [], []⟩
def dCountL : He.DefD := ⟨("count_lists", none), "count_lists", "count_lists", defArgs sCountL, defBody sCountL, defScope sCountL, [], [("converted", .adr (kwAt ("count_lists", none) "converted"))]⟩
def dLists : He.DefD := ⟨("lists", none), "lists", "lists", defArgs sLists, defBody sLists, defScope sLists, [], [("limit", .int 1000), ("converted", .adr (kwAt ("lists", none) "converted"))]⟩
def dListAt : He.DefD := ⟨("list_at", none), "list_at", "list_at", defArgs sListAt, defBody sListAt, defScope sListAt, [], [("converted", .adr (kwAt ("list_at", none) "converted"))]⟩
def dIndexOf : He.DefD := ⟨("index_of", none), "index_of", "index_of", defArgs sIndexOf, defBody sIndexOf, defScope sIndexOf, [], [("converted", .adr (kwAt ("index_of", none) "converted"))]⟩
def dPlaces : He.DefD := ⟨("places", none), "places", "places", defArgs sPlaces, defBody sPlaces, defScope sPlaces, [], [("converted", .adr (kwAt ("places", none) "converted"))]⟩
def dNeedV : He.DefD := ⟨("need_same_values", none), "need_same_values", "need_same_values", defArgs sNeedV, defBody sNeedV, defScope sNeedV, [], []⟩
def dSteps : He.DefD := ⟨("steps_between", none), "steps_between", "steps_between", defArgs sSteps, defBody sSteps, defScope sSteps, [], [("converted", .adr (kwAt ("steps_between", none) "converted"))]⟩
def dAfter : He.DefD := ⟨("after_steps", none), "after_steps", "after_steps", defArgs sAfter, defBody sAfter, defScope sAfter, [], [("converted", .adr (kwAt ("after_steps", none) "converted"))]⟩
def dLPen : He.DefD := ⟨("_law_pen", none), "_law_pen", "_law_pen", defArgs sLPen, defBody sLPen, defScope sLPen, [], []⟩
def dLDraw : He.DefD := ⟨("_law_draw", none), "_law_draw", "_law_draw", defArgs sLDraw, defBody sLDraw, defScope sLDraw, [], []⟩
def dLNum : He.DefD := ⟨("_law_number", none), "_law_number", "_law_number", defArgs sLNum, defBody sLNum, defScope sLNum, [], []⟩
def dLNames : He.DefD := ⟨("_law_names", none), "_law_names", "_law_names", defArgs sLNames, defBody sLNames, defScope sLNames, [], []⟩
def dLVal : He.DefD := ⟨("_law_value", none), "_law_value", "_law_value", defArgs sLVal, defBody sLVal, defScope sLVal, [], []⟩
def dLBag : He.DefD := ⟨("_law_bag", none), "_law_bag", "_law_bag", defArgs sLBag, defBody sLBag, defScope sLBag, [], []⟩
def dLMarks : He.DefD := ⟨("_law_marks", none), "_law_marks", "_law_marks", defArgs sLMarks, defBody sLMarks, defScope sLMarks, [], []⟩
def dLLower : He.DefD := ⟨("_law_lower", none), "_law_lower", "_law_lower", defArgs sLLower, defBody sLLower, defScope sLLower, [], []⟩
def dLFault : He.DefD := ⟨("_law_first_fault", none), "_law_first_fault", "_law_first_fault", defArgs sLFault, defBody sLFault, defScope sLFault, [], []⟩
def dLInv : He.DefD := ⟨("_law_inversions", none), "_law_inversions", "_law_inversions", defArgs sLInv, defBody sLInv, defScope sLInv, [], []⟩
def dLPat : He.DefD := ⟨("_law_pattern", none), "_law_pattern", "_law_pattern", defArgs sLPat, defBody sLPat, defScope sLPat, [], []⟩
def dLSortable : He.DefD := ⟨("_law_sortable", none), "_law_sortable", "_law_sortable", defArgs sLSortable, defBody sLSortable, defScope sLSortable, [], []⟩
def dLOrders : He.DefD := ⟨("_law_orders", none), "_law_orders", "_law_orders", defArgs sLOrders, defBody sLOrders, defScope sLOrders, [], []⟩
def dLAll : He.DefD := ⟨("_law_all_sorted", none), "_law_all_sorted", "_law_all_sorted", defArgs sLAll, defBody sLAll, defScope sLAll, [], []⟩
def dLNumR : He.DefD := ⟨("_law_numbers_right", none), "_law_numbers_right", "_law_numbers_right", defArgs sLNumR, defBody sLNumR, defScope sLNumR, [], []⟩
def dLPlaces : He.DefD := ⟨("_law_places_right", none), "_law_places_right", "_law_places_right", defArgs sLPlaces, defBody sLPlaces, defScope sLPlaces, [], []⟩
def dLaw : He.DefD := ⟨("law", none), "law", "law", defArgs sLaw, defBody sLaw, defScope sLaw, [], []⟩
def fn : List He.DefD := [dIsInt, dIsBtw, dIsLess, dFaults, dNeedS, dIsSorted, dMayNext, dFirstL, dIsOnly, dCInit, dCBelow, dCNext, dCFrom, dCountL, dLists, dListAt, dIndexOf, dPlaces, dNeedV, dSteps, dAfter, dLPen, dLDraw, dLNum, dLNames, dLVal, dLBag, dLMarks, dLLower, dLFault, dLInv, dLPat, dLSortable, dLOrders, dLAll, dLNumR, dLPlaces, dLaw]
def fa : List He.Fa := [.glo "is_integer", .glo "is_between", .glo "is_less", .glo "faults", .glo "need_sorted", .glo "is_sorted", .glo "may_come_next", .glo "first_list", .glo "is_only_list", .glo "count_lists", .glo "lists", .glo "list_at", .glo "index_of", .glo "places", .glo "need_same_values", .glo "steps_between", .glo "after_steps", .glo "_law_pen", .glo "_law_draw", .glo "_law_number", .glo "_law_names", .glo "_law_value", .glo "_law_bag", .glo "_law_marks", .glo "_law_lower", .glo "_law_first_fault", .glo "_law_inversions", .glo "_law_pattern", .glo "_law_sortable", .glo "_law_orders", .glo "_law_all_sorted", .glo "_law_numbers_right", .glo "_law_places_right", .glo "law", .free "len", .free "range", .free "isinstance", .free "int", .free "bool", .free "sorted", .free "any", .free "all", .free "zip", .free "tuple", .free "list", .free "sum", .free "enumerate", .free "min", .free "max", .free "abs", .int "MOST_VALUES" 12, .glo "Counts", .cls "Counts", .noat "Counts" "row", .noat "Counts" "ahead", .noat "Counts" "whole", .noat "Counts" "ways", .meth "Counts" "set_below", .meth "Counts" "next_values", .meth "Counts" "lists_from", .mkr "Counts"]
def ems : List ((Str × Option Str) × Str) := [(("is_less", none), "converted"), (("faults", none), "converted"), (("is_sorted", none), "converted"), (("first_list", none), "converted"), (("is_only_list", none), "converted"), (("count_lists", none), "converted"), (("lists", none), "converted"), (("list_at", none), "converted"), (("index_of", none), "converted"), (("places", none), "converted"), (("steps_between", none), "converted"), (("after_steps", none), "converted")]
abbrev AlX : Type := Bool × He.AlD
def obsX (K : PySem.W.Frag) : AlX := (ems.all fun e => emptyAt K (kwAt e.1 e.2 K), He.obsD fa fn K)
def valX : AlX := (true, He.valD fn)
def SaysX (K : PySem.W.Frag) : Prop := obsX K = valX
def obsXG (n : Nat) (g : Addr → Option Obj) : AlX := obsX (He.frG g (He.asD g n))
def hookX (n : Nat) : PySem.W.Hook where
  α := AlX
  obs := fun s => obsXG n s.heap.get?
  val := fun _ => valX
  says := fun _ h => ∃ K : PySem.W.Frag, K.In h ∧ SaysX K
  of := fun _ _ e => ⟨_, He.frG_in, e⟩
  keeps := fun _ _ _ ⟨K, hK, c⟩ k => ⟨K, PySem.W.Frag.In.keeps hK k, c⟩
theorem obsXG_eq {n : Nat} {g : Addr → Option Obj} {s : Shared} (h : ∀ a, g a = s.heap.get? a) : obsXG n g = (hookX n).obs s := by
  have e : g = s.heap.get? := funext h
  rw [e] <;> rfl
abbrev R : PySem.W.OpenRow := PySem.W.OpenLaw.row PySem.Challenge.rw_crossrank_k91_whole_lists_and_places
abbrev hk : PySem.W.Hook := hookX 5
def ob (s : PySem.W.SharedT) : AlX := obsXG 5 (HandSHeadRun.getT s)
theorem ob_eq (s : PySem.W.SharedT) : ob s = hk.obs s.abs := obsXG_eq (HandSHeadRun.getT_eq s)
def nm0 : List PySem.Str := ["RankError", "InvalidStep", "Unsortable", "NotSorted", "AlreadyIn", "NotIn", "NoIndex", "TooMany", "is_integer", "is_between", "is_less", "is_inversion", "inversions", "WEDGE", "TWINS", "is_separator", "by_span", "wedges"]
def nm1 : List PySem.Str := ["twins", "pattern", "faults", "need_sorted", "is_sorted", "may_come_next", "first_list", "is_only_list", "MOST_VALUES", "Counts", "count_lists", "lists", "list_at", "index_of", "places", "need_same_values", "steps_between", "after_steps"]
def nm2 : List PySem.Str := ["_law_pen", "_law_draw", "_law_number", "_law_names", "_law_value", "_law_bag", "_law_marks", "_law_lower", "_law_first_fault", "_law_inversions", "_law_pattern", "_law_sortable", "_law_orders", "_law_all_sorted", "_law_numbers_right", "_law_places_right"]
def nms : List PySem.Str := nm0 ++ nm1 ++ nm2
theorem run (w : World) : HandSHeadRun.RunEq R (PySem.W.view R.prog [61]) hk ob 6000 nms w := by
  intro os
  kernel_rfl
end K91
set_option Elab.async false
set_option linter.all false
set_option maxRecDepth 100000
set_option maxHeartbeats 1000000
/-! Runs of the machine in which a generator may sleep over another one («yield from»): the library's wp stops at such a yield (it calls it loud),
   the machine does not. W is a weakest precondition over the machine itself: the library's wp is part of it. -/
namespace K91
open PySem
open Sem (wp)

/-- a claim about states of the machine that may be drawn back over its steps -/
structure Back (M : Model) (Go : Shared → Thread → Prop) : Prop where
  step : ∀ {s s1 : Shared} {t t1 : Thread}, M.step s t = .go s1 t1 → Go s1 t1 → Go s t
  yield : ∀ {s : Shared} {v : Value} {l : List Value} {k : Resume → Sem PySem.Fin} {a : Addr} {as : List Value} {kw : List (Str × Value)} {p : Pos} {st fs rest : List Frame} {g : Nat} {kk : GenResult → Sem PySem.Fin} {c' : Code} {p' : Pos},
    splitAtGen st = some (fs, (g, kk, c', p'), rest) → fs.any Frame.guarded = false → (∃ o, s.heap.get? a = some o ∧ o.genNumber?.isSome = true) →
    Go (s.setGen g (.suspended k l (.builtin "proto.yield_from" ⟨.ref a :: as, kw⟩) p fs true)) ⟨kk (.yielded v), c', p', rest⟩ →
    Go s ⟨.yield v true l k, .builtin "proto.yield_from" ⟨.ref a :: as, kw⟩, p, st⟩

section
variable {M : Model} {Go : Shared → Thread → Prop}
theorem Back.reach (b : Back M Go) {base : List Frame} {s s' : Shared} {t : Sem PySem.Fin} {c : Code} {p : Pos} {pre : List Frame} {e : End} (h : Reach M base s t c p pre s' e)
    (k : ∀ t' c' p' pre', Exits e t' c' p' pre' → Go s' ⟨t', c', p', pre' ++ base⟩) : Go s ⟨t, c, p, pre ++ base⟩ := by
  induction h with
  | exit hx => exact k _ _ _ _ hx
  | step hs _ ih => exact b.step hs (ih k)
theorem fits_ret {c c' : Code} {k : Result → Sem PySem.Fin} {h : Option Value} {g : Bool} {l kp : List Value} {p : Pos} {st : List Frame} : ((Ctx.of c st).enter c' h p).Fits (.ret k h g l c p kp :: st) := (Ctx.fits_of c st).enter c' k h g l p kp
theorem of_enter {c c' : Code} {k : Result → Sem PySem.Fin} {h : Option Value} {g : Bool} {l kp : List Value} {p : Pos} {st : List Frame} : Ctx.of c' (.ret k h g l c p kp :: st) = (Ctx.of c st).enter c' h p := by
  obtain ⟨h1, h2, h3, h4⟩ := fits_ret (c := c) (c' := c') (k := k) (h := h) (g := g) (l := l) (kp := kp) (p := p) (st := st)
  show (⟨c', _, _, _, _⟩ : Ctx) = _
  rw [← h1, ← h2, ← h3, ← h4]
  rfl
theorem of_wake {c c' : Code} {k : GenResult → Sem PySem.Fin} {g : Nat} {l : List Value} {p : Pos} {st : List Frame} : Ctx.of c' (.gen g k l c p :: st) = (Ctx.of c st).wake c' p := by
  have f : ((Ctx.of c st).wake c' p).Fits (.gen g k l c p :: st) := (Ctx.fits_of c st).wake c' g k l p
  obtain ⟨h1, h2, h3, h4⟩ := f
  show (⟨c', _, _, _, _⟩ : Ctx) = _
  rw [← h1, ← h2, ← h3, ← h4]
  rfl

/-- the library's wp over the machine, whatever follows -/
theorem Back.wp (b : Back M Go) {α : Type} (K : α → Sem PySem.Fin) (J : Value → Sem PySem.Fin) (gd : Bool → Bool) (lv : List Value → List Value) (c : Code) (st : List Frame) (m : Sem α) :
    ∀ {Q : α → Pos → Shared → Prop} {E : Value → Pos → Shared → Prop} {p : Pos} {s : Shared}, Sem.wp M (Ctx.of c st) m Q E p s → (∀ a p' s', Q a p' s' → Go s' ⟨K a, c, p', st⟩) → (∀ x p' s', E x p' s' → Go s' ⟨J x, c, p', st⟩) →
      Go s ⟨m.wrap K J gd lv, c, p, st⟩ := by
  induction m with
  | pure a => intro Q E p s h hQ _; exact hQ a p s h
  | raise x => intro Q E p s h _ hE; exact hE x p s h
  | unsupported what => intro Q E p s h; exact h.elim
  | finish x => intro Q E p s h; exact h.elim
  | register a k => intro Q E p s h; exact h.elim
  | yield v g l k => intro Q E p s h; exact h.elim
  | fork c k => intro Q E p s h; exact h.elim
  | await a f d l k => intro Q E p s h; exact h.elim
  | rule tag k ih => intro Q E p s h hQ hE; exact b.step (step_rule ..) (ih () h hQ hE)
  | «at» p' k ih => intro Q E p s h hQ hE; exact b.step (step_at ..) (ih () h hQ hE)
  | load a part k ih =>
    intro Q E p s h hQ hE
    obtain ⟨o, ho, h⟩ := h
    exact b.step (step_load _ _ _ _ _ _ _ ho) (ih o h hQ hE)
  | update a part f k ih =>
    intro Q E p s h hQ hE
    obtain ⟨ha, h⟩ := h
    exact b.step (step_update _ _ _ _ _ _ _ _ ha) (ih () h hQ hE)
  | alloc o k ih => intro Q E p s h hQ hE; exact b.step (step_alloc ..) (ih _ h hQ hE)
  | loadIfAlive a k ih => intro Q E p s h hQ hE; exact b.step (step_loadIfAlive ..) (ih _ h hQ hE)
  | point l k ih => intro Q E p s h hQ hE; exact b.step (step_point ..) (ih () h hQ hE)
  | fresh k ih => intro Q E p s h hQ hE; exact b.step (step_fresh ..) (ih _ h hQ hE)
  | ask k ih => intro Q E p s h hQ hE; exact b.step (step_ask ..) (ih _ h hQ hE)
  | choose src n k ih =>
    intro Q E p s h hQ hE
    obtain ⟨hn, h⟩ := h
    exact b.step (step_choose _ _ _ _ _ _ _ hn) (ih _ h hQ hE)
  | os q l k ih => intro Q E p s h hQ hE; exact b.step (step_os ..) (ih _ h hQ hE)
  | call c' hd g l k ih =>
    intro Q E p s h hQ hE
    obtain ⟨r, s1, hr, h⟩ := h
    refine b.step (step_call ..) ?_
    have rr := runs_reach hr _ (fits_ret (k := fun x => (k x).wrap K J gd lv) (g := gd g) (l := lv l) (kp := []))
    refine b.reach (pre := []) rr fun t' c2 p2 pre' hx => ?_
    obtain ⟨rfl, rfl⟩ := hx
    exact b.step (step_leaf_ret ..) (ih r h hQ hE)
  | handled own k ih =>
    intro Q E p s h hQ hE
    refine b.step (step_handled ..) ?_
    cases own
    · exact ih _ h hQ hE
    · exact ih _ h hQ hE
  | newGen c' k ih => intro Q E p s h hQ hE; exact b.step (step_newGen ..) (ih _ h hQ hE)
  | genState g k ih =>
    intro Q E p s h hQ hE
    obtain ⟨x, hg, h⟩ := h
    exact b.step (step_genState _ _ _ _ _ _ hg) (ih _ h hQ hE)
  | resume g r l k ih =>
    intro Q E p s h hQ hE
    obtain ⟨res, s1, hw, h⟩ := h
    have fin := ih res h hQ hE
    unfold Wakes at hw
    split at hw
    · exact hw.elim
    · rename_i c' hg
      split at hw
      · obtain ⟨e1, s2, hr, hq, rfl, rfl⟩ := hw
        refine b.step (step_resume_fresh _ _ _ _ _ _ _ hg) ?_
        have rr := runs_reach hr _ ((Ctx.fits_of c st).wake c' g (fun x => (k x).wrap K J gd lv) (lv l) p)
        refine b.reach (pre := []) rr fun t' c2 p2 pre' hx => ?_
        exact b.step (step_exit_gen _ _ _ _ _ _ _ hx hq) fin
      · rename_i v hv
        obtain ⟨rfl, rfl⟩ := hw
        exact b.step (step_resume_justStarted _ _ _ _ _ _ _ hg fun q => hv (by rw [q])) fin
      · obtain ⟨rfl, rfl⟩ := hw
        exact b.step (step_resume_throwFresh _ _ _ _ _ _ _ _ hg) fin
    · rename_i k0 l0 c0 p0 fs cl hg
      obtain ⟨e1, s2, hr, hq, rfl, rfl⟩ := hw
      refine b.step (step_resume_suspended _ _ _ _ _ _ _ _ hg) ?_
      have rr := runs_reach hr _ ((Ctx.fits_of c st).wake c0 g (fun x => (k x).wrap K J gd lv) (lv l) p)
      refine b.reach (pre := fs) rr fun t' c2 p2 pre' hx => ?_
      exact b.step (step_exit_gen _ _ _ _ _ _ _ hx hq) fin
    · rename_i hg
      obtain ⟨rfl, rfl⟩ := hw
      exact b.step (step_resume_running _ _ _ _ _ _ _ _ hg) fin
    · rename_i hg
      obtain ⟨rfl, rfl⟩ := hw
      exact b.step (step_resume_finished _ _ _ _ _ _ _ _ hg) fin
  | stack k ih => intro Q E p s h hQ hE; exact b.step (step_stack ..) (ih _ h hQ hE)
  | thread k ih => intro Q E p s h hQ hE; exact b.step (step_thread ..) (ih _ h hQ hE)
end

/-- from s the tree t comes to an a with Q a, without an exception, whatever runs around -/
def W (M : Model) (A : Around) {α : Type} (t : Sem α) (Q : α → Shared → Prop) (s : Shared) : Prop :=
  ∀ Go, Back M Go → ∀ (c : Code) (p : Pos) (st : List Frame) (K : α → Sem PySem.Fin) (J : Value → Sem PySem.Fin) (gd : Bool → Bool) (lv : List Value → List Value), (Ctx.of c st).In A →
    (∀ a p' s', Q a s' → Go s' ⟨K a, c, p', st⟩) → Go s ⟨t.wrap K J gd lv, c, p, st⟩
/-- the same of a code: its flow -/
def CW (M : Model) (A : Around) (c : Code) (R : Flow → Shared → Prop) (s : Shared) : Prop :=
  ∀ Go, Back M Go → ∀ (p : Pos) (st : List Frame), (Ctx.of c st).Below A → (∀ f c' p' s', R f s' → Go s' ⟨.pure (.done f), c', p', st⟩) → Go s ⟨M.den c, c, p, st⟩

section
variable {M : Model} {A : Around} {s : Shared} {α β : Type}
theorem W.lift {t : Sem α} {Q : α → Shared → Prop} (h : wpAny M A t Q (fun _ _ => False) s) : W M A t Q s := fun Go b c p st K J gd lv hin k =>
  b.wp K J gd lv c st t (h (Ctx.of c st) p hin) (fun a p' s' q => k a p' s' q) fun _ _ _ q => q.elim
theorem W.mono {t : Sem α} {Q Q' : α → Shared → Prop} (h : W M A t Q s) (q : ∀ a s, Q a s → Q' a s) : W M A t Q' s := fun Go b c p st K J gd lv hin k =>
  h Go b c p st K J gd lv hin fun a p' s' x => k a p' s' (q a s' x)
theorem W.pure {a : α} {Q : α → Shared → Prop} (h : Q a s) : W M A (Pure.pure a) Q s := fun Go b c p st K J gd lv hin k => k a p s h
theorem W.bind {m : Sem α} {f : α → Sem β} {Q : β → Shared → Prop} (h : W M A m (fun a s' => W M A (f a) Q s') s) : W M A (m >>= f) Q s := fun Go b c p st K J gd lv hin k => by
  rw [Sem.bind_eq_wrap', Sem.wrap_wrap]
  exact h Go b c p st _ _ _ _ hin fun a p' s' x => x Go b c p' st K J gd lv hin k
/-- the head of a bind by the library's wp -/
theorem W.bindL {m : Sem α} {f : α → Sem β} {Q : β → Shared → Prop} (h : wpAny M A m (fun a s' => W M A (f a) Q s') (fun _ _ => False) s) : W M A (m >>= f) Q s := W.bind (W.lift h)
theorem W.keep {vs : List Value} {m : Sem α} {Q : α → Shared → Prop} (h : W M A m Q s) : W M A (m.keep vs) Q s := fun Go b c p st K J gd lv hin k => by
  rw [Sem.keep_eq_wrap, Sem.wrap_wrap]
  exact h Go b c p st _ _ _ _ hin k
theorem W.holding {vs : List Value} {m : Sem α} {Q : α → Shared → Prop} (h : W M A m Q s) : W M A (PySem.holding vs m) Q s := by
  unfold PySem.holding
  split
  · exact h
  · exact h.keep
theorem W.tryCatch {m : Sem α} {f : Value → Sem α} {Q : α → Shared → Prop} (h : W M A m Q s) : W M A (m.tryCatch f) Q s := fun Go b c p st K J gd lv hin k => by
  rw [Sem.tryCatch_eq_wrap, Sem.wrap_wrap]
  exact h Go b c p st _ _ _ _ hin fun a p' s' q => k a p' s' q
theorem W.attempt {m : Sem α} {Q : Except Value α → Shared → Prop} (h : W M A m (fun a s' => Q (.ok a) s') s) : W M A m.attempt Q s :=
  W.tryCatch (W.bind (m := m) (f := fun a => Pure.pure (Except.ok a)) (h.mono fun a s' q => W.pure q))
theorem W.onRaise {m : Sem α} {f : Value → Sem Unit} {Q : α → Shared → Prop} (h : W M A m Q s) : W M A (m.onRaise f) Q s := fun Go b c p st K J gd lv hin k => by
  rw [Sem.onRaise_eq_wrap, Sem.wrap_wrap]
  exact h Go b c p st _ _ _ _ hin fun a p' s' q => k a p' s' q
theorem W.standAt {pos : Pos} {Q : Unit → Shared → Prop} (h : Q () s) : W M A (PySem.standAt pos) Q s := W.lift (wpAny_standAt h)
theorem mark_none : A.mark none = A := rfl
/-- a code is called -/
theorem W.call {c' : Code} {g : Bool} {l : List Value} {k : Result → Sem α} {Q : α → Shared → Prop} (h : CW M A c' (fun f s' => W M A (k (.ok f)) Q s') s) : W M A (.call c' none g l k) Q s := fun Go b c p st K J gd lv hin kk => by
  refine b.step (step_call ..) ?_
  refine h Go b p _ ?_ fun f c2 p2 s' q => ?_
  · rw [of_enter]
    exact hin.enter c' none p (by intro z; cases z)
  · exact b.step (step_leaf_ret (r := .ok f) ..) (q Go b c p st K J gd lv hin kk)
theorem W.run {c' : Code} {Q : Flow → Shared → Prop} (h : CW M A c' Q s) : W M A (PySem.run c' none) Q s :=
  W.call (fun Go b p st hb k => h Go b p st hb fun f c' p' s' q => k f c' p' s' (W.pure q))
theorem W.runValue {c' : Code} {Q : Value → Shared → Prop} (h : CW M A c' (fun f s' => ∃ v, f = .ret v ∧ Q v s') s) : W M A (PySem.runValue c') Q s := by
  unfold PySem.runValue
  refine W.bind ((W.run h).mono fun f s' q => ?_)
  obtain ⟨v, rfl, q⟩ := q
  exact W.pure q
theorem CW.mono {c : Code} {R R' : Flow → Shared → Prop} (h : CW M A c R s) (q : ∀ f s, R f s → R' f s) : CW M A c R' s := fun Go b p st hb k => h Go b p st hb fun f c' p' s' x => k f c' p' s' (q f s' x)
theorem CW.lift {c : Code} {R : Flow → Shared → Prop} (h : codeAny M A c (fun r s' => ∃ f, r = .ok f ∧ R f s') s) : CW M A c R s := fun Go b p st hb k => by
  obtain ⟨r, s1, hr, f, rfl, q⟩ := h (Ctx.of c st) p rfl hb
  refine b.reach (pre := []) (runs_reach hr st (Ctx.fits_of c st)) fun t' c2 p2 pre' hx => ?_
  obtain ⟨rfl, rfl⟩ := hx
  exact k f c2 p2 s1 q
theorem wrap_self (t : Sem α) : t.wrap Sem.pure Sem.raise id id = t := by
  induction t <;> simp only [Sem.wrap, id, *]
/-- a code by its tree -/
theorem CW.tree {c : Code} {R : Flow → Shared → Prop} (h : W M (A.under c) (M.den c) (fun fin s' => match fin with | .done f => R f s' | .again c' => c'.quiet = true ∧ CW M A c' R s') s) : CW M A c R s := fun Go b p st hb k => by
  have e := h Go b c p st Sem.pure Sem.raise id id hb.in fun fin p' s' q => ?_
  · rw [wrap_self] at e
    exact e
  · cases fin with
    | done f => exact k f c p' s' q
    | again c' => exact b.step (step_again _ _ _ _ _ _ q.1) (q.2 Go b p' st hb k)
/-- a loop's code, by an invariant and a measure -/
theorem CW.loop {c : Code} {R : Flow → Shared → Prop} (hq : c.quiet = true) (I : Nat → Shared → Prop)
    (turn : ∀ n s, I n s → W M (A.under c) (M.den c) (fun fin s' => match fin with | .done f => R f s' | .again c' => (c' = c ∧ ∃ m, m < n ∧ I m s') ∨ (c'.quiet = true ∧ CW M A c' R s')) s) (n : Nat) (h : I n s) : CW M A c R s := by
  induction n using Nat.strongRecOn generalizing s with
  | ind n ih =>
    refine CW.tree ((turn n s h).mono fun fin s' hf => ?_)
    cases fin with
    | done f => exact hf
    | again c' =>
      rcases hf with ⟨rfl, m, hm, hI⟩ | hf
      · exact ⟨hq, ih m hm hI⟩
      · exact hf
end
end K91
set_option Elab.async false
set_option linter.all false
set_option maxRecDepth 100000
set_option maxHeartbeats 1000000
/-! W with exceptions; a generator's run over the machine. -/
namespace K91
open PySem
open Sem (wp)

/-- from s the tree t comes to an a with Q a, or raises an x with E x, whatever runs around -/
def WE (M : Model) (A : Around) {α : Type} (t : Sem α) (Q : α → Shared → Prop) (E : Value → Shared → Prop) (s : Shared) : Prop :=
  ∀ Go, Back M Go → ∀ (c : Code) (p : Pos) (st : List Frame) (K : α → Sem PySem.Fin) (J : Value → Sem PySem.Fin) (gd : Bool → Bool) (lv : List Value → List Value), (Ctx.of c st).In A →
    (∀ a p' s', Q a s' → Go s' ⟨K a, c, p', st⟩) → (∀ x p' s', E x s' → Go s' ⟨J x, c, p', st⟩) → Go s ⟨t.wrap K J gd lv, c, p, st⟩
/-- a code: its result -/
def CE (M : Model) (A : Around) (c : Code) (R : Result → Shared → Prop) (s : Shared) : Prop :=
  ∀ Go, Back M Go → ∀ (p : Pos) (st : List Frame), (Ctx.of c st).Below A → (∀ r c' p' s', R r s' → Go s' ⟨leafOf r, c', p', st⟩) → Go s ⟨M.den c, c, p, st⟩
section
variable {M : Model} {A : Around} {s : Shared} {α β : Type} {E : Value → Shared → Prop}
theorem W.of {t : Sem α} {Q : α → Shared → Prop} (h : WE M A t Q (fun _ _ => False) s) : W M A t Q s := fun Go b c p st K J gd lv hin k => h Go b c p st K J gd lv hin k fun _ _ _ z => z.elim
theorem CW.of {c : Code} {R : Flow → Shared → Prop} (h : CE M A c (fun r s' => ∃ f, r = .ok f ∧ R f s') s) : CW M A c R s := fun Go b p st hb k => h Go b p st hb fun r c' p' s' ⟨f, e, q⟩ => by
  subst e
  exact k f c' p' s' q
theorem WE.lift {t : Sem α} {Q : α → Shared → Prop} (h : wpAny M A t Q E s) : WE M A t Q E s := fun Go b c p st K J gd lv hin k kx =>
  b.wp K J gd lv c st t (h (Ctx.of c st) p hin) (fun a p' s' q => k a p' s' q) fun x p' s' q => kx x p' s' q
theorem WE.mono {t : Sem α} {Q Q' : α → Shared → Prop} {E' : Value → Shared → Prop} (h : WE M A t Q E s) (q : ∀ a s, Q a s → Q' a s) (e : ∀ x s, E x s → E' x s) : WE M A t Q' E' s := fun Go b c p st K J gd lv hin k kx =>
  h Go b c p st K J gd lv hin (fun a p' s' x => k a p' s' (q a s' x)) fun y p' s' x => kx y p' s' (e y s' x)
theorem WE.pure {a : α} {Q : α → Shared → Prop} (h : Q a s) : WE M A (Pure.pure a) Q E s := fun Go b c p st K J gd lv hin k kx => k a p s h
theorem WE.bind {m : Sem α} {f : α → Sem β} {Q : β → Shared → Prop} (h : WE M A m (fun a s' => WE M A (f a) Q E s') E s) : WE M A (m >>= f) Q E s := fun Go b c p st K J gd lv hin k kx => by
  rw [Sem.bind_eq_wrap', Sem.wrap_wrap]
  exact h Go b c p st _ _ _ _ hin (fun a p' s' x => x Go b c p' st K J gd lv hin k kx) fun x p' s' z => kx x p' s' z
theorem WE.bindL {m : Sem α} {f : α → Sem β} {Q : β → Shared → Prop} (h : wpAny M A m (fun a s' => WE M A (f a) Q E s') E s) : WE M A (m >>= f) Q E s := WE.bind (WE.lift h)
theorem WE.keep {vs : List Value} {m : Sem α} {Q : α → Shared → Prop} (h : WE M A m Q E s) : WE M A (m.keep vs) Q E s := fun Go b c p st K J gd lv hin k kx => by
  rw [Sem.keep_eq_wrap, Sem.wrap_wrap]
  exact h Go b c p st _ _ _ _ hin k kx
theorem WE.holding {vs : List Value} {m : Sem α} {Q : α → Shared → Prop} (h : WE M A m Q E s) : WE M A (PySem.holding vs m) Q E s := by
  unfold PySem.holding
  split
  · exact h
  · exact h.keep
theorem WE.tryCatch {m : Sem α} {f : Value → Sem α} {Q : α → Shared → Prop} (h : WE M A m Q (fun x s' => WE M A (f x) Q E s') s) : WE M A (m.tryCatch f) Q E s := fun Go b c p st K J gd lv hin k kx => by
  rw [Sem.tryCatch_eq_wrap, Sem.wrap_wrap]
  exact h Go b c p st _ _ _ _ hin (fun a p' s' q => k a p' s' q) fun x p' s' q => q Go b c p' st K J gd lv hin k kx
theorem WE.attempt {m : Sem α} {Q : Except Value α → Shared → Prop} (h : WE M A m (fun a s' => Q (.ok a) s') (fun x s' => Q (.error x) s') s) : WE M A m.attempt Q E s :=
  WE.tryCatch (WE.bind (m := m) (f := fun a => Pure.pure (Except.ok a)) (h.mono (fun a s' q => WE.pure q) fun x s' q => WE.pure q))
theorem WE.onRaise {m : Sem α} {f : Value → Sem Unit} {Q : α → Shared → Prop} (h : WE M A m Q (fun x s' => WE M A (f x) (fun _ s'' => E x s'') E s') s) : WE M A (m.onRaise f) Q E s := fun Go b c p st K J gd lv hin k kx => by
  rw [Sem.onRaise_eq_wrap, Sem.wrap_wrap]
  refine h Go b c p st _ _ _ _ hin (fun a p' s' q => k a p' s' q) fun x p' s' q => ?_
  show Go s' ⟨((f x).bind fun _ => .raise x).wrap K J gd lv, c, p', st⟩
  rw [Sem.bind_eq_wrap, Sem.wrap_wrap]
  exact q Go b c p' st _ _ _ _ hin (fun _ p2 s2 z => kx x p2 s2 z) fun y p2 s2 z => kx y p2 s2 z
theorem WE.call {c' : Code} {g : Bool} {l : List Value} {k : Result → Sem α} {Q : α → Shared → Prop} (h : CE M A c' (fun r s' => WE M A (k r) Q E s') s) : WE M A (.call c' none g l k) Q E s := fun Go b c p st K J gd lv hin kk kx => by
  refine b.step (step_call ..) ?_
  refine h Go b p _ ?_ fun r c2 p2 s' q => ?_
  · rw [of_enter]
    exact hin.enter c' none p (by intro z; cases z)
  · exact b.step (step_leaf_ret ..) (q Go b c p st K J gd lv hin kk kx)
theorem WE.raise {x : Value} {Q : α → Shared → Prop} (h : E x s) : WE M A (.raise x) Q E s := fun Go b c p st K J gd lv hin k kx => kx x p s h
theorem WE.run {c' : Code} {Q : Flow → Shared → Prop} (h : CE M A c' (fun r s' => match r with | .ok f => Q f s' | .error e => E e s') s) : WE M A (PySem.run c' none) Q E s :=
  WE.call (fun Go b p st hb k => h Go b p st hb fun r c' p' s' q => k r c' p' s' (by
    cases r with
    | ok f => exact WE.pure q
    | error e => exact WE.raise q))
theorem WE.runValue {c' : Code} {Q : Value → Shared → Prop} (h : CE M A c' (fun r s' => match r with | .ok (.ret v) => Q v s' | .ok _ => False | .error e => E e s') s) : WE M A (PySem.runValue c') Q E s := by
  unfold PySem.runValue
  refine WE.bind (WE.run (Q := fun f s' => ∃ v, f = .ret v ∧ Q v s') (fun Go b p st hb k => h Go b p st hb fun r c' p' s' q => k r c' p' s' ?_) |>.mono (fun f s' q => ?_) fun x s' q => q)
  · cases r with
    | ok f =>
      cases f with
      | ret v => exact ⟨v, rfl, q⟩
      | next => exact q.elim
      | brk => exact q.elim
      | cont => exact q.elim
    | error e => exact q
  · obtain ⟨v, rfl, q⟩ := q
    exact WE.pure q
theorem CE.mono {c : Code} {R R' : Result → Shared → Prop} (h : CE M A c R s) (q : ∀ r s, R r s → R' r s) : CE M A c R' s := fun Go b p st hb k => h Go b p st hb fun r c' p' s' x => k r c' p' s' (q r s' x)
theorem CE.lift {c : Code} {R : Result → Shared → Prop} (h : codeAny M A c R s) : CE M A c R s := fun Go b p st hb k => by
  obtain ⟨r, s1, hr, q⟩ := h (Ctx.of c st) p rfl hb
  refine b.reach (pre := []) (runs_reach hr st (Ctx.fits_of c st)) fun t' c2 p2 pre' hx => ?_
  obtain ⟨rfl, rfl⟩ := hx
  exact k r c2 p2 s1 q
theorem CE.tree {c : Code} {R : Result → Shared → Prop} (h : WE M (A.under c) (M.den c) (fun fin s' => match fin with | .done f => R (.ok f) s' | .again c' => c'.quiet = true ∧ CE M A c' R s') (fun e s' => R (.error e) s') s) : CE M A c R s := fun Go b p st hb k => by
  have e := h Go b c p st Sem.pure Sem.raise id id hb.in (fun fin p' s' q => ?_) fun x p' s' q => k (.error x) c p' s' q
  · rw [wrap_self] at e
    exact e
  · cases fin with
    | done f => exact k (.ok f) c p' s' q
    | again c' => exact b.step (step_again _ _ _ _ _ _ q.1) (q.2 Go b p' st hb k)
end

/-! ### a generator runs -/
/-- Yd: it hands out v and sleeps at k, c, fs; En: it ends -/
def GW (M : Model) (A : Around) (g : Nat) (Yd : Value → (Resume → Sem PySem.Fin) → Code → List Frame → Shared → Prop) (En : Shared → Prop) (c : Code) (t : Sem PySem.Fin) (fs : List Frame) (s : Shared) : Prop :=
  ∀ Go, Back M Go → ∀ (kk : GenResult → Sem PySem.Fin) (l : List Value) (c0 : Code) (p0 : Pos) (st : List Frame) (p : Pos), (Ctx.of c0 st).In A →
    (∀ v k2 l2 c2 p2 fs2 cl s', Yd v k2 c2 fs2 s' → Go (s'.setGen g (.suspended k2 l2 c2 p2 fs2 cl)) ⟨kk (.yielded v), c0, p0, st⟩) →
    (∀ s', En s' → Go (s'.setGen g .finished) ⟨kk (.returned .none), c0, p0, st⟩) → Go s ⟨t, c, p, fs ++ .gen g kk l c0 p0 :: st⟩
section
variable {M : Model} {A : Around} {g : Nat} {Yd : Value → (Resume → Sem PySem.Fin) → Code → List Frame → Shared → Prop} {En : Shared → Prop} {c : Code} {fs : List Frame} {s : Shared} {α β : Type}
theorem GW.wrap {m : Sem α} {K : α → Sem PySem.Fin} {J : Value → Sem PySem.Fin} {gd : Bool → Bool} {lv : List Value → List Value}
    (h : wpAny M (A.over c fs) m (fun a s' => GW M A g Yd En c (K a) fs s') (fun x s' => GW M A g Yd En c (J x) fs s') s) : GW M A g Yd En c (m.wrap K J gd lv) fs s := by
  intro Go b kk l c0 p0 st p hin ky ke
  have hw : (Ctx.of c (fs ++ .gen g kk l c0 p0 :: st)).In (A.over c fs) := by
    rw [Ctx.of_append, of_wake]
    exact (hin.wake c p0).over fs
  exact b.wp K J gd lv c _ m (h _ p hw) (fun a p' s' q => q Go b kk l c0 p0 st p' hin ky ke) fun x p' s' q => q Go b kk l c0 p0 st p' hin ky ke
theorem GW.bind {m : Sem α} {K : α → Sem PySem.Fin} (h : wpAny M (A.over c fs) m (fun a s' => GW M A g Yd En c (K a) fs s') (fun x s' => GW M A g Yd En c (.raise x) fs s') s) : GW M A g Yd En c (m >>= K) fs s := by
  rw [Sem.bind_eq_wrap']
  exact GW.wrap h
theorem GW.bindw {m : Sem α} {K : α → Sem β} {K' : β → Sem PySem.Fin} {J : Value → Sem PySem.Fin} {gd : Bool → Bool} {lv : List Value → List Value}
    (h : wpAny M (A.over c fs) m (fun a s' => GW M A g Yd En c ((K a).wrap K' J gd lv) fs s') (fun x s' => GW M A g Yd En c (J x) fs s') s) : GW M A g Yd En c ((m >>= K).wrap K' J gd lv) fs s := by
  rw [Sem.bind_eq_wrap', Sem.wrap_wrap]
  exact GW.wrap h
theorem GW.at {p' : Pos} {k : Unit → Sem PySem.Fin} (h : GW M A g Yd En c (k ()) fs s) : GW M A g Yd En c (.at p' k) fs s :=
  GW.wrap (m := standAt p') (K := k) (J := .raise) (gd := id) (lv := id) (wpAny_standAt h)
theorem GW.point {l : List Value} {k : Unit → Sem PySem.Fin} (h : GW M A g Yd En c (k ()) fs s) : GW M A g Yd En c (.point l k) fs s :=
  GW.wrap (m := PySem.point) (K := k) (J := .raise) (gd := id) (lv := fun _ => l) (wpAny_point h)
theorem GW.call {c' : Code} {h : Option Value} {gg : Bool} {l : List Value} {k : Result → Sem PySem.Fin} (hc : ∀ p, GW M A g Yd En c' (M.den c') (.ret k h gg l c p [] :: fs) s) : GW M A g Yd En c (.call c' h gg l k) fs s :=
  fun Go b kk l' c0 p0 st p hin ky ke => b.step (step_call ..) (hc p Go b kk l' c0 p0 st p hin ky ke)
theorem GW.leaf {k : Result → Sem PySem.Fin} {h : Option Value} {gg : Bool} {l kp : List Value} {c1 : Code} {p1 : Pos} (r : Result) (hk : GW M A g Yd En c1 (k r) fs s) : GW M A g Yd En c (leafOf r) (.ret k h gg l c1 p1 kp :: fs) s :=
  fun Go b kk l' c0 p0 st p hin ky ke => b.step (step_leaf_ret ..) (hk Go b kk l' c0 p0 st p1 hin ky ke)
theorem GW.again {c' : Code} (hq : c'.quiet = true) (hc : GW M A g Yd En c' (M.den c') fs s) : GW M A g Yd En c (.pure (.again c')) fs s :=
  fun Go b kk l' c0 p0 st p hin ky ke => b.step (step_again _ _ _ _ _ _ hq) (hc Go b kk l' c0 p0 st p hin ky ke)
theorem GW.end (h : En s) : GW M A g Yd En c (leafOf (.ok (.ret .none))) [] s :=
  fun Go b kk l' c0 p0 st p hin ky ke => b.step (step_leaf_gen ..) (ke s h)
/-- over another generator -/
theorem GW.over {v : Value} {l : List Value} {k : Resume → Sem PySem.Fin} {a : Addr} {as : List Value} {kw : List (Str × Value)} (hs : splitAtGen fs = none) (hg : fs.any Frame.guarded = false) (hn : ∃ o, s.heap.get? a = some o ∧ o.genNumber?.isSome = true)
    (h : Yd v k (.builtin "proto.yield_from" ⟨.ref a :: as, kw⟩) fs s) : GW M A g Yd En (.builtin "proto.yield_from" ⟨.ref a :: as, kw⟩) (.yield v true l k) fs s :=
  fun Go b kk l' c0 p0 st p hin ky ke => b.yield (by rw [splitAtGen_append_none _ hs, splitAtGen_gen]; simp) hg hn (ky v k l _ p fs true s h)
/-- woken for the first time -/
theorem WE.fresh {c' : Code} {l : List Value} {k : GenResult → Sem α} {Q : α → Shared → Prop} {E : Value → Shared → Prop} (hg : s.gens[g]? = some (.fresh c')) (h : GW M A g Yd En c' (M.den c') [] (s.setGen g .running))
    (hY : ∀ v k2 l2 c2 p2 fs2 cl s', Yd v k2 c2 fs2 s' → WE M A (k (.yielded v)) Q E (s'.setGen g (.suspended k2 l2 c2 p2 fs2 cl))) (hE : ∀ s', En s' → WE M A (k (.returned .none)) Q E (s'.setGen g .finished)) :
    WE M A (.resume g (.send .none) l k) Q E s := fun Go b c p st K J gd lv hin kQ kx => by
  refine b.step (step_resume_fresh _ _ _ _ _ _ _ hg) ?_
  exact h Go b (fun x => (k x).wrap K J gd lv) (lv l) c p st p hin (fun v k2 l2 c2 p2 fs2 cl s' y => hY v k2 l2 c2 p2 fs2 cl s' y Go b c p st K J gd lv hin kQ kx) fun s' e => hE s' e Go b c p st K J gd lv hin kQ kx
/-- woken again -/
theorem WE.wake {k0 : Resume → Sem PySem.Fin} {l0 : List Value} {c' : Code} {p' : Pos} {cl : Bool} {l : List Value} {k : GenResult → Sem α} {Q : α → Shared → Prop} {E : Value → Shared → Prop} (hg : s.gens[g]? = some (.suspended k0 l0 c' p' fs cl)) (h : GW M A g Yd En c' (k0 (.send .none)) fs (s.setGen g .running))
    (hY : ∀ v k2 l2 c2 p2 fs2 cl s', Yd v k2 c2 fs2 s' → WE M A (k (.yielded v)) Q E (s'.setGen g (.suspended k2 l2 c2 p2 fs2 cl))) (hE : ∀ s', En s' → WE M A (k (.returned .none)) Q E (s'.setGen g .finished)) :
    WE M A (.resume g (.send .none) l k) Q E s := fun Go b c p st K J gd lv hin kQ kx => by
  refine b.step (step_resume_suspended _ _ _ _ _ _ _ _ hg) ?_
  exact h Go b (fun x => (k x).wrap K J gd lv) (lv l) c p st p' hin (fun v k2 l2 c2 p2 fs2 cl s' y => hY v k2 l2 c2 p2 fs2 cl s' y Go b c p st K J gd lv hin kQ kx) fun s' e => hE s' e Go b c p st K J gd lv hin kQ kx
end
end K91
set_option Elab.async false
set_option linter.all false
set_option maxRecDepth 100000
set_option maxHeartbeats 1000000
/-! Generators whose consumer may be anyone: the body's context is anchored anew at each wake. What stands below the call (n0) is the consumer's, what stands above (and is no tuple that is tracked) the generator's own. -/
namespace K91
open PySem PySem.Spec PyProof.Rows L2 GenW

/-! ### a heap's first objects -/
def cutH (h : Heap) (n : Nat) : Heap := ⟨h.objs.extract 0 n, h.life⟩
theorem cut_le {h : Heap} {n : Nat} : (cutH h n).objs.size ≤ n := by simp [cutH]; omega
theorem cut_size {h : Heap} {n : Nat} (hn : n ≤ h.objs.size) : (cutH h n).objs.size = n := by simp [cutH]; omega
theorem cut_get {h : Heap} {n b : Nat} (hb : b < n) : (cutH h n).get? b = h.get? b := by
  have e : (cutH h n).objs[b]? = h.objs[b]? := by
    simp only [cutH, Array.getElem?_extract]
    split
    · simp
    · rename_i q
      exact (Array.getElem?_eq_none_iff.mpr (by omega)).symm
  unfold Heap.get?
  rw [e]
theorem of_cut {h : Heap} {n b : Nat} {o : Obj} (e : (cutH h n).get? b = some o) : b < n ∧ h.get? b = some o := by
  have hb : b < n := Nat.lt_of_lt_of_le (Heap.lt_size e) cut_le
  exact ⟨hb, (cut_get hb).symm.trans e⟩

/-- one run of a generator def, as one consumer wakes it -/
structure GSet where
  P : Program
  w : World
  K : PySem.W.Frag
  mg : Str → Option Value
  base : Heap
  N : List Str
  qual : Str
  scope : Scope
  f : Addr
  cd : Value
  A : Around
  outer : List Env
  n0 : Nat
  a : Addr
  g : Nat
  n : Nat
  Φ : Nat → Hp → Shared → Prop
  It : Nat → V → Hp → Prop
  ex : List Addr
/-- the consumer's own things above the call: the generator's object, and what it writes while it walks -/
abbrev GSet.own (Γ : GSet) : List Addr := Γ.a :: Γ.ex
abbrev GSet.env (Γ : GSet) : Env := envOfC Γ.qual Γ.scope Γ.n0 Γ.f Γ.cd
def GSet.X (Γ : GSet) (s : Shared) (H : Hp) : Cx where
  prog := Γ.P
  w := Γ.w
  K := Γ.K
  mg := Γ.mg
  base := Γ.base
  A := Γ.A.deeper Γ.env
  N := Γ.N
  s_0 := { s with heap := cutH s.heap Γ.n0 }
  H_0 := H
  env := Γ.env
  outer := Γ.outer
  stack := Γ.env :: Γ.outer
  ex := []
  fn := fun _ => true
  calm := true
  pn := pinsAt Γ.own s.heap
  xe := fun _ _ => False
structure GSet.Ok (Γ : GSet) : Prop where
  mod : Mod Γ.K Γ.mg Γ.base
  frames : Γ.A.frames = some Γ.outer
  hd : Γ.A.handled = none
  kind : Γ.scope.kind = .function
  cells : Γ.env.cells = []
  noc : ∀ x, Γ.scope.names.lookup x ≠ some .cell ∧ Γ.scope.names.lookup x ≠ some .free
  low : Γ.base.objs.size ≤ Γ.n0
  frs : ∀ b ∈ L2.frs Γ.outer, b < Γ.n0
  ga : ∀ b ∈ Γ.own, Γ.n0 < b
/-- the world of a frame's callers -/
structure Wld (P : Program) (w : World) (base : Heap) (outer : List Env) (H : Hp) (s : Shared) : Prop where
  bs : ∀ b o, base.get? b = some o → s.heap.get? b = some o ∧ H b = none
  bsz : base.objs.size ≤ s.heap.objs.size
  funs : s.heap.FunFrames base outer
  frf : ∀ b ∈ frs outer, H b = none
  hok : HOk P w H s.heap
  bare : AllBare s.gens
theorem Wld.of {P : Program} {w : World} {K : PySem.W.Frag} {mg : Str → Option Value} {base : Heap} {A : Around} {outer : List Env} {H : Hp} {s : Shared} (e : Env0 P w K mg base A outer s H) : Wld P w base outer H s := ⟨e.bs, e.bsz, e.funs, e.frf, e.hok, e.bare⟩
/-- the generator's object, as it stands -/
def GObj (Γ : GSet) (H : Hp) (s : Shared) : Prop := ∀ b ∈ Γ.own, H b = none ∧ ∃ o, s.heap.get? b = some o ∧ ∀ v, o.data ≠ .cell v
/-- its own frame -/
def GLoc (Γ : GSet) (σ : L2.St) (s : Shared) : Prop := ∃ m, s.heap.Ns Γ.n0 m ∧ ∀ (i : Nat) (x : Str) (v : V), Γ.N[i]? = some x → σ[i]? = some (some v) → Vis Γ.scope x → ∃ u, RelV v u ∧ Look Γ.env s.heap m x u
theorem look_local {Γ : GSet} (ok : Γ.Ok) {h h' : Heap} {m : Str → Option Value} {x : Str} {u : Value} (l : Look Γ.env h m x u) : Look Γ.env h' m x u := by
  rcases l with l | ⟨k, _⟩
  · exact .inl l
  · rcases k with k | k
    · exact absurd k (ok.noc x).1
    · exact absurd k (ok.noc x).2
theorem no_cell {Γ : GSet} (ok : Γ.Ok) {x : Str} {c : Addr} (h : Γ.env.cells.lookup x = some c) : False := by
  rw [ok.cells] at h
  cases h
/-- the body's invariant, anchored here -/
theorem inv_at {Γ : GSet} (ok : Γ.Ok) {H : Hp} {s : Shared} {σ : L2.St} {pins : List (Addr × Obj)} (W : Wld Γ.P Γ.w Γ.base Γ.outer H s) (l : GLoc Γ σ s) (hn : H Γ.n0 = none) (hl : σ.length = Γ.N.length) (go : GObj Γ H s)
    (hp : ∀ p ∈ pins, s.heap.get? p.1 = some p.2 ∧ H p.1 = none ∧ p.1 ≠ Γ.n0 ∧ p.1 ∉ frs Γ.outer ∧ ∀ v, p.2.data ≠ .cell v) : Inv (Γ.X s H) pins σ H s := by
  have hsz : Γ.n0 ≤ s.heap.objs.size := by
    obtain ⟨m, hm, _⟩ := l
    exact Nat.le_of_lt hm.lt
  have hb : ∀ b o, Γ.base.get? b = some o → b < Γ.n0 := fun b o e => Nat.lt_of_lt_of_le (Heap.lt_size e) ok.low
  have k : ∀ b o, (cutH s.heap Γ.n0).get? b = some o → s.heap.get? b = some o := fun b o e => (of_cut e).2
  refine ⟨⟨ok.mod, ok.kind, rfl, rfl, cut_le, fun x y c h => (no_cell ok h).elim, fun x h => ?_, fun x c _ h => (no_cell ok h).elim, fun _ => ok.hd, Around.frames_deeper ok.frames, .inr ⟨rfl, rfl⟩, (fun b z => nomatch z),
    fun b o e => ⟨(cut_get (hb b o e)).trans (W.bs b o e).1, (W.bs b o e).2⟩, ?_, (fun b _ _ z => nomatch z), (fun b z => nomatch z), ?_, W.frf⟩, rfl, W.bare, Un.kept k, l, fun x c h => (no_cell ok h).elim, hn, fun x c h => (no_cell ok h).elim, fun p hpp => ?_, W.hok, hl⟩
  · rcases h with h | h
    · exact absurd h (ok.noc x).1
    · exact absurd h (ok.noc x).2
  · show Γ.base.objs.size ≤ (cutH s.heap Γ.n0).objs.size
    rw [cut_size hsz]
    exact ok.low
  · have all : ∀ (l : List Env), (∀ b ∈ frs l, b < Γ.n0) → s.heap.FunFrames Γ.base l → (cutH s.heap Γ.n0).FunFrames Γ.base l := by
      intro l
      induction l with
      | nil => intro _ _; trivial
      | cons env r ih =>
        intro hs hl
        obtain ⟨hk, ⟨L, o, hf, hn, ho, hd⟩, hr⟩ := hl
        have hL : L < Γ.n0 := hs L (by unfold frs; rw [List.filterMap_cons, hf]; exact List.mem_cons_self)
        exact ⟨hk, ⟨L, o, hf, hn, (cut_get hL).trans ho, hd⟩, ih (fun b hb => hs b (by unfold frs; rw [List.filterMap_cons, hf]; exact List.mem_cons_of_mem _ hb)) hr⟩
    exact all _ ok.frs W.funs
  · rcases List.mem_append.mp hpp with z | z
    · obtain ⟨z1, z2⟩ := of_pinsAt z
      obtain ⟨g1, o, g2, g3⟩ := go p.1 z1
      refine ⟨z2, g1, Nat.ne_of_gt (ok.ga p.1 z1), fun hm => ?_, ?_⟩
      · exact absurd (Nat.lt_trans (ok.ga p.1 z1) (ok.frs _ hm)) (Nat.lt_irrefl _)
      · rw [g2] at z2
        cases z2
        exact g3
    · exact hp p z

/-- what a run keeps -/
structure Ran (Γ : GSet) (H : Hp) (s : Shared) (H' : Hp) (s' : Shared) : Prop where
  os : s'.os = s.os
  bare : AllBare s'.gens
  hok : HOk Γ.P Γ.w H' s'.heap
  same : Same H H'
  keep : ∀ b o, b < Γ.n0 → s.heap.get? b = some o → H b = none → b ∉ frs Γ.outer → s'.heap.get? b = some o
  slot : ∀ b o, b < Γ.n0 → s.heap.get? b = some o → H b = none → ∃ sl, s'.heap.get? b = some { o with slots := sl }
  free : ∀ b o, b < Γ.n0 → s.heap.get? b = some o → H b = none → H' b = none
  there : ∀ b o, b < Γ.n0 → s.heap.get? b = some o → ∃ o', s'.heap.get? b = some o'
  gobj : ∀ b ∈ Γ.own, ∀ o, s.heap.get? b = some o → s'.heap.get? b = some o ∧ H' b = none
theorem ran_of {Γ : GSet} {pins : List (Addr × Obj)} {σ : L2.St} {H_a H : Hp} {s_a s : Shared} (I : Inv (Γ.X s_a H_a) pins σ H s) (same : Same H_a H) : Ran Γ H_a s_a H s where
  os := I.os
  bare := I.bare
  hok := I.hok
  same := same
  keep := fun b o hb e n hf => I.base.keep b o ((cut_get hb).trans e) n hf (fun z => nomatch z)
  slot := fun b o hb e n => I.base.any ((cut_get hb).trans e) n (fun z => nomatch z)
  free := fun b o hb e n => I.base.free b o ((cut_get hb).trans e) n (fun z => nomatch z)
  there := fun b o hb e => I.base.there b o ((cut_get hb).trans e) (fun z => nomatch z)
  gobj := fun b hb o e => by
    obtain ⟨h1, h2, _⟩ := I.pin (b, o) (List.mem_append_left _ (mem_pinsAt hb e))
    exact ⟨h1, h2⟩
/-- what a consumer keeps while it sleeps -/
structure Slp (Γ : GSet) (H : Hp) (s : Shared) (H' : Hp) (s' : Shared) : Prop where
  os : s'.os = s.os
  wld : Wld Γ.P Γ.w Γ.base Γ.outer H' s'
  same : Same H H'
  high : ∀ b o, Γ.n0 ≤ b → b ∉ Γ.own → s.heap.get? b = some o → H b = none → (∀ v, o.data ≠ .cell v) → s'.heap.get? b = some o ∧ H' b = none
  gens : ∀ i, Γ.g < i → i < s.gens.size → s'.gens[i]? = s.gens[i]?
  gsz : s.gens.size ≤ s'.gens.size
  gobj : GObj Γ H' s'
theorem woken {Γ : GSet} (ok : Γ.Ok) {pins : List (Addr × Obj)} {σ : L2.St} {H_a H H' : Hp} {s_a s s' : Shared} (I : Inv (Γ.X s_a H_a) pins σ H s) (hp : ∀ p ∈ pins, Γ.n0 ≤ p.1 ∧ p.1 ∉ Γ.own) (z : Slp Γ H s H' s') : Inv (Γ.X s' H') pins σ H' s' := by
  obtain ⟨m, ⟨o, es, ep, ho, hd, r⟩, hl⟩ := id I.loc
  have ho' := z.high Γ.n0 o (Nat.le_refl _) (fun hm => absurd (ok.ga _ hm) (Nat.lt_irrefl _)) ho I.free (fun v q => by rw [hd] at q; cases q)
  refine inv_at ok z.wld ⟨m, ⟨o, es, ep, ho'.1, hd, r⟩, fun i x v e1 e2 e3 => ?_⟩ ho'.2 I.len z.gobj fun p hpp => ?_
  · obtain ⟨u, r1, l1⟩ := hl i x v e1 e2 e3
    exact ⟨u, r1, look_local ok l1⟩
  · obtain ⟨h1, h2, h3, h4, h5⟩ := I.pin p (List.mem_append_right _ hpp)
    obtain ⟨k1, k2⟩ := z.high p.1 p.2 (hp p hpp).1 (hp p hpp).2 h1 h2 h5
    exact ⟨k1, k2, h3, h4, h5⟩

/-! ### the protocol -/
def GSet.Y (Γ : GSet) : Protocol := fun m s₀ v s kap =>
  ∃ j H_a s_a H x, j + m = Γ.n ∧ j < Γ.n ∧ Γ.Φ j H_a s_a ∧ Ran Γ H_a s_a H s ∧ RelV x v ∧ Γ.It j x H ∧ ∀ H' s', Γ.Φ (j + 1) H' s' → Slp Γ H s H' s' → kap (.send .none) s'
def GSet.R (Γ : GSet) : GenEnd := fun m s₀ r s =>
  ((r = .ok (.ret .none) ∨ r = .ok .next) ∧ m = 1 ∧ ∃ H_a s_a H, Γ.Φ Γ.n H_a s_a ∧ Ran Γ H_a s_a H s) ∨ ∃ e, r = .error e ∧ False
/-- where it was woken -/
structure Anch (Γ : GSet) (j : Nat) (H : Hp) (s : Shared) : Prop where
  phi : Γ.Φ j H s
  sz : Γ.n0 ≤ s.heap.objs.size
  obj : ∀ b ∈ Γ.own, ∃ o, s.heap.get? b = some o
/-- running: j items are out -/
def GI (Γ : GSet) (j : Nat) (ip : List (Addr × Obj)) (σ : L2.St) (H : Hp) (s : Shared) : Prop :=
  Γ.g < s.gens.size ∧ ∃ H_a s_a, Anch Γ j H_a s_a ∧ Same H_a H ∧ (∀ p ∈ ip, Γ.n0 ≤ p.1 ∧ p.1 ∉ Γ.own) ∧ Inv (Γ.X s_a H_a) ip σ H s
/-- its own young things are above -/
theorem fp_above {Γ : GSet} {j : Nat} {H_a H : Hp} {s_a : Shared} {pins : List (Addr × Obj)} {b : Addr} (x : Anch Γ j H_a s_a) (f : FpOk (Γ.X s_a H_a) pins H b) : Γ.n0 ≤ b ∧ b ∉ Γ.own := by
  obtain ⟨f0, f1, f2, f3, f4, f5⟩ := f
  refine ⟨?_, fun e => ?_⟩
  · rcases f3 with z | z
    · exact nomatch z
    · have z' : (cutH s_a.heap Γ.n0).objs.size ≤ b := z
      rw [cut_size x.sz] at z'
      exact z'
  · obtain ⟨o, ho⟩ := x.obj b e
    exact f5 (b, o) (List.mem_append_left _ (mem_pinsAt e ho)) rfl
theorem fp_at {Γ : GSet} {j : Nat} {H_a H : Hp} {s_a : Shared} {pins pins' : List (Addr × Obj)} {b : Addr} (ok : Γ.Ok) (x : Anch Γ j H_a s_a) (h0 : H b = none) (h1 : Γ.n0 ≤ b) (h2 : b ∉ Γ.own) (hL : b ≠ Γ.n0) (hp : ∀ p ∈ pins, p.1 ≠ b) : FpOk (Γ.X s_a H_a) pins H b := by
  refine ⟨h0, hL, fun hm => ?_, .inr ?_, fun y c h => (no_cell ok h).elim, fun p hpp => ?_⟩
  · exact absurd (Nat.lt_of_lt_of_le (ok.frs b hm) h1) (Nat.lt_irrefl _)
  · show (cutH s_a.heap Γ.n0).objs.size ≤ b
    rw [cut_size x.sz]
    exact h1
  · rcases List.mem_append.mp hpp with z | z
    · exact fun e => h2 (e ▸ (of_pinsAt z).1)
    · exact hp p z
end K91
set_option Elab.async false
set_option linter.all false
set_option maxRecDepth 100000
set_option maxHeartbeats 1000000
/-! The rules of a generator's body: sequence, if, for over a plain thing, yield, for over another generator. -/
namespace K91
open PySem PySem.Spec PyProof.Rows L2 GenW

section
variable {prog : Program} {w : World} {A : Around} {R : GenEnd} {Y : Protocol} {n : Nat} {s₀ : Shared} {c : Code} {fs : List Frame} {s : Shared} {env : Env} {K : Flow → Sem PySem.Fin} {J : Value → Sem PySem.Fin} {gd : Bool → Bool} {lv : List Value → List Value}
theorem segg_If {test : Expr} {body orelse : List Stmt} {pos : Pos}
    (h : wpAny (model prog w) (A.over c fs) (isTrue test env (eval test env)) (fun b s' => Seg (model prog w) A R Y n s₀ c ((if b = true then execs body env else execs orelse env).wrap K J gd lv) fs s') (fun _ _ => False) s) :
    Seg (model prog w) A R Y n s₀ c ((exec (.If test body orelse pos) env).wrap K J gd lv) fs s := by
  show Seg (model prog w) A R Y n s₀ c (.at pos fun _ => ((isTrue test env (eval test env)) >>= fun b => if b = true then execs body env else execs orelse env).wrap K J gd lv) fs s
  refine seg_at ?_
  exact seg_bind_wrap (wpAny_mono h (fun _ _ x => x) fun _ _ x => x.elim)
theorem segg_For {tg iter : Expr} {body : List Stmt} {pos : Pos} (hs : ∀ x, foldedSetIterable iter env x = pure x)
    (h : wpAny (model prog w) (A.over c fs) (eval iter env) (fun x s1 => wpAny (model prog w) (A.over c fs) (pyIter x) (fun it s2 => ∀ p,
      Seg (model prog w) A R Y n s₀ (.forLoop tg it body [] env) ((model prog w).den (.forLoop tg it body [] env)) (.ret (fun r => ((match r with | .ok f => (.pure f : Sem Flow) | .error e => .raise e).onRaise (cameBack env)).wrap K J gd lv) none (gd false) (lv []) c p [] :: fs) s2) (fun _ _ => False) s1) (fun _ _ => False) s) :
    Seg (model prog w) A R Y n s₀ c ((exec (.For tg iter body [] pos) env).wrap K J gd lv) fs s := by
  rw [exec_For]
  show Seg (model prog w) A R Y n s₀ c (.at pos fun _ => (eval iter env >>= fun v => (foldedSetIterable iter env v >>= fun x => standAt iter.pos >>= fun _ => holding [x] (pyIter x) >>= fun it => runOwn (.forLoop tg it body [] env) env)).wrap K J gd lv) fs s
  refine seg_at ?_
  refine seg_bind_wrap (wpAny_mono h (fun x s1 h1 => ?_) fun _ _ x => x.elim)
  rw [hs x]
  show Seg (model prog w) A R Y n s₀ c (.at iter.pos fun _ => (holding [x] (pyIter x) >>= fun it => runOwn (.forLoop tg it body [] env) env).wrap K J gd lv) fs s1
  refine seg_at ?_
  refine seg_bind_wrap (wpAny_holding (wpAny_mono h1 (fun it s2 h2 => ?_) fun _ _ x => x.elim))
  exact seg_call fun p => h2 p
theorem segg_forLoop {tg : Expr} {it : Value} {body : List Stmt}
    (h : wpAny (model prog w) (A.over (.forLoop tg it body [] env) fs) (pyNext it) (fun r s1 => match r with
      | none => Seg (model prog w) A R Y n s₀ (.block [] env) (.pure (.done .next)) fs s1
      | some v => wpAny (model prog w) (A.over (.forLoop tg it body [] env) fs) (letOwnedTupleGo tg it v) (fun _ s2 => wpAny (model prog w) (A.over (.forLoop tg it body [] env) fs) (assign tg env v) (fun _ s3 =>
          Seg (model prog w) A R Y n s₀ (.forLoop tg it body [] env) ((execs body env).wrap (fun f => match f with
            | .next | .cont => .pure (.again (.forLoop tg it body [] env))
            | .brk => .pure (.done .next)
            | .ret v => .pure (.done (.ret v))) (fun e => (do noteFrame e env; theTreesLotGoes e : Sem Unit).wrap (fun _ => .raise e) .raise id id) id id) fs s3) (fun _ _ => False) s2) (fun _ _ => False) s1) (fun _ _ => False) s) :
    Seg (model prog w) A R Y n s₀ (.forLoop tg it body [] env) ((model prog w).den (.forLoop tg it body [] env)) fs s := by
  show Seg _ A R Y n s₀ _ ((forTurn tg it body [] env).onRaise (fun x => do noteFrame x env; theTreesLotGoes x)) fs s
  unfold forTurn
  rw [Sem.onRaise_eq_wrap]
  show Seg _ A R Y n s₀ _ (.at tg.pos fun _ => ((pyNext it).onRaise (fun _ => standAt { tg.pos with line := 0 }) >>= fun r => match r with
    | none => again (.block [] env)
    | some v => (letOwnedTupleGo tg it v >>= fun _ => assign tg env v >>= fun _ => execs body env >>= fun f => match f with
      | .next | .cont => again (.forLoop tg it body [] env)
      | .brk => pure (.done .next)
      | .ret v => pure (.done (.ret v)))).wrap .pure (fun e => (do noteFrame e env; theTreesLotGoes e : Sem Unit).bind fun _ => .raise e) id id) fs s
  refine seg_at ?_
  refine seg_bind_wrap (wpAny_onRaise (wpAny_mono h (fun r s1 h1 => ?_) fun _ _ x => x.elim))
  cases r with
  | none => exact seg_again rfl h1
  | some v =>
    refine seg_bind_wrap (wpAny_mono h1 (fun _ s2 h2 => ?_) fun _ _ x => x.elim)
    refine seg_bind_wrap (wpAny_mono h2 (fun _ s3 h3 => ?_) fun _ _ x => x.elim)
    rw [Sem.bind_eq_wrap', Sem.wrap_wrap]
    rw [Sem.wrap_congr (execs body env) _ _ (K' := fun f => match f with
            | .next | .cont => .pure (.again (.forLoop tg it body [] env))
            | .brk => .pure (.done .next)
            | .ret v => .pure (.done (.ret v))) (H' := (fun e => (do noteFrame e env; theTreesLotGoes e : Sem Unit).wrap (fun _ => .raise e) .raise id id))
        (fun f => by cases f <;> rfl)
        (fun e => by first | exact Sem.bind_eq_wrap _ _ | (show (do noteFrame e env; theTreesLotGoes e : Sem Unit).bind (fun _ => .raise e) = _; rw [Sem.bind_eq_wrap]))]
    exact h3
end

/-! ### judgements -/
/-- where the generator's code stands -/
structure gC (Γ : GSet) (c : Code) (fs : List Frame) (gd : Bool → Bool) : Prop where
  over : Γ.A.over c fs = Γ.A.deeper Γ.env
  split : splitAtGen fs = none
  guard : fs.any Frame.guarded = false
  gd : gd false = false
structure gEnds where
  nx : Nat → L2.St → Hp → Prop
  bk : Nat → L2.St → Hp → Prop := fun _ _ _ => False
  ct : Nat → L2.St → Hp → Prop := fun _ _ _ => False
def gSP (Γ : GSet) (ip : List (Addr × Obj)) (D : gEnds) (j : Nat) (f : Flow) (s : Shared) : Prop :=
  match f with
  | .next => ∃ σ H, GI Γ j ip σ H s ∧ D.nx j σ H
  | .brk => ∃ σ H, GI Γ j ip σ H s ∧ D.bk j σ H
  | .cont => ∃ σ H, GI Γ j ip σ H s ∧ D.ct j σ H
  | .ret _ => False
abbrev GSet.M (Γ : GSet) : Model := model Γ.P Γ.w
/-- what follows -/
def gK (Γ : GSet) (ip : List (Addr × Obj)) (c : Code) (fs : List Frame) (K : Flow → Sem PySem.Fin) (D : gEnds) : Prop :=
  ∀ (j : Nat) (s₀ s : Shared) (f : Flow), j ≤ Γ.n → gSP Γ ip D j f s → Seg Γ.M Γ.A Γ.R Γ.Y (Γ.n + 1 - j) s₀ c (K f) fs s
abbrev gT := gEnds → Nat → L2.St → Hp → Prop
structure gS (Γ : GSet) (st : Stmt) (t : gT) : Prop where
  run : ∀ (ip : List (Addr × Obj)) (j : Nat) (s₀ : Shared) (c : Code) (fs : List Frame) (K : Flow → Sem PySem.Fin) (J : Value → Sem PySem.Fin) (gd : Bool → Bool) (lv : List Value → List Value) (s : Shared) (σ : L2.St) (H : Hp) (D : gEnds),
    gC Γ c fs gd → j ≤ Γ.n → gK Γ ip c fs K D → GI Γ j ip σ H s → t D j σ H → Seg Γ.M Γ.A Γ.R Γ.Y (Γ.n + 1 - j) s₀ c ((exec st Γ.env).wrap K J gd lv) fs s
structure gSs (Γ : GSet) (st : List Stmt) (t : gT) : Prop where
  run : ∀ (ip : List (Addr × Obj)) (j : Nat) (s₀ : Shared) (c : Code) (fs : List Frame) (K : Flow → Sem PySem.Fin) (J : Value → Sem PySem.Fin) (gd : Bool → Bool) (lv : List Value → List Value) (s : Shared) (σ : L2.St) (H : Hp) (D : gEnds),
    gC Γ c fs gd → j ≤ Γ.n → gK Γ ip c fs K D → GI Γ j ip σ H s → t D j σ H → Seg Γ.M Γ.A Γ.R Γ.Y (Γ.n + 1 - j) s₀ c ((execs st Γ.env).wrap K J gd lv) fs s

section
variable {Γ : GSet} {st : Stmt} {rest : List Stmt}
def tg0 : gT := fun D j σ H => D.nx j σ H
theorem gs_nil : gSs Γ [] tg0 := ⟨fun ip j s₀ c fs K J gd lv s σ H D g hj k hI ht => seg_execs_nil (k j s₀ s .next hj ⟨σ, H, hI, ht⟩)⟩
def tgThen (t u : gT) : gT := fun D j σ H => t { D with nx := fun j' σ' H' => u D j' σ' H' } j σ H
theorem gs_cons {t u : gT} (a : gS Γ st t) (b : gSs Γ rest u) : gSs Γ (st :: rest) (tgThen t u) := by
  refine ⟨fun ip j s₀ c fs K J gd lv s σ H D g hj k hI ht => ?_⟩
  refine seg_execs_cons ?_
  refine a.run ip j s₀ c fs _ J gd lv s σ H { D with nx := fun j' σ' H' => u D j' σ' H' } g hj (fun j' s₀' s' f hj' hs => ?_) hI ht
  cases f with
  | next =>
    obtain ⟨σ', H', I', q⟩ := hs
    exact b.run ip j' s₀' c fs K J gd lv s' σ' H' D g hj' k I' q
  | brk => exact k j' s₀' s' .brk hj' hs
  | cont => exact k j' s₀' s' .cont hj' hs
  | ret u => exact k j' s₀' s' (.ret u) hj' hs
/-- a plain step: from the invariant by an evaluation -/
theorem gi_step {j : Nat} {ip : List (Addr × Obj)} {σ σ' : L2.St} {H H' : Hp} {s s' : Shared} (hI : GI Γ j ip σ H s) (k : ∀ H_a s_a, Inv (Γ.X s_a H_a) ip σ H s → Inv (Γ.X s_a H_a) ip σ' H' s') (sm : Same H H') (hg : Γ.g < s'.gens.size) : GI Γ j ip σ' H' s' := by
  obtain ⟨hz, H_a, s_a, h1, h2, h3, I⟩ := hI
  exact ⟨hg, H_a, s_a, h1, h2.trans sm, h3, k _ _ I⟩
/-! ### if -/
def tgIf (c : TT) (a b : gT) : gT := fun D j σ H => c σ H fun x H1 => Same H H1 ∧ if x = true then a D j σ H1 else b D j σ H1
theorem gs_if {test : Expr} {body orelse : List Stmt} {pos : Pos} {tc : TT} {ta tb : gT} (hc : ∀ s H, PT (Γ.X s H) test tc) (ha : gSs Γ body ta) (hb : gSs Γ orelse tb) : gS Γ (.If test body orelse pos) (tgIf tc ta tb) := by
  refine ⟨fun ip j s₀ c fs K J gd lv s σ H D g hj k hI ht => ?_⟩
  refine segg_If ?_
  rw [g.over]
  obtain ⟨hg0, H_a, s_a, h1, h2, h3, I⟩ := hI
  refine wpAny_gsz (n := Γ.g + 1) hg0 (wpAny_mono ((hc s_a H_a).run ip s σ H _ I ht) (fun b s' hb' hz => ?_) fun x s' hx _ => hx.elim)
  obtain ⟨H2, I2, sm, q⟩ := hb'
  have hI2 : GI Γ j ip σ H2 s' := ⟨hz, H_a, s_a, h1, h2.trans sm, h3, I2⟩
  cases b with
  | true => exact ha.run ip j s₀ c fs K J gd lv s' σ H2 D g hj k hI2 q
  | false => exact hb.run ip j s₀ c fs K J gd lv s' σ H2 D g hj k hI2 q
/-! ### yield -/
def tgYield (te : TE) : gT := fun D j σ H => j < Γ.n ∧ te σ H fun x H1 => Same H H1 ∧ Γ.It j x H1 ∧ ∀ H2, Same H1 H2 → D.nx (j + 1) σ H2
theorem gs_yield {e : Expr} {te : TE} {yp pos : Pos} (ok : Γ.Ok) (he : ∀ s H, PE (Γ.X s H) e te) (hco : Γ.scope.isCoroutine = false := by rfl) (hi : interactive Γ.env = false := by rfl) : gS Γ (.Expr (.Yield (some e) yp) pos) (tgYield (Γ := Γ) te) := by
  refine ⟨fun ip j s₀ c fs K J gd lv s σ H D g hj k hI ht => ?_⟩
  obtain ⟨hlt, ht⟩ := ht
  obtain ⟨m, hm⟩ : ∃ m, Γ.n + 1 - j = m + 1 := ⟨Γ.n - j, by omega⟩
  rw [hm]
  obtain ⟨hg0, H_a, s_a, h1, h2, h3, I⟩ := hI
  refine seg_Expr_Yield g.split g.gd g.guard ?_ hco hi
  rw [g.over]
  refine wpAny_gsz (n := Γ.g + 1) hg0 (wpAny_mono ((he s_a H_a).run _ s σ H _ I ht) (fun v s' hv hz => ?_) fun x s' hx _ => hx.elim)
  obtain ⟨x, H1, I1, rv, sm, hit, q⟩ := hv
  intro kap hk
  refine ⟨j, H_a, s_a, H1, x, by omega, hlt, h1.phi, ran_of I1 (h2.trans sm), rv, hit, fun H' s'' hΦ z => hk .none s'' ?_⟩
  have e : m = Γ.n + 1 - (j + 1) := by omega
  rw [e]
  exact k (j + 1) s'' s'' .next hlt ⟨σ, H', ⟨Nat.lt_of_lt_of_le hz z.gsz, H', s'', ⟨hΦ, Nat.le_of_lt (woken ok I1 h3 z).lt, fun b hb => (z.gobj b hb).2.imp fun _ q => q.1⟩, Same.refl _, h3, woken ok I1 h3 z⟩, q H' z.same⟩

/-! ### for over a thing that stands still -/
def tgFor (wi : TI) (g : TG) (tb : gT) : gT := fun D j σ H => wi σ H fun J H1 => Same H H1 ∧ ∃ W : Nat → Nat → Nat → L2.St → Hp → Prop, (∃ m, W 0 m j σ H1) ∧ ∀ i m j σ H, W i m j σ H →
  (J.stop i H ∧ D.nx j σ H) ∨ (J.go i H ∧ ∃ N : Nat → L2.St → Hp → Prop, (∀ j' σ' H', N j' σ' H' → ∃ m', m' < m ∧ W (i + 1) m' j' σ' H') ∧ ∀ x H', J.yld i H x H' → Same H H' ∧ g x σ H' fun σ2 H2 => Same H' H2 ∧ tb { D with nx := N, ct := N, bk := D.nx } j σ2 H2)
theorem gc_in {c c' : Code} {fs : List Frame} {gd : Bool → Bool} {k : Result → Sem PySem.Fin} {l kp : List Value} {p : Pos} (g : gC Γ c fs gd) (hw : c'.weight = 0) (hu : c'.cUnits = 0) :
    gC Γ c' (.ret k none (gd false) l c p kp :: fs) id where
  over := (over_loop hw hu).trans g.over
  split := by
    show (splitAtGen fs).map _ = none
    rw [g.split]; rfl
  guard := by
    show (gd false || fs.any Frame.guarded) = false
    rw [g.gd, g.guard]; rfl
  gd := rfl
theorem gs_for {tg iter : Expr} {body : List Stmt} {pos : Pos} {wi : TI} {tgt : TG} {tb : gT} (ok : Γ.Ok) (hi : ∀ s H, PI (Γ.X s H) tg iter wi) (hg : ∀ s H, PG (Γ.X s H) tg tgt) (hb : gSs Γ body tb)
    (hs : ∀ x, foldedSetIterable iter Γ.env x = pure x := by intro _; rfl) : gS Γ (.For tg iter body [] pos) (tgFor wi tgt tb) := by
  refine ⟨fun ip j s₀ c fs K J gd lv s σ H D g hj k hI ht => ?_⟩
  refine segg_For hs ?_
  rw [g.over]
  obtain ⟨hg0, H_a, s_a, h1, h2, h3, I⟩ := hI
  refine wpAny_gsz (n := Γ.g + 1) hg0 (wpAny_mono ((hi s_a H_a).run ip s σ H _ I ht) (fun v s1 hv hz1 => ?_) fun x s' hx _ => hx.elim)
  refine wpAny_gsz (n := Γ.g + 1) hz1 (wpAny_mono hv (fun itv s2 h2' hz2 => ?_) fun x s' hx _ => hx.elim)
  obtain ⟨it, fp, tn, Jt, H2, e, I2, T, st2, f2, sm2, W, ⟨m0, w0⟩, turn⟩ := h2'
  subst e
  intro p
  have fpa : ∀ b ∈ fp, Γ.n0 ≤ b ∧ b ∉ Γ.own ∧ b ≠ Γ.n0 ∧ ∀ p ∈ ip, p.1 ≠ b := fun b hb => by
    obtain ⟨z1, z2⟩ := fp_above h1 (f2 b hb)
    obtain ⟨f0, f1, _, _, _, f5⟩ := f2 b hb
    exact ⟨z1, z2, f1, fun q hq => f5 q (List.mem_append_right _ hq)⟩
  have gl := gc_in (k := fun r => ((match r with | .ok f => (.pure f : Sem Flow) | .error e => .raise e).onRaise (cameBack Γ.env)).wrap K J gd lv) (c' := .forLoop tg (.ref it) body [] Γ.env) (l := lv []) (kp := []) (p := p) g rfl rfl
  have loop : ∀ (m i j : Nat) (s₀ s : Shared) (σ : L2.St) (H : Hp), j ≤ Γ.n → W i m j σ H → GI Γ j ip σ H s → tn i s.heap → (∀ b ∈ fp, H b = none) →
      Seg Γ.M Γ.A Γ.R Γ.Y (Γ.n + 1 - j) s₀ (.forLoop tg (.ref it) body [] Γ.env) (Γ.M.den (.forLoop tg (.ref it) body [] Γ.env))
        (.ret (fun r => ((match r with | .ok f => (.pure f : Sem Flow) | .error e => .raise e).onRaise (cameBack Γ.env)).wrap K J gd lv) none (gd false) (lv []) c p [] :: fs) s := by
    intro m
    induction m using Nat.strongRecOn with
    | ind m ih =>
      intro i j s₀ s σ H hj w hI st hn
      obtain ⟨hg0, H_a, s_a, h1, h2, h3, I⟩ := hI
      have fok : ∀ {H : Hp}, (∀ b ∈ fp, H b = none) → ∀ b ∈ fp, FpOk (Γ.X s_a H_a) ip H b := fun hn b hb => fp_at (pins' := ip) ok h1 (hn b hb) (fpa b hb).1 (fpa b hb).2.1 (fpa b hb).2.2.1 (fpa b hb).2.2.2
      refine segg_forLoop ?_
      rw [gl.over]
      rcases turn i m j σ H w with ⟨stop, qn⟩ | ⟨go, N, hN, step⟩
      · refine wpAny_gsz (n := Γ.g + 1) hg0 (wpAny_mono (T.done (Γ.X s_a H_a) rfl rfl rfl rfl i ip s σ H (fun _ _ => False) I (fok hn) st stop) (fun r s4 hr hz => ?_) fun _ _ x _ => x)
        obtain ⟨rfl, I4⟩ := hr
        exact seg_leaf (.ok .next) (k j s₀ s4 .next hj ⟨σ, H, ⟨hz, H_a, s_a, h1, h2, h3, I4⟩, qn⟩)
      · refine wpAny_gsz (n := Γ.g + 1) hg0 (wpAny_mono (T.item (Γ.X s_a H_a) rfl rfl rfl rfl i ip s σ H (fun _ _ => False) I (fok hn) st go) (fun r s4 hr hz4 => ?_) fun _ _ x _ => x)
        obtain ⟨u, rfl, h4⟩ := hr
        refine wpAny_gsz (n := Γ.g + 1) hz4 (wpAny_mono h4 (fun _ s5 h5 hz5 => ?_) fun _ _ x _ => x)
        obtain ⟨x, H5, I5, r5, y5, st5, fr5⟩ := h5
        obtain ⟨sm5, q5⟩ := step x H5 y5
        have I5' := I5.pinned (fok fr5) (T.obj _ _ st5)
        refine wpAny_gsz (n := Γ.g + 1) hz5 (wpAny_mono ((hg s_a H_a).run _ s5 σ H5 x u _ I5' r5 q5) (fun _ s6 h6 hz6 => ?_) fun _ _ x _ => x.elim)
        obtain ⟨σ6, H6, I6, sm6, q6⟩ := h6
        have hip : ∀ p ∈ ip ++ pinsAt fp s5.heap, Γ.n0 ≤ p.1 ∧ p.1 ∉ Γ.own := fun p hp => by
          rcases List.mem_append.mp hp with z | z
          · exact h3 p z
          · exact ⟨(fpa p.1 (of_pinsAt z).1).1, (fpa p.1 (of_pinsAt z).1).2.1⟩
        refine hb.run (ip ++ pinsAt fp s5.heap) j s₀ _ _ _ _ id id s6 σ6 H6 { D with nx := N, ct := N, bk := D.nx } gl hj (fun j' s₀' s' f hj' hs => ?_) ⟨hz6, H_a, s_a, h1, (h2.trans sm5).trans sm6, hip, I6⟩ q6
        have again : ∀ {σ7 : L2.St} {H7 : Hp}, GI Γ j' (ip ++ pinsAt fp s5.heap) σ7 H7 s' → N j' σ7 H7 → Seg Γ.M Γ.A Γ.R Γ.Y (Γ.n + 1 - j') s₀' (.forLoop tg (.ref it) body [] Γ.env) (.pure (.again (.forLoop tg (.ref it) body [] Γ.env)))
            (.ret (fun r => ((match r with | .ok f => (.pure f : Sem Flow) | .error e => .raise e).onRaise (cameBack Γ.env)).wrap K J gd lv) none (gd false) (lv []) c p [] :: fs) s' := fun {σ7 H7} hI7 n7 => by
          obtain ⟨m', hm, w7⟩ := hN j' σ7 H7 n7
          obtain ⟨z7, H_b, s_b, k1, k2, k3, I7⟩ := hI7
          refine seg_again rfl (ih m' hm (i + 1) j' s₀' s' σ7 H7 hj' w7 ⟨z7, H_b, s_b, k1, k2, h3, I7.unpinned⟩ (T.keep _ _ _ st5 fun b hb o e => (I7.pin (b, o) (List.mem_append_right _ (List.mem_append_right _ (mem_pinsAt hb e)))).1) fun b hb => ?_)
          obtain ⟨o, e, d⟩ := T.obj _ _ st5 b hb
          exact (I7.pin (b, o) (List.mem_append_right _ (List.mem_append_right _ (mem_pinsAt hb e)))).2.1
        have gun : ∀ {σ7 : L2.St} {H7 : Hp}, GI Γ j' (ip ++ pinsAt fp s5.heap) σ7 H7 s' → GI Γ j' ip σ7 H7 s' := fun {σ7 H7} hI7 => by
          obtain ⟨z7, H_b, s_b, k1, k2, k3, I7⟩ := hI7
          exact ⟨z7, H_b, s_b, k1, k2, h3, I7.unpinned⟩
        cases f with
        | next => obtain ⟨σ7, H7, I7, n7⟩ := hs; exact again I7 n7
        | cont => obtain ⟨σ7, H7, I7, n7⟩ := hs; exact again I7 n7
        | brk => obtain ⟨σ7, H7, I7, n7⟩ := hs; exact seg_leaf (.ok .next) (k j' s₀' s' .next hj' ⟨σ7, H7, gun I7, n7⟩)
        | ret v => exact hs.elim
  exact loop m0 0 j s₀ s2 σ H2 hj w0 ⟨hz2, H_a, s_a, h1, h2.trans sm2, h3, I2⟩ st2 fun b hb => (f2 b hb).1
end
/-! ### the forms one uses -/
theorem gfor_range {lo : Int} {n : Nat} {g : TG} {tb : gT} {D : gEnds} {j0 : Nat} {σ0 : L2.St} {H0 : Hp} (Pv : Nat → Nat → L2.St → Hp → Prop) (h0 : Pv 0 j0 σ0 H0)
    (hs : ∀ i j σ H, i < n → Pv i j σ H → g (.int (lo + i)) σ H fun σ2 H2 => Same H H2 ∧ tb { D with nx := Pv (i + 1), ct := Pv (i + 1), bk := D.nx } j σ2 H2) (hd : ∀ j σ H, Pv n j σ H → D.nx j σ H) :
    ∃ W : Nat → Nat → Nat → L2.St → Hp → Prop, (∃ m, W 0 m j0 σ0 H0) ∧ ∀ i m j σ H, W i m j σ H →
      ((Itr lo n).stop i H ∧ D.nx j σ H) ∨ ((Itr lo n).go i H ∧ ∃ N : Nat → L2.St → Hp → Prop, (∀ j' σ' H', N j' σ' H' → ∃ m', m' < m ∧ W (i + 1) m' j' σ' H') ∧ ∀ x H', (Itr lo n).yld i H x H' → Same H H' ∧ g x σ H' fun σ2 H2 => Same H' H2 ∧ tb { D with nx := N, ct := N, bk := D.nx } j σ2 H2) := by
  refine ⟨fun i m j σ H => m = n - i ∧ i ≤ n ∧ Pv i j σ H, ⟨n, by simp, Nat.zero_le _, h0⟩, ?_⟩
  rintro i m j σ H ⟨rfl, hi, p⟩
  by_cases hlt : i < n
  · refine .inr ⟨hlt, Pv (i + 1), fun j' σ' H' p' => ⟨n - (i + 1), by omega, rfl, hlt, p'⟩, fun x H' y => ?_⟩
    obtain ⟨e, y⟩ := y
    subst e y
    exact ⟨Same.refl _, hs i j σ _ hlt p⟩
  · have e : i = n := by omega
    subst e
    exact .inl ⟨Nat.le_refl _, hd j σ H p⟩
theorem gfor_list {K : PySem.W.Frag} {a : Addr} {xs : List V} {g : TG} {tb : gT} {D : gEnds} {j0 : Nat} {σ0 : L2.St} {H0 : Hp} (Pv : Nat → Nat → L2.St → Hp → Prop) (h0 : Pv 0 j0 σ0 H0) (hl : ∀ i j σ H, i ≤ xs.length → Pv i j σ H → SqL K H a xs)
    (hs : ∀ i x j σ H, xs[i]? = some x → Pv i j σ H → g x σ H fun σ2 H2 => Same H H2 ∧ tb { D with nx := Pv (i + 1), ct := Pv (i + 1), bk := D.nx } j σ2 H2) (hd : ∀ j σ H, Pv xs.length j σ H → D.nx j σ H) :
    ∃ W : Nat → Nat → Nat → L2.St → Hp → Prop, (∃ m, W 0 m j0 σ0 H0) ∧ ∀ i m j σ H, W i m j σ H →
      ((Itl K a).stop i H ∧ D.nx j σ H) ∨ ((Itl K a).go i H ∧ ∃ N : Nat → L2.St → Hp → Prop, (∀ j' σ' H', N j' σ' H' → ∃ m', m' < m ∧ W (i + 1) m' j' σ' H') ∧ ∀ x H', (Itl K a).yld i H x H' → Same H H' ∧ g x σ H' fun σ2 H2 => Same H' H2 ∧ tb { D with nx := N, ct := N, bk := D.nx } j σ2 H2) := by
  refine ⟨fun i m j σ H => m = xs.length - i ∧ i ≤ xs.length ∧ Pv i j σ H, ⟨xs.length, by simp, Nat.zero_le _, h0⟩, ?_⟩
  rintro i m j σ H ⟨rfl, hi, p⟩
  have q := hl i j σ H hi p
  by_cases hlt : i < xs.length
  · refine .inr ⟨⟨xs, xs[i], q, by simp [hlt]⟩, Pv (i + 1), fun j' σ' H' p' => ⟨xs.length - (i + 1), by omega, rfl, hlt, p'⟩, fun x H' y => ?_⟩
    obtain ⟨e, y⟩ := y
    subst e
    exact ⟨Same.refl _, hs i x j σ _ (y xs q) p⟩
  · have e : i = xs.length := by omega
    subst e
    exact .inl ⟨⟨xs, q, Nat.le_refl _⟩, hd j σ H p⟩
end K91
set_option Elab.async false
set_option linter.all false
set_option maxRecDepth 100000
set_option maxHeartbeats 1000000
/-! Evaluations that leave the generators as they are; the wake of a generator of ours; for over it. -/
namespace K91
open PySem PySem.Spec PyProof.Rows L2 GenW

/-! ### evaluations that touch no generator -/
structure PQ (X : Cx) (e : Expr) (t : TE) : Prop where
  run : ∀ (pins : List (Addr × Obj)) (s : Shared) (σ : L2.St) (H : Hp) (Q : VK), Inv X pins σ H s → t σ H Q → wpAny (model X.prog X.w) X.A (eval e X.env) (fun u s' => EP X pins σ Q u s' ∧ s'.gens = s.gens) X.xe s
section
variable {X : Cx} {pos : Pos}
theorem pq_var {i : Nat} {x : Str} (hN : X.N[i]? = some x) (hv : Vis X.env.scope x) (hd : (x == ("__debug__" : Str)) = false := by decide) (hcd : (x == ("__classdict__" : Str)) = false := by decide) : PQ X (.Name x pos) (tVar i) := by
  refine ⟨fun pins s σ H Q I ⟨v, e, h⟩ => ?_⟩
  obtain ⟨m, hn, hl⟩ := I.loc
  obtain ⟨u, r, l⟩ := hl i x v hN e hv
  have fin : EP X pins σ Q u s ∧ s.gens = s.gens := ⟨⟨v, H, I, r, h⟩, rfl⟩
  rcases l with ⟨hk, hm⟩ | ⟨hk | hk, c, hc, hcell⟩
  · exact wpAny_Name (wpAny_loadName_local I.ok.kind hk hn hm fin) hd
  · exact wpAny_Name (wpAny_loadName_cell I.ok.kind hk hc hcell fin) hd
  · exact wpAny_Name (wpAny_loadName_free I.ok.kind hk hc hcell fin hcd) hd
theorem pq_fld {e : Expr} {f : Str} {ta : TE} (he : PQ X e ta) (hb : attributeBase e f X.env (eval e X.env) = eval e X.env) : PQ X (.Attribute e f pos) (tFld X.K ta f) := by
  refine ⟨fun pins s σ H Q I h => attr_of hb (thn (he.run pins s σ H _ I h) fun u s1 h1 => ?_)⟩
  obtain ⟨⟨x, H1, I1, rx, a, C, dx, fs, v, ex, ea, c, n, l, q⟩, hg⟩ := h1
  subst ex
  obtain rfl : u = Value.ref a := rx
  obtain ⟨mA, O, r, _, _, _⟩ := ins_get I1.hok ea
  obtain ⟨u', hu, ru⟩ := RelO.some_of (v := v) (o := mA f) (by rw [← l]; exact r f)
  exact get_map I1.kIn O (c.get f) c.hd n hu (handed_of ru) ⟨⟨v, H1, I1.tok _, ru, q⟩, hg⟩
def tqIx (K : PySem.W.Frag) (ta tb : TE) : TE := fun σ H Q => ta σ H fun x H1 => tb σ H1 fun y H2 => ∃ p xs, ∃ i : Nat, ∃ v, x = .ref p ∧ y = .int i ∧ SqL K H2 p xs ∧ xs[i]? = some v ∧ Q v H2
theorem pq_ix {a b : Expr} {ta tb : TE} (ha : PQ X a ta) (hb : PQ X b tb) (hs : PlainIx b) : PQ X (.Subscript a b pos) (tqIx X.K ta tb) := by
  refine ⟨fun pins s σ H Q I h => Subscript_ (thn (ha.run pins s σ H _ I h) fun v s1 h1 => ?_)⟩
  obtain ⟨⟨x, H1, I1, rx, h1⟩, g1⟩ := h1
  refine thn (hb.run pins s1 σ H1 _ I1 h1) fun u s2 h2 => ?_
  obtain ⟨⟨y, H2, I2, ry, p, xs, i, z, rfl, rfl, hq, he, q⟩, g2⟩ := h2
  cases rx
  obtain ⟨t, rfl⟩ := ry
  obtain ⟨its, r, pl, hz⟩ := I2.list hq
  obtain ⟨w, ew, rw'⟩ := r.get he
  have hi : i < xs.length := (List.getElem?_eq_some_iff.mp he).1
  have hn := line63
  refine item_listR pl.isList (k := (i : Int)) (by omega) ?_ (x := w) (by simpa using ew) ⟨⟨z, H2, I2, rw', q⟩, g2.trans g1⟩ (hs _ _)
  have h64 : ((i : Nat) : Int) < 2 ^ 63 := by
    have : i < sizeLine := Nat.lt_of_lt_of_le hi hz
    omega
  exact h64
/-- (a, *b), b a tuple -/
def tqCons (K : PySem.W.Frag) (ta tb : TE) : TE := fun σ H Q => ta σ H fun x H1 => tb σ H1 fun y H2 => ∃ p xs, y = .ref p ∧ SqT K H2 p xs ∧ xs.length + 1 ≤ sizeLine ∧ ∀ t, H2 t = none → Q (.ref t) (upd H2 t (.tup (x :: xs)))
theorem pq_cons {a b : Expr} {x1} {p : Pos} {ta tb : TE} (ha : PQ X a ta) (hb : PQ X b tb) (he : starEach [a, .Starred b p] X.env = (false, eval a X.env) :: starEach [.Starred b p] X.env := by rfl) : PQ X (.Tuple [a, .Starred b p] x1 pos) (tqCons X.K ta tb) := by
  refine ⟨fun pins s σ H Q I h => wpAny_Tuple_spliced ?_⟩
  rw [he]
  refine Calls.spliced_cons (thn (ha.run pins s σ H _ I h) fun v s1 h1 => ?_)
  obtain ⟨⟨x, H1, I1, rx, h1⟩, g1⟩ := h1
  refine PySem.W.items_star (thn (hb.run pins s1 σ H1 _ I1 h1) fun u s2 h2 => ?_)
  obtain ⟨⟨y, H2, I2, ry, p, xs, rfl, hq, hle, q⟩, g2⟩ := h2
  cases ry
  obtain ⟨its, r, ⟨o, ho, hc, n, hd⟩, hz⟩ := I2.tuple hq
  have hT' : s2.TypeIs (.ref p) "tuple" := ⟨o, ho, hc⟩
  have hsz : its.toArray.size ≤ sizeLine := by
    have := r.length
    simp only [List.size_toArray]
    omega
  unfold PySem.W.StarOf notIterableAtAll
  refine wpAny_bind (wpAny_specialOf hT' PySem.F.slot_tuple_iter.lookup (wpAny_pure ⟨rfl, ?_⟩))
  refine wpAny_collect_seq p (.inr rfl) ho hc hd (fun h' hk => Calls.spliced_nil ?_) hsz
  have I3 : Inv X pins σ H2 { s2 with heap := h' } := I2.kept (t' := s2.toks) hk
  have rr : Vals (x :: xs) (v :: (its.toArray.toList ++ [])) := .cons rx (by simpa using r)
  refine ⟨by rw [← rr.length]; simpa using hle, ?_⟩
  have hf : H2 h'.objs.size = none := I3.hok.fresh (Nat.le_refl _)
  refine ⟨⟨.ref h'.objs.size, upd H2 h'.objs.size (.tup (x :: xs)), I3.laid (t' := s2.toks) (fun b u e => Heap.get?_push_of_some _ e) (Nat.le_refl _) ?_, rfl, q _ hf⟩, g2.trans g1⟩
  exact ⟨by simpa using hle, _, rr, ⟨_, Heap.get?_push_size _ rfl, rfl, _, rfl⟩⟩
end
/-- a local name of a generator's frame is stored -/
theorem gstore {Γ : GSet} (ok : Γ.Ok) {H_a H : Hp} {s_a s : Shared} {pins : List (Addr × Obj)} {σ : L2.St} {i : Nat} {x : Str} {pos : Pos} {v : V} {u : Value} {Q : Unit → Shared → Prop} {E : Value → Shared → Prop} (I : Inv (Γ.X s_a H_a) pins σ H s) (hN : Γ.N.Nodup) (hi : Γ.N[i]? = some x) (hx : Γ.scope.names.lookup x = some .local) (r : RelV v u)
    (h : ∀ h' tk, Inv (Γ.X s_a H_a) pins (σ.set i (some v)) H { s with heap := h', toks := tk } → Heap.SameBut Γ.n0 s.heap h' → Q () { s with heap := h', toks := tk }) : wpAny Γ.M (Γ.A.deeper Γ.env) (assign (.Name x pos) Γ.env u) Q E s := by
  obtain ⟨m, hn, hl⟩ := id I.loc
  have hiσ : i < σ.length := by rw [I.len]; exact (List.getElem?_eq_some_iff.mp hi).1
  have hcls : (Γ.env.scope.kind == .class || (Γ.env.scope.kind == .module && Γ.env.locals != Γ.env.globals)) = false := by
    rw [show Γ.env.scope.kind = .function from ok.kind]; rfl
  refine wpAny_assign_Name (wpAny_storeName_local hx hn (fun h' hn' hs => h h' _ ?_ hs) hcls)
  have nb : ∀ b o, (cutH s_a.heap Γ.n0).get? b = some o → b ≠ Γ.n0 := fun b o e z => by
    have := (of_cut e).1
    rw [z] at this
    exact absurd this (Nat.lt_irrefl _)
  have hfree : H Γ.n0 = none := I.free
  refine ⟨I.ok, I.os, I.bare, ⟨fun b o e n hb hx => ?_, fun b o e n hb hx => ?_, I.base.free, fun b o e hx => ?_, I.base.tups, I.base.frzs, I.base.tbls⟩, ⟨_, hn', fun j y v' e1 e2 e3 => ?_⟩, fun y c e => (no_cell ok e).elim, I.free, I.freeC, fun p hp => ?_, fun b ob e => ?_, by simpa using I.len⟩
  · have e1 := I.base.keep b o e n hb hx
    exact (hs.2 b (nb b o e)).trans e1
  · obtain ⟨sl, e1⟩ := I.base.slot b o e n hb hx
    exact ⟨sl, (hs.2 b (nb b o e)).trans e1⟩
  · obtain ⟨o', e1⟩ := I.base.there b o e hx
    exact ⟨o', (hs.2 b (nb b o e)).trans e1⟩
  · by_cases hj : j = i
    · subst hj
      have ey : x = y := Option.some.inj (hi.symm.trans e1)
      subst ey
      rw [List.getElem?_set_self hiσ] at e2
      cases e2
      exact ⟨u, r, .inl ⟨hx, by simp⟩⟩
    · rw [List.getElem?_set_ne (Ne.symm hj)] at e2
      obtain ⟨u', r', q⟩ := hl j y v' e1 e2 e3
      refine ⟨u', r', ?_⟩
      rcases look_local (h' := h') ok q with ⟨k, e⟩ | q2
      · refine .inl ⟨k, ?_⟩
        have ne : y ≠ x := fun e => hj (nodup_ix hN e1 (e ▸ hi))
        simp [ne, e]
      · rcases q2.1 with z | z
        · exact absurd z (ok.noc y).1
        · exact absurd z (ok.noc y).2
  · obtain ⟨e, n, ne, nf, d⟩ := I.pin p hp
    exact ⟨(hs.2 p.1 ne).trans e, n, ne, nf, d⟩
  · refine (I.hok b ob e).stay (fun c w' hc q => (hs.2 c ?_).trans q) (fun _ q => q) fun _ _ q => q
    rintro rfl
    rcases hc with z | z
    · have e' : H Γ.n0 = some ob := by rw [← z] at e; exact e
      rw [hfree] at e'; cases e'
    · have e' : H Γ.n0 = some (.own b) := z
      rw [hfree] at e'; cases e'

/-! ### the wake -/
theorem next_own {Γ : GSet} {A : Around} {s : Shared} {j : Nat} {gs : GenState} {Q : Option Value → Shared → Prop} {E : Value → Shared → Prop} (hA : Γ.A = A.in1) (hh : A.handled = none) (hl : s.heap.NoLimit) (hroom : A.depth < recursionLimit) (hg : s.heap.IsGen Γ.a Γ.g)
    (hgs : s.gens[Γ.g]? = some gs) (hj : j ≤ Γ.n) (hgo : gs.Goes Γ.M Γ.A Γ.R Γ.Y (Γ.n + 1 - j) (.send .none) (s.setGen Γ.g .running))
    (hY : j < Γ.n → ∀ v s1 gs' H_a s_a H x, gs'.bare = true → Γ.Φ j H_a s_a → Ran Γ H_a s_a H s1 → RelV x v → Γ.It j x H →
      (∀ H' s', Γ.Φ (j + 1) H' s' → Slp Γ H s1 H' s' → gs'.Goes Γ.M Γ.A Γ.R Γ.Y (Γ.n + 1 - (j + 1)) (.send .none) s') → Q (some v) (s1.setGen Γ.g gs'))
    (hP : j = Γ.n → ∀ s1 H_a s_a H, Γ.Φ Γ.n H_a s_a → Ran Γ H_a s_a H s1 → ∀ h', (∀ b o, s1.heap.get? b = some o → h'.get? b = some o) → Q none { s1.setGen Γ.g .finished with heap := h' }) :
    wpAny Γ.M A (pyNext (.ref Γ.a)) Q E s := by
  have hgo' : gs.Goes Γ.M A.in1 (fun m s₀ r s₁ => ((r = .ok (.ret .none) ∨ r = .ok .next) ∧ (fun (m : Nat) (s₀ s₁ : Shared) => m = 1 ∧ ∃ H_a s_a H, Γ.Φ Γ.n H_a s_a ∧ Ran Γ H_a s_a H s₁) m s₀ s₁) ∨ ∃ e, r = .error e ∧ (fun (_ : Value) (_ : Shared) => False) e s₁) Γ.Y (Γ.n + 1 - j) (.send .none) (s.setGen Γ.g .running) := by
    rw [← hA]
    exact hgo
  refine next_genG hh hl hroom hg hgs hgo' (fun v s1 gs' hb hy => ?_) (fun s1 hp h' hk => ?_) fun e s1 z => z.elim
  · obtain ⟨j', H_a, s_a, H, x, e1, e2, h1, h2, h3, h4, h5⟩ := hy
    obtain rfl : j' = j := by omega
    refine hY e2 v s1 gs' H_a s_a H x hb h1 h2 h3 h4 fun H' s' a b => ?_
    have q := h5 H' s' a b
    obtain ⟨m, hm⟩ : ∃ m, Γ.n + 1 - j' = m + 1 := ⟨Γ.n - j', by omega⟩
    rw [hm] at q
    rw [show Γ.n + 1 - (j' + 1) = m by omega, hA]
    exact q
  · obtain ⟨hm, H_a, s_a, H, h1, h2⟩ := hp
    exact hP (by omega) s1 H_a s_a H h1 h2 h' hk
end K91
set_option Elab.async false
set_option linter.all false
set_option maxRecDepth 100000
set_option maxHeartbeats 1000000
/-! A generator is made; it begins; for over it. -/
namespace K91
open PySem PySem.Spec PyProof.Rows L2 GenW

/-- a generator that has not begun -/
structure GMk (N : List Str) (qual : Str) (scope : Scope) (f : Addr) (cd : Value) (body : List Stmt) (vs : List V) (s : Shared) (n0 : Nat) (a : Addr) (g : Nat) (s' : Shared) : Prop where
  n0e : n0 = s.heap.objs.size
  lt : n0 < a
  ltn : a < s'.heap.objs.size
  gen : s'.heap.IsGen a g
  ge : g = s.gens.size
  gs : s'.gens = s.gens.push (.fresh (.func body (envOfC qual scope n0 f cd)))
  os : s'.os = s.os
  kept : ∀ b o, s.heap.get? b = some o → s'.heap.get? b = some o
  loc : ∃ m, s'.heap.Ns n0 m ∧ ∀ (i : Nat) (x : Str) (v : V), N[i]? = some x → (L2.start N vs)[i]? = some (some v) → Vis scope x → ∃ u, RelV v u ∧ Look (envOfC qual scope n0 f cd) s'.heap m x u

theorem gmk_call {P : Program} {w : World} {K : PySem.W.Frag} {mg : Str → Option Value} {base : Heap} {f : Addr} {name qual : Str} {params : Arguments} {body : List Stmt} {scope : Scope} {dV kV doc pm cdv ct oc : Value} {an od : Option Addr}
    {osl : Array (Option Value)} {N ps : List Str} {A : Around} {outer : List Env} {s : Shared} {H : Hp} {args : Args} {us : List Value} {vs : List V}
    (lk : K.lookup f = some ⟨oc, od, .func (PySem.W.fnOf name qual params body scope dV kV doc pm an cdv ct), osl⟩) (hcd : PySem.W.codeIn K cdv qual = true) (S : GScope N ps scope) (hd : A.handled = none) (hroom : A.depth < recursionLimit)
    (e0 : Env0 P w K mg base A outer s H) (hb : BindsTo s (PySem.W.fnOf name qual params body scope dV kV doc pm an cdv ct) args (ps.zip us)) (r : Vals vs us) (hl : vs.length = ps.length) :
    codeAny (model P w) A (.call (.ref f) args) (fun r s' => ∃ a g, r = .ok (.ret (.ref a)) ∧ GMk N qual scope f cdv body vs s s.heap.objs.size a g s') s := by
  have KX : K.In s.heap := e0.mod.kin.keeps fun b o e => (e0.bs b o e).1
  have lim : s.heap.NoLimit := e0.mod.nolimit.keeps fun b o e => (e0.bs b o e).1
  have hkind : ∀ y ∈ ps.zip us, scope.names.lookup y.1 = some .local ∨ (scope.names.lookup y.1 = some .cell ∧ ((cellsFrom (s.heap.objs.size + 1) scope.names []).lookup y.1).isSome = true) := fun ⟨n, v⟩ hy =>
    (S.par n (List.of_mem_zip hy).1).imp id fun q => ⟨q, PySem.W.cellsFrom_some _ _ _ (.inl q)⟩
  refine codeAny_call_generator hroom (KX _ _ lk) rfl S.co S.gen rfl (PySem.W.codeRec_of KX hcd) (hb _ _ _ _ ?_)
  refine wpAny_newFunctionEnv_cells S.kind hkind fun env he s1 x => ?_
  subst he
  refine ⟨lim.keeps x.toInCall.keep, ?_⟩
  have I1 : Inv (gcxOf P w K mg base N qual scope f cdv A outer s H (fun _ _ _ => False) []) [] (L2.start N vs) H s1 := inv_startG S hd e0 hl r x
  obtain ⟨h1, tk, es1, hk1⟩ := x.done
  have lt1 : s.heap.objs.size < s1.heap.objs.size := x.toInCall.ns.lt
  have main : ∀ (go : Obj) (nm qn : Value) (tk2 : Nat), go.cls = .type "generator" → go.data = .fields #[.int s1.gens.size 0, nm, qn] → go.slots = #[] → (∀ h : Heap, (h.push go).get? h.objs.size = some go) →
      ∃ a g, Except.ok (ε := Value) (Flow.ret (.ref s1.heap.objs.size)) = .ok (.ret (.ref a)) ∧ GMk N qual scope f cdv body vs s s.heap.objs.size a g { s1 with gens := s1.gens.push (.fresh (.func body (envOfC qual scope s.heap.objs.size f cdv))), toks := tk2, heap := s1.heap.push go } := by
    intro go nm qn tk2 hgc hgd0 hgs hgp
    refine ⟨s1.heap.objs.size, s1.gens.size, rfl, rfl, lt1, ?_, ⟨go, nm, qn, hgp _, hgc, hgd0, hgs⟩, by rw [es1], by rw [es1], by rw [es1], fun b o e => Heap.get?_push_of_some _ (x.toInCall.keep b o e), ?_⟩
    · show _ < (s1.heap.push go).objs.size
      rw [Heap.size_push]; exact Nat.lt_succ_self _
    · obtain ⟨m, ⟨o, es, ep, ho, hd', rr⟩, hlk⟩ := I1.loc
      refine ⟨m, ⟨o, es, ep, Heap.get?_push_of_some _ ho, hd', rr⟩, fun i y v e1 e2 e3 => ?_⟩
      obtain ⟨u, r1, l⟩ := hlk i y v e1 e2 e3
      refine ⟨u, r1, ?_⟩
      rcases l with l | ⟨k, c, e, oc, hoc, hz⟩
      · exact .inl l
      · exact .inr ⟨k, c, e, oc, Heap.get?_push_of_some _ hoc, hz⟩
  exact main _ _ _ _ rfl rfl rfl fun h => Heap.get?_push_size _ rfl

/-- it begins -/
theorem goes_start {Γ : GSet} {body : List Stmt} {t : gT} {vs : List V} {s s' s2 : Shared} {H H2 : Hp} (ok : Γ.Ok) (hok : HOk Γ.P Γ.w H s.heap) (hvl : vs.length ≤ Γ.N.length) (mk : GMk Γ.N Γ.qual Γ.scope Γ.f Γ.cd body vs s Γ.n0 Γ.a Γ.g s') (z : Slp Γ H s' H2 s2) (hΦ : Γ.Φ 0 H2 s2)
    (hb : gSs Γ body t) (ht : t { nx := fun j _ _ => j = Γ.n } 0 (L2.start Γ.N vs) H2) : (GenState.fresh (.func body Γ.env)).Goes Γ.M Γ.A Γ.R Γ.Y (Γ.n + 1) (.send .none) s2 := by
  refine ⟨rfl, ?_⟩
  have hn0 : H Γ.n0 = none := by rw [mk.n0e]; exact hok.fresh (Nat.le_refl _)
  obtain ⟨m, ⟨o, es, ep, ho, hd, rr⟩, hl⟩ := mk.loc
  have k0 := z.high Γ.n0 o (Nat.le_refl _) (fun hm => absurd (ok.ga _ hm) (Nat.lt_irrefl _)) ho hn0 (fun v q => by rw [hd] at q; cases q)
  have I : Inv (Γ.X s2 H2) [] (L2.start Γ.N vs) H2 s2 := inv_at ok z.wld ⟨m, ⟨o, es, ep, k0.1, hd, rr⟩, fun i x v e1 e2 e3 => by
    obtain ⟨u, r1, l1⟩ := hl i x v e1 e2 e3
    exact ⟨u, r1, look_local ok l1⟩⟩ k0.2 (by unfold L2.start; rw [List.length_append, List.length_map, List.length_replicate]; omega) z.gobj fun p hp => nomatch hp
  have G : GI Γ 0 [] (L2.start Γ.N vs) H2 s2 := ⟨Nat.lt_of_lt_of_le (by rw [mk.gs, mk.ge, Array.size_push]; omega) z.gsz, H2, s2, ⟨hΦ, Nat.le_of_lt I.lt, fun b hb => (z.gobj b hb).2.imp fun _ q => q.1⟩, Same.refl _, (fun p hp => nomatch hp), I⟩
  refine seg_func ?_
  refine hb.run [] 0 s2 _ [] _ _ id id s2 (L2.start Γ.N vs) H2 _ ⟨over_func, rfl, rfl, rfl⟩ (Nat.zero_le _) (fun j s₀ s f hj hs => ?_) G ht
  cases f with
  | next =>
    obtain ⟨σ', H', ⟨_, H_a, s_a, h1, h2, h3, I'⟩, e⟩ := hs
    subst e
    rw [show Γ.n + 1 - Γ.n = 1 by omega]
    exact seg_end (.ok (.ret .none)) (.inl ⟨.inl rfl, rfl, H_a, s_a, H', h1.phi, ran_of I' h2⟩)
  | brk => obtain ⟨_, _, _, q⟩ := hs; exact False.elim q
  | cont => obtain ⟨_, _, _, q⟩ := hs; exact False.elim q
  | ret u => exact hs.elim
end K91
set_option Elab.async false
set_option linter.all false
set_option maxRecDepth 100000
set_option maxHeartbeats 1000000
/-! A consumer of a generator of ours. -/
namespace K91
open PySem PySem.Spec PyProof.Rows L2 GenW
open Classical

theorem inv_setGen {X : Cx} {pins : List (Addr × Obj)} {σ : L2.St} {H : Hp} {s : Shared} {g : Nat} {x : GenState} (I : Inv X pins σ H s) (hx : x.bare = true) : Inv X pins σ H (s.setGen g x) :=
  ⟨I.ok, I.os, allBare_setGen I.bare hx, I.base, I.loc, I.cell, I.free, I.freeC, I.pin, I.hok, I.len⟩
theorem gi_setGen {Γ : GSet} {j : Nat} {ip : List (Addr × Obj)} {σ : L2.St} {H : Hp} {s : Shared} {g : Nat} {x : GenState} (h : GI Γ j ip σ H s) (hx : x.bare = true) : GI Γ j ip σ H (s.setGen g x) := by
  obtain ⟨hz, H_a, s_a, h1, h2, h3, I⟩ := h
  exact ⟨by rw [setGen_size]; exact hz, H_a, s_a, h1, h2, h3, inv_setGen I hx⟩
/-- what a consumer has behind a run of its generator -/
theorem cons_inv {X : Cx} {Γ : GSet} {pins : List (Addr × Obj)} {σ : L2.St} {H_a H : Hp} {s_a s : Shared} (hP : X.prog = Γ.P) (hw : X.w = Γ.w) (hst : X.stack = Γ.outer) (h0 : X.s_0.heap.objs.size ≤ Γ.n0) (hL : X.env.locals < Γ.n0)
    (hc : ∀ x c, X.env.cells.lookup x = some c → c < Γ.n0) (hp : ∀ p ∈ X.pn ++ pins, p.1 < Γ.n0) (I : Inv X pins σ H_a s_a) (r : Ran Γ H_a s_a H s) : Inv X pins σ H s := by
  have mem : ∀ b, b ∈ (List.range s_a.heap.objs.size).filter (fun b => decide (Γ.n0 ≤ b)) ↔ b < s_a.heap.objs.size ∧ Γ.n0 ≤ b := fun b => by simp
  have low : ∀ b o, s_a.heap.get? b = some o → b ∉ (List.range s_a.heap.objs.size).filter (fun b => decide (Γ.n0 ≤ b)) → b < Γ.n0 := fun b o e hb => by
    refine Nat.lt_of_not_le fun z => hb ((mem b).mpr ⟨Heap.lt_size e, z⟩)
  refine I.call' (ch := (List.range s_a.heap.objs.size).filter (fun b => decide (Γ.n0 ≤ b))) r.os ⟨fun b o e n hf hx => ?_, fun b o e n hf hx => r.slot b o (low b o e hx) e n, fun b o e n hx => r.free b o (low b o e hx) e n, fun b o e hx => r.there b o (low b o e hx) e, fun b xs e => r.same b _ e, fun b o u e => r.same b _ e, fun b ps e => ⟨#[], by rw [r.same b _ e]; simp⟩⟩ (by rw [hP, hw]; exact r.hok) r.bare fun b hb => ?_
  · exact r.keep b o (low b o e hx) e n (by rw [← hst]; exact hf)
  · obtain ⟨_, z⟩ := (mem b).mp hb
    refine ⟨.inr (Nat.le_trans h0 z), Nat.ne_of_gt (Nat.lt_of_lt_of_le hL z), fun x c e => Nat.ne_of_lt (Nat.lt_of_lt_of_le (hc x c e) z), fun p hpp => Nat.ne_of_lt (Nat.lt_of_lt_of_le (hp p hpp) z)⟩
/-- as a consumer sees a generator -/
def iset (X : Cx) (N : List Str) (qual : Str) (gsc : Scope) (f : Addr) (cd : Value) (A : Around) (n0 a : Addr) (g n : Nat) (Φ : Nat → Hp → Shared → Prop) (It : Nat → V → Hp → Prop) : GSet :=
  { P := X.prog, w := X.w, K := X.K, mg := X.mg, base := X.base, N := N, qual := qual, scope := gsc, f := f, cd := cd, A := A, outer := X.stack, n0 := n0, a := a, g := g, n := n, Φ := Φ, It := It, ex := [] }
theorem gobj_one {X : Cx} {N : List Str} {qual : Str} {gsc : Scope} {f : Addr} {cd : Value} {A : Around} {n0 a : Addr} {g n : Nat} {Φ : Nat → Hp → Shared → Prop} {It : Nat → V → Hp → Prop} {H : Hp} {s : Shared} (h : H a = none ∧ ∃ o, s.heap.get? a = some o ∧ ∀ v, o.data ≠ .cell v) : GObj (iset X N qual gsc f cd A n0 a g n Φ It) H s := fun b hb => by
  have e : b = a := List.mem_singleton.mp hb
  subst e
  exact h
structure Made (s1 : Shared) (a : Addr) (g : Nat) (c : Code) (s' : Shared) : Prop where
  lt : s1.heap.objs.size < a
  ltn : a < s'.heap.objs.size
  gen : s'.heap.IsGen a g
  ge : g = s1.gens.size
  gs : s'.gens = s1.gens.push (.fresh c)
  os : s'.os = s1.os
  kept : ∀ b o, s1.heap.get? b = some o → s'.heap.get? b = some o
theorem GMk.made {N : List Str} {qual : Str} {scope : Scope} {f : Addr} {cd : Value} {body : List Stmt} {vs : List V} {s : Shared} {n0 : Nat} {a : Addr} {g : Nat} {s' : Shared} (m : GMk N qual scope f cd body vs s n0 a g s') : Made s a g (.func body (envOfC qual scope n0 f cd)) s' :=
  ⟨m.n0e ▸ m.lt, m.ltn, m.gen, m.ge, m.gs, m.os, m.kept⟩
def Starts (X : Cx) (k : Nat) (N : List Str) (qual : Str) (gsc : Scope) (f : Addr) (cd : Value) (H1 : Hp) (s' : Shared) (n0 a : Addr) (g n : Nat) (It : Nat → V → Hp → Prop) (c : Code) : Prop :=
  ∀ (A : Around) (Φ : Nat → Hp → Shared → Prop) (s2 : Shared) (H2 : Hp), Room k A → A.frames = some X.stack → Slp (iset X N qual gsc f cd A n0 a g n Φ It) H1 s' H2 s2 → Φ 0 H2 s2 →
    (GenState.fresh c).Goes (model X.prog X.w) A (iset X N qual gsc f cd A n0 a g n Φ It).R (iset X N qual gsc f cd A n0 a g n Φ It).Y (n + 1) (.send .none) s2
abbrev TCall := L2.St → Hp → (Nat → (Nat → V → Hp → Prop) → Hp → Prop) → Prop
/-- a call of a generator def of ours -/
structure GIn (X : Cx) (k : Nat) (e : Expr) (t : TCall) : Prop where
  run : ∀ (pins : List (Addr × Obj)) (s : Shared) (σ : L2.St) (H : Hp) (cont : Nat → (Nat → V → Hp → Prop) → Hp → Prop), Inv X pins σ H s → t σ H cont → wpAny (model X.prog X.w) X.A (eval e X.env)
    (fun u s' => ∃ H1 s1 a g n It c N qual gsc f cd, u = .ref a ∧ Inv X pins σ H1 s1 ∧ s.gens.size ≤ s1.gens.size ∧ Made s1 a g c s' ∧ Starts X k N qual gsc f cd H1 s' s1.heap.objs.size a g n It c ∧ cont n It H1) X.xe s
/-- a made generator's object is no one's yet -/
theorem made_inv {X : Cx} {pins : List (Addr × Obj)} {σ : L2.St} {H : Hp} {s1 s' : Shared} {a : Addr} {g : Nat} {c : Code} (I : Inv X pins σ H s1) (m : Made s1 a g c s') : Inv X pins σ H s' ∧ H a = none ∧ s'.gens[g]? = some (.fresh c) := by
  refine ⟨I.call' (ch := []) m.os (Un.kept m.kept) (I.hok.kept m.kept) (by rw [m.gs]; exact I.bare.push rfl) (fun b z => nomatch z), I.hok.fresh (Nat.le_of_lt m.lt), ?_⟩
  rw [m.gs, m.ge]
  exact Array.getElem?_push_size ..
/-- the young things that no one tracks -/
noncomputable def highs (n0 : Addr) (H : Hp) (h : Heap) : List Addr := (List.range h.objs.size).filter fun b => decide (n0 ≤ b ∧ H b = none ∧ ∀ o, h.get? b = some o → ∀ v, o.data ≠ .cell v)
theorem mem_highs {n0 : Addr} {H : Hp} {h : Heap} {b : Addr} : b ∈ highs n0 H h ↔ b < h.objs.size ∧ n0 ≤ b ∧ H b = none ∧ ∀ o, h.get? b = some o → ∀ v, o.data ≠ .cell v := by
  simp [highs]
end K91
set_option Elab.async false
set_option linter.all false
set_option maxRecDepth 100000
set_option maxHeartbeats 2000000
/-! for x in g(..): yield e -/
namespace K91
open PySem PySem.Spec PyProof.Rows L2 GenW
open Classical

section
variable {Γ : GSet}
def tgForGen (Γ : GSet) (i0 : Nat) (tc : TCall) (te : TE) : gT := fun D j σ H => tc σ H fun n It H1 => Same H H1 ∧ j + n ≤ Γ.n ∧ ∃ Wv : Nat → L2.St → Hp → Prop, (∀ i σ H H', Same H H' → Wv i σ H → Wv i σ H') ∧ Wv 0 σ H1 ∧
  (∀ i σ H2 x, i < n → Same H1 H2 → Wv i σ H2 → It i x H2 → te (σ.set i0 (some x)) H2 fun y H3 => Same H2 H3 ∧ Γ.It (j + i) y H3 ∧ Wv (i + 1) (σ.set i0 (some x)) H3) ∧
  ∀ σ H2, Same H1 H2 → Wv n σ H2 → D.nx (j + n) σ H2
theorem gs_forgen {x : Str} {i0 k : Nat} {iter e : Expr} {px yp ypos pos : Pos} {tc : TCall} {te : TE} (ok : Γ.Ok) (hr : Room (k + 1) (Γ.A.deeper Γ.env)) (hi : ∀ s H, GIn (Γ.X s H) k iter tc) (he : ∀ s H, PQ (Γ.X s H) e te)
    (hN : Γ.N.Nodup) (hx0 : Γ.N[i0]? = some x) (hx : Γ.scope.names.lookup x = some .local) (hco : Γ.scope.isCoroutine = false := by rfl) (hit : interactive Γ.env = false := by rfl)
    (hs : ∀ x, foldedSetIterable iter Γ.env x = pure x := by intro _; rfl) : gS Γ (.For (.Name x px) iter [.Expr (.Yield (some e) yp) ypos] [] pos) (tgForGen Γ i0 tc te) := by
  refine ⟨fun ip j s₀ c fs K J gd lv s σ H D g hj k' hI ht => ?_⟩
  refine segg_For hs ?_
  rw [g.over]
  obtain ⟨hg0, H_a, s_a, h1, h2, h3, I⟩ := hI
  refine wpAny_mono ((hi s_a H_a).run ip s σ H _ I ht) (fun v s1' hv => ?_) fun x s' hx => hx.elim
  obtain ⟨H1, s1, a, gn, n, It, c1, N', qual', gsc', f', cd', rfl, I1, hgz, mk, st, smH, hjn, Wv, wm, w0, turn, fin⟩ := hv
  obtain ⟨I1', ha1, hgs1⟩ := made_inv I1 mk
  refine wpAny_pyIter_gen mk.gen ?_
  intro p
  have gl := gc_in (k := fun r => ((match r with | .ok f => (.pure f : Sem Flow) | .error e => .raise e).onRaise (cameBack Γ.env)).wrap K J gd lv) (c' := .forLoop (.Name x px) (.ref a) [.Expr (.Yield (some e) yp) ypos] [] Γ.env) (l := lv []) (kp := []) (p := p) g rfl rfl
  -- the bounds
  have hn0 : Γ.n0 < s1.heap.objs.size := I1.lt
  have haG : ∀ b ∈ Γ.own, b < s1.heap.objs.size := fun b hb => by
    obtain ⟨o, ho⟩ := h1.obj b hb
    exact Heap.lt_size (I1.pin (b, o) (List.mem_append_left _ (mem_pinsAt hb ho))).1
  have hpin : ∀ (H_b : Hp) (s_b : Shared) (q : Addr × Obj), q ∈ (Γ.X s_b H_b).pn ++ ip → q.1 < s1.heap.objs.size := fun H_b s_b q hq => by
    rcases List.mem_append.mp hq with z | z
    · exact haG _ (of_pinsAt z).1
    · exact Heap.lt_size (I1.pin q (List.mem_append_right _ z)).1
  have hgg : Γ.g < gn := by
    rw [mk.ge]
    exact Nat.lt_of_lt_of_le hg0 hgz
  have hrI : Room k (Γ.A.deeper Γ.env).in1 := hr.in1
  let Φ : Nat → Hp → Shared → Prop := fun i H s => ∃ σ, GI Γ (j + i) ip σ H s ∧ Same H1 H ∧ Wv i σ H ∧ s.heap.IsGen a gn
  let Δ : GSet := iset (Γ.X s_a H_a) N' qual' gsc' f' cd' (Γ.A.deeper Γ.env).in1 s1.heap.objs.size a gn n Φ It
  have cons : ∀ {H_b : Hp} {s_b : Shared} {σ : L2.St} {Ha H : Hp} {sa s : Shared}, Inv (Γ.X s_b H_b) ip σ Ha sa → Ran Δ Ha sa H s → Inv (Γ.X s_b H_b) ip σ H s := fun {H_b s_b σ Ha H sa s} I r =>
    cons_inv (X := Γ.X s_b H_b) (Γ := Δ) rfl rfl rfl (Nat.le_trans cut_le (Nat.le_of_lt hn0)) hn0 (fun x c h => (no_cell ok h).elim) (hpin H_b s_b) I r
  have loop : ∀ (r i : Nat) (s₀ s : Shared) (σ : L2.St) (H : Hp) (gs : GenState), i + r = n → GI Γ (j + i) ip σ H s → Same H1 H → Wv i σ H → s.heap.IsGen a gn → s.gens[gn]? = some gs →
      gs.Goes Γ.M Δ.A Δ.R Δ.Y (n + 1 - i) (.send .none) (s.setGen gn .running) →
      Seg Γ.M Γ.A Γ.R Γ.Y (Γ.n + 1 - (j + i)) s₀ (.forLoop (.Name x px) (.ref a) [.Expr (.Yield (some e) yp) ypos] [] Γ.env) (Γ.M.den (.forLoop (.Name x px) (.ref a) [.Expr (.Yield (some e) yp) ypos] [] Γ.env))
        (.ret (fun r => ((match r with | .ok f => (.pure f : Sem Flow) | .error e => .raise e).onRaise (cameBack Γ.env)).wrap K J gd lv) none (gd false) (lv []) c p [] :: fs) s := by
    intro r
    induction r with
    | zero =>
      intro i s₀ s σ H gs hi' hI sm w hg hgs hgo
      obtain rfl : i = n := by omega
      obtain ⟨z0, H_b, s_b, k1, k2, k3, Ib⟩ := id hI
      refine segg_forLoop ?_
      rw [gl.over]
      refine wpAny_gsz (n := Γ.g + 1) z0 (next_own (Γ := Δ) (A := Γ.A.deeper Γ.env) rfl ok.hd Ib.nolimit (by have := hr.dp; omega) hg hgs (Nat.le_refl _) hgo
        (fun z => absurd z (Nat.lt_irrefl _)) (fun _ s2 Ha sa H2 hΦ ran h' hk => ?_))
      obtain ⟨σ2, ⟨z1, H_d, s_d, d1, d2, d3, Id⟩, sm2, w2, _⟩ := hΦ
      have Ic := cons Id ran
      have If : Inv (Γ.X s_d H_d) ip σ2 H2 { s2.setGen gn .finished with heap := h' } := (inv_setGen Ic rfl).kept (s := s2.setGen gn .finished) (t' := s2.toks) hk
      intro hz
      exact seg_leaf (.ok .next) (k' (j + i) s₀ _ .next hjn ⟨σ2, H2, ⟨hz, H_d, s_d, d1, d2.trans ran.same, d3, If⟩, fin σ2 H2 (sm2.trans ran.same) (wm _ _ _ _ ran.same w2)⟩)
    | succ r ih =>
      intro i s₀ s σ H gs hi' hI sm w hg hgs hgo
      have hin : i < n := by omega
      obtain ⟨z0, H_b, s_b, k1, k2, k3, Ib⟩ := id hI
      have hgl : gn < s.gens.size := (Array.getElem?_eq_some_iff.mp hgs).1
      refine segg_forLoop ?_
      rw [gl.over]
      refine wpAny_gsz (n := gn + 1) hgl (next_own (Γ := Δ) (A := Γ.A.deeper Γ.env) rfl ok.hd Ib.nolimit (by have := hr.dp; omega) hg hgs (Nat.le_of_lt hin) hgo
        (fun _ v s2 gs' Ha sa H2 x hb hΦ ran rv hIt kap => ?_) (fun z => by have z' : i = n := z; omega))
      intro hz2
      have hz2' : gn < s2.gens.size := by rw [setGen_size] at hz2; exact hz2
      obtain ⟨σ2, ⟨z1, H_d, s_d, d1, d2, d3, Id⟩, sm2, w2, gen2⟩ := hΦ
      have Ic : Inv (Γ.X s_d H_d) ip σ2 H2 (s2.setGen gn gs') := inv_setGen (cons Id ran) hb
      have w2' := wm _ _ _ _ ran.same w2
      have smr := sm2.trans ran.same
      -- the generator's own things are pinned
      have Ip : Inv (Γ.X s_d H_d) (ip ++ pinsAt (highs s1.heap.objs.size H2 s2.heap) s2.heap) σ2 H2 (s2.setGen gn gs') := Ic.pins_of fun q hq => by
        rcases List.mem_append.mp hq with z | z
        · exact Ic.pin q (List.mem_append_right _ z)
        · obtain ⟨y1, y2⟩ := of_pinsAt z
          obtain ⟨_, y3, y4, y5⟩ := mem_highs.mp y1
          refine ⟨y2, y4, Nat.ne_of_gt (Nat.lt_of_lt_of_le hn0 y3), fun hm => ?_, y5 _ y2⟩
          exact absurd (Nat.lt_trans (ok.frs _ hm) (Nat.lt_of_lt_of_le hn0 y3)) (Nat.lt_irrefl _)
      refine wpAny_pure ?_
      refine gstore ok Ip hN hx0 hx rv fun h3' tk3 I3 sb3 => ?_
      refine seg_execs_cons ?_
      have hjlt : j + i < Γ.n := by omega
      obtain ⟨m, hm⟩ : ∃ m, Γ.n + 1 - (j + i) = m + 1 := ⟨Γ.n - (j + i), by omega⟩
      rw [hm]
      refine seg_Expr_Yield gl.split gl.gd gl.guard ?_ hco hit
      rw [gl.over]
      refine wpAny_mono ((he s_d H_d).run _ _ (σ2.set i0 (some x)) H2 _ I3 (turn i σ2 H2 x hin smr w2' hIt)) (fun v4 s4 h4 => ?_) fun x s' hx => hx.elim
      obtain ⟨⟨y, H4, I4, ry, sm4, hit4, w4⟩, hg4⟩ := h4
      intro kap' hk'
      refine ⟨j + i, H_d, s_d, H4, y, by omega, hjlt, d1.phi, ran_of I4.unpinned ((d2.trans ran.same).trans sm4), ry, hit4, fun H5 s5 hΦ5 z5 => hk' .none s5 ?_⟩
      have em : m = Γ.n + 1 - (j + (i + 1)) := by omega
      rw [em]
      refine seg_execs_nil ?_
      -- woken again
      have hg4' : s4.gens = (s2.setGen gn gs').gens := hg4
      have hs4 : s4.gens.size = s2.gens.size := by rw [hg4', setGen_size]
      have gat : ∀ i', gn ≤ i' → i' < s2.gens.size → s5.gens[i']? = (s2.setGen gn gs').gens[i']? := fun i' h1 h2 => by
        rw [← hg4']
        exact z5.gens i' (Nat.lt_of_lt_of_le hgg h1) (by rw [hs4]; exact h2)
      have high5 : ∀ b o, s1.heap.objs.size ≤ b → s2.heap.get? b = some o → H2 b = none → (∀ v, o.data ≠ .cell v) → s5.heap.get? b = some o ∧ H5 b = none := fun b o q1 q2 q3 q4 => by
        have hm : b ∈ highs s1.heap.objs.size H2 s2.heap := mem_highs.mpr ⟨Heap.lt_size q2, q1, q3, fun o' e => by rw [q2] at e; cases e; exact q4⟩
        obtain ⟨y1, y2, _, _, _⟩ := I4.pin (b, o) (List.mem_append_right _ (List.mem_append_right _ (mem_pinsAt hm q2)))
        exact z5.high b o (Nat.le_trans (Nat.le_of_lt hn0) q1) (fun hm => absurd (Nat.lt_of_lt_of_le (haG _ hm) q1) (Nat.lt_irrefl _)) y1 y2 q4
      have I5 : Inv (Γ.X s5 H5) ip (σ2.set i0 (some x)) H5 s5 := woken ok I4.unpinned h3 z5
      have G5 : GI Γ (j + (i + 1)) ip (σ2.set i0 (some x)) H5 s5 := ⟨Nat.lt_of_lt_of_le (by rw [hs4]; exact Nat.lt_trans hgg hz2') z5.gsz, H5, s5, ⟨hΦ5, Nat.le_of_lt I5.lt, fun b hb => (z5.gobj b hb).2.imp fun _ q => q.1⟩, Same.refl _, h3, I5⟩
      have gen5 : s5.heap.IsGen a gn ∧ H5 a = none := by
        obtain ⟨o, nm, qn, o1, o2, o3, o4⟩ := gen2
        obtain ⟨q1, q2⟩ := ran.gobj a List.mem_cons_self o o1
        obtain ⟨q3, q4⟩ := high5 a o (Nat.le_of_lt mk.lt) q1 q2 (fun v z => by rw [o3] at z; cases z)
        exact ⟨⟨o, nm, qn, q3, o2, o3, o4⟩, q4⟩
      have hs5 : gn < s5.gens.size := Nat.lt_of_lt_of_le hz2' (by rw [← hs4]; exact z5.gsz)
      refine seg_again rfl (ih (i + 1) s5 s5 (σ2.set i0 (some x)) H5 gs' (by omega) G5 ((smr.trans sm4).trans z5.same) (wm _ _ _ _ z5.same w4) gen5.1 ?_ ?_)
      · rw [gat gn (Nat.le_refl _) hz2']
        exact setGen_at hz2'
      · refine kap H5 (s5.setGen gn .running) ⟨σ2.set i0 (some x), gi_setGen G5 rfl, (smr.trans sm4).trans z5.same, wm _ _ _ _ z5.same w4, gen5.1⟩ ?_
        have I5r := inv_setGen (g := gn) (x := .running) I5 rfl
        refine ⟨(z5.os.trans I4.os).trans ?_, Wld.of I5r.env0, sm4.trans z5.same, fun b o q1 _ q2 q3 q4 => high5 b o q1 q2 q3 q4, fun i' q1 q2 => ?_, ?_, ?_⟩
        · exact (Id.os.symm).trans ran.os.symm
        · show ((s5.setGen gn .running).gens[i']?) = s2.gens[i']?
          have q1' : gn < i' := q1
          have e1 : (s5.setGen gn .running).gens[i']? = s5.gens[i']? := by
            show (s5.gens.setIfInBounds gn .running)[i']? = _
            rw [Array.getElem?_setIfInBounds_ne (Nat.ne_of_lt q1')]
          have e2 : (s2.setGen gn gs').gens[i']? = s2.gens[i']? := by
            show (s2.gens.setIfInBounds gn gs')[i']? = _
            rw [Array.getElem?_setIfInBounds_ne (Nat.ne_of_lt q1')]
          rw [e1, gat i' (Nat.le_of_lt q1') q2, e2]
        · rw [setGen_size, ← hs4]
          exact z5.gsz
        · refine gobj_one ⟨gen5.2, ?_⟩
          obtain ⟨o, nm, qn, o1, o2, o3, o4⟩ := gen5.1
          exact ⟨o, o1, fun v z => by rw [o3] at z; cases z⟩
  have G0 : GI Γ (j + 0) ip σ H1 s1' := ⟨Nat.lt_trans hgg (Array.getElem?_eq_some_iff.mp hgs1).1, H_a, s_a, h1, h2.trans smH, h3, I1'⟩
  have I1r := inv_setGen (g := gn) (x := .running) I1' rfl
  refine loop n 0 s₀ s1' σ H1 (.fresh c1) (Nat.zero_add n) G0 (Same.refl _) w0 mk.gen hgs1 (st Δ.A Φ (s1'.setGen gn .running) H1 hrI (Around.frames_deeper ok.frames) ?_ ⟨σ, gi_setGen G0 rfl, Same.refl _, w0, mk.gen⟩)
  refine ⟨rfl, Wld.of I1r.env0, Same.refl _, fun b o _ _ q n _ => ⟨q, n⟩, fun i' q1 _ => ?_, by rw [setGen_size]; exact Nat.le_refl _, gobj_one ⟨ha1, ?_⟩⟩
  · show (s1'.gens.setIfInBounds gn .running)[i']? = _
    have q1' : gn < i' := q1
    rw [Array.getElem?_setIfInBounds_ne (Nat.ne_of_lt q1')]
  · obtain ⟨o, nm, qn, o1, o2, o3, o4⟩ := mk.gen
    exact ⟨o, o1, fun v z => by rw [o3] at z; cases z⟩
end
end K91
set_option Elab.async false
set_option linter.all false
set_option maxRecDepth 100000
set_option maxHeartbeats 1000000
/-! A generator over which another one sleeps. -/
namespace K91
open PySem PySem.Spec PyProof.Rows L2 GenW

/-- a generator object; n: how many sleep over it -/
def IsGenZ (n : Int) (h : Heap) (a : Addr) (g : Nat) : Prop :=
  ∃ o nm qn, h.get? a = some o ∧ o.cls = .type "generator" ∧ o.data = .fields #[.int g 0, nm, qn] ∧ (o.slots = #[some (rawInt n)] ∨ (n = 0 ∧ o.slots = #[]))
theorem IsGenZ.of {h : Heap} {a : Addr} {g : Nat} (x : h.IsGen a g) : IsGenZ 0 h a g := let ⟨o, nm, qn, h1, h2, h3, h4⟩ := x; ⟨o, nm, qn, h1, h2, h3, .inr ⟨rfl, h4⟩⟩
theorem IsGenZ.typeIs {n : Int} {s : Shared} {a : Addr} {g : Nat} (x : IsGenZ n s.heap a g) : s.TypeIs (.ref a) "generator" := let ⟨o, _, _, ho, hc, _⟩ := x; ⟨o, ho, hc⟩
theorem IsGenZ.nocell {n : Int} {h : Heap} {a : Addr} {g : Nat} (x : IsGenZ n h a g) : ∃ o, h.get? a = some o ∧ ∀ v, o.data ≠ .cell v := let ⟨o, _, _, ho, _, hd, _⟩ := x; ⟨o, ho, fun v q => by rw [hd] at q; cases q⟩
theorem IsGenZ.at {n : Int} {h h' : Heap} {a : Addr} {g : Nat} (x : IsGenZ n h a g) (k : ∀ o, h.get? a = some o → h'.get? a = some o) : IsGenZ n h' a g := let ⟨o, nm, qn, ho, r⟩ := x; ⟨o, nm, qn, k o ho, r⟩
section
variable {M : Model} {A : Around} {E : Value → Shared → Prop} {s : Shared}
theorem genNumberZ {a : Addr} {g : Nat} {Q : Nat → Shared → Prop} (hg : IsGenZ 0 s.heap a g) (h : Q g s) : wpAny M A (Builtin.Generator.genNumber (.ref a)) Q E s := by
  obtain ⟨o, nm, qn, ho, _, hd, hsl⟩ := hg
  unfold Builtin.Generator.genNumber
  refine wpAny_bind (wpAny_load ho ?_)
  rcases hsl with hsl | ⟨_, hsl⟩
  · rw [hsl, hd]
    show wpAny M A (pure ((g : Int).toNat)) Q E s
    exact wpAny_pure (by simpa using h)
  · rw [hsl, hd]
    show wpAny M A (pure ((g : Int).toNat)) Q E s
    exact wpAny_pure (by simpa using h)
theorem sleptZ {n : Int} {more : Bool} {a : Addr} {g : Nat} {Q : Unit → Shared → Prop} (hg : IsGenZ n s.heap a g) (h : ∀ h', Heap.SameBut a s.heap h' → IsGenZ (if more then n + 1 else n - 1) h' a g → Q () { s with heap := h' }) : wpAny M A (Builtin.Generator.sleptOver (.ref a) more) Q E s := by
  obtain ⟨o, nm, qn, ho, hc, hd, hsl⟩ := hg
  unfold Builtin.Generator.sleptOver
  refine wpAny_bind (wpAny_load ho ?_)
  have hne : ¬ ((o.cls != Value.type "generator") = true) := by rw [hc]; decide
  rw [if_neg hne]
  have key : ∀ k : Int, wpAny M A (setSlotAt a 0 (some (rawInt (if more then n + 1 else n - 1)))) Q E s := fun _ => by
    unfold setSlotAt
    have hz : ¬ (0 ≥ sizeLine) := by rw [sizeLine_eq]; decide
    rw [if_neg hz]
    have fin : ∀ f : Obj → Obj, (f o).cls = o.cls → (f o).data = o.data → (f o).slots = #[some (rawInt (if more then n + 1 else n - 1))] → Q () { s with heap := s.heap.update a f } := fun f e1 e2 e3 =>
      h _ (Heap.SameBut.update ..) ⟨_, nm, qn, Heap.get?_update_self _ ho (Obj.isFreed_of_fields (e2.trans hd)), e1.trans hc, e2.trans hd, .inl e3⟩
    first
      | refine wpAny_updatePart ho (fin _ rfl rfl ?_)
      | refine wpAny_bind (wpAny_pure (wpAny_updatePart ho (fin _ rfl rfl ?_)))
    show (o.slots ++ Array.replicate (0 + 1 - o.slots.size) none).setIfInBounds 0 (some (rawInt (if more then n + 1 else n - 1))) = _
    rcases hsl with hsl | ⟨_, hsl⟩ <;> simp [hsl]
  rcases hsl with hs | ⟨hn, hs⟩
  · rw [hs]
    exact key 0
  · subst hn
    rw [hs]
    exact key 0
end
/-! ### its next turn, as «yield from» asks for it -/
theorem special_own {Γ : GSet} {A : Around} {s : Shared} {j : Nat} {gs : GenState} {Q : Option Value → Shared → Prop} {E : Value → Shared → Prop} (hA : Γ.A = A.in1) (hh : A.handled = none) (hl : s.heap.NoLimit) (hroom : A.depth < recursionLimit) (hg : IsGenZ 0 s.heap Γ.a Γ.g)
    (hgs : s.gens[Γ.g]? = some gs) (hj : j ≤ Γ.n) (hgo : gs.Goes Γ.M Γ.A Γ.R Γ.Y (Γ.n + 1 - j) (.send .none) (s.setGen Γ.g .running))
    (hY : j < Γ.n → ∀ v s1 gs' H_a s_a H x, gs'.bare = true → Γ.Φ j H_a s_a → Ran Γ H_a s_a H s1 → RelV x v → Γ.It j x H →
      (∀ H' s', Γ.Φ (j + 1) H' s' → Slp Γ H s1 H' s' → gs'.Goes Γ.M Γ.A Γ.R Γ.Y (Γ.n + 1 - (j + 1)) (.send .none) s') → Q (some v) (s1.setGen Γ.g gs'))
    (hP : j = Γ.n → ∀ s1 H_a s_a H, Γ.Φ Γ.n H_a s_a → Ran Γ H_a s_a H s1 → ∀ e h', StopX e h' → (∀ b o, s1.heap.get? b = some o → h'.get? b = some o) → E e { s1.setGen Γ.g .finished with heap := h' }) :
    wpAny Γ.M A (callSpecial? (.ref Γ.a) "__next__") Q E s := by
  refine wpAny_callSpecial?_slot (name := Str.ofString "__next__") hg.typeIs slot_gen_next (wpAny_call_entry slot_gen_next hg.typeIs entry_gen_next ?_ (args_gen_next _))
  show wpAny _ A.in1 (Builtin.Generator.genWake (.ref Γ.a) (.send .none)) _ _ s
  rw [hA] at hgo
  unfold Builtin.Generator.genWake
  refine wpAny_bind (wpAny_holding (genNumberZ hg (wpAny_bind (wpAny_genState hgs ?_))))
  cases gs with
  | running => exact hgo.elim
  | finished => exact hgo.elim
  | _ =>
    refine wpAny_bind (wpAny_roomToWake hl hroom ?_)
    show wpAny _ A.in1 (.resume Γ.g (.send .none) [] _) _ _ s
    refine wpAny_resumeQ hgs hgo (fun x s1 hx => ?_) (fun v s1 gs' hb hy => ?_)
    · rcases hx with ⟨hr, hm, H_a, s_a, H, h1, h2⟩ | ⟨e, _, z⟩
      · have hres : End.result (.ret x) = .returned .none := by
          rcases hr with hr | hr <;> rw [hr] <;> rfl
        first | rw [hres] | simp only [hres]
        show wpAny _ A.in1 (newExc (.type "StopIteration") [] >>= _) _ _ _
        refine wpAny_bind ?_
        simp only [newExc, newTuple]
        refine wpAny_bind (wpAny_newObj_type ?_ (by size_fits))
        refine wpAny_bind (m := firstArgMember _ _) (wpAny_of_eq (a := Value.none) (by first | rfl | (simp only [firstArgMember]; rfl)) ?_)
        refine wpAny_newObj_type ?_ (by size_fits)
        simp only [raiseNew]
        refine wpAny_bind (wpAny_bind (wpAny_handled ?_))
        first | rw [show A.in1.handled = none from hh] | rw [hh]
        refine wpAny_throw ?_
        refine hP (by omega) s1 H_a s_a H h1 h2 _ _ ⟨_, _, _, rfl, Heap.get?_push_size _ rfl, rfl, rfl, ?_⟩ fun b o hb => Heap.get?_push_of_some _ (Heap.get?_push_of_some _ hb)
        first
          | rfl
          | kernel_rfl
      · exact z.elim
    · obtain ⟨j', H_a, s_a, H, x, e1, e2, h1, h2, h3, h4, h5⟩ := hy
      obtain rfl : j' = j := by omega
      refine wpAny_pure ⟨v, rfl, hY e2 v s1 gs' H_a s_a H x hb h1 h2 h3 h4 fun H' s' a b => ?_⟩
      have q := h5 H' s' a b
      obtain ⟨m, hm⟩ : ∃ m, Γ.n + 1 - j' = m + 1 := ⟨Γ.n - j', by omega⟩
      rw [hm] at q
      rw [show Γ.n + 1 - (j' + 1) = m by omega, hA]
      exact q
/-! ### a builtin's code over the frame that it came from -/
theorem over_plain {A : Around} {id : String} {args : Args} {c : Code} {fs : List Frame} {k : Result → Sem PySem.Fin} {g : Bool} {l kp : List Value} {p : Pos} (h : plainId id = true) :
    A.over (.builtin id args) (.ret k none g l c p kp :: fs) = (A.over c fs).in1 := by
  have hw := plainId_weight h args
  have hu := plainId_units h args
  have e := over_loop (A := A) (c := c) (c' := .block [] { scope := default, locals := 0, globals := 0, cells := [] }) (fs := fs) (k := k) (g := g) (l := l) (kp := kp) (p := p) rfl rfl
  rw [← e]
  have z1 := Code.envs_of_weight hw
  have z2 := Code.guards_of_weight hw
  have y1 : (Code.block [] { scope := default, locals := 0, globals := 0, cells := [] }).envs = [] := Code.envs_of_weight rfl
  have y2 : (Code.block [] { scope := default, locals := 0, globals := 0, cells := [] }).guards = [] := Code.guards_of_weight rfl
  have y3 : (Code.block [] { scope := default, locals := 0, globals := 0, cells := [] }).weight = 0 := rfl
  have y4 : (Code.block [] { scope := default, locals := 0, globals := 0, cells := [] }).cUnits = 0 := rfl
  unfold Around.over Around.in1
  rw [hw, hu, z1, z2, y1, y2, y3, y4]
  rfl
end K91
set_option Elab.async false
set_option linter.all false
set_option maxRecDepth 100000
set_option maxHeartbeats 2000000
/-! A generator that ends with «yield from» over one of ours, over the machine. -/
namespace K91
open PySem PySem.Spec PyProof.Rows L2 GenW
open Classical

def EnL (Γ : GSet) (r : Nat) (s' : Shared) : Prop := r = 0 ∧ ∃ H_a s_a H, Γ.Φ Γ.n H_a s_a ∧ Ran Γ H_a s_a H s'
def YdL (Γ : GSet) : Nat → Value → (Resume → Sem PySem.Fin) → Code → List Frame → Shared → Prop
  | 0 => fun _ _ _ _ _ => False
  | r + 1 => fun v k2 c2 fs2 s' => ∃ j H_a s_a H x, j + (r + 1) = Γ.n ∧ Γ.Φ j H_a s_a ∧ Ran Γ H_a s_a H s' ∧ RelV x v ∧ Γ.It j x H ∧ Γ.g < s'.gens.size ∧
      ∀ H'' s'', Γ.Φ (j + 1) H'' s'' → Slp Γ H s' H'' s'' → GW Γ.M Γ.A Γ.g (YdL Γ r) (EnL Γ r) c2 (k2 (.send .none)) fs2 s''
/-- it stands at the turns of «yield from» -/
abbrev LW (Γ : GSet) (r : Nat) (c : Code) (t : Sem PySem.Fin) (fs : List Frame) (s : Shared) : Prop := GW Γ.M Γ.A Γ.g (YdL Γ r) (EnL Γ r) c t fs s

theorem lw_plain {Γ : GSet} {j r : Nat} {ip : List (Addr × Obj)} {σ : L2.St} {H : Hp} {s : Shared} {st : Stmt} {rest : List Stmt} {t : TS} {c : Code} {fs : List Frame} {K : Flow → Sem PySem.Fin} {J : Value → Sem PySem.Fin} {gd : Bool → Bool} {lv : List Value → List Value} {nxt : L2.St → Hp → Prop}
    (ho : Γ.A.over c fs = Γ.A.deeper Γ.env) (hp : ∀ s H, PS (Γ.X s H) st t) (hI : GI Γ j ip σ H s) (ht : t { nx := fun σ' H' => Same H H' ∧ nxt σ' H', rt := fun _ _ => False } σ H)
    (k : ∀ σ' H' s', GI Γ j ip σ' H' s' → nxt σ' H' → LW Γ r c ((execs rest Γ.env).wrap K J gd lv) fs s') : LW Γ r c ((execs (st :: rest) Γ.env).wrap K J gd lv) fs s := by
  obtain ⟨hg0, H_a, s_a, h1, h2, h3, I⟩ := hI
  rw [execs_cons_wrap]
  refine GW.wrap ?_
  rw [ho]
  refine wpAny_gsz (n := Γ.g + 1) hg0 (wpAny_mono ((hp s_a H_a).run ip s σ H _ I ht) (fun f s' hf hz => ?_) fun x s' hx _ => hx.elim)
  cases f with
  | next =>
    obtain ⟨σ', H', I', sm, q⟩ := hf
    exact k σ' H' s' ⟨hz, H_a, s_a, h1, h2.trans sm, h3, I'⟩ q
  | brk => obtain ⟨_, _, _, z⟩ := hf; exact z.elim
  | cont => obtain ⟨_, _, _, z⟩ := hf; exact z.elim
  | ret u => obtain ⟨_, _, _, _, _, z⟩ := hf; exact z.elim
theorem close_gen : ∃ v, typeLookup (.type "generator") "close" = pure (some v) := ⟨.builtin "generator.close", by rw [typeLookup_type, builtinLookup_eq_fast]; kernel_rfl⟩

theorem GW.bindw2 {M : Model} {A : Around} {g : Nat} {Yd : Value → (Resume → Sem PySem.Fin) → Code → List Frame → Shared → Prop} {En : Shared → Prop} {c : Code} {fs : List Frame} {s : Shared} {α β γ : Type} {m : Sem α} {f : α → Sem β} {f2 : β → Sem γ} {K : γ → Sem PySem.Fin} {J : Value → Sem PySem.Fin} {gd : Bool → Bool} {lv : List Value → List Value}
    (h : wpAny M (A.over c fs) m (fun a s' => GW M A g Yd En c ((f a).wrap (fun b => (f2 b).wrap K J gd lv) J gd lv) fs s') (fun x s' => GW M A g Yd En c (J x) fs s') s) : GW M A g Yd En c (((m >>= f) >>= f2).wrap K J gd lv) fs s := by
  rw [Sem.bind_eq_wrap' (m >>= f) f2, Sem.wrap_wrap]
  exact GW.bindw h
theorem lw_from {Γ : GSet} {k : Nat} {ip : List (Addr × Obj)} {σ : L2.St} {H : Hp} {s : Shared} {e : Expr} {yp pos : Pos} {tc : TCall} {c : Code} {fs : List Frame} {K : Flow → Sem PySem.Fin} {J : Value → Sem PySem.Fin} {gd : Bool → Bool} {lv : List Value → List Value}
    (ok : Γ.Ok) (hr : Room (k + 2) (Γ.A.deeper Γ.env)) (g : gC Γ c fs gd) (hi : ∀ s H, GIn (Γ.X s H) k e tc) (hI : GI Γ 0 ip σ H s) (ht : tc σ H fun n It H1 => Same H H1 ∧ n = Γ.n ∧ It = Γ.It)
    (k' : ∀ H' s', GI Γ Γ.n ip σ H' s' → LW Γ 0 c (K .next) fs s') (hin : interactive Γ.env = false := by rfl) : LW Γ Γ.n c ((exec (.Expr (.YieldFrom e yp) pos) Γ.env).wrap K J gd lv) fs s := by
  obtain ⟨hg0, H_a, s_a, h1, h2, h3, I⟩ := hI
  rw [exec_Expr Γ.env _ pos hin rfl]
  show LW Γ Γ.n c (.at pos fun _ => ((eval e Γ.env >>= fun v => (standAt yp >>= fun _ => yieldFrom Γ.env v)) >>= fun x => dropValue (.YieldFrom e yp) pos x).wrap K J gd lv) fs s
  refine GW.at ?_
  refine GW.bindw2 ?_
  rw [g.over]
  refine wpAny_mono ((hi s_a H_a).run ip s σ H _ I ht) (fun v s1' hv => ?_) fun x s' hx => hx.elim
  obtain ⟨H1, s1, a, gn, n, It, c1, N', qual', gsc', f', cd', rfl, I1, hgz, mk, st, smH, e1, e2⟩ := hv
  subst e1 e2
  obtain ⟨I1', ha1, hgs1⟩ := made_inv I1 mk
  refine GW.at ?_
  show LW Γ Γ.n c ((yieldFrom Γ.env (.ref a)).wrap (fun b => (dropValue (.YieldFrom e yp) pos b).wrap K J gd lv) J gd lv) fs s1'
  unfold yieldFrom
  refine GW.bindw (wpAny_typeOf (IsGenZ.of mk.gen).typeIs ?_)
  rw [if_neg (by decide)]
  refine GW.bindw (wpAny_holding (wpAny_pyIter_gen mk.gen ?_))
  refine GW.call fun p => ?_
  -- the bounds
  have hn0 : Γ.n0 < s1.heap.objs.size := I1.lt
  have haG : ∀ b ∈ Γ.own, b < s1.heap.objs.size := fun b hb => by
    obtain ⟨o, ho⟩ := h1.obj b hb
    exact Heap.lt_size (I1.pin (b, o) (List.mem_append_left _ (mem_pinsAt hb ho))).1
  have hpin : ∀ (H_b : Hp) (s_b : Shared) (q : Addr × Obj), q ∈ (Γ.X s_b H_b).pn ++ ip → q.1 < s1.heap.objs.size := fun H_b s_b q hq => by
    rcases List.mem_append.mp hq with z | z
    · exact haG _ (of_pinsAt z).1
    · exact Heap.lt_size (I1.pin q (List.mem_append_right _ z)).1
  have hgg : Γ.g < gn := by
    rw [mk.ge]
    exact Nat.lt_of_lt_of_le hg0 hgz
  have haL : s1.heap.objs.size < a := mk.lt
  let B : Around := (Γ.A.deeper Γ.env).in1
  let Φ : Nat → Hp → Shared → Prop := fun i H s => GI Γ i ip σ H s ∧ Same H1 H ∧ IsGenZ 0 s.heap a gn
  let Δ : GSet := iset (Γ.X s_a H_a) N' qual' gsc' f' cd' B.in1 s1.heap.objs.size a gn Γ.n Φ Γ.It
  have cons : ∀ {H_b : Hp} {s_b : Shared} {σ : L2.St} {Ha H : Hp} {sa s : Shared}, Inv (Γ.X s_b H_b) ip σ Ha sa → Ran Δ Ha sa H s → Inv (Γ.X s_b H_b) ip σ H s := fun {H_b s_b σ Ha H sa s} I r =>
    cons_inv (X := Γ.X s_b H_b) (Γ := Δ) rfl rfl rfl (Nat.le_trans cut_le (Nat.le_of_lt hn0)) hn0 (fun x c h => (no_cell ok h).elim) (hpin H_b s_b) I r
  -- it turns
  have turned : ∀ {H_b : Hp} {s_b : Shared} {H : Hp} {s : Shared} {h' : Heap}, Inv (Γ.X s_b H_b) ip σ H s → H a = none → (∀ b o, b ≠ a → s.heap.get? b = some o → h'.get? b = some o) → Inv (Γ.X s_b H_b) ip σ H { s with heap := h' } := fun {H_b s_b H s h'} I hn hk =>
    I.turned (t' := s.toks) (it := a) hk hn (Nat.ne_of_gt (Nat.lt_trans hn0 haL)) (.inr (Nat.le_trans cut_le (Nat.le_of_lt (Nat.lt_trans hn0 haL)))) (fun x c h => (no_cell ok h).elim) fun q hq => Nat.ne_of_lt (Nat.lt_trans (hpin H_b s_b q hq) haL)
  generalize hF : (Frame.ret _ none (gd false) (lv []) c p []) = F
  have hov : Γ.A.over (.builtin "proto.yield_from" ⟨[.ref a, .bool false, .none], []⟩) (F :: fs) = B := by
    rw [← hF]
    refine (over_plain plain_yf).trans ?_
    rw [g.over]
  have hsp : splitAtGen (F :: fs) = none := by
    rw [← hF]
    show (splitAtGen fs).map _ = none
    rw [g.split]; rfl
  have hgd : (F :: fs).any Frame.guarded = false := by
    rw [← hF]
    show (gd false || fs.any Frame.guarded) = false
    rw [g.gd, g.guard]; rfl
  have hend : ∀ H' s', GI Γ Γ.n ip σ H' s' → LW Γ 0 (.builtin "proto.yield_from" ⟨[.ref a, .bool false, .none], []⟩) (.pure (.done (.ret .none))) (F :: fs) s' := fun H' s' hG => by
    rw [← hF]
    exact GW.leaf (.ok (.ret .none)) (k' H' s' hG)
  have hBd : B.depth < recursionLimit := by
    have := hr.dp
    show (Γ.A.deeper Γ.env).depth < _
    omega
  have loop : ∀ (r i : Nat) (s : Shared) (H : Hp) (gs : GenState), i + r = Γ.n → GI Γ i ip σ H s → Same H1 H → IsGenZ 0 s.heap a gn → s.gens[gn]? = some gs →
      gs.Goes Γ.M Δ.A Δ.R Δ.Y (Γ.n + 1 - i) (.send .none) (s.setGen gn .running) →
      LW Γ r (.builtin "proto.yield_from" ⟨[.ref a, .bool false, .none], []⟩) (Γ.M.den (.builtin "proto.yield_from" ⟨[.ref a, .bool false, .none], []⟩)) (F :: fs) s := by
    intro r
    induction r with
    | zero =>
      intro i s H gs hi' hI sm hg hgs hgo
      obtain rfl : i = Γ.n := by omega
      obtain ⟨z0, H_b, s_b, k1, k2, k3, Ib⟩ := id hI
      have hden := den_yf (X := Γ.X s_a H_a) (it := .ref a)
      rw [show Γ.M.den (.builtin "proto.yield_from" ⟨[.ref a, .bool false, .none], []⟩) = Builtin.«proto.yield_from» ⟨[.ref a, .bool false, .none], []⟩ from hden]
      unfold Builtin.«proto.yield_from»
      try dsimp only
      refine GW.bind (wpAny_pure ?_)
      try dsimp only
      refine GW.bind (wpAny_attempt (wpAny_holding ?_))
      rw [if_neg Bool.false_ne_true, if_pos (show (Value.none == Value.none) = true from rfl), hov]
      refine wpAny_bind (wpAny_rule (wpAny_bind ?_))
      refine wpAny_gsz (n := Γ.g + 1) z0 (special_own (Γ := Δ) (A := B) rfl ok.hd Ib.nolimit hBd hg hgs (Nat.le_refl _) hgo (fun z => absurd z (Nat.lt_irrefl _)) (fun _ s2 Ha sa H2 hΦ ran e h' hS hk => ?_))
      obtain ⟨⟨z1, H_d, s_d, d1, d2, d3, Id⟩, sm2, gen2⟩ := hΦ
      intro hz
      have If : Inv (Γ.X s_d H_d) ip σ H2 { s2.setGen gn .finished with heap := h' } := (inv_setGen (cons Id ran) rfl).kept (s := s2.setGen gn .finished) (t' := s2.toks) hk
      obtain ⟨a', o, vs, rfl, hoa, hcls, hdat, h5⟩ := hS
      try dsimp only
      refine GW.bind (wpAny_endsTurn hoa hcls ?_)
      try dsimp only
      rw [if_pos rfl]
      first
        | refine GW.bind (wpAny_rule ?_)
        | (rw [if_neg Bool.false_ne_true]; refine GW.bind (wpAny_rule ?_))
        | (rw [if_neg Bool.false_ne_true]; refine GW.bind (wpAny_pure ?_); refine GW.bind (wpAny_rule ?_))
      refine GW.bind (wpAny_field hoa hdat h5 ?_)
      exact hend H2 _ ⟨hz, H_d, s_d, d1, d2.trans ran.same, d3, If⟩
    | succ r ih =>
      intro i s H gs hi' hI sm hg hgs hgo
      have hin' : i < Γ.n := by omega
      obtain ⟨z0, H_b, s_b, k1, k2, k3, Ib⟩ := id hI
      have hgl : gn < s.gens.size := (Array.getElem?_eq_some_iff.mp hgs).1
      have hden := den_yf (X := Γ.X s_a H_a) (it := .ref a)
      rw [show Γ.M.den (.builtin "proto.yield_from" ⟨[.ref a, .bool false, .none], []⟩) = Builtin.«proto.yield_from» ⟨[.ref a, .bool false, .none], []⟩ from hden]
      unfold Builtin.«proto.yield_from»
      try dsimp only
      refine GW.bind (wpAny_pure ?_)
      try dsimp only
      refine GW.bind (wpAny_attempt (wpAny_holding ?_))
      rw [if_neg Bool.false_ne_true, if_pos (show (Value.none == Value.none) = true from rfl), hov]
      refine wpAny_bind (wpAny_rule (wpAny_bind ?_))
      refine wpAny_gsz (n := gn + 1) hgl (special_own (Γ := Δ) (A := B) rfl ok.hd Ib.nolimit hBd hg hgs (Nat.le_of_lt hin') hgo (fun _ v s2 gs' Ha sa H2 x hb hΦ ran rv hIt kap => ?_) (fun z => by have z' : i = Γ.n := z; omega))
      obtain ⟨⟨z1, H_d, s_d, d1, d2, d3, Id⟩, sm2, gen2⟩ := hΦ
      intro hz2
      have hz2' : gn < s2.gens.size := by rw [setGen_size] at hz2; exact hz2
      have Ic : Inv (Γ.X s_d H_d) ip σ H2 (s2.setGen gn gs') := inv_setGen (cons Id ran) hb
      have smr := sm2.trans ran.same
      obtain ⟨og, nm, qn, o1, o2, o3, o4⟩ := gen2
      obtain ⟨q1, q2⟩ := ran.gobj a List.mem_cons_self og o1
      have g2 : IsGenZ 0 (s2.setGen gn gs').heap a gn := ⟨og, nm, qn, q1, o2, o3, o4⟩
      refine wpAny_pure ?_
      try dsimp only
      refine GW.bind (wpAny_typeOf g2.typeIs ?_)
      try dsimp only
      obtain ⟨cv, hcl⟩ := close_gen
      first
        | (refine GW.bind (wpAny_of_eq hcl ?_); refine GW.bind (wpAny_pure ?_))
        | refine GW.bind (wpAny_bind (wpAny_of_eq hcl (wpAny_pure ?_)))
        | refine GW.bind (wpAny_of_eq hcl ?_)
      try dsimp only
      refine GW.bind (sleptZ g2 fun hh3 sb3 g3 => ?_)
      have I3 : Inv (Γ.X s_d H_d) ip σ H2 { s2.setGen gn gs' with heap := hh3 } := turned Ic q2 fun b o hb e => (sb3.2 b hb).trans e
      refine GW.over hsp hgd ?_ ?_
      · obtain ⟨o, nm', qn', y1, y2, y3, _⟩ := g3
        exact ⟨o, y1, by simp [Obj.genNumber?, y2, y3]⟩
      refine ⟨i, H_d, s_d, H2, x, hi', d1.phi, ran_of I3 (d2.trans ran.same), rv, hIt, Nat.lt_trans hgg hz2, fun H5 s5 hΦ5 z5 => ?_⟩
      have I5 : Inv (Γ.X s5 H5) ip σ H5 s5 := woken ok I3 h3 z5
      have gat : ∀ i', gn ≤ i' → i' < s2.gens.size → s5.gens[i']? = (s2.setGen gn gs').gens[i']? := fun i' h1 h2 =>
        z5.gens i' (Nat.lt_of_lt_of_le hgg h1) (by show i' < (s2.setGen gn gs').gens.size; rw [setGen_size]; exact h2)
      have high5 : ∀ b o, s1.heap.objs.size ≤ b → hh3.get? b = some o → H2 b = none → (∀ v, o.data ≠ .cell v) → s5.heap.get? b = some o ∧ H5 b = none := fun b o q1 q2 q3 q4 =>
        z5.high b o (Nat.le_trans (Nat.le_of_lt hn0) q1) (fun hm => absurd (Nat.lt_of_lt_of_le (haG _ hm) q1) (Nat.lt_irrefl _)) q2 q3 q4
      obtain ⟨o5, nm5, qn5, y1, y2, y3, y4⟩ := g3
      have g5' := high5 a o5 (Nat.le_of_lt haL) y1 q2 (fun v z => by rw [y3] at z; cases z)
      have g5 : IsGenZ 1 s5.heap a gn := ⟨o5, nm5, qn5, g5'.1, y2, y3, y4⟩
      refine GW.bind (wpAny_pure ?_)
      refine GW.bind (sleptZ g5 fun h6 sb6 g6 => ?_)
      have g6' : IsGenZ 0 h6 a gn := g6
      have I6 : Inv (Γ.X s5 H5) ip σ H5 { s5 with heap := h6 } := turned I5 g5'.2 fun b o hb e => (sb6.2 b hb).trans e
      have hs5 : gn < s5.gens.size := Nat.lt_of_lt_of_le hz2' (Nat.le_trans (Nat.le_of_eq (setGen_size s2 gn gs').symm) z5.gsz)
      have G6 : GI Γ (i + 1) ip σ H5 { s5 with heap := h6 } := ⟨Nat.lt_trans hgg hs5, H5, s5, ⟨hΦ5, Nat.le_of_lt I5.lt, fun b hb => (z5.gobj b hb).2.imp fun _ q => q.1⟩, Same.refl _, h3, I6⟩
      try dsimp only
      refine GW.bind (wpAny_pure ?_)
      refine GW.again (plainId_quiet plain_yf _) (ih (i + 1) { s5 with heap := h6 } H5 gs' (by omega) G6 (smr.trans z5.same) g6' ?_ ?_)
      · show s5.gens[gn]? = _
        rw [gat gn (Nat.le_refl _) hz2']
        exact setGen_at hz2'
      · refine kap H5 (({ s5 with heap := h6 } : Shared).setGen gn .running) ⟨gi_setGen G6 rfl, smr.trans z5.same, g6'⟩ ?_
        have I6r := inv_setGen (g := gn) (x := .running) I6 rfl
        refine ⟨(z5.os : s5.os = s2.os), Wld.of I6r.env0, z5.same, fun b o q1 qa q2 q3 q4 => ?_, fun i' q1 q2 => ?_, ?_, ?_⟩
        · have qa' : b ≠ a := fun e => qa (e ▸ List.mem_cons_self)
          obtain ⟨w1, w2⟩ := high5 b o q1 ((sb3.2 b qa').trans q2) q3 q4
          exact ⟨(sb6.2 b qa').trans w1, w2⟩
        · have q1' : gn < i' := q1
          have e1 : (({ s5 with heap := h6 } : Shared).setGen gn .running).gens[i']? = s5.gens[i']? := by
            show (s5.gens.setIfInBounds gn .running)[i']? = _
            rw [Array.getElem?_setIfInBounds_ne (Nat.ne_of_lt q1')]
          have e2 : (s2.setGen gn gs').gens[i']? = s2.gens[i']? := by
            show (s2.gens.setIfInBounds gn gs')[i']? = _
            rw [Array.getElem?_setIfInBounds_ne (Nat.ne_of_lt q1')]
          rw [e1, gat i' (Nat.le_of_lt q1') q2, e2]
        · rw [setGen_size]
          exact Nat.le_trans (Nat.le_of_eq (setGen_size s2 gn gs').symm) z5.gsz
        · exact gobj_one ⟨g5'.2, g6'.nocell⟩
  have G0 : GI Γ 0 ip σ H1 s1' := ⟨Nat.lt_trans hgg (Array.getElem?_eq_some_iff.mp hgs1).1, H_a, s_a, h1, h2.trans smH, h3, I1'⟩
  have I1r := inv_setGen (g := gn) (x := .running) I1' rfl
  have hRB : Room k B.in1 := hr.in1.in1
  refine loop Γ.n 0 s1' H1 (.fresh c1) (Nat.zero_add _) G0 (Same.refl _) (IsGenZ.of mk.gen) hgs1 (st Δ.A Φ (s1'.setGen gn .running) H1 hRB (Around.frames_deeper ok.frames) ?_ ⟨gi_setGen G0 rfl, Same.refl _, IsGenZ.of mk.gen⟩)
  refine ⟨rfl, Wld.of I1r.env0, Same.refl _, fun b o _ _ q n _ => ⟨q, n⟩, fun i' q1 _ => ?_, by rw [setGen_size]; exact Nat.le_refl _, gobj_one ⟨ha1, (IsGenZ.of mk.gen).nocell⟩⟩
  show (s1'.gens.setIfInBounds gn .running)[i']? = _
  have q1' : gn < i' := q1
  rw [Array.getElem?_setIfInBounds_ne (Nat.ne_of_lt q1')]
end K91
set_option Elab.async false
set_option linter.all false
set_option maxRecDepth 100000
set_option maxHeartbeats 2000000
/-! A comprehension over a generator that sleeps over another one. -/
namespace K91
open PySem PySem.Spec PyProof.Rows L2 GenW

/-! ### it begins -/
theorem lw_func {Γ : GSet} {r : Nat} {body : List Stmt} {s : Shared} (h : ∀ J : Value → Sem PySem.Fin, LW Γ r (.func body Γ.env) ((execs body Γ.env).wrap (fun f => .pure (.done (.ret (match f with | .ret v => v | _ => .none)))) J id id) [] s) :
    LW Γ r (.func body Γ.env) (Γ.M.den (.func body Γ.env)) [] s := by
  show LW Γ r _ (.point [] fun _ => ((execs body Γ.env).onRaise (leaving Γ.env)) >>= _) [] s
  refine GW.point ?_
  rw [Sem.onRaise_eq_wrap, Sem.bind_eq_wrap', Sem.wrap_wrap]
  rw [Sem.wrap_congr (execs body Γ.env) _ _ (K' := fun f => .pure (.done (.ret (match f with | .ret v => v | _ => .none)))) (fun f => by cases f <;> rfl) (fun e => rfl)]
  exact h _
theorem lw_end {Γ : GSet} {ip : List (Addr × Obj)} {σ : L2.St} {H : Hp} {s : Shared} {c : Code} (hG : GI Γ Γ.n ip σ H s) : LW Γ 0 c (.pure (.done (.ret .none))) [] s := by
  obtain ⟨_, H_a, s_a, h1, h2, h3, I⟩ := hG
  exact GW.end ⟨rfl, H_a, s_a, H, h1.phi, ran_of I h2⟩
theorem lw_start {Γ : GSet} {body : List Stmt} {vs : List V} {s s' s2 : Shared} {H H2 : Hp} (ok : Γ.Ok) (hok : HOk Γ.P Γ.w H s.heap) (hvl : vs.length ≤ Γ.N.length) (mk : GMk Γ.N Γ.qual Γ.scope Γ.f Γ.cd body vs s Γ.n0 Γ.a Γ.g s') (z : Slp Γ H s' H2 s2) (hΦ : Γ.Φ 0 H2 s2) :
    GI Γ 0 [] (L2.start Γ.N vs) H2 s2 := by
  have hn0 : H Γ.n0 = none := by rw [mk.n0e]; exact hok.fresh (Nat.le_refl _)
  obtain ⟨m, ⟨o, es, ep, ho, hd, rr⟩, hl⟩ := mk.loc
  have k0 := z.high Γ.n0 o (Nat.le_refl _) (fun hm => absurd (ok.ga _ hm) (Nat.lt_irrefl _)) ho hn0 (fun v q => by rw [hd] at q; cases q)
  have I : Inv (Γ.X s2 H2) [] (L2.start Γ.N vs) H2 s2 := inv_at ok z.wld ⟨m, ⟨o, es, ep, k0.1, hd, rr⟩, fun i x v e1 e2 e3 => by
    obtain ⟨u, r1, l1⟩ := hl i x v e1 e2 e3
    exact ⟨u, r1, look_local ok l1⟩⟩ k0.2 (by unfold L2.start; rw [List.length_append, List.length_map, List.length_replicate]; omega) z.gobj fun p hp => nomatch hp
  exact ⟨Nat.lt_of_lt_of_le (by rw [mk.gs, mk.ge, Array.size_push]; omega) z.gsz, H2, s2, ⟨hΦ, Nat.le_of_lt I.lt, fun b hb => (z.gobj b hb).2.imp fun _ q => q.1⟩, Same.refl _, (fun p hp => nomatch hp), I⟩

/-- as its consumer sees it -/
def lset (X : Cx) (N : List Str) (qual : Str) (scope : Scope) (f : Addr) (cd : Value) (A : Around) (n0 a : Addr) (g n : Nat) (Φ : Nat → Hp → Shared → Prop) (It : Nat → V → Hp → Prop) (ex : List Addr) : GSet :=
  { P := X.prog, w := X.w, K := X.K, mg := X.mg, base := X.base, N := N, qual := qual, scope := scope, f := f, cd := cd, A := A, outer := X.stack, n0 := n0, a := a, g := g, n := n, Φ := Φ, It := It, ex := ex }
def LStarts (X : Cx) (k : Nat) (N : List Str) (qual : Str) (scope : Scope) (f : Addr) (cd : Value) (H1 : Hp) (s' : Shared) (n0 a : Addr) (g n : Nat) (It : Nat → V → Hp → Prop) (c : Code) : Prop :=
  ∀ (A : Around) (Φ : Nat → Hp → Shared → Prop) (ex : List Addr) (s2 : Shared) (H2 : Hp), Room k A → A.frames = some X.stack → (∀ b ∈ ex, n0 < b) → Slp (lset X N qual scope f cd A n0 a g n Φ It ex) H1 s' H2 s2 → Φ 0 H2 s2 →
    LW (lset X N qual scope f cd A n0 a g n Φ It ex) n c ((model X.prog X.w).den c) [] s2
/-- a call of such a generator def -/
structure LIn (X : Cx) (k : Nat) (e : Expr) (t : TCall) : Prop where
  run : ∀ (pins : List (Addr × Obj)) (s : Shared) (σ : L2.St) (H : Hp) (cont : Nat → (Nat → V → Hp → Prop) → Hp → Prop), Inv X pins σ H s → t σ H cont → wpAny (model X.prog X.w) X.A (eval e X.env)
    (fun u s' => ∃ H1 s1 a g n It c N qual scope f cd, u = .ref a ∧ Inv X pins σ H1 s1 ∧ Made s1 a g c s' ∧ LStarts X k N qual scope f cd H1 s' s1.heap.objs.size a g n It c ∧ cont n It H1) X.xe s

/-! ### the wake, over the machine -/
section
variable {prog : Program} {w : World} {A : Around} {E : Value → Shared → Prop} {s : Shared}
theorem we_builtin {id : String} {args : Args} {b : Builtin} {Q : Value → Shared → Prop} (hq : plainId id = true) (hb : entryFor table id = some b) (hc : ∀ Q' : Unit → Shared → Prop, Q' () s → wpAny (model prog w) A.in1 (checkBuiltinCall id args) Q' (fun _ _ => False) s)
    (h : WE (model prog w) A.in1 (b args) (fun fin s' => ∃ v, fin = .done (.ret v) ∧ Q v s') E s) : WE (model prog w) A (call (.builtin id) args.pos args.kw) Q E s := by
  refine WE.runValue (CE.tree ?_)
  show WE _ A.in1 (do checkBuiltinCall id args; again (.builtin id args)) _ _ s
  refine WE.bindL (wpAny_mono (hc (fun _ s' => s' = s) rfl) (fun _ s' e => ?_) fun _ _ z => z.elim)
  subst e
  refine WE.pure ⟨plainId_quiet hq _, CE.tree ?_⟩
  rw [Around.under_plainId hq _]
  show WE _ A.in1 (match entryFor table id with | some b => b args | none => unsupported ((withoutEnding? id "#data").getD id)) _ _ _
  rw [hb]
  refine h.mono (fun fin s' hf => ?_) fun e s' z => z
  obtain ⟨v, rfl, q⟩ := hf
  exact q
/-- next of a generator, over the machine: hR what the run shows -/
theorem we_next {a : Addr} {g : Nat} {gs : GenState} {Q : Option Value → Shared → Prop} (hh : A.handled = none) (hl : s.heap.NoLimit) (hroom : A.depth < recursionLimit) (hg : IsGenZ 0 s.heap a g) (hgs : s.gens[g]? = some gs)
    (hst : gs.status = .fresh ∨ gs.status = .suspended)
    (hR : ∀ (E' : Value → Shared → Prop) (k : GenResult → Sem PySem.Fin) (Q' : PySem.Fin → Shared → Prop), (∀ v s', Q (some v) s' → WE (model prog w) A.in1 (k (.yielded v)) Q' E' s') →
      (∀ s', (∀ h', (∀ b o, s'.heap.get? b = some o → h'.get? b = some o) → Q none { s' with heap := h' }) → WE (model prog w) A.in1 (k (.returned .none)) Q' E' s') → WE (model prog w) A.in1 (.resume g (.send .none) [] k) Q' E' s) :
    WE (model prog w) A (pyNext (.ref a)) Q E s := by
  unfold pyNext
  refine WE.bind (WE.attempt ?_)
  simp only [callSpecial?]
  refine WE.bindL (wpAny_specialOf hg.typeIs (name := Str.ofString "__next__") slot_gen_next.lookup ?_)
  simp only [slot_gen_next.bind]
  refine WE.holding (WE.bindL (wpAny_pure (WE.bind ?_)))
  refine (we_builtin (args := ⟨[.ref a], []⟩) (Q := fun v s' => Q (some v) s') (E := fun e (s' : Shared) => s'.TypeIs e "StopIteration" ∧ Q none s') slot_gen_next.plain entry_gen_next (fun Q' q => slot_gen_next.check _ _ _ _ _ _ _ _ hg.typeIs (args_gen_next _) q) ?_).mono (fun v s' q => WE.pure (WE.pure q)) (fun e s' q => ?_)
  · show WE _ A.in1 (Builtin.Generator.genWake (.ref a) (.send .none)) _ _ s
    unfold Builtin.Generator.genWake
    refine WE.bindL (wpAny_holding (genNumberZ hg ?_))
    refine WE.bindL (wpAny_genState hgs ?_)
    rcases hst with h | h
    · rw [h]
      refine WE.bindL (wpAny_roomToWake hl hroom ?_)
      show WE _ A.in1 (.resume g (.send .none) [] _) _ _ s
      refine hR _ _ _ (fun v s' q => WE.pure ⟨v, rfl, q⟩) (fun s' q => WE.lift ?_)
      show wpAny _ A.in1 (newExc (.type "StopIteration") [] >>= _) _ _ _
      refine wpAny_bind ?_
      simp only [newExc, newTuple]
      refine wpAny_bind (wpAny_newObj_type ?_ (by size_fits))
      refine wpAny_bind (m := firstArgMember _ _) (wpAny_of_eq (a := Value.none) (by first | rfl | (simp only [firstArgMember]; rfl)) ?_)
      refine wpAny_newObj_type ?_ (by size_fits)
      simp only [raiseNew]
      refine wpAny_bind (wpAny_bind (wpAny_handled ?_))
      first | rw [show A.in1.handled = none from hh] | rw [hh]
      refine wpAny_throw ?_
      exact ⟨⟨_, Heap.get?_push_size _ rfl, rfl⟩, q _ fun b o hb => Heap.get?_push_of_some _ (Heap.get?_push_of_some _ hb)⟩
    · rw [h]
      refine WE.bindL (wpAny_roomToWake hl hroom ?_)
      show WE _ A.in1 (.resume g (.send .none) [] _) _ _ s
      refine hR _ _ _ (fun v s' q => WE.pure ⟨v, rfl, q⟩) (fun s' q => WE.lift ?_)
      show wpAny _ A.in1 (newExc (.type "StopIteration") [] >>= _) _ _ _
      refine wpAny_bind ?_
      simp only [newExc, newTuple]
      refine wpAny_bind (wpAny_newObj_type ?_ (by size_fits))
      refine wpAny_bind (m := firstArgMember _ _) (wpAny_of_eq (a := Value.none) (by first | rfl | (simp only [firstArgMember]; rfl)) ?_)
      refine wpAny_newObj_type ?_ (by size_fits)
      simp only [raiseNew]
      refine wpAny_bind (wpAny_bind (wpAny_handled ?_))
      first | rw [show A.in1.handled = none from hh] | rw [hh]
      refine wpAny_throw ?_
      exact ⟨⟨_, Heap.get?_push_size _ rfl, rfl⟩, q _ fun b o hb => Heap.get?_push_of_some _ (Heap.get?_push_of_some _ hb)⟩
  · refine WE.bindL (wpAny_isInstance (T := "StopIteration") (b := true) q.1 isSubtype_stop ?_)
    exact WE.pure q.2
end
end K91
set_option Elab.async false
set_option linter.all false
set_option maxRecDepth 100000
set_option maxHeartbeats 2000000
namespace K91
open PySem PySem.Spec PyProof.Rows L2 GenW

theorem we_comprehension {M : Model} {A : Around} {E : Value → Shared → Prop} {s : Shared} {env : Env} {e : Expr} {scope : Scope} {pos : Pos} {newAcc first : Sem Value} {g : Comprehension} {gs : List Comprehension} {cl : List (Str × Addr)} {Q : Value → Shared → Prop}
    (hcl : clausesOf e = g :: gs) (hs : ∀ x, foldedSetIterable g.iter env x = pure x) (hclos : closureFor scope env = pure cl) (hkind : scope.kind = .function) (hnames : ∀ x ∈ scope.names, x.2 = .local → scope.names.lookup x.1 = some .local)
    (h : wpAny M A first (fun x s1 => wpAny M A (pyIter x) (fun it s2 => wpAny M A newAcc (fun acc s3 => wpAny M A (newFunctionEnv scope env.globals cl [] env.qual none .none (some env)) (fun cenv s4 =>
      CE M A (.compStart e 0 it acc { cenv with scope := relabel scope env }) (fun r s' => r = .ok .next ∧ ∃ m, s'.heap.Ns cenv.locals m ∧ ∀ h', Heap.SameBut cenv.locals s'.heap h' → Q acc { s' with heap := h' }) s4) E s3) E s2) E s1) E s) :
    WE M A (comprehension e scope env pos newAcc false first) Q E s := by
  unfold comprehension
  rw [hclos, hcl]
  refine WE.bindL (wpAny_mono h (fun x s1 h1 => ?_) fun _ _ z => z)
  refine WE.bindL (wpAny_standAt ?_)
  refine WE.bindL (wpAny_of_eq (hs x) ?_)
  refine WE.bindL (wpAny_holding (wpAny_mono h1 (fun it s2 h2 => ?_) fun _ _ z => z))
  dsimp only
  rw [if_neg (by decide)]
  first
    | refine WE.bindL (wpAny_mono h2 (fun acc s3 h3 => ?_) fun _ _ z => z)
    | (refine WE.bindL (wpAny_pure ?_); refine WE.bindL (wpAny_mono h2 (fun acc s3 h3 => ?_) fun _ _ z => z))
  refine WE.bindL (wpAny_pure ?_)
  refine WE.bindL (wpAny_mono h3 (fun cenv s4 h4 => ?_) fun _ _ z => z)
  have hv : ∀ x ∈ (scope.names.filter fun x => (x.2 == .local || x.2 == .cell) && x.1 != (".0" : Str)).reverse, x.2 = .local → Env.kindOf { cenv with scope := relabel scope env } x.1 = some .local := fun x hx hl =>
    lookup_relabel_local (hnames x (List.mem_filter.mp (List.mem_reverse.mp hx)).1 hl)
  refine WE.holding (WE.bind (WE.attempt (WE.holding (WE.run (h4.mono fun r s' hr => ?_)))))
  obtain ⟨rfl, m, hn, hq⟩ := hr
  exact WE.bindL (wpAny_holding (wpAny_comp_letGo (cenv := { cenv with scope := relabel scope env }) hkind _ s' m hv hn fun h' m' _ hs' => WE.pure (hq h' hs')))
theorem inv_state {X : Cx} {pins : List (Addr × Obj)} {σ : L2.St} {H : Hp} {s s' : Shared} (I : Inv X pins σ H s) (e : s'.heap = s.heap) (ho : s'.os = s.os) (hb : AllBare s'.gens) : Inv X pins σ H s' := by
  obtain ⟨h, g, d, t, o⟩ := s
  obtain ⟨h', g', d', t', o'⟩ := s'
  cases e
  cases ho
  exact ⟨I.ok, I.os, hb, I.base, I.loc, I.cell, I.free, I.freeC, I.pin, I.hok, I.len⟩
/-- an untracked list of ours is tracked from now on -/
theorem inv_track {X : Cx} {pins : List (Addr × Obj)} {σ : L2.St} {H : Hp} {s : Shared} {D : Addr} {acc : Array Value} {c : Nat} {xs : List V} (I : Inv X pins σ H s) (hn : H D = none) (hs : X.s_0.heap.objs.size ≤ D) (hL : D ≠ X.env.locals) (hc : ∀ x c, X.env.cells.lookup x = some c → c ≠ D)
    (hp : ∀ p ∈ X.pn ++ pins, p.1 ≠ D) (e : s.heap.get? D = some (lstObj acc c)) (r : Vals xs acc.toList) (hl : xs.length ≤ sizeLine) : Inv X pins σ (upd H D (.lst xs)) s := by
  have nb : ∀ b u, H b = some u → b ≠ D := fun b u q z => by rw [z, hn] at q; cases q
  refine I.step (g' := s.gens) (d' := s.drawn) (t' := s.toks) (h' := s.heap) (ch := [D]) (fun b hb => ?_) (fun b o _ _ _ q _ => q) (fun b o _ _ _ q _ => ⟨o.slots, q⟩) (fun b o hb _ n => ?_) (fun b o _ q => ⟨o, q⟩) (fun b xs q => ?_) (fun b o u q => ?_) (fun b ps q => ⟨#[], ?_⟩) (fun m q => q) (fun b u q => ?_) I.bare
  · rw [List.mem_singleton.mp hb]
    exact ⟨.inr hs, hL, hc, hp⟩
  · rw [upd_ne (fun z => hb (by rw [z]; exact List.mem_singleton.mpr rfl))]; exact n
  · rw [upd_ne (nb b _ q)]; exact q
  · rw [upd_ne (nb b _ q)]; exact q
  · rw [upd_ne (nb b _ q), q]; simp
  · by_cases hb : b = D
    · subst hb
      rw [upd_same] at q
      cases q
      exact ⟨hl, acc.toList, c, r, by rw [e]⟩
    · rw [upd_ne hb] at q
      refine (I.hok b u q).stay (fun _ _ _ z => z) (fun d z => by rw [upd_ne (nb d _ z)]; exact z) fun d xs z => by rw [upd_ne (nb d _ z)]; exact z
theorem ct_list1 (elt target iter : Expr) (scope : Scope) (pos : Pos) (it acc : Value) (env : Env) : compTurn (.ListComp elt [⟨target, iter, [], 0⟩] scope pos) 0 it acc env = (standAt iter.pos >>= fun _ => pyNext it >>= fun r => match r with
    | none => pure (.done .next)
    | some v => letOwnedTupleGo target it v >>= fun _ => assign target env v >>= fun _ => (eval elt env >>= fun x => PySem.call (.builtin "list.append") [acc, x] >>= fun _ => pure ()) >>= fun _ => again (.compLoop (.ListComp elt [⟨target, iter, [], 0⟩] scope pos) 0 it acc env)) := by
  first
    | rfl
    | exact compTurn_list1 elt target iter scope pos it acc env
end K91
set_option Elab.async false
set_option linter.all false
set_option maxRecDepth 100000
set_option maxHeartbeats 2000000
namespace K91
open PySem PySem.Spec PyProof.Rows L2 GenW

theorem setGen_setGen {s : Shared} {g : Nat} {x y : GenState} : (s.setGen g x).setGen g y = s.setGen g y := by
  obtain ⟨h, gs, d, t, o⟩ := s
  simp [Shared.setGen]
def RunOk (Γ : GSet) (r : Nat) (gs : GenState) (s : Shared) : Prop := match gs with
  | .fresh c => LW Γ r c (Γ.M.den c) [] (s.setGen Γ.g .running)
  | .suspended k2 _ c2 _ fs2 _ => LW Γ r c2 (k2 (.send .none)) fs2 (s.setGen Γ.g .running)
  | _ => False
theorem RunOk.status {Γ : GSet} {r : Nat} {gs : GenState} {s : Shared} (h : RunOk Γ r gs s) : gs.status = .fresh ∨ gs.status = .suspended := by
  cases gs with
  | fresh c => exact .inl rfl
  | suspended k2 l2 c2 p2 fs2 cl => exact .inr rfl
  | running => exact h.elim
  | finished => exact h.elim
theorem RunOk.resume {Γ : GSet} {r : Nat} {gs : GenState} {s : Shared} {k : GenResult → Sem PySem.Fin} {Q : PySem.Fin → Shared → Prop} {E : Value → Shared → Prop} (h : RunOk Γ r gs s) (hg : s.gens[Γ.g]? = some gs)
    (hY : ∀ v k2 l2 c2 p2 fs2 cl s', YdL Γ r v k2 c2 fs2 s' → WE Γ.M Γ.A (k (.yielded v)) Q E (s'.setGen Γ.g (.suspended k2 l2 c2 p2 fs2 cl))) (hE : ∀ s', EnL Γ r s' → WE Γ.M Γ.A (k (.returned .none)) Q E (s'.setGen Γ.g .finished)) :
    WE Γ.M Γ.A (.resume Γ.g (.send .none) [] k) Q E s := by
  cases gs with
  | fresh c => exact WE.fresh hg h hY hE
  | suspended k2 l2 c2 p2 fs2 cl => exact WE.wake hg h hY hE
  | running => exact h.elim
  | finished => exact h.elim

section
variable {X : Cx} {k : Nat} {iter : Expr} {tc : TCall} {v : Str} {p1 p2 pos : Pos} {scope : Scope}
/-- the loop -/
theorem lc_loop {pins : List (Addr × Obj)} {σ : L2.St} {H1 : Hp} {s1 s' : Shared} {a : Addr} {g n : Nat} {c1 : Code} {It : Nat → V → Hp → Prop} {N : List Str} {qual : Str} {gscope : Scope} {f : Addr} {cd : Value} {D C : Addr} {cl : List (Str × Addr)} {Q : VK}
    (hc : X.calm = true) (hr : Room (k + 3) X.A) (I1 : Inv X pins σ H1 s1) (mk : Made s1 a g c1 s') (hD0 : s'.heap.objs.size ≤ D) (hC0 : D < C)
    (hkind : scope.kind = .function) (hv : scope.names.lookup v = some .local) (hvd : (v == ("__debug__" : Str)) = false) (hnl : n ≤ sizeLine) (itm : ∀ j x H H', Same H H' → It j x H → It j x H')
    (hQ : ∀ outs H', outs.length = n → Same H1 H' → (∀ j x, outs[j]? = some x → It j x H') → H' D = none → Q (.ref D) (upd H' D (.lst outs))) :
    ∀ (r i : Nat) (s : Shared) (H : Hp) (gs : GenState) (acc : Array Value) (c : Nat) (xs : List V), i + r = n → Inv X pins σ H (s.setGen g .running) → Same H1 H → H C = none → H D = none → (∃ m, s.heap.Ns C m) → s.heap.get? D = some (lstObj acc c) → Vals xs acc.toList → xs.length = i → (∀ j x, xs[j]? = some x → It j x H) →
      IsGenZ 0 s.heap a g → s.gens[g]? = some gs → RunOk (lset X N qual gscope f cd X.A.in1 s1.heap.objs.size a g n (fun i H s => Inv X pins σ H s ∧ Same H1 H ∧ H C = none ∧ H D = none ∧ (∃ m, s.heap.Ns C m) ∧ (∃ acc c xs, s.heap.get? D = some (lstObj acc c) ∧ Vals xs acc.toList ∧ xs.length = i ∧ ∀ j x, xs[j]? = some x → It j x H) ∧ IsGenZ 0 s.heap a g) It [D, C]) r gs s →
      CE (model X.prog X.w) X.A (.compLoop (.ListComp (.Name v p1) [⟨.Name v p2, iter, [], 0⟩] scope pos) 0 (.ref a) (.ref D) (compEnvC scope cl C X.env))
        (fun r s' => r = .ok .next ∧ ∃ m, s'.heap.Ns C m ∧ ∀ h', Heap.SameBut C s'.heap h' → EP X pins σ Q (.ref D) { s' with heap := h' }) s := by
  have hn0 : X.env.locals < s1.heap.objs.size := I1.lt
  have haL : s1.heap.objs.size < a := mk.lt
  have hDs : s1.heap.objs.size < D := Nat.lt_of_lt_of_le (Nat.lt_trans haL mk.ltn) hD0
  have hCs : s1.heap.objs.size < C := Nat.lt_trans hDs hC0
  have hDC : D ≠ C := Nat.ne_of_lt hC0
  have haD : a ≠ D := Nat.ne_of_lt (Nat.lt_of_lt_of_le mk.ltn hD0)
  have haC : a ≠ C := Nat.ne_of_lt (Nat.lt_trans (Nat.lt_of_lt_of_le mk.ltn hD0) hC0)
  have hpin : ∀ q ∈ X.pn ++ pins, q.1 < s1.heap.objs.size := fun q hq => Heap.lt_size (I1.pin q hq).1
  have hcell : ∀ x c, X.env.cells.lookup x = some c → c < s1.heap.objs.size := fun x c e => let ⟨_, z⟩ := I1.cell x c e; z.lt
  let Φ : Nat → Hp → Shared → Prop := fun i H s => Inv X pins σ H s ∧ Same H1 H ∧ H C = none ∧ H D = none ∧ (∃ m, s.heap.Ns C m) ∧ (∃ acc c xs, s.heap.get? D = some (lstObj acc c) ∧ Vals xs acc.toList ∧ xs.length = i ∧ ∀ j x, xs[j]? = some x → It j x H) ∧ IsGenZ 0 s.heap a g
  let Γ : GSet := lset X N qual gscope f cd X.A.in1 s1.heap.objs.size a g n Φ It [D, C]
  have ma : a ∈ Γ.own := List.mem_cons_self
  have mD : D ∈ Γ.own := List.mem_cons_of_mem _ List.mem_cons_self
  have mC : C ∈ Γ.own := List.mem_cons_of_mem _ (List.mem_cons_of_mem _ List.mem_cons_self)
  have cons : ∀ {Ha H : Hp} {sa s : Shared}, Inv X pins σ Ha sa → Ran Γ Ha sa H s → Inv X pins σ H s := fun {Ha H sa s} I r =>
    cons_inv (Γ := Γ) rfl rfl rfl I1.sz hn0 hcell hpin I r
  -- what the consumer writes
  have turned : ∀ {b : Addr} {H : Hp} {s : Shared} {h' : Heap}, s1.heap.objs.size < b → Inv X pins σ H s → H b = none → Heap.SameBut b s.heap h' → Inv X pins σ H { s with heap := h' } := fun {b H s h'} hb I hn hk =>
    I.turned (t' := s.toks) (it := b) (fun x o hx e => (hk.2 x hx).trans e) hn (Nat.ne_of_gt (Nat.lt_trans hn0 hb)) (.inr (Nat.le_trans I1.sz (Nat.le_of_lt hb))) (fun x c h => Nat.ne_of_lt (Nat.lt_trans (hcell x c h) hb)) fun q hq => Nat.ne_of_lt (Nat.lt_trans (hpin q hq) hb)
  have hcls : ((compEnvC scope cl C X.env).scope.kind == .class || ((compEnvC scope cl C X.env).scope.kind == .module && (compEnvC scope cl C X.env).locals != (compEnvC scope cl C X.env).globals)) = false := by
    rw [show (compEnvC scope cl C X.env).scope.kind = .function from hkind]; rfl
  have hvl : (compEnvC scope cl C X.env).kindOf v = some .local := lookup_relabel_local hv
  have hne : ∀ {h : Heap} {m}, h.Ns C m → ∃ o, h.get? C = some o ∧ ∀ v, o.data ≠ .cell v := fun {h m} hm => by
    obtain ⟨o, es, ep, ho, hd, _⟩ := hm
    exact ⟨o, ho, fun v q => by rw [hd] at q; cases q⟩
  intro r
  induction r with
  | zero =>
    intro i s H gs acc c xs hi I sm hHC hHD hC hD vx hx hit hg hgs hrun
    refine CE.tree ?_
    show WE _ X.A ((compTurn (.ListComp (.Name v p1) [⟨.Name v p2, iter, [], 0⟩] scope pos) 0 (.ref a) (.ref D) (compEnvC scope cl C X.env)).onRaise (fun x => do noteFrame x (compEnvC scope cl C X.env); theTreesLotGoes x)) _ _ s
    refine WE.onRaise ?_
    rw [compTurn_list1]
    refine WE.bindL (wpAny_standAt ?_)
    refine WE.bind (we_next (I1.ok.hd hc) I.nolimit (by have := hr.dp; omega) hg hgs hrun.status fun E' k0 Q' hy he => hrun.resume hgs (fun v k2 l2 c2 p2 fs2 cl s2 y => y.elim) fun s2 hen => he _ fun h' hk => ?_)
    obtain ⟨_, Ha, sa, H2, ⟨Ia, sma, a1, a2, a3, ⟨acc2, c2, xs2, a4, a5, a6, a7⟩, a8⟩, ran⟩ := hen
    have Ic := cons Ia ran
    obtain ⟨m3, o3, es3, ep3, q3, r3⟩ := a3
    obtain ⟨oC1, nC⟩ := ran.gobj C mC _ q3
    obtain ⟨oD1, nD⟩ := ran.gobj D mD _ a4
    refine WE.pure ⟨rfl, m3, ⟨o3, es3, ep3, hk _ _ oC1, r3⟩, fun h'' sb => ?_⟩
    have If : Inv X pins σ H2 { s2.setGen g .finished with heap := h' } := (inv_setGen Ic rfl).kept (s := s2.setGen g .finished) (t' := s2.toks) hk
    have Ig := turned hCs If nC sb
    have hDh : h''.get? D = some (lstObj acc2 c2) := (sb.2 D hDC).trans (hk _ _ oD1)
    exact ⟨.ref D, upd H2 D (.lst xs2), inv_track Ig nD (Nat.le_trans I1.sz (Nat.le_of_lt hDs)) (Nat.ne_of_gt (Nat.lt_trans hn0 hDs)) (fun x c h => Nat.ne_of_lt (Nat.lt_trans (hcell x c h) hDs)) (fun q hq => Nat.ne_of_lt (Nat.lt_trans (hpin q hq) hDs)) hDh a5 (by rw [a6]; exact hnl), rfl,
      hQ xs2 H2 a6 (sma.trans ran.same) (fun j x e => itm _ _ _ _ ran.same (a7 j x e)) nD⟩
  | succ r ih =>
    intro i s H gs acc c xs hi I sm hHC hHD hC hD vx hx hit hg hgs hrun
    refine CE.tree ?_
    show WE _ X.A ((compTurn (.ListComp (.Name v p1) [⟨.Name v p2, iter, [], 0⟩] scope pos) 0 (.ref a) (.ref D) (compEnvC scope cl C X.env)).onRaise (fun x => do noteFrame x (compEnvC scope cl C X.env); theTreesLotGoes x)) _ _ s
    refine WE.onRaise ?_
    rw [compTurn_list1]
    refine WE.bindL (wpAny_standAt ?_)
    refine WE.bind (we_next (I1.ok.hd hc) I.nolimit (by have := hr.dp; omega) hg hgs hrun.status fun E' k0 Q' hy he => hrun.resume hgs (fun u k2 l2 c2 pp2 fs2 cl2 s2 y => hy _ _ ?_) fun s2 hen => absurd hen.1 (by omega))
    obtain ⟨j, Ha, sa, H2, x, hj, ⟨Ia, sma, a1, a2, ⟨m3, o3, es3, ep3, q3, r3⟩, ⟨acc2, cc2, xs2, a4, a5, a6, a7⟩, a8⟩, ran, rv, hIt, hgz, kap⟩ := y
    have hji : j = i := by have hj' : j + (r + 1) = n := hj; omega
    subst hji
    have Ic := cons Ia ran
    obtain ⟨oC1, nC⟩ := ran.gobj C mC _ q3
    obtain ⟨oD1, nD⟩ := ran.gobj D mD _ a4
    obtain ⟨oa, nm, qn, b1, b2, b3, b4⟩ := a8
    obtain ⟨oa1, na⟩ := ran.gobj a ma _ b1
    have smr := sma.trans ran.same
    refine WE.bindL (wpAny_pure ?_)
    have hNs : (s2.setGen g (.suspended k2 l2 c2 pp2 fs2 cl2)).heap.Ns (compEnvC scope cl C X.env).locals m3 := ⟨o3, es3, ep3, oC1, r3⟩
    refine WE.bindL (wpAny_assign_Name (wpAny_storeName_local hvl hNs (fun h3 hn3 sb3 => ?_) hcls))
    have sb3' : Heap.SameBut C s2.heap h3 := sb3
    refine WE.bindL (wpAny_bind (wpAny_Name (wpAny_loadName_local hkind hvl hn3 (v := u) (by simp) ?_) hvd))
    have oD3 : h3.get? D = some (lstObj acc2 cc2) := (sb3'.2 D hDC).trans oD1
    have hl2 := a5.length
    have hsz : acc2.size ≤ sizeLine := by
      simp only [Array.length_toList] at hl2
      rw [← hl2, a6]
      omega
    refine wpAny_bind (append_at (hsz := hsz) oD3 fun h4 sb4 oD4 => wpAny_pure (WE.pure ⟨rfl, ?_⟩))
    have hNs4 : ∃ m, h4.Ns C m := ⟨_, hn3.sameBut sb4 (Ne.symm hDC)⟩
    have g4 : IsGenZ 0 h4 a g := ⟨oa, nm, qn, (sb4.2 a haD).trans ((sb3'.2 a haC).trans oa1), b2, b3, b4⟩
    have I4 : Inv X pins σ H2 { s2.setGen g .running with heap := h4 } := turned (s := { s2.setGen g .running with heap := h3 }) hDs (turned (s := s2.setGen g .running) hCs (inv_setGen Ic rfl) nC sb3') nD sb4
    have vx' : Vals (xs2 ++ [x]) (acc2.push u).toList := by
      rw [Array.toList_push]
      exact a5.append (.cons rv .nil)
    have hl' : (xs2 ++ [x]).length = j + 1 := by rw [List.length_append, a6]; rfl
    have its : ∀ jj y, (xs2 ++ [x])[jj]? = some y → It jj y H2 := fun jj y e => by
      by_cases hlt : jj < xs2.length
      · rw [List.getElem?_append_left hlt] at e
        exact itm _ _ _ _ ran.same (a7 jj y e)
      · have hlt2 : jj < (xs2 ++ [x]).length := (List.getElem?_eq_some_iff.mp e).1
        rw [hl'] at hlt2
        have e2 : jj = xs2.length := by omega
        subst e2
        rw [List.getElem?_append_right (Nat.le_refl _)] at e
        simp at e
        subst e
        rw [a6]
        exact hIt
    have Ifin : ∀ tk, Inv X pins σ H2 (({ s2.setGen g (.suspended k2 l2 c2 pp2 fs2 cl2) with heap := h4, toks := tk } : Shared).setGen g .running) := fun tk => by
      refine inv_state I4 rfl rfl ?_
      rw [show (({ s2.setGen g (.suspended k2 l2 c2 pp2 fs2 cl2) with heap := h4, toks := tk } : Shared).setGen g .running).gens = ((s2.setGen g (.suspended k2 l2 c2 pp2 fs2 cl2)).setGen g .running).gens from rfl, setGen_setGen]
      exact I4.bare
    refine ih (j + 1) _ H2 (.suspended k2 l2 c2 pp2 fs2 cl2) (acc2.push u) (cc2 + 1) (xs2 ++ [x]) (by omega) (Ifin _) smr nC nD hNs4 oD4 vx' hl' its g4 (setGen_at (s := s2) hgz) ?_
    refine kap H2 _ ⟨Ifin _, smr, nC, nD, hNs4, ⟨_, _, _, oD4, vx', hl', its⟩, g4⟩ ?_
    refine ⟨rfl, Wld.of (Ifin _).env0, Same.refl _, fun b o q1 qa q2 q3 q4 => ?_, fun i' q1 q2 => ?_, ?_, ?_⟩
    · have qa' : b ≠ a ∧ b ≠ D ∧ b ≠ C := by
        have qa'' : b ∉ [a, D, C] := qa
        simpa using qa''
      exact ⟨(sb4.2 b qa'.2.1).trans ((sb3'.2 b qa'.2.2).trans q2), q3⟩
    · have q1' : g < i' := q1
      show (((s2.gens.setIfInBounds g (.suspended k2 l2 c2 pp2 fs2 cl2)).setIfInBounds g .running)[i']?) = s2.gens[i']?
      rw [Array.getElem?_setIfInBounds_ne (Nat.ne_of_lt q1'), Array.getElem?_setIfInBounds_ne (Nat.ne_of_lt q1')]
    · show s2.gens.size ≤ ((s2.gens.setIfInBounds g (.suspended k2 l2 c2 pp2 fs2 cl2)).setIfInBounds g .running).size
      simp
    · intro b hb
      have hb' : b = a ∨ b = D ∨ b = C := by
        have hb'' : b ∈ [a, D, C] := hb
        simpa using hb''
      rcases hb' with rfl | rfl | rfl
      · exact ⟨na, g4.nocell⟩
      · exact ⟨nD, _, oD4, fun v q => by cases q⟩
      · obtain ⟨m, hm⟩ := hNs4
        exact ⟨nC, hne hm⟩
end
end K91
set_option Elab.async false
set_option linter.all false
set_option maxRecDepth 100000
set_option maxHeartbeats 2000000
namespace K91
open PySem PySem.Spec PyProof.Rows L2 GenW

theorem ce_compStart {prog : Program} {w : World} {A : Around} {s : Shared} {R : Result → Shared → Prop} {elt target iter : Expr} {scope : Scope} {pos : Pos} {it acc : Value} {env : Env}
    (h0 : CE (model prog w) A (.compLoop (.ListComp elt [⟨target, iter, [], 0⟩] scope pos) 0 it acc env) R s) (hit : ∀ Q' : Value → Shared → Prop, ∀ E' : Value → Shared → Prop, Q' it s → wpAny (model prog w) A (pyIter it) Q' E' s) :
    CE (model prog w) A (.compStart (.ListComp elt [⟨target, iter, [], 0⟩] scope pos) 0 it acc env) R s := by
  refine CE.tree ?_
  show WE _ A ((compStart (.ListComp elt [⟨target, iter, [], 0⟩] scope pos) 0 it acc env).onRaise (fun x => do noteFrame x env; standAt theWindowsPlace)) _ _ s
  refine WE.onRaise ?_
  unfold compStart
  show WE _ A (ask >>= _) _ _ s
  refine WE.bindL (wpAny_askSetting ?_)
  split
  · first
      | exact WE.bindL (wpAny_pure (WE.pure ⟨rfl, h0⟩))
      | exact WE.pure ⟨rfl, h0⟩
  · first
      | exact WE.bindL (wpAny_rule (WE.bindL (wpAny_standAt (WE.bindL (hit _ _ (WE.pure ⟨rfl, h0⟩))))))
      | (refine WE.bindL (wpAny_rule ?_); show WE _ A (standAt iter.pos >>= _) _ _ s; exact WE.bindL (wpAny_standAt (WE.bindL (hit _ _ (WE.pure ⟨rfl, h0⟩)))))
section
variable {X : Cx} {k : Nat} {iter : Expr} {tc : TCall} {v : Str} {p1 p2 pos : Pos} {scope : Scope}
/-- [v for v in g(..)] -/
theorem we_lcomp {pins : List (Addr × Obj)} {σ : L2.St} {H : Hp} {s : Shared} {Q : VK} (hc : X.calm = true) (hr : Room (k + 3) X.A) (hi : LIn X k iter tc) (hkind : scope.kind = .function) (hsc : scope.names = [((".0" : Str), .local), (v, .local)]) (hv0 : v ≠ (".0" : Str)) (hvd : (v == ("__debug__" : Str)) = false)
    (I : Inv X pins σ H s) (ht : tc σ H fun n It H1 => n ≤ sizeLine ∧ (∀ j x H H', Same H H' → It j x H → It j x H') ∧ ∀ outs H', outs.length = n → Same H1 H' → (∀ j x, outs[j]? = some x → It j x H') → ∀ D, H' D = none → Q (.ref D) (upd H' D (.lst outs)))
    (hs : ∀ x, foldedSetIterable iter X.env x = pure x := by intro _; rfl) :
    WE (model X.prog X.w) X.A (eval (.ListComp (.Name v p1) [⟨.Name v p2, iter, [], 0⟩] scope pos) X.env) (EP X pins σ Q) X.xe s := by
  have hlk : scope.names.lookup v = some .local := by
    rw [hsc, List.lookup_cons, show (v == (".0" : Str)) = false from beq_eq_false_iff_ne.mpr hv0]
    simp [List.lookup_cons]
  rw [eval_ListComp]
  refine we_comprehension rfl hs (cl := cloFrom X.env.cells scope.names []) (closure_ok fun y hy e => ?_) hkind (fun y hy hl => ?_) (wpAny_mono (hi.run pins s σ H _ I ht) (fun u s1' hu => ?_) fun _ _ z => z)
  · rw [hsc] at hy
    simp at hy
    rcases hy with rfl | rfl <;> cases e
  · rw [hsc] at hy
    simp at hy
    rcases hy with rfl | rfl
    · rw [hsc]; rfl
    · exact hlk
  obtain ⟨H1, s1, a, g, n, It, c1, N, qual, gscope, f, cd, rfl, I1, mk, st, hnl, itm, hQ⟩ := hu
  obtain ⟨I1', ha1, hgs1⟩ := made_inv I1 mk
  refine wpAny_pyIter_gen mk.gen (wpAny_newObj_type (newEnv_comp ?_) (by show 0 ≤ sizeLine; decide))
  have hpc : ∀ h : Heap, pushCells h scope.names = h := fun h => by rw [hsc]; rfl
  rw [hpc]
  generalize hs2 : ({ s1' with heap := s1'.heap.push { cls := .type "list", data := .seq ([] : List Value).toArray } } : Shared) = s2
  have h2 : s2.heap = s1'.heap.push { cls := .type "list", data := .seq ([] : List Value).toArray } := by rw [← hs2]
  have hsz2 : s2.heap.objs.size = s1'.heap.objs.size + 1 := by rw [h2, Heap.size_push]
  show CE _ _ (.compStart (.ListComp (.Name v p1) [⟨.Name v p2, iter, [], 0⟩] scope pos) 0 (.ref a) (.ref s1'.heap.objs.size) (compEnvC scope (cellsFrom (s2.heap.objs.size + 1) scope.names (cloFrom X.env.cells scope.names [])) s2.heap.objs.size X.env))
    (fun r s' => r = .ok .next ∧ ∃ m, s'.heap.Ns s2.heap.objs.size m ∧ ∀ h', Heap.SameBut s2.heap.objs.size s'.heap h' → EP X pins σ Q (.ref s1'.heap.objs.size) { s' with heap := h' }) _
  have kp : ∀ b o, s1'.heap.get? b = some o → (s2.heap.push { cls := .type "dict", data := .dict #[] }).get? b = some o := fun b o e => Heap.get?_push_of_some _ (by rw [h2]; exact Heap.get?_push_of_some _ e)
  have gk : IsGenZ 0 (s2.heap.push { cls := .type "dict", data := .dict #[] }) a g := (IsGenZ.of mk.gen).at fun o e => kp a o e
  have hD : (s2.heap.push { cls := .type "dict", data := .dict #[] }).get? s1'.heap.objs.size = some (lstObj #[] 0) := by
    refine Heap.get?_push_of_some _ ?_
    rw [h2]
    exact Heap.get?_push_size _ rfl
  have hN : (s2.heap.push { cls := .type "dict", data := .dict #[] }).Ns s2.heap.objs.size (fun _ => none) := Heap.Ns.new ..
  have e2 : s2 = { s1' with heap := s2.heap } := by rw [← hs2]
  have hgens : s2.gens = s1'.gens := by rw [← hs2]
  have I3 : Inv X pins σ H1 (({ s2 with heap := s2.heap.push { cls := .type "dict", data := .dict #[] } } : Shared).setGen g .running) :=
    inv_setGen (inv_state (I1'.kept (t' := s1'.toks) kp) rfl (by rw [← hs2]) (by show AllBare s2.gens; rw [hgens]; exact I1'.bare)) rfl
  have nD : H1 s1'.heap.objs.size = none := I1'.hok.fresh (Nat.le_refl _)
  have nC : H1 s2.heap.objs.size = none := I1'.hok.fresh (by rw [hsz2]; exact Nat.le_succ _)
  have hg2 : ({ s2 with heap := s2.heap.push { cls := .type "dict", data := .dict #[] } } : Shared).gens[g]? = some (.fresh c1) := by
    show s2.gens[g]? = _
    rw [hgens]
    exact hgs1
  have hsD : s1.heap.objs.size < s1'.heap.objs.size := Nat.lt_trans mk.lt mk.ltn
  refine ce_compStart ?_ fun Q' E' q => wpAny_pyIter_gen (Heap.IsGen.keeps mk.gen kp) q
  refine lc_loop (k := k) (N := N) (qual := qual) (gscope := gscope) (f := f) (cd := cd) hc hr I1 mk (Nat.le_refl _) (by rw [hsz2]; exact Nat.lt_succ_self _) hkind hlk hvd hnl itm (fun outs H' o1 o2 o3 o4 => hQ outs H' o1 o2 o3 _ o4) n 0 _ H1 (.fresh c1) #[] 0 [] (Nat.zero_add _) I3 (Same.refl _) nC nD ⟨_, hN⟩ hD .nil rfl (fun j x e => by simp at e) gk hg2 ?_
  refine st X.A.in1 _ [s1'.heap.objs.size, s2.heap.objs.size] _ H1 (Room.mono hr.in1 (by omega)) I1.ok.frames (fun b hb => ?_) ?_ ⟨I3, Same.refl _, nC, nD, ⟨_, hN⟩, ⟨#[], 0, [], hD, .nil, rfl, fun j x e => by simp at e⟩, gk⟩
  · simp at hb
    rcases hb with rfl | rfl
    · exact hsD
    · rw [hsz2]; exact Nat.lt_succ_of_lt hsD
  · refine ⟨by show s2.os = s1'.os; rw [← hs2], Wld.of I3.env0, Same.refl _, fun b o _ _ q n _ => ⟨kp b o q, n⟩, fun i' q1 _ => ?_, ?_, fun b hb => ?_⟩
    · have q1' : g < i' := q1
      show (s2.gens.setIfInBounds g .running)[i']? = _
      rw [Array.getElem?_setIfInBounds_ne (Nat.ne_of_lt q1'), hgens]
    · show s1'.gens.size ≤ (s2.gens.setIfInBounds g .running).size
      rw [hgens]; simp
    · have hb' : b = a ∨ b = s1'.heap.objs.size ∨ b = s2.heap.objs.size := by
        have hb'' : b ∈ [a, s1'.heap.objs.size, s2.heap.objs.size] := hb
        simpa using hb''
      rcases hb' with rfl | rfl | rfl
      · exact ⟨ha1, gk.nocell⟩
      · exact ⟨nD, _, hD, fun v q => by cases q⟩
      · obtain ⟨o, es, ep, ho, hd, _⟩ := hN
        exact ⟨nC, o, ho, fun v q => by rw [hd] at q; cases q⟩
end
end K91
set_option Elab.async false
set_option linter.all false
set_option maxRecDepth 100000
set_option maxHeartbeats 1000000
/-! for over a generator of ours that hands out nothing. -/
namespace K91
open PySem PySem.Spec PyProof.Rows L2 GenW

def tFor0 (tc : TCall) : TS := fun D σ H => tc σ H fun n _ H1 => n = 0 ∧ ∀ H2, Same H1 H2 → D.nx σ H2
theorem ps_for0 {X : Cx} {k : Nat} {tg iter : Expr} {body : List Stmt} {pos : Pos} {tc : TCall} (hp : PassesOwn (model X.prog X.w) X.A X.env X.xe) (hc : X.calm = true) (hr : Room (k + 1) X.A) (hi : GIn X k iter tc)
    (hs : ∀ x, foldedSetIterable iter X.env x = pure x := by intro _; rfl) : PS X (.For tg iter body [] pos) (tFor0 tc) := by
  refine ⟨fun pins s σ H D I h => ?_⟩
  refine wpAny_For (thn (hi.run pins s σ H _ I h) fun v s1' hv => ?_) hs
  obtain ⟨H1, s1, a, g, n, It, c1, N', qual', gsc', f', cd', rfl, I1, _, mk, st, rfl, hD⟩ := hv
  obtain ⟨I1', ha1, hgs1⟩ := made_inv I1 mk
  refine wpAny_pyIter_gen mk.gen ?_
  let Φ : Nat → Hp → Shared → Prop := fun i H s => Inv X pins σ H s ∧ Same H1 H
  let Δ : GSet := iset X N' qual' gsc' f' cd' X.A.in1 s1.heap.objs.size a g 0 Φ It
  have cons : ∀ {Ha H : Hp} {sa s : Shared}, Inv X pins σ Ha sa → Ran Δ Ha sa H s → Inv X pins σ H s := fun {Ha H sa s} I r =>
    cons_inv (Γ := Δ) rfl rfl rfl I1.sz I1.lt (fun x c e => let ⟨_, z⟩ := I1.cell x c e; z.lt) (fun q hq => Heap.lt_size (I1.pin q hq).1) I r
  have I1r := inv_setGen (g := g) (x := .running) I1' rfl
  have hgo : (GenState.fresh c1).Goes (model X.prog X.w) Δ.A Δ.R Δ.Y (0 + 1 - 0) (.send .none) (s1'.setGen g .running) := by
    refine st Δ.A Φ (s1'.setGen g .running) H1 hr.in1 I1.ok.frames ?_ ⟨I1r, Same.refl _⟩
    refine ⟨rfl, Wld.of I1r.env0, Same.refl _, fun b o _ _ q n _ => ⟨q, n⟩, fun i' q1 _ => ?_, by rw [setGen_size]; exact Nat.le_refl _, gobj_one ⟨ha1, ?_⟩⟩
    · have q1' : g < i' := q1
      show (s1'.gens.setIfInBounds g .running)[i']? = _
      rw [Array.getElem?_setIfInBounds_ne (Nat.ne_of_lt q1')]
    · obtain ⟨o, nm, qn, o1, _, o3, _⟩ := mk.gen
      exact ⟨o, o1, fun v z => by rw [o3] at z; cases z⟩
  refine codeAny_forLoop_any (fun n s' => s' = s1') ?_ 0 rfl
  rintro n s' rfl
  refine next_own (Γ := Δ) (A := X.A) rfl (I1.ok.hd hc) I1'.nolimit (by have := hr.dp; omega) mk.gen hgs1 (Nat.le_refl _) hgo (fun z => absurd z (Nat.lt_irrefl _)) (fun _ s2 Ha sa H2 hΦ ran h' hk => ?_)
  have If : Inv X pins σ H2 { s2.setGen g .finished with heap := h' } := (inv_setGen (cons hΦ.1 ran) rfl).kept (s := s2.setGen g .finished) (t' := s2.toks) hk
  exact wpAny_execs_nil ⟨σ, H2, If, hD H2 (hΦ.2.trans ran.same)⟩
end K91
set_option Elab.async false
set_option linter.all false
set_option maxRecDepth 100000
set_option maxHeartbeats 1000000
/-! Generator defs: what a def promises, how it is called. -/
namespace K91
open PySem PySem.Spec PyProof.Rows L2 GenW

abbrev SpGen := List V → Hp → (Nat → (Nat → V → Hp → Prop) → Hp → Prop) → Prop
def gset (P : Program) (w : World) (K : PySem.W.Frag) (mg : Str → Option Value) (base : Heap) (N : List Str) (d : He.DefD) (cd : Value) (A : Around) (outer : List Env) (n0 a : Addr) (g n : Nat) (Φ : Nat → Hp → Shared → Prop) (It : Nat → V → Hp → Prop) (ex : List Addr) : GSet :=
  { P := P, w := w, K := K, mg := mg, base := base, N := N, qual := d.qual, scope := d.scope, f := He.fAd K d.at_, cd := cd, A := A, outer := outer, n0 := n0, a := a, g := g, n := n, Φ := Φ, It := It, ex := ex }
/-- a generator def's promise by its body -/
structure GOk (P : Program) (w : World) (K : PySem.W.Frag) (mg : Str → Option Value) (base : Heap) (k : Nat) (N ps : List Str) (d : He.DefD) (sp : SpGen) : Prop where
  len : ∀ vs H cont, sp vs H cont → vs.length = ps.length
  run : ∀ vs H cont, sp vs H cont → ∃ n It, cont n It H ∧ ∀ (cd : Value) (A : Around) (outer : List Env) (n0 a : Addr) (g : Nat) (Φ : Nat → Hp → Shared → Prop), (gset P w K mg base N d cd A outer n0 a g n Φ It []).Ok → Room k A → ∀ H2, Same H H2 →
    ∃ t, gSs (gset P w K mg base N d cd A outer n0 a g n Φ It []) d.body t ∧ t { nx := fun j _ _ => j = n } 0 (L2.start N vs) H2
/-- no captured names -/
structure NoCell (sc : Scope) : Prop where
  cells : ∀ n, cellsFrom n sc.names [] = []
  noc : ∀ x, sc.names.lookup x ≠ some .cell ∧ sc.names.lookup x ≠ some .free
theorem noCell_of {sc : Scope} (h : (sc.names.all fun y => decide (y.2 ≠ .cell ∧ y.2 ≠ .free)) = true) : NoCell sc := by
  have key : ∀ y ∈ sc.names, y.2 ≠ .cell ∧ y.2 ≠ .free := fun y hy => of_decide_eq_true (List.all_eq_true.mp h y hy)
  refine ⟨fun n => ?_, fun x => ⟨fun e => (key _ (PySem.mem_of_lookup e)).1 rfl, fun e => (key _ (PySem.mem_of_lookup e)).2 rfl⟩⟩
  have gen : ∀ (l : List (Str × NameKind)), (∀ y ∈ l, y.2 ≠ .cell) → ∀ n, cellsFrom n l [] = [] := by
    intro l
    induction l with
    | nil => intro _ _; rfl
    | cons y r ih =>
      intro hl n
      obtain ⟨x, k⟩ := y
      unfold cellsFrom
      rw [if_neg]
      · exact ih (fun z hz => hl z (List.mem_cons_of_mem _ hz)) n
      · have hk : k ≠ .cell := hl (x, k) List.mem_cons_self
        simpa using hk
  exact gen _ (fun y hy => (key y hy).1) n
section
variable {X : Cx} {k : Nat} {N ps : List Str} {d : He.DefD} {dvs : List V} {kws : List (Str × V)} {fd : FuncData} {sp : SpGen} {pins : List (Addr × Obj)} {σ : L2.St} {H : Hp} {s : Shared}
theorem gszE {α : Type} {M : Model} {A : Around} {t : Sem α} {Q : α → Shared → Prop} {E : Value → Shared → Prop} {n : Nat} (hn : n ≤ s.gens.size) (h : wpAny M A t (fun a s' => n ≤ s'.gens.size → Q a s') E s) : wpAny M A t Q E s :=
  wpAny_gsz hn (wpAny_mono h (fun _ _ x => x) fun _ _ x _ => x)
theorem set_ok {n0 a : Addr} {s1 : Shared} {g n : Nat} {Φ : Nat → Hp → Shared → Prop} {It : Nat → V → Hp → Prop} {ex : List Addr} {A : Around} {cd : Value} (S : GScope N ps d.scope) (hc : NoCell d.scope) (I : Inv X pins σ H s1) (hn : n0 = s1.heap.objs.size) (ha : n0 < a) (hx : ∀ b ∈ ex, n0 < b) (hd : A.handled = none) (hf : A.frames = some X.stack) :
    (gset X.prog X.w X.K X.mg X.base N d cd A X.stack n0 a g n Φ It ex).Ok where
  mod := I.ok.mod
  frames := hf
  hd := hd
  kind := S.kind
  cells := hc.cells _
  noc := hc.noc
  low := by show X.base.objs.size ≤ n0; rw [hn]; exact Nat.le_trans I.ok.bsz I.sz
  frs := fun b hb => by
    obtain ⟨_, o, ho, _⟩ := I.stack.mem hb
    show b < n0
    rw [hn]; exact Heap.lt_size ho
  ga := fun b hb => by
    rcases List.mem_cons.mp hb with e | e
    · rw [e]; exact ha
    · exact hx b e
/-- the call -/
theorem run_gen {us : List Value} {vs : List V} {args : Args} {cont : Nat → (Nat → V → Hp → Prop) → Hp → Prop} {E : Value → Shared → Prop} (F : FunD X.K d.name d.qual d.params d.body d.scope dvs kws (He.fAd X.K d.at_) fd) (S : GScope N ps d.scope) (hc : NoCell d.scope) (hN : ps.length ≤ N.length)
    (G : GOk X.prog X.w X.K X.mg X.base k N ps d sp) (hca : X.calm = true) (hdp : X.A.depth < recursionLimit) (I : Inv X pins σ H s) (r : Vals vs us) (hb : BindsTo s fd args (ps.zip us)) (h : sp vs H cont) :
    wpAny (model X.prog X.w) X.A (PySem.call (.ref (He.fAd X.K d.at_)) args.pos args.kw) (fun u s' => ∃ H1 s1 a g n It c N qual gsc f cd, u = .ref a ∧ Inv X pins σ H1 s1 ∧ s.gens.size ≤ s1.gens.size ∧ Made s1 a g c s' ∧ Starts X k N qual gsc f cd H1 s' s1.heap.objs.size a g n It c ∧ cont n It H1) E s := by
  obtain ⟨oc, od, dV, kV, doc, pm, an, cdv, ct, osl, rfl, lk, hcd, _, _⟩ := F.ex
  have hl := G.len _ _ _ h
  refine wpAny_call (codeAny_mono (gmk_call (body := d.body) lk hcd S (I.ok.hd hca) hdp I.env0 hb r hl) fun rr s' hq => ?_)
  obtain ⟨a, g, rfl, mk⟩ := hq
  obtain ⟨n, It, hcont, hrun⟩ := G.run _ _ _ h
  refine ⟨H, s, a, g, n, It, _, N, d.qual, d.scope, He.fAd X.K d.at_, cdv, rfl, I, Nat.le_refl _, mk.made, fun A Φ s2 H2 hrA hfA slp hΦ => ?_, hcont⟩
  have ok := set_ok (d := d) (g := g) (n := n) (Φ := Φ) (It := It) (ex := []) (cd := cdv) S hc I rfl mk.lt (fun b z => nomatch z) hrA.hd hfA
  obtain ⟨t, ht, hq⟩ := hrun cdv A X.stack _ a g Φ ok hrA H2 slp.same
  exact goes_start (Γ := gset X.prog X.w X.K X.mg X.base N d cdv A X.stack s.heap.objs.size a g n Φ It []) ok I.hok (by rw [hl]; exact hN) mk slp hΦ ht hq
variable {ks : List Str} {gg : List Value → List Value → List Value} {gV : List V → List V → List V} {nn : Nat} {x : Str} {p pos apos : Pos} {e o : Expr} {es : List Expr} {kwl : List Keyword} {ta : TE} {t tk : TA}
def tGinN (n m : Nat) (sp : SpGen) (gV : List V → List V → List V) (t tk : TA) : TCall := fun σ H cont => t σ H fun vs H1 => tk σ H1 fun zs H2 => vs.length = n ∧ zs.length = m ∧ sp (gV vs zs) H2 (fun n It H3 => cont n It H3)
/-- g(e, .., k = v, ..) -/
theorem gin_callN (F : FunD X.K d.name d.qual d.params d.body d.scope dvs kws (He.fAd X.K d.at_) fd) (S : GScope N ps d.scope) (hc : NoCell d.scope) (hN : ps.length ≤ N.length) (G : GOk X.prog X.w X.K X.mg X.base k N ps d sp) (hca : X.calm = true) (hdp : X.A.depth < recursionLimit)
    (hg : Gl X x) (hm : X.mg x = some (.ref (He.fAd X.K d.at_))) (hk : PySem.W.keepIn X.K (.ref (He.fAd X.K d.at_)) = true) (hb : KBn X.K fd ps nn ks gg gV)
    (ha : PA X (e :: es) t) (hkw : PK X kwl tk) (hall : (backToKw pos (keywordEach kwl X.env)).all (·.1.isSome) = true := by rfl) (hks : (backToKw pos (keywordEach kwl X.env)).filterMap (·.1) = ks := by rfl)
    (hdb : (x == ("__debug__" : Str)) = false := by decide) (he : starEach (e :: es) X.env = (false, eval e X.env) :: starEach es X.env := by rfl)
    (hpl : ((backTo pos (starEach (e :: es) X.env)).any (·.1) || (backToKw pos (keywordEach kwl X.env)).any (·.1.isNone)) = false := by rfl) :
    GIn X k (.Call (.Name x p) (e :: es) kwl pos) (tGinN nn ks.length sp gV t tk) := by
  refine ⟨fun pins s σ H cont I h => ?_⟩
  refine wpAny_Call_Name_kw (ld_glob I hg hm ?_ hdb)
  refine PySem.W.callWith_KW (h₀ := X.base) I.ok.mod.kin hk hall (gszE (Nat.le_refl _) (thn (ha.run pos pins s σ H _ I h) fun us s1 ⟨vs, H1, I1, r, q⟩ z1 => ?_)) hpl he
  refine gszE z1 (thn (hkw.run pos pins s1 σ H1 _ I1 q) fun ws s2 ⟨zs, H2, I2, rz, l1, l2, q2⟩ z2 => ⟨I2.kIn, ?_⟩)
  rw [hks]
  refine wpAny_mono (run_gen (args := ⟨us, ks.zip ws⟩) F S hc hN G hca hdp I2 (hb.rel r rz) (hb.to s2 us ws I2.kIn (by rw [← r.length]; exact l1) (by rw [← rz.length]; exact l2)) q2) (fun u s' hu => ?_) fun _ _ z => z
  obtain ⟨H3, s3, a, g, n, It, c, N, qual, gsc, f, cd, e1, e2, e3, e4⟩ := hu
  exact ⟨H3, s3, a, g, n, It, c, N, qual, gsc, f, cd, e1, e2, Nat.le_trans z2 e3, e4⟩
def tGinM (C : Addr) (m : Str) (sp : SpGen) (ta : TE) (t : TA) : TCall := fun σ H cont => ta σ H fun x H1 => ∃ a dx fs, x = .ref a ∧ H1 a = some (.ins C dx fs) ∧ fs.lookup m = none ∧ t σ H1 fun vs H2 => sp (x :: vs) H2 (fun n It H3 => cont n It H3)
/-- o.m(e, ..) -/
theorem gin_meth {C : Addr} {m : Str} {pl : Sem Bool} (he : PE X o ta) (cl : Cls X.K C) (hm : Meth X.K C m (He.fAd X.K d.at_)) (F : FunD X.K d.name d.qual d.params d.body d.scope dvs kws (He.fAd X.K d.at_) fd) (S : GScope N ps d.scope) (hc : NoCell d.scope) (hN : ps.length ≤ N.length)
    (G : GOk X.prog X.w X.K X.mg X.base k N ps d sp) (hca : X.calm = true) (hdp : X.A.depth < recursionLimit) (hb : Binds X.K fd ps []) (ha : PA X (e :: es) t)
    (hst : starEach (e :: es) X.env = (false, eval e X.env) :: starEach es X.env := by rfl) (hpl : (backTo pos (starEach es X.env)).any (·.1) = false := by rfl)
    (ht : eval (.Call (.Attribute o m apos) (e :: es) [] pos) X.env = (do
      let ov ← eval o X.env
      standAt apos.atName
      let (f, first) ← holding [ov] (getMethod ov m pl)
      callWith pos f first (backTo pos (starEach (e :: es) X.env)) (backToKw pos (keywordEach [] X.env))) := by rfl) :
    GIn X k (.Call (.Attribute o m apos) (e :: es) [] pos) (tGinM C m sp ta t) := by
  refine ⟨fun pins s σ H cont I h => ?_⟩
  refine PySem.W.methodCall_KW (pl := pl) (gszE (Nat.le_refl _) (thn (he.run pins s σ H _ I h) fun u s1 ⟨x, H1, I1, rx, a, dx, fs, ex, ea, l, q⟩ z1 => ?_)) ht
  subst ex
  obtain rfl : u = Value.ref a := rx
  refine getmeth_ok I1 ea cl hm l ?_
  refine PySem.W.callWith_K (first := [.ref a]) (h₀ := X.base) I.ok.mod.kin hm.kp (gszE z1 (thn (ha.run pos pins s1 σ H1 _ I1 q) fun us s2 ⟨vs, H2, I2, r, q2⟩ z2 => ⟨I2.kIn, ?_⟩)) hst hpl
  have r2 : Vals (.ref a :: vs) (.ref a :: us) := .cons rfl r
  have hl := G.len _ _ _ q2
  have hbt := hb s2 (.ref a :: us) I2.kIn (by rw [List.append_nil, ← r2.length]; exact hl)
  rw [List.append_nil] at hbt
  refine wpAny_mono (run_gen (args := ⟨.ref a :: us, []⟩) F S hc hN G hca hdp I2 r2 hbt q2) (fun u s' hu => ?_) fun _ _ z => z
  obtain ⟨H3, s3, a, g, n, It, c, N, qual, gsc, f, cd, e1, e2, e3, e4⟩ := hu
  exact ⟨H3, s3, a, g, n, It, c, N, qual, gsc, f, cd, e1, e2, Nat.le_trans z2 e3, e4⟩
end
end K91
set_option Elab.async false
set_option linter.all false
set_option maxRecDepth 100000
set_option maxHeartbeats 1000000
/-! The text's facts by names; how each def binds. Printed by gen_b.py. -/
namespace K91
open PySem PySem.Spec PyProof.Rows L2 GenW
noncomputable def fdOf (K : PySem.W.Frag) (d : He.DefD) : FuncData := Classical.epsilon fun fd => FunD K d.name d.qual d.params d.body d.scope (d.dvs K) (d.kws K) (He.fAd K d.at_) fd
structure Tx (K : PySem.W.Frag) (mg : Str → Option Value) : Prop where
  X : ∃ h : Heap, K.In h ∧ h.Ns mainGlobals mg
  says : SaysX K
section
variable {K : PySem.W.Frag} {mg : Str → Option Value}
theorem Tx.d (T : Tx K mg) : He.SaysD fa fn K := congrArg Prod.snd T.says
theorem Tx.f (T : Tx K mg) (i : Nat) {d : He.DefD} (h : fn[i]? = some d := by rfl) : FunD K d.name d.qual d.params d.body d.scope (d.dvs K) (d.kws K) (He.fAd K d.at_) (fdOf K d) := Classical.epsilon_spec (T.d.def_ i h)
theorem Tx.g (T : Tx K mg) (i : Nat) {x : Str} (h : fa[i]? = some (.glo x) := by rfl) : mg x = some (.ref (He.ga K x)) := let ⟨_, X, G⟩ := T.X; He.glo_ok X G (T.d.fact i h)
theorem Tx.fr (T : Tx K mg) (i : Nat) {x : Str} (h : fa[i]? = some (.free x) := by rfl) : mg x = none := let ⟨_, X, G⟩ := T.X; He.free_ok X G (T.d.fact i h)
theorem Tx.most (T : Tx K mg) : ∃ t, mg "MOST_VALUES" = some (.int 12 t) := let ⟨_, X, G⟩ := T.X; He.int_ok X G (T.d.fact 50 (f := .int "MOST_VALUES" 12) rfl)
theorem Tx.cls (T : Tx K mg) : Cls K (He.ga K "Counts") := He.cls_ok (T.d.fact 52 (f := .cls "Counts") rfl)
theorem Tx.noat (T : Tx K mg) (i : Nat) {f : Str} (h : fa[i]? = some (.noat "Counts" f) := by rfl) : NoAttr K (He.ga K "Counts") f := He.noat_ok (T.d.fact i h)
theorem Tx.meth (T : Tx K mg) (i : Nat) {m : Str} (h : fa[i]? = some (.meth "Counts" m) := by rfl) : Meth K (He.ga K "Counts") m (He.ma K (He.ga K "Counts") m) := He.meth_ok (T.d.fact i h)
theorem Tx.mkr (T : Tx K mg) : Mk K (He.ga K "Counts") (He.ma K (He.ga K "Counts") "__init__") := He.mkr_ok (T.d.fact 60 (f := .mkr "Counts") rfl)
theorem Tx.emp (T : Tx K mg) (i : Nat) {e : (Str × Option Str) × Str} (h : ems[i]? = some e := by rfl) : emptyAt K (kwAt e.1 e.2 K) = true := by
  have z : ems.all (fun e => emptyAt K (kwAt e.1 e.2 K)) = true := congrArg Prod.fst T.says
  exact List.all_eq_true.mp z e (List.mem_of_getElem? h)
theorem bIsInt (T : Tx K mg) : Binds K (fdOf K dIsInt) ["thing"] [] := FunD.bindsN (T.f 0 (d := dIsInt)) fun _ _ _ _ _ _ us hl => match us, hl with | [_], _ => rfl
theorem bIsBtw (T : Tx K mg) : Binds K (fdOf K dIsBtw) ["thing", "low", "high"] [] := FunD.bindsN (T.f 1 (d := dIsBtw)) fun _ _ _ _ _ _ us hl => match us, hl with | [_, _, _], _ => rfl
theorem kIsLess (T : Tx K mg) : KBn K (fdOf K dIsLess) ["a", "b", "converted"] 2 ["converted"] (fun us ws => us ++ ws) (fun vs zs => vs ++ zs) := by
  obtain ⟨_, h⟩ := FunD.kbinds0 (ps := ["a", "b", "converted"]) (T.f 2 (d := dIsLess)) 2 ["converted"] [] (fun us _ ws => us ++ ws) (fun z => by cases z) (fun _ z => nomatch z) (fun r _ s => Vals.append r s) fun D _ _ _ _ _ us mv ws h1 h2 h3 => match us, mv, ws, h1, h2, h3 with | [_, _], [], [_], _, _, _ => rfl
  exact h
theorem kFaults (T : Tx K mg) : KBn K (fdOf K dFaults) ["row", "converted"] 1 ["converted"] (fun us ws => us ++ ws) (fun vs zs => vs ++ zs) := by
  obtain ⟨_, h⟩ := FunD.kbinds0 (ps := ["row", "converted"]) (T.f 3 (d := dFaults)) 1 ["converted"] [] (fun us _ ws => us ++ ws) (fun z => by cases z) (fun _ z => nomatch z) (fun r _ s => Vals.append r s) fun D _ _ _ _ _ us mv ws h1 h2 h3 => match us, mv, ws, h1, h2, h3 with | [_], [], [_], _, _, _ => rfl
  exact h
theorem bNeedS (T : Tx K mg) : Binds K (fdOf K dNeedS) ["row", "converted"] [] := FunD.bindsN (T.f 4 (d := dNeedS)) fun _ _ _ _ _ _ us hl => match us, hl with | [_, _], _ => rfl
theorem kIsSorted (T : Tx K mg) : KBn K (fdOf K dIsSorted) ["row", "converted"] 1 ["converted"] (fun us ws => us ++ ws) (fun vs zs => vs ++ zs) := by
  obtain ⟨_, h⟩ := FunD.kbinds0 (ps := ["row", "converted"]) (T.f 5 (d := dIsSorted)) 1 ["converted"] [] (fun us _ ws => us ++ ws) (fun z => by cases z) (fun _ z => nomatch z) (fun r _ s => Vals.append r s) fun D _ _ _ _ _ us mv ws h1 h2 h3 => match us, mv, ws, h1, h2, h3 with | [_], [], [_], _, _, _ => rfl
  exact h
theorem bMayNext (T : Tx K mg) : Binds K (fdOf K dMayNext) ["left", "converted"] [] := FunD.bindsN (T.f 6 (d := dMayNext)) fun _ _ _ _ _ _ us hl => match us, hl with | [_, _], _ => rfl
theorem kFirstL (T : Tx K mg) : KBn K (fdOf K dFirstL) ["values", "converted"] 1 ["converted"] (fun us ws => us ++ ws) (fun vs zs => vs ++ zs) := by
  obtain ⟨_, h⟩ := FunD.kbinds0 (ps := ["values", "converted"]) (T.f 7 (d := dFirstL)) 1 ["converted"] [] (fun us _ ws => us ++ ws) (fun z => by cases z) (fun _ z => nomatch z) (fun r _ s => Vals.append r s) fun D _ _ _ _ _ us mv ws h1 h2 h3 => match us, mv, ws, h1, h2, h3 with | [_], [], [_], _, _, _ => rfl
  exact h
theorem kIsOnly (T : Tx K mg) : KBn K (fdOf K dIsOnly) ["row", "converted"] 1 ["converted"] (fun us ws => us ++ ws) (fun vs zs => vs ++ zs) := by
  obtain ⟨_, h⟩ := FunD.kbinds0 (ps := ["row", "converted"]) (T.f 8 (d := dIsOnly)) 1 ["converted"] [] (fun us _ ws => us ++ ws) (fun z => by cases z) (fun _ z => nomatch z) (fun r _ s => Vals.append r s) fun D _ _ _ _ _ us mv ws h1 h2 h3 => match us, mv, ws, h1, h2, h3 with | [_], [], [_], _, _, _ => rfl
  exact h
theorem bCInit (T : Tx K mg) : Binds K (fdOf K dCInit) ["self", "values", "converted"] [] := FunD.bindsN (T.f 9 (d := dCInit)) fun _ _ _ _ _ _ us hl => match us, hl with | [_, _, _], _ => rfl
theorem bCBelow (T : Tx K mg) : Binds K (fdOf K dCBelow) ["self", "value", "converted"] [] := FunD.bindsN (T.f 10 (d := dCBelow)) fun _ _ _ _ _ _ us hl => match us, hl with | [_, _, _], _ => rfl
theorem bCNext (T : Tx K mg) : Binds K (fdOf K dCNext) ["self", "first"] [] := FunD.bindsN (T.f 11 (d := dCNext)) fun _ _ _ _ _ _ us hl => match us, hl with | [_, _], _ => rfl
theorem bCFrom (T : Tx K mg) : Binds K (fdOf K dCFrom) ["self", "first"] [] := FunD.bindsN (T.f 12 (d := dCFrom)) fun _ _ _ _ _ _ us hl => match us, hl with | [_, _], _ => rfl
theorem kCountL (T : Tx K mg) : KBn K (fdOf K dCountL) ["values", "converted"] 1 ["converted"] (fun us ws => us ++ ws) (fun vs zs => vs ++ zs) := by
  obtain ⟨_, h⟩ := FunD.kbinds0 (ps := ["values", "converted"]) (T.f 13 (d := dCountL)) 1 ["converted"] [] (fun us _ ws => us ++ ws) (fun z => by cases z) (fun _ z => nomatch z) (fun r _ s => Vals.append r s) fun D _ _ _ _ _ us mv ws h1 h2 h3 => match us, mv, ws, h1, h2, h3 with | [_], [], [_], _, _, _ => rfl
  exact h
theorem kLists (T : Tx K mg) : KBn K (fdOf K dLists) ["values", "limit", "converted"] 1 ["limit", "converted"] (fun us ws => us ++ ws) (fun vs zs => vs ++ zs) := by
  obtain ⟨_, h⟩ := FunD.kbinds0 (ps := ["values", "limit", "converted"]) (T.f 14 (d := dLists)) 1 ["limit", "converted"] [] (fun us _ ws => us ++ ws) (fun z => by cases z) (fun _ z => nomatch z) (fun r _ s => Vals.append r s) fun D _ _ _ _ _ us mv ws h1 h2 h3 => match us, mv, ws, h1, h2, h3 with | [_], [], [_, _], _, _, _ => rfl
  exact h
theorem kListAt (T : Tx K mg) : KBn K (fdOf K dListAt) ["values", "index", "converted"] 2 ["converted"] (fun us ws => us ++ ws) (fun vs zs => vs ++ zs) := by
  obtain ⟨_, h⟩ := FunD.kbinds0 (ps := ["values", "index", "converted"]) (T.f 15 (d := dListAt)) 2 ["converted"] [] (fun us _ ws => us ++ ws) (fun z => by cases z) (fun _ z => nomatch z) (fun r _ s => Vals.append r s) fun D _ _ _ _ _ us mv ws h1 h2 h3 => match us, mv, ws, h1, h2, h3 with | [_, _], [], [_], _, _, _ => rfl
  exact h
theorem kIndexOf (T : Tx K mg) : KBn K (fdOf K dIndexOf) ["row", "converted"] 1 ["converted"] (fun us ws => us ++ ws) (fun vs zs => vs ++ zs) := by
  obtain ⟨_, h⟩ := FunD.kbinds0 (ps := ["row", "converted"]) (T.f 16 (d := dIndexOf)) 1 ["converted"] [] (fun us _ ws => us ++ ws) (fun z => by cases z) (fun _ z => nomatch z) (fun r _ s => Vals.append r s) fun D _ _ _ _ _ us mv ws h1 h2 h3 => match us, mv, ws, h1, h2, h3 with | [_], [], [_], _, _, _ => rfl
  exact h
theorem kPlaces (T : Tx K mg) : KBn K (fdOf K dPlaces) ["row", "value", "converted"] 2 ["converted"] (fun us ws => us ++ ws) (fun vs zs => vs ++ zs) := by
  obtain ⟨_, h⟩ := FunD.kbinds0 (ps := ["row", "value", "converted"]) (T.f 17 (d := dPlaces)) 2 ["converted"] [] (fun us _ ws => us ++ ws) (fun z => by cases z) (fun _ z => nomatch z) (fun r _ s => Vals.append r s) fun D _ _ _ _ _ us mv ws h1 h2 h3 => match us, mv, ws, h1, h2, h3 with | [_, _], [], [_], _, _, _ => rfl
  exact h
theorem bNeedV (T : Tx K mg) : Binds K (fdOf K dNeedV) ["row", "other"] [] := FunD.bindsN (T.f 18 (d := dNeedV)) fun _ _ _ _ _ _ us hl => match us, hl with | [_, _], _ => rfl
theorem kSteps (T : Tx K mg) : KBn K (fdOf K dSteps) ["row", "other", "converted"] 2 ["converted"] (fun us ws => us ++ ws) (fun vs zs => vs ++ zs) := by
  obtain ⟨_, h⟩ := FunD.kbinds0 (ps := ["row", "other", "converted"]) (T.f 19 (d := dSteps)) 2 ["converted"] [] (fun us _ ws => us ++ ws) (fun z => by cases z) (fun _ z => nomatch z) (fun r _ s => Vals.append r s) fun D _ _ _ _ _ us mv ws h1 h2 h3 => match us, mv, ws, h1, h2, h3 with | [_, _], [], [_], _, _, _ => rfl
  exact h
theorem kAfter (T : Tx K mg) : KBn K (fdOf K dAfter) ["row", "steps", "converted"] 2 ["converted"] (fun us ws => us ++ ws) (fun vs zs => vs ++ zs) := by
  obtain ⟨_, h⟩ := FunD.kbinds0 (ps := ["row", "steps", "converted"]) (T.f 20 (d := dAfter)) 2 ["converted"] [] (fun us _ ws => us ++ ws) (fun z => by cases z) (fun _ z => nomatch z) (fun r _ s => Vals.append r s) fun D _ _ _ _ _ us mv ws h1 h2 h3 => match us, mv, ws, h1, h2, h3 with | [_, _], [], [_], _, _, _ => rfl
  exact h
theorem bLPen (T : Tx K mg) : Binds K (fdOf K dLPen) ["_law_script"] [] := FunD.bindsN (T.f 21 (d := dLPen)) fun _ _ _ _ _ _ us hl => match us, hl with | [_], _ => rfl
theorem bLDraw (T : Tx K mg) : Binds K (fdOf K dLDraw) ["_law_pen_here", "_law_many"] [] := FunD.bindsN (T.f 22 (d := dLDraw)) fun _ _ _ _ _ _ us hl => match us, hl with | [_, _], _ => rfl
theorem bLNum (T : Tx K mg) : Binds K (fdOf K dLNum) ["_law_pen_here", "_law_high"] [] := FunD.bindsN (T.f 23 (d := dLNum)) fun _ _ _ _ _ _ us hl => match us, hl with | [_, _], _ => rfl
theorem bLNames (T : Tx K mg) : Binds K (fdOf K dLNames) ["_law_pen_here", "_law_many"] [] := FunD.bindsN (T.f 24 (d := dLNames)) fun _ _ _ _ _ _ us hl => match us, hl with | [_, _], _ => rfl
theorem bLVal (T : Tx K mg) : Binds K (fdOf K dLVal) ["_law_pen_here", "_law_names_here", "_law_high", "_law_way"] [] := FunD.bindsN (T.f 25 (d := dLVal)) fun _ _ _ _ _ _ us hl => match us, hl with | [_, _, _, _], _ => rfl
theorem bLBag (T : Tx K mg) : Binds K (fdOf K dLBag) ["_law_pen_here", "_law_most"] [] := FunD.bindsN (T.f 26 (d := dLBag)) fun _ _ _ _ _ _ us hl => match us, hl with | [_, _], _ => rfl
theorem bLMarks (T : Tx K mg) : Binds K (fdOf K dLMarks) ["_law_pen_here", "_law_bag_here"] [] := FunD.bindsN (T.f 27 (d := dLMarks)) fun _ _ _ _ _ _ us hl => match us, hl with | [_, _], _ => rfl
theorem bLLower (T : Tx K mg) : Binds K (fdOf K dLLower) ["_law_one", "_law_mate", "_law_marks_here"] [] := FunD.bindsN (T.f 28 (d := dLLower)) fun _ _ _ _ _ _ us hl => match us, hl with | [_, _, _], _ => rfl
theorem bLFault (T : Tx K mg) : Binds K (fdOf K dLFault) ["_law_line", "_law_marks_here"] [] := FunD.bindsN (T.f 29 (d := dLFault)) fun _ _ _ _ _ _ us hl => match us, hl with | [_, _], _ => rfl
theorem bLInv (T : Tx K mg) : Binds K (fdOf K dLInv) ["_law_bag_here", "_law_marks_here"] [] := FunD.bindsN (T.f 30 (d := dLInv)) fun _ _ _ _ _ _ us hl => match us, hl with | [_, _], _ => rfl
theorem bLPat (T : Tx K mg) : Binds K (fdOf K dLPat) ["_law_bag_here", "_law_marks_here"] [] := FunD.bindsN (T.f 31 (d := dLPat)) fun _ _ _ _ _ _ us hl => match us, hl with | [_, _], _ => rfl
theorem bLSortable (T : Tx K mg) : Binds K (fdOf K dLSortable) ["_law_pen_here", "_law_most"] [] := FunD.bindsN (T.f 32 (d := dLSortable)) fun _ _ _ _ _ _ us hl => match us, hl with | [_, _], _ => rfl
theorem bLOrders (T : Tx K mg) : Binds K (fdOf K dLOrders) ["_law_items"] [] := FunD.bindsN (T.f 33 (d := dLOrders)) fun _ _ _ _ _ _ us hl => match us, hl with | [_], _ => rfl
theorem bLAll (T : Tx K mg) : Binds K (fdOf K dLAll) ["_law_bag_here", "_law_marks_here"] [] := FunD.bindsN (T.f 34 (d := dLAll)) fun _ _ _ _ _ _ us hl => match us, hl with | [_, _], _ => rfl
theorem bLNumR (T : Tx K mg) : Binds K (fdOf K dLNumR) ["_law_bag_here", "_law_marks_here", "_law_due"] [] := FunD.bindsN (T.f 35 (d := dLNumR)) fun _ _ _ _ _ _ us hl => match us, hl with | [_, _, _], _ => rfl
theorem bLPlaces (T : Tx K mg) : Binds K (fdOf K dLPlaces) ["_law_bag_here", "_law_marks_here", "_law_due", "_law_one"] [] := FunD.bindsN (T.f 36 (d := dLPlaces)) fun _ _ _ _ _ _ us hl => match us, hl with | [_, _, _, _], _ => rfl
theorem bLaw (T : Tx K mg) : Binds K (fdOf K dLaw) ["_law_script"] [] := FunD.bindsN (T.f 37 (d := dLaw)) fun _ _ _ _ _ _ us hl => match us, hl with | [_], _ => rfl
end
end K91
set_option Elab.async false
set_option linter.all false
set_option maxRecDepth 100000
set_option maxHeartbeats 1000000
/-! The values (kind, own, measure), lines of them, and the operators on them. -/
namespace K91
open PySem PySem.Spec PyProof.Rows L2

structure VV where
  k : Str
  o : Int
  m : Int
  deriving DecidableEq
def encV (x : VV) : PyData := .tuple [.str x.k, .int x.o, .int x.m]
def encL (l : List VV) : PyData := .tuple (l.map encV)
/-- v is the value x -/
def Vat (H : Hp) (v : V) (x : VV) : Prop := ∃ a, v = .ref a ∧ H a = some (.tup [.str x.k, .int x.o, .int x.m]) ∧ PyData.strOk x.k = true
abbrev Vs (H : Hp) : List V → List VV → Prop := Paired (Vat H)
/-- v is a tuple of values -/
def Lat (H : Hp) (v : V) (l : List VV) : Prop := ∃ a vs, v = .ref a ∧ H a = some (.tup vs) ∧ Vs H vs l
/-- a list or a tuple to be read -/
def SqB (K : PySem.W.Frag) (H : Hp) (a : Addr) (xs : List V) : Prop := SqL K H a xs ∨ SqT K H a xs
/-- v is a list or a tuple of values -/
def RowR (K : PySem.W.Frag) (H : Hp) (v : V) (l : List VV) : Prop := ∃ a vs, v = .ref a ∧ SqB K H a vs ∧ Vs H vs l
section
variable {K : PySem.W.Frag} {H H' : Hp} {v : V} {x y : VV} {vs : List V} {l l' : List VV} {a : Addr}
/-- the tuples stand -/
def Tups (H H' : Hp) : Prop := ∀ b t, H b = some (.tup t) → H' b = some (.tup t)
theorem Tups.refl : Tups H H := fun _ _ h => h
theorem Tups.trans {H'' : Hp} (a : Tups H H') (b : Tups H' H'') : Tups H H'' := fun c t h => b c t (a c t h)
theorem Tups.of (h : Same H H') : Tups H H' := fun b t e => h b _ e
theorem Tups.upd {o : HO} (h : ∀ t, H a ≠ some (.tup t)) : Tups H (upd H a o) := fun b t e => by
  rw [upd_ne]
  · exact e
  · intro z; subst z; exact h t e
theorem Tups.new {o : HO} (h : H a = none) : Tups H (L2.upd H a o) := Tups.upd fun t e => by rw [h] at e; cases e
theorem Same.new {o : HO} (h : H a = none) : Same H (L2.upd H a o) := fun b u e => by rw [upd_ne (ne_of_none e h)]; exact e
theorem Vat.tups (h : Vat H v x) (t : Tups H H') : Vat H' v x := let ⟨a, e, q, k⟩ := h; ⟨a, e, t a _ q, k⟩
theorem Vat.ok (h : Vat H v x) : PyData.strOk x.k = true := let ⟨_, _, _, k⟩ := h; k
theorem Vs.ok : ∀ {vs : List V} {l : List VV}, Vs H vs l → ∀ x ∈ l, PyData.strOk x.k = true
  | _, _, .nil, _, h => nomatch h
  | _, _, .cons a r, x, h => by
    rcases List.mem_cons.mp h with e | e
    · rw [e]; exact a.ok
    · exact Vs.ok r x e
theorem Vs.tups (t : Tups H H') : ∀ {vs : List V} {l : List VV}, Vs H vs l → Vs H' vs l
  | _, _, .nil => .nil
  | _, _, .cons a r => .cons (a.tups t) (Vs.tups t r)
theorem Lat.tups (h : Lat H v l) (t : Tups H H') : Lat H' v l := let ⟨a, vs, e, q, r⟩ := h; ⟨a, vs, e, t a _ q, r.tups t⟩
theorem SqB.same (h : SqB K H a vs) (s : Same H H') : SqB K H' a vs := by
  rcases h with h | h
  · exact .inl (s.seq h)
  · refine .inr ?_
    rcases h with (h | ⟨o, h⟩) | h
    · exact .inl (.inl (s _ _ h))
    · exact .inl (.inr ⟨o, s _ _ h⟩)
    · exact .inr h
theorem RowR.same (h : RowR K H v l) (s : Same H H') : RowR K H' v l := let ⟨a, vs, e, q, r⟩ := h; ⟨a, vs, e, q.same s, r.tups (Tups.of s)⟩
theorem Lat.row (h : Lat H v l) : RowR K H v l := let ⟨a, vs, e, q, r⟩ := h; ⟨a, vs, e, .inr (.inl (.inl q)), r⟩
theorem Vat.same (h : Vat H v x) (s : Same H H') : Vat H' v x := h.tups (Tups.of s)
theorem Lat.same (h : Lat H v l) (s : Same H H') : Lat H' v l := h.tups (Tups.of s)
theorem Vs.same {vs : List V} (h : Vs H vs l) (s : Same H H') : Vs H' vs l := Vs.tups (Tups.of s) h
theorem Pr.get {α β : Type} {F : α → β → Prop} : ∀ {xs : List α} {us : List β} {i : Nat} {x : α}, Paired F xs us → xs[i]? = some x → ∃ u, us[i]? = some u ∧ F x u
  | _, _, _, _, .nil, e => by simp at e
  | _, _, 0, _, .cons r _, e => by simp at e; subst e; exact ⟨_, rfl, r⟩
  | _, _, i + 1, x, .cons _ t, e => by
    obtain ⟨u, h1, h2⟩ := Pr.get (i := i) (x := x) t (by simpa using e)
    exact ⟨u, by simpa using h1, h2⟩
theorem Pr.get2 {α β : Type} {F : α → β → Prop} : ∀ {xs : List α} {us : List β} {i : Nat} {u : β}, Paired F xs us → us[i]? = some u → ∃ x, xs[i]? = some x ∧ F x u
  | _, _, _, _, .nil, e => by simp at e
  | _, _, 0, _, .cons r _, e => by simp at e; subst e; exact ⟨_, rfl, r⟩
  | _, _, i + 1, x, .cons _ t, e => by
    obtain ⟨u, h1, h2⟩ := Pr.get2 (i := i) (u := x) t (by simpa using e)
    exact ⟨u, by simpa using h1, h2⟩
theorem Pr.append {α β : Type} {F : α → β → Prop} : ∀ {xs ys : List α} {us ws : List β}, Paired F xs us → Paired F ys ws → Paired F (xs ++ ys) (us ++ ws)
  | _, _, _, _, .nil, s => s
  | _, _, _, _, .cons r t, s => .cons r (Pr.append t s)
/-- one value is one -/
theorem Vat.inj (h : Vat H v x) (h' : Vat H v y) : x = y := by
  obtain ⟨a, rfl, e, _⟩ := h
  obtain ⟨b, e1, e2, _⟩ := h'
  cases e1
  rw [e] at e2
  simp at e2
  obtain ⟨e1, e2, e3⟩ := e2
  cases x; cases y
  simp_all
theorem Vat.dp (h : Vat H v x) : Dp K H v (encV x) := by
  obtain ⟨a, rfl, e, _⟩ := h
  exact .tup (.inl (.inl e)) (.cons (.str _) (.cons (.int _) (.cons (.int _) .nil)))
theorem Vs.dp : ∀ {vs : List V} {l : List VV}, Vs H vs l → DpAll K H vs (l.map encV)
  | _, _, .nil => .nil
  | _, _, .cons a r => .cons a.dp (Vs.dp r)
theorem Lat.dp (h : Lat H v l) : Dp K H v (encL l) := by
  obtain ⟨a, vs, rfl, e, r⟩ := h
  exact .tup (.inl (.inl e)) r.dp
/-! ### equality -/
theorem encV_eqv (x y : VV) : PyData.eqv (encV x) (encV y) = decide (x = y) := by
  obtain ⟨a, b, c⟩ := x
  obtain ⟨a', b', c'⟩ := y
  have e : PyData.eqv (encV ⟨a, b, c⟩) (encV ⟨a', b', c'⟩) = ((a == a') && ((b == b') && ((c == c') && true))) := by simp only [encV, PyData.eqv, PyData.eqvAll]
  rw [e]
  by_cases h1 : a = a' <;> by_cases h2 : b = b' <;> by_cases h3 : c = c' <;> simp [h1, h2, h3]
theorem encVs_eqv : ∀ l l' : List VV, PyData.eqvAll (l.map encV) (l'.map encV) = decide (l = l')
  | [], [] => by simp [PyData.eqvAll]
  | [], _ :: _ => by simp [PyData.eqvAll]
  | _ :: _, [] => by simp [PyData.eqvAll]
  | x :: l, y :: l' => by
    simp only [List.map_cons, PyData.eqvAll, encV_eqv, encVs_eqv l l']
    by_cases h1 : x = y <;> by_cases h2 : l = l' <;> simp [h1, h2]
theorem encL_eqv (l l' : List VV) : PyData.eqv (encL l) (encL l') = decide (l = l') := by
  show PyData.eqvAll _ _ = _
  exact encVs_eqv l l'
theorem encLs_eqv : ∀ l l' : List (List VV), PyData.eqvAll (l.map encL) (l'.map encL) = decide (l = l')
  | [], [] => by simp [PyData.eqvAll]
  | [], _ :: _ => by simp [PyData.eqvAll]
  | _ :: _, [] => by simp [PyData.eqvAll]
  | x :: l, y :: l' => by
    simp only [List.map_cons, PyData.eqvAll, encL_eqv, encLs_eqv l l']
    by_cases h1 : x = y <;> by_cases h2 : l = l' <;> simp [h1, h2]
theorem any_encV (x : VV) (l : List VV) : ((l.map encV).any fun z => PyData.eqv z (encV x)) = decide (x ∈ l) := by
  rw [List.any_map]
  induction l with
  | nil => simp
  | cons y r ih =>
    simp only [List.any_cons, ih, Function.comp, encV_eqv]
    by_cases h1 : y = x
    · simp [h1]
    · have h2 : ¬ x = y := fun e => h1 e.symm
      simp [h1, h2]
/-! ### shapes -/
theorem encV_lay {x : VV} (h : PyData.strOk x.k = true) : (encV x).canLay0 = true := by simp [encV, PyData.canLay0, PyData.canLayAll0, h]
theorem encV_depth (x : VV) : (encV x).depth = 1 := by simp [encV, PyData.depth, PyData.depthAll]
theorem encVs_lay : ∀ {l : List VV}, (∀ x ∈ l, PyData.strOk x.k = true) → PyData.canLayAll0 (l.map encV) = true
  | [], _ => by simp [PyData.canLayAll0]
  | x :: l, h => by simp [PyData.canLayAll0, encV_lay (h x List.mem_cons_self), encVs_lay fun y hy => h y (List.mem_cons_of_mem _ hy)]
theorem encVs_depth : ∀ l : List VV, PyData.depthAll (l.map encV) ≤ 1
  | [] => by simp [PyData.depthAll]
  | x :: l => by
    have h1 := encVs_depth l
    have h2 := encV_depth x
    simp only [List.map_cons, PyData.depthAll]
    omega
theorem encL_lay {l : List VV} (h : ∀ x ∈ l, PyData.strOk x.k = true) : (encL l).canLay0 = true := by simp only [encL, PyData.canLay0]; exact encVs_lay h
theorem encL_depth (l : List VV) : (encL l).depth ≤ 2 := by
  have := encVs_depth l
  simp only [encL, PyData.depth]
  omega
theorem encLs_lay : ∀ {l : List (List VV)}, (∀ r ∈ l, ∀ x ∈ r, PyData.strOk x.k = true) → PyData.canLayAll0 (l.map encL) = true
  | [], _ => by simp [PyData.canLayAll0]
  | x :: l, h => by simp [PyData.canLayAll0, encL_lay (h x List.mem_cons_self), encLs_lay fun y hy => h y (List.mem_cons_of_mem _ hy)]
theorem encLs_depth : ∀ l : List (List VV), PyData.depthAll (l.map encL) ≤ 2
  | [] => by simp [PyData.depthAll]
  | x :: l => by
    have h1 := encLs_depth l
    have h2 := encL_depth x
    simp only [List.map_cons, PyData.depthAll]
    omega
theorem shaped_of {d : PyData} (h1 : d.canLay0 = true) (h2 : d.depth ≤ 64) : SeqAt.shaped d = true := by
  show (d.canLay0 && decide (d.depth ≤ 64)) = true
  rw [Bool.and_eq_true]
  exact ⟨h1, decide_eq_true h2⟩
theorem encV_shaped (h : PyData.strOk x.k = true) : SeqAt.shaped (encV x) = true := shaped_of (encV_lay h) (by rw [encV_depth]; decide)
theorem encL_shaped (h : ∀ x ∈ l, PyData.strOk x.k = true) : SeqAt.shaped (encL l) = true := shaped_of (encL_lay h) (by have := encL_depth l; omega)
theorem listV_shaped (h : ∀ x ∈ l, PyData.strOk x.k = true) : SeqAt.shaped (.list (l.map encV)) = true := shaped_of (by simp only [PyData.canLay0]; exact encVs_lay h) (by have := encVs_depth l; simp only [PyData.depth]; omega)
theorem listL_shaped {l : List (List VV)} (h : ∀ r ∈ l, ∀ x ∈ r, PyData.strOk x.k = true) : SeqAt.shaped (.list (l.map encL)) = true := shaped_of (by simp only [PyData.canLay0]; exact encLs_lay h) (by have := encLs_depth l; simp only [PyData.depth]; omega)
end
/-! ### rules -/
section
variable {X : Cx}
def rInV (K : PySem.W.Frag) (b : Bool) : R2 := fun x y H Q => ∃ a cs, Vat H x a ∧ RowR K H y cs ∧ Q (.bl (xor b (decide (a ∈ cs)))) H
theorem op_inV (hu : X.A.units + 65 < cLine) : OpR X (compareOp .In) (rInV X.K false) := by
  rintro pins s σ H x y v u Q I rx ry ⟨a, cs, ha, ⟨p, vs, rfl, hs, hv⟩, q⟩
  obtain ⟨as, r1⟩ := Dp.reads I _ x v (Vat.dp ha) rx
  have hr : X.A.units + 1 + min (PyData.depthAll (cs.map encV)) (encV a).depth < cLine := by
    have := encV_depth a
    omega
  have fin : EP X pins σ Q (.bool ((cs.map encV).any fun z => PyData.eqv z (encV a))) s := by
    rw [any_encV]
    exact ⟨.bl _, H, I, rfl, by simpa using q⟩
  rcases hs with hs | hs
  · obtain ⟨bs, r2⟩ := Dp.reads I (.list (cs.map encV)) (.ref p) u (.lst hs (Vs.dp hv)) ry
    exact SeqAt.in_list_reads r2 r1 (encVs_lay (Vs.ok hv)) (encV_lay ha.ok) hr fin
  · obtain ⟨bs, r2⟩ := Dp.reads I (.tuple (cs.map encV)) (.ref p) u (.tup hs (Vs.dp hv)) ry
    exact SeqAt.in_tuple_reads r2 r1 (encVs_lay (Vs.ok hv)) (encV_lay ha.ok) hr fin
theorem op_notInV (hu : X.A.units + 65 < cLine) : OpR X (compareOp .NotIn) (rInV X.K true) := by
  rintro pins s σ H x y v u Q I rx ry ⟨a, cs, ha, ⟨p, vs, rfl, hs, hv⟩, q⟩
  obtain ⟨as, r1⟩ := Dp.reads I _ x v (Vat.dp ha) rx
  have hr : X.A.units + 1 + min (PyData.depthAll (cs.map encV)) (encV a).depth < cLine := by
    have := encV_depth a
    omega
  have fin : EP X pins σ Q (.bool (!(cs.map encV).any fun z => PyData.eqv z (encV a))) s := by
    rw [any_encV]
    exact ⟨.bl _, H, I, rfl, by simpa using q⟩
  rcases hs with hs | hs
  · obtain ⟨bs, r2⟩ := Dp.reads I (.list (cs.map encV)) (.ref p) u (.lst hs (Vs.dp hv)) ry
    exact SeqAt.notIn_list_reads r2 r1 (encVs_lay (Vs.ok hv)) (encV_lay ha.ok) hr fin
  · obtain ⟨bs, r2⟩ := Dp.reads I (.tuple (cs.map encV)) (.ref p) u (.tup hs (Vs.dp hv)) ry
    exact SeqAt.notIn_tuple_reads r2 r1 (encVs_lay (Vs.ok hv)) (encV_lay ha.ok) hr fin
end
end K91
set_option Elab.async false
set_option linter.all false
set_option maxRecDepth 100000
set_option maxHeartbeats 1000000
/-! The walks: comparing. -/
namespace K91
open PySem PySem.Spec PyProof.Rows L2 GenW

def less (cs : List VV) (a b : VV) : Bool := if a.k = b.k ∧ a ∉ cs ∧ b ∉ cs then decide (a.o < b.o) else decide (a.m < b.m)
def spIsLess (K : PySem.W.Frag) : Sp := fun vs H Q _ => ∃ va vb vc a b cs, vs = [va, vb, vc] ∧ Vat H va a ∧ Vat H vb b ∧ RowR K H vc cs ∧ Q (.bl (less cs a b)) H
section
variable {P : Program} {w : World} {K : PySem.W.Frag} {mg : Str → Option Value} {base : Heap}
abbrev FO (P : Program) (w : World) (K : PySem.W.Frag) (mg : Str → Option Value) (base : Heap) (k : Nat) (d : He.DefD) (ps : List Str) (sp : Sp) : Prop := FnOk P w K mg base CX0 k (He.fAd K d.at_) (fdOf K d) ps sp
theorem room_u {k : Nat} {A : Around} (hr : Room k A) : A.units + 65 < cLine := by have := hr.un; omega
theorem okIsLess (T : Tx K mg) : FO P w K mg base 1 dIsLess ["a", "b", "converted"] (spIsLess K) := by
  refine FunD.ok (T.f 2) cIsLess (fun vs H Q E h => ?_) (fun cdv A outer s H vs Q E hr h => ⟨_, PSs.nox (pss_cons (ps_if (PW.pt (pw_and (pt_cmpR op_eq (pe_ix ix_tup (pv 0) pe_int (fun _ _ => rfl)) (pe_ix ix_tup (pv 1) pe_int (fun _ _ => rfl)) (nomark _)) (pw_and (pt_cmpR (op_notInV (room_u hr)) (pv 0) (pv 2) rfl) (pw_and1 (pt_cmpR (op_notInV (room_u hr)) (pv 1) (pv 2) rfl)))))
      (pss_one (ps_ret (pe_cmpR op_lt (pe_ix ix_tup (pv 0) pe_int (fun _ _ => rfl)) (pe_ix ix_tup (pv 1) pe_int (fun _ _ => rfl)) (nomark _)))) pss_nil)
    (pss_one (ps_ret (pe_cmpR op_lt (pe_ix ix_tup (pv 0) pe_int (fun _ _ => rfl)) (pe_ix ix_tup (pv 1) pe_int (fun _ _ => rfl)) (nomark _))))), ?_⟩)
  · obtain ⟨_, _, _, _, _, _, rfl, _⟩ := h
    rfl
  obtain ⟨va, vb, vc, a, b, cs, rfl, ⟨p, rfl, ha, hka⟩, ⟨q, rfl, hb, hkb⟩, hc, hQ⟩ := h
  have sa : SqT K H p [.str a.k, .int a.o, .int a.m] := .inl (.inl ha)
  have sb : SqT K H q [.str b.k, .int b.o, .int b.m] := .inl (.inl hb)
  -- by the measure
  have two : ∀ (hl : less cs a b = decide (a.m < b.m)), tRet (tOp (rI0 fun i j => V.bl (decide (i < j))) (tOp (rIxT K) (tVar 0) (tC (V.int 2))) (tOp (rIxT K) (tVar 1) (tC (V.int 2)))) { nx := fun _ H' => Q .non H', rt := Q } (L2.start ["a", "b", "converted"] [V.ref p, V.ref q, vc]) H := fun hl =>
    ⟨_, rfl, p, _, 2, _, rfl, rfl, sa, rfl, _, rfl, q, _, 2, _, rfl, rfl, sb, rfl, _, _, rfl, rfl, by show Q (.bl (decide (a.m < b.m))) H; rw [← hl]; exact hQ⟩
  refine ⟨_, rfl, p, _, 0, _, rfl, rfl, sa, rfl, _, rfl, q, _, 0, _, rfl, rfl, sb, rfl, rfl, _, rfl, ite2 (fun h1 => ?_) fun h1 => iteF (two ?_)⟩
  · have hk : a.k = b.k := by simpa using h1
    refine ⟨_, rfl, _, rfl, a, cs, ⟨p, rfl, ha, hka⟩, hc, _, rfl, ite2 (fun h2 => ?_) fun h2 => iteF (two ?_)⟩
    · have h2' : a ∉ cs := by simpa using h2
      refine ⟨_, rfl, _, rfl, b, cs, ⟨q, rfl, hb, hkb⟩, hc, _, rfl, ite2 (fun h3 => ?_) fun h3 => (two ?_)⟩
      · have h3' : b ∉ cs := by simpa using h3
        refine ⟨_, rfl, p, _, 1, _, rfl, rfl, sa, rfl, _, rfl, q, _, 1, _, rfl, rfl, sb, rfl, _, _, rfl, rfl, ?_⟩
        have e : less cs a b = decide (a.o < b.o) := if_pos ⟨hk, h2', h3'⟩
        show Q (.bl (decide (a.o < b.o))) H
        rw [← e]; exact hQ
      · have h3' : b ∈ cs := by simpa using h3
        exact if_neg fun z => z.2.2 h3'
    · have h2' : a ∈ cs := by simpa using h2
      exact if_neg fun z => z.2.1 h2'
  · have hk : a.k ≠ b.k := by simpa using h1
    exact if_neg fun z => hk z.1
end
end K91
namespace K91
open PySem PySem.Spec PyProof.Rows L2 GenW
/-- the same rules, the written part by its name -/
theorem ixT {X : Cx} {K : PySem.W.Frag} (h : X.K = K := by rfl) : IxR X (rIxT K) := h ▸ ix_tup
theorem ixL {X : Cx} {K : PySem.W.Frag} (h : X.K = K := by rfl) : IxR X (rIxL K) := h ▸ ix_list
def rLenB (K : PySem.W.Frag) : List V → Hp → VK → Prop := fun xs H Q => ∃ p ys, xs = [.ref p] ∧ SqB K H p ys ∧ Q (.int ys.length) H
theorem clen {X : Cx} {K : PySem.W.Frag} (h : X.K = K := by rfl) : CallR X (.builtin "len") (rLenB K) := h ▸ call_len_seq
/-- no fault -/
def okl (cs : List VV) (l : List VV) : Prop := l.Pairwise fun a b => less cs b a = false
def spFaults (K : PySem.W.Frag) : SpGen := fun vs H cont => ∃ vr vc l cs, vs = [vr, vc] ∧ Lat H vr l ∧ l.length ≤ 64 ∧ RowR K H vc cs ∧ okl cs l ∧ cont 0 (fun _ _ _ => False) H
section
variable {P : Program} {w : World} {K : PySem.W.Frag} {mg : Str → Option Value} {base : Heap}
theorem okFaults (T : Tx K mg) : GOk P w K mg base 2 ["row", "converted", "i", "j"] ["row", "converted"] dFaults (spFaults K) := by
  refine ⟨fun vs H cont h => ?_, fun vs H cont h => ?_⟩
  · obtain ⟨_, _, _, _, rfl, _⟩ := h
    rfl
  obtain ⟨vr, vc, l, cs, rfl, ⟨p, us, rfl, hp, hu⟩, hl, hc, hok, hcont⟩ := h
  refine ⟨0, _, hcont, fun cd A outer n0 a g Φ ok hr H2 sm => ?_⟩
  have hlen : us.length = l.length := hu.length
  refine ⟨_, gs_cons (gs_for ok (fun s H => pi_range1 rfl (T.fr 35) (pa_cons (pe_callB clen (by rfl) (T.fr 34) PySem.boot_len (pa_cons (pv 0) pa_nil)) pa_nil)) (fun s H => pg_name (i := 2) gFaults.nd rfl (.inl rfl))
      (gs_cons (gs_for ok (fun s H => pi_range2 rfl (T.fr 35) (pa_cons (pe_op op_add (pv 2) pe_int) (pa_cons (pe_callB clen (by rfl) (T.fr 34) PySem.boot_len (pa_cons (pv 0) pa_nil)) pa_nil))) (fun s H => pg_name (i := 3) gFaults.nd rfl (.inl rfl))
        (gs_cons (gs_if (fun s H => pt_val (pe_callN (okIsLess T) (hr.deeper _) rfl (T.g 2) (T.f 2).kp (kIsLess T) pass0 (pa_cons (pe_ix ixT (pv 0) (pv 3) (fun _ _ => rfl)) (pa_cons (pe_ix ixT (pv 0) (pv 2) (fun _ _ => rfl)) pa_nil)) (pk_cons (pv 1) pk_nil)))
          (gs_cons (gs_yield ok (fun s H => pe_tup (pa_cons (pv 2) (pa_cons (pv 3) pa_nil)))) gs_nil) gs_nil) gs_nil)) gs_nil)) gs_nil, ?_⟩
  have hp2 := sm p _ hp
  have hu2 := hu.same sm
  have hc2 := hc.same sm
  have hl2 : us.length ≤ 64 := by omega
  have hlr : (us.length : Int) < 2 ^ 62 := by omega
  refine ⟨_, rfl, p, us, rfl, .inr (.inl (.inl hp2)), (us.length : Int), rfl, by omega, hlr, Same.refl _, ?_⟩
  refine gfor_range (fun _ j σ H => j = 0 ∧ Same H2 H ∧ ∃ a b, σ = [some (V.ref p), some vc, a, b]) ⟨rfl, Same.refl _, none, none, rfl⟩ ?_ fun j σ H h => h.1
  rintro i j σ H3 hi ⟨rfl, sm3, a, b, rfl⟩
  have hi' : i < us.length := by simpa using hi
  refine ⟨Same.refl _, _, rfl, _, _, rfl, rfl, _, rfl, p, us, rfl, .inr (.inl (.inl (sm3 p _ hp2))), _, (us.length : Int), rfl, ⟨by omega, by omega, by omega, hlr⟩, Same.refl _, ?_⟩
  refine gfor_range (fun _ j σ H => j = 0 ∧ Same H2 H ∧ ∃ b, σ = [some (V.ref p), some vc, some (V.int (0 + (i : Int))), b]) ⟨rfl, sm3, b, rfl⟩ ?_ fun j σ H h => ⟨h.1, h.2.1, _, h.2.2⟩
  rintro i2 j σ H4 hi2 ⟨rfl, sm4, b2, rfl⟩
  have hj : i + 1 + i2 < us.length := by omega
  obtain ⟨x, hx, vx⟩ := Pr.get hu2 (List.getElem?_eq_getElem hj)
  obtain ⟨y, hy, vy⟩ := Pr.get hu2 (List.getElem?_eq_getElem hi')
  have hlt : less cs x y = false := by
    have hpw := List.pairwise_iff_getElem.mp hok i (i + 1 + i2) (by omega) (by omega) (by omega)
    have e1 : l[i + 1 + i2]'(by omega) = x := Option.some.inj ((List.getElem?_eq_getElem _).symm.trans hx)
    have e2 : l[i]'(by omega) = y := Option.some.inj ((List.getElem?_eq_getElem _).symm.trans hy)
    rw [e1, e2] at hpw
    exact hpw
  have hp4 := sm4 p _ hp2
  have ej : (0 + (i : Int)) + 1 + (i2 : Int) = ((i + 1 + i2 : Nat) : Int) := by omega
  have ei : (0 + (i : Int)) = ((i : Nat) : Int) := by omega
  refine ⟨Same.refl _, _, rfl, _, rfl, p, us, _, _, rfl, rfl, .inl (.inl hp4), by rw [ej]; exact atI_nat (List.getElem?_eq_getElem hj), _, rfl, _, rfl, p, us, _, _, rfl, rfl, .inl (.inl hp4), by rw [ei]; exact atI_nat (List.getElem?_eq_getElem hi'), _, rfl, rfl, rfl, _, _, _, x, y, cs, rfl, vx.same sm4, vy.same sm4, hc2.same sm4, _, rfl, Same.refl _, ?_⟩
  rw [hlt]
  exact iteF ⟨rfl, sm4, _, rfl⟩
end
end K91
namespace K91
open PySem PySem.Spec PyProof.Rows L2 GenW
def spNeedS (K : PySem.W.Frag) : Sp := fun vs H Q _ => ∃ vr vc l cs, vs = [vr, vc] ∧ Lat H vr l ∧ l.length ≤ 64 ∧ RowR K H vc cs ∧ okl cs l ∧ ∀ H', Same H H' → Q .non H'
def spIsSorted (K : PySem.W.Frag) : Sp := fun vs H Q _ => ∃ vr vc l cs, vs = [vr, vc] ∧ Lat H vr l ∧ l.length ≤ 64 ∧ RowR K H vc cs ∧ okl cs l ∧ ∀ H', Same H H' → Q (.bl true) H'
section
variable {P : Program} {w : World} {K : PySem.W.Frag} {mg : Str → Option Value} {base : Heap}
theorem room_d {k : Nat} {A : Around} (hr : Room k A) : A.depth < recursionLimit := by have := hr.dp; omega
theorem ncFaults : NoCell dFaults.scope := noCell_of (by decide +kernel)
theorem okNeedS (T : Tx K mg) : FO P w K mg base 4 dNeedS ["row", "converted"] (spNeedS K) := by
  refine FunD.ok (T.f 4) cNeedS (fun vs H Q E h => ?_) (fun cdv A outer s H vs Q E hr h => ⟨_, PSs.nox (pss_one (ps_for0 PassesOwn.never rfl hr
    (gin_callN (T.f 3) gFaults ncFaults (by decide) (okFaults T) rfl (room_d hr) rfl (T.g 3) (T.f 3).kp (kFaults T) (pa_cons (pv 0) pa_nil) (pk_cons (pv 1) pk_nil)))), ?_⟩)
  · obtain ⟨_, _, _, _, rfl, _⟩ := h
    rfl
  obtain ⟨vr, vc, l, cs, rfl, hv, hl, hc, hok, hQ⟩ := h
  exact ⟨_, rfl, _, rfl, rfl, rfl, _, _, l, cs, rfl, hv, hl, hc, hok, rfl, hQ⟩
theorem okIsSorted (T : Tx K mg) : FO P w K mg base 4 dIsSorted ["row", "converted"] (spIsSorted K) := by
  refine FunD.ok (T.f 5) cIsSorted (fun vs H Q E h => ?_) (fun cdv A outer s H vs Q E hr h => ⟨_, PSs.nox (pss_cons (ps_for0 PassesOwn.never rfl hr
    (gin_callN (T.f 3) gFaults ncFaults (by decide) (okFaults T) rfl (room_d hr) rfl (T.g 3) (T.f 3).kp (kFaults T) (pa_cons (pv 0) pa_nil) (pk_cons (pv 1) pk_nil))) (pss_one (ps_ret pe_bl))), ?_⟩)
  · obtain ⟨_, _, _, _, rfl, _⟩ := h
    rfl
  obtain ⟨vr, vc, l, cs, rfl, hv, hl, hc, hok, hQ⟩ := h
  exact ⟨_, rfl, _, rfl, rfl, rfl, _, _, l, cs, rfl, hv, hl, hc, hok, rfl, fun H2 sm => hQ H2 sm⟩
end
end K91
set_option Elab.async false
set_option linter.all false
set_option maxRecDepth 100000
set_option maxHeartbeats 1000000
/-! sorted(xs), a list or a tuple of data. -/
namespace K91
open PySem PySem.Spec PyProof.Rows L2
open PySem.W (AllAlike Sortable EachIs dataLe alike)

def rSortB {β : Type} (K : PySem.W.Frag) (Rv : Hp → V → β → Prop) (enc : β → PyData) : List V → Hp → VK → Prop := fun vs H Q => ∃ (a : Addr) (xs : List V) (bs : List β), vs = [.ref a] ∧ SqB K H a xs ∧ Paired (Rv H) xs bs ∧ (∀ b ∈ bs, ∃ x r, enc b = .tuple (x :: r)) ∧
  ∀ ys p, Paired (Rv H) ys (bs.mergeSort (dataLe false enc)) → H p = none → Q (.ref p) (upd H p (.lst ys))
theorem each_of {β : Type} {Rv : V → β → Prop} : ∀ {xs : List V} {us : List Value} {bs : List β}, Vals xs us → Paired Rv xs bs → EachIs (fun u b => ∃ x, RelV x u ∧ Rv x b) us bs
  | _, _, _, .nil, .nil => .nil
  | _, _, _, .cons r t, .cons q s => .cons ⟨_, r, q⟩ (each_of t s)
theorem of_each {β : Type} {Rv : V → β → Prop} : ∀ {us : List Value} {bs : List β}, EachIs (fun u b => ∃ x, RelV x u ∧ Rv x b) us bs → ∃ xs, Vals xs us ∧ Paired Rv xs bs
  | _, _, .nil => ⟨[], .nil, .nil⟩
  | _, _, .cons ⟨x, r, q⟩ t => by
    obtain ⟨xs, h1, h2⟩ := of_each t
    exact ⟨x :: xs, .cons r h1, .cons q h2⟩
theorem each_mono {α β : Type} {R R' : α → β → Prop} (h : ∀ a b, R a b → R' a b) : ∀ {us : List α} {bs : List β}, EachIs R us bs → EachIs R' us bs
  | _, _, .nil => .nil
  | _, _, .cons r t => .cons (h _ _ r) (each_mono h t)
theorem alike_encV (x y : VV) : alike (encV x) (encV y) = true := by simp [alike, PySem.W.alikeAll, encV]
theorem alike_encVs : ∀ l l' : List VV, PySem.W.alikeAll (l.map encV) (l'.map encV) = true
  | [], _ => by simp [PySem.W.alikeAll]
  | _ :: _, [] => by simp [PySem.W.alikeAll]
  | x :: l, y :: l' => by simp [PySem.W.alikeAll, alike_encV x y, alike_encVs l l']
theorem alike_encL (l l' : List VV) : alike (encL l) (encL l') = true := by
  show PySem.W.alikeAll _ _ = true
  exact alike_encVs l l'
theorem cr_sortB {X : Cx} {β : Type} {Rv : Hp → V → β → Prop} {enc : β → PyData} (hu : X.A.units + 65 < cLine) (hdp : ∀ H v b, Rv H v b → Dp X.K H v (enc b)) (hal : ∀ b b', alike (enc b) (enc b') = true) (hd : ∀ b, (enc b).depth ≤ 2) : CallR X (.builtin "sorted") (rSortB X.K Rv enc) := by
  rintro pins s σ H vs us Q I r ⟨a, xs, bs, rfl, hs, hp, hk, q⟩
  have hsq : ∃ (T : String) (o : Obj) (its : List Value) (n : Nat), (T = "list" ∨ T = "tuple") ∧ s.heap.get? a = some o ∧ o.cls = .type T ∧ o.data = .seq its.toArray n ∧ Vals xs its ∧ xs.length ≤ sizeLine := by
    rcases hs with hs | hs
    · obtain ⟨its, rv, ⟨o, n, ho, hc, hd, hsl⟩, hz⟩ := I.list hs
      exact ⟨"list", o, its, n, .inl rfl, ho, hc, hsl, rv, hz⟩
    · obtain ⟨its, rv, ⟨o, ho, hc, n, hd⟩, hz⟩ := I.tuple hs
      exact ⟨"tuple", o, its, n, .inr rfl, ho, hc, hd, rv, hz⟩
  obtain ⟨T, o, its, n, hT, ho, hc, hdt, rv, hz⟩ := hsq
  rw [Vals.ref1 r]
  have hlen : its.length = xs.length := rv.length.symm
  have hbl : xs.length = bs.length := hp.length
  refine PyProof.Rows.call_function_entry_kw PyProof.Rows.kind_sorted PyProof.Rows.plain_sorted PyProof.Rows.entry_sorted (PyProof.Rows.args_sorted1 _) ?_
  unfold Builtin.«sorted»
  refine wpAny_bind (m := checkCount "sorted" 1 1 _) (wpAny_pure ?_)
  refine wpAny_bind (wpAny_collect_seq a hT ho hc hdt (fun h' hk' => ?_) (by rw [List.size_toArray, hlen]; exact hz))
  refine wpAny_bind (wpAny_newList ?_ (by rw [List.toList_toArray, hlen]; exact hz))
  have I2 : Inv X pins σ H { s with heap := h' } := I.kept (t' := s.toks) hk'
  have er : EachIs (fun v b => ∃ as, Reads (h'.push { cls := .type "list", data := .seq its.toArray.toList.toArray }) v (enc b) as ∧ h'.objs.size ∉ as) its.toArray.toList bs := by
    rw [List.toList_toArray]
    refine each_mono (fun u b hx => ?_) (each_of rv hp)
    obtain ⟨x, r1, r2⟩ := hx
    obtain ⟨as, h1⟩ := Dp.reads I2 _ x u (hdp _ _ _ r2) r1
    refine ⟨as, PyProof.Rows.Reads.keeps (fun _ _ e => Heap.get?_push_of_some _ e) h1, fun hm => ?_⟩
    obtain ⟨ob, hob⟩ := PyProof.On.reads_mem_get h1 _ hm
    exact absurd (Heap.lt_size hob) (Nat.lt_irrefl _)
  have hsz : its.toArray.toList.toArray.size ≤ sizeLine := by
    simp only [List.toList_toArray, List.size_toArray]
    rw [hlen]; exact hz
  refine wpAny_bind (wpAny_holding (PySem.W.list_sort_data (vs := its.toArray.toList) (n := 0) (Heap.get?_push_size _ rfl) (each_mono (R' := fun u b => ∃ x, RelV x u ∧ Rv H x b) (fun _ _ z => z) (by rw [List.toList_toArray]; exact each_of rv hp)) er (AllAlike.of hal) (.inl fun d hd' => ?_) (by omega) (fun b _ => ?_) fun out hol hout => wpAny_pure ⟨_, rfl, ?_⟩))
  · obtain ⟨b, hb, rfl⟩ := List.mem_map.mp hd'
    exact hk b hb
  · have := hd b
    show X.A.units + 1 + 1 + (enc b).depth < cLine
    omega
  obtain ⟨ys, v1, v2⟩ := of_each hout
  have hp0 : ({ s with heap := h'.push { cls := .type "list", data := .seq its.toArray.toList.toArray } } : Shared).heap.get? h'.objs.size = some (PyProof.Rows.seqObj "list" its.toArray.toList.toArray 0) := Heap.get?_push_size _ rfl
  obtain ⟨ep, he'⟩ := PyProof.Rows.sortedHeap_at (vs := its.toArray.toList) (out := out.toArray) hp0
  have hsp : (h'.push { cls := .type "list", data := .seq its.toArray.toList.toArray }).objs.size = h'.objs.size + 1 := Heap.size_push ..
  have kp : ∀ b u, h'.get? b = some u → (PyProof.Rows.sortedHeap (h'.push { cls := .type "list", data := .seq its.toArray.toList.toArray }) h'.objs.size its.toArray.toList out.toArray).get? b = some u := fun b u e2 => by
    have hlt := Heap.lt_size e2
    rw [PyProof.Rows.sortedHeap_old (Nat.ne_of_lt hlt) (by rw [hsp]; exact Nat.lt_succ_of_lt hlt)]
    exact Heap.get?_push_of_some _ e2
  have hn : H h'.objs.size = none := I2.hok.fresh (Nat.le_refl _)
  have hyl : ys.length ≤ sizeLine := by
    have e1 := v1.length
    omega
  exact ⟨.ref _, upd H h'.objs.size (.lst ys), I2.laid (t' := s.toks) kp (Nat.le_refl _) ⟨hyl, out, ep, v1, he'⟩, rfl, q ys _ v2 hn⟩
end K91
set_option Elab.async false
set_option linter.all false
set_option maxRecDepth 100000
set_option maxHeartbeats 1000000
/-! Comprehensions: the forms one uses. Own: what stands but for the new list. -/
namespace K91
open PySem PySem.Spec PyProof.Rows L2

/-- behind a comprehension: the list at D holds acc, all that H0 tracked stands -/
structure CI (H0 : Hp) (D : Addr) (acc : List V) (H : Hp) : Prop where
  same : Same H0 H
  at_ : H D = some (.lst acc)
theorem CI.start {H0 : Hp} {D : Addr} (h : H0 D = none) : CI H0 D [] (upd H0 D (.lst [])) := ⟨Same.new h, upd_same⟩
theorem CI.step {H0 H H' : Hp} {D : Addr} {acc : List V} (h : CI H0 D acc H) (h0 : H0 D = none) (sm : Same H H') (y : V) : H' D = some (.lst acc) ∧ CI H0 D (acc ++ [y]) (upd H' D (.lst (acc ++ [y]))) :=
  ⟨sm _ _ h.at_, fun b o e => by rw [upd_ne (ne_of_none e h0)]; exact sm _ _ (h.same b o e), upd_same⟩
theorem CI.skip {H0 H H' : Hp} {D : Addr} {acc : List V} (h : CI H0 D acc H) (sm : Same H H') : CI H0 D acc H' := ⟨h.same.trans sm, sm _ _ h.at_⟩

/-- by the item: keep its test, F its value -/
theorem lc_items {J : It} {α : Type} {xs : List α} {g : TG} {tt : TT} {te : TE} {vs : List Nat} {σ : L2.St} {H1 : Hp} {D : Addr} {Qd : Hp → Prop} (keep : α → Bool) (F : α → V → Hp → Prop) (hD : H1 D = none) (hz : xs.length ≤ sizeLine)
    (hF : ∀ x y H H', Same H H' → F x y H → F x y H') (hFu : ∀ x y H acc, CI H1 D acc H → F x y H → ∀ acc', F x y (upd H D (.lst acc')))
    (hgo : ∀ i H, Same H1 H → (i < xs.length → J.go i H) ∧ (xs.length ≤ i → J.stop i H))
    (hs : ∀ i x y H H' (Fin : V → Hp → Prop) (Skp : Hp → Prop), Same H1 H → xs[i]? = some x → J.yld i H y H' → (∀ z H4, keep x = true → Same H H4 → F x z H4 → Fin z H4) → (∀ H3, keep x = false → Same H H3 → Skp H3) →
      g y (wipe σ vs) H' fun σ2 H2 => wipe σ2 vs = wipe σ vs ∧ tt σ2 H2 fun b H3 => if b = true then te σ2 H3 Fin else Skp H3)
    (hQ : ∀ acc H, CI H1 D acc H → Paired (fun y x => F x y H) acc (xs.filter keep) → Qd H) :
    ∃ W : Nat → Nat → Hp → Prop, (∃ m, W 0 m (upd H1 D (.lst []))) ∧ ∀ i m H, W i m H →
      (J.stop i H ∧ Qd H) ∨ (J.go i H ∧ ∃ Nx : Hp → Prop, (∀ H', Nx H' → ∃ m', m' < m ∧ W (i + 1) m' H') ∧ ∀ x H', J.yld i H x H' → g x (wipe σ vs) H' fun σ2 H2 => wipe σ2 vs = wipe σ vs ∧ tt σ2 H2 fun b H3 =>
        if b = true then te σ2 H3 fun y H4 => ∃ acc, H4 D = some (.lst acc) ∧ acc.length < sizeLine ∧ Nx (upd H4 D (.lst (acc ++ [y]))) else Nx H3) := by
  refine ⟨fun i m H => m = xs.length - i ∧ i ≤ xs.length ∧ ∃ acc, CI H1 D acc H ∧ Paired (fun y x => F x y H) acc ((xs.take i).filter keep), ⟨xs.length, by simp, Nat.zero_le _, [], CI.start hD, by rw [List.take_zero]; exact .nil⟩, ?_⟩
  rintro i m H ⟨rfl, hi, acc, ci, pr⟩
  by_cases hlt : i < xs.length
  · have hx : xs[i]? = some xs[i] := List.getElem?_eq_getElem hlt
    refine .inr ⟨(hgo i H ci.same).1 hlt, fun H' => ∃ acc, CI H1 D acc H' ∧ Paired (fun y x => F x y H') acc ((xs.take (i + 1)).filter keep), fun H' h' => ⟨xs.length - (i + 1), by omega, rfl, hlt, h'⟩, fun y H' hy => ?_⟩
    have etk : (xs.take (i + 1)).filter keep = (xs.take i).filter keep ++ (if keep xs[i] = true then [xs[i]] else []) := by
      rw [List.take_add_one, hx, List.filter_append]
      by_cases hk : keep xs[i] = true <;> simp [hk]
    have hlen : acc.length ≤ i := by
      have e1 := pr.length
      have e2 := List.length_filter_le keep (xs.take i)
      rw [List.length_take] at e2
      omega
    refine hs i xs[i] y H H' _ _ ci.same hx hy (fun z H4 hk sm hf => ?_) fun H3 hk sm => ?_
    · obtain ⟨q1, q2⟩ := ci.step hD sm z
      refine ⟨acc, q1, by omega, acc ++ [z], q2, ?_⟩
      rw [etk, if_pos hk]
      have c4 := ci.skip sm
      exact Pr.append (Paired.mapP pr fun y x q => hFu _ _ _ acc c4 (hF _ _ _ _ sm q) _) (.cons (hFu _ _ _ acc c4 hf _) .nil)
    · refine ⟨acc, ci.skip sm, ?_⟩
      rw [etk, if_neg (by rw [hk]; exact Bool.false_ne_true), List.append_nil]
      exact Paired.mapP pr fun y x q => hF _ _ _ _ sm q
  · have e : i = xs.length := by omega
    subst e
    rw [List.take_length] at pr
    exact .inl ⟨(hgo _ H ci.same).2 (Nat.le_refl _), hQ acc H ci pr⟩
/-- values of no address -/
theorem flat_F {α : Type} {f : α → V} : (∀ x y (H H' : Hp), Same H H' → y = f x → y = f x) := fun _ _ _ _ _ h => h
theorem paired_map {α : Type} {f : α → V} {H : Hp} : ∀ {acc : List V} {xs : List α}, Paired (fun y x => y = f x) acc xs → acc = xs.map f
  | _, _, .nil => rfl
  | _, _, .cons r t => by rw [r, paired_map (H := H) t]; rfl
end K91
set_option Elab.async false
set_option linter.all false
/-! Plain mathematics: orders of indices that are sorted, masks. L i j: the i-th is less than the j-th. -/
namespace K91M

section
variable (L : Nat → Nat → Bool)
/-- no later one is less -/
def okP (l : List Nat) : Prop := l.Pairwise fun a b => L b a = false
instance (l : List Nat) : Decidable (okP L l) := by unfold okP; infer_instance
def ordI : Nat → List Nat → List (List Nat)
  | 0, _ => [[]]
  | f + 1, I => I.flatMap fun k => (ordI f (I.filter fun j => j != k)).map (k :: ·)
/-- those that none is less than -/
def frees (I : List Nat) : List Nat := I.filter fun k => I.all fun j => !L j k
def LFI : Nat → List Nat → List (List Nat)
  | 0, _ => [[]]
  | f + 1, I => (frees L I).flatMap fun k => (LFI f (I.filter fun j => j != k)).map (k :: ·)
end
theorem len_filter_ne {I : List Nat} {k : Nat} (hn : I.Nodup) (hk : k ∈ I) : (I.filter fun j => j != k).length + 1 = I.length := by
  induction I with
  | nil => simp at hk
  | cons a r ih =>
    have hn' := List.nodup_cons.mp hn
    by_cases e : a = k
    · subst e
      have : r.filter (fun j => j != a) = r := List.filter_eq_self.mpr fun j hj => by
        have : j ≠ a := fun z => hn'.1 (z ▸ hj)
        simpa using this
      rw [List.filter_cons_of_neg (by simp), this]; rfl
    · have hk' : k ∈ r := by
        rcases List.mem_cons.mp hk with z | z
        · exact absurd z.symm e
        · exact z
      rw [List.filter_cons_of_pos (by simpa using e)]
      have := ih hn'.2 hk'
      simp only [List.length_cons]; omega
theorem perm_filter_ne {I : List Nat} {k : Nat} (hn : I.Nodup) (hk : k ∈ I) : (k :: I.filter fun j => j != k).Perm I := by
  induction I with
  | nil => simp at hk
  | cons a r ih =>
    have hn' := List.nodup_cons.mp hn
    by_cases e : a = k
    · subst e
      have : r.filter (fun j => j != a) = r := List.filter_eq_self.mpr fun j hj => by
        have : j ≠ a := fun z => hn'.1 (z ▸ hj)
        simpa using this
      rw [List.filter_cons_of_neg (by simp), this]
    · have hk' : k ∈ r := by
        rcases List.mem_cons.mp hk with z | z
        · exact absurd z.symm e
        · exact z
      rw [List.filter_cons_of_pos (by simpa using e)]
      exact (List.Perm.swap a k _).trans ((ih hn'.2 hk').cons a)
theorem mem_ordI : ∀ (f : Nat) (I : List Nat), I.Nodup → f = I.length → ∀ l, l ∈ ordI f I ↔ l.Perm I
  | 0, I, _, hf, l => by
    have : I = [] := List.eq_nil_of_length_eq_zero hf.symm
    subst this
    simp [ordI]
  | f + 1, I, hn, hf, l => by
    unfold ordI
    rw [List.mem_flatMap]
    constructor
    · rintro ⟨k, hk, h⟩
      obtain ⟨m, hm, rfl⟩ := List.mem_map.mp h
      have h1 := (mem_ordI f _ (hn.filter _) (by have := len_filter_ne hn hk; omega) m).mp hm
      exact (h1.cons k).trans (perm_filter_ne hn hk)
    · intro h
      match l, h with
      | [], h => have := h.length_eq; simp at this; omega
      | k :: m, h =>
        have hk : k ∈ I := h.subset List.mem_cons_self
        refine ⟨k, hk, List.mem_map.mpr ⟨m, ?_, rfl⟩⟩
        refine (mem_ordI f _ (hn.filter _) (by have := len_filter_ne hn hk; omega) m).mpr ?_
        exact List.Perm.cons_inv (h.trans (perm_filter_ne hn hk).symm)
variable {L : Nat → Nat → Bool}
theorem okP_cons {k : Nat} {m : List Nat} : okP L (k :: m) ↔ (∀ j ∈ m, L j k = false) ∧ okP L m := List.pairwise_cons
theorem LFI_eq (hirr : ∀ i, L i i = false) : ∀ (f : Nat) (I : List Nat), I.Nodup → f = I.length → LFI L f I = (ordI f I).filter fun l => decide (okP L l)
  | 0, I, _, _ => by simp [LFI, ordI, okP]
  | f + 1, I, hn, hf => by
    unfold LFI ordI frees
    rw [List.filter_flatMap]
    have key : ∀ (J : List Nat), (∀ k ∈ J, k ∈ I) → (J.filter fun k => I.all fun j => !L j k).flatMap (fun k => (LFI L f (I.filter fun j => j != k)).map (k :: ·)) =
        J.flatMap fun k => ((ordI f (I.filter fun j => j != k)).map (k :: ·)).filter fun l => decide (okP L l) := by
      intro J
      induction J with
      | nil => intro _; rfl
      | cons k r ih =>
        intro hJ
        have hk : k ∈ I := hJ k List.mem_cons_self
        have ih' := ih fun x hx => hJ x (List.mem_cons_of_mem _ hx)
        have hlen : f = (I.filter fun j => j != k).length := by have := len_filter_ne hn hk; omega
        have rec_ := LFI_eq hirr f (I.filter fun j => j != k) (hn.filter _) hlen
        have hmem := mem_ordI f (I.filter fun j => j != k) (hn.filter _) hlen
        by_cases hall : (I.all fun j => !L j k) = true
        · rw [List.filter_cons_of_pos (p := fun k => I.all fun j => !L j k) hall, List.flatMap_cons, List.flatMap_cons, ih', rec_]
          congr 1
          rw [List.filter_map]
          congr 1
          refine List.filter_congr fun l hl => ?_
          have hp := (hmem l).mp hl
          have : ∀ j ∈ l, L j k = false := fun j hj => by
            have hjI : j ∈ I := (List.mem_filter.mp (hp.subset hj)).1
            have := List.all_eq_true.mp hall j hjI
            simpa using this
          simp only [Function.comp, okP_cons]
          exact decide_eq_decide.mpr ⟨fun z => ⟨this, z⟩, fun z => z.2⟩
        · rw [List.filter_cons_of_neg (p := fun k => I.all fun j => !L j k) hall, List.flatMap_cons, ih']
          have : ((ordI f (I.filter fun j => j != k)).map (k :: ·)).filter (fun l => decide (okP L l)) = [] := by
            rw [List.filter_eq_nil_iff]
            rintro l hl
            obtain ⟨m, hm, rfl⟩ := List.mem_map.mp hl
            have hp := (hmem m).mp hm
            intro hok
            have hok := of_decide_eq_true hok
            apply hall
            rw [List.all_eq_true]
            intro j hj
            by_cases e : j = k
            · subst e; simp [hirr]
            · have : j ∈ m := hp.symm.subset (List.mem_filter.mpr ⟨hj, by simpa using e⟩)
              simp [(okP_cons.mp hok).1 j this]
          rw [this, List.nil_append]
    exact key I fun k h => h

/-! ### masks -/
def unset (n first : Nat) : List Nat := (List.range n).filter fun i => !first.testBit i
theorem mem_unset {n first i : Nat} : i ∈ unset n first ↔ i < n ∧ first.testBit i = false := by simp [unset]
theorem nodup_unset {n first : Nat} : (unset n first).Nodup := List.nodup_range.filter _
theorem unset_or {n first k : Nat} : unset n (first ||| 2 ^ k) = (unset n first).filter fun j => j != k := by
  unfold unset
  rw [List.filter_filter]
  refine List.filter_congr fun i _ => ?_
  rw [Nat.testBit_or, Nat.testBit_two_pow]
  by_cases e : k = i
  · subst e; simp
  · have : i ≠ k := fun z => e z.symm
    simp [e, this]
def bsum (p : Nat → Bool) : Nat → Nat
  | 0 => 0
  | i + 1 => bsum p i + if p i then 2 ^ i else 0
theorem bsum_lt (p : Nat → Bool) : ∀ n, bsum p n < 2 ^ n
  | 0 => by simp [bsum]
  | n + 1 => by
    have := bsum_lt p n
    unfold bsum
    split <;> omega
theorem testBit_bsum (p : Nat → Bool) : ∀ n i, (bsum p n).testBit i = (decide (i < n) && p i)
  | 0, i => by simp [bsum]
  | n + 1, i => by
    have hlt := bsum_lt p n
    have ih := testBit_bsum p n i
    unfold bsum
    by_cases hp : p n = true
    · rw [if_pos hp]
      have e : bsum p n + 2 ^ n = 2 ^ n ||| bsum p n := by
        rw [Nat.add_comm]
        have := Nat.two_pow_add_eq_or_of_lt hlt 1
        simpa using this
      rw [e, Nat.testBit_or, Nat.testBit_two_pow, ih]
      by_cases e2 : n = i
      · subst e2; simp [hp]
      · by_cases h : i < n
        · have : i < n + 1 := by omega
          simp [e2, h, this]
        · have : ¬ i < n + 1 := by omega
          simp [e2, h, this]
    · rw [if_neg hp, Nat.add_zero, ih]
      by_cases e2 : n = i
      · subst e2; simp [hp]
      · by_cases h : i < n
        · have : i < n + 1 := by omega
          simp [h, this]
        · have : ¬ i < n + 1 := by omega
          simp [h, this]
/-- the mask of those that are less than k -/
def ahd (L : Nat → Nat → Bool) (n k : Nat) : Nat := bsum (fun i => L i k) n
theorem ahd_iff {n first k : Nat} : (ahd L n k &&& first == ahd L n k) = (unset n first).all fun j => !L j k := by
  rw [Bool.eq_iff_iff, beq_iff_eq, List.all_eq_true]
  constructor
  · intro h j hj
    obtain ⟨h1, h2⟩ := mem_unset.mp hj
    have := congrArg (fun x => x.testBit j) h
    simp only [Nat.testBit_and, ahd, testBit_bsum, h1, decide_true, Bool.true_and, h2, Bool.and_false] at this
    simp [← this]
  · intro h
    refine Nat.eq_of_testBit_eq fun j => ?_
    simp only [Nat.testBit_and, ahd, testBit_bsum]
    by_cases h1 : j < n
    · by_cases h2 : first.testBit j = true
      · simp [h2]
      · have h2' : first.testBit j = false := by simpa using h2
        have := h j (mem_unset.mpr ⟨h1, h2'⟩)
        simp at this
        simp [this]
    · simp [h1]
def nextv (L : Nat → Nat → Bool) (n first : Nat) : List Nat := (List.range n).filter fun k => !first.testBit k && (ahd L n k &&& first == ahd L n k)
theorem nextv_eq {n first : Nat} : nextv L n first = frees L (unset n first) := by
  unfold nextv frees
  rw [show unset n first = (List.range n).filter (fun i => !first.testBit i) from rfl, List.filter_filter]
  refine List.filter_congr fun k _ => ?_
  rw [ahd_iff, Bool.and_comm]
  rfl
/-- the lists from a mask -/
def LF (L : Nat → Nat → Bool) (n first : Nat) : List (List Nat) := LFI L (unset n first).length (unset n first)
theorem LF_step {n first : Nat} (h : unset n first ≠ []) : LF L n first = (nextv L n first).flatMap fun k => (LF L n (first ||| 2 ^ k)).map (k :: ·) := by
  unfold LF
  obtain ⟨f, hf⟩ : ∃ f, (unset n first).length = f + 1 := ⟨(unset n first).length - 1, by have := List.length_pos_iff.mpr h; omega⟩
  rw [hf]
  show (frees L (unset n first)).flatMap _ = _
  rw [← nextv_eq]
  have key : ∀ J : List Nat, (∀ k ∈ J, k ∈ unset n first) → J.flatMap (fun k => (LFI L f ((unset n first).filter fun j => j != k)).map (k :: ·)) = J.flatMap fun k => (LFI L (unset n (first ||| 2 ^ k)).length (unset n (first ||| 2 ^ k))).map (k :: ·) := by
    intro J
    induction J with
    | nil => intro _; rfl
    | cons k r ih =>
      intro hJ
      rw [List.flatMap_cons, List.flatMap_cons, ih fun x hx => hJ x (List.mem_cons_of_mem _ hx), unset_or]
      have := len_filter_ne nodup_unset (hJ k List.mem_cons_self)
      rw [show ((unset n first).filter fun j => j != k).length = f by omega]
  exact key _ fun k hk => by
    rw [nextv_eq] at hk
    exact (List.mem_filter.mp hk).1
theorem LF_end {n first : Nat} (h : unset n first = []) : LF L n first = [[]] := by
  unfold LF; rw [h]; rfl
/-- how many -/
def ways (L : Nat → Nat → Bool) (n first : Nat) : Nat := (LF L n first).length
theorem ways_step {n first : Nat} (h : unset n first ≠ []) : ways L n first = ((nextv L n first).map fun k => ways L n (first ||| 2 ^ k)).sum := by
  unfold ways
  rw [LF_step h, List.length_flatMap]
  simp
end K91M
namespace K91M
variable {L : Nat → Nat → Bool}
theorem unset_whole (n : Nat) : unset n (2 ^ n - 1) = [] := by
  unfold unset
  rw [List.filter_eq_nil_iff]
  intro i hi
  have h : i < n := List.mem_range.mp hi
  simp [Nat.testBit_two_pow_sub_one, h]
theorem ways_whole (n : Nat) : ways L n (2 ^ n - 1) = 1 := by
  unfold ways
  rw [LF_end (unset_whole n)]; rfl
theorem unset_ne {n m : Nat} (h : m < 2 ^ n - 1) : unset n m ≠ [] := by
  intro e
  have hall : ∀ i, i < n → m.testBit i = true := fun i hi => by
    cases hb : m.testBit i with
    | true => rfl
    | false =>
      have : i ∈ unset n m := mem_unset.mpr ⟨hi, hb⟩
      rw [e] at this
      simp at this
  have : m = 2 ^ n - 1 := by
    refine Nat.eq_of_testBit_eq fun i => ?_
    rw [Nat.testBit_two_pow_sub_one]
    by_cases hi : i < n
    · rw [hall i hi]; simp [hi]
    · have hlt : m < 2 ^ i := Nat.lt_of_lt_of_le h (Nat.le_trans (Nat.sub_le _ _) (Nat.pow_le_pow_right (by decide) (Nat.le_of_not_lt hi)))
      rw [Nat.testBit_lt_two_pow hlt]; simp [hi]
  omega
theorem or_bit {m k : Nat} (h : m.testBit k = false) : m < m ||| 2 ^ k := by
  have e : (m ||| 2 ^ k) ≠ m := fun z => by
    have := congrArg (fun x => x.testBit k) z
    simp only [Nat.testBit_or, Nat.testBit_two_pow_self, Bool.or_true, h] at this
    cases this
  have : m ≤ m ||| 2 ^ k := Nat.left_le_or
  omega
theorem or_lt {m k n : Nat} (h : m < 2 ^ n) (hk : k < n) : m ||| 2 ^ k < 2 ^ n := Nat.or_lt_two_pow h (Nat.pow_lt_pow_right (by decide) hk)
theorem mem_nextv {n m k : Nat} : k ∈ nextv L n m → k < n ∧ m.testBit k = false := fun h => by
  rw [nextv_eq] at h
  exact mem_unset.mp (List.mem_filter.mp h).1
theorem ways_sum {n m : Nat} (h : m < 2 ^ n - 1) : (((nextv L n m).map fun k => ((ways L n (m ||| 2 ^ k) : Nat) : Int)).sum : Int) = (ways L n m : Nat) := by
  rw [ways_step (unset_ne h)]
  generalize nextv L n m = l
  induction l with
  | nil => rfl
  | cons a r ih => rw [List.map_cons, List.sum_cons, List.map_cons, List.sum_cons, ih]; omega
end K91M
namespace K91M
theorem flat_get {α β : Type} (f : α → List β) : ∀ (l : List α) (i j : Nat) (x : α), l[i]? = some x → ((l.take i).flatMap f).length + j < ((l.take i).flatMap f).length + (f x).length → (l.flatMap f)[((l.take i).flatMap f).length + j]? = (f x)[j]?
  | [], _, _, _, h, _ => by simp at h
  | a :: r, 0, j, x, h, hj => by
    simp at h
    subst h
    simp only [List.take_zero, List.flatMap_nil, List.length_nil, Nat.zero_add, List.flatMap_cons] at hj ⊢
    rw [List.getElem?_append_left hj]
  | a :: r, i + 1, j, x, h, hj => by
    simp at h
    simp only [List.take_succ_cons, List.flatMap_cons, List.length_append] at hj ⊢
    rw [List.getElem?_append_right (by omega)]
    have := flat_get f r i j x h (by omega)
    rw [← this]
    congr 1
    omega
theorem flat_len {α β : Type} (f : α → List β) (l : List α) (i : Nat) (x : α) (h : l[i]? = some x) : ((l.take (i + 1)).flatMap f).length = ((l.take i).flatMap f).length + (f x).length := by
  rw [List.take_add_one, h, List.flatMap_append, List.length_append]
  simp
theorem flat_le {α β : Type} (f : α → List β) (l : List α) (i : Nat) : ((l.take i).flatMap f).length ≤ (l.flatMap f).length := by
  have : l.flatMap f = (l.take i).flatMap f ++ (l.drop i).flatMap f := by rw [← List.flatMap_append, List.take_append_drop]
  rw [this, List.length_append]
  omega
theorem unset_or_len {n m k : Nat} (hk : k ∈ unset n m) : (unset n (m ||| 2 ^ k)).length + 1 = (unset n m).length := by
  rw [unset_or]
  exact len_filter_ne nodup_unset hk
theorem whole_iff {n m : Nat} (h : m < 2 ^ n) : m = 2 ^ n - 1 ↔ unset n m = [] := by
  constructor
  · rintro rfl; exact unset_whole n
  · intro e
    refine Nat.le_antisymm (by omega) (Nat.le_of_not_lt fun z => unset_ne z e)
end K91M
namespace K91M
variable {L : Nat → Nat → Bool}
theorem mem_LF (hirr : ∀ i, L i i = false) {n m : Nat} {idx : List Nat} : idx ∈ LF L n m ↔ idx.Perm (unset n m) ∧ okP L idx := by
  unfold LF
  rw [LFI_eq hirr _ _ nodup_unset rfl, List.mem_filter, mem_ordI _ _ nodup_unset rfl]
  simp
theorem LF_zero (hirr : ∀ i, L i i = false) {n : Nat} : LF L n 0 = (ordI n (List.range n)).filter fun l => decide (okP L l) := by
  have e : unset n 0 = List.range n := by
    unfold unset
    rw [List.filter_eq_self]
    intro i _
    simp
  unfold LF
  rw [LFI_eq hirr _ _ nodup_unset rfl, e, List.length_range]
end K91M
set_option Elab.async false
set_option linter.all false
set_option maxRecDepth 100000
set_option maxHeartbeats 1000000
/-! The walks: Counts. -/
namespace K91
open PySem PySem.Spec PyProof.Rows L2 GenW
open K91M

/-- who is less, by places -/
def Lx (cs : List VV) (row : List VV) (i j : Nat) : Bool := match row[i]?, row[j]? with
  | some a, some b => less cs a b
  | _, _ => false
abbrev aC (K : PySem.W.Frag) : Addr := He.ga K "Counts"
def spBelow (K : PySem.W.Frag) : Sp := fun vs H Q _ => ∃ a dx fs ra us row v x vc cs, vs = [.ref a, v, vc] ∧ H a = some (.ins (aC K) dx fs) ∧ fs.lookup ("row" : Str) = some (.ref ra) ∧ H ra = some (.lst us) ∧ Vs H us row ∧ row.length ≤ 12 ∧ Vat H v x ∧ RowR K H vc cs ∧
  ∀ H', Same H H' → Q (.int (bsum (fun i => match row[i]? with | some y => less cs y x | none => false) row.length)) H'
theorem cCBelow' : FnScope ["self", "value", "converted", "k", "other"] ["self", "value", "converted"] (defScope sCBelow) :=
  ⟨rfl, rfl, rfl, by decide +kernel, rfl, by decide +kernel, by decide +kernel⟩
theorem bsum_list (p : Nat → Bool) (n : Nat) : (((List.range n).filter p).map fun k => (2 : Int) ^ k).sum = (bsum p n : Int) := by
  induction n with
  | zero => rfl
  | succ n ih =>
    rw [List.range_succ, List.filter_append, List.map_append, List.sum_append, ih]
    show _ = ((bsum p n + if p n then 2 ^ n else 0 : Nat) : Int)
    by_cases hp : p n = true
    · simp [List.filter, hp]
    · simp [List.filter, hp]
section
variable {P : Program} {w : World} {K : PySem.W.Frag} {mg : Str → Option Value} {base : Heap}
theorem okBelow (T : Tx K mg) : FO P w K mg base 2 dCBelow ["self", "value", "converted"] (spBelow K) := by
  refine FunD.ok (T.f 10) cCBelow' (fun vs H Q E h => ?_) (fun cdv A outer s H vs Q E hr h => ⟨_, PSs.nox (pss_one (ps_ret (pe_callB (cr_sum rfl) (by rfl) (T.fr 45) (by decide +kernel) (pa_cons
    (pe_lc (own := [("k", 3), ("other", 4)]) (g := gTup K 2 (gCons (gName 3) (gCons (gName 4) gNil))) rfl cCBelow'.nd (pi_enum (by rfl) (T.fr 46) (pa_cons (pe_fld (pv 0) rfl) pa_nil)) (blkOk_by (N := ["self", "value", "converted", "k", "other"]) (sc := defScope sCBelow) (by decide +kernel))
      (fun _ _ _ _ _ => pg_tup rfl (pgs_cons (pg_name (i := 3) cCBelow'.nd rfl (Or.inl rfl) (Or.inr rfl)) (pgs_cons (pg_name (i := 4) cCBelow'.nd rfl (Or.inl rfl) (Or.inr rfl)) pgs_nil)))
      (fun _ _ _ _ _ => pts_one (pt_val (pe_callN (okIsLess T) hr rfl (T.g 2) (T.f 2).kp (kIsLess T) pass0 (pa_cons (pv 4) (pa_cons (pv 1) pa_nil)) (pk_cons (pv 2) pk_nil))))
      (fun _ _ _ _ _ => pe_op op_shl pe_int (pv 3))) pa_nil)))), ?_⟩)
  · obtain ⟨_, _, _, _, _, _, _, _, _, _, rfl, _⟩ := h
    rfl
  obtain ⟨a, dx, fs, ra, us, row, v, x, vc, cs, rfl, ha, hf, hra, hu, hn, hx, hc, hQ⟩ := h
  refine ⟨_, rfl, a, _, dx, fs, _, rfl, ha, T.cls, T.noat 53, hf, ra, us, rfl, .inl (.inl hra), fun D hD => ?_⟩
  have hlen : us.length = row.length := hu.length
  refine lc_items (xs := List.range row.length) (fun k => match row[k]? with | some y => less cs y x | none => false) (fun k z _ => z = V.int ((2 : Int) ^ k)) hD (by rw [List.length_range, sizeLine_eq]; omega) (fun _ _ _ _ _ h => h) (fun _ _ _ _ _ h _ => h) (fun i H2 sm => ?_) (fun i k y H2 H3 Fin Skp sm hk hy fin skp => ?_) (fun acc H2 ci pr => ?_)
  · have hr2 := sm _ _ hra
    rw [List.length_range]
    refine ⟨fun h => ?_, fun h => ⟨us, .inl (.inl hr2), by omega⟩⟩
    obtain ⟨u, hu', _⟩ := Pr.get2 hu (List.getElem?_eq_getElem h)
    exact ⟨us, u, .inl (.inl hr2), hu'⟩
  · obtain ⟨hi, hk'⟩ := List.getElem?_eq_some_iff.mp hk
    rw [List.length_range] at hi
    rw [List.getElem_range] at hk'
    subst hk'
    obtain ⟨u, hu', vu⟩ := Pr.get2 hu (List.getElem?_eq_getElem hi)
    obtain ⟨t, u2, rfl, hT, rfl, hget⟩ := hy
    have hr2 := sm _ _ hra
    have e2 : u2 = u := Option.some.inj ((hget us (.inl (.inl hr2))).symm.trans hu')
    subst e2
    have s3 : Same H2 (upd H2 t (.tup [.int (i : Nat), u2])) := Same.new hT
    have s13 := sm.trans s3
    refine ⟨t, _, rfl, .inl (.inl upd_same), rfl, _, _, rfl, _, _, rfl, rfl, rfl, ?_⟩
    refine ⟨_, rfl, _, rfl, _, rfl, rfl, rfl, _, _, _, _, x, cs, rfl, vu.same s13, hx.same s13, hc.same s13, _, rfl, ?_⟩
    rw [List.getElem?_eq_getElem hi] at fin skp
    refine ite2 (fun hb => ?_) fun hb => skp _ (by simpa using hb) s3
    refine ⟨_, rfl, _, _, rfl, rfl, ⟨by omega, by omega, by decide⟩, ?_⟩
    exact fin _ _ hb s3 (by simp)
  · have e := paired_map (f := fun k => V.int ((2 : Int) ^ k)) (H := H2) pr
    refine ⟨D, ((List.range row.length).filter fun k => match row[k]? with | some y => less cs y x | none => false).map (fun k => (2 : Int) ^ k), rfl, .inl (.inl ?_), ?_⟩
    · rw [ci.at_, e, List.map_map]; rfl
    · have eb := bsum_list (fun k => match row[k]? with | some y => less cs y x | none => false) row.length
      show Q (.int _) H2
      rw [eb]
      exact hQ H2 ci.same
end
end K91
namespace K91
open PySem PySem.Spec PyProof.Rows L2 GenW
open K91M
theorem pfld {X : Cx} {K : PySem.W.Frag} {e : Expr} {f : Str} {pos : Pos} {ta : TE} (he : PE X e ta) (hb : attributeBase e f X.env (eval e X.env) = eval e X.env := by rfl) (h : X.K = K := by rfl) : PE X (.Attribute e f pos) (tFld K ta f) := h ▸ pe_fld he hb
theorem bor_nat (a b : Nat) : Builtin.bitOr (a : Int) (b : Int) = ((a ||| b : Nat) : Int) := by
  have h1 : ∀ x : Nat, decide ((0 : Int) ≤ Builtin.bitNot (x : Int)) = false := fun x => decide_eq_false (by unfold Builtin.bitNot; omega)
  have h2 : ∀ x : Int, Builtin.bitNot (Builtin.bitNot x) = x := fun x => by unfold Builtin.bitNot; omega
  unfold Builtin.bitOr Builtin.bitAnd
  rw [h1, h1]
  show Builtin.bitNot (Builtin.bitNot _) = _
  rw [h2, h2, h2, Int.toNat_natCast, Int.toNat_natCast]
theorem band_nat (a b : Nat) : Builtin.bitAnd (a : Int) (b : Int) = ((a &&& b : Nat) : Int) := by
  have h1 : ∀ x : Nat, decide ((0 : Int) ≤ (x : Int)) = true := fun x => decide_eq_true (Int.natCast_nonneg x)
  unfold Builtin.bitAnd
  rw [h1, h1]
  show (((a : Int).toNat &&& (b : Int).toNat : Nat) : Int) = _
  rw [Int.toNat_natCast, Int.toNat_natCast]
/-- what a Counts holds -/
structure CtF (K : PySem.W.Frag) (H : Hp) (a : Addr) (row : List VV) (cs : List VV) (fs : List (Str × V)) (ra aa : Addr) (us : List V) : Prop where
  ins : ∃ dx, H a = some (.ins (aC K) dx fs)
  frow : fs.lookup ("row" : Str) = some (.ref ra)
  fahead : fs.lookup ("ahead" : Str) = some (.ref aa)
  hrow : H ra = some (.lst us)
  vals : Vs H us row
  ahead : H aa = some (.lst ((List.range row.length).map fun k => V.int (ahd (Lx cs row) row.length k : Nat)))
  len : row.length ≤ 12
theorem CtF.same {K : PySem.W.Frag} {H H' : Hp} {a : Addr} {row cs : List VV} {fs : List (Str × V)} {ra aa : Addr} {us : List V} (h : CtF K H a row cs fs ra aa us) (s : Same H H') : CtF K H' a row cs fs ra aa us :=
  ⟨let ⟨dx, e⟩ := h.ins; ⟨dx, s _ _ e⟩, h.frow, h.fahead, s _ _ h.hrow, h.vals.same s, s _ _ h.ahead, h.len⟩
def spNext (K : PySem.W.Frag) : Sp := fun vs H Q _ => ∃ a row cs fs ra aa us, ∃ m : Nat, vs = [.ref a, .int (m : Int)] ∧ CtF K H a row cs fs ra aa us ∧ ∀ D H', H D = none → Same H H' → H' D = some (.lst ((nextv (Lx cs row) row.length m).map fun (k : Nat) => V.int (k : Int))) → Q (.ref D) H'
theorem cCNext' : FnScope ["self", "first", "k"] ["self", "first"] (defScope sCNext) :=
  ⟨rfl, rfl, rfl, by decide +kernel, rfl, by decide +kernel, by decide +kernel⟩
theorem shr_bit (m k : Nat) : Builtin.bitAnd ((m : Int) / 2 ^ ((k : Int)).toNat) 1 = if m.testBit k then 1 else 0 := by
  have e : ((m : Int) / 2 ^ ((k : Int)).toNat) = ((m / 2 ^ k : Nat) : Int) := by
    rw [Int.toNat_natCast]; norm_cast
  rw [e]
  have e2 : Builtin.bitAnd ((m / 2 ^ k : Nat) : Int) ((1 : Nat) : Int) = (((m / 2 ^ k) &&& 1 : Nat) : Int) := band_nat _ _
  have e3 : (m / 2 ^ k) &&& 1 = if m.testBit k then 1 else 0 := by
    rw [Nat.and_one_is_mod, Nat.testBit_eq_decide_div_mod_eq]
    by_cases h : m / 2 ^ k % 2 = 1
    · simp [h]
    · have : m / 2 ^ k % 2 = 0 := by omega
      simp [this]
  rw [e3] at e2
  rw [show (1 : Int) = ((1 : Nat) : Int) from rfl, e2]
  split <;> rfl
section
variable {P : Program} {w : World} {K : PySem.W.Frag} {mg : Str → Option Value} {base : Heap}
theorem okNext (T : Tx K mg) : FO P w K mg base 1 dCNext ["self", "first"] (spNext K) := by
  refine FunD.ok (T.f 11) cCNext' (fun vs H Q E h => ?_) (fun cdv A outer s H vs Q E hr h => ⟨_, PSs.nox (pss_one (ps_ret
    (pe_lc (own := [("k", 2)]) (g := gName 2) rfl cCNext'.nd (pi_range1 rfl (T.fr 35) (pa_cons (pe_callB clen (by rfl) (T.fr 34) PySem.boot_len (pa_cons (pfld (pv 0)) pa_nil)) pa_nil)) (blkOk_by (N := ["self", "first", "k"]) (sc := defScope sCNext) (by decide +kernel))
      (fun _ _ _ _ _ => pg_name (i := 2) cCNext'.nd rfl (Or.inl rfl))
      (fun _ _ _ _ _ => pts_one (PW.pt (pw_and (pt_cmpR op_eq (pe_op op_and (pe_op op_shr (pv 1) (pv 2)) pe_int) pe_int (nomark _)) (pw_and1 (pt_cmpR op_eq (pe_op op_and (pe_ix ixL (pfld (pv 0)) (pv 2) (fun _ _ => rfl)) (pv 1)) (pe_ix ixL (pfld (pv 0)) (pv 2) (fun _ _ => rfl)) (nomark _))))))
      (fun _ _ _ _ _ => pv 2)))), ?_⟩)
  · obtain ⟨_, _, _, _, _, _, _, _, rfl, _⟩ := h
    rfl
  obtain ⟨a, row, cs, fs, ra, aa, us, m, rfl, ct, hQ⟩ := h
  obtain ⟨dx, hi⟩ := ct.ins
  have hlen : us.length = row.length := ct.vals.length
  have hn := ct.len
  refine ⟨_, rfl, a, _, dx, fs, _, rfl, hi, T.cls, T.noat 53, ct.frow, ra, us, rfl, .inl (.inl (.inl ct.hrow)), (us.length : Int), rfl, by omega, by omega, fun D hD => ?_⟩
  refine lc_items (xs := List.range row.length) (fun k => !m.testBit k && (ahd (Lx cs row) row.length k &&& m == ahd (Lx cs row) row.length k)) (fun k z _ => z = V.int (k : Int)) hD (by rw [List.length_range, sizeLine_eq]; omega) (fun _ _ _ _ _ h => h) (fun _ _ _ _ _ h _ => h) (fun i H2 sm => ?_) (fun i k y H2 H3 Fin Skp sm hk hy fin skp => ?_) (fun acc H2 ci pr => ?_)
  · rw [List.length_range]
    exact ⟨fun h => (by show i < (us.length : Int).toNat; omega), fun h => (by show (us.length : Int).toNat ≤ i; omega)⟩
  · obtain ⟨hi2, hk'⟩ := List.getElem?_eq_some_iff.mp hk
    rw [List.length_range] at hi2
    rw [List.getElem_range] at hk'
    subst hk'
    obtain ⟨rfl, rfl⟩ := hy
    have c2 := ct.same sm
    obtain ⟨dx2, hi3⟩ := c2.ins
    have e0 : (0 : Int) + (i : Nat) = (i : Int) := by omega
    have hat : atI ((List.range row.length).map fun k => V.int (ahd (Lx cs row) row.length k : Nat)) ((0 : Int) + (i : Nat)) = some (V.int (ahd (Lx cs row) row.length i : Nat)) := by
      rw [e0]
      exact atI_nat (by rw [List.getElem?_map, List.getElem?_range hi2]; rfl)
    refine ⟨rfl, _, rfl, _, rfl, _, _, rfl, rfl, (by show (0 : Int) ≤ 0 + (i : Nat); omega), _, _, rfl, rfl, rfl, _, rfl, ite2 (fun hb => ?_) fun hb => skp _ ?_ (Same.refl _)⟩
    · have hb' : m.testBit i = false := by
        have this : Builtin.bitAnd ((m : Int) / 2 ^ ((0 : Int) + (i : Nat)).toNat) 1 = 0 := V.int.inj (of_decide_eq_true hb)
        rw [e0, shr_bit] at this
        by_cases h : m.testBit i = true
        · rw [h] at this; simp at this
        · simpa using h
      refine ⟨_, rfl, a, _, dx2, fs, _, rfl, hi3, T.cls, T.noat 54, c2.fahead, _, rfl, aa, _, _, _, rfl, rfl, .inl (.inl c2.ahead), hat, _, rfl, _, _, rfl, rfl, _, rfl, a, _, dx2, fs, _, rfl, hi3, T.cls, T.noat 54, c2.fahead, _, rfl, aa, _, _, _, rfl, rfl, .inl (.inl c2.ahead), hat, rfl, _, rfl, ite2 (fun hc => ?_) fun hc => skp _ ?_ (Same.refl _)⟩
      · refine ⟨_, rfl, fin _ _ ?_ (Same.refl _) (by rw [e0])⟩
        have this := V.int.inj (of_decide_eq_true hc)
        rw [band_nat] at this
        have this := Int.ofNat.inj this
        simp [hb', this]
      · have this : ¬ Builtin.bitAnd ((ahd (Lx cs row) row.length i : Nat) : Int) (m : Int) = ((ahd (Lx cs row) row.length i : Nat) : Int) := fun z => hc (decide_eq_true (congrArg V.int z))
        rw [band_nat] at this
        have this : ¬ (ahd (Lx cs row) row.length i &&& m) = ahd (Lx cs row) row.length i := fun z => this (by rw [z])
        simp [hb', this]
    · have : ¬ (Builtin.bitAnd ((m : Int) / 2 ^ ((0 : Int) + (i : Nat)).toNat) 1 = 0) := fun z => by
        apply hb
        exact decide_eq_true (congrArg V.int z)
      rw [e0, shr_bit] at this
      have h2 : m.testBit i = true := by
        by_cases h : m.testBit i = true
        · exact h
        · simp [h] at this
      simp [h2]
  · have e := paired_map (f := fun (k : Nat) => V.int (k : Int)) (H := H2) pr
    refine hQ D H2 hD ci.same ?_
    rw [ci.at_, e]
    rfl
end
end K91
set_option Elab.async false
set_option linter.all false
set_option maxRecDepth 100000
set_option maxHeartbeats 2000000
/-! The walks: Counts.__init__. -/
namespace K91
open PySem PySem.Spec PyProof.Rows L2 GenW
open K91M
def srt (l : List VV) : List VV := l.mergeSort (PySem.W.dataLe false encV)
theorem len_srt {l : List VV} : (srt l).length = l.length := List.length_mergeSort _
/-- what the ways list holds so far: from lo on -/
def WaysFrom (cs row : List VV) (lo : Nat) (ws : List V) : Prop := ws.length = 2 ^ row.length ∧ ∀ m, lo ≤ m → m < 2 ^ row.length → ws[m]? = some (V.int (ways (Lx cs row) row.length m : Nat))
structure Ct (K : PySem.W.Frag) (H : Hp) (a : Addr) (row cs : List VV) : Prop where
  all : ∃ dx ra aa wa us ws, H a = some (.ins (aC K) dx [("row", .ref ra), ("ahead", .ref aa), ("whole", .int (((2 ^ row.length : Nat) : Int) - 1)), ("ways", .ref wa)]) ∧ H ra = some (.lst us) ∧ Vs H us row ∧
    H aa = some (.lst ((List.range row.length).map fun k => V.int (ahd (Lx cs row) row.length k : Nat))) ∧ H wa = some (.lst ws) ∧ WaysFrom cs row 0 ws ∧ row.length ≤ 12
theorem Ct.same {K : PySem.W.Frag} {H H' : Hp} {a : Addr} {row cs : List VV} (h : Ct K H a row cs) (s : Same H H') : Ct K H' a row cs := by
  obtain ⟨dx, ra, aa, wa, us, ws, h1, h2, h3, h4, h5, h6, h7⟩ := h.all
  exact ⟨dx, ra, aa, wa, us, ws, s _ _ h1, s _ _ h2, h3.same s, s _ _ h4, s _ _ h5, h6, h7⟩
def spInit (K : PySem.W.Frag) : Sp := fun vs H Q _ => ∃ x dx vv vc l cs, vs = [.ref x, vv, vc] ∧ H x = some (.ins (aC K) dx []) ∧ RowR K H vv l ∧ RowR K H vc cs ∧ l.length ≤ 12 ∧
  ∀ H', (∀ b o, b ≠ x → H b = some o → H' b = some o) → Ct K H' x (srt l) cs → Q .non H'
theorem cCInit' : FnScope ["self", "values", "converted", "first", "value", "k"] ["self", "values", "converted"] (defScope sCInit) :=
  ⟨rfl, rfl, rfl, by decide +kernel, rfl, by decide +kernel, by decide +kernel⟩
theorem RowR.but {K : PySem.W.Frag} {H H' : Hp} {x : Addr} {o : HO} {v : V} {l : List VV} (h : RowR K H v l) (hx : H x = some o) (n1 : ∀ xs, o ≠ .lst xs) (n2 : ∀ xs, o ≠ .tup xs) (n3 : ∀ ob u, o ≠ .frz ob u) (k : ∀ b u, b ≠ x → H b = some u → H' b = some u) : RowR K H' v l := by
  obtain ⟨p, us, e1, e2, e3⟩ := h
  have rd : ∀ {u : HO}, (u ≠ o) → Rd H p u → Rd H' p u := fun {u} nu r => by
    rcases r with r | ⟨ob, r⟩
    · exact .inl (k _ _ (fun z => by rw [z, hx] at r; exact nu (Option.some.inj r).symm) r)
    · exact .inr ⟨ob, k _ _ (fun z => by rw [z, hx] at r; exact n3 _ _ (Option.some.inj r)) r⟩
  refine ⟨p, us, e1, ?_, e3.tups fun b t e => k b _ (fun z => by rw [z, hx] at e; exact n2 _ (Option.some.inj e)) e⟩
  rcases e2 with (e2 | e2) | (e2 | e2)
  · exact .inl (.inl (rd (fun z => n1 _ z.symm) e2))
  · exact .inl (.inr e2)
  · exact .inr (.inl (rd (fun z => n2 _ z.symm) e2))
  · exact .inr (.inr e2)
section
variable {P : Program} {w : World} {K : PySem.W.Frag} {mg : Str → Option Value} {base : Heap}
theorem okInit (T : Tx K mg) : FO P w K mg base 3 dCInit ["self", "values", "converted"] (spInit K) := by
  obtain ⟨tk, hmost⟩ := T.most
  refine FunD.ok (T.f 9) cCInit' (fun vs H Q E h => ?_) (fun cdv A outer s H vs Q E hr h => ⟨_, PSs.nox (pss_cons (ps_if (pt_cmpR op_gt (pe_callB clen (by rfl) (T.fr 34) PySem.boot_len (pa_cons (pv 1) pa_nil)) (pe_glob (v := .int 12) rfl hmost ⟨_, rfl⟩) (nomark _)) (pss_one ps_never) pss_nil)
    (pss_cons (ps_fld (pv 0) (pe_callB (cr_sortB (Rv := Vat) (enc := encV) (room_u hr) (fun _ _ _ h => h.dp) alike_encV (fun b => by rw [encV_depth]; decide)) (by rfl) (T.fr 39) (by decide +kernel) (pa_cons (pv 1) pa_nil)) rfl)
    (pss_cons (ps_fld (pv 0) (pe_lc (own := [("value", 4)]) (g := gName 4) rfl cCInit'.nd (pi_list (pfld (pv 0))) (blkOk_by (N := ["self", "values", "converted", "first", "value", "k"]) (sc := defScope sCInit) (by decide +kernel)) (fun _ _ _ _ _ => pg_name (i := 4) cCInit'.nd rfl (Or.inl rfl)) (fun _ _ _ _ _ => pts_nil)
        (fun _ _ _ _ _ => pe_meth (pv 0) T.cls (T.meth 57) (okBelow T) hr (bCBelow T) .nil pass0 (pa_cons (pv 4) (pa_cons (pv 2) pa_nil)))) rfl)
    (pss_cons (ps_fld (pv 0) (pe_op op_sub (pe_op op_shl pe_int (pe_callB clen (by rfl) (T.fr 34) PySem.boot_len (pa_cons (pfld (pv 0)) pa_nil))) pe_int) rfl)
    (pss_cons (ps_fld (pv 0) (pe_op op_cat (pe_op op_rep (pe_lst (pa_cons pe_int pa_nil)) (pfld (pv 0))) (pe_lst (pa_cons pe_int pa_nil))) rfl)
    (pss_one (ps_for PassesOwn.never rfl (pi_range3 rfl (T.fr 35) (pa_cons (pe_op op_sub (pfld (pv 0)) pe_int) (pa_cons (pe_un un_neg pe_int) (pa_cons (pe_un un_neg pe_int) pa_nil)))) (pg_name (i := 3) cCInit'.nd rfl (Or.inr rfl))
      (pss_one (ps_asg (pe_callB (cr_sum rfl) (by rfl) (T.fr 45) (by decide +kernel) (pa_cons
        (pe_lc (own := [("k", 5)]) (g := gName 5) rfl cCInit'.nd (pi_list (pe_meth (pv 0) T.cls (T.meth 58) (okNext T) (hr.mono (by decide)) (bCNext T) .nil pass0 (pa_cons (pv 3) pa_nil))) (blkOk_by (N := ["self", "values", "converted", "first", "value", "k"]) (sc := defScope sCInit) (by decide +kernel)) (fun _ _ _ _ _ => pg_name (i := 5) cCInit'.nd rfl (Or.inl rfl)) (fun _ _ _ _ _ => pts_nil)
          (fun _ _ _ _ _ => pe_ix ixL (pfld (pv 0)) (pe_op op_or (pv 3) (pe_op op_shl pe_int (pv 5))) (fun _ _ => rfl))) pa_nil)) (pg_sub (pfld (pv 0)) (pv 3) set_list)))))))))), ?_⟩)
  · obtain ⟨_, _, _, _, _, _, rfl, _⟩ := h
    rfl
  obtain ⟨x, dx, vv, vc, l, cs, rfl, hx, ⟨p, us0, rfl, hs, hv⟩, hc, hl, hQ⟩ := h
  have hl0 : us0.length = l.length := hv.length
  refine ⟨_, rfl, p, us0, rfl, hs, _, _, rfl, rfl, _, rfl, ite2 (fun hb => ?_) fun _ => ?_⟩
  · have := of_decide_eq_true hb
    omega
  refine ⟨_, rfl, p, us0, l, rfl, hs, hv, fun b _ => ⟨_, _, rfl⟩, fun us q hus hq => ?_⟩
  have nxq : x ≠ q := ne_of_none hx hq
  refine ⟨_, rfl, x, _, dx, _, rfl, (by rw [upd_ne nxq]; exact hx), T.cls, T.noat 53, by decide, ?_⟩
  have hus' : Vs H us (srt l) := hus
  have hlen : us.length = (srt l).length := hus'.length
  have hn12 : (srt l).length ≤ 12 := by rw [len_srt]; exact hl
  generalize hrow : srt l = row at *
  -- row is there
  generalize hH2 : upd (upd H q (.lst us)) x (.ins (aC K) dx (putF "row" (.ref q) [])) = H2
  have h2x : H2 x = some (.ins (aC K) dx [("row", .ref q)]) := by rw [← hH2]; exact upd_same
  have h2q : H2 q = some (.lst us) := by rw [← hH2, upd_ne (Ne.symm nxq)]; exact upd_same
  have k2 : ∀ b o, b ≠ x → H b = some o → H2 b = some o := fun b o hb e => by rw [← hH2, upd_ne hb, upd_ne (ne_of_none e hq)]; exact e
  have t2 : Tups H H2 := fun b t e => k2 b _ (fun z => by rw [z, hx] at e; cases e) e
  have hc2 : RowR K H2 vc cs := hc.but hx (fun _ z => by cases z) (fun _ z => by cases z) (fun _ _ z => by cases z) k2
  have hu2 : Vs H2 us row := hus'.tups t2
  refine ⟨_, rfl, x, _, dx, _, _, rfl, h2x, T.cls, T.noat 53, rfl, q, rfl, ⟨us, .inl (.inl h2q)⟩, fun D hD => ?_⟩
  have hD0 : H D = none := by
    cases e : H D with
    | none => rfl
    | some o =>
      by_cases z : D = x
      · rw [z, h2x] at hD; cases hD
      · rw [k2 D o z e] at hD; cases hD
  refine lc_items (xs := List.range row.length) (fun _ => true) (fun k z _ => z = V.int (ahd (Lx cs row) row.length k : Nat)) hD (by rw [List.length_range, sizeLine_eq]; omega) (fun _ _ _ _ _ h => h) (fun _ _ _ _ _ h _ => h) (fun i H3 sm => ?_) (fun i k y H3 H4 Fin Skp sm hk hy fin skp => ?_) (fun acc H3 ci pr => ?_)
  · rw [List.length_range]
    have h3q := sm _ _ h2q
    refine ⟨fun h => ?_, fun h => ⟨us, .inl (.inl h3q), by omega⟩⟩
    exact ⟨us, us[i]'(by omega), .inl (.inl h3q), List.getElem?_eq_getElem _⟩
  · obtain ⟨hi, hk'⟩ := List.getElem?_eq_some_iff.mp hk
    rw [List.length_range] at hi
    rw [List.getElem_range] at hk'
    subst hk'
    obtain ⟨rfl, hget⟩ := hy
    have h3q := sm _ _ h2q
    obtain ⟨u, hu', vu⟩ := Pr.get2 hu2 (List.getElem?_eq_getElem hi)
    have e2 : y = u := Option.some.inj ((hget us (.inl (.inl h3q))).symm.trans hu')
    subst e2
    refine ⟨rfl, ?_⟩
    refine ⟨_, rfl, x, dx, _, rfl, sm _ _ h2x, rfl, _, rfl, _, rfl, x, dx, _, q, us, row, _, _, _, cs, rfl, sm _ _ h2x, rfl, h3q, hu2.same sm, hn12, vu.same sm, hc2.same sm, fun H5 s5 => fin _ _ rfl s5 ?_⟩
    show V.int (bsum _ row.length : Nat) = _
    have e3 : (fun j => Lx cs row j i) = fun j => match row[j]? with | some y => less cs y row[i] | none => false := by
      funext j
      unfold Lx
      rw [List.getElem?_eq_getElem hi]
      cases row[j]? <;> rfl
    unfold ahd
    rw [e3]
    all_goals rfl
  have e := paired_map (f := fun k => V.int (ahd (Lx cs row) row.length k : Nat)) (H := H3) pr
  rw [show (List.range row.length).filter (fun _ => true) = List.range row.length from List.filter_eq_self.mpr fun _ _ => rfl] at e
  have h3D := ci.at_
  rw [e] at h3D
  have nxD : x ≠ D := ne_of_none h2x hD
  have nqD : q ≠ D := ne_of_none h2q hD
  have h3x := ci.same _ _ h2x
  have h3q := ci.same _ _ h2q
  refine ⟨_, rfl, x, _, dx, _, rfl, h3x, T.cls, T.noat 54, (by show (1 : Nat) < 1000; decide), ?_⟩
  -- ahead is there
  generalize hH4 : upd H3 x (.ins (aC K) dx (putF "ahead" (.ref D) [("row", .ref q)])) = H4
  have h4x : H4 x = some (.ins (aC K) dx [("row", .ref q), ("ahead", .ref D)]) := by rw [← hH4]; exact upd_same
  have h4q : H4 q = some (.lst us) := by rw [← hH4, upd_ne (Ne.symm nxq)]; exact h3q
  have h4D : H4 D = some (.lst ((List.range row.length).map fun k => V.int (ahd (Lx cs row) row.length k : Nat))) := by rw [← hH4, upd_ne (Ne.symm nxD)]; exact h3D
  have k4 : ∀ b o, b ≠ x → H b = some o → H4 b = some o := fun b o hb e => by rw [← hH4, upd_ne hb]; exact ci.same _ _ (k2 b o hb e)
  have hlu : us.length = row.length := hlen
  have hp2 : (2 : Nat) ^ row.length ≤ 2 ^ 12 := Nat.pow_le_pow_right (by decide) hn12
  have hp1 : 1 ≤ (2 : Nat) ^ row.length := Nat.one_le_two_pow
  obtain ⟨Nw, hNw⟩ : ∃ Nw : Nat, Nw = 2 ^ row.length := ⟨_, rfl⟩
  rw [← hNw] at hp1 hp2
  have hp2 : Nw ≤ 4096 := hp2
  refine ⟨_, rfl, x, _, dx, _, _, rfl, h4x, T.cls, T.noat 53, rfl, q, us, rfl, .inl (.inl (.inl h4q)), _, _, rfl, rfl, ⟨by omega, by omega, by decide⟩, _, _, rfl, rfl, _, rfl, x, _, dx, _, rfl, h4x, T.cls, T.noat 55, (by show (2 : Nat) < 1000; decide), ?_⟩
  -- whole is there
  have ew : (1 : Int) * 2 ^ ((us.length : Int)).toNat - 1 = (Nw : Int) - 1 := by
    rw [Int.toNat_natCast, hlu, Int.one_mul, hNw]; norm_cast
  generalize hH5 : upd H4 x _ = H5
  have h5x : H5 x = some (.ins (aC K) dx [("row", .ref q), ("ahead", .ref D), ("whole", .int ((Nw : Int) - 1))]) := by
    rw [← hH5, ← ew]; exact upd_same
  have h5q : H5 q = some (.lst us) := by rw [← hH5, upd_ne (Ne.symm nxq)]; exact h4q
  have h5D : H5 D = some (.lst ((List.range row.length).map fun k => V.int (ahd (Lx cs row) row.length k : Nat))) := by rw [← hH5, upd_ne (Ne.symm nxD)]; exact h4D
  have k5 : ∀ b o, b ≠ x → H b = some o → H5 b = some o := fun b o hb e => by rw [← hH5, upd_ne hb]; exact k4 b o hb e
  have hz := sizeLine_eq
  refine ⟨(by show (1 : Nat) ≤ sizeLine; rw [hz]; decide), fun l1 hl1 => ⟨_, rfl, x, _, dx, _, _, rfl, (by rw [upd_ne (ne_of_none h5x hl1)]; exact h5x), T.cls, T.noat 55, rfl, l1, _, _, rfl, rfl, upd_same, by omega, by omega, (by
    show 1 * ((Nw : Int) - 1).toNat ≤ sizeLine
    rw [hz]; omega), fun l2 hl2 => ⟨(by show (1 : Nat) ≤ sizeLine; rw [hz]; decide), fun l3 hl3 => ⟨l2, l3, _, _, rfl, rfl, (by rw [upd_ne (Ne.symm (ne_of_none upd_same hl3 |>.symm))]; exact upd_same), upd_same, ?_, fun wa hwa => ?_⟩⟩⟩⟩
  · show ((List.replicate ((Nw : Int) - 1).toNat [V.int 0]).flatten).length + 1 ≤ sizeLine
    rw [List.length_flatten, List.map_replicate, hz]
    simp
    omega
  have g6x := (Same.new (o := .lst [V.int 1]) hl3) _ _ ((Same.new hl2) _ _ ((Same.new hl1) _ _ h5x))
  have g6q := (Same.new (o := .lst [V.int 1]) hl3) _ _ ((Same.new hl2) _ _ ((Same.new hl1) _ _ h5q))
  have g6D := (Same.new (o := .lst [V.int 1]) hl3) _ _ ((Same.new hl2) _ _ ((Same.new hl1) _ _ h5D))
  have nxw : x ≠ wa := ne_of_none g6x hwa
  have nqw : q ≠ wa := ne_of_none g6q hwa
  have nDw : D ≠ wa := ne_of_none g6D hwa
  have kw : ∀ b o, b ≠ x → H b = some o → b ≠ wa := fun b o hb e => ne_of_none ((Same.new (o := .lst [V.int 1]) hl3) _ _ ((Same.new hl2) _ _ ((Same.new hl1) _ _ (k5 b o hb e)))) hwa
  refine ⟨_, rfl, x, _, dx, _, rfl, (by rw [upd_ne nxw]; exact g6x), T.cls, T.noat 56, (by show (3 : Nat) < 1000; decide), ?_⟩
  generalize hH7 : upd _ x _ = H7
  have h7x : H7 x = some (.ins (aC K) dx [("row", .ref q), ("ahead", .ref D), ("whole", .int ((Nw : Int) - 1)), ("ways", .ref wa)]) := by rw [← hH7]; exact upd_same
  have h7q : H7 q = some (.lst us) := by rw [← hH7, upd_ne (Ne.symm nxq), upd_ne nqw]; exact g6q
  have h7D : H7 D = some (.lst ((List.range row.length).map fun k => V.int (ahd (Lx cs row) row.length k : Nat))) := by rw [← hH7, upd_ne (Ne.symm nxD), upd_ne nDw]; exact g6D
  have h7w : H7 wa = some (.lst ((List.replicate ((Nw : Int) - 1).toNat [V.int 0]).flatten ++ [V.int 1])) := by rw [← hH7, upd_ne (Ne.symm nxw)]; exact upd_same
  have k7 : ∀ b o, b ≠ x → H b = some o → H7 b = some o := fun b o hb e => by
    rw [← hH7, upd_ne hb, upd_ne (kw b o hb e)]
    exact (Same.new (o := .lst [V.int 1]) hl3) _ _ ((Same.new hl2) _ _ ((Same.new hl1) _ _ (k5 b o hb e)))
  have hr7 : (1 : Int) ≤ Nw := by omega
  refine ⟨_, rfl, x, _, dx, _, _, rfl, h7x, T.cls, T.noat 55, rfl, _, _, rfl, rfl, _, rfl, _, rfl, _, _, _, _, rfl, RgC.neg (by omega) (by omega) (by omega) (by omega), ?_⟩
  have en : ((Nw : Int) - 1 - 1 - -1).toNat = Nw - 1 := by omega
  show ∃ W : Nat → Nat → L2.St → Hp → Prop, _
  refine for_rangeC (fun i σ H8 => i ≤ Nw - 1 ∧ ∃ fo ws, σ = [some (V.ref x), some (V.ref p), some vc, fo, none, none] ∧ H8 x = some (.ins (aC K) dx [("row", .ref q), ("ahead", .ref D), ("whole", .int ((Nw : Int) - 1)), ("ways", .ref wa)]) ∧ H8 q = some (.lst us) ∧
    H8 D = some (.lst ((List.range row.length).map fun k => V.int (ahd (Lx cs row) row.length k : Nat))) ∧ H8 wa = some (.lst ws) ∧ WaysFrom cs row (Nw - 1 - i) ws ∧ ∀ b o, b ≠ x → H b = some o → H8 b = some o) ?_ ?_ ?_
  · refine ⟨Nat.zero_le _, none, _, rfl, h7x, h7q, h7D, h7w, ⟨?_, fun m h1 h2 => ?_⟩, k7⟩
    · rw [List.length_append, List.length_flatten, List.map_replicate, ← hNw]
      simp
      omega
    · have em : m = Nw - 1 := by omega
      have hl : ((List.replicate ((Nw : Int) - 1).toNat [V.int 0]).flatten).length = Nw - 1 := by
        rw [List.length_flatten, List.map_replicate]
        simp
      rw [em, List.getElem?_append_right (by omega), hl, hNw, ways_whole]
      simp
  · rintro i σ H8 hi ⟨hi0, fo, ws, rfl, h8x, h8q, h8D, h8w, hW, k8⟩
    rw [en] at hi
    obtain ⟨m, hm⟩ : ∃ m : Nat, m = Nw - 2 - i := ⟨_, rfl⟩
    have emi : (Nw : Int) - 1 - 1 + (i : Nat) * -1 = (m : Int) := by omega
    rw [emi]
    have hmw : m < 2 ^ row.length - 1 := by rw [← hNw]; omega
    have hus8 : Vs H8 us row := hus'.tups fun b t e => k8 b _ (fun z => by rw [z, hx] at e; cases e) e
    have ctf : CtF K H8 x row cs [("row", .ref q), ("ahead", .ref D), ("whole", .int ((Nw : Int) - 1)), ("ways", .ref wa)] q D us := ⟨⟨dx, h8x⟩, rfl, rfl, h8q, hus8, h8D, hn12⟩
    refine ⟨_, rfl, x, dx, _, rfl, h8x, rfl, _, rfl, x, row, cs, _, q, D, us, m, rfl, ctf, fun L H9 hL sm9 h9L => ⟨L, rfl, ⟨_, .inl (.inl h9L)⟩, fun D2 hD2 => ?_⟩⟩
    have nwL : wa ≠ L := ne_of_none h8w hL
    refine lc_items (xs := nextv (Lx cs row) row.length m) (fun _ => true) (fun k z _ => z = V.int (ways (Lx cs row) row.length (m ||| 2 ^ k) : Nat)) hD2 (by
      have := List.length_filter_le (fun k => !m.testBit k && (ahd (Lx cs row) row.length k &&& m == ahd (Lx cs row) row.length k)) (List.range row.length)
      rw [List.length_range] at this
      unfold nextv
      omega) (fun _ _ _ _ _ h => h) (fun _ _ _ _ _ h _ => h) (fun j H3' sm => ?_) (fun j k y H3' H4' Fin Skp sm hk hy fin skp => ?_) (fun acc H3' ci3 pr3 => ?_)
    · have h3L := sm _ _ h9L
      refine ⟨fun h => ?_, fun h => ⟨_, .inl (.inl h3L), by rw [List.length_map]; exact h⟩⟩
      exact ⟨_, _, .inl (.inl h3L), List.getElem?_eq_getElem (by rw [List.length_map]; exact h)⟩
    · obtain ⟨rfl, hget⟩ := hy
      have h3L := sm _ _ h9L
      have ey := hget _ (.inl (.inl h3L))
      rw [List.getElem?_map, hk] at ey
      have ey : y = V.int (k : Int) := (Option.some.inj ey).symm
      subst ey
      obtain ⟨hkn, hkb⟩ := mem_nextv (List.mem_of_getElem? hk)
      have h3x := sm _ _ (sm9 _ _ h8x)
      have h3w := sm _ _ (sm9 _ _ h8w)
      have hm2 : m < 2 ^ row.length := by omega
      have eor : Builtin.bitOr (m : Int) ((1 : Int) * 2 ^ ((k : Int)).toNat) = ((m ||| 2 ^ k : Nat) : Int) := by
        have e1 : ((1 : Int) * 2 ^ ((k : Int)).toNat) = ((2 ^ k : Nat) : Int) := by
          rw [Int.toNat_natCast, Int.one_mul]; norm_cast
        rw [e1, bor_nat]
      refine ⟨rfl, ?_⟩
      refine ⟨_, rfl, x, _, dx, _, _, rfl, h3x, T.cls, T.noat 56, rfl, _, rfl, _, rfl, _, _, rfl, rfl, ⟨by omega, by omega, by decide⟩, _, _, rfl, rfl, wa, ws, _, V.int (ways (Lx cs row) row.length (m ||| 2 ^ k) : Nat), rfl, rfl, .inl (.inl h3w), ?_, ?_⟩
      · rw [eor]
        exact atI_nat (hW.2 _ (by have := or_bit hkb; omega) (or_lt hm2 hkn))
      · exact fin _ _ rfl (Same.refl _) rfl
    have e3 := paired_map (f := fun k => V.int (ways (Lx cs row) row.length (m ||| 2 ^ k) : Nat)) (H := H3') pr3
    rw [show (nextv (Lx cs row) row.length m).filter (fun _ => true) = nextv (Lx cs row) row.length m from List.filter_eq_self.mpr fun _ _ => rfl] at e3
    have h3D2 := ci3.at_
    rw [e3] at h3D2
    have h3x := ci3.same _ _ (sm9 _ _ h8x)
    have h3w := ci3.same _ _ (sm9 _ _ h8w)
    have h3q := ci3.same _ _ (sm9 _ _ h8q)
    have h3D := ci3.same _ _ (sm9 _ _ h8D)
    refine ⟨D2, (nextv (Lx cs row) row.length m).map (fun k => ((ways (Lx cs row) row.length (m ||| 2 ^ k) : Nat) : Int)), rfl, .inl (.inl ?_), ?_⟩
    · rw [h3D2, List.map_map]; rfl
    rw [ways_sum hmw]
    have hmw2 : m < ws.length := by rw [hW.1]; omega
    refine ⟨_, rfl, x, _, dx, _, _, rfl, h3x, T.cls, T.noat 56, rfl, _, rfl, wa, ws, _, m, rfl, rfl, h3w, ?_, ?_⟩
    · unfold ixN
      rw [if_pos (by omega), if_pos (by omega)]; simp
    refine ⟨by omega, _, _, rfl, (by rw [upd_ne nxw]; exact h3x), (by rw [upd_ne nqw]; exact h3q), (by rw [upd_ne nDw]; exact h3D), upd_same, ⟨by rw [List.length_set]; exact hW.1, fun mm h1 h2 => ?_⟩, fun b o hb e => by rw [upd_ne (kw b o hb e)]; exact ci3.same _ _ (sm9 _ _ (k8 b o hb e))⟩
    by_cases hmm : mm = m
    · subst hmm
      rw [List.getElem?_set_self hmw2]
    · rw [List.getElem?_set_ne (Ne.symm hmm)]
      exact hW.2 mm (by omega) h2
  · rintro σ H8 ⟨_, fo, ws, rfl, h8x, h8q, h8D, h8w, hW, k8⟩
    rw [en] at hW
    refine hQ H8 k8 ⟨dx, q, D, wa, us, ws, by rw [← hNw]; exact h8x, h8q, hus'.tups fun b t e => k8 b _ (fun z => by rw [z, hx] at e; cases e) e, h8D, h8w, ?_, hn12⟩
    rw [Nat.sub_self] at hW
    exact hW
end
end K91
set_option Elab.async false
set_option linter.all false
set_option maxRecDepth 100000
set_option maxHeartbeats 2000000
/-! The walks: count_lists, list_at, index_of. -/
namespace K91
open PySem PySem.Spec PyProof.Rows L2 GenW
open K91M
theorem make_ct {K : PySem.W.Frag} {H1 : Hp} {vv vc : V} {l cs : List VV} {Qd : Addr → Hp → Prop} {E : XK} (hv : RowR K H1 vv l) (hc : RowR K H1 vc cs) (hl : l.length ≤ 12) (hQ : ∀ x H2, Same H1 H2 → H1 x = none → Ct K H2 x (srt l) cs → Qd x H2) :
    ∀ x dx, H1 x = none → H1 dx = none → dx ≠ x → spInit K (.ref x :: ([vv, vc] ++ [])) (upd (upd H1 dx (.own x)) x (.ins (aC K) dx [])) (fun v H2 => v = .non ∧ Qd x H2) E := by
  intro x dx hx hdx hne
  have s1 : Same H1 (upd (upd H1 dx (.own x)) x (.ins (aC K) dx [])) := fun b o e => by rw [upd_ne (ne_of_none e hx), upd_ne (ne_of_none e hdx)]; exact e
  exact ⟨x, dx, vv, vc, l, cs, rfl, upd_same, hv.same s1, hc.same s1, hl, fun H' k ct => ⟨rfl, hQ x H' (fun b o e => k b o (ne_of_none e hx) (s1 b o e)) hx ct⟩⟩
/-- L, n of a bag -/
abbrev wy (cs l : List VV) (m : Nat) : Nat := ways (Lx cs (srt l)) (srt l).length m
def spCountL (K : PySem.W.Frag) : Sp := fun vs H Q _ => ∃ vv vc l cs, vs = [vv, vc] ∧ RowR K H vv l ∧ RowR K H vc cs ∧ l.length ≤ 12 ∧ ∀ H', Same H H' → Q (.int (wy cs l 0 : Nat)) H'
section
variable {P : Program} {w : World} {K : PySem.W.Frag} {mg : Str → Option Value} {base : Heap}
theorem okCountL (T : Tx K mg) : FO P w K mg base 5 dCountL ["values", "converted"] (spCountL K) := by
  refine FunD.ok (T.f 13) cCountL (fun vs H Q E h => ?_) (fun cdv A outer s H vs Q E hr h => ⟨_, PSs.nox (pss_one (ps_ret (pe_ix ix_list (pe_fld (pe_make T.mkr (okInit T) hr rfl (T.g 51) (bCInit T) .nil pass0 (pa_cons (pv 0) (pa_cons (pv 1) pa_nil))) rfl) pe_int (fun _ _ => rfl)))), ?_⟩)
  · obtain ⟨_, _, _, _, rfl, _⟩ := h
    rfl
  obtain ⟨vv, vc, l, cs, rfl, hv, hc, hl, hQ⟩ := h
  refine ⟨_, rfl, _, rfl, make_ct hv hc hl fun x H2 sm hx ct => ?_⟩
  obtain ⟨dx, ra, aa, wa, us, ws, h1, h2, h3, h4, h5, h6, h7⟩ := ct.all
  refine ⟨x, _, dx, _, _, rfl, h1, T.cls, T.noat 56, rfl, wa, ws, 0, V.int (wy cs l 0 : Nat), rfl, rfl, .inl (.inl h5), ?_, hQ H2 sm⟩
  exact atI_nat (j := 0) (h6.2 0 (Nat.le_refl _) (Nat.two_pow_pos _))
end
end K91
set_option Elab.async false
set_option linter.all false
set_option maxRecDepth 100000
set_option maxHeartbeats 2000000
/-! The walks: lists_from. -/
namespace K91
open PySem PySem.Spec PyProof.Rows L2 GenW
open K91M
theorem piL {X : Cx} {K : PySem.W.Frag} {tg l : Expr} {tl : TE} (hl : PE X l tl) (h : X.K = K := by rfl) : PI X tg l (iList K tl) := h ▸ pi_list hl
theorem qfld {X : Cx} {K : PySem.W.Frag} {e : Expr} {f : Str} {pos : Pos} {ta : TE} (he : PQ X e ta) (hb : attributeBase e f X.env (eval e X.env) = eval e X.env := by rfl) (h : X.K = K := by rfl) : PQ X (.Attribute e f pos) (tFld K ta f) := h ▸ pq_fld he hb
theorem qix {X : Cx} {K : PySem.W.Frag} {a b : Expr} {pos : Pos} {ta tb : TE} (ha : PQ X a ta) (hb : PQ X b tb) (hs : PlainIx b := by intro _ _; rfl) (h : X.K = K := by rfl) : PQ X (.Subscript a b pos) (tqIx K ta tb) := h ▸ pq_ix ha hb hs
theorem qcons {X : Cx} {K : PySem.W.Frag} {a b : Expr} {x1} {p pos : Pos} {ta tb : TE} (ha : PQ X a ta) (hb : PQ X b tb) (he : starEach [a, .Starred b p] X.env = (false, eval a X.env) :: starEach [.Starred b p] X.env := by rfl) (h : X.K = K := by rfl) : PQ X (.Tuple [a, .Starred b p] x1 pos) (tqCons K ta tb) := h ▸ pq_cons ha hb he
theorem qv {X : Cx} (i : Nat) {x : Str} {pos : Pos} (hN : X.N[i]? = some x := by rfl) (hv : Vis X.env.scope x := by first | exact Or.inl rfl | exact Or.inr (Or.inl rfl) | exact Or.inr (Or.inr rfl)) (hd : (x == ("__debug__" : Str)) = false := by decide) (hcd : (x == ("__classdict__" : Str)) = false := by decide) : PQ X (.Name x pos) (tVar i) := pq_var hN hv hd hcd
theorem less_irr (cs : List VV) (x : VV) : less cs x x = false := by
  unfold less
  split <;> simp
theorem Lx_irr (cs row : List VV) (i : Nat) : Lx cs row i i = false := by
  unfold Lx
  cases row[i]? with
  | none => rfl
  | some x => exact less_irr cs x
theorem gs_never {Γ : GSet} {st : Stmt} : gS Γ st (fun _ _ _ _ => False) := ⟨fun _ _ _ _ _ _ _ _ _ _ _ _ _ _ _ _ _ h => h.elim⟩
def rowAt (row : List VV) (i : Nat) : VV := row.getD i ⟨"", 0, 0⟩
def ItF (row cs : List VV) (m : Nat) (j : Nat) (v : V) (H : Hp) : Prop := ∃ idx, (LF (Lx cs row) row.length m)[j]? = some idx ∧ Lat H v (idx.map (rowAt row))
def spFrom (K : PySem.W.Frag) (d : Nat) : SpGen := fun vs H cont => ∃ a row cs, ∃ m : Nat, vs = [.ref a, .int (m : Int)] ∧ Ct K H a row cs ∧ m < 2 ^ row.length ∧ (unset row.length m).length ≤ d ∧ cont (LF (Lx cs row) row.length m).length (ItF row cs m) H
section
variable {P : Program} {w : World} {K : PySem.W.Frag} {mg : Str → Option Value} {base : Heap}
theorem ncFrom : NoCell dCFrom.scope := noCell_of (by decide +kernel)
/-- the body's reading, by what the inner loop asks -/
def tFrom (K : PySem.W.Frag) (Γ : GSet) (tI : gT) : gT := tgThen (tgIf (tTest (tOp rEq (tVar 1) (tFld K (tVar 0) "whole"))) (tgThen (tgYield (Γ := Γ) (tTup tNil)) tg0) tg0)
  (tgThen (tgFor (iList K (tMeth (aC K) "next_values" (spNext K) [] E0 (tVar 0) (tCons (tVar 1) tNil))) (gName 2)
    (tgThen (tgIf (tTest (tOp (rI0 fun i j => .bl (decide (j < i))) (tOp (rIxL K) (tFld K (tVar 0) "ways") (tOp (rI0 fun i j => .int (Builtin.bitOr i j)) (tVar 1) (tOp (rI CPow fun i j => .int (i * 2 ^ j.toNat)) (tC (.int 1)) (tVar 2)))) (tC (.int 0)))) (tgThen tI tg0) tg0) tg0)) tg0)
theorem eor_nat (m k : Nat) : Builtin.bitOr (m : Int) ((1 : Int) * 2 ^ ((k : Int)).toNat) = ((m ||| 2 ^ k : Nat) : Int) := by
  have e1 : ((1 : Int) * 2 ^ ((k : Int)).toNat) = ((2 ^ k : Nat) : Int) := by
    rw [Int.toNat_natCast, Int.one_mul]; norm_cast
  rw [e1, bor_nat]
theorem read_from (T : Tx K mg) {Γ : GSet} {tI : gT} {a : Addr} {row cs : List VV} {m : Nat} {H0 : Hp} (hn : Γ.n = (LF (Lx cs row) row.length m).length) (hIt : Γ.It = ItF row cs m) (ct : Ct K H0 a row cs) (hm : m < 2 ^ row.length)
    (hI : ∀ (D : gEnds) (j k : Nat) (b : Option V) (H : Hp), Same H0 H → k ∈ nextv (Lx cs row) row.length m → j + (LF (Lx cs row) row.length (m ||| 2 ^ k)).length ≤ Γ.n →
      (∀ i idx, (LF (Lx cs row) row.length (m ||| 2 ^ k))[i]? = some idx → (LF (Lx cs row) row.length m)[j + i]? = some (k :: idx)) →
      (∀ b' H2, Same H H2 → D.nx (j + (LF (Lx cs row) row.length (m ||| 2 ^ k)).length) [some (.ref a), some (.int (m : Int)), some (.int (k : Int)), b'] H2) → tI D j [some (.ref a), some (.int (m : Int)), some (.int (k : Int)), b] H) :
    tFrom K Γ tI { nx := fun j _ _ => j = Γ.n } 0 [some (.ref a), some (.int (m : Int)), none, none] H0 := by
  obtain ⟨dx, ra, aa, wa, us, ws, h1, h2, h3, h4, h5, h6, h7⟩ := ct.all
  have hw := whole_iff hm
  have hp1 : 1 ≤ 2 ^ row.length := Nat.one_le_two_pow
  -- the loop
  have loop : ∀ j0, (unset row.length m = [] → j0 = 1) → (unset row.length m ≠ [] → j0 = 0) → ∀ H1, Same H0 H1 → tgFor (iList K (tMeth (aC K) "next_values" (spNext K) [] E0 (tVar 0) (tCons (tVar 1) tNil))) (gName 2)
    (tgThen (tgIf (tTest (tOp (rI0 fun i j => .bl (decide (j < i))) (tOp (rIxL K) (tFld K (tVar 0) "ways") (tOp (rI0 fun i j => .int (Builtin.bitOr i j)) (tVar 1) (tOp (rI CPow fun i j => .int (i * 2 ^ j.toNat)) (tC (.int 1)) (tVar 2)))) (tC (.int 0)))) (tgThen tI tg0) tg0) tg0) { nx := fun j _ _ => j = Γ.n } j0 [some (.ref a), some (.int (m : Int)), none, none] H1 := by
    intro j0 hj1 hj0 H1 s1
    have hnx : (nextv (Lx cs row) row.length m).length ≤ row.length := by
      have := List.length_filter_le (fun k => !m.testBit k && (ahd (Lx cs row) row.length k &&& m == ahd (Lx cs row) row.length k)) (List.range row.length)
      rw [List.length_range] at this
      exact this
    have ctf : CtF K H1 a row cs _ ra aa us := ⟨⟨dx, s1 _ _ h1⟩, rfl, rfl, s1 _ _ h2, h3.same s1, s1 _ _ h4, h7⟩
    refine ⟨_, rfl, a, dx, _, rfl, s1 _ _ h1, rfl, _, rfl, a, row, cs, _, ra, aa, us, m, rfl, ctf, fun L H2 hL s2 h2L => ⟨L, rfl, ⟨_, .inl (.inl h2L)⟩, s2, ?_⟩⟩
    have s12 := s1.trans s2
    refine gfor_list (xs := (nextv (Lx cs row) row.length m).map fun (k : Nat) => V.int (k : Int)) (fun i j σ H => Same H2 H ∧ (∃ b c, σ = [some (.ref a), some (.int (m : Int)), b, c]) ∧ j = j0 + ((((nextv (Lx cs row) row.length m).take i).flatMap fun k => (LF (Lx cs row) row.length (m ||| 2 ^ k)).map (k :: ·)).length)) ⟨Same.refl _, ⟨none, none, rfl⟩, by simp⟩ (fun i j σ H _ h => .inl (.inl (h.1 _ _ h2L))) ?_ ?_
    · rintro i x j σ H hx ⟨s3, ⟨b, c, rfl⟩, hj⟩
      rw [List.getElem?_map] at hx
      obtain ⟨k, hk, rfl⟩ : ∃ k, (nextv (Lx cs row) row.length m)[i]? = some k ∧ x = V.int (k : Int) := by
        cases e : (nextv (Lx cs row) row.length m)[i]? with
        | none => rw [e] at hx; simp at hx
        | some k => rw [e] at hx; simp at hx; exact ⟨k, rfl, hx.symm⟩
      have hkm := List.mem_of_getElem? hk
      obtain ⟨hkn, hkb⟩ := mem_nextv hkm
      have hune : unset row.length m ≠ [] := fun e => by
        have := mem_unset.mpr ⟨hkn, hkb⟩
        rw [e] at this
        simp at this
      have hj00 := hj0 hune
      subst hj00
      have s03 := s12.trans s3
      refine ⟨Same.refl _, _, rfl, a, _, dx, _, _, rfl, s03 _ _ h1, T.cls, T.noat 56, rfl, _, rfl, _, rfl, _, _, rfl, rfl, ⟨by omega, by omega, by decide⟩, _, _, rfl, rfl, wa, ws, _, V.int (ways (Lx cs row) row.length (m ||| 2 ^ k) : Nat), rfl, rfl, .inl (.inl (s03 _ _ h5)), by rw [eor_nat]; exact atI_nat (h6.2 _ (Nat.zero_le _) (or_lt hm hkn)), _, _, rfl, rfl, _, rfl, Same.refl _, ite2 (fun hb => ?_) fun hb => ?_⟩
      · have hlen := flat_len (fun k => (LF (Lx cs row) row.length (m ||| 2 ^ k)).map (k :: ·)) _ i k hk
        rw [List.length_map] at hlen
        have hle := flat_le (fun k => (LF (Lx cs row) row.length (m ||| 2 ^ k)).map (k :: ·)) (nextv (Lx cs row) row.length m) (i + 1)
        rw [← LF_step hune, ← hn] at hle
        refine hI _ j k c H s03 hkm (by omega) (fun i2 idx hidx => ?_) fun b' H3 s4 => ⟨s3.trans s4, ⟨_, _, rfl⟩, by rw [hlen]; omega⟩
        have hi2 := (List.getElem?_eq_some_iff.mp hidx).1
        rw [LF_step hune, hj, Nat.zero_add, flat_get _ _ i i2 k hk (by rw [List.length_map]; omega), List.getElem?_map, hidx]
        rfl
      · have hz : ways (Lx cs row) row.length (m ||| 2 ^ k) = 0 := by
          have : ¬ (0 : Int) < ((ways (Lx cs row) row.length (m ||| 2 ^ k) : Nat) : Int) := fun z => hb (decide_eq_true z)
          omega
        refine ⟨s3, ⟨_, _, rfl⟩, ?_⟩
        have hlen := flat_len (fun k => (LF (Lx cs row) row.length (m ||| 2 ^ k)).map (k :: ·)) _ i k hk
        rw [List.length_map] at hlen
        unfold ways at hz
        rw [hlen, hz]
        omega
    · rintro j σ H ⟨s3, _, hj⟩
      rw [List.length_map, List.take_length] at hj
      show j = Γ.n
      by_cases hu : unset row.length m = []
      · have e1 : nextv (Lx cs row) row.length m = [] := by rw [nextv_eq, hu]; rfl
        rw [e1] at hj
        rw [hj, hj1 hu, hn, LF_end hu]
        rfl
      · rw [hj, hj0 hu, hn, LF_step hu, Nat.zero_add]
  refine ⟨_, rfl, _, rfl, a, _, dx, _, _, rfl, h1, T.cls, T.noat 55, rfl, rfl, _, rfl, Same.refl _, ite2 (fun hb => ?_) fun hb => ?_⟩
  · have hu : unset row.length m = [] := by
      have := V.int.inj (of_decide_eq_true hb)
      exact hw.mp (by omega)
    have hN : Γ.n = 1 := by rw [hn, LF_end hu]; rfl
    refine ⟨by omega, Nat.zero_le _, fun t ht => ⟨Same.new ht, ?_, fun H2 s2 => ?_⟩⟩
    · rw [hIt]
      exact ⟨[], by rw [LF_end hu]; rfl, t, [], rfl, upd_same, .nil⟩
    · exact loop 1 (fun _ => rfl) (fun z => absurd hu z) H2 ((Same.new ht).trans s2)
  · have hu : unset row.length m ≠ [] := fun e => by
      apply hb
      have := hw.mpr e
      refine decide_eq_true (congrArg V.int ?_)
      omega
    exact loop 0 (fun z => absurd z hu) (fun _ => rfl) H0 (Same.refl _)
theorem okFrom0 (T : Tx K mg) (d : Nat) (hin : d = 0 ∨ ∃ d', d = d' + 1 ∧ GOk P w K mg base (2 * d' + 2) ["self", "first", "k", "rest"] ["self", "first"] dCFrom (spFrom K d')) : GOk P w K mg base (2 * d + 2) ["self", "first", "k", "rest"] ["self", "first"] dCFrom (spFrom K d) := by
  refine ⟨fun vs H cont h => ?_, fun vs H cont h => ?_⟩
  · obtain ⟨_, _, _, _, rfl, _⟩ := h
    rfl
  obtain ⟨a, row, cs, m, rfl, ct, hm, hd, hcont⟩ := h
  refine ⟨_, _, hcont, fun cd A outer n0 g0 g Φ ok hr H2 sm => ?_⟩
  have hrn : Room 1 (A.deeper (gset P w K mg base ["self", "first", "k", "rest"] dCFrom cd A outer n0 g0 g (LF (Lx cs row) row.length m).length Φ (ItF row cs m) []).env) := Room.deeper (hr.mono (by omega)) _
  have ct2 := ct.same sm
  have term : ∀ tI : gT, gS (gset P w K mg base ["self", "first", "k", "rest"] dCFrom cd A outer n0 g0 g (LF (Lx cs row) row.length m).length Φ (ItF row cs m) []) (match defBody sCFrom with | [_, .For _ _ [.If _ [st] _ _] _ _] => st | _ => .Pass ⟨0, 0, 0, 0⟩) tI →
      gSs (gset P w K mg base ["self", "first", "k", "rest"] dCFrom cd A outer n0 g0 g (LF (Lx cs row) row.length m).length Φ (ItF row cs m) []) dCFrom.body (tFrom K (gset P w K mg base ["self", "first", "k", "rest"] dCFrom cd A outer n0 g0 g (LF (Lx cs row) row.length m).length Φ (ItF row cs m) []) tI) := fun tI hI =>
    gs_cons (gs_if (fun s H => pt_cmpR op_eq (pv 1) (pfld (pv 0)) (nomark _)) (gs_cons (gs_yield ok (fun s H => pe_tup pa_nil)) gs_nil) gs_nil)
      (gs_cons (gs_for ok (fun s H => piL (pe_meth (pv 0) T.cls (T.meth 58) (okNext T) hrn (bCNext T) .nil pass0 (pa_cons (pv 1) pa_nil))) (fun s H => pg_name (i := 2) gCFrom.nd rfl (.inl rfl))
        (gs_cons (gs_if (fun s H => pt_cmpR op_gt (pe_ix ixL (pfld (pv 0)) (pe_op op_or (pv 1) (pe_op op_shl pe_int (pv 2))) (fun _ _ => rfl)) pe_int (nomark _)) (gs_cons hI gs_nil) gs_nil) gs_nil)) gs_nil)
  rcases hin with rfl | ⟨d', rfl, G'⟩
  · refine ⟨_, term _ gs_never, read_from T rfl rfl ct2 hm fun D j k b H3 _ hk _ _ _ => ?_⟩
    obtain ⟨h1, h2⟩ := mem_nextv hk
    have := mem_unset.mpr ⟨h1, h2⟩
    rw [List.eq_nil_of_length_eq_zero (Nat.le_zero.mp hd)] at this
    simp at this
  · have hr2 : Room (2 * d' + 2 + 1) (A.deeper (gset P w K mg base ["self", "first", "k", "rest"] dCFrom cd A outer n0 g0 g (LF (Lx cs row) row.length m).length Φ (ItF row cs m) []).env) := Room.deeper (hr.mono (by omega)) _
    refine ⟨_, term _ (gs_forgen (i0 := 3) ok hr2 (fun s H => gin_meth (d := dCFrom) (pv 0) T.cls (T.meth 59) (T.f 12) gCFrom ncFrom (by decide) G' rfl (room_d hr2) (bCFrom T) (pa_cons (pe_op op_or (pv 1) (pe_op op_shl pe_int (pv 2))) pa_nil)) (fun s H => qcons (qix (qfld (qv 0)) (qv 2)) (qv 3)) gCFrom.nd rfl rfl), read_from T rfl rfl ct2 hm fun D j k b H3 s3 hk hjn hidx hD => ?_⟩
    obtain ⟨dx, ra, aa, wa, us, ws, h1, h2, h3, h4, h5, h6, h7⟩ := (ct2.same s3).all
    obtain ⟨hkn, hkb⟩ := mem_nextv hk
    have hku := mem_unset.mpr ⟨hkn, hkb⟩
    have hul := unset_or_len hku
    refine ⟨_, rfl, a, dx, _, rfl, h1, rfl, _, rfl, _, rfl, _, _, rfl, rfl, ⟨by omega, by omega, by decide⟩, _, _, rfl, rfl, a, row, cs, m ||| 2 ^ k, (by show [V.ref a, V.int (Builtin.bitOr _ _)] = _; rw [eor_nat]), ct2.same s3, or_lt hm hkn, by omega, Same.refl _, hjn, fun _ σ _ => ∃ b', σ = [some (.ref a), some (.int (m : Int)), some (.int (k : Int)), b'], fun _ _ _ _ _ h => h, ⟨b, rfl⟩, ?_, ?_⟩
    · rintro i σ H4 x hi s4 ⟨b', rfl⟩ ⟨idx, hx1, hx2⟩
      obtain ⟨t, vs, rfl, ht, hvs⟩ := hx2
      obtain ⟨u, hu, vu⟩ := Pr.get2 h3 (List.getElem?_eq_getElem hkn)
      have eLF : idx.length ≤ row.length := by
        have hp := ((mem_LF (Lx_irr cs row)).mp (List.mem_of_getElem? hx1)).1.length_eq
        have h9 := List.length_filter_le (fun i => !(m ||| 2 ^ k).testBit i) (List.range row.length)
        rw [List.length_range] at h9
        unfold unset at hp
        omega
      have hvl : vs.length = idx.length := by rw [hvs.length, List.length_map]
      refine ⟨_, rfl, a, _, dx, _, _, rfl, s4 _ _ h1, T.cls, T.noat 53, rfl, _, rfl, ra, us, k, u, rfl, rfl, .inl (.inl (s4 _ _ h2)), hu, _, rfl, t, vs, rfl, .inl (.inl ht), by rw [sizeLine_eq]; omega, fun p hp => ⟨Same.new hp, ⟨k :: idx, hidx i idx hx1, p, u :: vs, rfl, upd_same, ?_⟩, _, rfl⟩⟩
      have ek : rowAt row k = row[k] := by simp [rowAt, List.getD_eq_getElem?_getD, hkn]
      refine .cons ?_ (hvs.same (Same.new hp))
      show Vat _ u (rowAt row k)
      rw [ek]
      exact (vu.same s4).same (Same.new hp)
    · rintro σ H4 s4 ⟨b', rfl⟩
      exact hD b' H4 s4
theorem okFrom (T : Tx K mg) : ∀ d, GOk P w K mg base (2 * d + 2) ["self", "first", "k", "rest"] ["self", "first"] dCFrom (spFrom K d)
  | 0 => okFrom0 T 0 (.inl rfl)
  | d + 1 => okFrom0 T (d + 1) (.inr ⟨d, rfl, okFrom T d⟩)
end
end K91
set_option Elab.async false
set_option linter.all false
set_option maxRecDepth 100000
set_option maxHeartbeats 2000000
/-! The walks: lists. -/
namespace K91
open PySem PySem.Spec PyProof.Rows L2 GenW
open K91M
abbrev nmLists : List Str := ["values", "limit", "converted", "counts"]
def spLists (K : PySem.W.Frag) : SpGen := fun vs H cont => ∃ vv vc l cs, ∃ lim : Int, vs = [vv, .int lim, vc] ∧ RowR K H vv l ∧ RowR K H vc cs ∧ l.length ≤ 12 ∧ (wy cs l 0 : Int) ≤ lim ∧ cont (wy cs l 0) (ItF (srt l) cs 0) H
section
variable {X : Cx} {σ : L2.St} {H : Hp} {s : Shared} {pins : List (Addr × Obj)}
abbrev lSet (X : Cx) (cd : Value) (A : Around) (n0 a : Addr) (g n : Nat) (Φ : Nat → Hp → Shared → Prop) (It : Nat → V → Hp → Prop) (ex : List Addr) : GSet :=
  lset X nmLists dLists.qual dLists.scope (He.fAd X.K dLists.at_) cd A n0 a g n Φ It ex
theorem ncLists : NoCell dLists.scope := noCell_of (by decide +kernel)
theorem lists_lw (T : Tx X.K X.mg) {cd : Value} {A : Around} {n0 a : Addr} {g n : Nat} {Φ : Nat → Hp → Shared → Prop} {It : Nat → V → Hp → Prop} {ex : List Addr} {vv vc : V} {l cs : List VV} {lim : Int}
    (ok : (lSet X cd A n0 a g n Φ It ex).Ok) (hr : Room 29 A) (e : n = wy cs l 0) (eIt : It = ItF (srt l) cs 0) (G : GI (lSet X cd A n0 a g n Φ It ex) 0 [] (L2.start nmLists [vv, .int lim, vc]) H s) (hv : RowR X.K H vv l) (hc : RowR X.K H vc cs) (hl : l.length ≤ 12) (hlim : (wy cs l 0 : Int) ≤ lim) :
    LW (lSet X cd A n0 a g n Φ It ex) n (.func dLists.body (lSet X cd A n0 a g n Φ It ex).env) ((lSet X cd A n0 a g n Φ It ex).M.den (.func dLists.body (lSet X cd A n0 a g n Φ It ex).env)) [] s := by
  have hrn : Room 28 (A.deeper (lSet X cd A n0 a g n Φ It ex).env) := Room.deeper hr _
  refine lw_func fun J => ?_
  refine lw_plain (nxt := fun σ' H' => ∃ x, σ' = [some vv, some (.int lim), some vc, some (.ref x)] ∧ Ct X.K H' x (srt l) cs) over_func (fun s H => ps_asg (pe_make T.mkr (okInit T) (hrn.mono (by decide)) rfl (T.g 51) (bCInit T) .nil pass0 (pa_cons (pv 0) (pa_cons (pv 2) pa_nil))) (pg_name (i := 3) gLists.nd rfl (.inl rfl))) G ?_ fun σ' H' s' G' q => ?_
  · refine ⟨_, rfl, _, rfl, make_ct hv hc hl fun x H2 sm hx ct => ?_⟩
    exact ⟨sm, x, rfl, ct⟩
  obtain ⟨x, rfl, ct⟩ := q
  obtain ⟨dx, ra, aa, wa, us, ws, h1, h2, h3, h4, h5, h6, h7⟩ := ct.all
  refine lw_plain (nxt := fun σ'' H'' => σ'' = [some vv, some (.int lim), some vc, some (.ref x)] ∧ Ct X.K H'' x (srt l) cs) over_func (fun s H => ps_if (pt_cmpR op_gt (pe_ix ixL (pfld (pv 3)) pe_int (fun _ _ => rfl)) (pv 1) (nomark _)) (pss_one ps_never) pss_nil) G' ?_ fun σ'' H'' s'' G'' q => ?_
  · refine ⟨_, rfl, x, _, dx, _, _, rfl, h1, T.cls, T.noat 56, rfl, wa, ws, 0, V.int (wy cs l 0 : Nat), rfl, rfl, .inl (.inl h5), atI_nat (j := 0) (h6.2 0 (Nat.le_refl _) (Nat.two_pow_pos _)), ?_⟩
    refine ⟨_, rfl, _, _, rfl, rfl, _, rfl, ite2 (fun hb => ?_) fun _ => ⟨Same.refl _, rfl, ct⟩⟩
    have := of_decide_eq_true hb
    omega
  obtain ⟨rfl, ct2⟩ := q
  rw [execs_cons_wrap]
  refine lw_from (k := 26) ok hrn ⟨over_func, rfl, rfl, rfl⟩ (fun s H => gin_meth (d := dCFrom) (pv 3) T.cls (T.meth 59) (T.f 12) gCFrom ncFrom (by decide) (okFrom T 12) rfl (room_d hrn) (bCFrom T) (pa_cons pe_int pa_nil)) G'' ?_ fun H3 s3 G3 => ?_
  · obtain ⟨dx, ra, aa, wa, us, ws, h1, h2, h3, h4, h5, h6, h7⟩ := ct2.all
    refine ⟨_, rfl, x, dx, _, rfl, h1, rfl, x, srt l, cs, 0, rfl, ct2, Nat.two_pow_pos _, ?_, Same.refl _, e.symm, eIt.symm⟩
    have := List.length_filter_le (fun i => !(0 : Nat).testBit i) (List.range (srt l).length)
    rw [List.length_range] at this
    exact Nat.le_trans this h7
  · show LW _ 0 _ (.pure (.done (.ret .none))) [] s3
    exact lw_end G3
/-- the call -/
theorem run_lists (T : Tx X.K X.mg) {us : List Value} {vs : List V} {args : Args} {cont : Nat → (Nat → V → Hp → Prop) → Hp → Prop} {E : Value → Shared → Prop} (hca : X.calm = true) (hdp : X.A.depth < recursionLimit) (I : Inv X pins σ H s) (r : Vals vs us) (hb : BindsTo s (fdOf X.K dLists) args ((["values", "limit", "converted"] : List Str).zip us)) (h : spLists X.K vs H cont) :
    wpAny (model X.prog X.w) X.A (PySem.call (.ref (He.fAd X.K dLists.at_)) args.pos args.kw) (fun u s' => ∃ H1 s1 a g n It c N qual scope f cd, u = .ref a ∧ Inv X pins σ H1 s1 ∧ Made s1 a g c s' ∧ LStarts X 29 N qual scope f cd H1 s' s1.heap.objs.size a g n It c ∧ cont n It H1) E s := by
  obtain ⟨oc, od, dV, kV, doc, pm, an, cdv, ct, osl, e, lk, hcd, _, _⟩ := (T.f 14 (d := dLists)).ex
  rw [e] at hb lk
  obtain ⟨vv, vc, l, cs, lim, rfl, hv, hc, hl, hlim, hcont⟩ := h
  refine wpAny_call (codeAny_mono (gmk_call (body := dLists.body) lk hcd gLists (I.ok.hd hca) hdp I.env0 hb r rfl) fun rr s' hq => ?_)
  obtain ⟨a, g, rfl, mk⟩ := hq
  refine ⟨H, s, a, g, _, _, _, nmLists, dLists.qual, dLists.scope, He.fAd X.K dLists.at_, cdv, rfl, I, mk.made, fun A Φ ex s2 H2 hrA hfA hx slp hΦ => ?_, hcont⟩
  have ok : (lSet X cdv A s.heap.objs.size a g (wy cs l 0) Φ (ItF (srt l) cs 0) ex).Ok := set_ok (d := dLists) (g := g) (n := wy cs l 0) (Φ := Φ) (It := ItF (srt l) cs 0) (ex := ex) (cd := cdv) gLists ncLists I rfl mk.lt hx hrA.hd hfA
  have sm : Same H H2 := slp.same
  exact lists_lw T ok hrA rfl rfl (lw_start (Γ := lSet X cdv A s.heap.objs.size a g (wy cs l 0) Φ (ItF (srt l) cs 0) ex) ok I.hok (by show 3 ≤ 4; decide) mk slp hΦ) (hv.same sm) (hc.same sm) hl hlim
def tLists (gV : List V → List V → List V) (n m : Nat) (K : PySem.W.Frag) (t tk : TA) : TCall := fun σ H cont => t σ H fun vs H1 => tk σ H1 fun zs H2 => vs.length = n ∧ zs.length = m ∧ spLists K (gV vs zs) H2 (fun n It H3 => cont n It H3)
variable {p pos : Pos} {e : Expr} {es : List Expr} {kwl : List Keyword} {t tk : TA}
/-- lists(bag, limit = .., converted = ..) -/
theorem lin_lists (T : Tx X.K X.mg) (hca : X.calm = true) (hdp : X.A.depth < recursionLimit) (hg : Gl X "lists") (ha : PA X [e] t) (hkw : PK X kwl tk) (hall : (backToKw pos (keywordEach kwl X.env)).all (·.1.isSome) = true := by rfl) (hks : (backToKw pos (keywordEach kwl X.env)).filterMap (·.1) = (["limit", "converted"] : List Str) := by rfl)
    (he : starEach [e] X.env = (false, eval e X.env) :: starEach [] X.env := by rfl) (hpl : ((backTo pos (starEach [e] X.env)).any (·.1) || (backToKw pos (keywordEach kwl X.env)).any (·.1.isNone)) = false := by rfl) :
    LIn X 29 (.Call (.Name "lists" p) [e] kwl pos) (tLists (fun vs zs => vs ++ zs) 1 2 X.K t tk) := by
  refine ⟨fun pins s σ H cont I h => ?_⟩
  refine wpAny_Call_Name_kw (ld_glob I hg (T.g 10) ?_ (by decide))
  refine PySem.W.callWith_KW (h₀ := X.base) I.ok.mod.kin (T.f 14 (d := dLists)).kp hall (thn (ha.run pos pins s σ H _ I h) fun us s1 ⟨vs, H1, I1, r, q⟩ => ?_) hpl he
  refine thn (hkw.run pos pins s1 σ H1 _ I1 q) fun ws s2 ⟨zs, H2, I2, rz, l1, l2, q2⟩ => ⟨I2.kIn, ?_⟩
  rw [hks]
  exact run_lists (args := ⟨us, (["limit", "converted"] : List Str).zip ws⟩) T hca hdp I2 ((kLists T).rel r rz) ((kLists T).to s2 us ws I2.kIn (by rw [← r.length]; exact l1) (by rw [← rz.length]; exact l2)) q2
end
end K91
namespace K91
open PySem PySem.Spec PyProof.Rows L2 GenW
theorem emp_row {K : PySem.W.Frag} {H : Hp} {a : Addr} (h : emptyAt K a = true) : RowR K H (.ref a) [] := by
  refine ⟨a, [], rfl, .inr (.inr ?_), .nil⟩
  unfold emptyAt at h
  split at h
  · next c d its ep sl e =>
    rw [Bool.and_eq_true] at h
    obtain ⟨h1, h2⟩ := h
    obtain rfl := of_decide_eq_true h1
    have h3 := of_decide_eq_true h2
    obtain rfl := Array.eq_empty_of_size_eq_zero h3
    exact ⟨_, _, _, e, rfl, rfl, Nat.zero_le _, .nil⟩
  · cases h
section
variable {K : PySem.W.Frag} {mg : Str → Option Value}
theorem bLists0 (T : Tx K mg) : ∃ ds, Vals ((dLists.kws K).map (·.2)) ds ∧ Binds K (fdOf K dLists) ["values", "limit", "converted"] ds :=
  FunD.binds0 (T.f 14 (d := dLists)) 1 (fun z => by cases z) rfl fun D _ _ _ _ _ us ks h1 h2 => match us, ks, h1, h2 with | [_], [_, _], _, _ => ⟨_, _, _, _, _, _, rfl, rfl, _, _, _, _, _, _, rfl, rfl, rfl⟩
theorem bCountL0 (T : Tx K mg) : ∃ ds, Vals ((dCountL.kws K).map (·.2)) ds ∧ Binds K (fdOf K dCountL) ["values", "converted"] ds :=
  FunD.binds0 (T.f 13 (d := dCountL)) 1 (fun z => by cases z) rfl fun D _ _ _ _ _ us ks h1 h2 => match us, ks, h1, h2 with | [_], [_], _, _ => ⟨_, _, _, _, _, _, rfl, rfl, rfl⟩
theorem bFirstL0 (T : Tx K mg) : ∃ ds, Vals ((dFirstL.kws K).map (·.2)) ds ∧ Binds K (fdOf K dFirstL) ["values", "converted"] ds :=
  FunD.binds0 (T.f 7 (d := dFirstL)) 1 (fun z => by cases z) rfl fun D _ _ _ _ _ us ks h1 h2 => match us, ks, h1, h2 with | [_], [_], _, _ => ⟨_, _, _, _, _, _, rfl, rfl, rfl⟩
end
section
variable {X : Cx} {p pos : Pos} {e : Expr} {t : TA}
/-- lists(bag) -/
theorem lin_lists0 (T : Tx X.K X.mg) (hca : X.calm = true) (hdp : X.A.depth < recursionLimit) (hg : Gl X "lists") (ha : PA X [e] t)
    (he : starEach [e] X.env = (false, eval e X.env) :: starEach [] X.env := by rfl) (hpl : (backTo pos (starEach [] X.env)).any (·.1) = false := by rfl) :
    LIn X 29 (.Call (.Name "lists" p) [e] [] pos) (fun σ H cont => t σ H fun vs H1 => vs.length = 1 ∧ spLists X.K (vs ++ [.int 1000, .ref (kwAt ("lists", none) "converted" X.K)]) H1 (fun n It H3 => cont n It H3)) := by
  refine ⟨fun pins s σ H cont I h => ?_⟩
  obtain ⟨ds, rd, hb⟩ := bLists0 T
  refine wpAny_Call_Name_kw (ld_glob I hg (T.g 10) ?_ (by decide))
  refine PySem.W.callWith_K (h₀ := X.base) I.ok.mod.kin (T.f 14 (d := dLists)).kp (thn (ha.run pos pins s σ H _ I h) fun us s1 ⟨vs, H1, I1, r, l1, q⟩ => ⟨I1.kIn, ?_⟩) he hpl
  exact run_lists (args := ⟨us, []⟩) T hca hdp I1 (r.append rd) (hb s1 us I1.kIn (by rw [List.length_append, ← r.length, ← rd.length, l1]; rfl)) q
end
end K91
set_option Elab.async false
set_option linter.all false
set_option maxRecDepth 100000
set_option maxHeartbeats 1000000
/-! Turns over a list or a tuple: comprehensions and loops by the item. -/
namespace K91
open PySem PySem.Spec PyProof.Rows L2
/-- the items us come one by one -/
structure JS (J : It) (H1 : Hp) (us : List V) : Prop where
  go : ∀ i H u, Same H1 H → us[i]? = some u → J.go i H
  stop : ∀ i H, Same H1 H → us.length ≤ i → J.stop i H
  yld : ∀ i H y H' u, Same H1 H → J.yld i H y H' → us[i]? = some u → H' = H ∧ y = u
theorem SqL.same {K : PySem.W.Frag} {H H' : Hp} {a : Addr} {us : List V} (h : SqL K H a us) (s : Same H H') : SqL K H' a us := by
  rcases h with (h | ⟨o, h⟩) | h
  · exact .inl (.inl (s _ _ h))
  · exact .inl (.inr ⟨o, s _ _ h⟩)
  · exact .inr h
theorem SqT.same {K : PySem.W.Frag} {H H' : Hp} {a : Addr} {us : List V} (h : SqT K H a us) (s : Same H H') : SqT K H' a us := by
  rcases h with (h | ⟨o, h⟩) | h
  · exact .inl (.inl (s _ _ h))
  · exact .inl (.inr ⟨o, s _ _ h⟩)
  · exact .inr h
theorem JS.list {K : PySem.W.Frag} {H : Hp} {a : Addr} {us : List V} (h : SqL K H a us) : JS (Itl K a) H us :=
  ⟨fun i H' u s e => ⟨us, u, SqL.same h s, e⟩, fun i H' s e => ⟨us, SqL.same h s, e⟩, fun i H' y H'' u s z e => ⟨z.1, Option.some.inj ((z.2 us (SqL.same h s)).symm.trans e)⟩⟩
theorem JS.tup {K : PySem.W.Frag} {H : Hp} {a : Addr} {us : List V} (h : SqT K H a us) : JS (Itt K a) H us :=
  ⟨fun i H' u s e => ⟨us, u, SqT.same h s, e⟩, fun i H' s e => ⟨us, SqT.same h s, e⟩, fun i H' y H'' u s z e => ⟨z.1, Option.some.inj ((z.2 us (SqT.same h s)).symm.trans e)⟩⟩
theorem JS.same {J : It} {H H' : Hp} {us : List V} (h : JS J H us) (s : Same H H') : JS J H' us :=
  ⟨fun i H2 u s2 => h.go i H2 u (s.trans s2), fun i H2 s2 => h.stop i H2 (s.trans s2), fun i H2 y H3 u s2 => h.yld i H2 y H3 u (s.trans s2)⟩
/-- for x in e, e a list or a tuple -/
def iSeq (K : PySem.W.Frag) (tl : TE) : TI := fun σ H R => tl σ H fun x H1 => ∃ a us, x = .ref a ∧ SqB K H1 a us ∧ ∀ J, JS J H1 us → R J H1
theorem pi_seq {X : Cx} {K : PySem.W.Frag} {tg l : Expr} {tl : TE} (hl : PE X l tl) (h : X.K = K := by rfl) : PI X tg l (iSeq K tl) := by
  subst h
  refine ⟨fun pins s σ H R I h => ?_⟩
  refine thn (hl.run pins s σ H _ I h) fun v s1 ⟨x, H1, I1, r1, a, us, e, hq, q⟩ => ?_
  subst e
  cases r1
  rcases hq with hq | hq
  · obtain ⟨its, rv, p, hz⟩ := I1.list hq
    refine wpAny_pyIter_list p.isList ⟨s1.heap.objs.size, [s1.heap.objs.size], _, _, H1, rfl, I1.kept (t' := s1.toks) fun b o e => Heap.get?_push_of_some _ e, turn_list a _, ⟨_, Heap.get?_push_size _ rfl, rfl, rfl⟩, fun b hb => ?_, q _ (JS.list hq)⟩
    obtain rfl : b = s1.heap.objs.size := by simpa using hb
    exact I1.fpOk (Nat.le_refl _) (I1.hok.fresh (Nat.le_refl _))
  · obtain ⟨its, rv, p, hz⟩ := I1.tuple hq
    refine wpAny_pyIter_tuple (show s1.heap.IsTuple a its.toArray from p) ⟨s1.heap.objs.size, [s1.heap.objs.size], _, _, H1, rfl, I1.kept (t' := s1.toks) fun b o e => Heap.get?_push_of_some _ e, turn_tuple a _, ⟨_, Heap.get?_push_size _ rfl, rfl, rfl⟩, fun b hb => ?_, q _ (JS.tup hq)⟩
    obtain rfl : b = s1.heap.objs.size := by simpa using hb
    exact I1.fpOk (Nat.le_refl _) (I1.hok.fresh (Nat.le_refl _))
/-- the turns of a list of values, by what they are -/
theorem lc_list {J : It} {α : Type} {us : List V} {xs : List α} (R : Hp → V → α → Prop) {g : TG} {tt : TT} {te : TE} {vs : List Nat} {σ : L2.St} {H1 : Hp} {D : Addr} {Qd : Hp → Prop} (js : JS J H1 us) (hR : Paired (R H1) us xs) (hRs : ∀ u x H H', Same H H' → R H u x → R H' u x)
    (keep : α → Bool) (F : α → V → Hp → Prop) (hD : H1 D = none) (hz : xs.length ≤ sizeLine)
    (hF : ∀ x y H H', Same H H' → F x y H → F x y H') (hFu : ∀ x y H acc, CI H1 D acc H → F x y H → ∀ acc', F x y (upd H D (.lst acc')))
    (hs : ∀ (i : Nat) (x : α) (y : V) (H : Hp) (Fin : V → Hp → Prop) (Skp : Hp → Prop), Same H1 H → xs[i]? = some x → us[i]? = some y → R H y x → (∀ z H4, keep x = true → Same H H4 → F x z H4 → Fin z H4) → (∀ H3, keep x = false → Same H H3 → Skp H3) →
      g y (wipe σ vs) H fun σ2 H2 => wipe σ2 vs = wipe σ vs ∧ tt σ2 H2 fun b H3 => if b = true then te σ2 H3 Fin else Skp H3)
    (hQ : ∀ acc H, CI H1 D acc H → Paired (fun y x => F x y H) acc (xs.filter keep) → Qd H) :
    ∃ W : Nat → Nat → Hp → Prop, (∃ m, W 0 m (upd H1 D (.lst []))) ∧ ∀ i m H, W i m H →
      (J.stop i H ∧ Qd H) ∨ (J.go i H ∧ ∃ Nx : Hp → Prop, (∀ H', Nx H' → ∃ m', m' < m ∧ W (i + 1) m' H') ∧ ∀ x H', J.yld i H x H' → g x (wipe σ vs) H' fun σ2 H2 => wipe σ2 vs = wipe σ vs ∧ tt σ2 H2 fun b H3 =>
        if b = true then te σ2 H3 fun y H4 => ∃ acc, H4 D = some (.lst acc) ∧ acc.length < sizeLine ∧ Nx (upd H4 D (.lst (acc ++ [y]))) else Nx H3) := by
  have hl := hR.length
  refine lc_items keep F hD hz hF hFu (fun i H s => ⟨fun h => ?_, fun h => js.stop i H s (by omega)⟩) (fun i x y H H' Fin Skp s hx hy fin skp => ?_) hQ
  · exact js.go i H _ s (List.getElem?_eq_getElem (l := us) (i := i) (by omega))
  · obtain ⟨u, hu, r⟩ := Pr.get2 hR hx
    obtain ⟨rfl, rfl⟩ := js.yld i H y H' u s hy hu
    exact hs i x y _ Fin Skp s hx hu (hRs _ _ _ _ s r) fin skp
/-- by an invariant of one's own -/
theorem lc_inv {J : It} {n : Nat} {g : TG} {tt : TT} {te : TE} {vs : List Nat} {σ : L2.St} {H1 : Hp} {D : Addr} {Qd : Hp → Prop} (Iv : Nat → List V → Hp → Prop) (h0 : Iv 0 [] (upd H1 D (.lst []))) (hz : n ≤ sizeLine) (hlen : ∀ i acc H, Iv i acc H → acc.length ≤ i)
    (hgo : ∀ i acc H, Iv i acc H → (i < n → J.go i H) ∧ (n ≤ i → J.stop i H))
    (hs : ∀ (i : Nat) (acc : List V) (y : V) (H H' : Hp) (Fin : V → Hp → Prop) (Skp : Hp → Prop), i < n → Iv i acc H → J.yld i H y H' → (∀ z H4, H4 D = some (.lst acc) → Iv (i + 1) (acc ++ [z]) (upd H4 D (.lst (acc ++ [z]))) → Fin z H4) → (∀ H3, Iv (i + 1) acc H3 → Skp H3) →
      g y (wipe σ vs) H' fun σ2 H2 => wipe σ2 vs = wipe σ vs ∧ tt σ2 H2 fun b H3 => if b = true then te σ2 H3 Fin else Skp H3)
    (hQ : ∀ acc H, Iv n acc H → Qd H) :
    ∃ W : Nat → Nat → Hp → Prop, (∃ m, W 0 m (upd H1 D (.lst []))) ∧ ∀ i m H, W i m H →
      (J.stop i H ∧ Qd H) ∨ (J.go i H ∧ ∃ Nx : Hp → Prop, (∀ H', Nx H' → ∃ m', m' < m ∧ W (i + 1) m' H') ∧ ∀ x H', J.yld i H x H' → g x (wipe σ vs) H' fun σ2 H2 => wipe σ2 vs = wipe σ vs ∧ tt σ2 H2 fun b H3 =>
        if b = true then te σ2 H3 fun y H4 => ∃ acc, H4 D = some (.lst acc) ∧ acc.length < sizeLine ∧ Nx (upd H4 D (.lst (acc ++ [y]))) else Nx H3) := by
  refine ⟨fun i m H => m = n - i ∧ i ≤ n ∧ ∃ acc, Iv i acc H, ⟨n, by simp, Nat.zero_le _, [], h0⟩, ?_⟩
  rintro i m H ⟨rfl, hi, acc, iv⟩
  by_cases hlt : i < n
  · refine .inr ⟨(hgo i acc H iv).1 hlt, fun H' => ∃ acc', Iv (i + 1) acc' H', fun H' h' => ⟨n - (i + 1), by omega, rfl, hlt, h'⟩, fun y H' hy => ?_⟩
    exact hs i acc y H H' _ _ hlt iv hy (fun z H4 q1 q2 => ⟨acc, q1, by have := hlen _ _ _ iv; omega, _, q2⟩) fun H3 q => ⟨acc, q⟩
  · have e : i = n := by omega
    subst e
    exact .inl ⟨(hgo _ acc H iv).2 (Nat.le_refl _), hQ acc H iv⟩
/-- a loop over items, by an invariant -/
theorem for_js {J : It} {us : List V} {g : TG} {tb : TS} {D : Ends} {σ0 : L2.St} {H1 : Hp} (js : JS J H1 us) (Iv : Nat → L2.St → Hp → Prop) (h0 : Iv 0 σ0 H1) (hsm : ∀ i σ H, Iv i σ H → Same H1 H)
    (hs : ∀ i u σ H, us[i]? = some u → Iv i σ H → g u σ H fun σ2 H2 => tb { D with nx := Iv (i + 1), ct := Iv (i + 1), bk := D.nx } σ2 H2) (hd : ∀ σ H, Iv us.length σ H → D.nx σ H) :
    ∃ W : Nat → Nat → L2.St → Hp → Prop, (∃ m, W 0 m σ0 H1) ∧ ∀ i m σ H, W i m σ H →
      (J.stop i H ∧ D.nx σ H) ∨ (J.go i H ∧ ∃ N : L2.St → Hp → Prop, (∀ σ' H', N σ' H' → ∃ m', m' < m ∧ W (i + 1) m' σ' H') ∧ ∀ x H', J.yld i H x H' → g x σ H' fun σ2 H2 => tb { D with nx := N, ct := N, bk := D.nx } σ2 H2) := by
  refine ⟨fun i m σ H => m = us.length - i ∧ i ≤ us.length ∧ Iv i σ H, ⟨us.length, by simp, Nat.zero_le _, h0⟩, ?_⟩
  rintro i m σ H ⟨rfl, hi, p⟩
  have s := hsm _ _ _ p
  by_cases hlt : i < us.length
  · refine Or.inr ⟨js.go i H _ s (List.getElem?_eq_getElem hlt), Iv (i + 1), fun σ' H' p' => ⟨us.length - (i + 1), by omega, rfl, hlt, p'⟩, fun x H' y => ?_⟩
    obtain ⟨rfl, rfl⟩ := js.yld i H x H' _ s y (List.getElem?_eq_getElem hlt)
    exact hs i _ σ _ (List.getElem?_eq_getElem hlt) p
  · have e : i = us.length := by omega
    subst e
    exact .inl ⟨js.stop _ H s (Nat.le_refl _), hd σ H p⟩
/-- a loop over a range, by an invariant -/
theorem for_rg {lo : Int} {n : Nat} {g : TG} {tb : TS} {D : Ends} {σ0 : L2.St} {H1 : Hp} (Iv : Nat → L2.St → Hp → Prop) (h0 : Iv 0 σ0 H1)
    (hs : ∀ i σ H, i < n → Iv i σ H → g (.int (lo + i)) σ H fun σ2 H2 => tb { D with nx := Iv (i + 1), ct := Iv (i + 1), bk := D.nx } σ2 H2) (hd : ∀ σ H, Iv n σ H → D.nx σ H) :
    ∃ W : Nat → Nat → L2.St → Hp → Prop, (∃ m, W 0 m σ0 H1) ∧ ∀ i m σ H, W i m σ H →
      ((Itr lo n).stop i H ∧ D.nx σ H) ∨ ((Itr lo n).go i H ∧ ∃ N : L2.St → Hp → Prop, (∀ σ' H', N σ' H' → ∃ m', m' < m ∧ W (i + 1) m' σ' H') ∧ ∀ x H', (Itr lo n).yld i H x H' → g x σ H' fun σ2 H2 => tb { D with nx := N, ct := N, bk := D.nx } σ2 H2) := by
  refine ⟨fun i m σ H => m = n - i ∧ i ≤ n ∧ Iv i σ H, ⟨n, by simp, Nat.zero_le _, h0⟩, ?_⟩
  rintro i m σ H ⟨rfl, hi, p⟩
  by_cases hlt : i < n
  · refine .inr ⟨hlt, Iv (i + 1), fun σ' H' p' => ⟨n - (i + 1), by omega, rfl, hlt, p'⟩, fun x H' y => ?_⟩
    obtain ⟨e, y⟩ := y
    subst e y
    exact hs i σ _ hlt p
  · have e : i = n := by omega
    subst e
    exact .inl ⟨Nat.le_refl _, hd σ H p⟩
end K91
set_option Elab.async false
set_option linter.all false
set_option maxRecDepth 100000
set_option maxHeartbeats 2000000
/-! The walks: may_come_next, first_list, is_only_list. -/
namespace K91
open PySem PySem.Spec PyProof.Rows L2 GenW
open K91M
def freeV (cs left : List VV) : List VV := left.filter fun v => !(left.any fun o => less cs o v)
def spMay (K : PySem.W.Frag) : Sp := fun vs H Q _ => ∃ a us vc l cs, vs = [.ref a, vc] ∧ H a = some (.lst us) ∧ Vs H us l ∧ l.length ≤ 64 ∧ RowR K H vc cs ∧
  ∀ D us' H', H D = none → Same H H' → H' D = some (.lst us') → Vs H' us' (freeV cs l) → Q (.ref D) H'
def lcSc (names : List (Str × NameKind)) : Scope := { kind := .function, names := names, isGenerator := false, isCoroutine := false }
theorem cany {X : Cx} {K : PySem.W.Frag} (hc : X.calm = true := by rfl) (h : X.K = K := by rfl) : CallR X (.builtin "any") (rAny K) := h ▸ cr_any hc
theorem cMayNext' : FnScope ["left", "converted", "value", "other"] ["left", "converted"] (defScope sMayNext) :=
  ⟨rfl, rfl, rfl, by decide +kernel, rfl, by decide +kernel, by decide +kernel⟩
section
variable {P : Program} {w : World} {K : PySem.W.Frag} {mg : Str → Option Value} {base : Heap}
theorem okMay (T : Tx K mg) : FO P w K mg base 2 dMayNext ["left", "converted"] (spMay K) := by
  refine FunD.ok (T.f 6) cMayNext' (fun vs H Q E h => ?_) (fun cdv A outer s H vs Q E hr h => ⟨_, PSs.nox (pss_one (ps_ret 
    (pe_lc (own := [("value", 2)]) (g := gName 2) rfl cMayNext'.nd (piL (pv 0)) (blkOk_by (N := ["left", "converted", "value", "other"]) (sc := defScope sMayNext) (by decide +kernel)) (fun _ _ _ _ _ => pg_name (i := 2) cMayNext'.nd rfl (Or.inr rfl) (Or.inl rfl))
      (fun _ _ _ _ _ => pts_one (pt_not (pt_val (pe_callB cany (by rfl) (T.fr 40) (by decide +kernel) (pa_cons
        (pe_lc (own := [("other", 3)]) (g := gName 3) rfl cMayNext'.nd (piL (pv 0)) (blkOk_by (N := ["left", "converted", "value", "other"]) (sc := lcSc [(".0", .local), ("value", .cell), ("any", .globalImplicit), ("converted", .cell), ("left", .cell)]) (by decide +kernel)) (fun _ _ _ _ _ => pg_name (i := 3) cMayNext'.nd rfl (Or.inl rfl))
          (fun _ _ _ _ _ => pts_nil)
          (fun _ _ _ _ _ => pe_callN (okIsLess T) hr rfl (T.g 2) (T.f 2).kp (kIsLess T) pass0 (pa_cons (pv 3) (pa_cons (pv 2) pa_nil)) (pk_cons (pv 1) pk_nil))) pa_nil)))))
      (fun _ _ _ _ _ => pv 2)))), ?_⟩)
  · obtain ⟨_, _, _, _, _, rfl, _⟩ := h
    rfl
  obtain ⟨a, us, vc, l, cs, rfl, ha, hu, hl, hc, hQ⟩ := h
  have hz : l.length ≤ sizeLine := by rw [sizeLine_eq]; omega
  refine ⟨_, rfl, a, rfl, ⟨us, .inl (.inl ha)⟩, fun D hD => ?_⟩
  refine lc_list (xs := l) Vat (JS.list (.inl (.inl ha))) hu (fun _ _ _ _ s h => h.same s) (fun v => !(l.any fun o => less cs o v)) (fun x y H => Vat H y x) hD hz (fun _ _ _ _ s h => h.same s) (fun x y H2 acc ci h _ => h.tups (Tups.upd fun t e => by rw [ci.at_] at e; cases e)) (fun i x y H2 Fin Skp sm hx hy vx fin skp => ?_) (fun acc H2 ci pr => ?_)
  · refine ⟨rfl, _, rfl, a, rfl, ⟨us, .inl (.inl (sm _ _ ha))⟩, fun D2 hD2 => ?_⟩
    refine lc_list (xs := l) Vat (JS.list (.inl (.inl (sm _ _ ha)))) (hu.same sm) (fun _ _ _ _ s h => h.same s) (fun _ => true) (fun o z _ => z = V.bl (less cs o x)) hD2 hz (fun _ _ _ _ _ h => h) (fun _ _ _ _ _ h _ => h) (fun i2 x2 y2 H3 Fin2 Skp2 sm3 hx2 hy2 vx2 fin2 skp2 => ?_) (fun acc2 H3 ci2 pr2 => ?_)
    · have sm13 := sm.trans sm3
      exact ⟨rfl, _, rfl, _, rfl, _, rfl, rfl, rfl, _, _, _, _, x, cs, rfl, vx2, vx.same sm3, hc.same sm13, fin2 _ _ rfl (Same.refl _) rfl⟩
    · have e := paired_map (f := fun o => V.bl (less cs o x)) (H := H3) pr2
      rw [show l.filter (fun _ => true) = l from List.filter_eq_self.mpr fun _ _ => rfl] at e
      refine ⟨D2, l.map (fun o => less cs o x), rfl, .inl (.inl ?_), _, rfl, ?_⟩
      · rw [ci2.at_, e, List.map_map]; rfl
      · have e2 : (l.map fun o => less cs o x).any id = l.any fun o => less cs o x := by rw [List.any_map]; rfl
        rw [e2]
        by_cases hb : (l.any fun o => less cs o x) = true
        · rw [hb]
          exact skp _ (by rw [hb]; rfl) ci2.same
        · have hb := Bool.not_eq_true _ ▸ hb
          rw [hb]
          exact ⟨_, rfl, fin _ _ (by rw [hb]; rfl) ci2.same (vx.same ci2.same)⟩
  · exact hQ D acc H2 hD ci.same ci.at_ pr
end
end K91
set_option Elab.async false
set_option linter.all false
set_option maxRecDepth 100000
set_option maxHeartbeats 1000000
/-! Rules that were lacking: list.remove of data. -/
namespace K91
open PySem PySem.Spec PyProof.Rows L2
open SeqAt
theorem len_eraseIdx (l : List V) (j : Nat) : (l.eraseIdx j).length ≤ l.length := by
  rw [List.length_eraseIdx]; split <;> omega
def rRemV (K : PySem.W.Frag) : V → List V → Hp → VK → Prop := fun x xs H Q => ∃ (l : Addr) (y : V) (us : List V) (bs : List VV) (b : VV) (j : Nat), x = .ref l ∧ xs = [y] ∧ H l = some (.lst us) ∧ Vs H us bs ∧ Vat H y b ∧ bs[j]? = some b ∧ (∀ m : Nat, m < j → bs[m]? ≠ some b) ∧ Q .non (upd H l (.lst (us.eraseIdx j)))
theorem mt_removeV {X : Cx} (hu : X.A.units + 65 < cLine) : MtM X "list.remove" (rRemV X.K) := by
  intro pins s σ H x xs v vs Q I rx rxs h
  obtain ⟨l, y, us, bs, b, j, rfl, rfl, hH, hus, hy, hj, hno, q⟩ := h
  cases rx
  obtain ⟨u, rfl, ru⟩ := rxs.one
  obtain ⟨z, its, n, r, hl, e⟩ := I.lstM hH
  have hok := hus.ok
  obtain ⟨cs, r1⟩ := Dp.reads I (encV b) y u hy.dp ru
  obtain ⟨as, h4⟩ := Dp.readsAll I (bs.map encV) us its hus.dp r
  have hxs : PyData.canLayAll0 (bs.map encV) = true := encVs_lay hok
  have sd := encV_shaped (x := b) hy.ok
  have hroom : X.A.units + 1 + min (PyData.depthAll (bs.map encV)) (encV b).depth < cLine := room_in_shaped sd hu
  have hn : its.length = (bs.map encV).length := SeqAt.ReadsAll.length _ its as h4
  have hmap : its.map (SeqAt.readOf s.heap) = bs.map encV := SeqAt.readsAll_map _ its as hxs h4
  rw [List.length_map] at hn
  obtain ⟨hjd, _⟩ := List.getElem?_eq_some_iff.mp hj
  have hjl : j < its.toArray.size := by rw [List.size_toArray]; omega
  have at_ : ∀ (m : Nat) (hm : m < its.toArray.size) (w : VV), bs[m]? = some w → SeqAt.readOf s.heap its.toArray[m] = encV w := by
    intro m hm w hw
    have hml : m < its.length := by simpa using hm
    have e0 : (its.map (SeqAt.readOf s.heap))[m]? = (bs.map encV)[m]? := by rw [hmap]
    rw [List.getElem?_map, List.getElem?_eq_getElem hml, List.getElem?_map, hw] at e0
    simpa using e0
  refine call_meets PySem.F.slot_list_remove ⟨_, e, rfl⟩ PySem.F.entry_list_remove (PySem.F.args_list_remove_2 _ _)
    (SeqAt.list_removeAt l its.toArray n none #[] u (fun u => PyData.eqv (SeqAt.readOf s.heap u) (encV b)) j hjl ?_ ?_ (by rw [List.size_toArray]; omega)) ⟨e, SeqAt.items_eqAt (vs := its.toArray) (show ReadsAll s.heap its.toArray.toList (bs.map encV) as from h4) r1 hxs (SeqAt.canLay_of_shaped sd) hroom, ?_⟩
  · show PyData.eqv (SeqAt.readOf s.heap its.toArray[j]) (encV b) = true
    rw [at_ j hjl b hj, encV_eqv]
    exact decide_eq_true rfl
  · intro m hm hmj
    have hmd : m < bs.length := by omega
    show PyData.eqv (SeqAt.readOf s.heap its.toArray[m]) (encV b) = false
    rw [at_ m hm _ (List.getElem?_eq_getElem hmd), encV_eqv]
    exact decide_eq_false fun e2 => hno m hmj (by rw [List.getElem?_eq_getElem hmd, e2])
  · refine ⟨.non, _, I.lset (its' := its.eraseIdx j) (t' := s.toks) hH e ?_ (r.eraseIdx j) ?_, rfl, q⟩
    · show its.toArray.eraseIdxIfInBounds j = (its.eraseIdx j).toArray
      rw [List.eraseIdxIfInBounds_toArray]
    · have z2 := len_eraseIdx us j
      omega
end K91
set_option Elab.async false
set_option linter.all false
set_option maxRecDepth 100000
set_option maxHeartbeats 2000000
/-! The walks: first_list. -/
namespace K91
open PySem PySem.Spec PyProof.Rows L2 GenW
open K91M
theorem Same.upd_new {H H' : Hp} {q : Addr} {o : HO} (h : Same H H') (hq : H q = none) : Same H (upd H' q o) := fun b u e => by rw [upd_ne (ne_of_none e hq)]; exact h b u e
theorem Tups.lst {H : Hp} {q : Addr} {xs : List V} {o : HO} (h : H q = some (.lst xs)) : Tups H (L2.upd H q o) := Tups.upd fun t e => by rw [h] at e; cases e
theorem room_64 {k : Nat} {A : Around} (hr : Room k A) : A.units + 64 < cLine := by have := hr.un; omega
theorem Vs.dpl {K : PySem.W.Frag} {H : Hp} {a : Addr} {us : List V} {l : List VV} (hu : Vs H us l) (ha : H a = some (.lst us)) : Dp K H (.ref a) (.list (l.map encV)) := .lst (.inl (.inl ha)) hu.dp
theorem eqv_nil (l : List VV) : PyData.eqv (.list (l.map encV)) (.list []) = decide (l = []) := by
  cases l <;> simp [PyData.eqv, PyData.eqvAll]
theorem Pr.eraseIdx {α β : Type} {F : α → β → Prop} : ∀ {xs : List α} {us : List β} (j : Nat), Paired F xs us → Paired F (xs.eraseIdx j) (us.eraseIdx j)
  | _, _, _, .nil => by simp; exact .nil
  | _, _, 0, .cons r t => by simpa using t
  | _, _, j + 1, .cons r t => by simpa using .cons r (Pr.eraseIdx j t)
theorem idx_of {v : VV} : ∀ {l : List VV}, v ∈ l → ∃ j : Nat, l[j]? = some v ∧ (∀ m : Nat, m < j → l[m]? ≠ some v) ∧ l.eraseIdx j = l.erase v
  | [], h => nomatch h
  | x :: l, h => by
    by_cases e : x = v
    · subst e
      exact ⟨0, rfl, fun m hm => absurd hm (Nat.not_lt_zero _), by simp⟩
    · obtain ⟨j, h1, h2, h3⟩ := idx_of (l := l) (by rcases List.mem_cons.mp h with z | z; exact absurd z.symm e; exact z)
      refine ⟨j + 1, by simpa using h1, fun m hm => ?_, ?_⟩
      · cases m with
        | zero => simpa using e
        | succ m => simpa using h2 m (by omega)
      · rw [List.erase_cons_tail (by simpa using e), ← h3]; rfl
/-- one after the other, the first free one -/
def firstGo (cs : List VV) : Nat → List VV → List VV
  | 0, _ => []
  | n + 1, left => match freeV cs left with
    | [] => []
    | v :: _ => v :: firstGo cs n (left.erase v)
def sortable (cs l : List VV) : Prop := ∃ p : List VV, p.Perm l ∧ okl cs p
theorem free_ne {cs l : List VV} (h : sortable cs l) (hl : l ≠ []) : freeV cs l ≠ [] := by
  obtain ⟨p, hp, ok⟩ := h
  cases p with
  | nil => exact absurd (List.nil_perm.mp hp) hl
  | cons v r =>
    have hv : v ∈ l := hp.mem_iff.mp List.mem_cons_self
    have ok2 : (∀ b ∈ r, less cs b v = false) ∧ _ := List.pairwise_cons.mp ok
    have : v ∈ freeV cs l := by
      refine List.mem_filter.mpr ⟨hv, ?_⟩
      have : (l.any fun o => less cs o v) = false := by
        rw [List.any_eq_false]
        intro o ho
        rcases List.mem_cons.mp (hp.mem_iff.mpr ho) with e | e
        · rw [e, less_irr]; exact Bool.false_ne_true
        · rw [ok2.1 o e]; exact Bool.false_ne_true
      rw [this]; rfl
    exact List.ne_nil_of_mem this
theorem sortable_erase {cs l : List VV} (h : sortable cs l) (v : VV) : sortable cs (l.erase v) := by
  obtain ⟨p, hp, ok⟩ := h
  exact ⟨p.erase v, hp.erase v, List.Pairwise.sublist List.erase_sublist ok⟩
def spFirst (K : PySem.W.Frag) : Sp := fun vs H Q _ => ∃ vv vc l cs, vs = [vv, vc] ∧ RowR K H vv l ∧ RowR K H vc cs ∧ l.length ≤ 64 ∧ sortable cs l ∧ ∀ x H', Same H H' → Lat H' x (firstGo cs l.length (srt l)) → Q x H'
section
variable {P : Program} {w : World} {K : PySem.W.Frag} {mg : Str → Option Value} {base : Heap}
theorem okFirst (T : Tx K mg) : FO P w K mg base 3 dFirstL ["values", "converted"] (spFirst K) := by
  refine FunD.ok (T.f 7) cFirstL (fun vs H Q E h => ?_) (fun cdv A outer s H vs Q E hr h => ⟨_, PSs.nox (pss_cons (ps_asg (pe_callB (cr_sortB (Rv := Vat) (enc := encV) (room_u hr) (fun _ _ _ h => h.dp) alike_encV (fun b => by rw [encV_depth]; decide)) (by rfl) (T.fr 39) (by decide +kernel) (pa_cons (pv 0) pa_nil)) (pg_name (i := 2) cFirstL.nd rfl (Or.inl rfl)))
    (pss_cons (ps_asg (pe_lst pa_nil) (pg_name (i := 3) cFirstL.nd rfl (Or.inl rfl)))
    (pss_cons (ps_while PassesOwn.never (pt_cmpR (op_neD (room_64 hr)) (pv 2) (pe_lst pa_nil) (nomark _))
      (pss_cons (ps_asg (pe_call (okMay T) hr rfl (T.g 6) (T.f 6).kp (bMayNext T) .nil pass0 (pa_cons (pv 2) (pa_cons (pv 1) pa_nil))) (pg_name (i := 4) cFirstL.nd rfl (Or.inl rfl)))
      (pss_cons (ps_if (pt_cmpR (op_eqD (room_64 hr)) (pv 4) (pe_lst pa_nil) (nomark _)) (pss_one ps_never) pss_nil)
      (pss_cons (ps_expr (pe_bm PySem.F.plainAttrs_list PySem.F.slot_list_append PySem.F.type_list_append mt_append (pv 3) (pa_cons (pe_ix ixL (pv 4) pe_int (fun _ _ => rfl)) pa_nil)))
      (pss_one (ps_expr (pe_bm PySem.F.plainAttrs_list PySem.F.slot_list_remove PySem.F.type_list_remove (mt_removeV (room_u hr)) (pv 2) (pa_cons (pe_ix ixL (pv 4) pe_int (fun _ _ => rfl)) pa_nil)))))))) 
    (pss_one (ps_ret (pe_tupleOf (by rfl) (T.fr 43) (pv 3))))))), ?_⟩)
  · obtain ⟨_, _, _, _, rfl, _⟩ := h
    rfl
  obtain ⟨vv, vc, l, cs, rfl, ⟨p, us0, rfl, hs, hv⟩, hc, hl, hso, hQ⟩ := h
  have hl0 : us0.length = l.length := hv.length
  refine ⟨_, rfl, p, us0, l, rfl, hs, hv, fun b _ => ⟨_, _, rfl⟩, fun us q hus hq => ?_⟩
  have hlen : us.length = (srt l).length := hus.length
  have hls : (srt l).length = l.length := len_srt
  have hq0 : H q = none := hq
  have s1 : Same H (upd H q (.lst us)) := Same.new hq
  refine ⟨by decide, fun q2 hq2 => ?_⟩
  have n12 : q ≠ q2 := ne_of_none upd_same hq2
  have hq20 : H q2 = none := by rw [upd_ne (Ne.symm n12)] at hq2; exact hq2
  refine ⟨fun m σ H' => ∃ c us fs left found, σ = [some (V.ref p), some vc, some (V.ref q), some (V.ref q2), c] ∧ m = left.length ∧ Same H H' ∧ H' q = some (.lst us) ∧ Vs H' us left ∧ H' q2 = some (.lst fs) ∧ Vs H' fs found ∧ sortable cs left ∧ left.length ≤ 64 ∧ found.length + left.length = l.length ∧ found ++ firstGo cs left.length left = firstGo cs l.length (srt l),
    ⟨_, none, us, [], srt l, [], rfl, rfl, Same.upd_new s1 hq20, by rw [upd_ne n12]; exact upd_same, (Vs.same hus s1).tups (Tups.new hq2), upd_same, .nil, ?_, by omega, by simp [hls], by rw [hls]; rfl⟩, ?_⟩
  · obtain ⟨p', hp', ok'⟩ := hso
    exact ⟨p', hp'.trans (List.mergeSort_perm l _).symm, ok'⟩
  rintro m σ H' ⟨c, us', fs, left, found, rfl, rfl, sm, h1, hu, h2, hf, so, hl64, hfl, hgo⟩
  refine ⟨_, rfl, by decide, fun q3 hq3 => ⟨_, _, (hu.tups (Tups.new hq3)).dpl (by rw [upd_ne (ne_of_none h1 hq3)]; exact h1), .lst (.inl (.inl upd_same)) .nil, listV_shaped hu.ok, rfl, _, rfl, ?_⟩⟩
  rw [eqv_nil]
  refine ite2 (fun hb => ?_) fun hb => ?_
  · have hne : left ≠ [] := by simpa using hb
    obtain ⟨v, r, hfr⟩ := List.exists_cons_of_ne_nil (free_ne so hne)
    have hvl : v ∈ left := (List.mem_filter.mp (show v ∈ freeV cs left by rw [hfr]; exact List.mem_cons_self)).1
    have hpos : 0 < left.length := List.length_pos_of_mem hvl
    have s3 : Same H' (upd H' q3 (.lst [])) := Same.new hq3
    refine ⟨_, fun σ' H2 h => h, ?_⟩
    have sm3 := sm.trans s3
    refine ⟨_, rfl, _, rfl, q, us', vc, left, cs, rfl, s3 _ _ h1, hu.same s3, hl64, hc.same sm3, fun D fu H2 hD sD hDl hDv => ?_⟩
    rw [hfr] at hDv
    cases hDv with
    | cons hv0 hr0 =>
    rename_i u0 fr
    have h1' := sD _ _ (s3 _ _ h1)
    have h2' := sD _ _ (s3 _ _ h2)
    have nqD : q ≠ D := ne_of_none (s3 _ _ h1) hD
    have nq2D : q2 ≠ D := ne_of_none (s3 _ _ h2) hD
    have sm4 := sm3.trans sD
    refine ⟨_, rfl, by decide, fun q4 hq4 => ⟨_, _, (Vs.tups (Tups.new hq4) (.cons hv0 hr0 : Vs H2 (u0 :: fr) (v :: r))).dpl (by rw [upd_ne (ne_of_none hDl hq4)]; exact hDl), .lst (.inl (.inl upd_same)) .nil, listV_shaped (Vs.ok (.cons hv0 hr0 : Vs H2 (u0 :: fr) (v :: r))), rfl, _, rfl, ?_⟩⟩
    rw [eqv_nil]
    refine iteF ?_
    have s4 : Same H2 (upd H2 q4 (.lst [])) := Same.new hq4
    have h1'' := s4 _ _ h1'
    have h2'' := s4 _ _ h2'
    have sm5 := sm4.trans s4
    have hff : fs.length = found.length := hf.length
    refine ⟨_, rfl, .inl ⟨rfl, _, .inl (.inl h2'')⟩, _, rfl, D, _, 0, u0, rfl, rfl, .inl (.inl (s4 _ _ hDl)), atI_nat (j := 0) rfl, q2, fs, u0, rfl, rfl, h2'', by rw [sizeLine_eq]; omega, ?_⟩
    have nq : q ≠ q2 := n12
    have t5 : Tups (upd H2 q4 (.lst [])) (upd (upd H2 q4 (.lst [])) q2 (.lst (fs ++ [u0]))) := Tups.lst h2''
    have nDq2 : D ≠ q2 := Ne.symm nq2D
    obtain ⟨j, hj, hno, her⟩ := idx_of hvl
    have hv0' : Vat (upd H2 q4 (.lst [])) u0 v := hv0.same s4
    refine ⟨_, rfl, .inl ⟨rfl, us', .inl (.inl (by rw [upd_ne nq]; exact h1''))⟩, _, rfl, D, _, 0, u0, rfl, rfl, .inl (.inl (by rw [upd_ne nDq2]; exact s4 _ _ hDl)), atI_nat (j := 0) rfl, q, u0, us', left, v, j, rfl, rfl, by rw [upd_ne nq]; exact h1'', ((((hu.same s3).same sD).same s4 : Vs _ _ _)).tups t5, hv0'.tups t5, hj, hno, (left.erase v).length, ?_, _, us'.eraseIdx j, fs ++ [u0], left.erase v, found ++ [v], rfl, rfl, ?_, upd_same, ?_, ?_, ?_, sortable_erase so v, ?_, ?_, ?_⟩
    · rw [List.length_erase_of_mem hvl]; omega
    · exact Same.upd_new (Same.upd_new sm5 hq20) hq0
    · rw [← her]
      exact Vs.tups (Tups.lst (by rw [upd_ne nq]; exact h1'')) (Pr.eraseIdx j ((((hu.same s3).same sD).same s4 : Vs _ _ _).tups t5))
    · rw [upd_ne (Ne.symm nq)]; exact upd_same
    · exact Vs.tups (Tups.lst (by rw [upd_ne nq]; exact h1'')) (Pr.append ((((hf.same s3).same sD).same s4 : Vs _ _ _).tups t5) (.cons (hv0'.tups t5) .nil))
    · rw [List.length_erase_of_mem hvl]; omega
    · rw [List.length_erase_of_mem hvl, List.length_append, List.length_singleton]; omega
    · rw [← hgo, List.append_assoc]
      obtain ⟨n, hn⟩ : ∃ n, left.length = n + 1 := ⟨left.length - 1, by omega⟩
      rw [List.length_erase_of_mem hvl, hn]
      have ef : firstGo cs (n + 1) left = v :: firstGo cs n (left.erase v) := by
        show (match freeV cs left with | [] => [] | v :: _ => v :: firstGo cs n (left.erase v)) = _
        rw [hfr]
      rw [ef]
      rfl
  · have hnil : left = [] := by simpa using hb
    subst hnil
    have s3 : Same H' (upd H' q3 (.lst [])) := Same.new hq3
    refine ⟨_, rfl, .inl ⟨q2, fs, rfl, .inl (.inl (s3 _ _ h2)), fun q5 hq5 => hQ _ _ ((sm.trans s3).trans (Same.new hq5)) ⟨q5, fs, rfl, upd_same, ?_⟩⟩⟩
    rw [← hgo, List.length_nil]
    show Vs _ fs (found ++ [])
    rw [List.append_nil]
    exact (hf.same s3 : Vs _ _ _).same (Same.new hq5)
end
end K91
set_option Elab.async false
set_option linter.all false
set_option maxRecDepth 100000
set_option maxHeartbeats 1000000
/-! zip(.., strict=True) of two tuples of one length. -/
namespace K91
open PySem PySem.Spec PyProof.Rows L2
abbrev IsZs (h : Heap) (z TI TO : Addr) (f0 : Value) : Prop := h.get? z = some { cls := .type "zip", dict := none, data := .fields #[f0, .bool false, .bool true, .ref TI, .ref TO], slots := #[] }
section
variable {prog : Program} {w : World} {A : Around} {E : Value → Shared → Prop} {s : Shared}
theorem noe_item {it l : Addr} {i : Nat} {items : Array Value} {x : Value} {Q : Option Value → Shared → Prop} (hit : s.heap.IsTupleIter it l i) (hl : s.heap.IsTuple l items) (hx : items[i]? = some x)
    (hQ : ∀ h', h'.IsTupleIter it l (i + 1) → Heap.SameBut it s.heap h' → Q (some x) { s with heap := h' }) : wpAny (model prog w) A (Builtin.SmallTypes.nextOrEnd (.ref it)) Q E s := by
  unfold Builtin.SmallTypes.nextOrEnd
  exact wpAny_bind (wpAny_attempt (RZ.nextOf_tuple_item hit hl hx fun h' h1 h2 => wpAny_pure (hQ h' h1 h2)))
theorem noe_end {it l : Addr} {i : Nat} {items : Array Value} {Q : Option Value → Shared → Prop} (hh : A.handled = none) (hit : s.heap.IsTupleIter it l i) (hl : s.heap.IsTuple l items) (hx : items[i]? = none)
    (hQ : ∀ h', Heap.ExtBut it s.heap h' → Q none { s with heap := h' }) : wpAny (model prog w) A (Builtin.SmallTypes.nextOrEnd (.ref it)) Q E s := by
  unfold Builtin.SmallTypes.nextOrEnd
  refine wpAny_bind (wpAny_attempt (RZ.nextOf_tuple_end hh hit hl hx fun h' e h1 h2 => ?_))
  obtain ⟨o, ho, hc⟩ := h2
  refine wpAny_bind (wpAny_isInstance (T := "StopIteration") (b := true) ⟨o, ho, hc⟩ isSubtype_stop ?_)
  exact wpAny_pure (hQ _ h1)
theorem zs_item {z TI TO i1 i2 l1 l2 : Addr} {k1 k2 : Nat} {xs ys : Array Value} {x y a b : Value} {Q : Value → Shared → Prop} (D : ZipApart z TI TO i1 i2 l1 l2) (hz : IsZs s.heap z TI TO .none) (hTI : IsPair s.heap TI (.ref i1) (.ref i2)) (hTO : IsPair s.heap TO a b)
    (h1 : s.heap.IsTupleIter i1 l1 k1) (h2 : s.heap.IsTupleIter i2 l2 k2) (hl1 : s.heap.IsTuple l1 xs) (hl2 : s.heap.IsTuple l2 ys) (hx : xs[k1]? = some x) (hy : ys[k2]? = some y)
    (hQ : ∀ h', IsZs h' z TI TO (rawInt s.heap.objs.size) → IsPair h' TO x y → h'.IsTupleIter i1 l1 (k1 + 1) → h'.IsTupleIter i2 l2 (k2 + 1) → IsPair h' s.heap.objs.size x y → h'.objs.size = s.heap.objs.size + 1 →
      (∀ c o, c ≠ z → c ≠ TO → c ≠ i1 → c ≠ i2 → s.heap.get? c = some o → h'.get? c = some o) → Q (.ref s.heap.objs.size) { s with heap := h' }) :
    wpAny (model prog w) A (Builtin.«zip.__next__» ⟨[.ref z], []⟩) (fun fin s' => ∃ v, fin = .done (.ret v) ∧ Q v s') E s := by
  show wpAny _ A (field (.ref z) 2 >>= _) _ E s
  refine wpAny_bind (wpAny_field hz rfl (x := .bool true) rfl ?_)
  show wpAny _ A (field (.ref z) 3 >>= _) _ E s
  refine wpAny_bind (wpAny_field hz rfl (x := .ref TI) rfl (wpAny_bind (wpAny_seqItems hTI rfl ?_)))
  show wpAny _ A (Builtin.SmallTypes.ownedTupleIsFree (.ref z) >>= _) _ E s
  refine wpAny_bind ?_
  unfold Builtin.SmallTypes.ownedTupleIsFree
  refine wpAny_bind (wpAny_field hz rfl (x := .none) rfl (wpAny_pure ?_))
  simp only [if_true]
  refine wpAny_bind (wpAny_rule (wpAny_bind (wpAny_field hz rfl (x := .ref TO) rfl ?_)))
  refine wpAny_bind (wpAny_setField_rec hz (by simp) fun ha za sa => ?_)
  replace za : IsZs ha z TI TO .ellipsis := za
  refine wpAny_bind ?_
  simp only [List.zipIdx_cons, List.zipIdx_nil, List.forIn_cons, List.forIn_nil]
  -- the first
  refine wpAny_bind (wpAny_bind (wpAny_onRaise ?_))
  show wpAny _ A (Builtin.SmallTypes.nextOrEnd (.ref i1)) _ _ _
  refine noe_item (h1.extBut sa.extBut D.i1z) (hl1.extBut sa.extBut D.l1z) hx fun hb b1 sb => ?_
  have tb : IsPair hb TO a b := sb.extBut _ _ D.TOi1 (sa.extBut _ _ D.TOz hTO)
  refine wpAny_bind (wpAny_seqItems tb rfl (wpAny_bind (wpAny_updateSeq_pair tb fun hc tc sc => ?_)))
  replace tc : IsPair hc TO x b := tc
  refine wpAny_bind (wpAny_letGo (wpAny_pure ?_))
  -- the second
  refine wpAny_bind (wpAny_bind (wpAny_onRaise ?_))
  show wpAny _ A (Builtin.SmallTypes.nextOrEnd (.ref i2)) _ _ _
  refine noe_item (((h2.extBut sa.extBut D.i2z).extBut sb.extBut D.i12.symm).extBut sc.extBut D.TOi2.symm) (((hl2.extBut sa.extBut D.l2z).extBut sb.extBut D.l2i1).extBut sc.extBut D.l2TO) hy fun hd d2 sd => ?_
  have td : IsPair hd TO x b := sd.extBut _ _ D.TOi2 tc
  refine wpAny_bind (wpAny_seqItems td rfl (wpAny_bind (wpAny_updateSeq_pair td fun he te se => ?_)))
  replace te : IsPair he TO x y := te
  refine wpAny_bind (wpAny_letGo (wpAny_pure (wpAny_pure ?_)))
  refine wpAny_bind (wpAny_seqItems te rfl (wpAny_bind (wpAny_newTuple ?_)))
  have hsz : he.objs.size = s.heap.objs.size := by rw [se.1, sd.1, sc.1, sb.1, sa.1]
  have ze : IsZs he z TI TO .ellipsis := se.extBut _ _ D.TOz.symm (sd.extBut _ _ D.i2z.symm (sc.extBut _ _ D.TOz.symm (sb.extBut _ _ D.i1z.symm za)))
  have ke : ∀ c o, c ≠ z → c ≠ TO → c ≠ i1 → c ≠ i2 → s.heap.get? c = some o → he.get? c = some o := fun c o n1 n2 n3 n4 e => se.extBut _ _ n2 (sd.extBut _ _ n4 (sc.extBut _ _ n2 (sb.extBut _ _ n3 (sa.extBut _ _ n1 e))))
  have e1 : he.IsTupleIter i1 l1 (k1 + 1) := ((b1.extBut sc.extBut D.TOi1.symm).extBut sd.extBut D.i12).extBut se.extBut D.TOi1.symm
  have e2 : he.IsTupleIter i2 l2 (k2 + 1) := d2.extBut se.extBut D.TOi2.symm
  have zlt : z < he.objs.size := Heap.lt_size ze
  show wpAny _ A (Builtin.SmallTypes.ownedTupleHandOut (.ref z) (.ref he.objs.size) >>= _) _ E _
  refine wpAny_bind ?_
  unfold Builtin.SmallTypes.ownedTupleHandOut
  have zf : IsZs (he.push { cls := .type "tuple", data := .seq #[x, y] }) z TI TO .ellipsis := Heap.get?_push_of_some _ ze
  refine wpAny_bind (wpAny_setField_rec zf (by simp) fun hg zg sg => ?_)
  replace zg : IsZs hg z TI TO (rawInt he.objs.size) := zg
  refine wpAny_setField_rec zg (by simp) fun hi zi si => ?_
  replace zi : IsZs hi z TI TO (rawInt he.objs.size) := zi
  have up : ∀ c o, c ≠ z → he.get? c = some o → hi.get? c = some o := fun c o n e => si.extBut _ _ n (sg.extBut _ _ n (Heap.get?_push_of_some _ e))
  have ti : IsPair hi he.objs.size x y := si.extBut _ _ (Nat.ne_of_gt zlt) (sg.extBut _ _ (Nat.ne_of_gt zlt) (Heap.get?_push_size _ rfl))
  have z8 : hi.objs.size = he.objs.size + 1 := by rw [si.1, sg.1, Heap.size_push]
  rw [hsz] at zi ti z8
  refine wpAny_pure ⟨_, rfl, ?_⟩
  show Q (.ref he.objs.size) _
  rw [hsz]
  exact hQ hi zi (up _ _ D.TOz te) (e1.at fun o e => up _ o D.i1z e) (e2.at fun o e => up _ o D.i2z e) ti z8 fun c o n1 n2 n3 n4 e => up c o n1 (ke c o n1 n2 n3 n4 e)
theorem zs_end {z TI TO i1 i2 l1 l2 : Addr} {k1 k2 : Nat} {xs ys : Array Value} {a b : Value} {Q : Fin → Shared → Prop} (hh : A.handled = none) (D : ZipApart z TI TO i1 i2 l1 l2) (hz : IsZs s.heap z TI TO .none) (hTI : IsPair s.heap TI (.ref i1) (.ref i2)) (hTO : IsPair s.heap TO a b)
    (h1 : s.heap.IsTupleIter i1 l1 k1) (h2 : s.heap.IsTupleIter i2 l2 k2) (hl1 : s.heap.IsTuple l1 xs) (hl2 : s.heap.IsTuple l2 ys) (hx : xs[k1]? = none) (hy : ys[k2]? = none)
    (hE : ∀ h' e, (∀ c o, c ≠ z → c ≠ TO → c ≠ i1 → c ≠ i2 → s.heap.get? c = some o → h'.get? c = some o) → (∃ o, h'.get? e = some o ∧ o.cls = .type "StopIteration") → E (.ref e) { s with heap := h' }) :
    wpAny (model prog w) A (Builtin.«zip.__next__» ⟨[.ref z], []⟩) Q E s := by
  show wpAny _ A (field (.ref z) 2 >>= _) Q E s
  refine wpAny_bind (wpAny_field hz rfl (x := .bool true) rfl ?_)
  show wpAny _ A (field (.ref z) 3 >>= _) Q E s
  refine wpAny_bind (wpAny_field hz rfl (x := .ref TI) rfl (wpAny_bind (wpAny_seqItems hTI rfl ?_)))
  show wpAny _ A (Builtin.SmallTypes.ownedTupleIsFree (.ref z) >>= _) Q E s
  refine wpAny_bind ?_
  unfold Builtin.SmallTypes.ownedTupleIsFree
  refine wpAny_bind (wpAny_field hz rfl (x := .none) rfl (wpAny_pure ?_))
  simp only [if_true]
  refine wpAny_bind (wpAny_rule (wpAny_bind (wpAny_field hz rfl (x := .ref TO) rfl ?_)))
  refine wpAny_bind (wpAny_setField_rec hz (by simp) fun ha za sa => ?_)
  replace za : IsZs ha z TI TO .ellipsis := za
  refine wpAny_bind ?_
  simp only [List.zipIdx_cons, List.zipIdx_nil, List.forIn_cons, List.forIn_nil]
  refine wpAny_bind (wpAny_bind (wpAny_onRaise ?_))
  show wpAny _ A (Builtin.SmallTypes.nextOrEnd (.ref i1)) _ _ _
  refine noe_end hh (h1.extBut sa.extBut D.i1z) (hl1.extBut sa.extBut D.l1z) hx fun hb sb => ?_
  have zb : IsZs hb z TI TO .ellipsis := sb _ _ D.i1z.symm za
  refine wpAny_bind (wpAny_setField_rec zb (by simp) fun hc zc sc => ?_)
  refine wpAny_bind ?_
  show wpAny _ A (forIn [(Value.ref i2, 1)] PUnit.unit _ >>= _) _ _ _
  simp only [List.forIn_cons, List.forIn_nil]
  refine wpAny_bind (wpAny_bind ?_)
  refine wpAny_bind (noe_end hh (((h2.extBut sa.extBut D.i2z).extBut sb D.i12.symm).extBut sc.extBut D.i2z) (((hl2.extBut sa.extBut D.l2z).extBut sb D.l2i1).extBut sc.extBut D.l2z) hy fun hd sd => ?_)
  rw [if_neg (by decide)]
  refine wpAny_pure (wpAny_pure (wpAny_bind (wpAny_rule ?_)))
  unfold Builtin.SmallTypes.stopIteration
  show wpAny _ A (newExc (.type "StopIteration") [] >>= _) _ E _
  refine wpAny_bind ?_
  simp only [newExc, newTuple]
  refine wpAny_bind (wpAny_newObj_type ?_ (by size_fits))
  refine wpAny_bind (m := firstArgMember _ _) (wpAny_of_eq (a := Value.none) (by first | rfl | (simp only [firstArgMember]; rfl)) ?_)
  refine wpAny_newObj_type ?_ (by size_fits)
  simp only [raiseNew]
  refine wpAny_bind (wpAny_handled ?_)
  first | rw [show A.in1.handled = none from hh] | rw [hh]
  refine wpAny_bind (wpAny_pure (wpAny_throw ?_))
  exact hE _ _ (fun c o n1 n2 n3 n4 e => Heap.get?_push_of_some _ (Heap.get?_push_of_some _ (sd _ _ n4 (sc.extBut _ _ n1 (sb _ _ n3 (sa.extBut _ _ n1 e)))))) ⟨_, Heap.get?_push_size _ rfl, rfl⟩
theorem pn_item {z TI TO i1 i2 l1 l2 : Addr} {k1 k2 : Nat} {xs ys : Array Value} {x y a b : Value} {Q : Option Value → Shared → Prop} (D : ZipApart z TI TO i1 i2 l1 l2) (hz : IsZs s.heap z TI TO .none) (hTI : IsPair s.heap TI (.ref i1) (.ref i2)) (hTO : IsPair s.heap TO a b)
    (h1 : s.heap.IsTupleIter i1 l1 k1) (h2 : s.heap.IsTupleIter i2 l2 k2) (hl1 : s.heap.IsTuple l1 xs) (hl2 : s.heap.IsTuple l2 ys) (hx : xs[k1]? = some x) (hy : ys[k2]? = some y)
    (hQ : ∀ h', IsZs h' z TI TO (rawInt s.heap.objs.size) → IsPair h' TO x y → h'.IsTupleIter i1 l1 (k1 + 1) → h'.IsTupleIter i2 l2 (k2 + 1) → IsPair h' s.heap.objs.size x y → h'.objs.size = s.heap.objs.size + 1 →
      (∀ c o, c ≠ z → c ≠ TO → c ≠ i1 → c ≠ i2 → s.heap.get? c = some o → h'.get? c = some o) → Q (some (.ref s.heap.objs.size)) { s with heap := h' }) : wpAny (model prog w) A (pyNext (.ref z)) Q E s := by
  have hT : s.TypeIs (.ref z) "zip" := ⟨_, hz, rfl⟩
  unfold pyNext
  refine wpAny_bind (wpAny_attempt (wpAny_callSpecial?_slot (name := Str.ofString "__next__") hT F.slot_zip_next (wpAny_call_entry F.slot_zip_next hT F.entry_zip_next ?_ (F.args_zip_next_1 _))))
  exact zs_item D hz hTI hTO h1 h2 hl1 hl2 hx hy fun h' a1 a2 a3 a4 a5 a6 a7 => wpAny_pure (hQ h' a1 a2 a3 a4 a5 a6 a7)
theorem pn_end {z TI TO i1 i2 l1 l2 : Addr} {k1 k2 : Nat} {xs ys : Array Value} {a b : Value} {Q : Option Value → Shared → Prop} (hh : A.handled = none) (D : ZipApart z TI TO i1 i2 l1 l2) (hz : IsZs s.heap z TI TO .none) (hTI : IsPair s.heap TI (.ref i1) (.ref i2)) (hTO : IsPair s.heap TO a b)
    (h1 : s.heap.IsTupleIter i1 l1 k1) (h2 : s.heap.IsTupleIter i2 l2 k2) (hl1 : s.heap.IsTuple l1 xs) (hl2 : s.heap.IsTuple l2 ys) (hx : xs[k1]? = none) (hy : ys[k2]? = none)
    (hQ : ∀ h', (∀ c o, c ≠ z → c ≠ TO → c ≠ i1 → c ≠ i2 → s.heap.get? c = some o → h'.get? c = some o) → Q none { s with heap := h' }) : wpAny (model prog w) A (pyNext (.ref z)) Q E s := by
  have hT : s.TypeIs (.ref z) "zip" := ⟨_, hz, rfl⟩
  unfold pyNext
  refine wpAny_bind (wpAny_attempt (wpAny_callSpecial?_slot (name := Str.ofString "__next__") hT F.slot_zip_next (wpAny_call_entry F.slot_zip_next hT F.entry_zip_next ?_ (F.args_zip_next_1 _))))
  refine zs_end hh D hz hTI hTO h1 h2 hl1 hl2 hx hy fun h' e hk ⟨o, ho, hc⟩ => ?_
  exact wpAny_bind (wpAny_isInstance (T := "StopIteration") (b := true) ⟨o, ho, hc⟩ isSubtype_stop (wpAny_pure (hQ _ hk)))
theorem lgo_zs {elts : List Expr} {x1} {pos : Pos} {z TI TO T : Addr} {Q : Unit → Shared → Prop} (hz : IsZs s.heap z TI TO (rawInt T)) (hQ : ∀ h', IsZs h' z TI TO .none → Heap.SameBut z s.heap h' → Q () { s with heap := h' }) :
    wpAny (model prog w) A (letOwnedTupleGo (.Tuple elts x1 pos) (.ref z) (.ref T)) Q E s := by
  unfold letOwnedTupleGo
  refine wpAny_bind (wpAny_load hz ?_)
  show wpAny _ A (if (["enumerate", "zip", "dict_itemiterator", "dict_reverseitemiterator", "odict_iterator", "itertools.zip_longest", "itertools.pairwise"].contains "zip" && (#[rawInt T, .bool false, .bool true, .ref TI, .ref TO] : Array Value)[0]? == some (rawInt T)) = true then _ else _) Q E s
  rw [if_pos (by simp)]
  exact wpAny_bind (wpAny_rule (wpAny_setField_rec hz (by simp) fun h' z' s' => hQ h' z' s'))
theorem pit_zs {z TI TO : Addr} {f0 : Value} {Q : Value → Shared → Prop} (hz : IsZs s.heap z TI TO f0) (h : Q (.ref z) s) : wpAny (model prog w) A (pyIter (.ref z)) Q E s := by
  have hT : s.TypeIs (.ref z) "zip" := ⟨_, hz, rfl⟩
  refine wpAny_pyIter_slot hT F.slot_zip_iter (wpAny_call_entry F.slot_zip_iter hT F.entry_zip_iter ?_ (F.args_zip_iter_1 _))
  show wpAny _ _ (ret (.ref z)) _ _ s
  exact wpAny_pure ⟨_, rfl, "zip", _, hT, F.slot_zip_next.lookup, h⟩
end
abbrev zsH (h : Heap) (l1 l2 : Addr) : Heap := ((((h.push { cls := .type "tuple_iterator", data := .fields #[.ref l1, .int 0 0] }).push { cls := .type "tuple_iterator", data := .fields #[.ref l2, .int 0 0] }).push { cls := .type "tuple", data := .seq #[.ref h.objs.size, .ref (h.push { cls := .type "tuple_iterator", data := .fields #[.ref l1, .int 0 0] }).objs.size] }).push { cls := .type "tuple", data := .seq #[.none, .none] })
theorem meets_zs (l1 l2 : Addr) (xs ys : Array Value) :
    Meets (Builtin.«zip.__new__» ⟨[.type "zip", .ref l1, .ref l2], [(Str.ofString "strict", .bool true)]⟩) (fun _ R s => s.heap.IsTuple l1 xs ∧ s.heap.IsTuple l2 ys ∧
      R (.ok (.ret (.ref (zsH s.heap l1 l2).objs.size))) { s with heap := (zsH s.heap l1 l2).push { cls := .type "zip", data := .fields #[.none, .bool false, .bool true, .ref (((s.heap.push { cls := .type "tuple_iterator", data := .fields #[.ref l1, .int 0 0] }).push { cls := .type "tuple_iterator", data := .fields #[.ref l2, .int 0 0] })).objs.size, .ref ((((s.heap.push { cls := .type "tuple_iterator", data := .fields #[.ref l1, .int 0 0] }).push { cls := .type "tuple_iterator", data := .fields #[.ref l2, .int 0 0] }).push { cls := .type "tuple", data := .seq #[.ref s.heap.objs.size, .ref (s.heap.push { cls := .type "tuple_iterator", data := .fields #[.ref l1, .int 0 0] }).objs.size] })).objs.size] } }) :=
  .of_wp fun prog w A R s h => by
    obtain ⟨hp, g, d, tk, os⟩ := s; obtain ⟨hl1, hl2, h⟩ := h
    have hsub := sub_zip
    have e1 : (Str.ofString "strict" == ("strict" : Str)) = true := by decide +kernel
    have e2 : (Str.ofString "strict" != ("strict" : Str)) = false := by decide +kernel
    have hL1 : Heap.IsTuple (Shared.heap ⟨hp, g, d, tk, os⟩) l1 xs := hl1
    have hL2 : Heap.IsTuple (Shared.heap ⟨hp.push { cls := .type "tuple_iterator", data := .fields #[.ref l1, .int 0 0] }, g, d, tk, os⟩) l2 ys := Heap.IsTuple.push hl2 _
    wp_walk using wpAny_pyIter_tuple hL1, wpAny_pyIter_tuple hL2
    exact ⟨_, rfl, h⟩
theorem five_push (h : Heap) (o1 o2 o3 o4 o5 : Obj) (e1 : o1.isFreed = false) (e2 : o2.isFreed = false) (e3 : o3.isFreed = false) (e4 : o4.isFreed = false) (e5 : o5.isFreed = false) :
    (((((h.push o1).push o2).push o3).push o4).push o5).get? h.objs.size = some o1 ∧ (((((h.push o1).push o2).push o3).push o4).push o5).get? (h.objs.size + 1) = some o2 ∧ (((((h.push o1).push o2).push o3).push o4).push o5).get? (h.objs.size + 2) = some o3 ∧ (((((h.push o1).push o2).push o3).push o4).push o5).get? (h.objs.size + 3) = some o4 ∧ (((((h.push o1).push o2).push o3).push o4).push o5).get? (h.objs.size + 4) = some o5 ∧
      ∀ c o, h.get? c = some o → (((((h.push o1).push o2).push o3).push o4).push o5).get? c = some o := by
  have up : ∀ (h : Heap) (o : Obj) (c : Addr) (x : Obj), h.get? c = some x → (h.push o).get? c = some x := fun h o c x e => Heap.get?_push_of_some _ e
  have nw : ∀ (h : Heap) (o : Obj) (n : Nat), h.objs.size = n → o.isFreed = false → (h.push o).get? n = some o := fun h o n e hf => by rw [← e]; exact Heap.get?_push_size _ hf
  exact ⟨up _ _ _ _ (up _ _ _ _ (up _ _ _ _ (up _ _ _ _ (nw h o1 _ rfl e1)))), up _ _ _ _ (up _ _ _ _ (up _ _ _ _ (nw (h.push o1) o2 _ (by simp only [Heap.size_push]) e2))), up _ _ _ _ (up _ _ _ _ (nw ((h.push o1).push o2) o3 _ (by simp only [Heap.size_push]) e3)), up _ _ _ _ (nw (((h.push o1).push o2).push o3) o4 _ (by simp only [Heap.size_push]) e4), nw ((((h.push o1).push o2).push o3).push o4) o5 _ (by simp only [Heap.size_push]) e5, fun c o e => up _ _ _ _ (up _ _ _ _ (up _ _ _ _ (up _ _ _ _ (up _ _ _ _ e))))⟩
theorem zs_tc (a b : Value) : checkTypeCall "zip" ⟨[a, b], [(Str.ofString "strict", .bool true)]⟩ = pure () := by kernel_rfl
theorem zs_nc (a b : Value) : checkBuiltinCall "zip.__new__" ⟨[.type "zip", a, b], [(Str.ofString "strict", .bool true)]⟩ = pure () := by kernel_rfl
theorem zs_init (obj a b : Value) : argsOk "object.__init__" ⟨[obj, a, b], [(Str.ofString "strict", .bool true)]⟩ := by unfold argsOk; kernel_rfl
section
variable {prog : Program} {w : World} {A : Around} {E : Value → Shared → Prop} {s : Shared}
theorem call_zs {l1 l2 : Addr} {xs ys : Array Value} {Q : Value → Shared → Prop} (hl1 : s.heap.IsTuple l1 xs) (hl2 : s.heap.IsTuple l2 ys)
    (h : ∀ h', IsZs h' (s.heap.objs.size + 4) (s.heap.objs.size + 2) (s.heap.objs.size + 3) .none → IsPair h' (s.heap.objs.size + 2) (.ref s.heap.objs.size) (.ref (s.heap.objs.size + 1)) → IsPair h' (s.heap.objs.size + 3) .none .none → h'.IsTupleIter s.heap.objs.size l1 0 → h'.IsTupleIter (s.heap.objs.size + 1) l2 0 →
      (∀ c o, s.heap.get? c = some o → h'.get? c = some o) → Q (.ref (s.heap.objs.size + 4)) { s with heap := h' }) :
    wpAny (model prog w) A (call (.type "zip") [.ref l1, .ref l2] [(Str.ofString "strict", .bool true)]) Q E s := by
  refine callType_newKw F.called_zip (by decide) (zs_tc _ _) (zs_nc _ _) (fun obj => zs_init obj _ _) F.entry_zip_new (meets_zs l1 l2 xs ys) ⟨hl1, hl2, ?_⟩
  have F := five_push s.heap { cls := .type "tuple_iterator", data := .fields #[.ref l1, .int 0 0] } { cls := .type "tuple_iterator", data := .fields #[.ref l2, .int 0 0] } { cls := .type "tuple", data := .seq #[.ref s.heap.objs.size, .ref (s.heap.objs.size + 1)] } { cls := .type "tuple", data := .seq #[.none, .none] } { cls := .type "zip", data := .fields #[.none, .bool false, .bool true, .ref (s.heap.objs.size + 2), .ref (s.heap.objs.size + 3)] } rfl rfl rfl rfl rfl
  simp only [zsH, Heap.size_push]
  obtain ⟨f1, f2, f3, f4, f5, f6⟩ := F
  exact ⟨⟨_, f5, rfl⟩, h _ f5 f3 f4 ⟨_, f1, rfl, rfl⟩ ⟨_, f2, rfl, rfl⟩ f6⟩
end
/-- two tuples of one length, their items in new pairs -/
def ItzS (K : PySem.W.Frag) (a b : Addr) : It :=
  ⟨fun i H => ∃ (xs ys : List V) (x y : V), SqT K H a xs ∧ SqT K H b ys ∧ xs[i]? = some x ∧ ys[i]? = some y,
    fun i H v H' => ∃ T x y, v = .ref T ∧ H T = none ∧ H' = upd H T (.tup [x, y]) ∧ (∀ xs, SqT K H a xs → xs[i]? = some x) ∧ ∀ ys, SqT K H b ys → ys[i]? = some y,
    fun i H => ∃ xs ys : List V, SqT K H a xs ∧ SqT K H b ys ∧ xs.length ≤ i ∧ ys.length ≤ i⟩
theorem five {z TI TO i1 i2 c : Addr} (h : c ∈ [z, TI, TO, i1, i2]) : c = z ∨ c = TI ∨ c = TO ∨ c = i1 ∨ c = i2 := by simpa using h
theorem turn_zs {P : Program} {w : World} {K : PySem.W.Frag} {elts : List Expr} {kk : Nat} {tpos : Pos} {a b z TI TO i1 i2 : Addr} (D : ZipApart z TI TO i1 i2 a b) :
    Turn P w K (.Tuple elts kk tpos) (ItzS K a b) [z, TI, TO, i1, i2] z (fun i h => IsZs h z TI TO .none ∧ IsPair h TI (.ref i1) (.ref i2) ∧ (∃ x y, IsPair h TO x y) ∧ h.IsTupleIter i1 a i ∧ h.IsTupleIter i2 b i) where
  mem := by simp
  obj := fun i h st c hc => by
    obtain ⟨hz, hTI, ⟨x, y, hTO⟩, ⟨o1, e1, _, d1⟩, ⟨o2, e2, _, d2⟩⟩ := st
    rcases five hc with rfl | rfl | rfl | rfl | rfl
    · exact ⟨_, hz, fun v q => nomatch q⟩
    · exact ⟨_, hTI, fun v q => nomatch q⟩
    · exact ⟨_, hTO, fun v q => nomatch q⟩
    · exact ⟨o1, e1, fun v q => by rw [d1] at q; cases q⟩
    · exact ⟨o2, e2, fun v q => by rw [d2] at q; cases q⟩
  keep := fun i h h' st k => by
    obtain ⟨hz, hTI, ⟨x, y, hTO⟩, h1, h2⟩ := st
    exact ⟨k z (by simp) _ hz, k TI (by simp) _ hTI, ⟨x, y, k TO (by simp) _ hTO⟩, h1.at fun o q => k i1 (by simp) o q, h2.at fun o q => k i2 (by simp) o q⟩
  item := by
    intro X hP hw hK hc i pins s σ H E I hf st hg
    subst hP hw hK
    obtain ⟨hz, hTI, ⟨x0, y0, hTO⟩, h1, h2⟩ := st
    obtain ⟨xs, ys, x, y, hqx, hqy, hx, hy⟩ := hg
    obtain ⟨us, rx, px, _⟩ := I.tuple hqx
    obtain ⟨ws, ry, py, _⟩ := I.tuple hqy
    obtain ⟨u, hu, ru⟩ := rx.get hx
    obtain ⟨v, hv, rv⟩ := ry.get hy
    have zlt : z < s.heap.objs.size := Heap.lt_size hz
    refine pn_item D hz hTI hTO h1 h2 px py (x := u) (y := v) (by simpa using hu) (by simpa using hv) fun h' z' to' b1 b2 hT hsz hk => ⟨_, rfl, lgo_zs (s := { s with heap := h' }) z' fun h'' z'' sb => ?_⟩
    have hT2 : h''.get? s.heap.objs.size = some { cls := .type "tuple", data := .seq #[u, v] } := (sb.2 _ (Nat.ne_of_gt zlt)).trans hT
    have kk : ∀ (c : Addr) (o : Obj), c ∉ [z, TI, TO, i1, i2] → s.heap.get? c = some o → h''.get? c = some o := fun c o hb q => (sb.2 c (fun q' => hb (by simp [q']))).trans (hk c o (fun q' => hb (by simp [q'])) (fun q' => hb (by simp [q'])) (fun q' => hb (by simp [q'])) (fun q' => hb (by simp [q'])) q)
    have I1 : Inv X pins σ (upd H s.heap.objs.size (.tup [x, y])) { s with heap := h'' } :=
      I.turnedNew (t' := s.toks) (ch := [z, TI, TO, i1, i2]) kk hf (Nat.le_refl _) ⟨by show 2 ≤ sizeLine; decide, [u, v], .cons ru (.cons rv .nil), ⟨_, hT2, rfl, _, rfl⟩⟩
    refine ⟨.ref s.heap.objs.size, _, I1, rfl, ⟨_, x, y, rfl, I.hok.fresh (Nat.le_refl _), rfl, fun l hl => by rw [I.tuple_inj hl hqx]; exact hx, fun l hl => by rw [I.tuple_inj hl hqy]; exact hy⟩, ⟨z'', (sb.2 _ D.TIz).trans (hk _ _ D.TIz D.TITO D.TIi1 D.TIi2 hTI), ⟨u, v, (sb.2 _ D.TOz).trans to'⟩, b1.at fun o q => (sb.2 _ D.i1z).trans q, b2.at fun o q => (sb.2 _ D.i2z).trans q⟩, fun c hcm => ?_⟩
    have hlt : c < s.heap.objs.size := by
      obtain ⟨_, q1, _⟩ := h1
      obtain ⟨_, q2, _⟩ := h2
      rcases five hcm with rfl | rfl | rfl | rfl | rfl
      · exact zlt
      · exact Heap.lt_size hTI
      · exact Heap.lt_size hTO
      · exact Heap.lt_size q1
      · exact Heap.lt_size q2
    rw [upd_ne (Nat.ne_of_lt hlt)]
    exact (hf c hcm).1
  done := by
    intro X hP hw hK hc i pins s σ H E I hf st hg
    subst hP hw hK
    obtain ⟨hz, hTI, ⟨x0, y0, hTO⟩, h1, h2⟩ := st
    obtain ⟨xs, ys, hqx, hqy, ex, ey⟩ := hg
    obtain ⟨us, rx, px, _⟩ := I.tuple hqx
    obtain ⟨ws, ry, py, _⟩ := I.tuple hqy
    have l1 := rx.length
    have l2 := ry.length
    refine pn_end (I.ok.hd hc) D hz hTI hTO h1 h2 px py (by simp; omega) (by simp; omega) fun h' hk => ⟨rfl, I.turnedL (t' := s.toks) (ch := [z, TI, TO, i1, i2]) (fun c o hb q => ?_) hf⟩
    exact hk c o (fun q' => hb (by simp [q'])) (fun q' => hb (by simp [q'])) (fun q' => hb (by simp [q'])) (fun q' => hb (by simp [q'])) q
  self := fun A i s Q E st h => pit_zs st.1 h
def iZs (K : PySem.W.Frag) (ta : TA) (tk : TA) : TI := fun σ H R => ta σ H fun vs H1 => tk σ H1 fun zs H2 => ∃ a b xs ys, vs = [.ref a, .ref b] ∧ zs = [.bl true] ∧ SqT K H2 a xs ∧ SqT K H2 b ys ∧ R (ItzS K a b) H2
theorem keep_type {K : PySem.W.Frag} {M : Model} (h : Heap) (_ : True) : ∃ k, (k = Keeper.frame ∨ k = Keeper.machine ∨ k = Keeper.boundFrame) ∧ PySem.W.Looks M h (keeperOf (.type "zip")) k := ⟨.machine, .inr (.inl rfl), .of_pure rfl⟩
theorem pi_zs {X : Cx} {e e2 : Expr} {ta tk : TA} {p pos tpos : Pos} {elts : List Expr} {kk : Nat} {kws : List Keyword} (hg : Gl X "zip") (hm : X.mg "zip" = none) (ha : PA X [e, e2] ta) (hk : PK X kws tk) (hall : (backToKw pos (keywordEach kws X.env)).all (·.1.isSome) = true := by rfl) (hks : (backToKw pos (keywordEach kws X.env)).filterMap (·.1) = [Str.ofString "strict"] := by rfl)
    (hs : starEach [e, e2] X.env = (false, eval e X.env) :: starEach [e2] X.env := by rfl) (hpl : ((backTo pos (starEach [e, e2] X.env)).any (·.1) || (backToKw pos (keywordEach kws X.env)).any (·.1.isNone)) = false := by rfl) :
    PI X (.Tuple elts kk tpos) (.Call (.Name "zip" p) [e, e2] kws pos) (iZs X.K ta tk) := by
  refine ⟨fun pins s σ H R I h => wpAny_Call_Name_kw (ld_blt I hg hm PyProof.Rows.boot_zip ?_ (by decide) (by decide))⟩
  refine PySem.W.callWith_of (P := fun _ => True) hpl (fun h x => keep_type (K := X.K) h x) (evalArgs_kw2 hall (thn (ha.run pos pins s σ H _ I h) fun us s0 ⟨vs, H0, I0, r1, q0⟩ => thn (hk.run pos pins s0 σ H0 _ I0 q0) fun ws s1 ⟨zs, H1, I1, rz, q1⟩ => ⟨trivial, ?_⟩) hs)
  obtain ⟨a, b, xs, ys, rfl, rfl, hqx, hqy, q⟩ := q1
  obtain ⟨u, v, rfl⟩ : ∃ u v, us = [u, v] := by cases r1 with | cons _ r => cases r with | cons _ r => cases r; exact ⟨_, _, rfl⟩
  cases r1 with
  | cons ra r => 
  cases r with
  | cons rb r =>
  cases r
  cases ra
  cases rb
  cases rz with
  | cons rt r =>
  cases r
  cases rt
  rw [hks]
  obtain ⟨its, rv, p1, _⟩ := I1.tuple hqx
  obtain ⟨its2, rv2, p2, _⟩ := I1.tuple hqy
  obtain ⟨o1, ho1, _⟩ := id p1
  obtain ⟨o2, ho2, _⟩ := id p2
  refine call_zs (show s1.heap.IsTuple a its.toArray from p1) (show s1.heap.IsTuple b its2.toArray from p2) fun h' hz hTI hTO h1 h2 hk => pit_zs hz ?_
  have I2 : Inv X pins σ H1 { s1 with heap := h' } := I1.kept (t' := s1.toks) hk
  refine ⟨s1.heap.objs.size + 4, [s1.heap.objs.size + 4, s1.heap.objs.size + 2, s1.heap.objs.size + 3, s1.heap.objs.size, s1.heap.objs.size + 1], _, _, H1, rfl, I2, turn_zs (PySem.W.ktu_apart s1.heap.objs.size a b (Heap.lt_size ho1) (Heap.lt_size ho2)), ⟨hz, hTI, ⟨_, _, hTO⟩, h1, h2⟩, fun c hcm => ?_, q⟩
  have hle : s1.heap.objs.size ≤ c := by rcases five hcm with rfl | rfl | rfl | rfl | rfl <;> omega
  exact I1.fpOk hle (I1.hok.fresh hle)
end K91
set_option Elab.async false
set_option linter.all false
set_option maxRecDepth 100000
set_option maxHeartbeats 2000000
/-! The walks: is_only_list. -/
namespace K91
open PySem PySem.Spec PyProof.Rows L2 GenW
open K91M
theorem slA {K : PySem.W.Frag} {H : Hp} {a : Addr} {xs : List V} {lo hi : Option Int} {Q : VK} (ha : SqT K H a xs) (q : ∀ b H', Same H H' → SqT K H' b (cutV xs lo hi) → Q (.ref b) H') : rSlA K (.ref a) lo hi H Q := by
  refine ⟨a, xs, rfl, ha, fun hw => ?_, fun _ p hp => q p _ (Same.new hp) (.inl (.inl upd_same))⟩
  refine q a H (Same.refl _) ?_
  have : cutV xs lo hi = xs := by
    unfold cutV
    rw [hw.1, hw.2]
    simp
  rw [this]
  exact ha
theorem cut_init (us : List V) : cutV us none (some (-1)) = us.dropLast := by
  unfold cutV
  rw [List.dropLast_eq_take]
  show List.take ((-1 + (us.length : Int)).toNat - 0) (List.drop 0 us) = _
  rw [List.drop_zero]
  congr 1
  omega
theorem cut_tail (us : List V) : cutV us (some 1) none = us.tail := by
  unfold cutV
  show List.take (us.length - min 1 us.length) (List.drop (min 1 us.length) us) = _
  cases us with
  | nil => rfl
  | cons a r => simp
def ascend (cs l : List VV) : Bool := (l.dropLast.zip l.tail).all fun p => less cs p.1 p.2
def spOnly (K : PySem.W.Frag) : Sp := fun vs H Q _ => ∃ vr vc l cs, vs = [vr, vc] ∧ Lat H vr l ∧ l.length ≤ 64 ∧ RowR K H vc cs ∧ okl cs l ∧ ∀ H', Same H H' → Q (.bl (ascend cs l)) H'
theorem cIsOnly' : FnScope ["row", "converted", "ascends", "one", "other"] ["row", "converted"] (defScope sIsOnly) :=
  ⟨rfl, rfl, rfl, by decide +kernel, rfl, by decide +kernel, by decide +kernel⟩
theorem call_all {X : Cx} {K : PySem.W.Frag} (hc : X.calm = true := by rfl) (h : X.K = K := by rfl) : CallR X (.builtin "all") (rAll K) := h ▸ cr_all hc
section
variable {P : Program} {w : World} {K : PySem.W.Frag} {mg : Str → Option Value} {base : Heap}
theorem okOnly (T : Tx K mg) : FO P w K mg base 5 dIsOnly ["row", "converted"] (spOnly K) := by
  refine FunD.ok (T.f 8) cIsOnly' (fun vs H Q E h => ?_) (fun cdv A outer s H vs Q E hr h => ⟨_, PSs.nox (pss_cons (ps_setLc (i := 2) (own := [("one", 3), ("other", 4)]) (g := gTup K 2 (gCons (gName 3) (gCons (gName 4) gNil))) rfl cIsOnly'.nd rfl rfl (by rfl) (pi_zs (by rfl) (T.fr 42) (pa_cons (pe_slice sl_tupA (pv 0) po_none (po_some (pe_un un_neg pe_int))) (pa_cons (pe_slice sl_tupA (pv 0) (po_some pe_int) po_none) pa_nil)) (pk_cons pe_bl pk_nil)) (blkOk_by (N := ["row", "converted", "ascends", "one", "other"]) (sc := defScope sIsOnly) (by decide +kernel))
      (fun _ _ _ _ _ => pg_tup rfl (pgs_cons (pg_name (i := 3) cIsOnly'.nd rfl (Or.inl rfl) (Or.inr rfl)) (pgs_cons (pg_name (i := 4) cIsOnly'.nd rfl (Or.inl rfl) (Or.inr rfl)) pgs_nil)))
      (fun _ _ _ _ _ => pts_nil)
      (fun _ _ _ _ _ => pe_callN (okIsLess T) (hr.mono (by decide)) rfl (T.g 2) (T.f 2).kp (kIsLess T) pass0 (pa_cons (pv 3) (pa_cons (pv 4) pa_nil)) (pk_cons (pv 1) pk_nil)))
    (pss_one (ps_ret (pe_and (pe_callB call_all (by rfl) (T.fr 41) (by decide +kernel) (pa_cons (pv 2) pa_nil)) (pe_one (pe_callN (okIsSorted T) hr rfl (T.g 5) (T.f 5).kp (kIsSorted T) pass0 (pa_cons (pv 0) pa_nil) (pk_cons (pv 1) pk_nil))))))), ?_⟩)
  · obtain ⟨_, _, _, _, rfl, _⟩ := h
    rfl
  obtain ⟨vr, vc, l, cs, rfl, ⟨p, us, rfl, hp, hu⟩, hl, hc, hok, hQ⟩ := h
  have hlen : us.length = l.length := hu.length
  have sp0 : SqT K H p us := .inl (.inl hp)
  refine ⟨_, rfl, ?_⟩
  simp only [tNoPart]
  refine ⟨1, rfl, _, rfl, ?_⟩
  refine slA sp0 fun a H1 s1 h1 => ⟨_, rfl, 1, rfl, ?_⟩
  simp only [tNoPart]
  refine slA (SqT.same sp0 s1) fun b H2 s2 h2 => ?_
  rw [cut_init] at h1
  rw [cut_tail] at h2
  have s12 := s1.trans s2
  have h1' : SqT K H2 a us.dropLast := SqT.same h1 s2
  have hu2 : Vs H2 us l := hu.same s12
  have len1 : us.dropLast.length = us.length - 1 := List.length_dropLast
  have len2 : us.tail.length = us.length - 1 := List.length_tail
  have lenz : (l.dropLast.zip l.tail).length = us.length - 1 := by rw [List.length_zip, List.length_dropLast, List.length_tail]; omega
  refine ⟨a, b, _, _, rfl, rfl, h1', h2, fun D hD => ?_⟩
  refine lc_items (xs := l.dropLast.zip l.tail) (fun _ => true) (fun x z _ => z = V.bl (less cs x.1 x.2)) hD (by rw [sizeLine_eq]; omega) (fun _ _ _ _ _ h => h) (fun _ _ _ _ _ h _ => h) (fun i H3 sm => ?_) (fun i x y H3 H4 Fin Skp sm hx hy fin skp => ?_) (fun acc H3 ci pr => ?_)
  · refine ⟨fun h => ⟨_, _, us.dropLast[i]'(by omega), us.tail[i]'(by omega), SqT.same h1' sm, SqT.same h2 sm, List.getElem?_eq_getElem _, List.getElem?_eq_getElem _⟩, fun h => ⟨_, _, SqT.same h1' sm, SqT.same h2 sm, by omega, by omega⟩⟩
  · obtain ⟨hi, hxe⟩ := List.getElem?_eq_some_iff.mp hx
    have hi' : i < us.length - 1 := by omega
    obtain ⟨t, u, v, rfl, hT, rfl, hgu, hgv⟩ := hy
    have gu := hgu _ (SqT.same h1' sm)
    have gv := hgv _ (SqT.same h2 sm)
    have eu : us[i]? = some u := by rw [List.getElem?_dropLast, if_pos (by omega)] at gu; exact gu
    have ev : us[i + 1]? = some v := by rw [List.getElem?_tail] at gv; exact gv
    obtain ⟨x1, ex1, vx1⟩ := Pr.get hu2 eu
    obtain ⟨x2, ex2, vx2⟩ := Pr.get hu2 ev
    have ex : x = (x1, x2) := by
      have e0 : (l.dropLast.zip l.tail)[i]? = some (x1, x2) := by
        rw [List.getElem?_zip_eq_some]
        refine ⟨?_, ?_⟩
        · rw [List.getElem?_dropLast, if_pos (by omega)]; exact ex1
        · rw [List.getElem?_tail]; exact ex2
      rw [hx] at e0
      exact Option.some.inj e0
    subst ex
    have s3 : Same H3 (upd H3 t (.tup [u, v])) := Same.new hT
    have s23 := sm.trans s3
    refine ⟨t, _, rfl, .inl (.inl upd_same), rfl, _, _, rfl, _, _, rfl, rfl, rfl, ?_⟩
    exact ⟨_, rfl, _, rfl, _, rfl, rfl, rfl, _, _, _, x1, x2, cs, rfl, vx1.same s23, vx2.same s23, (hc.same s12).same s23, fin _ _ rfl s3 rfl⟩
  · have e := paired_map (f := fun x : VV × VV => V.bl (less cs x.1 x.2)) (H := H3) pr
    rw [show (l.dropLast.zip l.tail).filter (fun _ => true) = l.dropLast.zip l.tail from List.filter_eq_self.mpr fun _ _ => rfl] at e
    have s3 := s12.trans ci.same
    refine ⟨_, rfl, D, (l.dropLast.zip l.tail).map (fun x => less cs x.1 x.2), rfl, .inl (.inl ?_), _, rfl, ?_⟩
    · rw [ci.at_, e, List.map_map]; rfl
    · have e2 : ((l.dropLast.zip l.tail).map (fun x => less cs x.1 x.2)).all id = ascend cs l := by rw [List.all_map]; rfl
      rw [e2]
      refine ite2 (fun hb => ?_) fun hb => ?_
      · refine ⟨_, rfl, _, rfl, rfl, rfl, _, _, l, cs, rfl, ⟨p, us, rfl, s3 _ _ hp, hu.same s3⟩, hl, hc.same s3, hok, fun H4 s4 => ?_⟩
        have := hQ H4 (s3.trans s4)
        rw [hb] at this
        exact this
      · have hb' : ascend cs l = false := by simpa using hb
        have := hQ H3 s3
        rw [hb'] at this
        exact this
end
end K91
set_option Elab.async false
set_option linter.all false
set_option maxRecDepth 100000
set_option maxHeartbeats 2000000
/-! The walks: is_integer, is_between, list_at. -/
namespace K91
open PySem PySem.Spec PyProof.Rows L2 GenW
open K91M
def spIsInt : Sp := fun vs H Q _ => ∃ i : Int, vs = [.int i] ∧ Q (.bl true) H
def spIsBtw : Sp := fun vs H Q _ => ∃ i a b : Int, vs = [.int i, .int a, .int b] ∧ Q (.bl (decide (a ≤ i) && decide (i ≤ b))) H
section
variable {P : Program} {w : World} {K : PySem.W.Frag} {mg : Str → Option Value} {base : Heap}
theorem okIsInt (T : Tx K mg) : FO P w K mg base 1 dIsInt ["thing"] spIsInt := by
  refine FunD.ok (T.f 0) cIsInt (fun vs H Q E h => ?_) (fun cdv A outer s H vs Q E hr h => ⟨_, PSs.nox (pss_one (ps_ret (pe_and (pe_callB call_isi (by rfl) (T.fr 36) (by decide +kernel) (pa_cons (pv 0) (pa_cons (pe_bltn (v := .ty "int") (by rfl) (T.fr 37) (by decide +kernel) rfl) pa_nil)))
    (pe_one (pe_not (pe_callB call_isi (by rfl) (T.fr 36) (by decide +kernel) (pa_cons (pv 0) (pa_cons (pe_bltn (v := .ty "bool") (by rfl) (T.fr 38) (by decide +kernel) rfl) pa_nil)))))))), ?_⟩)
  · obtain ⟨_, rfl, _⟩ := h
    rfl
  obtain ⟨i, rfl, hQ⟩ := h
  refine ⟨_, rfl, _, _, _, _, true, rfl, .ty _, .base (.int i), kit_ty (by decide +kernel), true, rfl, ?_⟩
  refine iteT ⟨_, rfl, _, _, _, _, false, rfl, .ty _, .base (.int i), kit_ty (by decide +kernel), false, rfl, hQ⟩
theorem okIsBtw (T : Tx K mg) : FO P w K mg base 2 dIsBtw ["thing", "low", "high"] spIsBtw := by
  refine FunD.ok (T.f 1) cIsBtw (fun vs H Q E h => ?_) (fun cdv A outer s H vs Q E hr h => ⟨_, PSs.nox (pss_one (ps_ret (pe_and (pe_call (okIsInt T) hr rfl (T.g 0) (T.f 0).kp (bIsInt T) .nil pass0 (pa_cons (pv 0) pa_nil)) (pe_one (pe_chain op_le op_le (pv 1) (pv 0) (pv 2)))))), ?_⟩)
  · obtain ⟨_, _, _, rfl, _⟩ := h
    rfl
  obtain ⟨i, a, b, rfl, hQ⟩ := h
  refine ⟨_, rfl, i, rfl, true, rfl, iteT ⟨_, rfl, _, rfl, _, _, rfl, rfl, _, rfl, ite2 (fun h => ⟨_, rfl, _, _, rfl, rfl, ?_⟩) fun h => ?_⟩⟩
  · have e : decide (a ≤ i) = true := h
    rw [e, Bool.true_and] at hQ
    exact hQ
  · have e : decide (a ≤ i) = false := by simpa using h
    rw [e, Bool.false_and] at hQ
    exact hQ
end
end K91
set_option Elab.async false
set_option linter.all false
set_option maxRecDepth 100000
set_option maxHeartbeats 2000000
/-! The walks: list_at. -/
namespace K91
open PySem PySem.Spec PyProof.Rows L2 GenW
open K91M
def spListAt (K : PySem.W.Frag) : Sp := fun vs H Q _ => ∃ vv vc l cs idx, ∃ j : Nat, vs = [vv, .int (j : Int), vc] ∧ RowR K H vv l ∧ RowR K H vc cs ∧ l.length ≤ 12 ∧ (LF (Lx cs (srt l)) (srt l).length 0)[j]? = some idx ∧ ∀ x H', Same H H' → Lat H' x (idx.map (rowAt (srt l))) → Q x H'
section
variable {P : Program} {w : World} {K : PySem.W.Frag} {mg : Str → Option Value} {base : Heap}
theorem okListAt (T : Tx K mg) : FO P w K mg base 6 dListAt ["values", "index", "converted"] (spListAt K) := by
  refine FunD.ok (T.f 15) cListAt (fun vs H Q E h => ?_) (fun cdv A outer s H vs Q E hr h => ⟨_, PSs.nox (pss_cons (ps_asg (pe_make T.mkr (okInit T) (hr.mono (by decide)) rfl (T.g 51) (bCInit T) .nil pass0 (pa_cons (pv 0) (pa_cons (pv 2) pa_nil))) (pg_name (i := 3) cListAt.nd rfl (Or.inl rfl)))
    (pss_cons (ps_if (PW.pt (pw_or (pt_not (pt_val (pe_call (okIsInt T) (hr.mono (by decide)) rfl (T.g 0) (T.f 0).kp (bIsInt T) .nil pass0 (pa_cons (pv 1) pa_nil)))) (pw_or1 (pt_not (pt_chain op_le op_lt pe_int (pv 1) (pe_ix ixL (pfld (pv 3)) pe_int (fun _ _ => rfl))))))) (pss_one ps_never) pss_nil)
    (pss_cons (ps_asg (pe_lst pa_nil) (pg_name (i := 4) cListAt.nd rfl (Or.inl rfl)))
    (pss_cons (ps_asg pe_int (pg_name (i := 5) cListAt.nd rfl (Or.inl rfl)))
    (pss_cons (ps_while PassesOwn.never (pt_cmpR op_ne (pv 5) (pfld (pv 3)) (nomark _))
      (pss_cons (ps_for PassesOwn.never rfl (piL (pe_meth (pv 3) T.cls (T.meth 58) (okNext T) (hr.mono (by decide)) (bCNext T) .nil pass0 (pa_cons (pv 5) pa_nil))) (pg_name (i := 6) cListAt.nd rfl (Or.inl rfl))
        (pss_cons (ps_asg (pe_ix ixL (pfld (pv 3)) (pe_op op_or (pv 5) (pe_op op_shl pe_int (pv 6))) (fun _ _ => rfl)) (pg_name (i := 7) cListAt.nd rfl (Or.inl rfl)))
        (pss_cons (ps_if (pt_cmpR op_lt (pv 1) (pv 7) (nomark _)) (pss_one ps_break) pss_nil)
        (pss_one (ps_aug (i := 1) cListAt.nd rfl (Or.inl rfl) (pv 7) iop_sub)))))
      (pss_cons (ps_expr (pe_bm PySem.F.plainAttrs_list PySem.F.slot_list_append PySem.F.type_list_append mt_append (pv 4) (pa_cons (pe_ix ixL (pfld (pv 3)) (pv 6) (fun _ _ => rfl)) pa_nil)))
      (pss_one (ps_aug (i := 5) cListAt.nd rfl (Or.inl rfl) (pe_op op_shl pe_int (pv 6)) iop_or)))))
    (pss_one (ps_ret (pe_tupleOf (by rfl) (T.fr 43) (pv 4))))))))), ?_⟩)
  · obtain ⟨_, _, _, _, _, _, rfl, _⟩ := h
    rfl
  obtain ⟨vv, vc, l, cs, idx, j, rfl, hv, hc, hl, hj, hQ⟩ := h
  refine ⟨_, rfl, _, rfl, make_ct hv hc hl fun x H1 sm1 hx ct => ?_⟩
  generalize srt l = row at *
  obtain ⟨dx, ra, aa, wa, us, ws, h1, h2, h3, h4, h5, h6, h7⟩ := ct.all
  have hjl : j < ways (Lx cs row) row.length 0 := (List.getElem?_eq_some_iff.mp hj).1
  have hp1 : 1 ≤ 2 ^ row.length := Nat.one_le_two_pow
  refine ⟨_, rfl, _, rfl, true, rfl, iteF ⟨_, rfl, _, _, rfl, rfl, _, rfl, ite2 (fun _ => ?_) fun hb => absurd (decide_eq_true (Int.natCast_nonneg j)) hb⟩⟩
  refine ⟨_, rfl, x, _, dx, _, _, rfl, h1, T.cls, T.noat 56, rfl, wa, ws, 0, V.int (ways (Lx cs row) row.length 0 : Nat), rfl, rfl, .inl (.inl h5), atI_nat (j := 0) (h6.2 0 (Nat.le_refl _) (Nat.two_pow_pos _)), _, _, rfl, rfl, _, rfl, ?_⟩
  rw [show decide ((j : Int) < ((ways (Lx cs row) row.length 0 : Nat) : Int)) = true from decide_eq_true (by exact_mod_cast hjl)]
  refine iteF ⟨by decide, fun q hq => ?_⟩
  have n1q : ∀ b o, H1 b = some o → b ≠ q := fun b o e => ne_of_none e hq
  refine ⟨fun n σ H' => ∃ (m i : Nat) (found : List VV) (fs : List V) (rest : List Nat) (b c : Option V), σ = [some vv, some (.int (i : Int)), some vc, some (.ref x), some (.ref q), some (.int (m : Int)), b, c] ∧ n = (unset row.length m).length ∧ m < 2 ^ row.length ∧ Same H1 H' ∧ H' q = some (.lst fs) ∧ Vs H' fs found ∧
      (LF (Lx cs row) row.length m)[i]? = some rest ∧ found ++ rest.map (rowAt row) = idx.map (rowAt row), ⟨_, 0, j, [], [], idx, none, none, rfl, rfl, Nat.two_pow_pos _, Same.new hq, upd_same, .nil, hj, rfl⟩, ?_⟩
  rintro n σ H' ⟨m, i, found, fs, rest, b, c, rfl, rfl, hm, sm, hq1, hf, hi, hfr⟩
  have hw := whole_iff hm
  have hil := (List.getElem?_eq_some_iff.mp hi).1
  refine ⟨_, rfl, _, rfl, x, _, dx, _, _, rfl, sm _ _ h1, T.cls, T.noat 55, rfl, rfl, _, rfl, ite2 (fun hb => ?_) fun hb => ?_⟩
  · have hu : unset row.length m ≠ [] := fun e => by
      have := hw.mpr e
      have e2 : (m : Int) = ((2 ^ row.length : Nat) : Int) - 1 := by omega
      have hb' : (!decide (V.int (m : Int) = V.int (((2 ^ row.length : Nat) : Int) - 1))) = true := hb
      rw [e2] at hb'
      simp at hb'
    rw [LF_step hu] at hi hil
    have ctf : CtF K H' x row cs _ ra aa us := ⟨⟨dx, sm _ _ h1⟩, rfl, rfl, sm _ _ h2, h3.same sm, sm _ _ h4, h7⟩
    refine ⟨_, fun σ' H2 h => h, ?_⟩
    refine ⟨_, rfl, x, dx, _, rfl, sm _ _ h1, rfl, _, rfl, x, row, cs, _, ra, aa, us, m, rfl, ctf, fun L H2 hL s2 h2L => ⟨L, rfl, ⟨_, .inl (.inl h2L)⟩, ?_⟩⟩
    have s12 := sm.trans s2
    refine for_js (JS.list (.inl (.inl h2L))) (fun t σ H3 => Same H2 H3 ∧ ∃ (i' : Nat) (b c : Option V), σ = [some vv, some (.int (i' : Int)), some vc, some (.ref x), some (.ref q), some (.int (m : Int)), b, c] ∧ i = i' + (((nextv (Lx cs row) row.length m).take t).flatMap fun k => (LF (Lx cs row) row.length (m ||| 2 ^ k)).map (k :: ·)).length)
      ⟨Same.refl _, i, b, c, rfl, by simp⟩ (fun _ _ _ h => h.1) ?_ ?_
    · rintro t u σ H3 hu3 ⟨s3, i', b3, c3, rfl, hi3⟩
      rw [List.getElem?_map] at hu3
      obtain ⟨k, hk, rfl⟩ : ∃ k, (nextv (Lx cs row) row.length m)[t]? = some k ∧ u = V.int (k : Int) := by
        cases e : (nextv (Lx cs row) row.length m)[t]? with
        | none => rw [e] at hu3; simp at hu3
        | some k => rw [e] at hu3; simp at hu3; exact ⟨k, rfl, hu3.symm⟩
      obtain ⟨hkn, hkb⟩ := mem_nextv (List.mem_of_getElem? hk)
      have s13 := s12.trans s3
      have hlen := flat_len (fun k => (LF (Lx cs row) row.length (m ||| 2 ^ k)).map (k :: ·)) _ t k hk
      rw [List.length_map] at hlen
      refine ⟨_, rfl, x, _, dx, _, _, rfl, s13 _ _ h1, T.cls, T.noat 56, rfl, _, rfl, _, rfl, _, _, rfl, rfl, ⟨by omega, by omega, by decide⟩, _, _, rfl, rfl, wa, ws, _, V.int (ways (Lx cs row) row.length (m ||| 2 ^ k) : Nat), rfl, rfl, .inl (.inl (s13 _ _ h5)), by rw [eor_nat]; exact atI_nat (h6.2 _ (Nat.zero_le _) (or_lt hm hkn)), ?_⟩
      refine ⟨_, rfl, _, rfl, _, _, rfl, rfl, _, rfl, ite2 (fun hb3 => ?_) fun hb3 => ?_⟩
      · have hlt : i' < ways (Lx cs row) row.length (m ||| 2 ^ k) := by exact_mod_cast of_decide_eq_true hb3
        have hget := flat_get (fun k => (LF (Lx cs row) row.length (m ||| 2 ^ k)).map (k :: ·)) _ t i' k hk (by rw [List.length_map]; unfold ways at hlt; omega)
        rw [Nat.add_comm, ← hi3, hi, List.getElem?_map] at hget
        obtain ⟨rest2, hr2, hrest⟩ : ∃ r2, (LF (Lx cs row) row.length (m ||| 2 ^ k))[i']? = some r2 ∧ rest = k :: r2 := by
          cases e : (LF (Lx cs row) row.length (m ||| 2 ^ k))[i']? with
          | none => rw [e] at hget; simp at hget
          | some r2 => rw [e] at hget; simp at hget; exact ⟨r2, rfl, hget⟩
        subst hrest
        obtain ⟨u, hu', vu⟩ := Pr.get2 h3 (List.getElem?_eq_getElem hkn)
        have ek : rowAt row k = row[k] := by simp [rowAt, List.getD_eq_getElem?_getD, hkn]
        have hq3 : H3 q = some (.lst fs) := s3 _ _ (s2 _ _ hq1)
        have hfl : fs.length < sizeLine := by
          have e1 := hf.length
          have e2 := congrArg List.length hfr
          have e3 : idx.length ≤ row.length := by
            have hp := ((mem_LF (Lx_irr cs row)).mp (List.mem_of_getElem? hj)).1.length_eq
            have h9 := List.length_filter_le (fun i => !(0 : Nat).testBit i) (List.range row.length)
            rw [List.length_range] at h9
            unfold unset at hp
            omega
          rw [List.length_append, List.length_map, List.length_map] at e2
          rw [sizeLine_eq]
          omega
        have hul := unset_or_len (mem_unset.mpr ⟨hkn, hkb⟩)
        have nxq : x ≠ q := n1q _ _ h1
        refine ⟨_, rfl, .inl ⟨rfl, fs, .inl (.inl hq3)⟩, _, rfl, x, _, dx, _, _, rfl, s13 _ _ h1, T.cls, T.noat 53, rfl, _, rfl, ra, us, _, u, rfl, rfl, .inl (.inl (s13 _ _ h2)), atI_nat hu', q, fs, u, rfl, rfl, hq3, hfl, _, rfl, _, rfl, _, _, rfl, rfl, ⟨by omega, by omega, by decide⟩, _, _, rfl, rfl, _, ?_, m ||| 2 ^ k, i', found ++ [rowAt row k], fs ++ [u], rest2, some (.int (k : Int)), some (.int (ways (Lx cs row) row.length (m ||| 2 ^ k) : Nat)), ?_, rfl, or_lt hm hkn, Same.upd_new s13 hq, upd_same, ?_, hr2, ?_⟩
        · omega
        · rw [← eor_nat]; rfl
        · refine Vs.tups (Tups.lst hq3) (Pr.append ((hf.same s2 : Vs _ _ _).same s3) (.cons ?_ .nil))
          rw [ek]
          exact vu.same s13
        · rw [← hfr, List.append_assoc]; rfl
      · have hge : ways (Lx cs row) row.length (m ||| 2 ^ k) ≤ i' := by
          have : ¬ ((i' : Int) < ((ways (Lx cs row) row.length (m ||| 2 ^ k) : Nat) : Int)) := fun z => hb3 (decide_eq_true z)
          omega
        refine ⟨_, rfl, _, rfl, _, _, rfl, rfl, s3, i' - ways (Lx cs row) row.length (m ||| 2 ^ k), some (.int (k : Int)), some (.int (ways (Lx cs row) row.length (m ||| 2 ^ k) : Nat)), ?_, ?_⟩
        · have e : ((i' - ways (Lx cs row) row.length (m ||| 2 ^ k) : Nat) : Int) = (i' : Int) - ((ways (Lx cs row) row.length (m ||| 2 ^ k) : Nat) : Int) := by omega
          rw [e]; rfl
        · rw [hlen]
          unfold ways at hge ⊢
          omega
    · rintro σ H3 ⟨s3, i', b3, c3, rfl, hi3⟩
      exfalso
      rw [List.length_map, List.take_length] at hi3
      omega
  · have hu : unset row.length m = [] := by
      have hb' : ¬ (!decide (V.int (m : Int) = V.int (((2 ^ row.length : Nat) : Int) - 1))) = true := hb
      have e : V.int (m : Int) = V.int (((2 ^ row.length : Nat) : Int) - 1) := Decidable.byContradiction fun z => hb' (by rw [decide_eq_false z]; rfl)
      have e2 := V.int.inj e
      exact hw.mp (by omega)
    rw [LF_end hu] at hi
    have hrest : rest = [] := by
      cases i with
      | zero => simpa using hi.symm
      | succ i => simp at hi
    subst hrest
    refine ⟨_, rfl, .inl ⟨q, fs, rfl, .inl (.inl hq1), fun q5 hq5 => hQ _ _ ((sm1.trans sm).trans (Same.new hq5)) ⟨q5, fs, rfl, upd_same, ?_⟩⟩⟩
    rw [← hfr, List.map_nil, List.append_nil]
    exact hf.same (Same.new hq5)
end
end K91
set_option Elab.async false
set_option linter.all false
set_option maxRecDepth 100000
set_option maxHeartbeats 2000000
/-! The walks: index_of. -/
namespace K91
open PySem PySem.Spec PyProof.Rows L2 GenW
open K91M
theorem flat_at {α β : Type} (f : α → List β) : ∀ (l : List α) (i : Nat) (y : β), (l.flatMap f)[i]? = some y → ∃ t x r, l[t]? = some x ∧ (f x)[r]? = some y ∧ i = ((l.take t).flatMap f).length + r
  | [], i, y, h => by simp at h
  | a :: l, i, y, h => by
    rw [List.flatMap_cons] at h
    by_cases hi : i < (f a).length
    · rw [List.getElem?_append_left hi] at h
      exact ⟨0, a, i, rfl, h, by simp⟩
    · rw [List.getElem?_append_right (by omega)] at h
      obtain ⟨t, x, r, h1, h2, h3⟩ := flat_at f l _ y h
      refine ⟨t + 1, x, r, by simpa using h1, h2, ?_⟩
      rw [List.take_succ_cons, List.flatMap_cons, List.length_append]
      omega
theorem filter_lt {l : List Nat} (h : l.Pairwise (· < ·)) {t x : Nat} (hx : l[t]? = some x) : l.filter (fun k => decide (k < x)) = l.take t := by
  obtain ⟨ht, hxe⟩ := List.getElem?_eq_some_iff.mp hx
  conv => lhs; rw [← List.take_append_drop t l]
  rw [List.filter_append]
  have e1 : (l.take t).filter (fun k => decide (k < x)) = l.take t := by
    rw [List.filter_eq_self]
    intro k hk
    obtain ⟨i, hi, e⟩ := List.mem_iff_getElem.mp hk
    rw [List.length_take] at hi
    rw [List.getElem_take] at e
    have := List.pairwise_iff_getElem.mp h i t (by omega) ht (by omega)
    rw [e, hxe] at this
    exact decide_eq_true this
  have e2 : (l.drop t).filter (fun k => decide (k < x)) = [] := by
    rw [List.filter_eq_nil_iff]
    intro k hk
    obtain ⟨i, hi, e⟩ := List.mem_iff_getElem.mp hk
    rw [List.length_drop] at hi
    rw [List.getElem_drop] at e
    intro hlt
    have hlt := of_decide_eq_true hlt
    rcases Nat.eq_zero_or_pos i with z | z
    · subst z
      simp only [Nat.add_zero] at e
      omega
    · have := List.pairwise_iff_getElem.mp h t (t + i) ht (by omega) (by omega)
      rw [e, hxe] at this
      omega
  rw [e1, e2, List.append_nil]
theorem nextv_asc (L : Nat → Nat → Bool) (n m : Nat) : (nextv L n m).Pairwise (· < ·) := List.Pairwise.filter _ List.pairwise_lt_range
theorem paired_self {α β : Type} {f : α → β} : ∀ l : List α, Paired (fun u x => u = f x) (l.map f) l
  | [] => .nil
  | _ :: l => .cons rfl (paired_self l)
theorem sum_flat (L : Nat → Nat → Bool) (n m : Nat) : ∀ l : List Nat, ((l.map fun k => ((ways L n (m ||| 2 ^ k) : Nat) : Int)).sum : Int) = ((l.flatMap fun k => (LF L n (m ||| 2 ^ k)).map (k :: ·)).length : Int)
  | [] => rfl
  | k :: l => by
    rw [List.map_cons, List.sum_cons, sum_flat L n m l, List.flatMap_cons, List.length_append, List.length_map]
    unfold ways
    push_cast
    rfl
def spIndexOf (K : PySem.W.Frag) : Sp := fun vs H Q _ => ∃ vr vc row cs idx, ∃ j : Nat, vs = [vr, vc] ∧ Lat H vr (idx.map (rowAt row)) ∧ RowR K H vc cs ∧ srt (idx.map (rowAt row)) = row ∧ row.Nodup ∧ row.length ≤ 12 ∧ okl cs (idx.map (rowAt row)) ∧ (LF (Lx cs row) row.length 0)[j]? = some idx ∧ ∀ H', Same H H' → Q (.int (j : Int)) H'
theorem cIndexOf' : FnScope ["row", "converted", "counts", "found", "first", "value", "place", "k"] ["row", "converted"] (defScope sIndexOf) :=
  ⟨rfl, rfl, rfl, by decide +kernel, rfl, by decide +kernel, by decide +kernel⟩
section
variable {P : Program} {w : World} {K : PySem.W.Frag} {mg : Str → Option Value} {base : Heap}
theorem okIndexOf (T : Tx K mg) : FO P w K mg base 6 dIndexOf ["row", "converted"] (spIndexOf K) := by
  refine FunD.ok (T.f 16) cIndexOf' (fun vs H Q E h => ?_) (fun cdv A outer s H vs Q E hr h => ⟨_, PSs.nox (pss_cons (ps_asg (pe_make T.mkr (okInit T) (hr.mono (by decide)) rfl (T.g 51) (bCInit T) .nil pass0 (pa_cons (pv 0) (pa_cons (pv 1) pa_nil))) (pg_name (i := 2) cIndexOf'.nd rfl (Or.inr rfl)))
    (pss_cons (ps_expr (pe_call (okNeedS T) (hr.mono (by decide)) rfl (T.g 4) (T.f 4).kp (bNeedS T) .nil pass0 (pa_cons (pv 0) (pa_cons (pv 1) pa_nil))))
    (pss_cons (ps_asg2 pe_int (pg_name (i := 3) cIndexOf'.nd rfl (Or.inl rfl)) (pg_name (i := 4) cIndexOf'.nd rfl (Or.inr rfl)))
    (pss_cons (ps_for PassesOwn.never rfl (pi_tup (pv 0)) (pg_name (i := 5) cIndexOf'.nd rfl (Or.inl rfl))
      (pss_cons (ps_asg (pe_bm PySem.F.plainAttrs_list PySem.F.slot_list_index PySem.F.type_list_index (mt_indexD (room_u hr)) (pfld (pv 2)) (pa_cons (pv 5) pa_nil)) (pg_name (i := 6) cIndexOf'.nd rfl (Or.inr rfl)))
      (pss_cons (ps_aug (i := 3) cIndexOf'.nd rfl (Or.inl rfl) (pe_callB (cr_sum rfl) (by rfl) (T.fr 45) (by decide +kernel) (pa_cons
        (pe_lc (own := [("k", 7)]) (g := gName 7) rfl cIndexOf'.nd (piL (pe_meth (pv 2) T.cls (T.meth 58) (okNext T) (hr.mono (by decide)) (bCNext T) .nil pass0 (pa_cons (pv 4) pa_nil))) (blkOk_by (N := ["row", "converted", "counts", "found", "first", "value", "place", "k"]) (sc := defScope sIndexOf) (by decide +kernel)) (fun _ _ _ _ _ => pg_name (i := 7) cIndexOf'.nd rfl (Or.inl rfl))
          (fun _ _ _ _ _ => pts_one (pt_cmpR op_lt (pv 7) (pv 6) (nomark _)))
          (fun _ _ _ _ _ => pe_ix ixL (pfld (pv 2)) (pe_op op_or (pv 4) (pe_op op_shl pe_int (pv 7))) (fun _ _ => rfl))) pa_nil)) iop_add)
      (pss_one (ps_aug (i := 4) cIndexOf'.nd rfl (Or.inr rfl) (pe_op op_shl pe_int (pv 6)) iop_or)))))
    (pss_one (ps_ret (pv 3))))))), ?_⟩)
  · obtain ⟨_, _, _, _, _, _, rfl, _⟩ := h
    rfl
  obtain ⟨vr, vc, row, cs, idx, j, rfl, hv, hc, hsrt, hnd, hrl, hok, hj, hQ⟩ := h
  have hll : (idx.map (rowAt row)).length ≤ 12 := by rw [← len_srt, hsrt]; exact hrl
  refine ⟨_, rfl, _, rfl, make_ct hv.row hc hll fun x H1 sm1 hx ct => ?_⟩
  rw [hsrt] at ct
  obtain ⟨dx, ra, aa, wa, us, ws, h1, h2, h3, h4, h5, h6, h7⟩ := ct.all
  have hv1 := hv.same sm1
  refine ⟨_, rfl, _, rfl, _, _, _, cs, rfl, hv1, by omega, hc.same sm1, hok, fun H2 sm2 => ?_⟩
  obtain ⟨p, qs, rfl, hp, hqs⟩ := hv1
  have sm12 := sm1.trans sm2
  refine ⟨_, rfl, p, rfl, ⟨qs, .inl (.inl (sm2 _ _ hp))⟩, ?_⟩
  have hqs2 := hqs.same sm2
  have hp1 : 1 ≤ 2 ^ row.length := Nat.one_le_two_pow
  have hql : qs.length = idx.length := by rw [hqs.length, List.length_map]
  refine for_js (JS.tup (.inl (.inl (sm2 _ _ hp)))) (fun t σ H3 => Same H2 H3 ∧ ∃ (m i f : Nat) (b c : Option V), σ = [some (.ref p), some vc, some (.ref x), some (.int (f : Int)), some (.int (m : Int)), b, c, none] ∧ m < 2 ^ row.length ∧ j = f + i ∧ (LF (Lx cs row) row.length m)[i]? = some (idx.drop t))
    ⟨Same.refl _, 0, j, 0, none, none, rfl, Nat.two_pow_pos _, by omega, hj⟩ (fun _ _ _ h => h.1) ?_ ?_
  · rintro t u σ H3 hu3 ⟨s3, m, i, f, b, c, rfl, hm, hjf, hi⟩
    obtain ⟨ht, _⟩ := List.getElem?_eq_some_iff.mp hu3
    have hti : t < idx.length := by omega
    have edr : idx.drop t = idx[t] :: idx.drop (t + 1) := List.drop_eq_getElem_cons hti
    rw [edr] at hi
    generalize hk : idx[t] = k at *
    have hne : unset row.length m ≠ [] := fun e => by
      rw [LF_end e] at hi
      cases i with
      | zero => simp at hi
      | succ i => simp at hi
    rw [LF_step hne] at hi
    obtain ⟨tt, k', r, hk1, hk2, hk3⟩ := flat_at _ _ _ _ hi
    rw [List.getElem?_map] at hk2
    obtain ⟨rest, hr1, hr2⟩ : ∃ rest, (LF (Lx cs row) row.length (m ||| 2 ^ k'))[r]? = some rest ∧ k' :: rest = k :: idx.drop (t + 1) := by
      cases e : (LF (Lx cs row) row.length (m ||| 2 ^ k'))[r]? with
      | none => rw [e] at hk2; simp at hk2
      | some rest => rw [e] at hk2; exact ⟨rest, rfl, by simpa using hk2⟩
    obtain ⟨rfl, rfl⟩ := List.cons.inj hr2
    obtain ⟨hkn, hkb⟩ := mem_nextv (List.mem_of_getElem? hk1)
    have s13 := sm2.trans s3
    have ek : rowAt row k' = row[k'] := by simp [rowAt, List.getD_eq_getElem?_getD, hkn]
    obtain ⟨y, hy1, hy2⟩ := Pr.get (hqs2.same s3 : Vs _ _ _) hu3
    have hye : y = row[k'] := by
      rw [List.getElem?_map, List.getElem?_eq_getElem hti, hk] at hy1
      rw [← ek]
      exact (Option.some.inj hy1).symm
    subst hye
    have hus3 := h3.same s13
    refine ⟨_, rfl, x, _, dx, _, _, rfl, s13 _ _ h1, T.cls, T.noat 53, rfl, .inl ⟨rfl, us, .inl (.inl (s13 _ _ h2))⟩, _, rfl, ra, _, encV row[k'], row.map encV, k', encV row[k'], rfl, rfl, Vs.dpl hus3 (s13 _ _ h2), hy2.dp, listV_shaped hus3.ok, encV_shaped hy2.ok, by rw [List.getElem?_map, List.getElem?_eq_getElem hkn]; rfl, by rw [encV_eqv]; exact decide_eq_true rfl, fun a z ha hz => ?_, ?_⟩
    · rw [List.getElem?_map, List.getElem?_eq_getElem (by omega)] at hz
      obtain rfl := Option.some.inj hz
      rw [encV_eqv]
      refine decide_eq_false fun e => ?_
      exact List.pairwise_iff_getElem.mp hnd a k' (by omega) hkn ha e
    have ctf : CtF K H3 x row cs _ ra aa us := ⟨⟨dx, s13 _ _ h1⟩, rfl, rfl, s13 _ _ h2, h3.same s13, s13 _ _ h4, h7⟩
    have hnx : (nextv (Lx cs row) row.length m).length ≤ row.length := by
      have := List.length_filter_le (fun k => !m.testBit k && (ahd (Lx cs row) row.length k &&& m == ahd (Lx cs row) row.length k)) (List.range row.length)
      rw [List.length_range] at this
      exact this
    refine ⟨_, rfl, _, rfl, x, dx, _, rfl, s13 _ _ h1, rfl, _, rfl, x, row, cs, _, ra, aa, us, m, rfl, ctf, fun L H4 hL s4 h4L => ⟨L, rfl, ⟨_, .inl (.inl h4L)⟩, fun D hD => ?_⟩⟩
    have s14 := s13.trans s4
    refine lc_list (xs := nextv (Lx cs row) row.length m) (fun _ u k => u = V.int (k : Int)) (JS.list (.inl (.inl h4L))) (paired_self _) (fun _ _ _ _ _ h => h) (fun k => decide (k < k')) (fun k z _ => z = V.int (ways (Lx cs row) row.length (m ||| 2 ^ k) : Nat)) hD (by rw [sizeLine_eq]; omega) (fun _ _ _ _ _ h => h) (fun _ _ _ _ _ h _ => h) (fun a k y H5 Fin Skp s5 hka hya hyk fin skp => ?_) (fun acc H5 ci pr => ?_)
    · subst hyk
      obtain ⟨hkn2, hkb2⟩ := mem_nextv (List.mem_of_getElem? hka)
      have s15 := s14.trans s5
      refine ⟨rfl, _, rfl, _, rfl, _, _, rfl, rfl, _, rfl, ite2 (fun hb => ?_) fun hb => ?_⟩
      · have hlt : k < k' := by exact_mod_cast of_decide_eq_true hb
        refine ⟨_, rfl, x, _, dx, _, _, rfl, s15 _ _ h1, T.cls, T.noat 56, rfl, _, rfl, _, rfl, _, _, rfl, rfl, ⟨by omega, by omega, by decide⟩, _, _, rfl, rfl, wa, ws, _, V.int (ways (Lx cs row) row.length (m ||| 2 ^ k) : Nat), rfl, rfl, .inl (.inl (s15 _ _ h5)), by rw [eor_nat]; exact atI_nat (h6.2 _ (Nat.zero_le _) (or_lt hm hkn2)), fin _ _ (decide_eq_true hlt) (Same.refl _) rfl⟩
      · have hge : ¬ k < k' := fun z => hb (decide_eq_true (by exact_mod_cast z))
        exact skp _ (decide_eq_false hge) (Same.refl _)
    · have e := paired_map (f := fun k : Nat => V.int (ways (Lx cs row) row.length (m ||| 2 ^ k) : Nat)) (H := H5) pr
      rw [filter_lt (nextv_asc _ _ _) hk1] at e
      refine ⟨D, ((nextv (Lx cs row) row.length m).take tt).map (fun k => ((ways (Lx cs row) row.length (m ||| 2 ^ k) : Nat) : Int)), rfl, .inl (.inl ?_), _, _, rfl, rfl, _, rfl, _, rfl, _, _, rfl, rfl, ⟨by omega, by omega, by decide⟩, _, _, rfl, rfl, (s3.trans s4).trans ci.same, m ||| 2 ^ k', r, f + (((nextv (Lx cs row) row.length m).take tt).flatMap fun k => (LF (Lx cs row) row.length (m ||| 2 ^ k)).map (k :: ·)).length, some u, some (.int (k' : Int)), ?_, or_lt hm hkn, by omega, hr1⟩
      · rw [ci.at_, e, List.map_map]; rfl
      · have e1 := sum_flat (Lx cs row) row.length m ((nextv (Lx cs row) row.length m).take tt)
        rw [← eor_nat]
        show [some (V.ref p), some vc, some (V.ref x), some (V.int ((f : Int) + _)), _, _, _, _] = _
        rw [e1]
        push_cast
        rfl
  · rintro σ H3 ⟨s3, m, i, f, b, c, rfl, hm, hjf, hi⟩
    rw [hql, List.drop_length] at hi
    have hi0 : unset row.length m = [] := by
      have hmem := (mem_LF (Lx_irr cs row)).mp (List.mem_of_getElem? hi)
      exact List.nil_perm.mp hmem.1
    rw [LF_end hi0] at hi
    have : i = 0 := by
      cases i with
      | zero => rfl
      | succ i => simp at hi
    subst this
    refine ⟨_, rfl, ?_⟩
    have := hQ H3 (sm12.trans s3)
    rw [hjf] at this
    exact this
end
end K91
set_option Elab.async false
set_option linter.all false
set_option maxRecDepth 100000
set_option maxHeartbeats 1000000
/-! enumerate(t), t a tuple. -/
namespace K91
open PySem PySem.Spec PyProof.Rows L2
theorem meets_en (l : Addr) (items : Array Value) :
    Meets (Builtin.«enumerate.__new__» ⟨[.type "enumerate", .ref l], []⟩) (fun _ R s => s.heap.IsTuple l items ∧
      R (.ok (.ret (.ref (s.heap.push { cls := .type "tuple_iterator", data := .fields #[.ref l, .int 0 0] }).objs.size)))
        { s with heap := (s.heap.push { cls := .type "tuple_iterator", data := .fields #[.ref l, .int 0 0] }).push { cls := .type "enumerate", data := .fields #[.none, .bool false, .ref s.heap.objs.size, rawInt 0, .none, .none] } }) :=
  .of_wp fun prog w A R s h => by
    obtain ⟨hp, g, d, tk, os⟩ := s; obtain ⟨hl, h⟩ := h
    have hsub := sub_enumerate
    have hL : Heap.IsTuple (Shared.heap ⟨hp, g, d, tk, os⟩) l items := hl
    wp_walk using wpAny_pyIter_tuple hL
    refine wpAny_stack_any fun st => wpAny_pure ?_
    split
    · rename_i c _ _ _ _ _
      cases (c == Value.type "enumerate")
      · wp_walk using wpAny_pyIter_tuple hL
        exact ⟨_, rfl, h⟩
      · wp_walk using wpAny_pyIter_tuple hL
        exact ⟨_, rfl, h⟩
    · wp_walk using wpAny_pyIter_tuple hL
      exact ⟨_, rfl, h⟩
section
variable {prog : Program} {w : World} {A : Around} {E : Value → Shared → Prop} {s : Shared}
theorem call_en {l : Addr} {items : Array Value} {Q : Value → Shared → Prop} (hL : s.heap.IsTuple l items)
    (h : ∀ h', IsEnum h' (s.heap.objs.size + 1) s.heap.objs.size 0 .none → h'.IsTupleIter s.heap.objs.size l 0 → (∀ b o, s.heap.get? b = some o → h'.get? b = some o) → Q (.ref (s.heap.objs.size + 1)) { s with heap := h' }) :
    wpAny (model prog w) A (call (.type "enumerate") [.ref l]) Q E s := by
  refine callType_new F.called_enumerate (by decide) (F.typeCall_enumerate_1 _) (F.newCall_enumerate_1 _) (fun obj => F.args_object_init_2 obj _) F.entry_enumerate_new (meets_en l items) ⟨hL, ?_⟩
  simp only [Heap.size_push]
  have he : IsEnum ((s.heap.push { cls := .type "tuple_iterator", data := .fields #[.ref l, .int 0 0] }).push { cls := .type "enumerate", data := .fields #[.none, .bool false, .ref s.heap.objs.size, rawInt 0, .none, .none] }) (s.heap.objs.size + 1) s.heap.objs.size 0 .none := by
    have z := Heap.get?_push_size (s.heap.push { cls := .type "tuple_iterator", data := .fields #[.ref l, .int 0 0] }) (o := { cls := .type "enumerate", data := .fields #[.none, .bool false, .ref s.heap.objs.size, rawInt 0, .none, .none] }) rfl
    rw [Heap.size_push] at z
    exact z
  exact ⟨⟨_, he, rfl⟩, h _ he ⟨_, Heap.get?_push_of_some _ (Heap.get?_push_size _ rfl), rfl, rfl⟩ fun b o x => Heap.get?_push_of_some _ (Heap.get?_push_of_some _ x)⟩
theorem en_end {e it l : Addr} {i : Nat} {items : Array Value} {old : Value} {Q : Option Value → Shared → Prop} (hh : A.handled = none) (he : IsEnum s.heap e it i old) (hit : s.heap.IsTupleIter it l i) (hl : s.heap.IsTuple l items) (hx : items[i]? = none)
    (hQ : ∀ h', Heap.ExtBut it s.heap h' → Q none { s with heap := h' }) : wpAny (model prog w) A (pyNext (.ref e)) Q E s := by
  have hT : s.TypeIs (.ref e) "enumerate" := ⟨_, he, rfl⟩
  unfold pyNext
  refine wpAny_bind (wpAny_attempt (wpAny_callSpecial?_slot (name := Str.ofString "__next__") hT F.slot_enumerate_next (wpAny_call_entry F.slot_enumerate_next hT F.entry_enumerate_next ?_ (F.args_enumerate_next_1 _))))
  show wpAny _ _ (field (.ref e) 2 >>= _) _ _ s
  refine wpAny_bind (wpAny_field he rfl (x := .ref it) rfl (wpAny_bind (RZ.nextOf_tuple_end hh hit hl hx fun h' x he' ⟨o, ho, hc⟩ => ?_)))
  exact wpAny_bind (wpAny_isInstance (T := "StopIteration") (b := true) ⟨o, ho, hc⟩ isSubtype_stop (wpAny_pure (hQ _ he')))
end
def IteT (K : PySem.W.Frag) (a : Addr) : It :=
  ⟨fun i H => ∃ (xs : List V) (x : V), SqT K H a xs ∧ xs[i]? = some x, fun i H v H' => ∃ T x, v = .ref T ∧ H T = none ∧ H' = upd H T (.tup [.int (i : Nat), x]) ∧ ∀ xs, SqT K H a xs → xs[i]? = some x, fun i H => ∃ xs : List V, SqT K H a xs ∧ xs.length ≤ i⟩
theorem two_mem {a b c : Addr} (h : c ∈ [a, b]) : c = a ∨ c = b := by simpa using h
theorem turn_en {P : Program} {w : World} {K : PySem.W.Frag} {elts : List Expr} {kk : Nat} {tpos : Pos} (a e it : Addr) :
    Turn P w K (.Tuple elts kk tpos) (IteT K a) [e, it] e (fun i h => (∃ old, IsEnum h e it ((i : Nat) : Int) old) ∧ h.IsTupleIter it a i ∧ e ≠ it ∧ a ≠ it ∧ a ≠ e) where
  mem := by simp
  obj := fun i h st b hb => by
    obtain ⟨⟨old, he⟩, ⟨o, ho, hc, hd⟩, _⟩ := st
    rcases two_mem hb with rfl | rfl
    · exact ⟨_, he, fun v q => nomatch q⟩
    · exact ⟨o, ho, fun v q => by rw [hd] at q; cases q⟩
  keep := fun i h h' st k => let ⟨⟨old, he⟩, hi, hne⟩ := st; ⟨⟨old, k e (by simp) _ he⟩, hi.at fun o q => k it (by simp) o q, hne⟩
  item := by
    intro X hP hw hK hc i pins s σ H E I hf st hg
    subst hP hw hK
    obtain ⟨⟨old, he⟩, hit, hne, hai, hae⟩ := st
    obtain ⟨xs, x, hq, hx⟩ := hg
    obtain ⟨its, rv, p, hz⟩ := I.tuple hq
    obtain ⟨u, hu, ru⟩ := rv.get hx
    have hel : e < s.heap.objs.size := Heap.lt_size he
    have hil : it < s.heap.objs.size := by obtain ⟨_, q, _⟩ := hit; exact Heap.lt_size q
    have hul : i < its.toArray.size := by have := (List.getElem?_eq_some_iff.mp hu).1; simpa using this
    refine wpAny_pyNext_enum_itemD (Draws.tuple (A := X.A.in1) (I.ok.hd hc) it a hai its.toArray) he ⟨hit, p⟩ hul hne (by simp [hne, Ne.symm hae]) fun u' h' tk hPu ho hst hT hsz hk => ?_
    have eu : u' = u := by
      have : its[i]? = some u' := by simpa using hPu
      rw [hu] at this
      exact (Option.some.inj this).symm
    subst eu
    refine ⟨_, rfl, wpAny_letOwnedTupleGo_enum (s := { s with heap := h', toks := tk + 1 }) ho fun h'' he' sb => ?_⟩
    have hT2 : h''.get? s.heap.objs.size = some { cls := .type "tuple", data := .seq #[.int i tk, u'] } := (sb.2 _ (Nat.ne_of_gt hel)).trans hT
    have I1 : Inv X pins σ (upd H s.heap.objs.size (.tup [.int (i : Nat), x])) { s with heap := h'', toks := tk + 1 } :=
      I.turnedNew (ch := [e, it]) (fun b ob hb q => (sb.2 b (fun z => hb (by simp [z]))).trans (hk b ob (fun z => hb (by simp [z])) (fun z => hb (by simp [z])) q)) hf (Nat.le_refl _) ⟨by show 2 ≤ sizeLine; decide, [.int i tk, u'], .cons ⟨_, rfl⟩ (.cons ru .nil), ⟨_, hT2, rfl, _, rfl⟩⟩
    refine ⟨.ref s.heap.objs.size, _, I1, rfl, ⟨_, x, rfl, I.hok.fresh (Nat.le_refl _), rfl, fun ys hy => by rw [I.tuple_inj hy hq]; exact hx⟩, ⟨⟨u', ?_⟩, hst.1.at fun o q => (sb.2 it (Ne.symm hne)).trans q, hne, hai, hae⟩, fun b hb => ?_⟩
    · rw [show ((i + 1 : Nat) : Int) = (i : Int) + 1 by omega]
      exact he'
    · have hb' : b < s.heap.objs.size := by rcases two_mem hb with rfl | rfl <;> assumption
      rw [upd_ne (Nat.ne_of_lt hb')]
      exact (hf b hb).1
  done := by
    intro X hP hw hK hc i pins s σ H E I hf st hg
    subst hP hw hK
    obtain ⟨⟨old, he⟩, hit, hne, hai, hae⟩ := st
    obtain ⟨xs, hq, hx⟩ := hg
    obtain ⟨its, rv, p, hz⟩ := I.tuple hq
    obtain ⟨f0, f1, f2, f3, f4, f5⟩ := hf it (by simp)
    have hl := rv.length
    exact en_end (I.ok.hd hc) he hit p (by simp; omega) fun h' eb => ⟨rfl, I.turned (t' := s.toks) (fun b o hb q => eb b o hb q) f0 f1 f3 f4 f5⟩
  self := fun A i s Q E st h => let ⟨⟨_, he⟩, _⟩ := st; wpAny_pyIter_enum he h
def iEnT (K : PySem.W.Frag) (ta : TA) : TI := fun σ H R => ta σ H fun vs H1 => ∃ a xs, vs = [.ref a] ∧ SqT K H1 a xs ∧ R (IteT K a) H1
theorem pi_en {X : Cx} {e : Expr} {ta : TA} {p pos tpos : Pos} {elts : List Expr} {kk : Nat} (hg : Gl X "enumerate") (hm : X.mg "enumerate" = none) (ha : PA X [e] ta) (hs : starEach [e] X.env = [(false, eval e X.env)] := by rfl) :
    PI X (.Tuple elts kk tpos) (.Call (.Name "enumerate" p) [e] [] pos) (iEnT X.K ta) := by
  refine ⟨fun pins s σ H R I h => Call_ (ld_blt I hg hm boot_enumerate (PyProof.Rows.callWith_type1 (thn (ha.run pos pins s σ H _ I h) fun us s1 ⟨vs, H1, I1, r1, a, xs, ex, hq, q⟩ => ?_) hs rfl))⟩
  subst ex
  cases r1 with
  | cons r rr =>
    cases rr
    cases r
    obtain ⟨its, rv, p', hz⟩ := I1.tuple hq
    obtain ⟨oa, hoa, _⟩ := id p'
    have hal : a < s1.heap.objs.size := Heap.lt_size hoa
    refine call_en (show s1.heap.IsTuple a its.toArray from p') fun h' he hit hk => wpAny_pyIter_enum he ?_
    have I2 : Inv X pins σ H1 { s1 with heap := h' } := I1.kept (t' := s1.toks) hk
    refine ⟨s1.heap.objs.size + 1, [s1.heap.objs.size + 1, s1.heap.objs.size], _, _, H1, rfl, I2, turn_en a (s1.heap.objs.size + 1) s1.heap.objs.size, ⟨⟨.none, he⟩, hit, Nat.succ_ne_self _, Nat.ne_of_lt hal, Nat.ne_of_lt (Nat.lt_succ_of_lt hal)⟩, fun b hb => ?_, q⟩
    have hle : s1.heap.objs.size ≤ b := by rcases two_mem hb with rfl | rfl <;> omega
    exact I1.fpOk hle (I1.hok.fresh hle)
/-- a loop over enumerate(t) -/
theorem for_en {K : PySem.W.Frag} {a : Addr} {us : List V} {g : TG} {tb : TS} {D : Ends} {σ0 : L2.St} {H1 : Hp} (ha : SqT K H1 a us) (Iv : Nat → L2.St → Hp → Prop) (h0 : Iv 0 σ0 H1) (hsm : ∀ i σ H, Iv i σ H → Same H1 H)
    (hs : ∀ i u T σ H, us[i]? = some u → Iv i σ H → H T = none → g (.ref T) σ (upd H T (.tup [.int (i : Nat), u])) fun σ2 H2 => tb { D with nx := Iv (i + 1), ct := Iv (i + 1), bk := D.nx } σ2 H2) (hd : ∀ σ H, Iv us.length σ H → D.nx σ H) :
    ∃ W : Nat → Nat → L2.St → Hp → Prop, (∃ m, W 0 m σ0 H1) ∧ ∀ i m σ H, W i m σ H →
      ((IteT K a).stop i H ∧ D.nx σ H) ∨ ((IteT K a).go i H ∧ ∃ N : L2.St → Hp → Prop, (∀ σ' H', N σ' H' → ∃ m', m' < m ∧ W (i + 1) m' σ' H') ∧ ∀ x H', (IteT K a).yld i H x H' → g x σ H' fun σ2 H2 => tb { D with nx := N, ct := N, bk := D.nx } σ2 H2) := by
  refine ⟨fun i m σ H => m = us.length - i ∧ i ≤ us.length ∧ Iv i σ H, ⟨us.length, by simp, Nat.zero_le _, h0⟩, ?_⟩
  rintro i m σ H ⟨rfl, hi, p⟩
  have s := SqT.same ha (hsm _ _ _ p)
  by_cases hlt : i < us.length
  · refine Or.inr ⟨⟨us, us[i], s, List.getElem?_eq_getElem hlt⟩, Iv (i + 1), fun σ' H' p' => ⟨us.length - (i + 1), by omega, rfl, hlt, p'⟩, fun x H' y => ?_⟩
    obtain ⟨T, u, rfl, hT, rfl, hu⟩ := y
    exact hs i u T σ H (hu _ s) p hT
  · have e : i = us.length := by omega
    subst e
    exact .inl ⟨⟨us, s, Nat.le_refl _⟩, hd σ H p⟩
end K91
set_option Elab.async false
set_option linter.all false
set_option maxRecDepth 100000
set_option maxHeartbeats 2000000
/-! The walks: places. -/
namespace K91
open PySem PySem.Spec PyProof.Rows L2 GenW
open K91M
def lowN (cs : List VV) (v : VV) (l : List VV) : Nat → Nat
  | 0 => 0
  | i + 1 => match l[i]? with
    | some o => if less cs o v = true then i + 1 else lowN cs v l i
    | none => lowN cs v l i
def highN (cs : List VV) (v : VV) (l : List VV) : Nat → Nat
  | 0 => l.length
  | i + 1 => match l[i]? with
    | some o => if less cs v o = true then min (highN cs v l i) i else highN cs v l i
    | none => highN cs v l i
abbrev lowP (cs : List VV) (v : VV) (l : List VV) : Nat := lowN cs v l l.length
abbrev highP (cs : List VV) (v : VV) (l : List VV) : Nat := highN cs v l l.length
theorem highN_le (cs : List VV) (v : VV) (l : List VV) : ∀ i, highN cs v l i ≤ l.length
  | 0 => Nat.le_refl _
  | i + 1 => by
    unfold highN
    have := highN_le cs v l i
    split
    · split <;> omega
    · exact this
theorem lowN_le (cs : List VV) (v : VV) (l : List VV) : ∀ i, lowN cs v l i ≤ i
  | 0 => Nat.le_refl _
  | i + 1 => by
    unfold lowN
    have := lowN_le cs v l i
    split
    · split <;> omega
    · omega
def spPlaces (K : PySem.W.Frag) : Sp := fun vs H Q _ => ∃ vr vv vc l v cs, vs = [vr, vv, vc] ∧ Lat H vr l ∧ l.length ≤ 64 ∧ Vat H vv v ∧ RowR K H vc cs ∧ okl cs l ∧ v ∉ l ∧
  (lowP cs v l ≤ highP cs v l → ∀ p H', Same H H' → H' p = some (.tup [.int (lowP cs v l : Nat), .int (highP cs v l : Nat)]) → Q (.ref p) H') ∧ (¬ lowP cs v l ≤ highP cs v l → ∀ H', Same H H' → Q .non H')
section
variable {P : Program} {w : World} {K : PySem.W.Frag} {mg : Str → Option Value} {base : Heap}
theorem okPlaces (T : Tx K mg) : FO P w K mg base 5 dPlaces ["row", "value", "converted"] (spPlaces K) := by
  refine FunD.ok (T.f 17) cPlaces (fun vs H Q E h => ?_) (fun cdv A outer s H vs Q E hr h => ⟨_, PSs.nox (
    (pss_cons (ps_expr (pe_call (okNeedS T) hr rfl (T.g 4) (T.f 4).kp (bNeedS T) .nil pass0 (pa_cons (pv 0) (pa_cons (pv 2) pa_nil))))
    (pss_cons (ps_if (pt_cmpR (op_inV (room_u hr)) (pv 1) (pv 0) rfl) (pss_one ps_never) pss_nil)
    (pss_cons (ps_asg pe_int (pg_name (i := 3) cPlaces.nd rfl (Or.inl rfl)))
    (pss_cons (ps_asg (pe_callB clen (by rfl) (T.fr 34) PySem.boot_len (pa_cons (pv 0) pa_nil)) (pg_name (i := 4) cPlaces.nd rfl (Or.inl rfl)))
    (pss_cons (ps_for (g := gTup K 2 (gCons (gName 5) (gCons (gName 6) gNil))) PassesOwn.never rfl (pi_en (by rfl) (T.fr 46) (pa_cons (pv 0) pa_nil)) (pg_tup rfl (pgs_cons (pg_name (i := 5) cPlaces.nd rfl (Or.inl rfl)) (pgs_cons (pg_name (i := 6) cPlaces.nd rfl (Or.inl rfl)) pgs_nil)))
      (pss_cons (ps_if (pt_val (pe_callN (okIsLess T) (hr.mono (by decide)) rfl (T.g 2) (T.f 2).kp (kIsLess T) pass0 (pa_cons (pv 6) (pa_cons (pv 1) pa_nil)) (pk_cons (pv 2) pk_nil))) (pss_one (ps_asg (pe_op op_add (pv 5) pe_int) (pg_name (i := 3) cPlaces.nd rfl (Or.inl rfl)))) pss_nil)
      (pss_one (ps_if (pt_val (pe_callN (okIsLess T) (hr.mono (by decide)) rfl (T.g 2) (T.f 2).kp (kIsLess T) pass0 (pa_cons (pv 1) (pa_cons (pv 6) pa_nil)) (pk_cons (pv 2) pk_nil))) (pss_one (ps_asg (pe_callB (call_min2 rfl) (by rfl) (T.fr 47) (by decide +kernel) (pa_cons (pv 4) (pa_cons (pv 5) pa_nil))) (pg_name (i := 4) cPlaces.nd rfl (Or.inl rfl)))) pss_nil))))
    (pss_one (ps_ret (pe_ifExp (pt_cmpR op_le (pv 3) (pv 4) (nomark _)) (pe_tup (pa_cons (pv 3) (pa_cons (pv 4) pa_nil))) pe_non))))))))), ?_⟩)
  · obtain ⟨_, _, _, _, _, _, rfl, _⟩ := h
    rfl
  obtain ⟨vr, vv, vc, l, v, cs, rfl, hv, hl, hvv, hc, hok, hnm, hQ1, hQ2⟩ := h
  refine ⟨_, rfl, _, rfl, _, _, l, cs, rfl, hv, hl, hc, hok, fun H1 sm1 => ?_⟩
  obtain ⟨p, us, rfl, hp, hus⟩ := hv
  have hul : us.length = l.length := hus.length
  have hp1 := sm1 _ _ hp
  have sq1 : SqT K H1 p us := .inl (.inl hp1)
  refine ⟨_, rfl, _, rfl, v, l, hvv.same sm1, ⟨p, us, rfl, .inr sq1, hus.same sm1⟩, _, rfl, ?_⟩
  rw [show decide (v ∈ l) = false from decide_eq_false hnm]
  refine iteF ⟨_, rfl, p, us, rfl, .inr sq1, _, rfl, p, us, rfl, sq1, ?_⟩
  refine for_en sq1 (fun i σ H2 => Same H1 H2 ∧ ∃ b c, σ = [some (.ref p), some vv, some vc, some (.int (lowN cs v l i : Nat)), some (.int (highN cs v l i : Nat)), b, c])
    ⟨Same.refl _, none, none, by rw [hul]; rfl⟩ (fun _ _ _ h => h.1) ?_ ?_
  · rintro i u t σ H2 hu ⟨s2, b, c, rfl⟩ hT
    obtain ⟨o, ho, vo⟩ := Pr.get (hus.same sm1 : Vs _ _ _) hu
    have s3 : Same H2 (upd H2 t (.tup [.int (i : Nat), u])) := Same.new hT
    have s13 := s2.trans s3
    have hvv3 := (hvv.same sm1).same s13
    have hc3 := (hc.same sm1).same s13
    have vo3 := vo.same s13
    refine ⟨t, _, rfl, .inl (.inl upd_same), rfl, _, _, rfl, _, _, rfl, rfl, ?_⟩
    refine ⟨_, rfl, _, rfl, _, rfl, rfl, rfl, _, _, _, o, v, cs, rfl, vo3, hvv3, hc3, _, rfl, ?_⟩
    have el : lowN cs v l (i + 1) = if less cs o v = true then i + 1 else lowN cs v l i := by rw [lowN, ho]
    have eh : highN cs v l (i + 1) = if less cs v o = true then min (highN cs v l i) i else highN cs v l i := by rw [highN, ho]
    refine ite2 (fun h1 => ?_) fun h1 => ?_
    · rw [if_pos h1] at el
      refine ⟨_, rfl, _, _, rfl, rfl, _, rfl, _, rfl, _, rfl, rfl, rfl, _, _, _, v, o, cs, rfl, hvv3, vo3, hc3, _, rfl, ite2 (fun h2 => ?_) fun h2 => ?_⟩
      · rw [if_pos h2] at eh
        refine ⟨_, rfl, _, rfl, _, _, rfl, s13, some (.int (i : Int)), some u, ?_⟩
        have e : (if (i : Int) < ((highN cs v l i : Nat) : Int) then (i : Int) else ((highN cs v l i : Nat) : Int)) = ((min (highN cs v l i) i : Nat) : Int) := by split <;> omega
        rw [el, eh, ← e]
        rfl
      · rw [if_neg h2] at eh
        refine ⟨s13, some (.int (i : Int)), some u, ?_⟩
        rw [el, eh]
        rfl
    · rw [if_neg h1] at el
      refine ⟨_, rfl, _, rfl, _, rfl, rfl, rfl, _, _, _, v, o, cs, rfl, hvv3, vo3, hc3, _, rfl, ite2 (fun h2 => ?_) fun h2 => ?_⟩
      · rw [if_pos h2] at eh
        refine ⟨_, rfl, _, rfl, _, _, rfl, s13, some (.int (i : Int)), some u, ?_⟩
        have e : (if (i : Int) < ((highN cs v l i : Nat) : Int) then (i : Int) else ((highN cs v l i : Nat) : Int)) = ((min (highN cs v l i) i : Nat) : Int) := by split <;> omega
        rw [el, eh, ← e]
        rfl
      · rw [if_neg h2] at eh
        refine ⟨s13, some (.int (i : Int)), some u, ?_⟩
        rw [el, eh]
        rfl
  · rintro σ H2 ⟨s2, b, c, rfl⟩
    rw [hul]
    refine ⟨_, rfl, _, rfl, _, _, rfl, rfl, _, rfl, ite2 (fun h1 => ?_) fun h1 => ?_⟩
    · have hle : lowP cs v l ≤ highP cs v l := by exact_mod_cast of_decide_eq_true h1
      refine ⟨_, rfl, _, rfl, by show 2 ≤ sizeLine; decide, fun t ht => hQ1 hle t _ ((sm1.trans s2).trans (Same.new ht)) upd_same⟩
    · have hle : ¬ lowP cs v l ≤ highP cs v l := fun z => h1 (decide_eq_true (by exact_mod_cast z))
      exact hQ2 hle H2 (sm1.trans s2)
end
end K91
set_option Elab.async false
set_option linter.all false
set_option maxRecDepth 100000
set_option maxHeartbeats 2000000
/-! The walks: need_same_values. -/
namespace K91
open PySem PySem.Spec PyProof.Rows L2 GenW
open K91M
def spNeedV (K : PySem.W.Frag) : Sp := fun vs H Q _ => ∃ vr vo l l', vs = [vr, vo] ∧ Lat H vr l ∧ Lat H vo l' ∧ l.length ≤ 64 ∧ l'.length ≤ 64 ∧ (∀ x ∈ l, x ∈ l') ∧ (∀ x ∈ l', x ∈ l) ∧ ∀ H', Same H H' → Q .non H'
theorem cNeedV' : FnScope ["row", "other", "alone", "value"] ["row", "other"] (defScope sNeedV) :=
  ⟨rfl, rfl, rfl, by decide +kernel, rfl, by decide +kernel, by decide +kernel⟩
theorem inV {X : Cx} {K : PySem.W.Frag} (hu : X.A.units + 65 < cLine) (h : X.K = K := by rfl) : OpR X (compareOp .In) (rInV K false) := h ▸ op_inV hu
theorem notInV {X : Cx} {K : PySem.W.Frag} (hu : X.A.units + 65 < cLine) (h : X.K = K := by rfl) : OpR X (compareOp .NotIn) (rInV K true) := h ▸ op_notInV hu
/-- a comprehension that keeps nothing -/
theorem lc_none {K : PySem.W.Frag} {a : Addr} {us : List V} {xs ys : List VV} {i j : Nat} {vs : List Nat} {σ : L2.St} {H1 : Hp} {D : Addr} {Qd : Hp → Prop} {vo : V} (ha : SqT K H1 a us) (hu : Vs H1 us xs) (ho : RowR K H1 vo ys) (hsub : ∀ x ∈ xs, x ∈ ys) (hl : xs.length ≤ 64) (hD : H1 D = none)
    (hj : (wipe σ vs)[j]? = some (some vo)) (hij : i ≠ j) (hw : ∀ u, wipe ((wipe σ vs).set i (some u)) vs = wipe σ vs) (hwi : ∀ u, ((wipe σ vs).set i (some u))[i]? = some (some u)) (hQ : ∀ H, Same H1 H → H D = some (.lst []) → Qd H) :
    ∃ W : Nat → Nat → Hp → Prop, (∃ m, W 0 m (upd H1 D (.lst []))) ∧ ∀ t m H, W t m H →
      ((Itt K a).stop t H ∧ Qd H) ∨ ((Itt K a).go t H ∧ ∃ Nx : Hp → Prop, (∀ H', Nx H' → ∃ m', m' < m ∧ W (t + 1) m' H') ∧ ∀ x H', (Itt K a).yld t H x H' → gName i x (wipe σ vs) H' fun σ2 H2 => wipe σ2 vs = wipe σ vs ∧ tTest (tOp (rInV K true) (tVar i) (tVar j)) σ2 H2 fun b H3 =>
        if b = true then tVar i σ2 H3 fun y H4 => ∃ acc, H4 D = some (.lst acc) ∧ acc.length < sizeLine ∧ Nx (upd H4 D (.lst (acc ++ [y]))) else Nx H3) := by
  refine lc_list (xs := xs) Vat (JS.tup ha) hu (fun _ _ _ _ s h => h.same s) (fun _ => false) (fun x y H => True) hD (by rw [sizeLine_eq]; omega) (fun _ _ _ _ _ h => h) (fun _ _ _ _ _ h _ => h) (fun t x y H2 Fin Skp sm hx hy vx fin skp => ?_) (fun acc H2 ci pr => ?_)
  · refine ⟨hw y, _, hwi y, _, ?_, x, ys, vx, ho.same sm, _, rfl, ?_⟩
    · rw [List.getElem?_set_ne hij]; exact hj
    · rw [show decide (x ∈ ys) = true from decide_eq_true (hsub x (List.mem_of_getElem? hx))]
      exact iteF (skp _ rfl (Same.refl _))
  · rw [show xs.filter (fun _ => false) = [] by simp] at pr
    cases pr
    exact hQ H2 ci.same ci.at_
section
variable {P : Program} {w : World} {K : PySem.W.Frag} {mg : Str → Option Value} {base : Heap}
theorem okNeedV (T : Tx K mg) : FO P w K mg base 2 dNeedV ["row", "other"] (spNeedV K) := by
  refine FunD.ok (T.f 18) cNeedV' (fun vs H Q E h => ?_) (fun cdv A outer s H vs Q E hr h => ⟨_, PSs.nox (
    (pss_cons (ps_asg (pe_callB (cr_sortB (Rv := Vat) (enc := encV) (room_u hr) (fun _ _ _ h => h.dp) alike_encV (fun b => by rw [encV_depth]; decide)) (by rfl) (T.fr 39) (by decide +kernel) (pa_cons (pe_op op_cat
      (pe_lc (own := [("value", 3)]) (g := gName 3) rfl cNeedV'.nd (pi_tup (pv 0)) (blkOk_by (N := ["row", "other", "alone", "value"]) (sc := defScope sNeedV) (by decide +kernel)) (fun _ _ _ _ _ => pg_name (i := 3) cNeedV'.nd rfl (Or.inl rfl))
        (fun _ _ _ _ _ => pts_one (pt_cmpR (notInV (room_u hr)) (pv 3) (pv 1) rfl)) (fun _ _ _ _ _ => pv 3))
      (pe_lc (own := [("value", 3)]) (g := gName 3) rfl cNeedV'.nd (pi_tup (pv 1)) (blkOk_by (N := ["row", "other", "alone", "value"]) (sc := defScope sNeedV) (by decide +kernel)) (fun _ _ _ _ _ => pg_name (i := 3) cNeedV'.nd rfl (Or.inl rfl))
        (fun _ _ _ _ _ => pts_one (pt_cmpR (notInV (room_u hr)) (pv 3) (pv 0) rfl)) (fun _ _ _ _ _ => pv 3))) pa_nil)) (pg_name (i := 2) cNeedV'.nd rfl (Or.inl rfl)))
    (pss_one (ps_if (pt_cmpR (op_neD (room_64 hr)) (pv 2) (pe_lst pa_nil) (nomark _)) (pss_one ps_never) pss_nil)))), ?_⟩)
  · obtain ⟨_, _, _, _, rfl, _⟩ := h
    rfl
  obtain ⟨vr, vo, l, l', rfl, hv, hv', hl, hl', h1, h2, hQ⟩ := h
  obtain ⟨p, us, rfl, hp, hus⟩ := id hv
  obtain ⟨q, ws, rfl, hq, hws⟩ := id hv'
  refine ⟨_, rfl, p, rfl, ⟨us, .inl (.inl hp)⟩, fun D hD => ?_⟩
  refine lc_none (xs := l) (ys := l') (.inl (.inl hp)) hus hv'.row h1 hl hD rfl (by decide) (fun _ => rfl) (fun _ => rfl) fun H1 s1 hD1 => ?_
  refine ⟨_, rfl, q, rfl, ⟨ws, .inl (.inl (s1 _ _ hq))⟩, fun D2 hD2 => ?_⟩
  refine lc_none (xs := l') (ys := l) (.inl (.inl (s1 _ _ hq))) (hws.same s1) (hv.same s1).row h2 hl' hD2 rfl (by decide) (fun _ => rfl) (fun _ => rfl) fun H2 s2 hD3 => ?_
  refine ⟨D, D2, [], [], rfl, rfl, s2 _ _ hD1, hD3, by decide, fun D4 hD4 => ?_⟩
  refine ⟨D4, [], [], rfl, .inl (.inl (.inl upd_same)), .nil, (fun b hb => nomatch hb), fun ys r hys hr => ?_⟩
  obtain rfl : ys = [] := by
    rw [show ([] : List VV).mergeSort (PySem.W.dataLe false encV) = [] by simp] at hys
    cases hys
    rfl
  have s4 := ((s1.trans s2).trans (Same.new (o := .lst ([] ++ [])) hD4)).trans (Same.new (o := .lst []) hr)
  refine ⟨_, rfl, by decide, fun r3 hr3 => ⟨_, _, Vs.dpl (l := []) .nil (by rw [upd_ne (ne_of_none upd_same hr3)]; exact upd_same), .lst (.inl (.inl upd_same)) .nil, listV_shaped (l := []) (fun _ z => nomatch z), rfl, _, rfl, ?_⟩⟩
  rw [eqv_nil]
  exact iteF (hQ _ (s4.trans (Same.new hr3)))
end
end K91
set_option Elab.async false
set_option linter.all false
set_option maxRecDepth 100000
set_option maxHeartbeats 2000000
/-! The walks: after_steps. -/
namespace K91
open PySem PySem.Spec PyProof.Rows L2 GenW
open K91M
theorem for_en2 {K : PySem.W.Frag} {a : Addr} {us : List V} {g : TG} {tb : TS} {D : Ends} {σ0 : L2.St} {H1 : Hp} (Iv : Nat → L2.St → Hp → Prop) (h0 : Iv 0 σ0 H1) (hsm : ∀ i σ H, Iv i σ H → SqT K H a us)
    (hs : ∀ i u T σ H, us[i]? = some u → Iv i σ H → H T = none → g (.ref T) σ (upd H T (.tup [.int (i : Nat), u])) fun σ2 H2 => tb { D with nx := Iv (i + 1), ct := Iv (i + 1), bk := D.nx } σ2 H2) (hd : ∀ σ H, Iv us.length σ H → D.nx σ H) :
    ∃ W : Nat → Nat → L2.St → Hp → Prop, (∃ m, W 0 m σ0 H1) ∧ ∀ i m σ H, W i m σ H →
      ((IteT K a).stop i H ∧ D.nx σ H) ∨ ((IteT K a).go i H ∧ ∃ N : L2.St → Hp → Prop, (∀ σ' H', N σ' H' → ∃ m', m' < m ∧ W (i + 1) m' σ' H') ∧ ∀ x H', (IteT K a).yld i H x H' → g x σ H' fun σ2 H2 => tb { D with nx := N, ct := N, bk := D.nx } σ2 H2) := by
  refine ⟨fun i m σ H => m = us.length - i ∧ i ≤ us.length ∧ Iv i σ H, ⟨us.length, by simp, Nat.zero_le _, h0⟩, ?_⟩
  rintro i m σ H ⟨rfl, hi, p⟩
  have s := hsm _ _ _ p
  by_cases hlt : i < us.length
  · refine Or.inr ⟨⟨us, us[i], s, List.getElem?_eq_getElem hlt⟩, Iv (i + 1), fun σ' H' p' => ⟨us.length - (i + 1), by omega, rfl, hlt, p'⟩, fun x H' y => ?_⟩
    obtain ⟨T, u, rfl, hT, rfl, hu⟩ := y
    exact hs i u T σ H (hu _ s) p hT
  · have e : i = us.length := by omega
    subst e
    exact .inl ⟨⟨us, s, Nat.le_refl _⟩, hd σ H p⟩
/-- two neighbours change places -/
def swp {α : Type} (l : List α) (i : Nat) : List α := match l[i]?, l[i + 1]? with
  | some a, some b => (l.set i b).set (i + 1) a
  | _, _ => l
theorem swp_len {α : Type} (l : List α) (i : Nat) : (swp l i).length = l.length := by
  unfold swp
  split <;> simp
def rep (l : List VV) : List Nat → List VV
  | [] => l
  | i :: st => rep (swp l i) st
def repOk (cs : List VV) : List VV → List Nat → Prop
  | _, [] => True
  | l, i :: st => (∃ a b, l[i]? = some a ∧ l[i + 1]? = some b ∧ less cs a b = false) ∧ repOk cs (swp l i) st
theorem rep_append (l : List VV) : ∀ st st' : List Nat, rep l (st ++ st') = rep (rep l st) st'
  | [], _ => rfl
  | i :: st, st' => rep_append (swp l i) st st'
theorem repOk_append (cs : List VV) : ∀ (l : List VV) (st st' : List Nat), repOk cs l (st ++ st') ↔ repOk cs l st ∧ repOk cs (rep l st) st'
  | l, [], st' => by simp [repOk, rep]
  | l, i :: st, st' => by
    show (_ ∧ repOk cs (swp l i) (st ++ st')) ↔ ((_ ∧ repOk cs (swp l i) st) ∧ repOk cs (rep (swp l i) st) st')
    rw [repOk_append cs (swp l i) st st', and_assoc]
theorem rep_len (l : List VV) : ∀ st : List Nat, (rep l st).length = l.length
  | [] => rfl
  | i :: st => by
    show (rep (swp l i) st).length = _
    rw [rep_len (swp l i) st, swp_len]
theorem Pr.set {α β : Type} {F : α → β → Prop} : ∀ {xs : List α} {us : List β} (j : Nat) {x : α} {u : β}, Paired F xs us → F x u → Paired F (xs.set j x) (us.set j u)
  | _, _, _, _, _, .nil, _ => by simp; exact .nil
  | _, _, 0, _, _, .cons r t, h => .cons h t
  | _, _, j + 1, _, _, .cons r t, h => .cons r (Pr.set j t h)
theorem Vs.swp {H : Hp} {us : List V} {l : List VV} {i : Nat} {u w : V} (h : Vs H us l) (h1 : us[i]? = some u) (h2 : us[i + 1]? = some w) : Vs H ((us.set i w).set (i + 1) u) (swp l i) := by
  obtain ⟨a, ha, va⟩ := Pr.get h h1
  obtain ⟨b, hb, vb⟩ := Pr.get h h2
  unfold K91.swp
  rw [ha, hb]
  exact Pr.set _ (Pr.set _ h vb) va
def spAfter (K : PySem.W.Frag) : Sp := fun vs H Q _ => ∃ vr st vc l cs, ∃ ns : List Nat, vs = [vr, .ref st, vc] ∧ Lat H vr l ∧ l.length ≤ 64 ∧ H st = some (.tup (ns.map fun (n : Nat) => V.int (n : Int))) ∧ RowR K H vc cs ∧ okl cs l ∧ repOk cs l ns ∧ ∀ x H', Same H H' → Lat H' x (rep l ns) → Q x H'
section
variable {P : Program} {w : World} {K : PySem.W.Frag} {mg : Str → Option Value} {base : Heap}
theorem okAfter (T : Tx K mg) : FO P w K mg base 5 dAfter ["row", "steps", "converted"] (spAfter K) := by
  refine FunD.ok (T.f 20) cAfter (fun vs H Q E h => ?_) (fun cdv A outer s H vs Q E hr h => ⟨_, PSs.nox (
    (pss_cons (ps_expr (pe_call (okNeedS T) hr rfl (T.g 4) (T.f 4).kp (bNeedS T) .nil pass0 (pa_cons (pv 0) (pa_cons (pv 2) pa_nil))))
    (pss_cons (ps_asg (pe_callTy call_list_of (by rfl) (T.fr 44) (by decide +kernel) (pa_cons (pv 0) pa_nil)) (pg_name (i := 3) cAfter.nd rfl (Or.inl rfl)))
    (pss_cons (ps_for (g := gTup K 2 (gCons (gName 4) (gCons (gName 5) gNil))) PassesOwn.never rfl (pi_en (by rfl) (T.fr 46) (pa_cons (pv 1) pa_nil)) (pg_tup rfl (pgs_cons (pg_name (i := 4) cAfter.nd rfl (Or.inl rfl)) (pgs_cons (pg_name (i := 5) cAfter.nd rfl (Or.inl rfl)) pgs_nil)))
      (pss_cons (ps_if (PW.pt (pw_or (pt_not (pt_val (pe_call (okIsBtw T) (hr.mono (by decide)) rfl (T.g 1) (T.f 1).kp (bIsBtw T) .nil pass0 (pa_cons (pv 5) (pa_cons pe_int (pa_cons (pe_op op_sub (pe_callB clen (by rfl) (T.fr 34) PySem.boot_len (pa_cons (pv 3) pa_nil)) pe_int) pa_nil))))))
          (pw_or1 (pt_val (pe_callN (okIsLess T) (hr.mono (by decide)) rfl (T.g 2) (T.f 2).kp (kIsLess T) pass0 (pa_cons (pe_ix ixL (pv 3) (pv 5) (fun _ _ => rfl)) (pa_cons (pe_ix ixL (pv 3) (pe_op op_add (pv 5) pe_int) (fun _ _ => rfl)) pa_nil)) (pk_cons (pv 2) pk_nil)))))) (pss_one ps_never) pss_nil)
      (pss_one (ps_asg (pe_tup (pa_cons (pe_ix ixL (pv 3) (pe_op op_add (pv 5) pe_int) (fun _ _ => rfl)) (pa_cons (pe_ix ixL (pv 3) (pv 5) (fun _ _ => rfl)) pa_nil))) (pg_tup rfl (pgs_cons (pg_sub (pv 3) (pv 5) set_list) (pgs_cons (pg_sub (pv 3) (pe_op op_add (pv 5) pe_int) set_list) pgs_nil)))))))
    (pss_one (ps_ret (pe_tupleOf (by rfl) (T.fr 43) (pv 3)))))))), ?_⟩)
  · obtain ⟨_, _, _, _, _, _, rfl, _⟩ := h
    rfl
  obtain ⟨vr, st, vc, l, cs, ns, rfl, hv, hl, hst, hc, hok, hrep, hQ⟩ := h
  refine ⟨_, rfl, _, rfl, _, _, l, cs, rfl, hv, hl, hc, hok, fun H1 sm1 => ?_⟩
  obtain ⟨p, us, rfl, hp, hus⟩ := hv
  refine ⟨_, rfl, p, us, rfl, .inr (.inl (.inl (sm1 _ _ hp))), fun q hq => ?_⟩
  have hst1 := sm1 _ _ hst
  have stq : st ≠ q := ne_of_none hst1 hq
  have hus1 := hus.same sm1
  refine ⟨_, rfl, st, _, rfl, .inl (.inl (by rw [upd_ne stq]; exact hst1)), ?_⟩
  refine for_en2 (K := K) (a := st) (us := ns.map fun (n : Nat) => V.int (n : Int)) (fun i σ H2 => Same H1 H2 ∧ ∃ b c ws, σ = [some (.ref p), some (.ref st), some vc, some (.ref q), b, c] ∧ H2 q = some (.lst ws) ∧ Vs H2 ws (rep l (ns.take i)) ∧ repOk cs (rep l (ns.take i)) (ns.drop i))
    ⟨Same.new hq, none, none, us, rfl, upd_same, hus1.tups (Tups.new hq), hrep⟩ (fun i σ H2 h => .inl (.inl (h.1 _ _ hst1))) ?_ ?_
  · rintro i u t σ H2 hu ⟨s2, b, c, ws, rfl, hq2, hws, hro⟩ hT
    rw [List.getElem?_map] at hu
    obtain ⟨n, hn, rfl⟩ : ∃ n, ns[i]? = some n ∧ u = V.int (n : Int) := by
      cases e : ns[i]? with
      | none => rw [e] at hu; simp at hu
      | some n => rw [e] at hu; simp at hu; exact ⟨n, rfl, hu.symm⟩
    obtain ⟨hin, hne⟩ := List.getElem?_eq_some_iff.mp hn
    have edr : ns.drop i = n :: ns.drop (i + 1) := by rw [List.drop_eq_getElem_cons hin, hne]
    have etk : ns.take (i + 1) = ns.take i ++ [n] := by rw [List.take_add_one, hn]; rfl
    rw [edr] at hro
    obtain ⟨⟨a, b', ha, hb, hless⟩, hro2⟩ := hro
    obtain ⟨ua, hua, va⟩ := Pr.get2 hws ha
    obtain ⟨ub, hub, vb⟩ := Pr.get2 hws hb
    have hn1 := (List.getElem?_eq_some_iff.mp hub).1
    have s3 : Same H2 (upd H2 t (.tup [.int (i : Nat), .int (n : Int)])) := Same.new hT
    have s13 := s2.trans s3
    have hq3 := s3 _ _ hq2
    have ei1 : ((n : Int) + 1) = ((n + 1 : Nat) : Int) := by push_cast; rfl
    have g1 : atI ws ((n : Int) + 1) = some ub := by rw [ei1]; exact atI_nat hub
    refine ⟨t, _, rfl, .inl (.inl upd_same), rfl, _, _, rfl, _, _, rfl, rfl, ?_⟩
    refine ⟨_, rfl, _, rfl, q, ws, rfl, .inl (.inl (.inl hq3)), _, _, rfl, rfl, _, _, _, rfl, _, rfl, ?_⟩
    rw [show (decide ((0 : Int) ≤ (n : Int)) && decide ((n : Int) ≤ (ws.length : Int) - 2)) = true by
      rw [decide_eq_true (Int.natCast_nonneg n), decide_eq_true (by omega)]; rfl]
    refine iteF ⟨_, rfl, _, rfl, q, ws, _, ua, rfl, rfl, .inl (.inl hq3), atI_nat hua, _, rfl, _, rfl, _, _, rfl, rfl, q, ws, _, ub, rfl, rfl, .inl (.inl hq3), g1, _, rfl, rfl, rfl, _, _, _, a, b', cs, rfl, va.same s3, vb.same s3, (hc.same sm1).same s13, _, rfl, ?_⟩
    rw [hless]
    refine iteF ⟨_, rfl, _, rfl, _, _, rfl, rfl, q, ws, _, ub, rfl, rfl, .inl (.inl hq3), g1, _, rfl, _, rfl, q, ws, _, ua, rfl, rfl, .inl (.inl hq3), atI_nat hua, by show 2 ≤ sizeLine; decide, fun r hr => ?_⟩
    have hq4 := (Same.new (o := .tup [ub, ua]) hr) _ _ hq3
    have qr : q ≠ r := ne_of_none hq3 hr
    have ix1 : ixN ws.length (n : Int) = some n := by unfold ixN; rw [if_pos (by omega), if_pos (by omega)]; simp
    have ix2 : ixN (ws.set n ub).length ((n : Int) + 1) = some (n + 1) := by rw [List.length_set]; unfold ixN; rw [if_pos (by omega), if_pos (by omega)]; congr 1
    refine ⟨r, _, rfl, .inl (.inl upd_same), rfl, _, _, rfl, _, rfl, _, rfl, q, ws, _, n, rfl, rfl, hq4, ix1, _, _, rfl, _, rfl, _, rfl, _, _, rfl, rfl, q, _, _, n + 1, rfl, rfl, upd_same, ix2, rfl, ?_⟩
    have s14 := s13.trans (Same.new (o := .tup [ub, ua]) hr)
    refine ⟨Same.upd_new (Same.upd_new s14 hq) hq, some (.int (i : Int)), some (.int (n : Int)), _, rfl, upd_same, ?_, ?_⟩
    · rw [etk, rep_append]
      refine Vs.tups (Tups.lst upd_same) (Vs.tups (Tups.lst hq4) (Vs.swp ?_ hua hub))
      exact (hws.same s3 : Vs _ _ _).same (Same.new hr)
    · rw [etk, rep_append]
      exact hro2
  · rintro σ H2 ⟨s2, b, c, ws, rfl, hq2, hws, hro⟩
    rw [List.length_map, List.take_length] at hws
    refine ⟨_, rfl, .inl ⟨q, ws, rfl, .inl (.inl hq2), fun r hr => hQ _ _ ((sm1.trans s2).trans (Same.new hr)) ⟨r, ws, rfl, upd_same, hws.same (Same.new hr)⟩⟩⟩
end
end K91
set_option Elab.async false
set_option linter.all false
set_option maxRecDepth 100000
set_option maxHeartbeats 2000000
/-! The walks: steps_between. -/
namespace K91
open PySem PySem.Spec PyProof.Rows L2 GenW
open K91M
theorem swp_cut {α : Type} (x v : α) (B : List α) : ∀ L : List α, swp (L ++ x :: v :: B) L.length = L ++ v :: x :: B
  | [] => rfl
  | y :: L => by
    have ih := swp_cut x v B L
    unfold swp at ih ⊢
    simp only [List.cons_append, List.length_cons, List.getElem?_cons_succ]
    have e1 : (L ++ x :: v :: B)[L.length]? = some x := by simp
    have e2 : (L ++ x :: v :: B)[L.length + 1]? = some v := by simp
    rw [e1, e2] at ih ⊢
    exact congrArg (y :: ·) ih
theorem later {cs o L B : List VV} {x v : VV} {i : Nat} (hok : okl cs o) (hnd : o.Nodup) (hp : (L ++ x :: v :: B).Perm o) (hv : o[i]? = some v) (hP : o.take i = L.take i) (hi : i ≤ L.length) : less cs x v = false := by
  have hnd2 : (L ++ x :: v :: B).Nodup := hp.nodup_iff.mpr hnd
  have hx : x ∈ o := hp.mem_iff.mp (by simp)
  obtain ⟨k, hk, hkx⟩ := List.mem_iff_getElem.mp hx
  obtain ⟨hi2, hiv⟩ := List.getElem?_eq_some_iff.mp hv
  rw [List.nodup_append] at hnd2
  obtain ⟨n1, n2, n3⟩ := hnd2
  have hxv : x ≠ v := fun e => by
    have := (List.nodup_cons.mp n2).1
    rw [e] at this
    exact this (by simp)
  have hki : ¬ k ≤ i := fun h => by
    rcases Nat.lt_or_ge k i with h1 | h1
    · have hm : x ∈ o.take i := by
        rw [List.mem_iff_getElem]
        exact ⟨k, by rw [List.length_take]; omega, by rw [List.getElem_take]; exact hkx⟩
      rw [hP] at hm
      exact n3 x (List.mem_of_mem_take hm) x (by simp) rfl
    · have : k = i := by omega
      subst this
      exact hxv (hkx.symm.trans hiv)
  have := List.pairwise_iff_getElem.mp hok i k hi2 hk (by omega)
  rw [hkx, hiv] at this
  exact this
theorem find_cut {o cur : List VV} {v : VV} {i : Nat} (hp : cur.Perm o) (hnd : o.Nodup) (hv : o[i]? = some v) (hP : cur.take i = o.take i) : ∃ A B, cur = o.take i ++ A ++ v :: B ∧ v ∉ o.take i ++ A := by
  obtain ⟨hi, hiv⟩ := List.getElem?_eq_some_iff.mp hv
  have hvo : v ∈ o := List.mem_of_getElem? hv
  have hvc : v ∈ cur := hp.mem_iff.mpr hvo
  have hnt : v ∉ o.take i := fun hm => by
    obtain ⟨k, hk, e⟩ := List.mem_iff_getElem.mp hm
    rw [List.length_take] at hk
    rw [List.getElem_take] at e
    exact List.pairwise_iff_getElem.mp hnd k i (by omega) hi (by omega) (e.trans hiv.symm)
  have hvd : v ∈ cur.drop i := by
    rw [← List.take_append_drop i cur] at hvc
    rcases List.mem_append.mp hvc with h | h
    · rw [hP] at h; exact absurd h hnt
    · exact h
  obtain ⟨A, B, e⟩ := List.append_of_mem hvd
  have ec : cur = o.take i ++ A ++ v :: B := by rw [← hP, List.append_assoc, ← e, List.take_append_drop]
  refine ⟨A, B, ec, fun hm => ?_⟩
  have hnd2 : cur.Nodup := hp.nodup_iff.mpr hnd
  rw [ec, List.nodup_append] at hnd2
  exact hnd2.2.2 v hm v (by simp) rfl
def spSteps (K : PySem.W.Frag) : Sp := fun vs H Q _ => ∃ vr vo vc l o cs, vs = [vr, vo, vc] ∧ Lat H vr l ∧ Lat H vo o ∧ l.length ≤ 64 ∧ RowR K H vc cs ∧ okl cs l ∧ okl cs o ∧ l.Perm o ∧ o.Nodup ∧ l.length ≤ 12 ∧
  ∀ st (ns : List Nat) H', Same H H' → H' st = some (.tup (ns.map fun (n : Nat) => V.int (n : Int))) → repOk cs l ns → rep l ns = o → Q (.ref st) H'
section
variable {P : Program} {w : World} {K : PySem.W.Frag} {mg : Str → Option Value} {base : Heap}
theorem okSteps (T : Tx K mg) : FO P w K mg base 5 dSteps ["row", "other", "converted"] (spSteps K) := by
  refine FunD.ok (T.f 19) cSteps (fun vs H Q E h => ?_) (fun cdv A outer s H vs Q E hr h => ⟨_, PSs.nox (
    (pss_cons (ps_expr (pe_call (okNeedV T) (hr.mono (by decide)) rfl (T.g 14) (T.f 18).kp (bNeedV T) .nil pass0 (pa_cons (pv 0) (pa_cons (pv 1) pa_nil))))
    (pss_cons (ps_expr (pe_call (okNeedS T) hr rfl (T.g 4) (T.f 4).kp (bNeedS T) .nil pass0 (pa_cons (pv 0) (pa_cons (pv 2) pa_nil))))
    (pss_cons (ps_expr (pe_call (okNeedS T) hr rfl (T.g 4) (T.f 4).kp (bNeedS T) .nil pass0 (pa_cons (pv 1) (pa_cons (pv 2) pa_nil))))
    (pss_cons (ps_asg (pe_callTy call_list_of (by rfl) (T.fr 44) (by decide +kernel) (pa_cons (pv 0) pa_nil)) (pg_name (i := 3) cSteps.nd rfl (Or.inl rfl)))
    (pss_cons (ps_asg (pe_lst pa_nil) (pg_name (i := 4) cSteps.nd rfl (Or.inl rfl)))
    (pss_cons (ps_for (g := gTup K 2 (gCons (gName 5) (gCons (gName 6) gNil))) PassesOwn.never rfl (pi_en (by rfl) (T.fr 46) (pa_cons (pv 1) pa_nil)) (pg_tup rfl (pgs_cons (pg_name (i := 5) cSteps.nd rfl (Or.inl rfl)) (pgs_cons (pg_name (i := 6) cSteps.nd rfl (Or.inl rfl)) pgs_nil)))
      (pss_one (ps_for PassesOwn.never rfl (pi_range3 rfl (T.fr 35) (pa_cons (pe_op op_sub (pe_bm PySem.F.plainAttrs_list PySem.F.slot_list_index PySem.F.type_list_index (mt_indexD (room_u hr)) (pv 3) (pa_cons (pv 6) pa_nil)) pe_int) (pa_cons (pe_op op_sub (pv 5) pe_int) (pa_cons (pe_un un_neg pe_int) pa_nil)))) (pg_name (i := 7) cSteps.nd rfl (Or.inl rfl))
        (pss_cons (ps_asg (pe_tup (pa_cons (pe_ix ixL (pv 3) (pe_op op_add (pv 7) pe_int) (fun _ _ => rfl)) (pa_cons (pe_ix ixL (pv 3) (pv 7) (fun _ _ => rfl)) pa_nil))) (pg_tup rfl (pgs_cons (pg_sub (pv 3) (pv 7) set_list) (pgs_cons (pg_sub (pv 3) (pe_op op_add (pv 7) pe_int) set_list) pgs_nil))))
        (pss_one (ps_expr (pe_bm PySem.F.plainAttrs_list PySem.F.slot_list_append PySem.F.type_list_append mt_append (pv 4) (pa_cons (pv 7) pa_nil))))))))
    (pss_one (ps_ret (pe_tupleOf (by rfl) (T.fr 43) (pv 4))))))))))), ?_⟩)
  · obtain ⟨_, _, _, _, _, _, rfl, _⟩ := h
    rfl
  obtain ⟨vr, vo, vc, l, o, cs, rfl, hv, ho, hl, hc, hokl, hoko, hperm, hnd, hl12, hQ⟩ := h
  have hol : o.length = l.length := hperm.length_eq.symm
  refine ⟨_, rfl, _, rfl, _, _, l, o, rfl, hv, ho, hl, by omega, fun x hx => hperm.mem_iff.mp hx, fun x hx => hperm.mem_iff.mpr hx, fun H1 sm1 => ?_⟩
  refine ⟨_, rfl, _, rfl, _, _, l, cs, rfl, hv.same sm1, hl, hc.same sm1, hokl, fun H2 sm2 => ?_⟩
  have sm12 := sm1.trans sm2
  refine ⟨_, rfl, _, rfl, _, _, o, cs, rfl, ho.same sm12, by omega, hc.same sm12, hoko, fun H3 sm3 => ?_⟩
  have sm13 := sm12.trans sm3
  obtain ⟨p, us, rfl, hp, hus⟩ := hv
  obtain ⟨p', os, rfl, hp', hos⟩ := ho
  refine ⟨_, rfl, p, us, rfl, .inr (.inl (.inl (sm13 _ _ hp))), fun q hq => ⟨by decide, fun qs hqs => ?_⟩⟩
  have nqs : q ≠ qs := ne_of_none upd_same hqs
  have hqs0 : H3 qs = none := by rw [upd_ne (Ne.symm nqs)] at hqs; exact hqs
  have hp3 := sm13 _ _ hp'
  have npq : p' ≠ q := ne_of_none hp3 hq
  have npqs : p' ≠ qs := ne_of_none hp3 hqs0
  have hos3 := hos.same sm13
  have hosl : os.length = o.length := hos.length
  refine ⟨_, rfl, p', os, rfl, .inl (.inl (by rw [upd_ne npqs, upd_ne npq]; exact hp3)), ?_⟩
  refine for_en2 (K := K) (a := p') (us := os) (fun i σ H4 => Same H3 H4 ∧ ∃ (b c d : Option V) (ws : List V) (cur : List VV) (ns : List Nat), σ = [some (.ref p), some (.ref p'), some vc, some (.ref q), some (.ref qs), b, c, d] ∧ H4 q = some (.lst ws) ∧ Vs H4 ws cur ∧ H4 qs = some (.lst (ns.map fun (n : Nat) => V.int (n : Int))) ∧ ns.length ≤ 12 * i ∧ cur.Perm o ∧ cur.take i = o.take i ∧ repOk cs l ns ∧ rep l ns = cur)
    ⟨Same.upd_new (Same.new hq) hqs0, none, none, none, us, l, [], rfl, by rw [upd_ne nqs]; exact upd_same, ((hus.same sm13 : Vs _ _ _).tups (Tups.new hq)).tups (Tups.new hqs), upd_same, Nat.zero_le _, hperm, rfl, trivial, rfl⟩ (fun i σ H h => .inl (.inl (h.1 _ _ hp3))) ?_ ?_
  · rintro i u t σ H4 hu ⟨s4, b, c, d, ws, cur, ns, rfl, hq4, hws, hqs4, hnl, hcp, hct, hro, hre⟩ hT
    obtain ⟨v, hv, vv⟩ := Pr.get hos3 hu
    obtain ⟨A, B, ecur, hnot⟩ := find_cut hcp hnd hv hct
    have hil : i < o.length := (List.getElem?_eq_some_iff.mp hv).1
    have hPl : (o.take i).length = i := by rw [List.length_take]; omega
    have hcl : cur.length = o.length := hcp.length_eq
    have hAl : i + A.length + 1 ≤ 12 := by
      have := congrArg List.length ecur
      rw [List.length_append, List.length_append, hPl, List.length_cons] at this
      omega
    have s5 : Same H4 (upd H4 t (.tup [.int (i : Nat), u])) := Same.new hT
    have s45 := s4.trans s5
    have hq5 := s5 _ _ hq4
    have hws5 := hws.same s5
    refine ⟨t, _, rfl, .inl (.inl upd_same), rfl, _, _, rfl, _, _, rfl, rfl, ?_⟩
    refine ⟨_, rfl, .inl ⟨rfl, ws, .inl (.inl hq5)⟩, _, rfl, q, _, encV v, cur.map encV, i + A.length, encV v, rfl, rfl, Vs.dpl hws5 hq5, (vv.same s45).dp, listV_shaped hws5.ok, encV_shaped (vv.same s45).ok, ?_, by rw [encV_eqv]; exact decide_eq_true rfl, fun a z ha hz => ?_, ?_⟩
    · have : cur[i + A.length]? = some v := by
        rw [ecur, List.getElem?_append_right (by rw [List.length_append, hPl]; omega)]
        rw [List.length_append, hPl, Nat.sub_self]
        rfl
      rw [List.getElem?_map, this]
      rfl
    · rw [List.getElem?_map] at hz
      cases e : cur[a]? with
      | none => rw [e] at hz; simp at hz
      | some y =>
        rw [e] at hz
        obtain rfl := Option.some.inj hz
        rw [encV_eqv]
        refine decide_eq_false fun e2 => hnot ?_
        rw [ecur, List.getElem?_append_left (by rw [List.length_append, hPl]; omega)] at e
        rw [← e2]
        exact List.mem_of_getElem? e
    refine ⟨_, _, rfl, rfl, _, rfl, _, _, rfl, rfl, _, rfl, _, _, _, _, rfl, RgC.neg (by omega) (by omega) (by omega) (by omega), ?_⟩
    have en : (((i + A.length : Nat) : Int) - 1 - ((i : Int) - 1)).toNat = A.length := by omega
    rw [en]
    refine for_rangeC (fun k σ H6 => Same H3 H6 ∧ k ≤ A.length ∧ ∃ (d : Option V) (ws : List V) (A' B' : List VV) (ns : List Nat), σ = [some (.ref p), some (.ref p'), some vc, some (.ref q), some (.ref qs), some (.int (i : Int)), some u, d] ∧ H6 q = some (.lst ws) ∧ Vs H6 ws (o.take i ++ A' ++ v :: B') ∧ A'.length + k = A.length ∧ H6 qs = some (.lst (ns.map fun (n : Nat) => V.int (n : Int))) ∧ ns.length ≤ 12 * i + k ∧ (o.take i ++ A' ++ v :: B').Perm o ∧ repOk cs l ns ∧ rep l ns = o.take i ++ A' ++ v :: B')
      ⟨s45, Nat.zero_le _, d, ws, A, B, ns, rfl, hq5, by rw [← ecur]; exact hws5, rfl, s5 _ _ hqs4, by omega, by rw [← ecur]; exact hcp, hro, by rw [← ecur]; exact hre⟩ ?_ ?_
    · rintro k σ H6 hk ⟨s6, _, d6, ws6, A', B', ns6, rfl, hq6, hws6, hA', hqs6, hnl6, hp6, hro6, hre6⟩
      have hA0 : A' ≠ [] := fun e => by rw [e] at hA'; simp at hA'; omega
      obtain ⟨A0, x, rfl⟩ : ∃ A0 x, A' = A0 ++ [x] := ⟨A'.dropLast, A'.getLast hA0, (List.dropLast_concat_getLast hA0).symm⟩
      rw [List.length_append, List.length_singleton] at hA'
      have ecut : o.take i ++ (A0 ++ [x]) ++ v :: B' = (o.take i ++ A0) ++ x :: v :: B' := by simp
      rw [ecut] at hws6 hp6 hre6
      have hL : (o.take i ++ A0).length = i + A0.length := by rw [List.length_append, hPl]
      have eidx : (((i + A.length : Nat) : Int) - 1) + (k : Nat) * -1 = ((i + A0.length : Nat) : Int) := by omega
      rw [eidx]
      generalize hm : i + A0.length = m at *
      have gx : ((o.take i ++ A0) ++ x :: v :: B')[m]? = some x := by rw [List.getElem?_append_right (by omega), hL, Nat.sub_self]; rfl
      have gv : ((o.take i ++ A0) ++ x :: v :: B')[m + 1]? = some v := by rw [List.getElem?_append_right (by omega), hL, show m + 1 - m = 1 by omega]; rfl
      obtain ⟨ua, hua, va⟩ := Pr.get2 hws6 gx
      obtain ⟨ub, hub, vb⟩ := Pr.get2 hws6 gv
      have hn1 := (List.getElem?_eq_some_iff.mp hub).1
      have hless : less cs x v = false := later hoko hnd hp6 hv (by rw [List.take_append_of_le_length (by rw [hPl]; exact Nat.le_refl _), List.take_take, Nat.min_self]) (by rw [hL, ← hm]; exact Nat.le_add_right _ _)
      have ei1 : ((m : Int) + 1) = ((m + 1 : Nat) : Int) := by push_cast; rfl
      have g1 : atI ws6 ((m : Int) + 1) = some ub := by rw [ei1]; exact atI_nat hub
      have ix1 : ixN ws6.length (m : Int) = some m := by unfold ixN; rw [if_pos (by omega), if_pos (by omega)]; simp
      have ix2 : ixN (ws6.set m ub).length ((m : Int) + 1) = some (m + 1) := by rw [List.length_set]; unfold ixN; rw [if_pos (by omega), if_pos (by omega)]; congr 1
      refine ⟨_, rfl, _, rfl, _, _, rfl, rfl, q, ws6, _, ub, rfl, rfl, .inl (.inl hq6), g1, _, rfl, _, rfl, q, ws6, _, ua, rfl, rfl, .inl (.inl hq6), atI_nat hua, by show 2 ≤ sizeLine; decide, fun r hr => ?_⟩
      have sr : Same H6 (upd H6 r (.tup [ub, ua])) := Same.new hr
      have hq7 := sr _ _ hq6
      have hqs7 := sr _ _ hqs6
      refine ⟨r, _, rfl, .inl (.inl upd_same), rfl, _, _, rfl, _, rfl, _, rfl, q, ws6, _, m, rfl, rfl, hq7, ix1, _, _, rfl, _, rfl, _, rfl, _, _, rfl, rfl, q, _, _, m + 1, rfl, rfl, upd_same, ix2, rfl, ?_⟩
      have hsw := Vs.swp (Vs.same hws6 sr) hua hub
      have esw : swp ((o.take i ++ A0) ++ x :: v :: B') m = o.take i ++ A0 ++ v :: x :: B' := by rw [← hL]; exact swp_cut x v B' _
      rw [esw] at hsw
      refine ⟨_, rfl, .inl ⟨rfl, _, .inl (.inl (by rw [upd_ne (Ne.symm nqs), upd_ne (Ne.symm nqs)]; exact hqs7))⟩, _, rfl, qs, _, _, rfl, rfl, by rw [upd_ne (Ne.symm nqs), upd_ne (Ne.symm nqs)]; exact hqs7, by rw [List.length_map, sizeLine_eq]; omega, ?_⟩
      have hqsX : (upd (upd (upd H6 r (.tup [ub, ua])) q (.lst (ws6.set m ub))) q (.lst ((ws6.set m ub).set (m + 1) ua))) qs = some (.lst (ns6.map fun (n : Nat) => V.int (n : Int))) := by rw [upd_ne (Ne.symm nqs), upd_ne (Ne.symm nqs)]; exact hqs7
      refine ⟨Same.upd_new (Same.upd_new (Same.upd_new (s6.trans sr) hq) hq) hqs0, by omega, some (.int (m : Int)), _, A0, x :: B', ns6 ++ [m], rfl, by rw [upd_ne nqs]; exact upd_same, Vs.tups (Tups.lst hqsX) (Vs.tups (Tups.lst upd_same) (Vs.tups (Tups.lst hq7) hsw)), by omega, ?_, by rw [List.length_append, List.length_singleton]; omega, ?_, ?_, ?_⟩
      · rw [upd_same, List.map_append]; rfl
      · refine List.Perm.trans ?_ hp6
        exact List.Perm.append_left _ (List.Perm.swap _ _ _)
      · rw [repOk_append]
        refine ⟨hro6, ?_⟩
        rw [hre6]
        exact ⟨⟨x, v, gx, gv, hless⟩, trivial⟩
      · rw [rep_append, hre6]
        exact esw
    · rintro σ H6 ⟨s6, _, d6, ws6, A', B', ns6, rfl, hq6, hws6, hA', hqs6, hnl6, hp6, hro6, hre6⟩
      have hA0 : A' = [] := List.eq_nil_of_length_eq_zero (by omega)
      subst hA0
      rw [List.append_nil] at hws6 hp6 hre6
      refine ⟨s6, _, _, _, ws6, o.take i ++ v :: B', ns6, rfl, hq6, hws6, hqs6, by omega, hp6, ?_, hro6, hre6⟩
      rw [show o.take (i + 1) = o.take i ++ [v] by rw [List.take_add_one, hv]; rfl, List.take_append, List.take_of_length_le (by rw [hPl]; exact Nat.le_succ _), hPl, show i + 1 - i = 1 by omega]
      rfl
  · rintro σ H4 ⟨s4, b, c, d, ws, cur, ns, rfl, hq4, hws, hqs4, hnl, hcp, hct, hro, hre⟩
    have ecur : cur = o := by
      rw [hosl] at hct
      rw [List.take_of_length_le (by rw [hcp.length_eq]; exact Nat.le_refl _), List.take_length] at hct
      exact hct
    refine ⟨_, rfl, .inl ⟨qs, _, rfl, .inl (.inl hqs4), fun r hr => hQ r ns _ ((sm13.trans s4).trans (Same.new hr)) upd_same hro (hre.trans ecur)⟩⟩
end
end K91
set_option Elab.async false
set_option linter.all false
set_option maxRecDepth 100000
set_option maxHeartbeats 2000000
/-! The law's helpers: _law_lower, _law_first_fault. -/
namespace K91
open PySem PySem.Spec PyProof.Rows L2 GenW
open K91M
section
variable {P : Program} {w : World} {K : PySem.W.Frag} {mg : Str → Option Value} {base : Heap}
theorem okLLower (T : Tx K mg) : FO P w K mg base 1 dLLower ["_law_one", "_law_mate", "_law_marks_here"] (spIsLess K) := by
  refine FunD.ok (T.f 28) cLLower (fun vs H Q E h => ?_) (fun cdv A outer s H vs Q E hr h => ⟨_, PSs.nox (pss_cons (ps_if (PW.pt (pw_and (pt_cmpR op_eq (pe_ix ix_tup (pv 0) pe_int (fun _ _ => rfl)) (pe_ix ix_tup (pv 1) pe_int (fun _ _ => rfl)) (nomark _)) (pw_and (pt_cmpR (op_notInV (room_u hr)) (pv 0) (pv 2) rfl) (pw_and1 (pt_cmpR (op_notInV (room_u hr)) (pv 1) (pv 2) rfl)))))
      (pss_one (ps_ret (pe_cmpR op_lt (pe_ix ix_tup (pv 0) pe_int (fun _ _ => rfl)) (pe_ix ix_tup (pv 1) pe_int (fun _ _ => rfl)) (nomark _)))) pss_nil)
    (pss_one (ps_ret (pe_cmpR op_lt (pe_ix ix_tup (pv 0) pe_int (fun _ _ => rfl)) (pe_ix ix_tup (pv 1) pe_int (fun _ _ => rfl)) (nomark _))))), ?_⟩)
  · obtain ⟨_, _, _, _, _, _, rfl, _⟩ := h
    rfl
  obtain ⟨va, vb, vc, a, b, cs, rfl, ⟨p, rfl, ha, hka⟩, ⟨q, rfl, hb, hkb⟩, hc, hQ⟩ := h
  have sa : SqT K H p [.str a.k, .int a.o, .int a.m] := .inl (.inl ha)
  have sb : SqT K H q [.str b.k, .int b.o, .int b.m] := .inl (.inl hb)
  have two : ∀ (hl : less cs a b = decide (a.m < b.m)), tRet (tOp (rI0 fun i j => V.bl (decide (i < j))) (tOp (rIxT K) (tVar 0) (tC (V.int 2))) (tOp (rIxT K) (tVar 1) (tC (V.int 2)))) { nx := fun _ H' => Q .non H', rt := Q } (L2.start ["_law_one", "_law_mate", "_law_marks_here"] [V.ref p, V.ref q, vc]) H := fun hl =>
    ⟨_, rfl, p, _, 2, _, rfl, rfl, sa, rfl, _, rfl, q, _, 2, _, rfl, rfl, sb, rfl, _, _, rfl, rfl, by show Q (.bl (decide (a.m < b.m))) H; rw [← hl]; exact hQ⟩
  refine ⟨_, rfl, p, _, 0, _, rfl, rfl, sa, rfl, _, rfl, q, _, 0, _, rfl, rfl, sb, rfl, rfl, _, rfl, ite2 (fun h1 => ?_) fun h1 => iteF (two ?_)⟩
  · have hk : a.k = b.k := by simpa using h1
    refine ⟨_, rfl, _, rfl, a, cs, ⟨p, rfl, ha, hka⟩, hc, _, rfl, ite2 (fun h2 => ?_) fun h2 => iteF (two ?_)⟩
    · have h2' : a ∉ cs := by simpa using h2
      refine ⟨_, rfl, _, rfl, b, cs, ⟨q, rfl, hb, hkb⟩, hc, _, rfl, ite2 (fun h3 => ?_) fun h3 => (two ?_)⟩
      · have h3' : b ∉ cs := by simpa using h3
        refine ⟨_, rfl, p, _, 1, _, rfl, rfl, sa, rfl, _, rfl, q, _, 1, _, rfl, rfl, sb, rfl, _, _, rfl, rfl, ?_⟩
        have e : less cs a b = decide (a.o < b.o) := if_pos ⟨hk, h2', h3'⟩
        show Q (.bl (decide (a.o < b.o))) H
        rw [← e]; exact hQ
      · have h3' : b ∈ cs := by simpa using h3
        exact if_neg fun z => z.2.2 h3'
    · have h2' : a ∈ cs := by simpa using h2
      exact if_neg fun z => z.2.1 h2'
  · have hk : a.k ≠ b.k := by simpa using h1
    exact if_neg fun z => hk z.1
def spLFault (K : PySem.W.Frag) : Sp := fun vs H Q _ => ∃ vr vc l cs, vs = [vr, vc] ∧ Lat H vr l ∧ l.length ≤ 64 ∧ RowR K H vc cs ∧ (okl cs l → ∀ H', Same H H' → Q .non H') ∧ (¬ okl cs l → ∀ t xs H', Same H H' → H' t = some (.tup xs) → Q (.ref t) H')
theorem okLFault (T : Tx K mg) : FO P w K mg base 2 dLFault ["_law_line", "_law_marks_here"] (spLFault K) := by
  refine FunD.ok (T.f 29) cLFault (fun vs H Q E h => ?_) (fun cdv A outer s H vs Q E hr h => ⟨_, PSs.nox (pss_cons
    (ps_for PassesOwn.never rfl (pi_range1 rfl (T.fr 35) (pa_cons (pe_callB clen (by rfl) (T.fr 34) PySem.boot_len (pa_cons (pv 0) pa_nil)) pa_nil)) (pg_name (i := 2) cLFault.nd rfl (Or.inl rfl))
      (pss_one (ps_for PassesOwn.never rfl (pi_range2 rfl (T.fr 35) (pa_cons (pe_op op_add (pv 2) pe_int) (pa_cons (pe_callB clen (by rfl) (T.fr 34) PySem.boot_len (pa_cons (pv 0) pa_nil)) pa_nil))) (pg_name (i := 3) cLFault.nd rfl (Or.inl rfl))
        (pss_one (ps_if (pt_val (pe_call (okLLower T) hr rfl (T.g 24) (T.f 28).kp (bLLower T) .nil pass0 (pa_cons (pe_ix ixT (pv 0) (pv 3) (fun _ _ => rfl)) (pa_cons (pe_ix ixT (pv 0) (pv 2) (fun _ _ => rfl)) (pa_cons (pv 1) pa_nil))))) (pss_one (ps_ret (pe_tup (pa_cons (pv 2) (pa_cons (pv 3) pa_nil))))) pss_nil)))))
    (pss_one (ps_ret pe_non))), ?_⟩)
  · obtain ⟨_, _, _, _, rfl, _⟩ := h
    rfl
  obtain ⟨vr, vc, l, cs, rfl, ⟨p, us, rfl, hp, hus⟩, hl, hc, hQ1, hQ2⟩ := h
  have hul : us.length = l.length := hus.length
  have sp : SqT K H p us := .inl (.inl hp)
  refine ⟨_, rfl, p, us, rfl, .inr sp, (us.length : Int), rfl, by omega, by omega, ?_⟩
  refine for_rg (fun i σ H2 => Same H H2 ∧ (∃ b c, σ = [some (.ref p), some vc, b, c]) ∧ ∀ a b x y, l[a]? = some x → l[b]? = some y → a < b → a < i → less cs y x = false) ⟨Same.refl _, ⟨none, none, rfl⟩, fun _ _ _ _ _ _ _ z => absurd z (Nat.not_lt_zero _)⟩ ?_ ?_
  · rintro i σ H2 hi ⟨s2, ⟨b, c, rfl⟩, hno⟩
    have hi' : i < us.length := by omega
    refine ⟨_, rfl, _, _, rfl, rfl, _, rfl, p, us, rfl, .inr (SqT.same sp s2), _, (us.length : Int), rfl, ⟨by omega, by omega, by omega, by omega⟩, ?_⟩
    refine for_rg (fun k σ H3 => Same H H3 ∧ (∃ c, σ = [some (.ref p), some vc, some (.int (0 + (i : Int))), c]) ∧ ∀ a b x y, l[a]? = some x → l[b]? = some y → a < b → (a < i ∨ a = i ∧ b < i + 1 + k) → less cs y x = false) ⟨s2, ⟨c, rfl⟩, fun a b x y h1 h2 h3 h4 => ?_⟩ ?_ ?_
    · rcases h4 with h4 | ⟨h4, h5⟩
      · exact hno a b x y h1 h2 h3 h4
      · omega
    · rintro k σ H3 hk ⟨s3, ⟨c3, rfl⟩, hno3⟩
      have hj : i + 1 + k < us.length := by omega
      have hu3 := hus.same s3
      obtain ⟨x, hx, vx⟩ := Pr.get hu3 (List.getElem?_eq_getElem hj)
      obtain ⟨y, hy, vy⟩ := Pr.get hu3 (List.getElem?_eq_getElem hi')
      have ej : (0 + (i : Int)) + 1 + (k : Int) = ((i + 1 + k : Nat) : Int) := by omega
      have ei : (0 + (i : Int)) = ((i : Nat) : Int) := by omega
      refine ⟨_, rfl, _, rfl, p, us, _, _, rfl, rfl, SqT.same sp s3, by rw [ej]; exact atI_nat (List.getElem?_eq_getElem hj), _, rfl, _, rfl, p, us, _, _, rfl, rfl, SqT.same sp s3, by rw [ei]; exact atI_nat (List.getElem?_eq_getElem hi'), _, rfl, _, _, _, x, y, cs, rfl, vx, vy, hc.same s3, _, rfl, ite2 (fun hb => ?_) fun hb => ?_⟩
      · refine ⟨_, rfl, _, rfl, by show 2 ≤ sizeLine; decide, fun t ht => hQ2 (fun hok => ?_) t _ _ (s3.trans (Same.new ht)) upd_same⟩
        have hpw := List.pairwise_iff_getElem.mp hok i (i + 1 + k) (by omega) (by omega) (by omega)
        have e1 : l[i + 1 + k]'(by omega) = x := Option.some.inj ((List.getElem?_eq_getElem _).symm.trans hx)
        have e2 : l[i]'(by omega) = y := Option.some.inj ((List.getElem?_eq_getElem _).symm.trans hy)
        rw [e1, e2, hb] at hpw
        cases hpw
      · refine ⟨s3, ⟨_, rfl⟩, fun a b x' y' h1 h2 h3 h4 => ?_⟩
        by_cases hab : a = i ∧ b = i + 1 + k
        · obtain ⟨rfl, rfl⟩ := hab
          rw [hy] at h1
          rw [hx] at h2
          obtain rfl := Option.some.inj h1
          obtain rfl := Option.some.inj h2
          simpa using hb
        · exact hno3 a b x' y' h1 h2 h3 (by omega)
    · rintro σ H3 ⟨s3, ⟨c3, rfl⟩, hno3⟩
      refine ⟨s3, ⟨_, _, rfl⟩, fun a b x y h1 h2 h3 h4 => ?_⟩
      have hb := (List.getElem?_eq_some_iff.mp h2).1
      exact hno3 a b x y h1 h2 h3 (by omega)
  · rintro σ H2 ⟨s2, ⟨b, c, rfl⟩, hno⟩
    refine hQ1 (List.pairwise_iff_getElem.mpr fun a b ha hb hab => ?_) H2 s2
    exact hno a b _ _ (List.getElem?_eq_getElem ha) (List.getElem?_eq_getElem hb) hab (by omega)
end
end K91
set_option Elab.async false
set_option linter.all false
set_option maxRecDepth 100000
set_option maxHeartbeats 2000000
/-! The law's helpers: _law_orders. -/
namespace K91
open PySem PySem.Spec PyProof.Rows L2 GenW
open K91M
def ords : Nat → List VV → List (List VV)
  | 0, _ => [[]]
  | n + 1, l => (List.range (n + 1)).flatMap fun k => (ords n (l.eraseIdx k)).map (rowAt l k :: ·)
def fac : Nat → Nat
  | 0 => 1
  | n + 1 => (n + 1) * fac n
theorem ords_len : ∀ (n : Nat) (l : List VV), (ords n l).length = fac n
  | 0, _ => rfl
  | n + 1, l => by
    show ((List.range (n + 1)).flatMap fun k => (ords n (l.eraseIdx k)).map (rowAt l k :: ·)).length = (n + 1) * fac n
    rw [List.length_flatMap]
    have : ((List.range (n + 1)).map fun k => ((ords n (l.eraseIdx k)).map (rowAt l k :: ·)).length) = (List.range (n + 1)).map fun _ => fac n := List.map_congr_left fun k _ => by rw [List.length_map, ords_len n]
    rw [this]
    rw [List.map_const', List.sum_replicate_nat, List.length_range]
theorem fac_le : ∀ {n m : Nat}, n ≤ m → fac n ≤ fac m := by
  intro n m h
  induction h with
  | refl => exact Nat.le_refl _
  | step _ ih => exact Nat.le_trans ih (Nat.le_mul_of_pos_left _ (Nat.succ_pos _))
theorem Pr.mapr {α β γ : Type} {F : α → γ → Prop} {f : β → γ} : ∀ {acc : List α} {xs : List β}, Paired (fun y x => F y (f x)) acc xs → Paired F acc (xs.map f)
  | _, _, .nil => .nil
  | _, _, .cons r t => .cons r (Pr.mapr t)
theorem filter_all {α : Type} (l : List α) : l.filter (fun _ => true) = l := List.filter_eq_self.mpr fun _ _ => rfl
def spOrders (n : Nat) : Sp := fun vs H Q _ => ∃ a us l, vs = [.ref a] ∧ H a = some (.lst us) ∧ Vs H us l ∧ l.length = n ∧ ∀ D ts H', Same H H' → H' D = some (.lst ts) → Paired (Lat H') ts (ords n l) → Q (.ref D) H'
theorem ords_mem : ∀ (n : Nat) (l : List VV), l.length = n → ∀ r ∈ ords n l, r.length = n
  | 0, _, _, r, h => by
    have : r = [] := by simpa [ords] using h
    rw [this]; rfl
  | n + 1, l, hl, r, h => by
    obtain ⟨k, hk, h2⟩ := List.mem_flatMap.mp h
    obtain ⟨r', h3, rfl⟩ := List.mem_map.mp h2
    have hk' := List.mem_range.mp hk
    rw [List.length_cons, ords_mem n (l.eraseIdx k) (by rw [List.length_eraseIdx]; split <;> omega) r' h3]
theorem cLOrders' : FnScope ["_law_items", "_law_found", "_law_k", "_law_rest"] ["_law_items"] (defScope sLOrders) :=
  ⟨rfl, rfl, rfl, by decide +kernel, rfl, by decide +kernel, by decide +kernel⟩
theorem cut_to {us : List V} {k : Nat} (h : k ≤ us.length) : cutV us none (some (k : Int)) = us.take k := by
  unfold cutV
  rw [HT.sIx_nat]
  show List.take (min k us.length - 0) (List.drop 0 us) = _
  rw [List.drop_zero, Nat.min_eq_left h, Nat.sub_zero]
theorem cut_from {us : List V} {k : Nat} (h : k ≤ us.length) : cutV us (some (k : Int)) none = us.drop k := by
  unfold cutV
  rw [HT.sIx_nat]
  show List.take (us.length - min k us.length) (List.drop (min k us.length) us) = _
  rw [Nat.min_eq_left h]
  exact List.take_of_length_le (by rw [List.length_drop]; exact Nat.le_refl _)
theorem catT {X : Cx} {K : PySem.W.Frag} (h : X.K = K := by rfl) : OpR X (binaryOp .Add) (rCatA K) := h ▸ op_catA
section
variable {P : Program} {w : World} {K : PySem.W.Frag} {mg : Str → Option Value} {base : Heap}
theorem okOrders0 (T : Tx K mg) (n : Nat) (hn : n ≤ 7) (hin : n = 0 ∨ ∃ m, n = m + 1 ∧ FO P w K mg base (m + 1) dLOrders ["_law_items"] (spOrders m)) : FO P w K mg base (n + 1) dLOrders ["_law_items"] (spOrders n) := by
  refine FunD.ok (T.f 33) cLOrders' (fun vs H Q E h => ?_) (fun cdv A outer s H vs Q E hr h => ?_)
  · obtain ⟨_, _, _, rfl, _⟩ := h
    rfl
  obtain ⟨a, us, l, rfl, ha, hu, hln, hQ⟩ := h
  have hul : us.length = l.length := hu.length
  rcases hin with rfl | ⟨m, rfl, F⟩
  · refine ⟨_, PSs.nox (pss_cons (ps_if (pt_cmpR (op_eqD (room_64 hr)) (pv 0) (pe_lst pa_nil) (nomark _)) (pss_one (ps_ret (pe_lst (pa_cons (pe_tup pa_nil) pa_nil)))) pss_nil) (pss_cons ps_never (pss_cons ps_never (pss_one ps_never)))), ?_⟩
    have hl0 : l = [] := List.eq_nil_of_length_eq_zero hln
    subst hl0
    refine ⟨_, rfl, by decide, fun q hq => ⟨_, _, (hu.tups (Tups.new hq)).dpl (by rw [upd_ne (ne_of_none ha hq)]; exact ha), .lst (.inl (.inl upd_same)) .nil, listV_shaped (l := []) (fun _ z => nomatch z), rfl, _, rfl, ?_⟩⟩
    rw [eqv_nil]
    refine iteT ⟨by decide, fun t ht => ⟨by show 1 ≤ sizeLine; decide, fun D hD => hQ D [.ref t] _ (((Same.new hq).trans (Same.new ht)).trans (Same.new hD)) upd_same (.cons ⟨t, [], rfl, ?_, .nil⟩ .nil)⟩⟩
    rw [upd_ne (ne_of_none upd_same hD)]
    exact upd_same
  · refine ⟨_, PSs.nox (pss_cons (ps_if (pt_cmpR (op_eqD (room_64 hr)) (pv 0) (pe_lst pa_nil) (nomark _)) (pss_one (ps_ret (pe_lst (pa_cons (pe_tup pa_nil) pa_nil)))) pss_nil)
      (pss_cons (ps_asg (pe_lst pa_nil) (pg_name (i := 1) cLOrders'.nd rfl (Or.inl rfl)))
      (pss_cons (ps_for PassesOwn.never rfl (pi_range1 rfl (T.fr 35) (pa_cons (pe_callB clen (by rfl) (T.fr 34) PySem.boot_len (pa_cons (pv 0) pa_nil)) pa_nil)) (pg_name (i := 2) cLOrders'.nd rfl (Or.inr rfl))
        (pss_one (ps_asg (pe_op op_cat (pv 1)
          (pe_lc (own := [("_law_rest", 3)]) (g := gName 3) rfl cLOrders'.nd (pi_list (pe_call F hr rfl (T.g 29) (T.f 33).kp (bLOrders T) .nil pass0 (pa_cons (pe_op op_cat (pe_slice sl_list (pv 0) po_none (po_some (pv 2))) (pe_slice sl_list (pv 0) (po_some (pe_op op_add (pv 2) pe_int)) po_none)) pa_nil))) (blkOk_by (N := ["_law_items", "_law_found", "_law_k", "_law_rest"]) (sc := defScope sLOrders) (by decide +kernel)) (fun _ _ _ _ _ => pg_name (i := 3) cLOrders'.nd rfl (Or.inl rfl)) (fun _ _ _ _ _ => pts_nil)
            (fun _ _ _ _ _ => pe_op catT (pe_tup (pa_cons (pe_ix ixL (pv 0) (pv 2) (fun _ _ => rfl)) pa_nil)) (pv 3)))) (pg_name (i := 1) cLOrders'.nd rfl (Or.inl rfl)))))
      (pss_one (ps_ret (pv 1)))))), ?_⟩
    have hz := sizeLine_eq
    have hfm : fac m ≤ 720 := fac_le (show m ≤ 6 by omega)
    have hff : fac (m + 1) ≤ 5040 := fac_le hn
    refine ⟨_, rfl, by decide, fun q hq => ⟨_, _, (hu.tups (Tups.new hq)).dpl (by rw [upd_ne (ne_of_none ha hq)]; exact ha), .lst (.inl (.inl upd_same)) .nil, listV_shaped hu.ok, rfl, _, rfl, ?_⟩⟩
    rw [eqv_nil, show decide (l = []) = false from decide_eq_false fun e => by rw [e] at hln; simp at hln]
    have s1 : Same H (upd H q (.lst [])) := Same.new hq
    refine iteF ⟨by decide, fun q1 hq1 => ?_⟩
    have s2 := s1.trans (Same.new (o := .lst []) hq1)
    generalize hH2 : upd (upd H q (.lst [])) q1 (.lst []) = H2 at *
    have h2q1 : H2 q1 = some (.lst []) := by rw [← hH2]; exact upd_same
    refine ⟨_, rfl, a, us, rfl, .inl (.inl (.inl (s2 _ _ ha))), (us.length : Int), rfl, by omega, by omega, ?_⟩
    refine for_rg (fun k σ H3 => Same H2 H3 ∧ k ≤ m + 1 ∧ ∃ (f : Addr) (b : Option V) (ts : List V), σ = [some (.ref a), some (.ref f), b, none] ∧ H3 f = some (.lst ts) ∧ Paired (Lat H3) ts ((List.range k).flatMap fun k => (ords m (l.eraseIdx k)).map (rowAt l k :: ·))) ⟨Same.refl _, Nat.zero_le _, q1, none, [], rfl, h2q1, .nil⟩ ?_ ?_
    · rintro k σ H3 hk ⟨s3, _, f, b, ts, rfl, hf, hts⟩
      have hk' : k < us.length := by omega
      have s03 := s2.trans s3
      have ha3 := s03 _ _ ha
      have hu3 := hu.same s03
      obtain ⟨y, hy, vy⟩ := Pr.get hu3 (List.getElem?_eq_getElem hk')
      have e0 : (0 + (k : Int)) = ((k : Nat) : Int) := by omega
      rw [e0]
      simp only [tNoPart]
      refine ⟨_, rfl, _, rfl, _, rfl, _, rfl, a, us, rfl, .inl (.inl ha3), fun p1 hp1 => ⟨_, rfl, _, rfl, _, _, rfl, rfl, _, rfl, a, us, rfl, .inl (.inl ((Same.new hp1) _ _ ha3)), fun p2 hp2 => ?_⟩⟩
      have t1 : Same H3 (upd H3 p1 (.lst (cutV us none (some (k : Int))))) := Same.new hp1
      have g1 : upd H3 p1 (.lst (cutV us none (some (k : Int)))) p1 = some (.lst (us.take k)) := by rw [cut_to (by omega)]; exact upd_same
      have t2 := Same.new (o := .lst (cutV us (some ((k : Int) + 1)) none)) hp2
      refine ⟨p1, p2, us.take k, us.drop (k + 1), rfl, rfl, t2 _ _ g1, ?_, by rw [List.length_take, List.length_drop]; omega, fun p3 hp3 => ?_⟩
      · rw [show ((k : Int) + 1) = ((k + 1 : Nat) : Int) by omega, cut_from (by omega)]; exact upd_same
      have t3 := (t1.trans t2).trans (Same.new (o := .lst (us.take k ++ us.drop (k + 1))) hp3)
      have s04 := s03.trans t3
      refine ⟨p3, us.take k ++ us.drop (k + 1), l.eraseIdx k, rfl, upd_same, ?_, by rw [List.length_eraseIdx]; split <;> omega, fun D ts' H' sm hD hp => ⟨D, rfl, ⟨_, .inl (.inl hD)⟩, fun D2 hD2 => ?_⟩⟩
      · have e := Pr.eraseIdx k (Vs.same hu s04)
        rw [List.eraseIdx_eq_take_drop_succ us] at e
        exact e
      have s05 := s04.trans sm
      have s35 := t3.trans sm
      have hlen := hp.length
      rw [ords_len] at hlen
      refine lc_list (xs := ords m (l.eraseIdx k)) Lat (JS.list (.inl (.inl hD))) hp (fun _ _ _ _ s h => h.same s) (fun _ => true) (fun r z H => Lat H z (rowAt l k :: r)) hD2 (by rw [ords_len]; omega) (fun _ _ _ _ s h => h.same s) (fun x y H2 acc ci h _ => h.tups (Tups.lst ci.at_)) (fun i r z H6 Fin Skp s6 hr hz hvr fin skp => ?_) (fun acc H6 ci pr => ?_)
      · obtain ⟨zt, zs, rfl, hzt, hzv⟩ := hvr
        have ha6 := s6 _ _ (s05 _ _ ha)
        have ey : y = rowAt l k := by
          have : k < l.length := by omega
          rw [List.getElem?_eq_getElem this] at hy
          simp [rowAt, List.getD_eq_getElem?_getD, this, ← Option.some.inj hy]
        have vy6 : Vat H6 us[k] (rowAt l k) := by rw [← ey]; exact (vy.same s35).same s6
        refine ⟨rfl, _, rfl, _, rfl, a, us, _, us[k], rfl, rfl, .inl (.inl ha6), atI_nat (List.getElem?_eq_getElem hk'), by show 1 ≤ sizeLine; decide, fun t ht => ?_⟩
        have st := Same.new (o := .tup [us[k]]) ht
        have hzl : zs.length ≤ 64 := by
          have h1 := hzv.length
          have h2 := List.mem_of_getElem? hr
          have h3 := ords_mem _ _ (by rw [List.length_eraseIdx]; split <;> omega) _ h2
          omega
        refine ⟨_, rfl, t, zt, [us[k]], zs, rfl, rfl, .inl (.inl upd_same), .inl (.inl (st _ _ hzt)), by rw [List.length_singleton, sizeLine_eq]; omega, (fun z => by cases z), fun _ hz0 => ?_, fun _ hz1 p5 hp5 => ?_⟩
        · subst hz0
          have : r = [] := List.eq_nil_of_length_eq_zero (by rw [← hzv.length]; rfl)
          subst this
          exact fin _ _ rfl st ⟨t, [us[k]], rfl, upd_same, .cons (vy6.same st) .nil⟩
        · have s5 := Same.new (o := .tup ([us[k]] ++ zs)) hp5
          exact fin _ _ rfl (st.trans s5) ⟨p5, us[k] :: zs, rfl, upd_same, .cons ((vy6.same st).same s5) ((hzv.same st : Vs _ _ _).same s5)⟩
      · rw [filter_all] at pr
        have pr2 := Pr.mapr (F := Lat H6) (f := fun r => rowAt l k :: r) pr
        have hal := pr2.length
        rw [List.length_map, ords_len] at hal
        have htl := hts.length
        have hbd : ((List.range k).flatMap fun k => (ords m (l.eraseIdx k)).map (rowAt l k :: ·)).length ≤ 5040 := by
          have e1 : (List.range (m + 1)) = List.range k ++ (List.range (m + 1)).drop k := by
            conv => lhs; rw [← List.take_append_drop k (List.range (m + 1))]
            rw [List.take_range, Nat.min_eq_left (by omega)]
          have e2 := ords_len (m + 1) l
          have e3 : (ords (m + 1) l).length = ((List.range (m + 1)).flatMap fun k => (ords m (l.eraseIdx k)).map (rowAt l k :: ·)).length := rfl
          rw [e1, List.flatMap_append, List.length_append] at e3
          omega
        have hf6 := ci.same _ _ (s35 _ _ hf)
        refine ⟨f, D2, ts, acc, rfl, rfl, hf6, ci.at_, by omega, fun p6 hp6 => ?_⟩
        have s7 := Same.new (o := .lst (ts ++ acc)) hp6
        have s36 := (s35.trans ci.same).trans s7
        refine ⟨s3.trans s36, by omega, p6, _, ts ++ acc, rfl, upd_same, ?_⟩
        rw [List.range_succ, List.flatMap_append]
        refine Pr.append (Paired.mapP hts fun y x q => Lat.same q s36) ?_
        simp only [List.flatMap_cons, List.flatMap_nil, List.append_nil]
        exact Paired.mapP pr2 fun y x q => Lat.same q s7
    · rintro σ H3 ⟨s3, _, f, b, ts, rfl, hf, hts⟩
      refine ⟨_, rfl, hQ f ts H3 (s2.trans s3) hf ?_⟩
      have e : ((us.length : Int)).toNat = m + 1 := by omega
      rw [e] at hts
      exact hts
end
end K91
set_option Elab.async false
set_option linter.all false
set_option maxRecDepth 100000
set_option maxHeartbeats 2000000
/-! The law's helpers: _law_all_sorted. -/
namespace K91
open PySem PySem.Spec PyProof.Rows L2 GenW
open K91M
theorem none_of {H H' : Hp} {D : Addr} (s : Same H H') (h : H' D = none) : H D = none := by
  cases e : H D with
  | none => rfl
  | some o => rw [s _ _ e] at h; cases h
instance (cs l : List VV) : Decidable (okl cs l) := inferInstanceAs (Decidable (List.Pairwise _ l))
def dueL (cs l : List VV) : List (List VV) := (ords l.length (srt l)).filter fun r => decide (okl cs r)
def spAll (K : PySem.W.Frag) : Sp := fun vs H Q _ => ∃ a us vc l cs, vs = [.ref a, vc] ∧ H a = some (.lst us) ∧ Vs H us l ∧ RowR K H vc cs ∧ l.length ≤ 7 ∧ ∀ D ts H', H D = none → Same H H' → H' D = some (.lst ts) → Paired (Lat H') ts (dueL cs l) → Q (.ref D) H'
theorem cLAll' : FnScope ["_law_bag_here", "_law_marks_here", "_law_one"] ["_law_bag_here", "_law_marks_here"] (defScope sLAll) :=
  ⟨rfl, rfl, rfl, by decide +kernel, rfl, by decide +kernel, by decide +kernel⟩
section
variable {P : Program} {w : World} {K : PySem.W.Frag} {mg : Str → Option Value} {base : Heap}
theorem okOrders (T : Tx K mg) : ∀ n, n ≤ 7 → FO P w K mg base (n + 1) dLOrders ["_law_items"] (spOrders n)
  | 0, h => okOrders0 T 0 h (.inl rfl)
  | n + 1, h => okOrders0 T (n + 1) h (.inr ⟨n, rfl, okOrders T n (by omega)⟩)
theorem okLAll (T : Tx K mg) : FO P w K mg base 9 dLAll ["_law_bag_here", "_law_marks_here"] (spAll K) := by
  refine FunD.ok (T.f 34) cLAll' (fun vs H Q E h => ?_) (fun cdv A outer s H vs Q E hr h => ?_)
  · obtain ⟨_, _, _, _, _, rfl, _⟩ := h
    rfl
  obtain ⟨a, us, vc, l, cs, rfl, ha, hu, hc, hl, hQ⟩ := h
  refine ⟨_, PSs.nox (pss_one (ps_ret (pe_lc (own := [("_law_one", 2)]) (g := gName 2) rfl cLAll'.nd (pi_list (pe_call (okOrders T l.length hl) (hr.mono (by omega)) rfl (T.g 29) (T.f 33).kp (bLOrders T) .nil pass0 (pa_cons (pe_callB (cr_sortB (Rv := Vat) (enc := encV) (room_u hr) (fun _ _ _ h => h.dp) alike_encV (fun b => by rw [encV_depth]; decide)) (by rfl) (T.fr 39) (by decide +kernel) (pa_cons (pv 0) pa_nil)) pa_nil)))
    (blkOk_by (N := ["_law_bag_here", "_law_marks_here", "_law_one"]) (sc := defScope sLAll) (by decide +kernel)) (fun _ _ _ _ _ => pg_name (i := 2) cLAll'.nd rfl (Or.inl rfl))
    (fun _ _ _ _ _ => pts_one (pt_cmpR op_isN (pe_call (okLFault T) (hr.mono (by decide)) rfl (T.g 25) (T.f 29).kp (bLFault T) .nil pass0 (pa_cons (pv 2) (pa_cons (pv 1) pa_nil))) pe_non (nomark _)))
    (fun _ _ _ _ _ => pv 2)))), ?_⟩
  have hlen := len_srt (l := l)
  refine ⟨_, rfl, a, us, l, rfl, .inl (.inl (.inl ha)), hu, fun b _ => ⟨_, _, rfl⟩, fun ws q hws hq => ?_⟩
  have s1 : Same H (upd H q (.lst ws)) := Same.new hq
  refine ⟨q, ws, srt l, rfl, upd_same, Vs.same hws s1, len_srt, fun D ts H2 s2 hD hp => ⟨D, rfl, ⟨_, .inl (.inl hD)⟩, fun D2 hD2 => ?_⟩⟩
  have s12 := s1.trans s2
  have hfac : fac l.length ≤ 5040 := fac_le (m := 7) hl
  refine lc_list (xs := ords l.length (srt l)) Lat (JS.list (.inl (.inl hD))) hp (fun _ _ _ _ s h => h.same s) (fun r => decide (okl cs r)) (fun r z H => Lat H z r) hD2 (by rw [ords_len, sizeLine_eq]; omega) (fun _ _ _ _ s h => h.same s) (fun x y H2 acc ci h _ => h.tups (Tups.lst ci.at_)) (fun i r z H6 Fin Skp s6 hr hz hvr fin skp => ?_) (fun acc H6 ci pr => ?_)
  · have hrl : r.length ≤ 64 := by
      have := ords_mem _ _ len_srt r (List.mem_of_getElem? hr)
      omega
    refine ⟨rfl, _, rfl, _, rfl, _, _, r, cs, rfl, hvr, hrl, hc.same (s12.trans s6), fun hok H7 s7 => ?_, fun hok t xs H7 s7 ht => ?_⟩
    · refine ⟨rfl, true, rfl, iteT ⟨_, rfl, fin _ _ (decide_eq_true hok) s7 (hvr.same s7)⟩⟩
    · refine ⟨rfl, false, rfl, iteF (skp _ (decide_eq_false hok) s7)⟩
  · exact hQ D2 acc H6 (none_of s12 hD2) (s12.trans ci.same) ci.at_ pr
end
end K91
set_option Elab.async false
set_option linter.all false
set_option maxRecDepth 100000
set_option maxHeartbeats 2000000
/-! The law's helpers: _law_places_right. -/
namespace K91
open PySem PySem.Spec PyProof.Rows L2 GenW
open K91M
/-- a loop over a list that stands, by an invariant of any kind -/
theorem for_l2 {K : PySem.W.Frag} {a : Addr} {us : List V} {g : TG} {tb : TS} {D : Ends} {σ0 : L2.St} {H1 : Hp} (Iv : Nat → L2.St → Hp → Prop) (h0 : Iv 0 σ0 H1) (hq : ∀ i σ H, Iv i σ H → SqL K H a us)
    (hs : ∀ i u σ H, us[i]? = some u → Iv i σ H → g u σ H fun σ2 H2 => tb { D with nx := Iv (i + 1), ct := Iv (i + 1), bk := D.nx } σ2 H2) (hd : ∀ σ H, Iv us.length σ H → D.nx σ H) :
    ∃ W : Nat → Nat → L2.St → Hp → Prop, (∃ m, W 0 m σ0 H1) ∧ ∀ i m σ H, W i m σ H →
      ((Itl K a).stop i H ∧ D.nx σ H) ∨ ((Itl K a).go i H ∧ ∃ N : L2.St → Hp → Prop, (∀ σ' H', N σ' H' → ∃ m', m' < m ∧ W (i + 1) m' σ' H') ∧ ∀ x H', (Itl K a).yld i H x H' → g x σ H' fun σ2 H2 => tb { D with nx := N, ct := N, bk := D.nx } σ2 H2) := by
  refine ⟨fun i m σ H => m = us.length - i ∧ i ≤ us.length ∧ Iv i σ H, ⟨us.length, by simp, Nat.zero_le _, h0⟩, ?_⟩
  rintro i m σ H ⟨rfl, hi, p⟩
  have js : JS (Itl K a) H us := JS.list (hq _ _ _ p)
  by_cases hlt : i < us.length
  · refine Or.inr ⟨js.go i H _ (Same.refl _) (List.getElem?_eq_getElem hlt), Iv (i + 1), fun σ' H' p' => ⟨us.length - (i + 1), by omega, rfl, hlt, p'⟩, fun x H' y => ?_⟩
    obtain ⟨rfl, rfl⟩ := js.yld i H x H' _ (Same.refl _) y (List.getElem?_eq_getElem hlt)
    exact hs i _ σ _ (List.getElem?_eq_getElem hlt) p
  · have e : i = us.length := by omega
    subst e
    exact .inl ⟨js.stop _ H (Same.refl _) (Nat.le_refl _), hd σ H p⟩
theorem slTr {K : PySem.W.Frag} {H : Hp} {a : Addr} {xs : List V} {lo hi : Option Int} {Q : VK} (ha : H a = some (.tup xs)) (q : ∀ b H', Same H H' → H' b = some (.tup (cutV xs lo hi)) → Q (.ref b) H') : rSlA K (.ref a) lo hi H Q := by
  refine ⟨a, xs, rfl, .inl (.inl ha), fun hw => ?_, fun _ p hp => q p _ (Same.new hp) upd_same⟩
  refine q a H (Same.refl _) ?_
  have : cutV xs lo hi = xs := by
    unfold cutV
    rw [hw.1, hw.2]
    simp
  rw [this]
  exact ha
theorem catTr {K : PySem.W.Frag} {H : Hp} {a b : Addr} {xs ys : List V} {Q : VK} (ha : H a = some (.tup xs)) (hb : H b = some (.tup ys)) (hz : xs.length + ys.length ≤ sizeLine) (q : ∀ c H', Same H H' → H' c = some (.tup (xs ++ ys)) → Q (.ref c) H') : rCatA K (.ref a) (.ref b) H Q := by
  refine ⟨a, b, xs, ys, rfl, rfl, .inl (.inl ha), .inl (.inl hb), hz, fun e => ?_, fun _ e => ?_, fun _ _ p hp => q p _ (Same.new hp) upd_same⟩
  · subst e
    exact q b H (Same.refl _) hb
  · subst e
    exact q a H (Same.refl _) (by rw [List.append_nil]; exact ha)
theorem slTA {X : Cx} {K : PySem.W.Frag} (h : X.K = K := by rfl) : SlR X (rSlA K) := h ▸ sl_tupA
theorem neD {X : Cx} {K : PySem.W.Frag} (hu : X.A.units + 64 < cLine) (h : X.K = K := by rfl) : OpR X (compareOp .NotEq) (rNeD K) := h ▸ op_neD hu
def withV (v : VV) (line : List VV) (i : Nat) : List VV := line.take i ++ v :: line.drop i
def insV (cs : List VV) (v : VV) (line : List VV) : List (List VV) := if lowP cs v line ≤ highP cs v line then (List.range (highP cs v line + 1 - lowP cs v line)).map fun i => withV v line (lowP cs v line + i) else []
def foundV (cs l : List VV) (v : VV) : List (List VV) := (dueL (cs.filter fun x => decide (x ≠ v)) (l.filter fun x => decide (x ≠ v))).flatMap (insV cs v)
theorem less_but {cs : List VV} {v a b : VV} (ha : a ≠ v) (hb : b ≠ v) : less (cs.filter fun x => decide (x ≠ v)) a b = less cs a b := by
  unfold less
  simp [List.mem_filter, ha, hb]
theorem okl_but {cs l : List VV} {v : VV} (h : v ∉ l) : okl (cs.filter fun x => decide (x ≠ v)) l ↔ okl cs l := by
  unfold okl
  refine List.Pairwise.iff_of_mem fun {a b} ha hb => ?_
  rw [less_but (fun e => h (by rw [← e]; exact hb)) (fun e => h (by rw [← e]; exact ha))]
theorem cep {α : Type} : ∀ (l : List α) (k : Nat) (h : k < l.length), (l[k] :: l.eraseIdx k).Perm l
  | [], _, h => absurd h (Nat.not_lt_zero _)
  | a :: l, 0, _ => List.Perm.refl _
  | a :: l, k + 1, h => (List.Perm.swap a (l[k]'(by simpa using h)) (l.eraseIdx k)).trans ((cep l k (by simpa using h)).cons a)
theorem ords_perm : ∀ (n : Nat) (l : List VV), l.length = n → ∀ r ∈ ords n l, r.Perm l
  | 0, l, hl, r, h => by
    have e1 : r = [] := by simpa [ords] using h
    have e2 : l = [] := List.eq_nil_of_length_eq_zero hl
    rw [e1, e2]
  | n + 1, l, hl, r, h => by
    obtain ⟨k, hk, h2⟩ := List.mem_flatMap.mp h
    obtain ⟨r', h3, rfl⟩ := List.mem_map.mp h2
    have hk' : k < l.length := by have := List.mem_range.mp hk; omega
    have ih := ords_perm n (l.eraseIdx k) (by rw [List.length_eraseIdx]; split <;> omega) r' h3
    have ek : rowAt l k = l[k] := by simp [rowAt, List.getD_eq_getElem?_getD, hk']
    rw [ek]
    exact (ih.cons _).trans (cep l k hk')
theorem due_perm {cs l r : List VV} (h : r ∈ dueL cs l) : r.Perm l ∧ okl cs r := by
  obtain ⟨h1, h2⟩ := List.mem_filter.mp h
  exact ⟨(ords_perm _ _ len_srt r h1).trans (List.mergeSort_perm l _), of_decide_eq_true h2⟩
end K91
set_option Elab.async false
set_option linter.all false
set_option maxRecDepth 100000
set_option maxHeartbeats 2000000
/-! The law's helpers: _law_places_right, the walk. -/
namespace K91
open PySem PySem.Spec PyProof.Rows L2 GenW
open K91M
def spLPlaces (K : PySem.W.Frag) : Sp := fun vs H Q _ => ∃ a us vm d ds vo l cs dl v, vs = [.ref a, vm, .ref d, vo] ∧ H a = some (.lst us) ∧ Vs H us l ∧ l.length ≤ 7 ∧ RowR K H vm cs ∧ cs.length ≤ 64 ∧ H d = some (.lst ds) ∧ Paired (Lat H) ds dl ∧ Vat H vo v ∧
  ∀ H', Same H H' → Q (.bl (decide ((foundV cs l v).mergeSort (PySem.W.dataLe false encL) = dl))) H'
theorem cLPlaces' : FnScope ["_law_bag_here", "_law_marks_here", "_law_due", "_law_one", "_law_rest", "_law_left", "_law_found", "_law_line", "_law_told", "_law_mate", "_law_at"] ["_law_bag_here", "_law_marks_here", "_law_due", "_law_one"] (defScope sLPlaces) :=
  ⟨rfl, rfl, rfl, by decide +kernel, rfl, by decide +kernel, by decide +kernel⟩
theorem Ls.dp {K : PySem.W.Frag} {H : Hp} : ∀ {ts : List V} {l : List (List VV)}, Paired (Lat H) ts l → DpAll K H ts (l.map encL)
  | _, _, .nil => .nil
  | _, _, .cons r t => .cons r.dp (Ls.dp t)
theorem Ls.ok {H : Hp} : ∀ {ts : List V} {l : List (List VV)}, Paired (Lat H) ts l → ∀ r ∈ l, ∀ x ∈ r, PyData.strOk x.k = true
  | _, _, .nil, _, h => nomatch h
  | _, _, .cons q t, r, h => by
    rcases List.mem_cons.mp h with e | e
    · subst e
      obtain ⟨_, _, _, _, hv⟩ := q
      exact hv.ok
    · exact Ls.ok t r e
theorem Pr.take {α β : Type} {F : α → β → Prop} : ∀ {xs : List α} {us : List β} (j : Nat), Paired F xs us → Paired F (xs.take j) (us.take j)
  | _, _, 0, _ => by simp; exact .nil
  | _, _, _ + 1, .nil => .nil
  | _, _, j + 1, .cons r t => .cons r (Pr.take j t)
theorem Pr.drop {α β : Type} {F : α → β → Prop} : ∀ {xs : List α} {us : List β} (j : Nat), Paired F xs us → Paired F (xs.drop j) (us.drop j)
  | _, _, 0, h => h
  | _, _, _ + 1, .nil => .nil
  | _, _, j + 1, .cons _ t => Pr.drop j t
section
variable {P : Program} {w : World} {K : PySem.W.Frag} {mg : Str → Option Value} {base : Heap}
theorem okLPlaces (T : Tx K mg) : FO P w K mg base 10 dLPlaces ["_law_bag_here", "_law_marks_here", "_law_due", "_law_one"] (spLPlaces K) := by
  refine FunD.ok (T.f 36) cLPlaces' (fun vs H Q E h => ?_) (fun cdv A outer s H vs Q E hr h => ⟨_, PSs.nox (
    (pss_cons (ps_setLc (i := 4) (own := [("_law_mate", 9)]) (g := gName 9) rfl cLPlaces'.nd rfl rfl (by rfl) (piL (pv 0)) (blkOk_by (N := ["_law_bag_here", "_law_marks_here", "_law_due", "_law_one", "_law_rest", "_law_left", "_law_found", "_law_line", "_law_told", "_law_mate", "_law_at"]) (sc := defScope sLPlaces) (by decide +kernel)) (fun _ _ _ _ _ => pg_name (i := 9) cLPlaces'.nd rfl (Or.inl rfl))
        (fun _ _ _ _ _ => pts_one (pt_cmpR (neD (room_64 hr)) (pv 9) (pv 3) (nomark _))) (fun _ _ _ _ _ => pv 9))
    (pss_cons (ps_setLc (i := 5) (own := [("_law_mate", 9)]) (g := gName 9) rfl cLPlaces'.nd rfl rfl (by rfl) (pi_seq (pv 1)) (blkOk_by (N := ["_law_bag_here", "_law_marks_here", "_law_due", "_law_one", "_law_rest", "_law_left", "_law_found", "_law_line", "_law_told", "_law_mate", "_law_at"]) (sc := defScope sLPlaces) (by decide +kernel)) (fun _ _ _ _ _ => pg_name (i := 9) cLPlaces'.nd rfl (Or.inl rfl))
        (fun _ _ _ _ _ => pts_one (pt_cmpR (neD (room_64 hr)) (pv 9) (pv 3) (nomark _))) (fun _ _ _ _ _ => pv 9))
    (pss_cons (ps_asg (pe_lst pa_nil) (pg_name (i := 6) cLPlaces'.nd rfl (Or.inl rfl)))
    (pss_cons (ps_for PassesOwn.never rfl (piL (pe_call (okLAll T) hr rfl (T.g 30) (T.f 34).kp (bLAll T) .nil pass0 (pa_cons (pv 4) (pa_cons (pv 5) pa_nil)))) (pg_name (i := 7) cLPlaces'.nd rfl (Or.inr rfl))
      (pss_cons (ps_asg (pe_callN (okPlaces T) (hr.mono (by decide)) rfl (T.g 13) (T.f 17).kp (kPlaces T) pass0 (pa_cons (pv 7) (pa_cons (pv 3) pa_nil)) (pk_cons (pv 1) pk_nil)) (pg_name (i := 8) cLPlaces'.nd rfl (Or.inl rfl)))
      (pss_one (ps_if (pt_cmpR op_notN (pv 8) pe_non (nomark _)) (pss_one (ps_expr (pe_bm PySem.F.plainAttrs_list PySem.F.slot_list_extend PySem.F.type_list_extend mt_extend (pv 6) (pa_cons
          (pe_lc (own := [("_law_at", 10)]) (g := gName 10) rfl cLPlaces'.nd (pi_range2 rfl (T.fr 35) (pa_cons (pe_ix ixT (pv 8) pe_int (fun _ _ => rfl)) (pa_cons (pe_op op_add (pe_ix ixT (pv 8) pe_int (fun _ _ => rfl)) pe_int) pa_nil))) (blkOk_by (N := ["_law_bag_here", "_law_marks_here", "_law_due", "_law_one", "_law_rest", "_law_left", "_law_found", "_law_line", "_law_told", "_law_mate", "_law_at"]) (sc := defScope sLPlaces) (by decide +kernel)) (fun _ _ _ _ _ => pg_name (i := 10) cLPlaces'.nd rfl (Or.inl rfl)) (fun _ _ _ _ _ => pts_nil)
            (fun _ _ _ _ _ => pe_op catT (pe_op catT (pe_slice slTA (pv 7) po_none (po_some (pv 10))) (pe_tup (pa_cons (pv 3) pa_nil))) (pe_slice slTA (pv 7) (po_some (pv 10)) po_none))) pa_nil)))) pss_nil))))
    (pss_one (ps_ret (pe_cmpR (op_eqD (room_64 hr)) (pe_callB (cr_sortB (Rv := Lat) (enc := encL) (room_u hr) (fun _ _ _ h => h.dp) alike_encL encL_depth) (by rfl) (T.fr 39) (by decide +kernel) (pa_cons (pv 6) pa_nil)) (pv 2) (nomark _))))))))), ?_⟩)
  · obtain ⟨_, _, _, _, _, _, _, _, _, _, rfl, _⟩ := h
    rfl
  obtain ⟨a, us, vm, d, ds, vo, l, cs, dl, v, rfl, ha, hu, hl, hm, hml, hd, hds, hvo, hQ⟩ := h
  have hz := sizeLine_eq
  have hsub : ∀ (xs : List VV) (k : VV → Bool), (xs.filter k).length ≤ xs.length := fun xs k => List.length_filter_le k xs
  refine ⟨_, rfl, a, rfl, ⟨us, .inl (.inl ha)⟩, fun D1 hD1 => ?_⟩
  refine lc_list (xs := l) Vat (JS.list (.inl (.inl ha))) hu (fun _ _ _ _ s h => h.same s) (fun x => decide (x ≠ v)) (fun x y H => Vat H y x) hD1 (by omega) (fun _ _ _ _ s h => h.same s) (fun x y H2 acc ci h _ => h.tups (Tups.lst ci.at_)) (fun i x y H2 Fin Skp s2 hx hy vx fin skp => ?_) (fun acc H2 ci pr => ?_)
  · refine ⟨rfl, _, rfl, _, rfl, encV x, encV v, vx.dp, (hvo.same s2).dp, encV_shaped vx.ok, encV_shaped hvo.ok, _, rfl, ?_⟩
    rw [encV_eqv]
    refine ite2 (fun hb => ⟨_, rfl, fin _ _ (by simpa using hb) (Same.refl _) vx⟩) fun hb => skp _ (by simpa using hb) (Same.refl _)
  have s2 := ci.same
  have hD1' := ci.at_
  obtain ⟨m, mus, rfl, hmb, hmv⟩ := id (hm.same s2)
  refine ⟨_, rfl, m, mus, rfl, hmb, fun J js => fun D2 hD2 => ?_⟩
  refine lc_list (xs := cs) Vat js hmv (fun _ _ _ _ s h => h.same s) (fun x => decide (x ≠ v)) (fun x y H => Vat H y x) hD2 (by omega) (fun _ _ _ _ s h => h.same s) (fun x y H2 acc ci h _ => h.tups (Tups.lst ci.at_)) (fun i x y H3 Fin Skp s3 hx hy vx fin skp => ?_) (fun acc2 H3 ci2 pr2 => ?_)
  · refine ⟨rfl, _, rfl, _, rfl, encV x, encV v, vx.dp, ((hvo.same s2).same s3).dp, encV_shaped vx.ok, encV_shaped hvo.ok, _, rfl, ?_⟩
    rw [encV_eqv]
    refine ite2 (fun hb => ⟨_, rfl, fin _ _ (by simpa using hb) (Same.refl _) vx⟩) fun hb => skp _ (by simpa using hb) (Same.refl _)
  have s23 := ci2.same
  have s3 := s2.trans s23
  have hD1'' := s23 _ _ hD1'
  have hD2' := ci2.at_
  refine ⟨by decide, fun f0 hf0 => ?_⟩
  have sf := Same.new (o := .lst []) hf0
  generalize hl' : (l.filter fun x => decide (x ≠ v)) = l' at *
  generalize hcs' : (cs.filter fun x => decide (x ≠ v)) = cs' at *
  have hl7 : l'.length ≤ 7 := by rw [← hl']; exact Nat.le_trans (hsub l _) hl
  refine ⟨_, rfl, _, rfl, D1, acc, .ref D2, l', cs', rfl, sf _ _ hD1'', Vs.same (Vs.same pr s23) sf, ⟨D2, acc2, rfl, .inl (.inl (.inl (sf _ _ hD2'))), Vs.same pr2 sf⟩, hl7, fun DL ts H5 hDL0 s5 hDL hts => ⟨DL, rfl, ⟨ts, .inl (.inl hDL)⟩, ?_⟩⟩
  have s35 := sf.trans s5
  have s05 := s3.trans s35
  have hf5 : H5 f0 = some (.lst []) := s5 _ _ upd_same
  have f0H : H f0 = none := none_of s3 hf0
  have nDf : DL ≠ f0 := Ne.symm (ne_of_none upd_same hDL0)
  have hfac : fac l'.length ≤ 5040 := fac_le hl7
  have hvo3 := hvo.same s3
  have tu5 : ∀ {Hx : Hp}, (∀ b o, b ≠ f0 → H5 b = some o → Hx b = some o) → Tups H5 Hx := fun {Hx} k b t e => k b _ (fun z => by rw [z, hf5] at e; cases e) e
  refine for_l2 (K := K) (a := DL) (us := ts) (fun i σ Hx => ∃ (b c : Option V) (fs : List V), σ = [some (.ref a), some (.ref m), some (.ref d), some vo, some (.ref D1), some (.ref D2), some (.ref f0), b, c, none, none] ∧ Hx f0 = some (.lst fs) ∧ Paired (Lat Hx) fs (((dueL cs' l').take i).flatMap (insV cs v)) ∧ (∀ b o, b ≠ f0 → H5 b = some o → Hx b = some o) ∧ fs.length ≤ 8 * i)
    ⟨none, none, [], rfl, hf5, .nil, fun _ _ _ h => h, Nat.zero_le _⟩ (fun i σ Hx ⟨_, _, _, _, _, _, k, _⟩ => .inl (.inl (k _ _ nDf hDL))) ?_ ?_
  · rintro i u σ Hx hu ⟨b, c, fs, rfl, hfx, hfs, kx, hfl⟩
    obtain ⟨r, hr, hur⟩ := Pr.get hts hu
    obtain ⟨hrp, hro⟩ := due_perm (List.mem_of_getElem? hr)
    have hrv : v ∉ r := fun hm => by
      have := hrp.mem_iff.mp hm
      rw [← hl'] at this
      simpa using (List.mem_filter.mp this).2
    have hok : okl cs r := by
      rw [← hcs'] at hro
      exact (okl_but hrv).mp hro
    have hrl : r.length ≤ 7 := by rw [hrp.length_eq]; exact hl7
    have s3x : Same H3 Hx := fun b o e => kx b o (ne_of_none e hf0) (s35 _ _ e)
    have hux := hur.tups (tu5 kx)
    have hvx := hvo3.same s3x
    have hmx : RowR K Hx (.ref m) cs := (hm.same s3).same s3x
    have etk : (dueL cs' l').take (i + 1) = (dueL cs' l').take i ++ [r] := by rw [List.take_add_one, hr]; rfl
    refine ⟨_, rfl, _, rfl, _, rfl, rfl, rfl, _, _, _, r, v, cs, rfl, hux, by omega, hvx, hmx, hok, hrv, fun hle t H7 s7 ht => ?_, fun hle H7 s7 => ?_⟩
    · refine ⟨_, rfl, rfl, true, rfl, iteT ?_⟩
      have hf7 := s7 _ _ hfx
      obtain ⟨pu, pus, rfl, hpu, hpv⟩ := hux.same s7
      have hpl : pus.length = r.length := hpv.length
      have hhi : highP cs v r ≤ r.length := highN_le cs v r r.length
      refine ⟨_, rfl, .inl ⟨rfl, fs, .inl (.inl hf7)⟩, ?_⟩
      simp only [tNoPart]
      have hlo : lowP cs v r ≤ r.length := lowN_le cs v r r.length
      refine ⟨_, rfl, t, _, 0, V.int (lowP cs v r : Nat), rfl, rfl, .inl (.inl ht), rfl, _, rfl, t, _, 1, V.int (highP cs v r : Nat), rfl, rfl, .inl (.inl ht), rfl, _, _, rfl, rfl, _, _, rfl, ⟨by omega, by omega, by omega, by omega⟩, fun D3 hD3 => ?_⟩
      have en : (((highP cs v r : Nat) : Int) + 1 - ((lowP cs v r : Nat) : Int)).toNat = highP cs v r + 1 - lowP cs v r := by omega
      rw [en]
      have hvo7 := hvx.same s7
      refine lc_items (xs := List.range (highP cs v r + 1 - lowP cs v r)) (fun _ => true) (fun k z H => Lat H z (withV v r (lowP cs v r + k))) hD3 (by rw [List.length_range]; omega) (fun _ _ _ _ s h => h.same s) (fun x y H2 acc ci h _ => h.tups (Tups.lst ci.at_)) (fun k H8 s8 => ?_) (fun k kk y H8 H9 Fin Skp s8 hk hy fin skp => ?_) (fun acc3 H8 ci3 pr3 => ?_)
      · rw [List.length_range]
        exact ⟨fun h => h, fun h => h⟩
      · obtain ⟨hk1, hk2⟩ := List.getElem?_eq_some_iff.mp hk
        rw [List.length_range] at hk1
        rw [List.getElem_range] at hk2
        subst hk2
        obtain ⟨rfl, rfl⟩ := hy
        have hpu8 := s8 _ _ hpu
        have e0 : ((lowP cs v r : Nat) : Int) + (k : Int) = ((lowP cs v r + k : Nat) : Int) := by push_cast; rfl
        rw [e0]
        have hat : lowP cs v r + k ≤ pus.length := by omega
        refine ⟨rfl, _, rfl, ?_⟩
        simp only [tNoPart]
        refine ⟨_, rfl, _, rfl, slTr (H := H9) hpu8 fun c1 Ha sa ha1 => ⟨_, rfl, by show 1 ≤ sizeLine; decide, fun c2 hc2 => ?_⟩⟩
        rw [cut_to hat] at ha1
        have sb := Same.new (o := .tup [vo]) hc2
        refine catTr (sb _ _ ha1) upd_same (by rw [List.length_take, List.length_singleton]; omega) fun c3 Hc sc hc3 => ⟨_, rfl, _, rfl, _, rfl, ?_⟩
        have sac := (sa.trans sb).trans sc
        simp only [tNoPart]
        refine slTr (H := Hc) (sac _ _ hpu8) fun c4 Hd sd hd4 => ?_
        rw [cut_from hat] at hd4
        refine catTr (sd _ _ hc3) hd4 (by rw [List.length_append, List.length_take, List.length_drop, List.length_singleton]; omega) fun c5 He se he5 => ?_
        have sae := (sac.trans sd).trans se
        refine fin _ _ rfl sae ⟨c5, _, rfl, he5, ?_⟩
        have hpv9 := (hpv.same s8 : Vs _ _ _).same sae
        unfold withV
        rw [List.append_assoc]
        exact Pr.append (Pr.take _ hpv9) (.cons ((hvo7.same s8).same sae) (Pr.drop _ hpv9))
      · rw [filter_all] at pr3
        have pr4 := Pr.mapr (F := Lat H8) (f := fun k => withV v r (lowP cs v r + k)) pr3
        have hal := pr4.length
        rw [List.length_map, List.length_range] at hal
        have hi : i < ts.length := (List.getElem?_eq_some_iff.mp hu).1
        have htl : ts.length ≤ 5040 := by
          have h1 := hts.length
          have h2 := List.length_filter_le (fun r => decide (okl cs' r)) (ords l'.length (srt l'))
          rw [ords_len] at h2
          unfold dueL at h1
          omega
        have hf8 := ci3.same _ _ hf7
        have nD3 : D3 ≠ f0 := Ne.symm (ne_of_none hf7 hD3)
        refine ⟨f0, D3, fs, acc3, rfl, rfl, hf8, ci3.at_, by omega, some (.ref pu), some (.ref t), fs ++ acc3, rfl, upd_same, ?_, fun b o e1 e2 => by rw [upd_ne e1]; exact ci3.same _ _ (s7 _ _ (kx b o e1 e2)), by rw [List.length_append]; omega⟩
        rw [etk, List.flatMap_append]
        have : [r].flatMap (insV cs v) = (List.range (highP cs v r + 1 - lowP cs v r)).map fun k => withV v r (lowP cs v r + k) := by simp [insV, hle]
        rw [this]
        have tf : Tups H8 (upd H8 f0 (.lst (fs ++ acc3))) := Tups.lst hf8
        exact Pr.append (Paired.mapP hfs fun y x q => ((Lat.same q s7).same ci3.same).tups tf) (Paired.mapP pr4 fun y x q => Lat.tups q tf)
    · refine ⟨_, rfl, rfl, false, rfl, iteF ⟨_, _, fs, rfl, s7 _ _ hfx, ?_, fun b o e1 e2 => s7 _ _ (kx b o e1 e2), by omega⟩⟩
      rw [etk, List.flatMap_append]
      have : [r].flatMap (insV cs v) = [] := by simp [insV, hle]
      rw [this, List.append_nil]
      exact Paired.mapP hfs fun y x q => Lat.same q s7
  · rintro σ Hx ⟨b, c, fs, rfl, hfx, hfs, kx, hfl⟩
    rw [hts.length, List.take_length] at hfs
    have ef : (dueL cs' l').flatMap (insV cs v) = foundV cs l v := by unfold foundV; rw [hl', hcs']
    rw [ef] at hfs
    have s3x : Same H3 Hx := fun b o e => kx b o (ne_of_none e hf0) (s35 _ _ e)
    have s0x := s3.trans s3x
    refine ⟨_, rfl, f0, fs, foundV cs l v, rfl, .inl (.inl (.inl hfx)), hfs, fun bb hbb => ?_, fun ys q hys hq => ?_⟩
    · rw [← ef] at hbb
      obtain ⟨r, _, h2⟩ := List.mem_flatMap.mp hbb
      unfold insV at h2
      split at h2
      · obtain ⟨k, _, rfl⟩ := List.mem_map.mp h2
        have : withV v r (lowP cs v r + k) ≠ [] := by simp [withV]
        obtain ⟨x, w, e⟩ := List.exists_cons_of_ne_nil this
        exact ⟨encV x, w.map encV, by rw [e]; rfl⟩
      · simp at h2
    · have sq := Same.new (o := .lst ys) hq
      have hdx := sq _ _ (s0x _ _ hd)
      have hds9 := Paired.mapP hds fun y x q => Lat.same q (s0x.trans sq)
      have hys9 := Paired.mapP hys fun y x q => Lat.same q sq
      refine ⟨_, rfl, _, _, .lst (.inl (.inl upd_same)) (Ls.dp hys9), .lst (.inl (.inl hdx)) (Ls.dp hds9), listL_shaped (Ls.ok hys9), listL_shaped (Ls.ok hds9), ?_⟩
      have e : PyData.eqv (.list (((foundV cs l v).mergeSort (PySem.W.dataLe false encL)).map encL)) (.list (dl.map encL)) = decide ((foundV cs l v).mergeSort (PySem.W.dataLe false encL) = dl) := by
        rw [← encLs_eqv]
        simp [PyData.eqv]
      rw [e]
      exact hQ _ (s0x.trans sq)
end
end K91
set_option Elab.async false
set_option linter.all false
set_option maxRecDepth 100000
set_option maxHeartbeats 2000000
/-! The law's helpers: _law_inversions. -/
namespace K91
open PySem PySem.Spec PyProof.Rows L2 GenW
open K91M
/-- a new pair of values of l -/
def PairAt (l : List VV) (H : Hp) (p : V) : Prop := ∃ t x y a b, p = .ref t ∧ H t = some (.tup [x, y]) ∧ Vat H x a ∧ Vat H y b ∧ a ∈ l ∧ b ∈ l
theorem PairAt.tups {l : List VV} {H H' : Hp} {p : V} (h : PairAt l H p) (t : Tups H H') : PairAt l H' p := let ⟨t0, x, y, a, b, e, h1, h2, h3, h4⟩ := h; ⟨t0, x, y, a, b, e, t _ _ h1, h2.tups t, h3.tups t, h4⟩
def spInv (K : PySem.W.Frag) : Sp := fun vs H Q _ => ∃ a us vm l cs, vs = [.ref a, vm] ∧ H a = some (.lst us) ∧ Vs H us l ∧ RowR K H vm cs ∧ l.length ≤ 7 ∧ ∀ F ps H', H F = none → Same H H' → H' F = some (.lst ps) → ps.length ≤ 49 → (∀ p ∈ ps, PairAt l H' p) → Q (.ref F) H'
section
variable {P : Program} {w : World} {K : PySem.W.Frag} {mg : Str → Option Value} {base : Heap}
theorem okLInv (T : Tx K mg) : FO P w K mg base 2 dLInv ["_law_bag_here", "_law_marks_here"] (spInv K) := by
  refine FunD.ok (T.f 30) cLInv (fun vs H Q E h => ?_) (fun cdv A outer s H vs Q E hr h => ⟨_, PSs.nox (
    (pss_cons (ps_asg (pe_callB (cr_sortB (Rv := Vat) (enc := encV) (room_u hr) (fun _ _ _ h => h.dp) alike_encV (fun b => by rw [encV_depth]; decide)) (by rfl) (T.fr 39) (by decide +kernel) (pa_cons
      (pe_lc (own := [("_law_one", 2)]) (g := gName 2) rfl cLInv.nd (piL (pv 0)) (blkOk_by (N := ["_law_bag_here", "_law_marks_here", "_law_one", "_law_plain", "_law_found", "_law_mate"]) (sc := defScope sLInv) (by decide +kernel)) (fun _ _ _ _ _ => pg_name (i := 2) cLInv.nd rfl (Or.inl rfl))
        (fun _ _ _ _ _ => pts_one (pt_cmpR (notInV (room_u hr)) (pv 2) (pv 1) rfl)) (fun _ _ _ _ _ => pv 2)) pa_nil)) (pg_name (i := 3) cLInv.nd rfl (Or.inl rfl)))
    (pss_cons (ps_asg (pe_lst pa_nil) (pg_name (i := 4) cLInv.nd rfl (Or.inl rfl)))
    (pss_cons (ps_for PassesOwn.never rfl (piL (pv 3)) (pg_name (i := 2) cLInv.nd rfl (Or.inl rfl))
      (pss_one (ps_for PassesOwn.never rfl (piL (pv 3)) (pg_name (i := 5) cLInv.nd rfl (Or.inl rfl))
        (pss_one (ps_if (PW.pt (pw_and (pt_cmpR op_eq (pe_ix ixT (pv 2) pe_int (fun _ _ => rfl)) (pe_ix ixT (pv 5) pe_int (fun _ _ => rfl)) (nomark _)) (pw_and (pt_cmpR op_lt (pe_ix ixT (pv 2) pe_int (fun _ _ => rfl)) (pe_ix ixT (pv 5) pe_int (fun _ _ => rfl)) (nomark _)) (pw_and1 (pt_cmpR op_gt (pe_ix ixT (pv 2) pe_int (fun _ _ => rfl)) (pe_ix ixT (pv 5) pe_int (fun _ _ => rfl)) (nomark _))))))
          (pss_one (ps_expr (pe_bm PySem.F.plainAttrs_list PySem.F.slot_list_append PySem.F.type_list_append mt_append (pv 4) (pa_cons (pe_tup (pa_cons (pv 2) (pa_cons (pv 5) pa_nil))) pa_nil)))) pss_nil)))))
    (pss_one (ps_ret (pv 4))))))), ?_⟩)
  · obtain ⟨_, _, _, _, _, rfl, _⟩ := h
    rfl
  obtain ⟨a, us, vm, l, cs, rfl, ha, hu, hm, hl, hQ⟩ := h
  have hz := sizeLine_eq
  refine ⟨_, rfl, a, rfl, ⟨us, .inl (.inl ha)⟩, fun D1 hD1 => ?_⟩
  refine lc_list (xs := l) Vat (JS.list (.inl (.inl ha))) hu (fun _ _ _ _ s h => h.same s) (fun x => !decide (x ∈ cs)) (fun x y H => Vat H y x) hD1 (by omega) (fun _ _ _ _ s h => h.same s) (fun x y H2 acc ci h _ => h.tups (Tups.lst ci.at_)) (fun i x y H2 Fin Skp s2 hx hy vx fin skp => ?_) (fun acc H2 ci pr => ?_)
  · refine ⟨rfl, _, rfl, _, rfl, x, cs, vx, hm.same s2, _, rfl, ?_⟩
    refine ite2 (fun hb => ⟨_, rfl, fin _ _ (by simpa using hb) (Same.refl _) vx⟩) fun hb => skp _ (by simpa using hb) (Same.refl _)
  generalize hl' : (l.filter fun x => !decide (x ∈ cs)) = l' at *
  have hl7 : l'.length ≤ 7 := by rw [← hl']; exact Nat.le_trans (List.length_filter_le _ l) hl
  have hmem : ∀ x ∈ srt l', x ∈ l := fun x hx => by
    have h1 := (List.mergeSort_perm l' _).mem_iff.mp hx
    rw [← hl'] at h1
    exact (List.mem_filter.mp h1).1
  have s2 := ci.same
  refine ⟨D1, acc, l', rfl, .inl (.inl (.inl ci.at_)), pr, fun b _ => ⟨_, _, rfl⟩, fun ys q hys hq => ?_⟩
  have hys' : Vs H2 ys (srt l') := hys
  have hyl : ys.length ≤ 7 := by rw [hys'.length, len_srt]; exact hl7
  have s3 := s2.trans (Same.new (o := .lst ys) hq)
  refine ⟨by decide, fun f0 hf0 => ?_⟩
  have nqf : q ≠ f0 := ne_of_none upd_same hf0
  have f0H : H f0 = none := none_of s3 hf0
  have sfx := Same.new (o := .lst []) hf0
  generalize hH4 : upd (upd H2 q (.lst ys)) f0 (.lst []) = H4 at *
  have h4q : H4 q = some (.lst ys) := by rw [← hH4, upd_ne nqf]; exact upd_same
  have h4f : H4 f0 = some (.lst []) := by rw [← hH4]; exact upd_same
  have hys4 : Vs H4 ys (srt l') := (hys'.same (Same.new hq)).same sfx
  have s04 : Same H H4 := s3.trans sfx
  refine ⟨_, rfl, q, rfl, ⟨ys, .inl (.inl h4q)⟩, ?_⟩
  let Fr : Hp → Nat → Prop := fun Hx n => ∃ ps, Hx f0 = some (.lst ps) ∧ ps.length ≤ n ∧ (∀ p ∈ ps, PairAt l Hx p) ∧ ∀ b o, b ≠ f0 → H4 b = some o → Hx b = some o
  have tu : ∀ {Hx : Hp}, (∀ b o, b ≠ f0 → H4 b = some o → Hx b = some o) → Tups H4 Hx := fun {Hx} k b t e => k b _ (fun z => by rw [z, h4f] at e; cases e) e
  refine for_l2 (K := K) (a := q) (us := ys) (fun i σ Hx => (∃ b c, σ = [some (.ref a), some vm, b, some (.ref q), some (.ref f0), c]) ∧ Fr Hx (7 * i)) ⟨⟨none, none, rfl⟩, [], h4f, Nat.zero_le _, (fun p hp => nomatch hp), fun _ _ _ h => h⟩ (fun i σ Hx ⟨_, _, _, _, _, k⟩ => .inl (.inl (k _ _ nqf h4q))) ?_ ?_
  · rintro i u σ Hx hu ⟨⟨b, c, rfl⟩, hFr⟩
    have hi := (List.getElem?_eq_some_iff.mp hu).1
    obtain ⟨x, hx, vx⟩ := Pr.get hys4 hu
    refine ⟨_, rfl, q, rfl, ⟨ys, .inl (.inl (by obtain ⟨_, _, _, _, k⟩ := hFr; exact k _ _ nqf h4q))⟩, ?_⟩
    refine for_l2 (K := K) (a := q) (us := ys) (fun j σ Hx => (∃ c, σ = [some (.ref a), some vm, some u, some (.ref q), some (.ref f0), c]) ∧ Fr Hx (7 * i + j)) ⟨⟨c, rfl⟩, hFr⟩ (fun i σ Hx ⟨_, _, _, _, _, k⟩ => .inl (.inl (k _ _ nqf h4q))) ?_ ?_
    · rintro j u2 σ Hy hu2 ⟨⟨c2, rfl⟩, ps, hp1, hp2, hp3, hp4⟩
      have hj := (List.getElem?_eq_some_iff.mp hu2).1
      obtain ⟨y, hy, vy⟩ := Pr.get hys4 hu2
      have t4 := tu hp4
      have vx4 := vx.tups t4
      have vy4 := vy.tups t4
      obtain ⟨xa, rfl, hxa, hxk⟩ := id vx4
      obtain ⟨ya, rfl, hya, hyk⟩ := id vy4
      have sx : SqT K Hy xa [.str x.k, .int x.o, .int x.m] := .inl (.inl hxa)
      have sy : SqT K Hy ya [.str y.k, .int y.o, .int y.m] := .inl (.inl hya)
      have nx : (∃ c, [some (V.ref a), some vm, some (V.ref xa), some (V.ref q), some (V.ref f0), some (V.ref ya)] = [some (V.ref a), some vm, some (V.ref xa), some (V.ref q), some (V.ref f0), c]) ∧ Fr Hy (7 * i + (j + 1)) := ⟨⟨_, rfl⟩, ps, hp1, by omega, hp3, hp4⟩
      refine ⟨_, rfl, xa, _, 0, _, rfl, rfl, sx, rfl, _, rfl, ya, _, 0, _, rfl, rfl, sy, rfl, rfl, _, rfl, ite2 (fun h1 => ?_) fun h1 => iteF nx⟩
      refine ⟨_, rfl, xa, _, 1, _, rfl, rfl, sx, rfl, _, rfl, ya, _, 1, _, rfl, rfl, sy, rfl, _, _, rfl, rfl, _, rfl, ite2 (fun h2 => ?_) fun h2 => iteF nx⟩
      refine ⟨_, rfl, xa, _, 2, _, rfl, rfl, sx, rfl, _, rfl, ya, _, 2, _, rfl, rfl, sy, rfl, _, _, rfl, rfl, _, rfl, ite2 (fun h3 => ?_) fun h3 => nx⟩
      refine ⟨_, rfl, .inl ⟨rfl, ps, .inl (.inl hp1)⟩, _, rfl, _, rfl, by show 2 ≤ sizeLine; decide, fun t ht => ?_⟩
      have st := Same.new (o := .tup [.ref xa, .ref ya]) ht
      have h1t := st _ _ hp1
      have ntf : t ≠ f0 := Ne.symm (ne_of_none hp1 ht)
      refine ⟨f0, ps, _, rfl, rfl, h1t, by omega, ⟨_, rfl⟩, ps ++ [.ref t], upd_same, by rw [List.length_append, List.length_singleton]; omega, fun p hp => ?_, fun b o e1 e2 => by rw [upd_ne e1]; exact st _ _ (hp4 b o e1 e2)⟩
      have tf : Tups (upd Hy t (.tup [.ref xa, .ref ya])) (upd (upd Hy t (.tup [.ref xa, .ref ya])) f0 (.lst (ps ++ [.ref t]))) := Tups.lst h1t
      rcases List.mem_append.mp hp with hp | hp
      · exact ((hp3 p hp).tups (Tups.of st)).tups tf
      · have : p = .ref t := by simpa using hp
        subst this
        exact ⟨t, .ref xa, .ref ya, x, y, rfl, by rw [upd_ne ntf]; exact upd_same, (vx4.same st).tups tf, (vy4.same st).tups tf, hmem x (List.mem_of_getElem? hx), hmem y (List.mem_of_getElem? hy)⟩
    · rintro σ Hy ⟨⟨c2, rfl⟩, ps, hp1, hp2, hp3, hp4⟩
      exact ⟨⟨_, _, rfl⟩, ps, hp1, by omega, hp3, hp4⟩
  · rintro σ Hx ⟨⟨b, c, rfl⟩, ps, hp1, hp2, hp3, hp4⟩
    have sx : Same H Hx := fun b o e => hp4 b o (ne_of_none e f0H) (s04 _ _ e)
    exact ⟨_, rfl, hQ f0 ps Hx f0H sx hp1 (by omega) hp3⟩
end
end K91
set_option Elab.async false
set_option linter.all false
set_option maxRecDepth 100000
set_option maxHeartbeats 2000000
/-! The law's helpers: _law_pattern. -/
namespace K91
open PySem PySem.Spec PyProof.Rows L2 GenW
open K91M
theorem room_1 {k : Nat} {A : Around} (hr : Room k A) : A.units + 1 < cLine := by have := hr.un; omega
/-- none, or a tuple of at most four of the values -/
def CircOk (l : List VV) (H : Hp) (cv : V) : Prop := cv = .non ∨ ∃ t ws, cv = .ref t ∧ H t = some (.tup ws) ∧ 0 < ws.length ∧ ws.length ≤ 4 ∧ ∀ w ∈ ws, ∃ b ∈ l, Vat H w b
def spPat (K : PySem.W.Frag) : Sp := fun vs H Q _ => ∃ a us vm l cs, vs = [.ref a, vm] ∧ H a = some (.lst us) ∧ Vs H us l ∧ RowR K H vm cs ∧ l.length ≤ 7 ∧
  ∀ cv H', Same H H' → CircOk l H' cv → Q cv H'
section
variable {P : Program} {w : World} {K : PySem.W.Frag} {mg : Str → Option Value} {base : Heap}
theorem okLPat (T : Tx K mg) : FO P w K mg base 3 dLPat ["_law_bag_here", "_law_marks_here"] (spPat K) := by
  refine FunD.ok (T.f 31) cLPat (fun vs H Q E h => ?_) (fun cdv A outer s H vs Q E hr h => ⟨_, PSs.nox (
    (pss_cons (ps_asg (pe_call (okLInv T) hr rfl (T.g 26) (T.f 30).kp (bLInv T) .nil pass0 (pa_cons (pv 0) (pa_cons (pv 1) pa_nil))) (pg_name (i := 2) cLPat.nd rfl (Or.inl rfl)))
    (pss_cons (ps_asg (pe_callB (cr_sortB (Rv := Vat) (enc := encV) (room_u hr) (fun _ _ _ h => h.dp) alike_encV (fun b => by rw [encV_depth]; decide)) (by rfl) (T.fr 39) (by decide +kernel) (pa_cons (pv 0) pa_nil)) (pg_name (i := 3) cLPat.nd rfl (Or.inl rfl)))
    (pss_cons (ps_asg pe_dnewT (pg_name (i := 4) cLPat.nd rfl (Or.inl rfl)))
    (pss_cons (ps_for (g := gTup K 2 (gCons (gName 5) (gCons (gName 6) gNil))) PassesOwn.never rfl (piL (pv 2)) (pg_tup rfl (pgs_cons (pg_name (i := 5) cLPat.nd rfl (Or.inl rfl)) (pgs_cons (pg_name (i := 6) cLPat.nd rfl (Or.inl rfl)) pgs_nil)))
      (pss_cons (ps_for PassesOwn.never rfl (piL (pv 3)) (pg_name (i := 7) cLPat.nd rfl (Or.inl rfl))
        (pss_one (ps_if (PW.pt (pw_and (PW.pt (pw_or (pt_cmpR (inV (room_u hr)) (pv 7) (pv 1) rfl) (pw_or1 (pt_cmpR op_ne (pe_ix ixT (pv 7) pe_int (fun _ _ => rfl)) (pe_ix ixT (pv 5) pe_int (fun _ _ => rfl)) (nomark _)))))
            (pw_and1 (pt_chain op_lt op_lt (pe_ix ixT (pv 6) pe_int (fun _ _ => rfl)) (pe_ix ixT (pv 7) pe_int (fun _ _ => rfl)) (pe_ix ixT (pv 5) pe_int (fun _ _ => rfl))))))
          (pss_one (ps_ret (pe_tup (pa_cons (pv 5) (pa_cons (pv 6) (pa_cons (pv 7) pa_nil)))))) pss_nil)))
      (pss_one (ps_dput (room_1 hr) (pv 4) (pe_tup (pa_cons (pe_ix ixT (pv 5) pe_int (fun _ _ => rfl)) (pa_cons (pe_ix ixT (pv 6) pe_int (fun _ _ => rfl)) pa_nil)))
        (pe_op op_cat (pe_dget2 (room_1 hr) (pv 4) (pe_tup (pa_cons (pe_ix ixT (pv 5) pe_int (fun _ _ => rfl)) (pa_cons (pe_ix ixT (pv 6) pe_int (fun _ _ => rfl)) pa_nil))) (pe_lst pa_nil) ⟨rfl, rfl, rfl, rfl⟩)
          (pe_lst (pa_cons (pe_tup (pa_cons (pv 5) (pa_cons (pv 6) pa_nil))) pa_nil))) rfl))))
    (pss_cons (ps_for (g := gTup K 2 (gCons (gName 5) (gCons (gName 6) gNil))) PassesOwn.never rfl (piL (pv 2)) (pg_tup rfl (pgs_cons (pg_name (i := 5) cLPat.nd rfl (Or.inl rfl)) (pgs_cons (pg_name (i := 6) cLPat.nd rfl (Or.inl rfl)) pgs_nil)))
      (pss_one (ps_for (g := gTup K 2 (gCons (gName 7) (gCons (gName 8) gNil))) PassesOwn.never rfl (piL (pe_dget (room_1 hr) (pv 4) (pe_tup (pa_cons (pe_ix ixT (pv 5) pe_int (fun _ _ => rfl)) (pa_cons (pe_ix ixT (pv 6) pe_int (fun _ _ => rfl)) pa_nil))) (fun _ _ => rfl)))
          (pg_tup rfl (pgs_cons (pg_name (i := 7) cLPat.nd rfl (Or.inl rfl)) (pgs_cons (pg_name (i := 8) cLPat.nd rfl (Or.inl rfl)) pgs_nil)))
        (pss_one (ps_if (pt_cmpR op_lt_str (pe_ix ixT (pv 5) pe_int (fun _ _ => rfl)) (pe_ix ixT (pv 7) pe_int (fun _ _ => rfl)) (nomark _))
          (pss_one (ps_ret (pe_tup (pa_cons (pv 5) (pa_cons (pv 6) (pa_cons (pv 7) (pa_cons (pv 8) pa_nil))))))) pss_nil)))))
    (pss_one (ps_ret pe_non)))))))), ?_⟩)
  · obtain ⟨_, _, _, _, _, rfl, _⟩ := h
    rfl
  obtain ⟨a, us, vm, l, cs, rfl, ha, hu, hm, hl, hR⟩ := h
  have hN : ∀ H', Same H H' → Q .non H' := fun H' s => hR _ H' s (.inl rfl)
  have hQ : ∀ t ws H', Same H H' → H' t = some (.tup ws) → 0 < ws.length → ws.length ≤ 4 → (∀ w ∈ ws, ∃ b ∈ l, Vat H' w b) → Q (.ref t) H' := fun t ws H' s h1 h2 h3 h4 => hR _ H' s (.inr ⟨t, ws, rfl, h1, h2, h3, h4⟩)
  have hz := sizeLine_eq
  refine ⟨_, rfl, _, rfl, a, us, vm, l, cs, rfl, ha, hu, hm, hl, fun F ps H1 hF s1 hF1 hpl hps => ⟨_, rfl, a, us, l, rfl, .inl (.inl (.inl (s1 _ _ ha))), hu.same s1, fun b _ => ⟨_, _, rfl⟩, fun ys q hys hq => ?_⟩⟩
  have hys' : Vs H1 ys (srt l) := hys
  have hyl : ys.length ≤ 7 := by rw [hys'.length, len_srt]; exact hl
  have hmem : ∀ x ∈ srt l, x ∈ l := fun x hx => (List.mergeSort_perm l _).mem_iff.mp hx
  have s2 := s1.trans (Same.new (o := .lst ys) hq)
  intro e he
  have sfx := Same.new (o := .dT []) he
  have nqe : q ≠ e := ne_of_none upd_same he
  have nFe : F ≠ e := ne_of_none ((Same.new (o := .lst ys) hq) _ _ hF1) he
  have hps1 : ∀ p ∈ ps, PairAt l (upd H1 q (.lst ys)) p := fun p hp => (hps p hp).tups (Tups.new hq)
  have eH : H e = none := none_of s2 he
  have s04 := s2.trans sfx
  have hys4 := (hys'.same (Same.new (o := .lst ys) hq) : Vs _ _ _).same sfx
  have hps4 : ∀ p ∈ ps, PairAt l (upd (upd H1 q (.lst ys)) e (.dT [])) p := fun p hp => (hps1 p hp).tups (Tups.of sfx)
  generalize hH4 : upd (upd H1 q (.lst ys)) e (.dT []) = H4 at *
  have h4q : H4 q = some (.lst ys) := by rw [← hH4, upd_ne nqe]; exact upd_same
  have h4e : H4 e = some (.dT []) := by rw [← hH4]; exact upd_same
  have h4F : H4 F = some (.lst ps) := by rw [← hH4, upd_ne nFe, upd_ne (ne_of_none hF1 hq)]; exact hF1
  refine ⟨_, rfl, F, rfl, ⟨ps, .inl (.inl h4F)⟩, ?_⟩
  let key : VV → VV → List Key := fun x y => [.inl x.m, .inl y.m]
  let Fr : Hp → Nat → Prop := fun Hx n => ∃ kvs : List (List Key × V), Hx e = some (.dT kvs) ∧ kvs.length ≤ n ∧ (∀ k v, valV kvs k = some v → ∃ d prs, v = .ref d ∧ d ≠ e ∧ Hx d = some (.lst prs) ∧ prs.length ≤ n ∧ ∀ p ∈ prs, PairAt l Hx p) ∧
    (∀ j p, j < n → ps[j]? = some p → ∀ t x y a' b', p = .ref t → H4 t = some (.tup [x, y]) → Vat H4 x a' → Vat H4 y b' → (valV kvs (key a' b')).isSome = true) ∧ ∀ b o, b ≠ e → H4 b = some o → Hx b = some o
  have tu : ∀ {Hx : Hp}, (∀ b o, b ≠ e → H4 b = some o → Hx b = some o) → Tups H4 Hx := fun {Hx} k b t z => k b _ (fun w => by rw [w, h4e] at z; cases z) z
  have sm : ∀ {Hx : Hp}, (∀ b o, b ≠ e → H4 b = some o → Hx b = some o) → Same H Hx := fun {Hx} k b o z => k b o (ne_of_none z eH) (s04 _ _ z)
  refine for_l2 (K := K) (a := F) (us := ps) (fun i σ Hx => (∃ b c d, σ = [some (.ref a), some vm, some (.ref F), some (.ref q), some (.ref e), b, c, d, none]) ∧ Fr Hx i) ⟨⟨none, none, none, rfl⟩, [], h4e, Nat.le_refl _, (fun k v z => nomatch z), (fun j p z => absurd z (Nat.not_lt_zero _)), fun _ _ _ h => h⟩ (fun i σ Hx ⟨_, _, _, _, _, _, k⟩ => .inl (.inl (k _ _ nFe h4F))) ?_ ?_
  · rintro i u σ Hx hu ⟨⟨b, c, d, rfl⟩, kvs, hk1, hk2, hk3, hk4, hk5⟩
    obtain ⟨hi, _⟩ := List.getElem?_eq_some_iff.mp hu
    obtain ⟨t, x, y, av, bv, rfl, ht, hx, hy, hxl, hyl2⟩ := hps4 u (List.mem_of_getElem? hu)
    have t4 := tu hk5
    refine ⟨t, _, rfl, .inl (.inl (t4 _ _ ht)), rfl, ?_⟩
    refine ⟨x, _, rfl, y, _, rfl, rfl, ?_⟩
    refine ⟨_, rfl, q, rfl, ⟨ys, .inl (.inl (hk5 _ _ nqe h4q))⟩, ?_⟩
    have vx := hx.tups t4
    have vy := hy.tups t4
    obtain ⟨xa, rfl, hxa, hxk⟩ := id vx
    obtain ⟨ya, rfl, hya, hyk⟩ := id vy
    have sx : SqT K Hx xa [.str av.k, .int av.o, .int av.m] := .inl (.inl hxa)
    have sy : SqT K Hx ya [.str bv.k, .int bv.o, .int bv.m] := .inl (.inl hya)
    refine for_l2 (K := K) (a := q) (us := ys) (fun j σ Hy => Hy = Hx ∧ ∃ d, σ = [some (.ref a), some vm, some (.ref F), some (.ref q), some (.ref e), some (.ref xa), some (.ref ya), d, none]) ⟨rfl, d, rfl⟩ (fun j σ Hy ⟨z, _⟩ => by rw [z]; exact .inl (.inl (hk5 _ _ nqe h4q))) ?_ ?_
    · rintro j u3 σ Hy hu3 ⟨rfl, d3, rfl⟩
      obtain ⟨z, hz3, vz4⟩ := Pr.get hys4 hu3
      have vz := vz4.tups t4
      have hzl : z ∈ l := hmem z (List.mem_of_getElem? hz3)
      obtain ⟨za, rfl, hza, hzk⟩ := id vz
      have sz : SqT K Hy za [.str z.k, .int z.o, .int z.m] := .inl (.inl hza)
      have smx := sm hk5
      have sx : SqT K Hy xa [.str av.k, .int av.o, .int av.m] := .inl (.inl hxa)
      refine ⟨_, rfl, _, rfl, z, cs, vz, hm.same smx, _, rfl, ite2 (fun h1 => iteT ?_) fun h1 => ⟨_, rfl, za, _, 0, _, rfl, rfl, sz, rfl, _, rfl, xa, _, 0, _, rfl, rfl, sx, rfl, rfl, _, rfl, ite2 (fun _ => ?_) fun _ => ⟨rfl, _, rfl⟩⟩⟩
      all_goals
        refine ⟨_, rfl, ya, _, 2, _, rfl, rfl, sy, rfl, _, rfl, za, _, 2, _, rfl, rfl, sz, rfl, _, _, rfl, rfl, _, rfl, ite2 (fun _ => ⟨_, rfl, xa, _, 2, _, rfl, rfl, sx, rfl, _, _, rfl, rfl, _, rfl, ite2 (fun _ => ?_) fun _ => ⟨rfl, _, rfl⟩⟩) fun _ => ⟨_, rfl, iteF ⟨rfl, _, rfl⟩⟩⟩
        refine ⟨_, rfl, _, rfl, _, rfl, by show 3 ≤ sizeLine; decide, fun t2 ht2 => ?_⟩
        have st := Same.new (o := .tup [.ref xa, .ref ya, .ref za]) ht2
        refine hQ t2 _ _ (smx.trans st) upd_same (by simp) (by simp) fun w hw => ?_
        rcases List.mem_cons.mp hw with rfl | hw
        · exact ⟨_, hxl, vx.same st⟩
        rcases List.mem_cons.mp hw with rfl | hw
        · exact ⟨_, hyl2, vy.same st⟩
        rw [List.mem_singleton.mp hw]
        exact ⟨_, hzl, vz.same st⟩
    · rintro σ Hy ⟨rfl, d3, rfl⟩
      refine ⟨_, rfl, e, rfl, .inr ⟨kvs, .inl hk1⟩, _, rfl, xa, _, 2, _, rfl, rfl, sx, rfl, _, rfl, ya, _, 2, _, rfl, rfl, sy, rfl, by show 2 ≤ sizeLine; decide, fun t1 ht1 => ⟨by decide, fun l0 hl0 => ⟨valV kvs (key av bv), ?_, ?_⟩⟩⟩
      · refine DGet.t (by rw [upd_ne (ne_of_none (by rw [upd_ne (ne_of_none hk1 ht1)]; exact hk1) hl0), upd_ne (ne_of_none hk1 ht1)]; exact hk1) (k := key av bv) ?_
        rw [upd_ne (ne_of_none upd_same hl0)]
        exact upd_same
      have sa1 := Same.new (o := .tup [.int av.m, .int bv.m]) ht1
      have sa2 := sa1.trans (Same.new (o := .lst []) hl0)
      have hl0e : l0 ≠ e := Ne.symm (ne_of_none (sa1 _ _ hk1) hl0)
      have h2l0 : upd (upd Hy t1 (.tup [.int av.m, .int bv.m])) l0 (.lst []) l0 = some (.lst []) := upd_same
      generalize hA2 : upd (upd Hy t1 (.tup [.int av.m, .int bv.m])) l0 (.lst []) = A2 at *
      obtain ⟨dl, prs, ed, hde, hdl, hpl', hpa⟩ : ∃ dl prs, (valV kvs (key av bv)).getD (V.ref l0) = V.ref dl ∧ dl ≠ e ∧ A2 dl = some (.lst prs) ∧ prs.length ≤ i ∧ ∀ p ∈ prs, PairAt l A2 p := by
        cases hv : valV kvs (key av bv) with
        | none => exact ⟨l0, [], rfl, hl0e, h2l0, Nat.zero_le _, fun p hp => nomatch hp⟩
        | some v =>
          obtain ⟨d, prs, rfl, q1, q2, q3, q4⟩ := hk3 _ _ hv
          exact ⟨d, prs, rfl, q1, sa2 _ _ q2, q3, fun p hp => (q4 p hp).tups (Tups.of sa2)⟩
      refine ⟨_, rfl, _, rfl, by show 2 ≤ sizeLine; decide, fun t2 ht2 => ⟨by show 1 ≤ sizeLine; decide, fun l1 hl1 => ⟨dl, l1, prs, [.ref t2], ed, rfl, ?_, upd_same, by rw [List.length_singleton]; omega, fun p3 hp3 => ?_⟩⟩⟩
      · exact (Same.new hl1) _ _ ((Same.new ht2) _ _ hdl)
      have sb1 := Same.new (o := .tup [.ref xa, .ref ya]) ht2
      have sb2 := Same.new (o := .lst [.ref t2]) hl1
      have sb3 := Same.new (o := .lst (prs ++ [.ref t2])) hp3
      have hb2 : upd A2 t2 (.tup [.ref xa, .ref ya]) t2 = some (.tup [.ref xa, .ref ya]) := upd_same
      have hb3 := sb3 _ _ (sb2 _ _ hb2)
      have sab := ((sa2.trans sb1).trans sb2).trans sb3
      have hp33 : upd (upd (upd A2 t2 (.tup [.ref xa, .ref ya])) l1 (.lst [.ref t2])) p3 (.lst (prs ++ [.ref t2])) p3 = some (.lst (prs ++ [.ref t2])) := upd_same
      have s2b := (sb1.trans sb2).trans sb3
      generalize hA5 : upd (upd (upd A2 t2 (.tup [.ref xa, .ref ya])) l1 (.lst [.ref t2])) p3 (.lst (prs ++ [.ref t2])) = A5 at *
      have sx5 : SqT K A5 xa [.str av.k, .int av.o, .int av.m] := .inl (.inl (sab _ _ hxa))
      have sy5 : SqT K A5 ya [.str bv.k, .int bv.o, .int bv.m] := .inl (.inl (sab _ _ hya))
      refine ⟨_, rfl, _, rfl, xa, _, 2, _, rfl, rfl, sx5, rfl, _, rfl, ya, _, 2, _, rfl, rfl, sy5, rfl, by show 2 ≤ sizeLine; decide, fun t3 ht3 => ⟨e, _, rfl, DPut.t (k := key av bv) ((Same.new ht3) _ _ (sab _ _ hk1)) upd_same (by omega), ⟨_, _, _, rfl⟩, putK kvs (key av bv) (.ref p3), upd_same, ?_, ?_, ?_, ?_⟩⟩
      · have := length_putK kvs (key av bv) (.ref p3); omega
      all_goals have sc := sab.trans (Same.new (o := .tup [.int av.m, .int bv.m]) ht3)
      all_goals have h6e := sc _ _ hk1
      · have tt : Tups A5 (upd (upd A5 t3 (.tup [.int av.m, .int bv.m])) e (.dT (putK kvs (key av bv) (.ref p3)))) := (Tups.new ht3).trans (Tups.upd fun t z => by rw [h6e] at z; cases z)
        intro k v hkv
        rw [valV_put] at hkv
        split at hkv
        · cases hkv
          have np : p3 ≠ e := fun z => by rw [z, sab _ _ hk1] at hp33; cases hp33
          refine ⟨p3, _, rfl, np, by rw [upd_ne np]; exact (Same.new ht3) _ _ hp33, by rw [List.length_append, List.length_singleton]; omega, fun p hp => ?_⟩
          rcases List.mem_append.mp hp with hp | hp
          · exact ((hpa p hp).tups (Tups.of s2b)).tups tt
          · rw [List.mem_singleton.mp hp]
            exact ⟨t2, _, _, av, bv, rfl, tt _ _ hb3, (vx.same sab).tups tt, (vy.same sab).tups tt, hxl, hyl2⟩
        · obtain ⟨d, prs', e1, q1, q2, q3, q4⟩ := hk3 _ _ hkv
          exact ⟨d, prs', e1, q1, by rw [upd_ne q1]; exact sc _ _ q2, by omega, fun p hp => ((q4 p hp).tups (Tups.of sab)).tups tt⟩
      · intro j p hj hpj t' x' y' a' b' ep ht' hx' hy'
        rw [valV_put]
        split
        · rfl
        · rename_i hne
          refine hk4 j p (Nat.lt_of_le_of_ne (by omega) fun z => hne ?_) hpj t' x' y' a' b' ep ht' hx' hy'
          subst z
          rw [hu] at hpj
          cases hpj
          cases ep
          rw [ht] at ht'
          cases ht'
          rw [Vat.inj hx' hx, Vat.inj hy' hy]
      · intro b' o' hb ho
        rw [upd_ne hb]
        exact sc _ _ (hk5 _ _ hb ho)
  · rintro σ Hx ⟨⟨b, c, d, rfl⟩, kvs, hk1, hk2, hk3, hk4, hk5⟩
    have smx := sm hk5
    have t4 := tu hk5
    have hFx := hk5 _ _ nFe h4F
    refine ⟨_, rfl, F, rfl, ⟨ps, .inl (.inl hFx)⟩, ?_⟩
    refine for_l2 (K := K) (a := F) (us := ps) (fun i σ Hy => Same Hx Hy ∧ ∃ b c d f, σ = [some (.ref a), some vm, some (.ref F), some (.ref q), some (.ref e), b, c, d, f]) ⟨Same.refl _, b, c, d, none, rfl⟩ (fun i σ Hy ⟨k, _⟩ => .inl (.inl (k _ _ hFx))) ?_ fun σ Hy ⟨k, _⟩ => hN _ (smx.trans k)
    rintro i u σ Hy hu ⟨sxy, b, c, d, f, rfl⟩
    obtain ⟨hi, _⟩ := List.getElem?_eq_some_iff.mp hu
    obtain ⟨t, x, y, av, bv, rfl, ht, hx, hy, hxl, hyl2⟩ := hps4 u (List.mem_of_getElem? hu)
    have ty : Tups H4 Hy := t4.trans (Tups.of sxy)
    refine ⟨t, _, rfl, .inl (.inl (ty _ _ ht)), rfl, x, _, rfl, y, _, rfl, rfl, ?_⟩
    have hsome := hk4 i _ hi hu t x y av bv rfl ht hx hy
    obtain ⟨v, hv⟩ := Option.isSome_iff_exists.mp hsome
    obtain ⟨dd, prs, rfl, q1, q2, q3, q4⟩ := hk3 _ _ hv
    have vx := hx.tups ty
    have vy := hy.tups ty
    obtain ⟨xa, rfl, hxa, hxk⟩ := id vx
    obtain ⟨ya, rfl, hya, hyk⟩ := id vy
    have sx : SqT K Hy xa [.str av.k, .int av.o, .int av.m] := .inl (.inl hxa)
    have sy : SqT K Hy ya [.str bv.k, .int bv.o, .int bv.m] := .inl (.inl hya)
    refine ⟨_, rfl, _, rfl, xa, _, 2, _, rfl, rfl, sx, rfl, _, rfl, ya, _, 2, _, rfl, rfl, sy, rfl, by show 2 ≤ sizeLine; decide, fun t1 ht1 => ?_⟩
    have st1 := Same.new (o := .tup [.int av.m, .int bv.m]) ht1
    have sx1 := sxy.trans st1
    have hD : DGet (upd Hy t1 (.tup [.int av.m, .int bv.m])) e (.ref t1) (some (.ref dd)) := by
      rw [← hv]
      exact DGet.t (k := key av bv) (sx1 _ _ hk1) upd_same
    refine ⟨e, .ref dd, rfl, hD, dd, rfl, ⟨prs, .inl (.inl (sx1 _ _ q2))⟩, ?_⟩
    refine for_l2 (K := K) (a := dd) (us := prs) (fun j σ Hz => Hz = upd Hy t1 (.tup [.int av.m, .int bv.m]) ∧ ∃ d f, σ = [some (.ref a), some vm, some (.ref F), some (.ref q), some (.ref e), some (.ref xa), some (.ref ya), d, f]) ⟨rfl, d, f, rfl⟩ (fun i σ Hz ⟨z, _⟩ => by rw [z]; exact .inl (.inl (sx1 _ _ q2))) ?_ fun σ Hz ⟨z, d, f, e1⟩ => ⟨z ▸ sx1, _, _, _, _, e1⟩
    rintro j u2 σ Hz hu2 ⟨rfl, d, f, rfl⟩
    obtain ⟨t', x', y', av', bv', rfl, ht', hx', hy', hxl', hyl'⟩ := (q4 u2 (List.mem_of_getElem? hu2)).tups (Tups.of sx1)
    refine ⟨t', _, rfl, .inl (.inl ht'), rfl, x', _, rfl, y', _, rfl, rfl, ?_⟩
    have vx1 := vx.same st1
    have vy1 := vy.same st1
    obtain ⟨xa', rfl, hxa', hxk'⟩ := id hx'
    have sx1' : SqT K (upd Hy t1 (.tup [.int av.m, .int bv.m])) xa [.str av.k, .int av.o, .int av.m] := .inl (.inl (st1 _ _ hxa))
    have sx2' : SqT K (upd Hy t1 (.tup [.int av.m, .int bv.m])) xa' [.str av'.k, .int av'.o, .int av'.m] := .inl (.inl hxa')
    refine ⟨_, rfl, xa, _, 0, _, rfl, rfl, sx1', rfl, _, rfl, xa', _, 0, _, rfl, rfl, sx2', rfl, _, _, rfl, rfl, _, rfl, ite2 (fun _ => ?_) fun _ => ⟨rfl, _, _, rfl⟩⟩
    refine ⟨_, rfl, _, rfl, _, rfl, _, rfl, by show 4 ≤ sizeLine; decide, fun t2 ht2 => ?_⟩
    have st := Same.new (o := .tup [.ref xa, .ref ya, .ref xa', y']) ht2
    refine hQ t2 _ _ ((smx.trans sx1).trans st) upd_same (by simp) (by simp) fun w hw => ?_
    rcases List.mem_cons.mp hw with rfl | hw
    · exact ⟨_, hxl, vx1.same st⟩
    rcases List.mem_cons.mp hw with rfl | hw
    · exact ⟨_, hyl2, vy1.same st⟩
    rcases List.mem_cons.mp hw with rfl | hw
    · exact ⟨_, hxl', hx'.same st⟩
    rw [List.mem_singleton.mp hw]
    exact ⟨_, hyl', hy'.same st⟩
end
end K91
set_option Elab.async false
set_option linter.all false
set_option maxRecDepth 100000
set_option maxHeartbeats 2000000
/-! The law's helpers: _law_pen, _law_draw, _law_number. -/
namespace K91
open PySem PySem.Spec PyProof.Rows L2 GenW
open K91M
/-- the pen: its cells, how many of them were begun (at most n), what is left -/
def Pen (H : Hp) (p c : Addr) (n : Nat) : Prop := ∃ (k : Nat) (b : Int) (ns : List Int), H p = some (.lst [.ref c, .int (k : Int), .int b]) ∧ H c = some (.lst (ns.map V.int)) ∧ ns.length ≤ 64 ∧ k ≤ n
def But (p : Addr) (H H' : Hp) : Prop := ∀ b o, b ≠ p → H b = some o → H' b = some o
theorem But.refl {p : Addr} {H : Hp} : But p H H := fun _ _ _ h => h
theorem But.trans {p : Addr} {H H' H'' : Hp} (a : But p H H') (b : But p H' H'') : But p H H'' := fun x o n h => b x o n (a x o n h)
theorem But.of {p : Addr} {H H' : Hp} (h : Same H H') : But p H H' := fun x o _ e => h x o e
theorem But.set {p : Addr} {H : Hp} {o : HO} : But p H (upd H p o) := fun x u n e => by rw [upd_ne n]; exact e
theorem Pen.mono {H : Hp} {p c : Addr} {n m : Nat} (h : Pen H p c n) (hm : n ≤ m) : Pen H p c m := let ⟨k, b, ns, h1, h2, h3, h4⟩ := h; ⟨k, b, ns, h1, h2, h3, Nat.le_trans h4 hm⟩
theorem Pen.same {H H' : Hp} {p c : Addr} {n : Nat} (h : Pen H p c n) (s : Same H H') : Pen H' p c n := let ⟨k, b, ns, h1, h2, h3, h4⟩ := h; ⟨k, b, ns, s _ _ h1, s _ _ h2, h3, h4⟩
theorem But.tups {p : Addr} {H H' : Hp} {xs : List V} (h : But p H H') (hp : H p = some (.lst xs)) : Tups H H' := fun b t e => h b _ (fun z => by rw [z, hp] at e; cases e) e
theorem Pen.at_ {H : Hp} {p c : Addr} {n : Nat} (h : Pen H p c n) : ∃ xs, H p = some (.lst xs) := let ⟨k, b, ns, h1, h2, h3, h4⟩ := h; ⟨_, h1⟩
theorem Pen.tups {p c : Addr} {H H' : Hp} {n : Nat} (h : Pen H p c n) (b : But p H H') : Tups H H' := let ⟨_, hp⟩ := h.at_; b.tups hp
theorem Pen.but {p c : Addr} {H H' H'' : Hp} (h : But p H H') (hn : H p = none) : Same H H' := fun b o e => h b o (fun z => by rw [z, hn] at e; cases e) e
def spDraw : Sp := fun vs H Q _ => ∃ p c n, ∃ m : Int, vs = [.ref p, .int m] ∧ Pen H p c n ∧ n ≤ 100000 ∧ 0 < m ∧ m < 1073741824 ∧ ∀ (r : Int) H', 0 ≤ r → r < m → But p H H' → Pen H' p c (n + 1) → Q (.int r) H'
theorem ints_dp {K : PySem.W.Frag} {H : Hp} : ∀ ns : List Int, DpAll K H (ns.map V.int) (ns.map PyData.int)
  | [] => .nil
  | n :: ns => .cons (.int n) (ints_dp ns)
theorem ints_lay : ∀ ns : List Int, PyData.canLayAll0 (ns.map PyData.int) = true
  | [] => by simp [PyData.canLayAll0]
  | n :: ns => by simp [PyData.canLayAll0, PyData.canLay0, ints_lay ns]
theorem ints_depth : ∀ ns : List Int, PyData.depthAll (ns.map PyData.int) = 0
  | [] => by simp [PyData.depthAll]
  | n :: ns => by simp [PyData.depthAll, PyData.depth, ints_depth ns]
theorem ints_shaped (ns : List Int) : SeqAt.shaped (.list (ns.map PyData.int)) = true := shaped_of (by simp only [PyData.canLay0]; exact ints_lay ns) (by simp only [PyData.depth, ints_depth]; decide)
theorem ints_nil (ns : List Int) : PyData.eqv (.list (ns.map PyData.int)) (.list []) = decide (ns = []) := by
  cases ns <;> simp [PyData.eqv, PyData.eqvAll]
section
variable {P : Program} {w : World} {K : PySem.W.Frag} {mg : Str → Option Value} {base : Heap}
theorem okDraw (T : Tx K mg) : FO P w K mg base 1 dLDraw ["_law_pen_here", "_law_many"] spDraw := by
  refine FunD.ok (T.f 22) cLDraw (fun vs H Q E h => ?_) (fun cdv A outer s H vs Q E hr h => ⟨_, PSs.nox (
    (pss_cons (ps_if (pt_cmpR op_gt (pe_ix ixL (pv 0) pe_int (fun _ _ => rfl)) pe_int (nomark _))
      (pss_cons (ps_asg (pe_op op_mod (pe_ix ixL (pv 0) pe_int (fun _ _ => rfl)) (pv 1)) (pg_name (i := 2) cLDraw.nd rfl (Or.inl rfl)))
      (pss_cons (ps_asg (pe_op op_fdiv (pe_ix ixL (pv 0) pe_int (fun _ _ => rfl)) (pv 1)) (pg_sub (pv 0) pe_int set_list))
      (pss_one (ps_ret (pv 2))))) pss_nil)
    (pss_cons (ps_asg (pe_ix ixL (pv 0) pe_int (fun _ _ => rfl)) (pg_name (i := 3) cLDraw.nd rfl (Or.inl rfl)))
    (pss_cons (ps_asg (pe_op op_add (pv 3) pe_int) (pg_sub (pv 0) pe_int set_list))
    (pss_cons (ps_asg (pe_op op_add (pe_op op_mul pe_int (pv 3)) pe_int) (pg_name (i := 4) cLDraw.nd rfl (Or.inl rfl)))
    (pss_cons (ps_if (pt_cmpR (neD (room_64 hr)) (pe_ix ixL (pv 0) pe_int (fun _ _ => rfl)) (pe_lst pa_nil) (nomark _))
      (pss_one (ps_asg (pe_ix ixL (pe_ix ixL (pv 0) pe_int (fun _ _ => rfl)) (pe_op op_mod (pv 3) (pe_callB clen (by rfl) (T.fr 34) PySem.boot_len (pa_cons (pe_ix ixL (pv 0) pe_int (fun _ _ => rfl)) pa_nil))) (fun _ _ => rfl)) (pg_name (i := 4) cLDraw.nd rfl (Or.inl rfl)))) pss_nil)
    (pss_cons (ps_if (PW.pt (pw_and (pt_cmpR op_lt (pv 3) (pe_callB clen (by rfl) (T.fr 34) PySem.boot_len (pa_cons (pe_ix ixL (pv 0) pe_int (fun _ _ => rfl)) pa_nil)) (nomark _))
        (pw_and1 (pt_cmpR op_ge (pe_callB call_abs (by rfl) (T.fr 49) (by decide +kernel) (pa_cons (pv 4) pa_nil)) (pe_op op_pow pe_int pe_int) (nomark _)))))
      (pss_cons (ps_asg (pe_op op_add (pe_op op_mul pe_int (pe_callB call_abs (by rfl) (T.fr 49) (by decide +kernel) (pa_cons (pv 4) pa_nil))) (pe_callTy call_int1 (by rfl) (T.fr 37) (by decide +kernel) (pa_cons (pe_cmpR op_lt (pv 4) pe_int (nomark _)) pa_nil))) (pg_name (i := 5) cLDraw.nd rfl (Or.inl rfl)))
      (pss_cons (ps_asg (pe_op op_fdiv (pv 5) (pv 1)) (pg_sub (pv 0) pe_int set_list))
      (pss_one (ps_ret (pe_op op_mod (pv 5) (pv 1)))))) pss_nil)
    (pss_cons (ps_asg (pe_op op_mod (pe_op op_pow (pe_op op_add (pe_op op_add (pe_op op_mod (pv 4) pe_int) (pe_op op_mul pe_int (pv 3))) pe_int) pe_int) pe_int) (pg_name (i := 6) cLDraw.nd rfl (Or.inl rfl)))
    (pss_cons (ps_asg (pe_op op_mod (pe_op op_pow (pe_op op_add (pe_op op_mul (pv 6) (pe_op op_add (pe_op op_mul pe_int (pv 3)) pe_int)) pe_int) pe_int) pe_int) (pg_name (i := 6) cLDraw.nd rfl (Or.inl rfl)))
    (pss_one (ps_ret (pe_op op_mod (pe_op op_fdiv (pv 6) pe_int) (pv 1))))))))))))), ?_⟩)
  · obtain ⟨_, _, _, _, rfl, _⟩ := h
    rfl
  obtain ⟨p, c, n, m, rfl, ⟨k, b, ns, hp, hc, hns, hk⟩, hn, hm0, hm1, hQ⟩ := h
  have hpc : c ≠ p := fun e => by
    rw [e, hp] at hc
    cases ns <;> simp at hc
  have lp : SqL K H p [.ref c, .int (k : Int), .int b] := .inl (.inl hp)
  refine ⟨_, rfl, p, _, 2, _, rfl, rfl, lp, rfl, _, _, rfl, rfl, _, rfl, ite2 (fun h1 => ?_) fun h1 => ?_⟩
  · refine ⟨_, rfl, p, _, 2, _, rfl, rfl, lp, rfl, _, rfl, _, _, rfl, rfl, hm0, ?_⟩
    refine ⟨_, rfl, p, _, 2, _, rfl, rfl, lp, rfl, _, rfl, _, _, rfl, rfl, ⟨hm0, hm1⟩, _, rfl, p, _, _, 2, rfl, rfl, hp, rfl, _, rfl, hQ _ _ (Int.emod_nonneg _ (by omega)) (Int.emod_lt_of_pos _ hm0) But.set ⟨k, b / m, ns, upd_same, by rw [upd_ne hpc]; exact hc, hns, by omega⟩⟩
  · refine ⟨_, rfl, p, _, 1, _, rfl, rfl, lp, rfl, ?_⟩
    refine ⟨_, rfl, _, _, rfl, rfl, _, rfl, p, _, _, 1, rfl, rfl, hp, rfl, ?_⟩
    have hp1 : upd H p (.lst ([V.ref c, V.int (k : Int), V.int b].set 1 (V.int ((k : Int) + 1)))) p = some (.lst [.ref c, .int ((k : Int) + 1), .int b]) := upd_same
    have hc1 : upd H p (.lst ([V.ref c, V.int (k : Int), V.int b].set 1 (V.int ((k : Int) + 1)))) c = some (.lst (ns.map V.int)) := by rw [upd_ne hpc]; exact hc
    have b1 : But p H (upd H p (.lst ([V.ref c, V.int (k : Int), V.int b].set 1 (V.int ((k : Int) + 1))))) := But.set
    generalize upd H p (.lst ([V.ref c, V.int (k : Int), V.int b].set 1 (V.int ((k : Int) + 1)))) = H1 at *
    refine ⟨_, rfl, _, _, rfl, rfl, .inl ⟨by decide, by decide⟩, _, _, rfl, rfl, ?_⟩
    have lp1 : SqL K H1 p [.ref c, .int ((k : Int) + 1), .int b] := .inl (.inl hp1)
    refine ⟨_, rfl, p, _, 0, _, rfl, rfl, lp1, rfl, by decide, fun q hq => ⟨.list (ns.map PyData.int), .list [], .lst (.inl (.inl ((Same.new hq) _ _ hc1))) (ints_dp ns), .lst (.inl (.inl upd_same)) .nil, ints_shaped ns, rfl, _, rfl, ?_⟩⟩
    rw [ints_nil]
    have sq := Same.new (o := .lst []) hq
    have hp2 := sq _ _ hp1
    have hc2 := sq _ _ hc1
    have b2 := b1.trans (But.of sq)
    generalize upd H1 q (.lst []) = H2 at *
    have lp2 : SqL K H2 p [.ref c, .int ((k : Int) + 1), .int b] := .inl (.inl hp2)
    have lc2 : SqL K H2 c (ns.map V.int) := .inl (.inl hc2)
    generalize (51719 * (k : Int) + 83) = cell0
    have done : ∀ (r b' : Int) H3, H3 = upd H2 p (.lst [.ref c, .int ((k : Int) + 1), .int b']) ∨ H3 = H2 → 0 ≤ r → r < m → Q (.int r) H3 := fun r b' H3 e h0 h1 => by
      rcases e with rfl | rfl
      · exact hQ r _ h0 h1 (b2.trans But.set) ⟨k + 1, b', ns, by rw [upd_same]; rfl, by rw [upd_ne hpc]; exact hc2, hns, by omega⟩
      · exact hQ r _ h0 h1 b2 ⟨k + 1, b, ns, hp2, hc2, hns, by omega⟩
    have pos79 : (0 : Int) < 2147483579 := by decide
    have pos47 : (0 : Int) < 2147483647 := by decide
    have pos63 : (0 : Int) < 2147483563 := by decide
    have mixb : ∀ x : Int, (x % 2147483579 + 60089 * (k : Int) + 37).natAbs < 2 ^ 64 := fun x => by
      have h1 := Int.emod_nonneg x (show (2147483579 : Int) ≠ 0 by decide)
      have h2 := Int.emod_lt_of_pos x (show (0 : Int) < 2147483579 by decide)
      omega
    have mulb : ∀ x : Int, (x % 2147483647 * (2 * (k : Int) + 13) + 70121).natAbs < 2 ^ 64 := fun x => by
      have h1 := Int.emod_nonneg x (show (2147483647 : Int) ≠ 0 by decide)
      have h2 := Int.emod_lt_of_pos x (show (0 : Int) < 2147483647 by decide)
      have h3 : x % 2147483647 * (2 * (k : Int) + 13) ≤ 2147483647 * 200013 := Int.mul_le_mul (by omega) (by omega) (by omega) (by omega)
      have h4 : 0 ≤ x % 2147483647 * (2 * (k : Int) + 13) := Int.mul_nonneg h1 (by omega)
      omega
    have modb : ∀ x : Int, -(2 ^ 64) < x % 2147483647 ∧ x % 2147483647 < 2 ^ 64 := fun x => by
      have h1 := Int.emod_nonneg x (show (2147483647 : Int) ≠ 0 by decide)
      have h2 := Int.emod_lt_of_pos x (show (0 : Int) < 2147483647 by decide)
      constructor <;> omega
    refine ite2 (fun h2 => ?_) fun h2 => ?_
    · have hne : ns ≠ [] := by simpa using h2
      have hpos : 0 < ns.length := List.length_pos_iff.mpr hne
      have hlt : k % ns.length < ns.length := Nat.mod_lt _ hpos
      refine ⟨_, rfl, p, _, 0, _, rfl, rfl, lp2, rfl, _, rfl, _, rfl, p, _, 0, _, rfl, rfl, lp2, rfl, c, _, rfl, .inl lc2, _, _, rfl, rfl, by rw [List.length_map]; omega, c, _, _, .int (ns[k % ns.length]), rfl, rfl, lc2, ?_, ?_⟩
      · rw [List.length_map, ← Int.natCast_emod]
        exact atI_nat (by rw [List.getElem?_map, List.getElem?_eq_getElem hlt]; rfl)
      generalize ns[k % ns.length] = cell
      refine ⟨_, rfl, _, rfl, p, _, 0, _, rfl, rfl, lp2, rfl, c, _, rfl, .inl lc2, _, _, rfl, rfl, _, rfl, ite2 (fun h3 => ⟨_, rfl, _, rfl, 10, 18, rfl, rfl, ⟨by decide, by decide, by decide⟩, _, _, rfl, rfl, _, rfl, ite2 (fun _ => ?g) fun _ => ?_⟩) fun _ => iteF ?_⟩
      case g =>
        refine ⟨_, rfl, _, rfl, _, _, rfl, rfl, .inl ⟨by decide, by decide⟩, _, rfl, _, _, rfl, rfl, .inr ⟨_, rfl, _, _, rfl, rfl, ?_⟩⟩
        refine ⟨_, rfl, _, rfl, _, _, rfl, rfl, ⟨hm0, hm1⟩, _, rfl, p, _, _, 2, rfl, rfl, hp2, rfl, ?_⟩
        exact ⟨_, rfl, _, rfl, _, _, rfl, rfl, hm0, done _ _ _ (.inl rfl) (Int.emod_nonneg _ (by omega)) (Int.emod_lt_of_pos _ hm0)⟩
      all_goals
        refine ⟨_, rfl, _, _, rfl, rfl, pos79, _, rfl, _, _, rfl, rfl, .inl ⟨by decide, by decide⟩, _, _, rfl, rfl, _, _, rfl, rfl, _, _, rfl, rfl, ⟨by decide, by decide, mixb _⟩, _, _, rfl, rfl, pos47, ?_⟩
        refine ⟨_, rfl, _, rfl, _, _, rfl, rfl, .inl ⟨by decide, by decide⟩, _, _, rfl, rfl, _, _, rfl, rfl, .inl (modb _), _, _, rfl, rfl, _, _, rfl, rfl, ⟨by decide, by decide, mulb _⟩, _, _, rfl, rfl, pos63, ?_⟩
        exact ⟨_, rfl, _, _, rfl, rfl, ⟨by decide, by decide⟩, _, rfl, _, _, rfl, rfl, hm0, done _ 0 _ (.inr rfl) (Int.emod_nonneg _ (by omega)) (Int.emod_lt_of_pos _ hm0)⟩
    · refine ⟨_, rfl, _, rfl, p, _, 0, _, rfl, rfl, lp2, rfl, c, _, rfl, .inl lc2, _, _, rfl, rfl, _, rfl, ite2 (fun h3 => ⟨_, rfl, _, rfl, 10, 18, rfl, rfl, ⟨by decide, by decide, by decide⟩, _, _, rfl, rfl, _, rfl, ite2 (fun _ => ?g) fun _ => ?_⟩) fun _ => iteF ?_⟩
      case g =>
        refine ⟨_, rfl, _, rfl, _, _, rfl, rfl, .inl ⟨by decide, by decide⟩, _, rfl, _, _, rfl, rfl, .inr ⟨_, rfl, _, _, rfl, rfl, ?_⟩⟩
        refine ⟨_, rfl, _, rfl, _, _, rfl, rfl, ⟨hm0, hm1⟩, _, rfl, p, _, _, 2, rfl, rfl, hp2, rfl, ?_⟩
        exact ⟨_, rfl, _, rfl, _, _, rfl, rfl, hm0, done _ _ _ (.inl rfl) (Int.emod_nonneg _ (by omega)) (Int.emod_lt_of_pos _ hm0)⟩
      all_goals
        refine ⟨_, rfl, _, _, rfl, rfl, pos79, _, rfl, _, _, rfl, rfl, .inl ⟨by decide, by decide⟩, _, _, rfl, rfl, _, _, rfl, rfl, _, _, rfl, rfl, ⟨by decide, by decide, mixb _⟩, _, _, rfl, rfl, pos47, ?_⟩
        refine ⟨_, rfl, _, rfl, _, _, rfl, rfl, .inl ⟨by decide, by decide⟩, _, _, rfl, rfl, _, _, rfl, rfl, .inl (modb _), _, _, rfl, rfl, _, _, rfl, rfl, ⟨by decide, by decide, mulb _⟩, _, _, rfl, rfl, pos63, ?_⟩
        exact ⟨_, rfl, _, _, rfl, rfl, ⟨by decide, by decide⟩, _, rfl, _, _, rfl, rfl, hm0, done _ 0 _ (.inr rfl) (Int.emod_nonneg _ (by omega)) (Int.emod_lt_of_pos _ hm0)⟩
theorem atI_mem {xs : List V} {r : Int} (h0 : 0 ≤ r) (h : r < xs.length) : ∃ v, atI xs r = some v ∧ v ∈ xs := by
  obtain ⟨k, rfl⟩ := Int.eq_ofNat_of_zero_le h0
  have hk : k < xs.length := by omega
  exact ⟨xs[k], atI_nat (List.getElem?_eq_getElem hk), List.getElem_mem hk⟩
def spNum : Sp := fun vs H Q _ => ∃ p c n, ∃ hi : Int, vs = [.ref p, .int hi] ∧ Pen H p c n ∧ n + 3 ≤ 100000 ∧ 0 ≤ hi ∧ ∀ (r : Int) H', But p H H' → Pen H' p c (n + 3) → Q (.int r) H'
theorem okNum (T : Tx K mg) : FO P w K mg base 2 dLNum ["_law_pen_here", "_law_high"] spNum := by
  refine FunD.ok (T.f 23) cLNum (fun vs H Q E h => ?_) (fun cdv A outer s H vs Q E hr h => ⟨_, PSs.nox (
    (pss_cons (ps_if (pt_cmpR op_lt (pv 1) (pe_op op_pow pe_int pe_int) (nomark _))
      (pss_one (ps_ret (pe_op op_sub (pe_call (okDraw T) hr rfl (T.g 18) (T.f 22).kp (bLDraw T) .nil pass0 (pa_cons (pv 0) (pa_cons (pe_op op_add (pe_op op_mul pe_int (pv 1)) pe_int) pa_nil))) (pv 1)))) pss_nil)
    (pss_cons (ps_asg (pe_ix ixL (pe_lst (pa_cons pe_int (pa_cons pe_int (pa_cons (pe_call (okDraw T) hr rfl (T.g 18) (T.f 22).kp (bLDraw T) .nil pass0 (pa_cons (pv 0) (pa_cons (pe_op op_pow pe_int pe_int) pa_nil))) (pa_cons (pe_op op_fdiv (pv 1) pe_int) pa_nil)))))
        (pe_call (okDraw T) hr rfl (T.g 18) (T.f 22).kp (bLDraw T) .nil pass0 (pa_cons (pv 0) (pa_cons pe_int pa_nil))) (fun _ _ => rfl)) (pg_name (i := 2) cLNum.nd rfl (Or.inl rfl)))
    (pss_one (ps_ret (pe_ix ixL (pe_lst (pa_cons (pv 2) (pa_cons (pe_op op_sub pe_int (pv 2)) (pa_cons (pe_op op_sub (pv 1) (pv 2)) (pa_cons (pe_op op_sub (pv 2) (pv 1)) pa_nil)))))
        (pe_call (okDraw T) hr rfl (T.g 18) (T.f 22).kp (bLDraw T) .nil pass0 (pa_cons (pv 0) (pa_cons pe_int pa_nil))) (fun _ _ => rfl))))))), ?_⟩)
  · obtain ⟨_, _, _, _, rfl, _⟩ := h
    rfl
  obtain ⟨p, c, n, hi, rfl, hp, hn, h0, hQ⟩ := h
  refine ⟨_, rfl, 10, 7, rfl, rfl, ⟨by decide, by decide, by decide⟩, _, _, rfl, rfl, _, rfl, ite2 (fun h1 => ?_) fun h1 => ?_⟩
  · have h1' : hi < 10000000 := by simpa using h1
    refine ⟨_, rfl, _, rfl, _, _, rfl, rfl, .inl ⟨by decide, by decide⟩, _, _, rfl, rfl, p, c, n, _, rfl, hp, by omega, by show 0 < 2 * hi + 1; omega, by show 2 * hi + 1 < 1073741824; omega, fun r H' h2 h3 hb hp' => ⟨_, rfl, _, _, rfl, rfl, hQ _ _ hb (hp'.mono (by omega))⟩⟩
  · refine ⟨_, rfl, 10, 7, rfl, rfl, ⟨by decide, by decide, by decide⟩, p, c, n, _, rfl, hp, by omega, by decide, by decide, fun r1 H1 ha1 ha2 hb1 hp1 => ?_⟩
    refine ⟨_, rfl, _, _, rfl, rfl, ⟨by decide, by decide⟩, by show 4 ≤ sizeLine; decide, fun q1 hq1 => ?_⟩
    have hp1' := hp1.same (Same.new (o := .lst [.int 0, .int 1, .int r1, .int (hi / 2)]) hq1)
    have hb1' := hb1.trans (But.of (Same.new (o := .lst [.int 0, .int 1, .int r1, .int (hi / 2)]) hq1))
    obtain ⟨x1, hx1⟩ := hp1.at_
    have n1 : q1 ≠ p := Ne.symm (ne_of_none hx1 hq1)
    refine ⟨_, rfl, p, c, n + 1, _, rfl, hp1', by omega, by decide, by decide, fun r2 H2 hc1 hc2 hb2 hp2 => ?_⟩
    obtain ⟨v, hv, hm⟩ := atI_mem (xs := [V.int 0, .int 1, .int r1, .int (hi / 2)]) hc1 hc2
    obtain ⟨far, rfl⟩ : ∃ far, v = .int far := by
      rcases List.mem_cons.mp hm with rfl | hm; exact ⟨_, rfl⟩
      rcases List.mem_cons.mp hm with rfl | hm; exact ⟨_, rfl⟩
      rcases List.mem_cons.mp hm with rfl | hm; exact ⟨_, rfl⟩
      exact ⟨_, List.mem_singleton.mp hm⟩
    refine ⟨q1, _, _, _, rfl, rfl, .inl (.inl (hb2 _ _ n1 upd_same)), hv, ?_⟩
    have hb02 := hb1'.trans hb2
    refine ⟨_, rfl, _, rfl, _, _, rfl, rfl, _, rfl, _, rfl, _, _, rfl, rfl, _, rfl, _, rfl, _, _, rfl, rfl, by show 4 ≤ sizeLine; decide, fun q2 hq2 => ?_⟩
    have hp2' := hp2.same (Same.new (o := .lst [.int far, .int (0 - far), .int (hi - far), .int (far - hi)]) hq2)
    have hb2' := hb02.trans (But.of (Same.new (o := .lst [.int far, .int (0 - far), .int (hi - far), .int (far - hi)]) hq2))
    obtain ⟨x2, hx2⟩ := hp2.at_
    have n2 : q2 ≠ p := Ne.symm (ne_of_none hx2 hq2)
    refine ⟨_, rfl, p, c, n + 2, _, rfl, hp2', by omega, by decide, by decide, fun r3 H3 hd1 hd2 hb3 hp3 => ?_⟩
    obtain ⟨v, hv, hm⟩ := atI_mem (xs := [V.int far, .int (0 - far), .int (hi - far), .int (far - hi)]) hd1 hd2
    obtain ⟨res, rfl⟩ : ∃ res, v = .int res := by
      rcases List.mem_cons.mp hm with rfl | hm; exact ⟨_, rfl⟩
      rcases List.mem_cons.mp hm with rfl | hm; exact ⟨_, rfl⟩
      rcases List.mem_cons.mp hm with rfl | hm; exact ⟨_, rfl⟩
      exact ⟨_, List.mem_singleton.mp hm⟩
    exact ⟨q2, _, _, _, rfl, rfl, .inl (.inl (hb3 _ _ n2 upd_same)), hv, hQ _ _ (hb2'.trans hb3) hp3⟩
/-- the script is read: the pen -/
def spPen (K : PySem.W.Frag) : Sp := fun vs H Q _ => ∃ a, ∃ ns : List Int, vs = [.ref a] ∧ SqL K H a (ns.map V.int) ∧ ns.length ≤ 64 ∧ ∀ p c H', Same H H' → H p = none → Pen H' p c 0 → Q (.ref p) H'
theorem okPen (T : Tx K mg) : FO P w K mg base 1 dLPen ["_law_script"] (spPen K) := by
  refine FunD.ok (T.f 21) cLPen (fun vs H Q E h => ?_) (fun cdv A outer s H vs Q E hr h => ⟨_, PSs.nox (
    (pss_one (ps_ret (pe_lst (pa_cons (pe_callTy call_list_of (by rfl) (T.fr 44) (by decide +kernel) (pa_cons (pe_slice sl_list (pv 0) po_none (po_some pe_int)) pa_nil)) (pa_cons pe_int (pa_cons pe_int pa_nil))))))), ?_⟩)
  · obtain ⟨_, _, rfl, _⟩ := h
    rfl
  obtain ⟨a, ns, rfl, ha, hl, hQ⟩ := h
  refine ⟨_, rfl, ?_⟩
  simp only [tNoPart]
  obtain ⟨ns', e1, e2⟩ : ∃ ns' : List Int, cutV (ns.map V.int) none (some 63) = ns'.map V.int ∧ ns'.length ≤ ns.length := by
    unfold cutV
    rw [← List.map_drop, ← List.map_take]
    exact ⟨_, rfl, by rw [List.length_take, List.length_drop]; omega⟩
  refine ⟨63, rfl, a, ns.map V.int, rfl, ha, fun q hq => ⟨q, _, rfl, .inl (.inl (.inl upd_same)), fun l hl' => ⟨by show 3 ≤ sizeLine; decide, fun p hp => ?_⟩⟩⟩
  have s0 : Same H (upd (upd H q (HO.lst (cutV (List.map V.int ns) none (some 63)))) l (HO.lst (cutV (List.map V.int ns) none (some 63)))) := (Same.new hq).trans (Same.new hl')
  refine hQ p l _ (s0.trans (Same.new hp)) (none_of s0 hp) ⟨0, 0, ns', upd_same, ?_, by omega, Nat.le_refl _⟩
  rw [upd_ne (ne_of_none upd_same hp), upd_same, e1]
end
end K91
set_option Elab.async false
set_option linter.all false
set_option maxRecDepth 100000
set_option maxHeartbeats 2000000
/-! The law's helpers: _law_names, _law_value. -/
namespace K91
open PySem PySem.Spec PyProof.Rows L2 GenW
open K91M
theorem pbm {X : Cx} {K : PySem.W.Frag} {T name id : String} {r : V → List V → Hp → VK → Prop} {o e : Expr} {es : List Expr} {to : TE} {t : TA} {apos cpos : Pos} (pa : PlainAttrs T) (slot : Slot T name id) (hty : typeOf (.builtin id) = pure (.type "method_descriptor")) (hm : MtR X id r) (ho : PE X o to) (ha : PA X (e :: es) t)
    (hbase : attributeBase o name X.env (eval o X.env) = eval o X.env := by rfl)
    (hfew : ((backTo cpos (starEach (e :: es) X.env)).all (fun x => !x.1) && (backToKw cpos (keywordEach [] X.env)).all (fun x => x.1.isSome)
      && decide ((e :: es).length + ([] : List Keyword).length + (if ([] : List Keyword).isEmpty then 0 else 1) < 30)) = true := by rfl)
    (hline : (apos.endLine == cpos.line) = true := by rfl) (hs : starEach (e :: es) X.env = (false, eval e X.env) :: starEach es X.env := by rfl) (hplain : (backTo cpos (starEach es X.env)).any (·.1) = false := by rfl) (h : X.K = K := by rfl) :
    PE X (.Call (.Attribute o name apos) (e :: es) [] cpos) (tBM K T r to t) := h ▸ pe_bm pa slot hty hm ho ha hbase hfew hline hs hplain
def spNames : Sp := fun vs H Q _ => ∃ p c n, ∃ j : Nat, vs = [.ref p, .int (j : Int)] ∧ Pen H p c n ∧ n + 4 ≤ 100000 ∧ j ≤ 4 ∧ ∀ D (ks : List Str) H', But p H H' → H D = none → Pen H' p c (n + 4) → H' D = some (.lst (ks.map V.str)) → ks.length = j → (∀ s ∈ ks, PyData.strOk s = true) → Q (.ref D) H'
theorem cLNames' : FnScope ["_law_pen_here", "_law_many", "_law_left", "_law_k"] ["_law_pen_here", "_law_many"] (defScope sLNames) :=
  ⟨rfl, rfl, rfl, by decide +kernel, rfl, by decide +kernel, by decide +kernel⟩
theorem Pen.cell {H : Hp} {p c : Addr} {n : Nat} (h : Pen H p c n) : ∃ xs, H c = some (.lst xs) := let ⟨_, _, _, _, h2, _⟩ := h; ⟨_, h2⟩
theorem seq_nat {n k : Nat} (h : k < n) : seqIndex? (k : Int) n = some k := (ixN_seq (by unfold ixN; rw [if_pos (by omega), if_pos (by omega)]; simp)).1
section
variable {P : Program} {w : World} {K : PySem.W.Frag} {mg : Str → Option Value} {base : Heap}
theorem okNames (T : Tx K mg) : FO P w K mg base 2 dLNames ["_law_pen_here", "_law_many"] spNames := by
  refine FunD.ok (T.f 24) cLNames' (fun vs H Q E h => ?_) (fun cdv A outer s H vs Q E hr h => ⟨_, PSs.nox (
    (pss_cons (ps_asg (pe_lst (pa_cons pe_str (pa_cons pe_str (pa_cons pe_str (pa_cons pe_str (pa_cons pe_str (pa_cons pe_str (pa_cons pe_str (pa_cons pe_str (pa_cons pe_str (pa_cons pe_str pa_nil))))))))))) (pg_name (i := 2) cLNames'.nd rfl (Or.inr rfl)))
    (pss_one (ps_ret (pe_lc (own := [("_law_k", 3)]) (g := gName 3) rfl cLNames'.nd (pi_range1 rfl (T.fr 35) (pa_cons (pv 1) pa_nil)) (blkOk_by (N := ["_law_pen_here", "_law_many", "_law_left", "_law_k"]) (sc := defScope sLNames) (by decide +kernel)) (fun _ _ _ _ _ => pg_name (i := 3) cLNames'.nd rfl (Or.inl rfl))
        (fun _ _ _ _ _ => pts_nil)
        (fun _ _ _ _ _ => pbm PySem.F.plainAttrs_list PySem.F.slot_list_pop PySem.F.type_list_pop mt_popAt (pv 2) (pa_cons (pe_call (okDraw T) hr rfl (T.g 18) (T.f 22).kp (bLDraw T) .nil pass0 (pa_cons (pv 0) (pa_cons (pe_callB clen (by rfl) (T.fr 34) PySem.boot_len (pa_cons (pv 2) pa_nil)) pa_nil))) pa_nil))))))), ?_⟩)
  · obtain ⟨_, _, _, _, rfl, _⟩ := h
    rfl
  obtain ⟨p, c, n, j, rfl, hp, hn, hj, hQ⟩ := h
  have hz := sizeLine_eq
  refine ⟨by show 10 ≤ sizeLine; decide, fun L hL => ?_⟩
  have sL := Same.new (o := .lst [.str "a", .str "b", .str "ab", .str "k", .str "zzzzzzzz", .str "count", .str "text", .str "m", .str "x", .str "y"]) hL
  obtain ⟨x0, hx0⟩ := hp.at_
  have nL : L ≠ p := Ne.symm (ne_of_none hx0 hL)
  refine ⟨_, rfl, (j : Int), rfl, by omega, by omega, fun D hD => ?_⟩
  have en : ((j : Int)).toNat = j := by omega
  rw [en]
  have hall : ∀ u ∈ [V.str "a", .str "b", .str "ab", .str "k", .str "zzzzzzzz", .str "count", .str "text", .str "m", .str "x", .str "y"], ∃ z : Str, u = .str z ∧ PyData.strOk z = true := by
    intro u hu
    simp only [List.mem_cons, List.not_mem_nil, or_false] at hu
    rcases hu with rfl | rfl | rfl | rfl | rfl | rfl | rfl | rfl | rfl | rfl <;> exact ⟨_, rfl, by decide +kernel⟩
  have h1L : upd H L (.lst [.str "a", .str "b", .str "ab", .str "k", .str "zzzzzzzz", .str "count", .str "text", .str "m", .str "x", .str "y"]) L = some (.lst [.str "a", .str "b", .str "ab", .str "k", .str "zzzzzzzz", .str "count", .str "text", .str "m", .str "x", .str "y"]) := upd_same
  have hp1 := hp.same sL
  have h10 : [V.str "a", .str "b", .str "ab", .str "k", .str "zzzzzzzz", .str "count", .str "text", .str "m", .str "x", .str "y"].length = 10 := rfl
  obtain ⟨x2, hx2⟩ := hp.cell
  have ncL : c ≠ L := ne_of_none hx2 hL
  have ncD : c ≠ D := ne_of_none (sL _ _ hx2) hD
  generalize [V.str "a", .str "b", .str "ab", .str "k", .str "zzzzzzzz", .str "count", .str "text", .str "m", .str "x", .str "y"] = lits at *
  have nDL : D ≠ L := Ne.symm (ne_of_none h1L hD)
  obtain ⟨x1, hx1⟩ := hp1.at_
  have nDp : D ≠ p := Ne.symm (ne_of_none hx1 hD)
  have hDH : H D = none := none_of sL hD
  have b1 : But p H (upd (upd H L (.lst lits)) D (.lst [])) := (But.of sL).trans (But.of (Same.new hD))
  refine lc_inv (n := j) (fun i acc H3 => ∃ us, H3 L = some (.lst us) ∧ us.length + i = 10 ∧ (∀ u ∈ us, ∃ z : Str, u = .str z ∧ PyData.strOk z = true) ∧ (∀ u ∈ acc, ∃ z : Str, u = .str z ∧ PyData.strOk z = true) ∧ acc.length = i ∧ H3 D = some (.lst acc) ∧ Pen H3 p c (n + i) ∧ But p H H3)
    ⟨lits, by rw [upd_ne (Ne.symm nDL)]; exact h1L, by rw [h10], hall, (fun u hu => nomatch hu), rfl, upd_same, hp1.same (Same.new hD), b1⟩ (by omega) (fun i acc H3 ⟨us, _, _, _, _, h, _⟩ => by omega) (fun i acc H3 _ => ⟨fun h => h, fun h => h⟩) ?_ ?_
  · rintro i acc y H2 H3 Fin Skp hi ⟨us, hL2, hul, hus, hacc, hal, hD2, hp2, b2⟩ hy fin skp
    obtain ⟨rfl, rfl⟩ := hy
    have hpos : 0 < us.length := by omega
    refine ⟨rfl, _, rfl, .inl ⟨rfl, us, .inl (.inl hL2)⟩, _, rfl, _, rfl, L, us, rfl, .inl (.inl (.inl hL2)), p, c, n + i, _, rfl, hp2, by omega, by omega, by omega, fun r H4 h0 h1 b3 hp4 => ?_⟩
    obtain ⟨k, rfl⟩ := Int.eq_ofNat_of_zero_le h0
    have hk : k < us.length := by omega
    have hL4 := b3 _ _ nL hL2
    have hD4 := b3 _ _ nDp hD2
    obtain ⟨z, ez, hz2⟩ := hus _ (List.getElem_mem hk)
    refine ⟨L, us, _, k, us[k], rfl, rfl, hL4, by omega, by omega, seq_nat hk, List.getElem?_eq_getElem hk, fin _ _ (by rw [upd_ne nDL]; exact hD4) ⟨us.eraseIdx k, ?_, ?_, ?_, ?_, ?_, upd_same, ?_, ?_⟩⟩
    · rw [upd_ne (Ne.symm nDL)]; exact upd_same
    · rw [List.length_eraseIdx_of_lt hk]; omega
    · exact fun u hu => hus u (List.mem_of_mem_eraseIdx hu)
    · intro u hu
      rcases List.mem_append.mp hu with hu | hu
      · exact hacc u hu
      · rw [List.mem_singleton.mp hu]; exact ⟨z, ez, hz2⟩
    · rw [List.length_append, List.length_singleton, hal]
    · obtain ⟨kk, bb, nn, q1, q2, q3, q4⟩ := hp4
      exact ⟨kk, bb, nn, by rw [upd_ne (Ne.symm nDp), upd_ne (Ne.symm nL)]; exact q1, by rw [upd_ne ncD, upd_ne ncL]; exact q2, q3, q4⟩
    · exact fun b o hb ho => by
        have hbL : b ≠ L := ne_of_none ho hL
        have hbD : b ≠ D := ne_of_none ho hDH
        rw [upd_ne hbD, upd_ne hbL]
        exact b3 _ _ hb (b2 _ _ hb ho)
  · rintro acc H3 ⟨us, hL3, _, _, hacc, hal, hD3, hp3, b3⟩
    have hks : ∃ ks : List Str, acc = ks.map V.str ∧ ∀ z ∈ ks, PyData.strOk z = true := by
      clear hal hD3
      induction acc with
      | nil => exact ⟨[], rfl, fun z h => nomatch h⟩
      | cons u acc ih =>
        obtain ⟨ks, e, h⟩ := ih fun u hu => hacc u (List.mem_cons_of_mem _ hu)
        obtain ⟨z, ez, hz2⟩ := hacc u List.mem_cons_self
        exact ⟨z :: ks, by rw [ez, e]; rfl, fun z' hz' => by
          rcases List.mem_cons.mp hz' with e | e
          · rw [e]; exact hz2
          · exact h z' e⟩
    obtain ⟨ks, e, h⟩ := hks
    subst e
    exact hQ D ks H3 b3 hDH (hp3.mono (by omega)) hD3 (by simpa using hal) h
theorem ints_mem {v : V} {xs : List Int} (h : v ∈ xs.map V.int) : ∃ i, v = .int i := by
  obtain ⟨i, _, e⟩ := List.mem_map.mp h
  exact ⟨i, e.symm⟩
def spVal : Sp := fun vs H Q _ => ∃ p c n d, ∃ ks : List Str, ∃ hi wy : Int, vs = [.ref p, .ref d, .int hi, .int wy] ∧ Pen H p c n ∧ n + 12 ≤ 100000 ∧ H d = some (.lst (ks.map V.str)) ∧ d ≠ p ∧ 0 < ks.length ∧ ks.length ≤ 64 ∧ (∀ s ∈ ks, PyData.strOk s = true) ∧ 0 ≤ hi ∧ 0 ≤ wy ∧ wy < 5 ∧
  ∀ t x H', But p H H' → Pen H' p c (n + 12) → Vat H' (.ref t) x → Q (.ref t) H'
theorem okVal (T : Tx K mg) : FO P w K mg base 3 dLVal ["_law_pen_here", "_law_names_here", "_law_high", "_law_way"] spVal := by
  refine FunD.ok (T.f 25) cLVal (fun vs H Q E h => ?_) (fun cdv A outer s H vs Q E hr h => ⟨_, PSs.nox (
    (pss_cons (ps_asg (pe_ix ixL (pv 1) (pe_call (okDraw T) (hr.mono (by decide)) rfl (T.g 18) (T.f 22).kp (bLDraw T) .nil pass0 (pa_cons (pv 0) (pa_cons (pe_callB clen (by rfl) (T.fr 34) PySem.boot_len (pa_cons (pv 1) pa_nil)) pa_nil))) (fun _ _ => rfl)) (pg_name (i := 4) cLVal.nd rfl (Or.inl rfl)))
    (pss_cons (ps_par (i := 5) (j := 6) rfl cLVal.nd rfl rfl (by decide) rfl rfl (pa_cons (pe_call (okNum T) hr rfl (T.g 19) (T.f 23).kp (bLNum T) .nil pass0 (pa_cons (pv 0) (pa_cons (pv 2) pa_nil))) (pa_cons (pe_call (okNum T) hr rfl (T.g 19) (T.f 23).kp (bLNum T) .nil pass0 (pa_cons (pv 0) (pa_cons (pv 2) pa_nil))) pa_nil)) (by rfl))
    (pss_cons (ps_asg (pe_callB (call_max2 rfl) (by rfl) (T.fr 48) (by decide +kernel) (pa_cons (pe_op op_sub pe_int (pv 2)) (pa_cons (pe_callB (call_min2 rfl) (by rfl) (T.fr 47) (by decide +kernel) (pa_cons (pv 2) (pa_cons (pe_op op_sub (pe_op op_add (pv 6) (pe_call (okDraw T) (hr.mono (by decide)) rfl (T.g 18) (T.f 22).kp (bLDraw T) .nil pass0 (pa_cons (pv 0) (pa_cons pe_int pa_nil)))) pe_int) pa_nil))) pa_nil))) (pg_name (i := 7) cLVal.nd rfl (Or.inl rfl)))
    (pss_cons (ps_asg (pe_call (okDraw T) (hr.mono (by decide)) rfl (T.g 18) (T.f 22).kp (bLDraw T) .nil pass0 (pa_cons (pv 0) (pa_cons pe_int pa_nil))) (pg_name (i := 8) cLVal.nd rfl (Or.inl rfl)))
    (pss_one (ps_ret (pe_tup (pa_cons (pv 4) (pa_cons (pe_ix ixL (pe_lst (pa_cons (pv 5) (pa_cons (pv 6) (pa_cons (pe_op op_sub pe_int (pv 6)) (pa_cons (pv 7) (pa_cons (pv 5) pa_nil)))))) (pv 3) (fun _ _ => rfl)) (pa_cons (pe_ix ixL (pe_lst (pa_cons (pv 6) (pa_cons (pv 6) (pa_cons (pv 6) (pa_cons (pv 6) (pa_cons (pv 8) pa_nil)))))) (pv 3) (fun _ _ => rfl)) pa_nil))))))))))), ?_⟩)
  · obtain ⟨_, _, _, _, _, _, _, rfl, _⟩ := h
    rfl
  obtain ⟨p, c, n, d, ks, hi, wy, rfl, hp, hn, hd, hdp, hk0, hk1, hks, h0, hw0, hw1, hQ⟩ := h
  have hz := sizeLine_eq
  refine ⟨_, rfl, _, rfl, _, rfl, d, _, rfl, .inl (.inl (.inl hd)), p, c, n, _, rfl, hp, by omega, by rw [List.length_map]; omega, by rw [List.length_map]; omega, fun r H1 hr0 hr1 b1 hp1 => ?_⟩
  have hd1 := b1 _ _ hdp hd
  obtain ⟨v, hv, hm⟩ := atI_mem hr0 hr1
  obtain ⟨kind, hkm, rfl⟩ := List.mem_map.mp hm
  refine ⟨d, _, _, _, rfl, rfl, .inl (.inl hd1), hv, ?_⟩
  refine ⟨_, rfl, _, rfl, p, c, n + 1, hi, rfl, hp1, by omega, h0, fun own H2 b2 hp2 => ⟨_, rfl, _, rfl, p, c, n + 4, hi, rfl, hp2, by omega, h0, fun meas H4 b3 hp4 => ⟨_, _, rfl, ?_⟩⟩⟩
  have b4 := (b1.trans b2).trans b3
  refine ⟨_, rfl, _, _, rfl, rfl, _, rfl, _, rfl, _, rfl, p, c, n + 7, 5, rfl, hp4, by omega, by decide, by decide, fun r5 H5 _ _ b5 hp5 => ⟨_, _, rfl, rfl, _, _, rfl, rfl, _, _, rfl, _, _, rfl, ?_⟩⟩
  refine ⟨_, rfl, p, c, n + 8, 3, rfl, hp5, by omega, by decide, by decide, fun few H6 _ _ b6 hp6 => ?_⟩
  generalize (if (if meas + r5 - 2 < hi then meas + r5 - 2 else hi) > 0 - hi then (if meas + r5 - 2 < hi then meas + r5 - 2 else hi) else 0 - hi) = near
  have b46 := (b4.trans b5).trans b6
  refine ⟨_, rfl, _, rfl, _, rfl, _, rfl, _, _, rfl, rfl, _, rfl, _, rfl, by show 5 ≤ sizeLine; decide, fun q1 hq1 => ?_⟩
  obtain ⟨v1, hv1, hm1⟩ := atI_mem (xs := [own, meas, 0 - meas, near, own].map V.int) hw0 hw1
  obtain ⟨a1, rfl⟩ := ints_mem hm1
  have sq1 := Same.new (o := .lst ([own, meas, 0 - meas, near, own].map V.int)) hq1
  refine ⟨_, rfl, q1, _, _, _, rfl, rfl, .inl (.inl upd_same), hv1, _, rfl, _, rfl, _, rfl, _, rfl, _, rfl, by show 5 ≤ sizeLine; decide, fun q2 hq2 => ?_⟩
  obtain ⟨v2, hv2, hm2⟩ := atI_mem (xs := [meas, meas, meas, meas, few].map V.int) hw0 hw1
  obtain ⟨a2, rfl⟩ := ints_mem hm2
  have sq2 := Same.new (o := .lst ([meas, meas, meas, meas, few].map V.int)) hq2
  refine ⟨_, rfl, q2, _, _, _, rfl, rfl, .inl (.inl upd_same), hv2, by show 3 ≤ sizeLine; decide, fun t ht => ?_⟩
  have s3 := (sq1.trans sq2).trans (Same.new (o := .tup [.str kind, .int a1, .int a2]) ht)
  exact hQ t ⟨kind, a1, a2⟩ _ (b46.trans (But.of s3)) ((hp6.same s3).mono (by omega)) ⟨t, rfl, upd_same, hks _ hkm⟩
end
end K91
set_option Elab.async false
set_option linter.all false
set_option maxRecDepth 100000
set_option maxHeartbeats 2000000
/-! The law's helpers: _law_bag. -/
namespace K91
open PySem PySem.Spec PyProof.Rows L2 GenW
open K91M
def keyOf (x : VV) : List Key := [.inr x.k, .inl x.o, .inl x.m]
theorem keyOf_inj {x y : VV} (h : keyOf x = keyOf y) : x = y := by
  obtain ⟨a, b, c⟩ := x
  obtain ⟨a', b', c'⟩ := y
  simp only [keyOf, List.cons.injEq, Sum.inl.injEq, Sum.inr.injEq, and_true] at h
  obtain ⟨h1, h2, h3⟩ := h
  rw [h1, h2, h3]
theorem put_keys {kvs : List (List Key × V)} {l : List VV} {x : VV} {v : V} (h : kvs.map (·.1) = l.map keyOf) (hn : l.Nodup) : ∃ l' : List VV, (putK kvs (keyOf x) v).map (·.1) = l'.map keyOf ∧ l'.Nodup ∧ l'.length ≤ l.length + 1 ∧ ∀ y ∈ l', y ∈ l ∨ y = x := by
  unfold putK
  split
  · refine ⟨l, ?_, hn, by omega, fun y hy => .inl hy⟩
    rw [List.map_map, ← h]
    refine List.map_congr_left fun kv _ => ?_
    simp only [Function.comp]
    split <;> rfl
  · rename_i hno
    have hx : x ∉ l := fun hm => hno (by
      rw [List.any_eq_true]
      have : keyOf x ∈ kvs.map (·.1) := by rw [h]; exact List.mem_map.mpr ⟨x, hm, rfl⟩
      obtain ⟨kv, h1, h2⟩ := List.mem_map.mp this
      exact ⟨kv, h1, by simpa using h2⟩)
    refine ⟨l ++ [x], by rw [List.map_append, List.map_append, h]; rfl, ?_, by simp, fun y hy => ?_⟩
    · rw [List.nodup_append]
      exact ⟨hn, by simp, fun a ha b hb e => hx (by rw [← List.mem_singleton.mp hb, ← e]; exact ha)⟩
    · rcases List.mem_append.mp hy with hy | hy
      · exact .inl hy
      · exact .inr (List.mem_singleton.mp hy)
theorem keys_vs {H : Hp} : ∀ {kvs : List (List Key × V)} {bs : List Addr} {l : List VV}, IsKeys H kvs bs → kvs.map (·.1) = l.map keyOf → (∀ x ∈ l, PyData.strOk x.k = true) → Vs H (bs.map V.ref) l
  | [], _, [], .nil, _, _ => .nil
  | [], _, _ :: _, .nil, e, _ => by simp at e
  | kv :: kvs, _, [], .cons _ _, e, _ => by simp at e
  | kv :: kvs, _, x :: l, .cons r t, e, ok => by
    rw [List.map_cons, List.map_cons] at e
    injection e with e1 e2
    have r' : H _ = some (HO.tup (kv.1.map kV)) := r
    rw [e1] at r'
    exact .cons ⟨_, rfl, r', ok x List.mem_cons_self⟩ (keys_vs t e2 fun y hy => ok y (List.mem_cons_of_mem _ hy))
def spBag : Sp := fun vs H Q _ => ∃ p c n, ∃ m : Nat, vs = [.ref p, .int (m : Int)] ∧ m ≤ 7 ∧ Pen H p c n ∧ n + 110 ≤ 100000 ∧ ∀ D us l H', But p H H' → Pen H' p c (n + 110) → H D = none → H' D = some (.lst us) → Vs H' us l → l.Nodup → l.length ≤ m → Q (.ref D) H'
section
variable {P : Program} {w : World} {K : PySem.W.Frag} {mg : Str → Option Value} {base : Heap}
theorem okBag (T : Tx K mg) : FO P w K mg base 4 dLBag ["_law_pen_here", "_law_most"] spBag := by
  refine FunD.ok (T.f 26) cLBag (fun vs H Q E h => ?_) (fun cdv A outer s H vs Q E hr h => ⟨_, PSs.nox (
    (pss_cons (ps_asg (pe_call (okNames T) (hr.mono (by decide)) rfl (T.g 20) (T.f 24).kp (bLNames T) .nil pass0 (pa_cons (pv 0) (pa_cons (pe_op op_add pe_int (pe_call (okDraw T) (hr.mono (by decide)) rfl (T.g 18) (T.f 22).kp (bLDraw T) .nil pass0 (pa_cons (pv 0) (pa_cons pe_int pa_nil)))) pa_nil))) (pg_name (i := 2) cLBag.nd rfl (Or.inl rfl)))
    (pss_cons (ps_asg (pe_ix ixL (pe_lst (pa_cons pe_int (pa_cons pe_int (pa_cons pe_int (pa_cons pe_int (pa_cons (pe_op op_sub (pe_op op_pow pe_int pe_int) pe_int) pa_nil)))))) (pe_call (okDraw T) (hr.mono (by decide)) rfl (T.g 18) (T.f 22).kp (bLDraw T) .nil pass0 (pa_cons (pv 0) (pa_cons pe_int pa_nil))) (fun _ _ => rfl)) (pg_name (i := 3) cLBag.nd rfl (Or.inl rfl)))
    (pss_cons (ps_asg (pe_call (okDraw T) (hr.mono (by decide)) rfl (T.g 18) (T.f 22).kp (bLDraw T) .nil pass0 (pa_cons (pv 0) (pa_cons pe_int pa_nil))) (pg_name (i := 4) cLBag.nd rfl (Or.inl rfl)))
    (pss_cons (ps_asg pe_dnewT (pg_name (i := 5) cLBag.nd rfl (Or.inl rfl)))
    (pss_cons (ps_for PassesOwn.never rfl (pi_range1 rfl (T.fr 35) (pa_cons (pe_ix ixL (pe_lst (pa_cons (pe_call (okDraw T) (hr.mono (by decide)) rfl (T.g 18) (T.f 22).kp (bLDraw T) .nil pass0 (pa_cons (pv 0) (pa_cons (pe_op op_add (pv 1) pe_int) pa_nil)))
          (pa_cons (pe_call (okDraw T) (hr.mono (by decide)) rfl (T.g 18) (T.f 22).kp (bLDraw T) .nil pass0 (pa_cons (pv 0) (pa_cons (pe_op op_add (pe_callB (call_min2 rfl) (by rfl) (T.fr 47) (by decide +kernel) (pa_cons (pv 1) (pa_cons pe_int pa_nil))) pe_int) pa_nil))) (pa_cons (pv 1) pa_nil))))
          (pe_call (okDraw T) (hr.mono (by decide)) rfl (T.g 18) (T.f 22).kp (bLDraw T) .nil pass0 (pa_cons (pv 0) (pa_cons pe_int pa_nil))) (fun _ _ => rfl)) pa_nil)) (pg_name (i := 6) cLBag.nd rfl (Or.inl rfl))
      (pss_cons (ps_asg (pe_call (okVal T) hr rfl (T.g 21) (T.f 25).kp (bLVal T) .nil pass0 (pa_cons (pv 0) (pa_cons (pv 2) (pa_cons (pv 3) (pa_cons (pe_ifExp (pt_cmpR op_lt (pv 4) pe_int (nomark _)) (pv 4) (pe_call (okDraw T) (hr.mono (by decide)) rfl (T.g 18) (T.f 22).kp (bLDraw T) .nil pass0 (pa_cons (pv 0) (pa_cons pe_int pa_nil)))) pa_nil))))) (pg_name (i := 7) cLBag.nd rfl (Or.inl rfl)))
      (pss_one (ps_dput (room_1 hr) (pv 5) (pv 7) pe_bl rfl))))
    (pss_one (ps_ret (pe_callTy (call_list_dT rfl) (by rfl) (T.fr 44) (by decide +kernel) (pa_cons (pv 5) pa_nil)))))))))), ?_⟩)
  · obtain ⟨_, _, _, _, rfl, _⟩ := h
    rfl
  obtain ⟨p, c, n, m, rfl, hm, hp, hn, hQ⟩ := h
  have hz := sizeLine_eq
  refine ⟨_, rfl, _, rfl, p, c, n, 4, rfl, hp, by omega, by decide, by decide, fun r1 H1 h1 h1' b1 hp1 => ?_⟩
  obtain ⟨k1, rfl⟩ := Int.eq_ofNat_of_zero_le h1
  refine ⟨_, _, rfl, rfl, p, c, n + 1, 1 + k1, by show [V.ref p, V.int (1 + (k1 : Int))] = _; rw [show (1 : Int) + (k1 : Int) = ((1 + k1 : Nat) : Int) by omega], hp1, by omega, by omega, fun N ks H2 b2 hN1 hp2 hN2 hks hok => ?_⟩
  refine ⟨_, _, rfl, rfl, ⟨by decide, by decide, by decide⟩, _, _, rfl, rfl, by show 5 ≤ sizeLine; decide, fun q3 hq3 => ?_⟩
  have s3 := Same.new (o := .lst ([2, 4, 9, 40, (10 : Int) ^ Int.toNat 15 - 1].map V.int)) hq3
  have e3 : upd H2 q3 (.lst ([2, 4, 9, 40, (10 : Int) ^ Int.toNat 15 - 1].map V.int)) q3 = some (.lst ([2, 4, 9, 40, (10 : Int) ^ Int.toNat 15 - 1].map V.int)) := upd_same
  obtain ⟨x2, hx2⟩ := hp2.at_
  have nq3 : q3 ≠ p := Ne.symm (ne_of_none hx2 hq3)
  have hp3 := hp2.same s3
  have hN3 := s3 _ _ hN2
  refine ⟨_, rfl, p, c, n + 5, 5, rfl, hp3, by omega, by decide, by decide, fun r4 H4 h4 h4' b4 hp4 => ?_⟩
  obtain ⟨v, hv, hvm⟩ := atI_mem (xs := [2, 4, 9, 40, (10 : Int) ^ Int.toNat 15 - 1].map V.int) h4 h4'
  obtain ⟨hi, him, rfl⟩ := List.mem_map.mp hvm
  have hi0 : 0 ≤ hi := by
    simp only [List.mem_cons, List.not_mem_nil, or_false] at him
    rcases him with rfl | rfl | rfl | rfl | rfl <;> decide
  obtain ⟨x1, hx1⟩ := hp1.at_
  have nN : N ≠ p := fun e => by rw [e, hx1] at hN1; cases hN1
  have hN4 := b4 _ _ nN hN3
  have b04 := ((b1.trans b2).trans (But.of s3)).trans b4
  refine ⟨q3, _, _, _, rfl, rfl, .inl (.inl (b4 _ _ nq3 e3)), hv, ?_⟩
  refine ⟨_, rfl, p, c, n + 6, 6, rfl, hp4, by omega, by decide, by decide, fun way H5 h5 h5' b5 hp5 => ?_⟩
  have hN5 := b5 _ _ nN hN4
  have b05 := b04.trans b5
  intro F hF
  have s6 := Same.new (o := .dT []) hF
  obtain ⟨x5, hx5⟩ := hp5.at_
  have nF : F ≠ p := Ne.symm (ne_of_none hx5 hF)
  have nNF : N ≠ F := ne_of_none hN5 hF
  have hF6 : upd H5 F (.dT []) F = some (.dT []) := upd_same
  have hp6 := hp5.same s6
  have hN6 := s6 _ _ hN5
  have b06 := b05.trans (But.of s6)
  generalize upd H5 F (.dT []) = H6 at *
  refine ⟨_, rfl, _, rfl, _, _, rfl, rfl, p, c, n + 7, _, rfl, hp6, by omega, by show 0 < (m : Int) + 1; omega, by show (m : Int) + 1 < 1073741824; omega, fun r7 H7 h7 h7' b7 hp7 => ?_⟩
  refine ⟨_, rfl, _, rfl, _, _, rfl, _, _, rfl, rfl, p, c, n + 8, _, rfl, hp7, by omega, by show 0 < (if (6 : Int) < (m : Int) then 6 else (m : Int)) + 1; split <;> omega, by show (if (6 : Int) < (m : Int) then 6 else (m : Int)) + 1 < 1073741824; split <;> omega, fun r8 H8 h8 h8' b8 hp8 => ?_⟩
  have h8'' : r8 ≤ (m : Int) := by
    have h8' : r8 < (if (6 : Int) < (m : Int) then 6 else (m : Int)) + 1 := h8'
    split at h8' <;> omega
  have h7' : r7 < (m : Int) + 1 := h7'
  refine ⟨_, rfl, by show 3 ≤ sizeLine; decide, fun q9 hq9 => ?_⟩
  have s9 := Same.new (o := .lst ([r7, r8, (m : Int)].map V.int)) hq9
  have e9 : upd H8 q9 (.lst ([r7, r8, (m : Int)].map V.int)) q9 = some (.lst ([r7, r8, (m : Int)].map V.int)) := upd_same
  obtain ⟨x8, hx8⟩ := hp8.at_
  have nq9 : q9 ≠ p := Ne.symm (ne_of_none hx8 hq9)
  have hp9 := hp8.same s9
  have b69 := (b7.trans b8).trans (But.of s9)
  refine ⟨_, rfl, p, c, n + 9, 3, rfl, hp9, by omega, by decide, by decide, fun r10 H10 h10 h10' b10 hp10 => ?_⟩
  obtain ⟨v, hv9, hvm⟩ := atI_mem (xs := [r7, r8, (m : Int)].map V.int) h10 h10'
  obtain ⟨cnt, hcm, rfl⟩ := List.mem_map.mp hvm
  have hc : 0 ≤ cnt ∧ cnt ≤ (m : Int) := by
    simp only [List.mem_cons, List.not_mem_nil, or_false] at hcm
    rcases hcm with rfl | rfl | rfl <;> constructor <;> omega
  obtain ⟨j, rfl⟩ := Int.eq_ofNat_of_zero_le hc.1
  have b610 := b69.trans b10
  refine ⟨q9, _, _, _, rfl, rfl, .inl (.inl (b10 _ _ nq9 e9)), hv9, (j : Int), rfl, by omega, by omega, ?_⟩
  have en : ((j : Int)).toNat = j := by omega
  rw [en]
  have b010 := b06.trans b610
  have hF10 := b610 _ _ nF hF6
  have hN10 := b610 _ _ nN hN6
  let IV : Nat → Hp → Prop := fun i H3 => ∃ (kvs : List (List Key × V)) (l : List VV), H3 F = some (.dT kvs) ∧ kvs.map (·.1) = l.map keyOf ∧ (∀ x ∈ l, PyData.strOk x.k = true) ∧ l.Nodup ∧ l.length ≤ i ∧ i ≤ j ∧ Pen H3 p c (n + 10 + 13 * i) ∧ H3 N = some (.lst (ks.map V.str)) ∧ But p H H3
  refine for_rg (fun i σ H3 => (∃ b cc, σ = [some (.ref p), some (.int (m : Int)), some (.ref N), some (.int hi), some (.int way), some (.ref F), b, cc]) ∧ IV i H3)
    ⟨⟨none, none, rfl⟩, [], [], hF10, rfl, (fun x hx => nomatch hx), List.nodup_nil, Nat.le_refl _, Nat.zero_le _, hp10, hN10, b010⟩ ?_ ?_
  · rintro i σ H3 hij ⟨⟨b, cc, rfl⟩, kvs, l, hF3, hkl, hlo, hln, hll, _, hp3, hN3, b3⟩
    have fin : ∀ (Hy Hz : Hp) (t : Addr) (x : VV), But p H3 Hy → But p Hy Hz → Pen Hz p c (n + 10 + 13 * (i + 1)) → Vat Hz (.ref t) x → ∃ H', DPut Hz F (.ref t) (.bl true) H' ∧ IV (i + 1) H' := by
      intro Hy Hz t x by1 by2 hpz hv
      have hFz := by2 _ _ nF (by1 _ _ nF hF3)
      obtain ⟨t', e, ht, hk⟩ := id hv
      cases e
      have hkl' : kvs.length = l.length := by have := congrArg List.length hkl; simpa using this
      obtain ⟨l', g1, g2, g3, g4⟩ := put_keys (x := x) (v := .bl true) hkl hln
      refine ⟨_, DPut.t (k := keyOf x) hFz ht (by omega), _, l', upd_same, g1, ?_, g2, by omega, by omega, ?_, ?_, ?_⟩
      · intro y hy
        rcases g4 y hy with hy | hy
        · exact hlo y hy
        · rw [hy]; exact hk
      · obtain ⟨kk, bb, nn, q1, q2, q3, q4⟩ := hpz
        have ncF : c ≠ F := fun e => by rw [e, hFz] at q2; cases q2
        exact ⟨kk, bb, nn, by rw [upd_ne (Ne.symm nF)]; exact q1, by rw [upd_ne ncF]; exact q2, q3, q4⟩
      · rw [upd_ne nNF]; exact by2 _ _ nN (by1 _ _ nN hN3)
      · intro b o hb ho
        have hbF : b ≠ F := fun e => by
          have hz1 := b05 _ _ hb ho
          rw [e, hF] at hz1; cases hz1
        rw [upd_ne hbF]
        exact by2 _ _ hb (by1 _ _ hb (b3 _ _ hb ho))
    refine ⟨_, rfl, _, rfl, _, rfl, _, rfl, _, _, rfl, rfl, _, rfl, ite2 (fun hw => ?_) fun hw => ?_⟩
    · have hw' : way < 5 := by simpa using hw
      refine ⟨_, rfl, p, c, n + 10 + 13 * i, N, ks, hi, way, rfl, hp3, by omega, hN3, nN, by omega, by omega, hok, hi0, h5, hw', fun t x Hz bz hpz hv => ?_⟩
      obtain ⟨H', d1, d2⟩ := fin H3 Hz t x But.refl bz (hpz.mono (by omega)) hv
      exact ⟨_, rfl, _, rfl, F, H', rfl, d1, ⟨_, _, rfl⟩, d2⟩
    · refine ⟨_, rfl, p, c, n + 10 + 13 * i, 5, rfl, hp3, by omega, by decide, by decide, fun w Hy hw0 hw5 hby hpy => ?_⟩
      refine ⟨p, c, n + 10 + 13 * i + 1, N, ks, hi, w, rfl, hpy, by omega, hby _ _ nN hN3, nN, by omega, by omega, hok, hi0, hw0, hw5, fun t x Hz bz hpz hv => ?_⟩
      obtain ⟨H', d1, d2⟩ := fin Hy Hz t x hby bz (hpz.mono (by omega)) hv
      exact ⟨_, rfl, _, rfl, F, H', rfl, d1, ⟨_, _, rfl⟩, d2⟩
  · rintro σ H3 ⟨⟨b, cc, rfl⟩, kvs, l, hF3, hkl, hlo, hln, hll, _, hp3, hN3, b3⟩
    refine ⟨_, rfl, F, kvs, rfl, .inl hF3, fun D bs hD hbs => ?_⟩
    have sD := Same.new (o := .lst (bs.map V.ref)) hD
    have hDH : H D = none := by
      cases hz1 : H D with
      | none => rfl
      | some o =>
        obtain ⟨x3, hx3⟩ := hp3.at_
        have nDp : D ≠ p := Ne.symm (ne_of_none hx3 hD)
        rw [b3 _ _ nDp hz1] at hD; cases hD
    exact hQ D (bs.map V.ref) l _ (b3.trans (But.of sD)) ((hp3.same sD).mono (by omega)) hDH upd_same ((keys_vs hbs hkl hlo).same sD) hln (by omega)
end
end K91
set_option Elab.async false
set_option linter.all false
set_option maxRecDepth 100000
set_option maxHeartbeats 2000000
/-! The law's helpers: _law_marks. -/
namespace K91
open PySem PySem.Spec PyProof.Rows L2 GenW
open K91M
/-- a list or a tuple of values, not the pen -/
def RowP (K : PySem.W.Frag) (H : Hp) (p : Addr) (v : V) (l : List VV) : Prop := ∃ a vs, v = .ref a ∧ a ≠ p ∧ SqB K H a vs ∧ Vs H vs l
theorem RowP.row {K : PySem.W.Frag} {H : Hp} {p : Addr} {v : V} {l : List VV} (h : RowP K H p v l) : RowR K H v l := let ⟨a, vs, e, _, q, r⟩ := h; ⟨a, vs, e, q, r⟩
theorem SqB.but {K : PySem.W.Frag} {H H' : Hp} {p a : Addr} {vs : List V} (h : SqB K H a vs) (hn : a ≠ p) (b : But p H H') : SqB K H' a vs := by
  rcases h with h | h
  · rcases h with (h | ⟨o, h⟩) | h
    · exact .inl (.inl (.inl (b _ _ hn h)))
    · exact .inl (.inl (.inr ⟨o, b _ _ hn h⟩))
    · exact .inl (.inr h)
  · rcases h with (h | ⟨o, h⟩) | h
    · exact .inr (.inl (.inl (b _ _ hn h)))
    · exact .inr (.inl (.inr ⟨o, b _ _ hn h⟩))
    · exact .inr (.inr h)
theorem RowP.but {K : PySem.W.Frag} {H H' : Hp} {p c : Addr} {n : Nat} {v : V} {l : List VV} (h : RowP K H p v l) (b : But p H H') (hp : Pen H p c n) : RowP K H' p v l :=
  let ⟨a, vs, e, hn, q, r⟩ := h
  ⟨a, vs, e, hn, q.but hn b, r.tups (hp.tups b)⟩
theorem RowP.same {K : PySem.W.Frag} {H H' : Hp} {p : Addr} {v : V} {l : List VV} (h : RowP K H p v l) (s : Same H H') : RowP K H' p v l :=
  let ⟨a, vs, e, hn, q, r⟩ := h
  ⟨a, vs, e, hn, q.same s, r.tups (Tups.of s)⟩
def spMarks (K : PySem.W.Frag) : Sp := fun vs H Q _ => ∃ p c n a us, ∃ l : List VV, vs = [.ref p, .ref a] ∧ Pen H p c n ∧ n + 12 ≤ 100000 ∧ a ≠ p ∧ H a = some (.lst us) ∧ Vs H us l ∧ l.length ≤ 7 ∧ ∀ v cs H', But p H H' → Pen H' p c (n + 12) → RowP K H' p v cs → cs.length ≤ 6 → Q v H'
theorem cLMarks' : FnScope ["_law_pen_here", "_law_bag_here", "_law_some", "_law_k"] ["_law_pen_here", "_law_bag_here"] (defScope sLMarks) :=
  ⟨rfl, rfl, rfl, by decide +kernel, rfl, by decide +kernel, by decide +kernel⟩
theorem Vs.length' {H : Hp} {us : List V} {l : List VV} (h : Vs H us l) : us.length = l.length := Paired.length h
section
variable {P : Program} {w : World} {K : PySem.W.Frag} {mg : Str → Option Value} {base : Heap}
theorem okMarks (T : Tx K mg) : FO P w K mg base 2 dLMarks ["_law_pen_here", "_law_bag_here"] (spMarks K) := by
  refine FunD.ok (T.f 27) cLMarks' (fun vs H Q E h => ?_) (fun cdv A outer s H vs Q E hr h => ⟨_, PSs.nox (
    (pss_cons (ps_if (PW.pt (pw_or (pt_cmpR op_eq (pe_call (okDraw T) hr rfl (T.g 18) (T.f 22).kp (bLDraw T) .nil pass0 (pa_cons (pv 0) (pa_cons pe_int pa_nil))) pe_int (nomark _)) (pw_or1 (pt_cmpR (op_eqD (room_64 hr)) (pv 1) (pe_lst pa_nil) (nomark _)))))
      (pss_one (ps_ret (pe_tup pa_nil))) pss_nil)
    (pss_cons (ps_setLc (i := 2) (own := [("_law_k", 3)]) (g := gName 3) rfl cLMarks'.nd rfl rfl (by rfl) (pi_range1 rfl (T.fr 35) (pa_cons (pe_call (okDraw T) hr rfl (T.g 18) (T.f 22).kp (bLDraw T) .nil pass0 (pa_cons (pv 0) (pa_cons (pe_op op_add (pe_callB (call_min2 rfl) (by rfl) (T.fr 47) (by decide +kernel) (pa_cons (pe_callB clen (by rfl) (T.fr 34) PySem.boot_len (pa_cons (pv 1) pa_nil)) (pa_cons pe_int pa_nil))) pe_int) pa_nil))) pa_nil)) (blkOk_by (N := ["_law_pen_here", "_law_bag_here", "_law_some", "_law_k"]) (sc := defScope sLMarks) (by decide +kernel)) (fun _ _ _ _ _ => pg_name (i := 3) cLMarks'.nd rfl (Or.inl rfl))
        (fun _ _ _ _ _ => pts_nil)
        (fun _ _ _ _ _ => pe_ix ixL (pv 1) (pe_call (okDraw T) hr rfl (T.g 18) (T.f 22).kp (bLDraw T) .nil pass0 (pa_cons (pv 0) (pa_cons (pe_callB clen (by rfl) (T.fr 34) PySem.boot_len (pa_cons (pv 1) pa_nil)) pa_nil))) (fun _ _ => rfl)))
    (pss_one (ps_ret (pe_ix ixL (pe_lst (pa_cons (pv 2) (pa_cons (pe_tupleOf (by rfl) (T.fr 43) (pv 2)) pa_nil))) (pe_call (okDraw T) hr rfl (T.g 18) (T.f 22).kp (bLDraw T) .nil pass0 (pa_cons (pv 0) (pa_cons pe_int pa_nil))) (fun _ _ => rfl))))))), ?_⟩)
  · obtain ⟨_, _, _, _, _, _, rfl, _⟩ := h
    rfl
  obtain ⟨p, c, n, a, us, l, rfl, hp, hn, hap, ha, hu, hl, hQ⟩ := h
  have hz := sizeLine_eq
  have hul : us.length = l.length := hu.length
  refine ⟨_, rfl, p, c, n, 2, rfl, hp, by omega, by decide, by decide, fun r1 H1 _ _ b1 hp1 => ⟨rfl, _, rfl, ite2 (fun _ => iteT ?_) fun _ => ?_⟩⟩
  · refine ⟨by decide, fun t ht => ?_⟩
    have st := Same.new (o := .tup []) ht
    obtain ⟨x1, hx1⟩ := hp1.at_
    exact hQ _ [] _ (b1.trans (But.of st)) ((hp1.same st).mono (by omega)) ⟨t, [], rfl, Ne.symm (ne_of_none hx1 ht), .inr (.inl (.inl upd_same)), .nil⟩ (Nat.zero_le _)
  · have ha1 := b1 _ _ hap ha
    have hu1 := hu.tups (hp.tups b1)
    refine ⟨_, rfl, by decide, fun q hq => ⟨_, _, (hu1.tups (Tups.new hq)).dpl (by rw [upd_ne (ne_of_none ha1 hq)]; exact ha1), .lst (.inl (.inl upd_same)) .nil, listV_shaped hu1.ok, rfl, _, rfl, ?_⟩⟩
    rw [eqv_nil]
    have sq := Same.new (o := .lst []) hq
    have hp2 := hp1.same sq
    have b2 := b1.trans (But.of sq)
    have ha2 := sq _ _ ha1
    have hu2 := (hu1.same sq : Vs _ _ _)
    obtain ⟨x1, hx1⟩ := hp1.at_
    have nq : q ≠ p := Ne.symm (ne_of_none hx1 hq)
    refine ite2 (fun _ => ?_) fun hne => ?_
    · refine ⟨by decide, fun t ht => ?_⟩
      have st := Same.new (o := .tup []) ht
      obtain ⟨x2, hx2⟩ := hp2.at_
      exact hQ _ [] _ (b2.trans (But.of st)) ((hp2.same st).mono (by omega)) ⟨t, [], rfl, Ne.symm (ne_of_none hx2 ht), .inr (.inl (.inl upd_same)), .nil⟩ (Nat.zero_le _)
    generalize upd H1 q (.lst []) = H2 at *
    have hlne : l ≠ [] := by simpa using hne
    have hpos : 0 < l.length := List.length_pos_iff.mpr hlne
    refine ⟨_, rfl, _, rfl, a, us, rfl, .inl (.inl (.inl ha2)), _, _, rfl, _, _, rfl, rfl, p, c, n + 1, _, rfl, hp2, by omega, ?_, ?_, fun r3 H3 h3 h3' b3 hp3 => ?_⟩
    · show 0 < (if (6 : Int) < (us.length : Int) then 6 else (us.length : Int)) + 1; split <;> omega
    · show (if (6 : Int) < (us.length : Int) then 6 else (us.length : Int)) + 1 < 1073741824; split <;> omega
    have h3' : r3 < (if (6 : Int) < (us.length : Int) then 6 else (us.length : Int)) + 1 := h3'
    have h36 : r3 ≤ 6 := by split at h3' <;> omega
    obtain ⟨j, rfl⟩ := Int.eq_ofNat_of_zero_le h3
    have ha3 := b3 _ _ hap ha2
    have hu3 := hu2.tups (hp2.tups b3)
    refine ⟨(j : Int), rfl, by omega, by omega, fun D hD => ?_⟩
    have en : ((j : Int)).toNat = j := by omega
    rw [en]
    have sD := Same.new (o := .lst []) hD
    obtain ⟨x3, hx3⟩ := hp3.at_
    obtain ⟨x4, hx4⟩ := hp3.cell
    have nDp : D ≠ p := Ne.symm (ne_of_none hx3 hD)
    have nDc : c ≠ D := ne_of_none hx4 hD
    have nDa : a ≠ D := ne_of_none ha3 hD
    refine lc_inv (n := j) (fun i acc H4 => ∃ cs, Vs H4 acc cs ∧ cs.length = i ∧ H4 D = some (.lst acc) ∧ Pen H4 p c (n + 2 + i) ∧ But p H3 H4)
      ⟨[], .nil, rfl, upd_same, hp3.same sD, But.of sD⟩ (by omega) (fun i acc H4 ⟨cs, h1, h2, _⟩ => by rw [← h2]; exact Nat.le_of_eq (Vs.length' h1)) (fun i acc H4 _ => ⟨fun h => h, fun h => h⟩) ?_ ?_
    · rintro i acc y H4 H5 Fin Skp hi ⟨cs, hcs, hcl, hD4, hp4, b4⟩ hy fin skp
      obtain ⟨rfl, rfl⟩ := hy
      have ha4 := b4 _ _ hap ha3
      have hu4 := hu3.tups (hp3.tups b4)
      refine ⟨rfl, _, rfl, _, rfl, _, rfl, a, us, rfl, .inl (.inl (.inl ha4)), p, c, n + 2 + i, _, rfl, hp4, by omega, by omega, by omega, fun r H6 h6 h6' b6 hp6 => ?_⟩
      have ha6 := b6 _ _ hap ha4
      have hu6 := hu4.tups (hp4.tups b6)
      obtain ⟨v, hv, hvm⟩ := atI_mem h6 h6'
      obtain ⟨k, hk⟩ := List.mem_iff_getElem?.mp hvm
      obtain ⟨x, hx, vx⟩ := Pr.get hu6 hk
      refine ⟨a, us, _, v, rfl, rfl, .inl (.inl ha6), hv, fin _ _ (b6 _ _ nDp hD4) ?_⟩
      have hD6 := b6 _ _ nDp hD4
      have tD : Tups H6 (upd H6 D (.lst (acc ++ [v]))) := Tups.lst hD6
      refine ⟨cs ++ [x], Pr.append ((hcs.tups (hp4.tups b6)).tups tD) (.cons (vx.tups tD) .nil), by rw [List.length_append, List.length_singleton, hcl], upd_same, ?_, ?_⟩
      · obtain ⟨kk, bb, nn, q1, q2, q3, q4⟩ := hp6
        exact ⟨kk, bb, nn, by rw [upd_ne (Ne.symm nDp)]; exact q1, by rw [upd_ne nDc]; exact q2, q3, q4⟩
      · intro b o hb ho
        rw [upd_ne (ne_of_none ho hD)]
        exact b6 _ _ hb (b4 _ _ hb ho)
    · rintro acc H4 ⟨cs, hcs, hcl, hD4, hp4, b4⟩
      have b04 := (b2.trans b3).trans b4
      refine ⟨_, rfl, _, rfl, .inl ⟨D, acc, rfl, .inl (.inl hD4), fun t ht => ⟨by show 2 ≤ sizeLine; decide, fun q5 hq5 => ?_⟩⟩⟩
      have st := Same.new (o := .tup acc) ht
      have s5 := st.trans (Same.new (o := .lst [.ref D, .ref t]) hq5)
      obtain ⟨x5, hx5⟩ := hp4.at_
      have ntp : t ≠ p := Ne.symm (ne_of_none hx5 ht)
      have nq5 : q5 ≠ p := Ne.symm (ne_of_none (st _ _ hx5) hq5)
      have e5 : upd (upd H4 t (.tup acc)) q5 (.lst [.ref D, .ref t]) q5 = some (.lst [.ref D, .ref t]) := upd_same
      have et : upd (upd H4 t (.tup acc)) q5 (.lst [.ref D, .ref t]) t = some (.tup acc) := by rw [upd_ne (ne_of_none upd_same hq5)]; exact upd_same
      refine ⟨_, rfl, p, c, n + 2 + j, 2, rfl, hp4.same s5, by omega, by decide, by decide, fun r H6 h6 h6' b6 hp6 => ?_⟩
      have t6 := (Tups.of s5).trans ((hp4.same s5).tups b6)
      obtain ⟨v, hv, hvm⟩ := atI_mem (xs := [V.ref D, .ref t]) h6 h6'
      refine ⟨q5, _, _, v, rfl, rfl, .inl (.inl (b6 _ _ nq5 e5)), hv, hQ v cs H6 ((b04.trans (But.of s5)).trans b6) (hp6.mono (by omega)) ?_ (by omega)⟩
      rcases List.mem_cons.mp hvm with rfl | hvm
      · exact ⟨D, acc, rfl, nDp, .inl (.inl (.inl (b6 _ _ nDp (s5 _ _ hD4)))), hcs.tups t6⟩
      · rw [List.mem_singleton.mp hvm]
        exact ⟨t, acc, rfl, ntp, .inr (.inl (.inl (b6 _ _ ntp et))), hcs.tups t6⟩
end
end K91
set_option Elab.async false
set_option linter.all false
set_option maxRecDepth 100000
set_option maxHeartbeats 2000000
/-! The law's helpers: _law_sortable. -/
namespace K91
open PySem PySem.Spec PyProof.Rows L2 GenW
open K91M
def spSortable : Sp := fun vs H Q _ => ∃ p c n, ∃ m : Nat, vs = [.ref p, .int (m : Int)] ∧ m ≤ 7 ∧ Pen H p c n ∧ n + 200 ≤ 100000 ∧ ∀ t D1 D2 us l us2 cs H', But p H H' → Pen H' p c (n + 200) → H' t = some (.tup [.ref D1, .ref D2]) → D1 ≠ p → H' D1 = some (.lst us) → Vs H' us l → l.Nodup → l.length ≤ m → D2 ≠ p → H' D2 = some (.lst us2) → Vs H' us2 cs → cs.length ≤ 6 → Q (.ref t) H'
abbrev nmSortable : List Str := ["_law_pen_here", "_law_most", "_law_bag_here", "_law_marks_here", "_law_circle", "_law_out", "_law_one"]
theorem cLSortable' : FnScope nmSortable ["_law_pen_here", "_law_most"] (defScope sLSortable) :=
  ⟨rfl, rfl, rfl, by decide +kernel, rfl, by decide +kernel, by decide +kernel⟩
section
variable {P : Program} {w : World} {K : PySem.W.Frag} {mg : Str → Option Value} {base : Heap}
theorem okSortable (T : Tx K mg) : FO P w K mg base 5 dLSortable ["_law_pen_here", "_law_most"] spSortable := by
  refine FunD.ok (T.f 32) cLSortable' (fun vs H Q E h => ?_) (fun cdv A outer s H vs Q E hr h => ⟨_, PSs.nox (
    (pss_cons (ps_asg (pe_call (okBag T) hr rfl (T.g 22) (T.f 26).kp (bLBag T) .nil pass0 (pa_cons (pv 0) (pa_cons (pv 1) pa_nil))) (pg_name (i := 2) cLSortable'.nd rfl (Or.inr rfl)))
    (pss_cons (ps_asg (pe_call (okMarks T) (hr.mono (by decide)) rfl (T.g 23) (T.f 27).kp (bLMarks T) .nil pass0 (pa_cons (pv 0) (pa_cons (pv 2) pa_nil))) (pg_name (i := 3) cLSortable'.nd rfl (Or.inl rfl)))
    (pss_cons (ps_asg (pe_call (okLPat T) (hr.mono (by decide)) rfl (T.g 27) (T.f 31).kp (bLPat T) .nil pass0 (pa_cons (pv 2) (pa_cons (pv 3) pa_nil))) (pg_name (i := 4) cLSortable'.nd rfl (Or.inl rfl)))
    (pss_cons (ps_while PassesOwn.never (pt_cmpR op_notN (pv 4) pe_non (nomark _))
      (pss_cons (ps_asg (pe_ix ixT (pv 4) (pe_call (okDraw T) (hr.mono (by decide)) rfl (T.g 18) (T.f 22).kp (bLDraw T) .nil pass0 (pa_cons (pv 0) (pa_cons (pe_callB clen (by rfl) (T.fr 34) PySem.boot_len (pa_cons (pv 4) pa_nil)) pa_nil))) (fun _ _ => rfl)) (pg_name (i := 5) cLSortable'.nd rfl (Or.inr rfl)))
      (pss_cons (ps_asg (pe_lc (own := [("_law_one", 6)]) (g := gName 6) rfl cLSortable'.nd (piL (pv 2)) (blkOk_by (N := nmSortable) (sc := defScope sLSortable) (by decide +kernel)) (fun _ _ _ _ _ => pg_name (i := 6) cLSortable'.nd rfl (Or.inl rfl))
        (fun _ _ _ _ _ => pts_one (pt_cmpR (neD (room_64 hr)) (pv 6) (pv 5) (nomark _))) (fun _ _ _ _ _ => pv 6)) (pg_name (i := 2) cLSortable'.nd rfl (Or.inr rfl)))
      (pss_one (ps_asg (pe_call (okLPat T) (hr.mono (by decide)) rfl (T.g 27) (T.f 31).kp (bLPat T) .nil pass0 (pa_cons (pv 2) (pa_cons (pv 3) pa_nil))) (pg_name (i := 4) cLSortable'.nd rfl (Or.inl rfl)))))))
    (pss_one (ps_ret (pe_tup (pa_cons (pv 2) (pa_cons 
      (pe_lc (own := [("_law_one", 6)]) (g := gName 6) rfl cLSortable'.nd (pi_seq (pv 3)) (blkOk_by (N := nmSortable) (sc := defScope sLSortable) (by decide +kernel)) (fun _ _ _ _ _ => pg_name (i := 6) cLSortable'.nd rfl (Or.inl rfl))
        (fun _ _ _ _ _ => pts_one (pt_cmpR (inV (room_u hr)) (pv 6) (pv 2) rfl)) (fun _ _ _ _ _ => pv 6)) pa_nil)))))))))), ?_⟩)
  · obtain ⟨_, _, _, _, rfl, _⟩ := h
    rfl
  obtain ⟨p, c, n, m, rfl, hm, hp, hn, hQ⟩ := h
  have hz := sizeLine_eq
  refine ⟨_, rfl, _, rfl, p, c, n, m, rfl, hm, hp, by omega, fun D us l H1 b1 hp1 hDn hD hus hln hll => ?_⟩
  obtain ⟨x0, hx0⟩ := hp.at_
  have nD : D ≠ p := Ne.symm (ne_of_none hx0 hDn)
  refine ⟨_, rfl, _, rfl, p, c, n + 110, D, us, l, rfl, hp1, by omega, nD, hD, hus, by omega, fun mv cs H2 b2 hp2 hmv hml => ?_⟩
  have hD2 := b2 _ _ nD hD
  have hus2 := hus.tups (hp1.tups b2)
  have b02 := b1.trans b2
  -- what the pattern's end is, at any bag
  refine ⟨_, rfl, _, rfl, D, us, mv, l, cs, rfl, hD2, hus2, hmv.row, by omega, fun cv H3 s3 hcv => ?_⟩
  let Iv : Nat → L2.St → Hp → Prop := fun k σ H3 => ∃ (D : Addr) (us : List V) (l : List VV) (cv : V) (o : Option V), k = l.length ∧ σ = [some (.ref p), some (.int (m : Int)), some (.ref D), some mv, some cv, o, none] ∧ D ≠ p ∧ H3 D = some (.lst us) ∧ Vs H3 us l ∧ l.Nodup ∧ l.length ≤ m ∧ Pen H3 p c (n + 130 - l.length) ∧ But p H H3 ∧ RowP K H3 p mv cs ∧ CircOk l H3 cv
  refine ⟨Iv, ⟨_, D, us, l, cv, none, rfl, rfl, nD, s3 _ _ hD2, hus2.same s3, hln, hll, (hp2.same s3).mono (by omega), b02.trans (But.of s3), hmv.same s3, hcv⟩, ?_⟩
  clear hcv hmv hus2 hus hD hD2 s3 hp2 b02 hln hll hDn nD b2 hp1 b1
  rintro k σ H3 ⟨D, us, l, cv, o, rfl, rfl, nD, hD, hus, hln, hll, hp3, b3, hmv, hcv⟩
  obtain ⟨xp, hxp⟩ := hp3.at_
  rcases hcv with rfl | ⟨t, ws, rfl, ht, hw0, hw4, hws⟩
  · refine ⟨_, rfl, rfl, false, rfl, iteF ?_⟩
    obtain ⟨ma, mus, rfl, nm, hmb, hmv2⟩ := id hmv
    refine ⟨_, rfl, _, rfl, ma, mus, rfl, hmb, fun J js => fun D2 hD2 => ?_⟩
    have nD2 : D2 ≠ p := Ne.symm (ne_of_none hxp hD2)
    refine lc_list (xs := cs) Vat js hmv2 (fun _ _ _ _ s h => h.same s) (fun x => decide (x ∈ l)) (fun x y H => Vat H y x) hD2 (by omega) (fun _ _ _ _ s h => h.same s) (fun x y H2 acc ci h _ => h.tups (Tups.lst ci.at_)) (fun i x y H4 Fin Skp s4 hx hy vx fin skp => ?_) (fun acc H4 ci pr => ?_)
    · refine ⟨rfl, _, rfl, _, rfl, x, l, vx, ⟨D, us, rfl, .inl (.inl (.inl (s4 _ _ hD))), hus.same s4⟩, _, rfl, ?_⟩
      refine ite2 (fun hb => ⟨_, rfl, fin _ _ (by simpa using hb) (Same.refl _) vx⟩) fun hb => skp _ (by simpa using hb) (Same.refl _)
    · refine ⟨by show 2 ≤ sizeLine; decide, fun t ht => ?_⟩
      have st := Same.new (o := .tup [.ref D, .ref D2]) ht
      have s34 := ci.same.trans st
      exact hQ t D D2 us l acc _ _ (b3.trans (But.of s34)) ((hp3.same s34).mono (by omega)) upd_same nD (s34 _ _ hD) (hus.same s34) hln hll nD2 (st _ _ ci.at_) (Vs.same pr st) (Nat.le_trans (List.length_filter_le _ _) hml)
  · refine ⟨_, rfl, rfl, true, rfl, iteT ⟨_, fun σ' H' h => h, ?_⟩⟩
    have ntp : t ≠ p := fun e => by rw [e, hxp] at ht; cases ht
    refine ⟨_, rfl, _, rfl, _, rfl, t, ws, rfl, .inr (.inl (.inl ht)), p, c, n + 130 - l.length, _, rfl, hp3, by omega, by omega, by omega, fun r H4 h4 h4' b4 hp4 => ?_⟩
    obtain ⟨v, hv, hvm⟩ := atI_mem h4 h4'
    obtain ⟨out, hout, vout⟩ := hws v hvm
    have t4 := hp3.tups b4
    refine ⟨t, ws, _, v, rfl, rfl, .inl (.inl (t4 _ _ ht)), hv, ?_⟩
    have hD4 := b4 _ _ nD hD
    have hus4 := hus.tups t4
    have vout4 := vout.tups t4
    have hmv4 := hmv.but b4 hp3
    obtain ⟨xp4, hxp4⟩ := hp4.at_
    refine ⟨_, rfl, D, rfl, ⟨us, .inl (.inl hD4)⟩, fun D1 hD1 => ?_⟩
    have nD1 : D1 ≠ p := Ne.symm (ne_of_none hxp4 hD1)
    refine lc_list (xs := l) Vat (JS.list (.inl (.inl hD4))) hus4 (fun _ _ _ _ s h => h.same s) (fun x => decide (x ≠ out)) (fun x y H => Vat H y x) hD1 (by omega) (fun _ _ _ _ s h => h.same s) (fun x y H2 acc ci h _ => h.tups (Tups.lst ci.at_)) (fun i x y H5 Fin Skp s5 hx hy vx fin skp => ?_) (fun acc H5 ci pr => ?_)
    · refine ⟨rfl, _, rfl, _, rfl, encV x, encV out, vx.dp, (vout4.same s5).dp, encV_shaped vx.ok, encV_shaped vout4.ok, _, rfl, ?_⟩
      rw [encV_eqv]
      refine ite2 (fun hb => ⟨_, rfl, fin _ _ (by simpa using hb) (Same.refl _) vx⟩) fun hb => skp _ (by simpa using hb) (Same.refl _)
    · have s45 := ci.same
      have hlt : (l.filter fun x => decide (x ≠ out)).length < l.length := by
        refine Nat.lt_of_le_of_ne (List.length_filter_le _ _) fun e => ?_
        have := List.length_filter_eq_length_iff.mp e out hout
        simp at this
      have hln' : (l.filter fun x => decide (x ≠ out)).Nodup := hln.filter _
      generalize (l.filter fun x => decide (x ≠ out)) = l' at *
      refine ⟨_, rfl, _, rfl, D1, acc, mv, l', cs, rfl, ci.at_, pr, (hmv4.same s45).row, by omega, fun cv' H6 s6 hcv' => ⟨l'.length, hlt, D1, acc, l', cv', _, rfl, rfl, nD1, s6 _ _ ci.at_, Vs.same pr s6, hln', by omega, ?_, (b3.trans b4).trans ((But.of s45).trans (But.of s6)), (hmv4.same s45).same s6, hcv'⟩⟩
      exact ((hp4.same s45).same s6).mono (by omega)
end
end K91
set_option Elab.async false
set_option linter.all false
set_option maxRecDepth 100000
set_option maxHeartbeats 2000000
/-! Walks of bodies over the machine: statements and tests, a def's call, as the library's own, with WE in the place of its wp. -/
namespace K91
open PySem PySem.Spec PySem.W PyProof.Rows L2 GenW

section
variable {prog : Program} {w : World} {A : Around} {s : Shared} {E : Value → Shared → Prop} {env : Env} {R : Result → Shared → Prop}
theorem we_execs_nil {Q : Flow → Shared → Prop} (h : Q .next s) : WE (model prog w) A (execs [] env) Q E s := WE.lift (wpAny_execs_nil h)
theorem we_execs_cons {st : Stmt} {rest : List Stmt} {Q : Flow → Shared → Prop} (h : WE (model prog w) A (exec st env) (fun f s' => match f with | .next => WE (model prog w) A (execs rest env) Q E s' | f => Q f s') E s) : WE (model prog w) A (execs (st :: rest) env) Q E s := by
  rw [execs_cons]
  refine WE.bind (h.mono (fun f s' q => ?_) fun _ _ z => z)
  cases f <;> first | exact q | exact WE.pure q
theorem we_If {test : Expr} {body orelse : List Stmt} {pos : Pos} {Q : Flow → Shared → Prop} (h : WE (model prog w) A (isTrue test env (eval test env)) (fun b s2 => if b then WE (model prog w) A (execs body env) Q E s2 else WE (model prog w) A (execs orelse env) Q E s2) E s) :
    WE (model prog w) A (exec (.If test body orelse pos) env) Q E s := by
  rw [exec_If]
  refine WE.bindL (wpAny_standAt (WE.bind (h.mono (fun b s2 q => ?_) fun _ _ z => z)))
  cases b <;> exact q
theorem we_Return {e : Expr} {pos : Pos} {Q : Flow → Shared → Prop} (h : WE (model prog w) A (eval e env) (fun v => Q (.ret v)) E s) : WE (model prog w) A (exec (.Return (some e) pos) env) Q E s := by
  rw [exec_Return_some]
  refine WE.bindL (wpAny_standAt (WE.bind (h.mono (fun v s' q => ?_) fun _ _ z => z)))
  exact WE.pure q
theorem we_runOwn {c : Code} {Q : Flow → Shared → Prop} (h : CE (model prog w) A c (fun r s' => match r with | .ok f => Q f s' | .error _ => False) s) : WE (model prog w) A (runOwn c env none) Q E s := by
  unfold runOwn
  refine WE.onRaise ((WE.run (E := fun _ _ => False) (h.mono fun r s' q => ?_)).mono (fun _ _ q => q) fun _ _ z => z.elim)
  cases r <;> exact q
theorem CE.loop {c : Code} (hq : c.quiet = true) (I : Nat → Shared → Prop)
    (turn : ∀ n s, I n s → WE (model prog w) (A.under c) ((model prog w).den c) (fun fin s' => match fin with | .done f => R (.ok f) s' | .again c' => (c' = c ∧ ∃ m, m < n ∧ I m s') ∨ (c'.quiet = true ∧ CE (model prog w) A c' R s')) (fun e s' => R (.error e) s') s) (n : Nat) (h : I n s) : CE (model prog w) A c R s := by
  induction n using Nat.strongRecOn generalizing s with
  | ind n ih =>
    refine CE.tree ((turn n s h).mono (fun fin s' hf => ?_) fun _ _ z => z)
    cases fin with
    | done f => exact hf
    | again c' =>
      rcases hf with ⟨rfl, m, hm, hI⟩ | hf
      · exact ⟨hq, ih m hm hI⟩
      · exact hf
theorem ce_forLoop {target : Expr} {it : Value} {body : List Stmt} (I : Nat → Shared → Prop)
    (turn : ∀ n s, I n s → WE (model prog w) A (pyNext it) (fun r s1 => match r with
      | none => R (.ok .next) s1
      | some v => WE (model prog w) A (letOwnedTupleGo target it v) (fun _ s1' => WE (model prog w) A (assign target env v) (fun _ s2 => WE (model prog w) A (execs body env) (fun f s3 => match f with
          | .next | .cont => ∃ m, m < n ∧ I m s3
          | .brk => R (.ok .next) s3
          | .ret v => R (.ok (.ret v)) s3) (fun _ _ => False) s2) (fun _ _ => False) s1') (fun _ _ => False) s1) (fun _ _ => False) s)
    (n : Nat) (h : I n s) : CE (model prog w) A (.forLoop target it body [] env) R s := by
  refine CE.loop rfl I (fun n s hI => ?_) n h
  show WE _ A ((forTurn target it body [] env).onRaise (fun x => do noteFrame x env; theTreesLotGoes x)) _ _ s
  refine WE.onRaise (E := fun e s' => R (.error e) s') (WE.mono (E := fun _ _ => False) ?_ (fun _ _ q => q) fun _ _ z => z.elim)
  simp only [forTurn]
  refine WE.bindL (wpAny_standAt (WE.bind (WE.onRaise ((turn n s hI).mono (fun r s1 h1 => ?_) fun _ _ z => z.elim))))
  cases r with
  | none => exact WE.pure (.inr ⟨rfl, CE.lift (codeAny_block (wpAny_execs_nil h1))⟩)
  | some v =>
    refine WE.bind (h1.mono (fun _ s1' h1' => ?_) fun _ _ z => z)
    refine WE.bind (h1'.mono (fun _ s2 h2 => WE.bind (h2.mono (fun f s3 h3 => ?_) fun _ _ z => z)) fun _ _ z => z)
    cases f with
    | next => exact WE.pure (.inl ⟨rfl, h3⟩)
    | cont => exact WE.pure (.inl ⟨rfl, h3⟩)
    | brk => exact WE.pure h3
    | ret v => exact WE.pure h3
theorem we_For {target iter : Expr} {body : List Stmt} {pos : Pos} {Q : Flow → Shared → Prop}
    (h : wpAny (model prog w) A (eval iter env) (fun x s1 => wpAny (model prog w) A (pyIter x) (fun it s2 => CE (model prog w) A (.forLoop target it body [] env) (fun r s' => match r with | .ok f => Q f s' | .error _ => False) s2) E s1) E s)
    (hs : ∀ x, foldedSetIterable iter env x = pure x := by intro _; rfl) : WE (model prog w) A (exec (.For target iter body [] pos) env) Q E s := by
  rw [exec_For]
  refine WE.bindL (wpAny_standAt (WE.bindL (wpAny_mono h (fun x s1 h1 => ?_) fun _ _ z => z)))
  refine WE.bindL (wpAny_of_eq (hs x) (WE.bindL (wpAny_standAt (WE.bindL (wpAny_holding (wpAny_mono h1 (fun it s2 h2 => we_runOwn h2) fun _ _ z => z))))))
theorem ce_func {body : List Stmt} (h : WE (model prog w) (A.deeper env) (execs body env) (fun f s' => R (.ok (.ret (match f with | .ret v => v | _ => .none))) s') (fun _ _ => False) s) : CE (model prog w) A (.func body env) R s := by
  refine CE.tree ?_
  show WE _ (A.deeper env) (do point; match ← (execs body env).onRaise (leaving env) with | .ret v => ret v | _ => ret .none) _ _ s
  refine WE.bindL (wpAny_point (WE.bind (WE.onRaise (h.mono (fun f s' q => ?_) fun _ _ z => z.elim))))
  cases f <;> exact WE.pure q
theorem ce_call_function {a : Addr} {args : Args} {o : Obj} {fd : FuncData} {body : List Stmt} (hroom : A.depth < recursionLimit)
    (ho : s.heap.get? a = some o) (hd' : o.data = .func fd) (hco : fd.scope.isCoroutine = false) (hgen : fd.scope.isGenerator = false) (hbody : fd.body = .stmts body) (hcd : s.heap.CodeRec fd.code fd.qualname)
    (h : wpAny (model prog w) A.in1 (bindArgs fd args) (fun binds s1 =>
      wpAny (model prog w) A.in1 (newFunctionEnv fd.scope fd.globals fd.closure binds (fd.qualname ++ ".<locals>.") (some a) fd.code none fd.builtins)
        (fun env s2 => s2.heap.NoLimit ∧ CE (model prog w) A (.func body env) R s2) (fun e s' => R (.error e) s') s1) (fun e s' => R (.error e) s') s) :
    CE (model prog w) A (.call (.ref a) args) R s := by
  refine CE.tree ?_
  show WE _ A.in1 (callAny (.ref a) args) _ _ s
  simp only [callAny]
  refine WE.bindL (wpAny_load ho ?_)
  obtain ⟨c, oc, vs, tq, hc, hoc, hdc, hq⟩ := hcd
  simp only [hd', callFunction, hco, hgen, hbody, hc]
  rw [hc] at h
  refine WE.bindL (m := field (.ref c) 1) (wpAny_field hoc hdc hq (WE.bindL (wpAny_pure ?_)))
  exact WE.bindL (wpAny_mono h (fun binds s1 h1 => WE.bindL (wpAny_mono h1 (fun env s2 h2 => WE.bindL (wpAny_enterFrame h2.1 hroom (WE.pure ⟨rfl, h2.2⟩))) fun _ _ z => z)) fun _ _ z => z)
theorem we_call {f : Value} {pos : List Value} {Q : Value → Shared → Prop} (h : CE (model prog w) A (.call f ⟨pos, []⟩) (fun r s' => match r with | .ok (.ret v) => Q v s' | .ok _ => False | .error e => E e s') s) : WE (model prog w) A (call f pos []) Q E s := WE.runValue h
theorem we_callWith {K : Frag} {f : Value} {pos : Pos} {Q : Value → Shared → Prop} {e : Expr} {rest : List Expr} (hk : keepIn K f = true)
    (h : wpAny (model prog w) A (spliced (backTo pos (starEach (e :: rest) env))) (fun vs s1 => K.In s1.heap ∧ WE (model prog w) A (call f vs []) Q E s1) E s)
    (he : starEach (e :: rest) env = (false, eval e env) :: starEach rest env := by rfl) (hplain : (backTo pos (starEach rest env)).any (·.1) = false := by rfl) :
    WE (model prog w) A (callWith pos f [] (backTo pos (starEach (e :: rest) env)) []) Q E s := by
  have hpl : ((backTo pos (starEach (e :: rest) env)).any (·.1) || ([] : List (Option Str × Sem Value)).any (·.1.isNone)) = false := by
    rw [he]
    show ((false || (backTo pos (starEach rest env)).any (·.1)) || false) = false
    rw [hplain]; rfl
  unfold callWith
  have h' : wpAny (model prog w) A (evalArgs f true (backTo pos (starEach (e :: rest) env)) []) (fun a s1 => a.kw = [] ∧ K.In s1.heap ∧ WE (model prog w) A (call f a.pos []) Q E s1) E s := by
    rw [he] at h ⊢
    exact Calls.evalArgs_plain (wpAny_mono h (fun vs s1 q => ⟨rfl, q⟩) fun _ _ z => z)
  refine WE.bindL (wpAny_holding (wpAny_mono h' (fun a s1 h1 => WE.bindL (wpAny_standAt ?_)) fun _ _ z => z))
  obtain ⟨ap, akw⟩ := a
  obtain ⟨rfl, hK, h1⟩ := h1
  obtain ⟨k, hk', L⟩ := keeps_K (M := model prog w) hk _ hK
  simp only [hpl]
  refine WE.bindL (L.here ?_)
  have tail : ∀ {t : Sem Value}, WE (model prog w) A t Q E s1 → WE (model prog w) A (t >>= fun r => holding [r] point >>= fun _ => pure r) Q E s1 :=
    fun ht => WE.bind (ht.mono (fun r s2 hr => WE.bindL (wpAny_holding (wpAny_point (WE.pure hr)))) fun _ _ z => z)
  have marked (mk : Value) : WE (model prog w) A (callMarked mk f ([] ++ ap) []) Q E s1 := by unfold callMarked; exact WE.keep h1
  rcases hk' with rfl | rfl | rfl <;> dsimp only <;> first | exact tail h1 | (split <;> first | exact tail h1 | exact tail (marked _))
end
/-! ### readings -/
structure WX (X : Cx) (e : Expr) (t : TE) : Prop where
  run : ∀ (pins : List (Addr × Obj)) (s : Shared) (σ : L2.St) (H : Hp) (Q : VK), Inv X pins σ H s → t σ H Q → WE (model X.prog X.w) X.A (eval e X.env) (EP X pins σ Q) X.xe s
structure WT (X : Cx) (e : Expr) (t : TT) : Prop where
  run : ∀ (pins : List (Addr × Obj)) (s : Shared) (σ : L2.St) (H : Hp) (Q : Bool → Hp → Prop), Inv X pins σ H s → t σ H Q → WE (model X.prog X.w) X.A (isTrue e X.env (eval e X.env)) (TP X pins σ Q) X.xe s
structure WS (X : Cx) (st : Stmt) (t : TS) : Prop where
  run : ∀ (pins : List (Addr × Obj)) (s : Shared) (σ : L2.St) (H : Hp) (D : Ends), Inv X pins σ H s → t D σ H → WE (model X.prog X.w) X.A (exec st X.env) (SP X pins D) X.xe s
structure WSs (X : Cx) (st : List Stmt) (t : TS) : Prop where
  run : ∀ (pins : List (Addr × Obj)) (s : Shared) (σ : L2.St) (H : Hp) (D : Ends), Inv X pins σ H s → t D σ H → WE (model X.prog X.w) X.A (execs st X.env) (SP X pins D) X.xe s
section
variable {X : Cx} {pos : Pos} {t u : TS} {rest : List Stmt} {st : Stmt}
theorem wx_of {e : Expr} {t : TE} (h : PE X e t) : WX X e t := ⟨fun pins s σ H Q I q => WE.lift (h.run pins s σ H Q I q)⟩
theorem ws_of (h : PS X st t) : WS X st t := ⟨fun pins s σ H D I q => WE.lift (h.run pins s σ H D I q)⟩
theorem wss_of {sts : List Stmt} (h : PSs X sts t) : WSs X sts t := ⟨fun pins s σ H D I q => WE.lift (h.run pins s σ H D I q)⟩
theorem wss_cons (h1 : WS X st t) (h2 : WSs X rest u) : WSs X (st :: rest) (tSeq t u) := by
  refine ⟨fun pins s σ H D I h => we_execs_cons ((h1.run pins s σ H { D with nx := u D } I h).mono (fun f s1 q => ?_) fun _ _ z => z)⟩
  cases f with
  | next =>
    obtain ⟨σ', H', I', q⟩ := q
    exact h2.run pins s1 σ' H' D I' q
  | ret v => exact q
  | brk => exact q
  | cont => exact q
theorem ws_if {c : Expr} {a b : List Stmt} {tc : TT} (hc : WT X c tc) (ha : WSs X a t) (hb : WSs X b u) : WS X (.If c a b pos) (tIfS tc t u) := by
  refine ⟨fun pins s σ H D I h => we_If ((hc.run pins s σ H _ I h).mono (fun d s1 q => ?_) fun _ _ z => z)⟩
  obtain ⟨H1, I1, q1⟩ := q
  cases d with
  | true => exact ha.run pins s1 σ H1 D I1 q1
  | false => exact hb.run pins s1 σ H1 D I1 q1
theorem wt_not {a : Expr} {tA : TT} (ha : WT X a tA) : WT X (.UnaryOp .Not a pos) (tNot tA) := by
  refine ⟨fun pins s σ H Q I h => ?_⟩
  show WE _ _ (do return !(← isTrue a X.env (eval a X.env))) _ _ s
  exact WE.bind ((ha.run pins s σ H (fun c H1 => Q (!c) H1) I h).mono (fun c s' q => WE.pure q) fun _ _ z => z)
theorem wt_val {e : Expr} {t : TE} (h : WX X e t) (he : ∀ whole, isTrue e X.env whole = (do let v ← whole; standAt e.pos; holding [v] (truthy v)) := by intro _; rfl) : WT X e (tB t) := by
  refine ⟨fun pins s σ H Q I hw => ?_⟩
  rw [he]
  refine WE.bind ((h.run pins s σ H _ I hw).mono (fun v s1 q => ?_) fun _ _ z => z)
  obtain ⟨x, H1, I1, r1, d, rfl, q⟩ := q
  cases r1
  exact WE.bindL (wpAny_standAt (WE.lift (wpAny_holding (wpAny_truthy_bool ⟨H1, I1, q⟩))))
theorem wt_cmp {op : CmpOp} {r : R2} {a b : Expr} {ta tb : TE} (ho : OpR X (compareOp op) r) (ha : WX X a ta) (hb : PE X b tb) (hm : behindInMarks op b = false) : WT X (.Compare a [op] [b] pos) (tTest (tOp r ta tb)) := by
  refine ⟨fun pins s σ H Q I h => ?_⟩
  simp only [isTrue_Compare1, markedBehindIn_of_false hm]
  refine WE.bind ((ha.run pins s σ H _ I h).mono (fun v s1 q => ?_) fun _ _ z => z)
  obtain ⟨x, H1, I1, r1, q1⟩ := q
  refine WE.bindL (wpAny_holding (wpAny_mono (hb.run pins s1 σ H1 _ I1 q1) (fun u s2 q => ?_) fun _ _ z => z))
  obtain ⟨y, H2, I2, r2, q2⟩ := q
  refine WE.bindL (wpAny_standAt (WE.bindL (wpAny_operating (wpAny_mono (ho pins s2 σ H2 x y v u _ I2 r1 r2 q2) (fun c s3 q => ?_) fun _ _ z => z))))
  obtain ⟨z, H3, I3, r3, k, rfl, q3⟩ := q
  cases r3
  exact WE.lift (wpAny_holding (wpAny_truthy_bool ⟨H3, I3, q3⟩))
theorem wx_cmp {op : CmpOp} {r : R2} {a b : Expr} {ta tb : TE} (ho : OpR X (compareOp op) r) (ha : WX X a ta) (hb : PE X b tb) (hm : behindInMarks op b = false) : WX X (.Compare a [op] [b] pos) (tOp r ta tb) := by
  refine ⟨fun pins s σ H Q I h => ?_⟩
  simp only [eval_Compare1, markedBehindIn_of_false hm]
  refine WE.bind ((ha.run pins s σ H _ I h).mono (fun v s1 q => ?_) fun _ _ z => z)
  obtain ⟨x, H1, I1, r1, q1⟩ := q
  refine WE.bindL (wpAny_holding (wpAny_mono (hb.run pins s1 σ H1 _ I1 q1) (fun u s2 q => ?_) fun _ _ z => z))
  obtain ⟨y, H2, I2, r2, q2⟩ := q
  exact WE.bindL (wpAny_standAt (WE.lift (wpAny_operating (ho pins s2 σ H2 x y v u _ I2 r1 r2 q2))))
theorem wx_and {a b : Expr} {rest : List Expr} {ta tb : TE} (ha : WX X a ta) (hb : WX X (.BoolOp .And (b :: rest) pos) tb) : WX X (.BoolOp .And (a :: b :: rest) pos) (tAndV ta tb) := by
  refine ⟨fun pins s σ H Q I h => ?_⟩
  show WE _ _ (do
    let v ← eval a X.env
    standAt pos
    let c ← holding [v] (truthy v)
    match BoolOp.And, c with
    | .And, false | .Or, true => pure v
    | _, _ => boolOp pos .And (eval b X.env :: evalEach rest X.env)) _ _ s
  refine WE.bind ((ha.run pins s σ H _ I h).mono (fun v s1 q => ?_) fun _ _ z => z)
  obtain ⟨x, H1, I1, r1, c, rfl, q1⟩ := q
  cases r1
  refine WE.bindL (wpAny_standAt (WE.bindL (wpAny_holding (wpAny_truthy_bool ?_))))
  cases c with
  | false => exact WE.pure ⟨.bl false, H1, I1, rfl, q1⟩
  | true => exact hb.run pins s1 σ H1 Q I1 q1
theorem wx_one {op : BoolOp} {a : Expr} {ta : TE} (ha : WX X a ta) : WX X (.BoolOp op [a] pos) ta := ⟨fun pins s σ H Q I h => ha.run pins s σ H Q I h⟩
theorem ws_ret {e : Expr} {te : TE} (he : WX X e te) : WS X (.Return (some e) pos) (tRet te) :=
  ⟨fun pins s σ H D I h => we_Return ((he.run pins s σ H _ I h).mono (fun v s1 q => by obtain ⟨x, H1, I1, r1, q1⟩ := q; exact ⟨x, σ, H1, I1, r1, q1⟩) fun _ _ z => z)⟩
end
end K91
set_option Elab.async false
set_option linter.all false
set_option maxRecDepth 100000
set_option maxHeartbeats 2000000
/-! Walks of bodies over the machine: a for loop, a def, its call, the law's call. -/
namespace K91
open PySem PySem.Spec PySem.W PyProof.Rows L2 GenW

theorem ws_for {X : Cx} {tg iter : Expr} {body : List Stmt} {wi : TI} {g : TG} {tb : TS} {pos : Pos} (hx : X.xe = fun _ _ => False) (hc : X.calm = true) (hi : PI X tg iter wi) (hg : PG X tg g) (hb : WSs X body tb)
    (hs : ∀ x, foldedSetIterable iter X.env x = pure x := by intro _; rfl) : WS X (.For tg iter body [] pos) (tFor wi g tb) := by
  refine ⟨fun pins s σ H D I h => ?_⟩
  refine we_For (thn (hi.run pins s σ H _ I h) fun v s1 h1 => thn h1 fun itv s2 h2 => ?_) hs
  obtain ⟨it, fp, tn, J, H2, e, I2, T, st2, f2, W, ⟨m0, w0⟩, turn⟩ := h2
  subst e
  have stat : ∀ {H' : Hp}, (∀ b ∈ fp, H' b = none) → ∀ b ∈ fp, FpOk X pins H' b := fun hn b hb => ⟨hn b hb, (f2 b hb).2⟩
  refine ce_forLoop (fun n s' => ∃ i σ' H', Inv X pins σ' H' s' ∧ tn i s'.heap ∧ (∀ b ∈ fp, H' b = none) ∧ W i n σ' H') ?_ m0 ⟨0, σ, H2, I2, st2, fun b hb => (f2 b hb).1, w0⟩
  rintro n s3 ⟨i, σ3, H3, I3, st3, fr3, w3⟩
  rcases turn i n σ3 H3 w3 with ⟨stop, qn⟩ | ⟨go, N, hN, step⟩
  · refine WE.lift (thn (T.done X rfl rfl rfl hc i pins s3 σ3 H3 (fun _ _ => False) I3 (stat fr3) st3 stop) fun r s4 ⟨hr, I4⟩ => ?_)
    subst hr
    exact ⟨σ3, H3, I4, qn⟩
  · refine WE.lift (thn (T.item X rfl rfl rfl hc i pins s3 σ3 H3 (fun _ _ => False) I3 (stat fr3) st3 go) fun r s4 ⟨u, hr, h4⟩ => ?_)
    subst hr
    refine WE.lift (thn h4 fun _ s5 ⟨x, H5, I5, r5, y5, st5, fr5⟩ => ?_)
    have I5' := I5.pinned (stat fr5) (T.obj _ _ st5)
    refine WE.lift (wpAny_mono (hg.run _ s5 σ3 H5 x u _ I5' r5 (step x H5 y5)) (fun _ s6 ⟨σ6, H6, I6, q6⟩ => ?_) fun e s' z => by rw [hx] at z; exact z)
    refine (hb.run _ s6 σ6 H6 _ I6 q6).mono (fun f s7 q7 => ?_) fun e s' z => by rw [hx] at z; exact z
    have again : ∀ {σ7 : L2.St} {H7 : Hp}, Inv X (pins ++ pinsAt fp s5.heap) σ7 H7 s7 → N σ7 H7 → ∃ m, m < n ∧ ∃ i σ' H', Inv X pins σ' H' s7 ∧ tn i s7.heap ∧ (∀ b ∈ fp, H' b = none) ∧ W i m σ' H' := fun {σ7 H7} I7 n7 => by
      obtain ⟨m', hm, w7⟩ := hN σ7 H7 n7
      refine ⟨m', hm, i + 1, σ7, H7, I7.unpinned, T.keep _ _ _ st5 fun b hb o e => (I7.pin (b, o) (List.mem_append_right _ (List.mem_append_right _ (mem_pinsAt hb e)))).1, fun b hb => ?_, w7⟩
      obtain ⟨o, e, d⟩ := T.obj _ _ st5 b hb
      exact (I7.pin (b, o) (List.mem_append_right _ (List.mem_append_right _ (mem_pinsAt hb e)))).2.1
    cases f with
    | next => obtain ⟨σ7, H7, I7, n7⟩ := q7; exact again I7 n7
    | cont => obtain ⟨σ7, H7, I7, n7⟩ := q7; exact again I7 n7
    | brk => obtain ⟨σ7, H7, I7, q7⟩ := q7; exact ⟨σ7, H7, I7.unpinned, q7⟩
    | ret v => obtain ⟨x7, σ7, H7, I7, r7, q7⟩ := q7; exact ⟨x7, σ7, H7, I7.unpinned, r7, q7⟩
/-- a def's promise over the machine -/
structure FnW (P : Program) (w : World) (K : PySem.W.Frag) (mg : Str → Option Value) (base : Heap) (k : Nat) (f : Addr) (fd : FuncData) (ps : List Str) (sp : Sp) : Prop where
  len : ∀ vs H Q E, sp vs H Q E → vs.length = ps.length
  run : ∀ (A : Around) (outer : List Env) (s : Shared) (H : Hp) (args : Args) (us : List Value) (vs : List V) (Q : VK), Room k A → Env0 P w K mg base A outer s H → BindsTo s fd args (ps.zip us) → Vals vs us → sp vs H Q E0 →
    K91.CE (model P w) A (.call (.ref f) args) (fun r s' => match r with | .ok (.ret u) => L2.CE outer P w H s Q u s' | _ => False) s
theorem fnw_of {P : Program} {w : World} {K : PySem.W.Frag} {mg : Str → Option Value} {base : Heap} {x qual : Str} {params : Arguments} {body : List Stmt} {scope : Scope} {dvs : List V} {kws : List (Str × V)} {f : Addr} {fd : FuncData} {N ps : List Str} {k : Nat} {sp : Sp}
    (F : FunD K x qual params body scope dvs kws f fd) (S : FnScope N ps scope) (len : ∀ vs H Q E, sp vs H Q E → vs.length = ps.length)
    (hbody : ∀ (cdv : Value) (A : Around) (outer : List Env) (s : Shared) (H : Hp) (vs : List V) (Q : VK), Room k (A.deeper (envOfC qual scope s.heap.objs.size f cdv)) → sp vs H Q E0 →
      ∃ t, WSs (cxOf CX0 P w K mg base N qual scope f cdv A outer s H E0).nox body t ∧ t { nx := fun _ H' => Q .non H', rt := Q } (start N vs) H) : FnW P w K mg base (k + 1) f fd ps sp := by
  obtain ⟨oc, od, dV, kV, doc, pm, an, cdv, ct, osl, rfl, lk, hcd, _, _⟩ := F.ex
  refine ⟨len, fun A outer s H args us vs Q hr e0 hb r hsp => ?_⟩
  have hl := len _ _ _ _ hsp
  have KX : K.In s.heap := e0.mod.kin.keeps fun b o e => (e0.bs b o e).1
  have lim : s.heap.NoLimit := e0.mod.nolimit.keeps fun b o e => (e0.bs b o e).1
  have hkind : ∀ y ∈ ps.zip us, scope.names.lookup y.1 = some .local ∨ (scope.names.lookup y.1 = some .cell ∧ ((cellsFrom (s.heap.objs.size + 1) scope.names []).lookup y.1).isSome = true) := fun ⟨n, v⟩ hy => by
    rcases S.par n (List.of_mem_zip hy).1 with q | q
    · exact .inl q
    · exact .inr ⟨q, PySem.W.cellsFrom_some _ _ _ (.inl q)⟩
  refine ce_call_function hr.depth (KX _ _ lk) rfl S.co S.gen rfl (PySem.W.codeRec_of KX hcd) (hb _ _ _ _ ?_)
  refine wpAny_newFunctionEnv_cells S.kind hkind fun env he s1 x => ?_
  subst he
  refine ⟨lim.keeps x.toInCall.keep, ce_func ?_⟩
  obtain ⟨t, ht, hq⟩ := hbody cdv A outer s H vs Q (hr.deeper _) hsp
  have I : Inv (cxOf CX0 P w K mg base N qual scope f cdv A outer s H E0) [] (start N vs) H s1 := inv_start S hr.hd e0 hl r x
  refine (ht.run [] s1 (start N vs) H _ (I.wish _) hq).mono (fun fl s' hs => ?_) fun e s' hs => hs
  have fin : ∀ {σ' : L2.St} {H' : Hp} {v : V} {u : Value}, Inv (cxOf CX0 P w K mg base N qual scope f cdv A outer s H E0).nox [] σ' H' s' → RelV v u → Q v H' → L2.CE outer P w H s Q u s' :=
    fun {σ' H' v u} J rv q => ⟨v, H', J.os, J.bare, J.base, J.hok, rv, q⟩
  cases fl with
  | ret u =>
    obtain ⟨v, σ', H', J, rv, q⟩ := hs
    exact fin J rv q
  | next =>
    obtain ⟨σ', H', J, q⟩ := hs
    exact fin (v := V.non) (u := Value.none) J rfl q
  | brk =>
    obtain ⟨_, _, _, q⟩ := hs
    exact False.elim q
  | cont =>
    obtain ⟨_, _, _, q⟩ := hs
    exact False.elim q
theorem wx_call {X : Cx} {k : Nat} {f : Addr} {fd : FuncData} {ps : List Str} {sp : Sp} {x : Str} {p pos : Pos} {e : Expr} {es : List Expr} {t : TA} (F : FnW X.prog X.w X.K X.mg X.base k f fd ps sp) (hr : Room k X.A) (hg : Gl X x) (hm : X.mg x = some (.ref f)) (hk : PySem.W.keepIn X.K (.ref f) = true) (hb : Binds X.K fd ps [])
    (ha : PA X (e :: es) t) (hdb : (x == ("__debug__" : Str)) = false := by decide) (he : starEach (e :: es) X.env = (false, eval e X.env) :: starEach es X.env := by rfl) (hpl : (backTo pos (starEach es X.env)).any (·.1) = false := by rfl) :
    WX X (.Call (.Name x p) (e :: es) [] pos) (tCall sp [] E0 t) := by
  refine ⟨fun pins s σ H Q I h => ?_⟩
  rw [arm_eval_Call_Name']
  refine WE.bindL (ld_glob I hg hm ?_ hdb)
  refine we_callWith hk (thn (ha.run pos pins s σ H _ I h) fun us s1 ⟨vs, H1, I1, r, q⟩ => ⟨I1.kIn, ?_⟩) he hpl
  have q2 : sp (vs ++ []) H1 Q E0 := q
  have q' : sp vs H1 Q E0 := by rwa [List.append_nil] at q2
  have hl : us.length = ps.length := by rw [← r.length]; exact F.len _ _ _ _ q'
  have hbb := hb s1 us I1.kIn (by rw [List.append_nil]; exact hl)
  rw [List.append_nil] at hbb
  refine we_call ((F.run X.A X.stack s1 H1 ⟨us, []⟩ us vs Q hr I1.env0 hbb r q').mono fun r s' hq => ?_)
  cases r with
  | error e => exact False.elim hq
  | ok fl =>
    cases fl with
    | ret u => exact I1.after hq
    | next => exact False.elim hq
    | brk => exact False.elim hq
    | cont => exact False.elim hq
/-- [v for v in g(..)] -/
def tLcomp (tc : TCall) : TE := fun σ H Q => tc σ H fun n It H1 => n ≤ sizeLine ∧ (∀ j x H H', Same H H' → It j x H → It j x H') ∧ ∀ outs H', outs.length = n → Same H1 H' → (∀ j x, outs[j]? = some x → It j x H') → ∀ D, H' D = none → Q (.ref D) (upd H' D (.lst outs))
theorem wx_lcomp {X : Cx} {k : Nat} {iter : Expr} {tc : TCall} {v : Str} {p1 p2 pos : Pos} {scope : Scope} (hc : X.calm = true) (hr : Room (k + 3) X.A) (hi : LIn X k iter tc) (hkind : scope.kind = .function) (hsc : scope.names = [((".0" : Str), .local), (v, .local)]) (hv0 : v ≠ (".0" : Str)) (hvd : (v == ("__debug__" : Str)) = false)
    (hs : ∀ x, foldedSetIterable iter X.env x = pure x := by intro _; rfl) : WX X (.ListComp (.Name v p1) [⟨.Name v p2, iter, [], 0⟩] scope pos) (tLcomp tc) :=
  ⟨fun pins s σ H Q I h => we_lcomp hc hr hi hkind hsc hv0 hvd I h hs⟩
end K91
set_option Elab.async false
set_option linter.all false
set_option maxRecDepth 100000
set_option maxHeartbeats 1000000
/-! The law's mathematics: the sorted lists by indices, the only one, the first one, the places. -/
namespace K91
open K91M
theorem sorted_uniq {α : Type} {le : α → α → Bool} (anti : ∀ a b, le a b = true → le b a = true → a = b) : ∀ {l m : List α}, l.Perm m → l.Pairwise (fun a b => le a b = true) → m.Pairwise (fun a b => le a b = true) → l = m
  | [], m, h, _, _ => (List.nil_perm.mp h).symm
  | a :: l, [], h, _, _ => by have := h.length_eq; simp at this
  | a :: l, b :: m, h, h1, h2 => by
    obtain ⟨p1, p2⟩ := List.pairwise_cons.mp h1
    obtain ⟨q1, q2⟩ := List.pairwise_cons.mp h2
    have e : a = b := by
      rcases List.mem_cons.mp (h.mem_iff.mp List.mem_cons_self) with e | e
      · exact e
      · rcases List.mem_cons.mp (h.mem_iff.mpr List.mem_cons_self) with e' | e'
        · exact e'.symm
        · exact anti _ _ (p1 _ e') (q1 _ e)
    subst e
    rw [sorted_uniq anti (List.Perm.cons_inv h) p2 q2]
theorem eraseIdx_map' {α β : Type} (f : α → β) : ∀ (l : List α) (k : Nat), (l.map f).eraseIdx k = (l.eraseIdx k).map f
  | [], _ => rfl
  | a :: l, 0 => rfl
  | a :: l, k + 1 => by simp [eraseIdx_map' f l k]
theorem eraseIdx_filter : ∀ {I : List Nat} {k : Nat} (hk : k < I.length), I.Nodup → I.eraseIdx k = I.filter fun j => j != I[k]
  | [], k, hk, _ => absurd hk (Nat.not_lt_zero _)
  | a :: I, 0, _, hn => by
    have h := (List.nodup_cons.mp hn).1
    simp only [List.eraseIdx_cons_zero, List.getElem_cons_zero]
    rw [List.filter_cons_of_neg (by simp)]
    refine (List.filter_eq_self.mpr fun j hj => ?_).symm
    have : j ≠ a := fun e => h (e ▸ hj)
    simpa using this
  | a :: I, k + 1, hk, hn => by
    obtain ⟨h1, h2⟩ := List.nodup_cons.mp hn
    have hk' : k < I.length := by simpa using hk
    simp only [List.eraseIdx_cons_succ, List.getElem_cons_succ]
    have hne : a ≠ I[k] := fun e => h1 (e ▸ List.getElem_mem hk')
    rw [List.filter_cons_of_pos (by simpa using hne), eraseIdx_filter hk' h2]
theorem as_range {α : Type} (d : α) (l : List α) : l = (List.range l.length).map fun i => l.getD i d := by
  refine List.ext_getElem (by simp) fun i h1 h2 => ?_
  simp [List.getD_eq_getElem?_getD, h1]
theorem rowAt_map {f : Nat → VV} {I : List Nat} {k : Nat} (hk : k < I.length) : rowAt (I.map f) k = f I[k] := by
  simp [rowAt, List.getD_eq_getElem?_getD, hk]
theorem ords_map (f : Nat → VV) : ∀ (n : Nat) (I : List Nat), I.Nodup → I.length = n → ords n (I.map f) = (ordI n I).map (·.map f)
  | 0, I, _, _ => rfl
  | n + 1, I, hn, hl => by
    unfold ords ordI
    rw [List.map_flatMap]
    conv => rhs; rw [as_range 0 I]
    rw [List.flatMap_map, hl]
    have key : ∀ J : List Nat, (∀ k ∈ J, k < n + 1) → J.flatMap (fun k => (ords n ((I.map f).eraseIdx k)).map (rowAt (I.map f) k :: ·)) = J.flatMap fun k => ((ordI n ((List.map (fun i => I.getD i 0) (List.range (n + 1))).filter fun j => j != I.getD k 0)).map (I.getD k 0 :: ·)).map (·.map f) := by
      intro J
      induction J with
      | nil => intro _; rfl
      | cons k r ih =>
        intro hJ
        rw [List.flatMap_cons, List.flatMap_cons, ih fun x hx => hJ x (List.mem_cons_of_mem _ hx)]
        congr 1
        have hk : k < I.length := by rw [hl]; exact hJ k List.mem_cons_self
        have eI : List.map (fun i => I.getD i 0) (List.range (n + 1)) = I := by rw [← hl]; exact (as_range 0 I).symm
        have ek : I.getD k 0 = I[k] := by simp [List.getD_eq_getElem?_getD, hk]
        rw [eI, ek, ← eraseIdx_filter hk hn, rowAt_map hk, eraseIdx_map', ords_map f n (I.eraseIdx k) (List.Nodup.sublist (List.eraseIdx_sublist _ _) hn) (by rw [List.length_eraseIdx_of_lt hk]; omega), List.map_map, List.map_map]
        rfl
    exact key _ fun k hk => List.mem_range.mp hk
theorem row_range (S : List VV) : (List.range S.length).map (rowAt S) = S := (as_range _ S).symm
theorem okl_map {cs S : List VV} {idx : List Nat} (h : ∀ i ∈ idx, i < S.length) : okl cs (idx.map (rowAt S)) ↔ okP (Lx cs S) idx := by
  unfold okl okP
  rw [List.pairwise_map]
  refine List.Pairwise.iff_of_mem fun {a b} ha hb => ?_
  have ea : rowAt S a = S[a]'(h a ha) := by simp [rowAt, List.getD_eq_getElem?_getD, h a ha]
  have eb : rowAt S b = S[b]'(h b hb) := by simp [rowAt, List.getD_eq_getElem?_getD, h b hb]
  have e : Lx cs S b a = less cs (rowAt S b) (rowAt S a) := by
    unfold Lx
    rw [List.getElem?_eq_getElem (h a ha), List.getElem?_eq_getElem (h b hb), ea, eb]
  rw [e]
theorem due_eq (cs l : List VV) : dueL cs l = (LF (Lx cs (srt l)) (srt l).length 0).map (·.map (rowAt (srt l))) := by
  unfold dueL
  rw [LF_zero (Lx_irr cs _), ← len_srt (l := l)]
  have e := ords_map (rowAt (srt l)) (srt l).length (List.range (srt l).length) List.nodup_range List.length_range
  rw [row_range] at e
  rw [e, List.filter_map]
  congr 1
  refine List.filter_congr fun idx hi => ?_
  have hp := (mem_ordI _ _ List.nodup_range List.length_range.symm idx).mp hi
  simp only [Function.comp]
  exact decide_eq_decide.mpr (okl_map fun i h => List.mem_range.mp (hp.mem_iff.mp h))
theorem wy_due (cs l : List VV) : ways (Lx cs (srt l)) (srt l).length 0 = (dueL cs l).length := by rw [due_eq, List.length_map]; rfl
theorem due_at {cs l r : List VV} {j : Nat} (h : (dueL cs l)[j]? = some r) : ∃ idx, (LF (Lx cs (srt l)) (srt l).length 0)[j]? = some idx ∧ r = idx.map (rowAt (srt l)) := by
  rw [due_eq, List.getElem?_map] at h
  obtain ⟨idx, h1, h2⟩ := Option.map_eq_some_iff.mp h
  exact ⟨idx, h1, h2.symm⟩
theorem due_len_le {cs l : List VV} (h : l.length ≤ 7) : (dueL cs l).length ≤ 5040 := by
  unfold dueL
  refine Nat.le_trans (List.length_filter_le _ _) ?_
  rw [ords_len]
  exact fac_le (m := 7) h
theorem mem_ords : ∀ (n : Nat) (l r : List VV), l.length = n → (r ∈ ords n l ↔ r.Perm l)
  | 0, l, r, hl => by
    have : l = [] := List.eq_nil_of_length_eq_zero hl
    subst this
    simp [ords]
  | n + 1, l, r, hl => by
    refine ⟨ords_perm _ _ hl r, fun h => ?_⟩
    match r, h with
    | [], h => have := h.length_eq; simp at this; omega
    | a :: r', h =>
      obtain ⟨k, hk, e⟩ := List.mem_iff_getElem.mp (h.subset List.mem_cons_self)
      refine List.mem_flatMap.mpr ⟨k, List.mem_range.mpr (by omega), List.mem_map.mpr ⟨r', ?_, ?_⟩⟩
      · refine (mem_ords n (l.eraseIdx k) r' (by rw [List.length_eraseIdx_of_lt hk]; omega)).mpr ?_
        have h2 := h.trans (cep l k hk).symm
        rw [e] at h2
        exact List.Perm.cons_inv h2
      · have : rowAt l k = a := by simp [rowAt, List.getD_eq_getElem?_getD, hk, e]
        rw [this]
theorem mem_due {cs l r : List VV} : r ∈ dueL cs l ↔ r.Perm l ∧ okl cs r := by
  unfold dueL
  rw [List.mem_filter, mem_ords _ _ _ len_srt, decide_eq_true_eq]
  exact ⟨fun h => ⟨h.1.trans (List.mergeSort_perm l _), h.2⟩, fun h => ⟨h.1.trans (List.mergeSort_perm l _).symm, h.2⟩⟩
end K91
namespace K91
open K91M
theorem okl_nodup_ne {cs l r : List VV} (h : r ∈ dueL cs l) (hn : l.Nodup) : r.Nodup := (mem_due.mp h).1.nodup_iff.mpr hn
/-- pairs next to each other -/
theorem ascend_cons {cs : List VV} {a b : VV} {l : List VV} : ascend cs (a :: b :: l) = (less cs a b && ascend cs (b :: l)) := by
  unfold ascend
  simp [List.dropLast]
/-- if each is less than the next one, the order in another sorted list is the same -/
theorem asc_before {cs : List VV} {r' : List VV} (hn : r'.Nodup) (hok : okl cs r') {a b : VV} (ha : a ∈ r') (hb : b ∈ r') (h : less cs a b = true) : [a, b].Sublist r' := by
  induction r' with
  | nil => exact nomatch ha
  | cons x t ih =>
    obtain ⟨n1, n2⟩ := List.nodup_cons.mp hn
    obtain ⟨o1, o2⟩ := List.pairwise_cons.mp hok
    have hab : a ≠ b := fun e => by rw [e, less_irr] at h; cases h
    by_cases e : a = x
    · subst e
      have hb' : b ∈ t := by
        rcases List.mem_cons.mp hb with z | z
        · exact absurd z.symm hab
        · exact z
      exact (List.singleton_sublist.mpr hb').cons₂ a
    · have ha' : a ∈ t := by
        rcases List.mem_cons.mp ha with z | z
        · exact absurd z e
        · exact z
      by_cases e2 : b = x
      · subst e2
        have := o1 a ha'
        rw [h] at this; cases this
      · have hb' : b ∈ t := by
          rcases List.mem_cons.mp hb with z | z
          · exact absurd z e2
          · exact z
        exact (ih n2 o2 ha' hb').cons x
theorem asc_uniq {cs : List VV} : ∀ (r r' : List VV), r.Perm r' → r'.Nodup → okl cs r' → ascend cs r = true → r = r'
  | [], r', h, _, _, _ => (List.nil_perm.mp h).symm
  | [a], r', h, _, _, _ => (List.singleton_perm.mp h).symm ▸ rfl
  | a :: b :: r, [], h, _, _, _ => by have := h.length_eq; simp at this
  | a :: b :: r, x :: t, h, hn, hok, has => by
    rw [ascend_cons, Bool.and_eq_true] at has
    obtain ⟨h1, h2⟩ := has
    have hn0 : (a :: b :: r).Nodup := h.nodup_iff.mpr hn
    obtain ⟨n1, n2⟩ := List.nodup_cons.mp hn
    obtain ⟨m1, m2⟩ := List.nodup_cons.mp hn0
    -- the rest of x :: t without a
    have hae : ((b :: r) : List VV).Perm ((x :: t).erase a) := by
      have := h.erase a
      rwa [List.erase_cons_head] at this
    have hsub : ((x :: t).erase a).Sublist (x :: t) := List.erase_sublist
    have ih := asc_uniq (b :: r) ((x :: t).erase a) hae (hn.sublist hsub) (hok.sublist hsub) h2
    by_cases e : a = x
    · subst e
      rw [List.erase_cons_head] at ih
      rw [← ih]
    · -- then x is the head of what is left, so b = x, but b comes behind a
      rw [List.erase_cons_tail (by simpa using fun z => e z.symm)] at ih
      have eb : b = x := (List.cons.inj ih).1
      subst eb
      have ha : a ∈ (b :: t) := h.mem_iff.mp List.mem_cons_self
      obtain ⟨o1, _⟩ := List.pairwise_cons.mp hok
      have ha' : a ∈ t := by
        rcases List.mem_cons.mp ha with z | z
        · exact absurd z e
        · exact z
      have := o1 a ha'
      rw [h1] at this; cases this
theorem not_asc {cs : List VV} : ∀ (r : List VV), ascend cs r = false → ∃ A x y B, r = A ++ x :: y :: B ∧ less cs x y = false
  | [], h => by simp [ascend] at h
  | [a], h => by simp [ascend] at h
  | a :: b :: r, h => by
    rw [ascend_cons] at h
    by_cases h1 : less cs a b = true
    · rw [h1, Bool.true_and] at h
      obtain ⟨A, x, y, B, e, h2⟩ := not_asc (b :: r) h
      exact ⟨a :: A, x, y, B, by rw [e]; rfl, h2⟩
    · exact ⟨[], a, b, r, rfl, by simpa using h1⟩
theorem okl_swap {cs : List VV} {A B : List VV} {x y : VV} (h : okl cs (A ++ x :: y :: B)) (hxy : less cs x y = false) : okl cs (A ++ y :: x :: B) := by
  unfold okl at *
  rw [List.pairwise_append] at h ⊢
  obtain ⟨h1, h2, h3⟩ := h
  obtain ⟨a1, a2⟩ := List.pairwise_cons.mp h2
  obtain ⟨b1, b2⟩ := List.pairwise_cons.mp a2
  refine ⟨h1, List.pairwise_cons.mpr ⟨fun z hz => ?_, List.pairwise_cons.mpr ⟨fun z hz => a1 z (List.mem_cons_of_mem _ hz), b2⟩⟩, fun p hp q hq => h3 p hp q ?_⟩
  · rcases List.mem_cons.mp hz with e | e
    · rw [e]; exact hxy
    · exact b1 z e
  · rcases List.mem_cons.mp hq with e | e
    · rw [e]; exact List.mem_cons_of_mem _ List.mem_cons_self
    · rcases List.mem_cons.mp e with e | e
      · rw [e]; exact List.mem_cons_self
      · exact List.mem_cons_of_mem _ (List.mem_cons_of_mem _ e)
theorem only_iff {cs l r : List VV} (hn : l.Nodup) (hd : (dueL cs l).Nodup) (h : r ∈ dueL cs l) : ascend cs r = decide ((dueL cs l).length = 1) := by
  obtain ⟨hp, hok⟩ := mem_due.mp h
  cases ha : ascend cs r with
  | true =>
    refine (decide_eq_true ?_).symm
    have all : ∀ r' ∈ dueL cs l, r' = r := fun r' h' => by
      obtain ⟨hp', hok'⟩ := mem_due.mp h'
      exact (asc_uniq r r' (hp.trans hp'.symm) (hp'.nodup_iff.mpr hn) hok' ha).symm
    generalize dueL cs l = D at *
    match D, h, hd, all with
    | [a], _, _, _ => rfl
    | a :: b :: t, _, hd, all =>
      have e1 := all a List.mem_cons_self
      have e2 := all b (List.mem_cons_of_mem _ List.mem_cons_self)
      have := (List.nodup_cons.mp hd).1
      exact absurd (by rw [e1, e2]; exact List.mem_cons_self) this
  | false =>
    refine (decide_eq_false fun h1 => ?_).symm
    obtain ⟨A, x, y, B, e, hxy⟩ := not_asc r ha
    subst e
    have hmem : A ++ y :: x :: B ∈ dueL cs l := mem_due.mpr ⟨((List.Perm.swap x y B).append_left A).trans hp, okl_swap hok hxy⟩
    obtain ⟨z, hz⟩ := List.length_eq_one_iff.mp h1
    rw [hz] at h hmem
    have e1 := List.mem_singleton.mp h
    have e2 := List.mem_singleton.mp hmem
    have e3 : y :: x :: B = x :: y :: B := List.append_cancel_left (e2.trans e1.symm)
    have exy : y = x := (List.cons.inj e3).1
    have hnr : (A ++ x :: y :: B).Nodup := hp.nodup_iff.mpr hn
    rw [exy, List.nodup_append] at hnr
    exact (List.nodup_cons.mp hnr.2.1).1 List.mem_cons_self
/-! ### the first list -/
theorem rowAt_inj {S : List VV} (hn : S.Nodup) {i j : Nat} (hi : i < S.length) (hj : j < S.length) (h : rowAt S i = rowAt S j) : i = j := by
  have ei : rowAt S i = S[i] := by simp [rowAt, List.getD_eq_getElem?_getD, hi]
  have ej : rowAt S j = S[j] := by simp [rowAt, List.getD_eq_getElem?_getD, hj]
  rw [ei, ej] at h
  have hp := List.pairwise_iff_getElem.mp hn
  rcases Nat.lt_trichotomy i j with z | z | z
  · exact absurd h (hp i j hi hj z)
  · exact z
  · exact absurd h.symm (hp j i hj hi z)
theorem less_at {cs S : List VV} {i j : Nat} (hi : i < S.length) (hj : j < S.length) : less cs (rowAt S i) (rowAt S j) = Lx cs S i j := by
  have ei : rowAt S i = S[i] := by simp [rowAt, List.getD_eq_getElem?_getD, hi]
  have ej : rowAt S j = S[j] := by simp [rowAt, List.getD_eq_getElem?_getD, hj]
  unfold Lx
  rw [List.getElem?_eq_getElem hi, List.getElem?_eq_getElem hj, ei, ej]
theorem free_map {cs S : List VV} {I : List Nat} (hI : ∀ i ∈ I, i < S.length) : freeV cs (I.map (rowAt S)) = (frees (Lx cs S) I).map (rowAt S) := by
  unfold freeV frees
  rw [List.filter_map]
  congr 1
  refine List.filter_congr fun k hk => ?_
  simp only [Function.comp]
  rw [List.any_map]
  have : (I.any ((fun o => less cs o (rowAt S k)) ∘ rowAt S)) = I.any fun j => Lx cs S j k := by
    rw [Bool.eq_iff_iff, List.any_eq_true, List.any_eq_true]
    constructor
    · rintro ⟨j, hj, h⟩
      exact ⟨j, hj, by rw [← less_at (hI j hj) (hI k hk)]; exact h⟩
    · rintro ⟨j, hj, h⟩
      exact ⟨j, hj, by show less cs (rowAt S j) (rowAt S k) = true; rw [less_at (hI j hj) (hI k hk)]; exact h⟩
  rw [this, List.not_any_eq_all_not]
theorem erase_map {S : List VV} (hn : S.Nodup) {I : List Nat} (hI : ∀ i ∈ I, i < S.length) (hnd : I.Nodup) {k : Nat} (hk : k ∈ I) : (I.map (rowAt S)).erase (rowAt S k) = (I.filter fun j => j != k).map (rowAt S) := by
  induction I with
  | nil => exact nomatch hk
  | cons a r ih =>
    obtain ⟨n1, n2⟩ := List.nodup_cons.mp hnd
    have ha := hI a List.mem_cons_self
    have hk' := hI k hk
    by_cases e : a = k
    · subst e
      rw [List.map_cons, List.erase_cons_head, List.filter_cons_of_neg (by simp)]
      rw [List.filter_eq_self.mpr fun j hj => by
        have : j ≠ a := fun z => n1 (z ▸ hj)
        simpa using this]
    · have hkr : k ∈ r := by
        rcases List.mem_cons.mp hk with z | z
        · exact absurd z.symm e
        · exact z
      have hne : rowAt S a ≠ rowAt S k := fun z => e (rowAt_inj hn ha hk' z)
      rw [List.map_cons, List.erase_cons_tail (by simpa using hne), List.filter_cons_of_pos (by simpa using e), List.map_cons, ih (fun i hi => hI i (List.mem_cons_of_mem _ hi)) n2 hkr]
theorem first_go {cs S : List VV} (hn : S.Nodup) : ∀ (f : Nat) (I : List Nat), (∀ i ∈ I, i < S.length) → I.Nodup → I.length = f → sortable cs (I.map (rowAt S)) → ∃ idx, (LFI (Lx cs S) f I)[0]? = some idx ∧ firstGo cs f (I.map (rowAt S)) = idx.map (rowAt S)
  | 0, I, _, _, _, _ => ⟨[], rfl, rfl⟩
  | f + 1, I, hI, hnd, hl, hs => by
    have hne : I.map (rowAt S) ≠ [] := fun e => by have := congrArg List.length e; simp [hl] at this
    have hf := free_ne hs hne
    rw [free_map hI] at hf
    obtain ⟨k, rest, hk⟩ := List.exists_cons_of_ne_nil (fun e => hf (by rw [e]; rfl) : frees (Lx cs S) I ≠ [])
    have hkI : k ∈ I := (List.mem_filter.mp (show k ∈ frees (Lx cs S) I by rw [hk]; exact List.mem_cons_self)).1
    have hs2 := sortable_erase hs (rowAt S k)
    rw [erase_map hn hI hnd hkI] at hs2
    have hlen := len_filter_ne hnd hkI
    obtain ⟨idx, h1, h2⟩ := first_go hn f (I.filter fun j => j != k) (fun i hi => hI i (List.mem_filter.mp hi).1) (hnd.filter _) (by omega) hs2
    refine ⟨k :: idx, ?_, ?_⟩
    · unfold LFI
      rw [hk, List.flatMap_cons]
      have hlt : 0 < ((LFI (Lx cs S) f (I.filter fun j => j != k)).map (k :: ·)).length := by
        rw [List.length_map]
        exact (List.getElem?_eq_some_iff.mp h1).1
      rw [List.getElem?_append_left hlt, List.getElem?_map, h1]; rfl
    · have ef : freeV cs (I.map (rowAt S)) = rowAt S k :: rest.map (rowAt S) := by rw [free_map hI, hk]; rfl
      show (match freeV cs (I.map (rowAt S)) with | [] => [] | v :: _ => v :: firstGo cs f ((I.map (rowAt S)).erase v)) = _
      rw [ef]
      simp only [List.map_cons]
      rw [erase_map hn hI hnd hkI, h2]
theorem first_due {cs l r : List VV} (hn : l.Nodup) (h : (dueL cs l)[0]? = some r) : sortable cs l ∧ firstGo cs l.length (srt l) = r := by
  have hm := mem_due.mp (List.mem_of_getElem? h)
  have hs : sortable cs l := ⟨r, hm.1, hm.2⟩
  refine ⟨hs, ?_⟩
  have hnS : (srt l).Nodup := (List.mergeSort_perm l _).nodup_iff.mpr hn
  have hsS : sortable cs (srt l) := ⟨r, hm.1.trans (List.mergeSort_perm l _).symm, hm.2⟩
  obtain ⟨idx, h1, h2⟩ := first_go (cs := cs) hnS (srt l).length (List.range (srt l).length) (fun i hi => List.mem_range.mp hi) List.nodup_range List.length_range (by rw [row_range]; exact hsS)
  rw [row_range] at h2
  obtain ⟨idx', h3, h4⟩ := due_at h
  have e : LF (Lx cs (srt l)) (srt l).length 0 = LFI (Lx cs (srt l)) (srt l).length (List.range (srt l).length) := by
    unfold LF
    have : unset (srt l).length 0 = List.range (srt l).length := by
      unfold unset
      rw [List.filter_eq_self]
      intro i _
      simp
    rw [this, List.length_range]
  rw [e, h1] at h3
  rw [h4, ← Option.some.inj h3, ← h2, len_srt]
end K91
namespace K91
open K91M
/-! ### the order of the orders -/
section
variable {leV : VV → VV → Bool} {leL : List VV → List VV → Bool}
theorem mem_ords_head {n : Nat} {l : List VV} {k : Nat} {x : List VV} (h : x ∈ (ords n (l.eraseIdx k)).map (rowAt l k :: ·)) : ∃ r, r ∈ ords n (l.eraseIdx k) ∧ x = rowAt l k :: r := by
  obtain ⟨r, h1, h2⟩ := List.mem_map.mp h
  exact ⟨r, h1, h2.symm⟩
theorem ords_sorted (h1 : ∀ a b r r', leV a b = true → a ≠ b → leL (a :: r) (b :: r') = true) (h2 : ∀ a r r', leL r r' = true → leL (a :: r) (a :: r') = true) : ∀ (n : Nat) (l : List VV), l.length = n → l.Pairwise (fun a b => leV a b = true ∧ a ≠ b) → (ords n l).Pairwise fun r r' => leL r r' = true ∧ r ≠ r'
  | 0, l, _, _ => by simp [ords]
  | n + 1, l, hl, hp => by
    unfold ords
    rw [List.pairwise_flatMap]
    refine ⟨fun k hk => ?_, ?_⟩
    · rw [List.pairwise_map]
      refine List.Pairwise.imp ?_ (ords_sorted h1 h2 n (l.eraseIdx k) (by rw [List.length_eraseIdx_of_lt (by have := List.mem_range.mp hk; omega)]; omega) (hp.sublist (List.eraseIdx_sublist _ _)))
      rintro a b ⟨p, q⟩
      exact ⟨h2 _ _ _ p, fun e => q (List.cons.inj e).2⟩
    · refine List.Pairwise.imp_of_mem (R := (· < ·)) ?_ List.pairwise_lt_range
      intro i j hi hj hij x hx y hy
      obtain ⟨r, _, rfl⟩ := mem_ords_head hx
      obtain ⟨r', _, rfl⟩ := mem_ords_head hy
      have hi' : i < l.length := by have := List.mem_range.mp hi; omega
      have hj' : j < l.length := by have := List.mem_range.mp hj; omega
      have ei : rowAt l i = l[i] := by simp [rowAt, List.getD_eq_getElem?_getD, hi']
      have ej : rowAt l j = l[j] := by simp [rowAt, List.getD_eq_getElem?_getD, hj']
      obtain ⟨q1, q2⟩ := List.pairwise_iff_getElem.mp hp i j hi' hj' hij
      rw [ei, ej]
      exact ⟨h1 _ _ _ _ q1 q2, fun e => q2 (List.cons.inj e).1⟩
end
/-! ### the places -/
theorem lowN_spec {cs : List VV} {v : VV} {l : List VV} : ∀ n, n ≤ l.length → ∀ i, lowN cs v l n ≤ i ↔ ∀ j o, l[j]? = some o → i ≤ j → j < n → less cs o v = false
  | 0, _, i => ⟨fun _ j _ _ _ h => absurd h (Nat.not_lt_zero _), fun _ => Nat.zero_le _⟩
  | n + 1, hn, i => by
    have hl : n < l.length := by omega
    have ih := lowN_spec (cs := cs) (v := v) (l := l) n (by omega) i
    unfold lowN
    rw [List.getElem?_eq_getElem hl]
    simp only []
    by_cases h : less cs l[n] v = true
    · rw [if_pos h]
      constructor
      · intro hi j o _ h1 h2
        omega
      · intro hall
        refine Nat.le_of_not_lt fun hlt => ?_
        have := hall n _ (List.getElem?_eq_getElem hl) (by omega) (Nat.lt_succ_self n)
        rw [h] at this; cases this
    · rw [if_neg h, ih]
      constructor
      · intro hall j o ho h1 h2
        by_cases e : j = n
        · subst e
          rw [List.getElem?_eq_getElem hl] at ho
          rw [← Option.some.inj ho]; simpa using h
        · exact hall j o ho h1 (by omega)
      · intro hall j o ho h1 h2
        exact hall j o ho h1 (by omega)
theorem highN_spec {cs : List VV} {v : VV} {l : List VV} : ∀ n, n ≤ l.length → ∀ i, i ≤ highN cs v l n ↔ (i ≤ l.length ∧ ∀ j o, l[j]? = some o → j < i → j < n → less cs v o = false)
  | 0, _, i => ⟨fun h => ⟨h, fun j _ _ _ h => absurd h (Nat.not_lt_zero _)⟩, fun h => h.1⟩
  | n + 1, hn, i => by
    have hl : n < l.length := by omega
    have ih := highN_spec (cs := cs) (v := v) (l := l) n (by omega) i
    unfold highN
    rw [List.getElem?_eq_getElem hl]
    simp only []
    by_cases h : less cs v l[n] = true
    · rw [if_pos h, Nat.le_min, ih]
      constructor
      · rintro ⟨⟨hi, hall⟩, hin⟩
        refine ⟨hi, fun j o ho h1 h2 => hall j o ho h1 (by omega)⟩
      · rintro ⟨hi, hall⟩
        have hin : i ≤ n := Nat.le_of_not_lt fun hlt => by
          have := hall n _ (List.getElem?_eq_getElem hl) hlt (Nat.lt_succ_self n)
          rw [h] at this; cases this
        exact ⟨⟨hi, fun j o ho h1 h2 => hall j o ho h1 (by omega)⟩, hin⟩
    · rw [if_neg h, ih]
      constructor
      · rintro ⟨hi, hall⟩
        refine ⟨hi, fun j o ho h1 h2 => ?_⟩
        by_cases e : j = n
        · subst e
          rw [List.getElem?_eq_getElem hl] at ho
          rw [← Option.some.inj ho]; simpa using h
        · exact hall j o ho h1 (by omega)
      · rintro ⟨hi, hall⟩
        exact ⟨hi, fun j o ho h1 h2 => hall j o ho h1 (by omega)⟩
theorem okl_with {cs : List VV} {v : VV} {line : List VV} {i : Nat} (hi : i ≤ line.length) (hok : okl cs line) : okl cs (withV v line i) ↔ (lowP cs v line ≤ i ∧ i ≤ highP cs v line) := by
  unfold lowP highP
  rw [lowN_spec _ (Nat.le_refl _), highN_spec _ (Nat.le_refl _)]
  unfold withV
  have hsplit := List.take_append_drop i line
  constructor
  · intro h
    unfold okl at h
    rw [List.pairwise_append] at h
    obtain ⟨_, h2, h3⟩ := h
    obtain ⟨a1, _⟩ := List.pairwise_cons.mp h2
    refine ⟨fun j o ho h4 _ => a1 o ?_, hi, fun j o ho h4 _ => h3 o ?_ v List.mem_cons_self⟩
    · refine List.mem_iff_getElem?.mpr ⟨j - i, ?_⟩
      rw [List.getElem?_drop, show i + (j - i) = j by omega]; exact ho
    · refine List.mem_iff_getElem?.mpr ⟨j, ?_⟩
      rw [List.getElem?_take, if_pos h4]; exact ho
  · rintro ⟨hlo, _, hhi⟩
    have hok' := hok
    unfold okl at hok' ⊢
    rw [← hsplit, List.pairwise_append] at hok'
    obtain ⟨p1, p2, p3⟩ := hok'
    rw [List.pairwise_append]
    refine ⟨p1, List.pairwise_cons.mpr ⟨fun b hb => ?_, p2⟩, fun a ha b hb => ?_⟩
    · obtain ⟨k, hk⟩ := List.mem_iff_getElem?.mp hb
      rw [List.getElem?_drop] at hk
      exact hlo _ b hk (by omega) (List.getElem?_eq_some_iff.mp hk).1
    · rcases List.mem_cons.mp hb with e | e
      · subst e
        obtain ⟨k, hk⟩ := List.mem_iff_getElem?.mp ha
        rw [List.getElem?_take] at hk
        split at hk
        · rename_i hki
          exact hhi k a hk hki (List.getElem?_eq_some_iff.mp hk).1
        · cases hk
      · exact p3 a ha b e
theorem mem_insV {cs : List VV} {v : VV} {line x : List VV} (hok : okl cs line) : x ∈ insV cs v line ↔ ∃ i, i ≤ line.length ∧ x = withV v line i ∧ okl cs x := by
  unfold insV
  have hhi := highN_le cs v line line.length
  constructor
  · intro h
    split at h
    · rename_i hle
      obtain ⟨k, hk, e⟩ := List.mem_map.mp h
      have hk := List.mem_range.mp hk
      have : lowP cs v line + k ≤ highP cs v line := by omega
      have hin : lowP cs v line + k ≤ line.length := Nat.le_trans this hhi
      exact ⟨_, hin, e.symm, by rw [← e]; exact (okl_with hin hok).mpr ⟨by omega, this⟩⟩
    · exact nomatch h
  · rintro ⟨i, hi, rfl, hx⟩
    obtain ⟨h1, h2⟩ := (okl_with hi hok).mp hx
    rw [if_pos (Nat.le_trans h1 h2)]
    exact List.mem_map.mpr ⟨i - lowP cs v line, List.mem_range.mpr (by omega), by rw [show lowP cs v line + (i - lowP cs v line) = i by omega]⟩
theorem with_erase {v : VV} {line : List VV} {i : Nat} (h : v ∉ line) : (withV v line i).erase v = line := by
  unfold withV
  rw [List.erase_append_right _ (fun z => h (List.mem_of_mem_take z)), List.erase_cons_head, List.take_append_drop]
theorem with_inj {v : VV} {line : List VV} {i j : Nat} (h : v ∉ line) (hi : i ≤ line.length) (hj : j ≤ line.length) (e : withV v line i = withV v line j) : i = j := by
  have key : ∀ k, k ≤ line.length → (withV v line k).idxOf v = k := fun k hk => by
    unfold withV
    rw [List.idxOf_append, if_neg (fun z => h (List.mem_of_mem_take z)), List.idxOf_cons_self, List.length_take, Nat.min_eq_left hk]; omega
  rw [← key i hi, ← key j hj, e]
theorem with_perm {v : VV} {line : List VV} {i : Nat} : (withV v line i).Perm (v :: line) := by
  unfold withV
  have h := List.perm_middle (a := v) (l₁ := line.take i) (l₂ := line.drop i)
  rwa [List.take_append_drop] at h
theorem back_with {v : VV} {x : List VV} (h : v ∈ x) : ∃ i, i ≤ (x.erase v).length ∧ x = withV v (x.erase v) i := by
  obtain ⟨A, B, e, hA⟩ := List.eq_append_cons_of_mem h
  subst e
  rw [List.erase_append_right _ hA, List.erase_cons_head]
  refine ⟨A.length, by simp, ?_⟩
  unfold withV
  rw [List.take_left, List.drop_left]
theorem but_eq {l : List VV} (hn : l.Nodup) (v : VV) : (l.filter fun x => decide (x ≠ v)) = l.erase v := by
  rw [hn.erase_eq_filter]
  refine List.filter_congr fun x _ => ?_
  by_cases e : x = v <;> simp [e]
theorem found_perm {cs l : List VV} {v : VV} (hn : l.Nodup) (hv : v ∈ l) (hd : ∀ cs' l', (l' : List VV).Nodup → (dueL cs' l').Nodup) : (foundV cs l v).Perm (dueL cs l) := by
  have hvn : v ∉ l.erase v := fun h => by
    rw [hn.erase_eq_filter] at h
    simpa using (List.mem_filter.mp h).2
  have hln : (l.erase v).Nodup := hn.sublist List.erase_sublist
  have line : ∀ r, r ∈ dueL (cs.filter fun x => decide (x ≠ v)) (l.filter fun x => decide (x ≠ v)) ↔ r.Perm (l.erase v) ∧ okl cs r := fun r => by
    rw [but_eq hn, mem_due]
    refine and_congr_right fun hp => okl_but fun h => hvn (hp.mem_iff.mp h)
  have nv : ∀ r : List VV, r.Perm (l.erase v) → v ∉ r := fun r hp h => hvn (hp.mem_iff.mp h)
  refine (List.perm_ext_iff_of_nodup ?_ (hd cs l hn)).mpr fun x => ?_
  · unfold foundV
    rw [List.Nodup, List.pairwise_flatMap]
    refine ⟨fun r hr => ?_, ?_⟩
    · obtain ⟨hp, hok⟩ := (line r).mp hr
      unfold insV
      split
      · rename_i hle
        rw [List.pairwise_map]
        refine List.Pairwise.imp_of_mem (R := (· < ·)) ?_ List.pairwise_lt_range
        intro i j hi hj hij e
        have := with_inj (nv r hp) (by have hh : highP cs v r ≤ r.length := highN_le cs v r r.length; have := List.mem_range.mp hi; omega) (by have hh : highP cs v r ≤ r.length := highN_le cs v r r.length; have := List.mem_range.mp hj; omega) e
        omega
      · exact List.Pairwise.nil
    · have hdn := hd (cs.filter fun x => decide (x ≠ v)) (l.filter fun x => decide (x ≠ v)) (by rw [but_eq hn]; exact hln)
      refine List.Pairwise.imp_of_mem ?_ hdn
      intro r r' hr hr' hne x hx y hy e
      obtain ⟨hp, hok⟩ := (line r).mp hr
      obtain ⟨hp', hok'⟩ := (line r').mp hr'
      obtain ⟨i, _, e1, _⟩ := (mem_insV hok).mp hx
      obtain ⟨j, _, e2, _⟩ := (mem_insV hok').mp hy
      rw [e1, e2] at e
      have := congrArg (fun z => z.erase v) e
      simp only [with_erase (nv r hp), with_erase (nv r' hp')] at this
      exact hne this
  · unfold foundV
    rw [List.mem_flatMap, mem_due]
    constructor
    · rintro ⟨r, hr, hx⟩
      obtain ⟨hp, hok⟩ := (line r).mp hr
      obtain ⟨i, _, e, hx⟩ := (mem_insV hok).mp hx
      exact ⟨by rw [e]; exact with_perm.trans ((hp.cons v).trans (List.perm_cons_erase hv).symm), hx⟩
    · rintro ⟨hp, hok⟩
      have hvx : v ∈ x := hp.mem_iff.mpr hv
      have hok' : okl cs (x.erase v) := List.Pairwise.sublist List.erase_sublist hok
      refine ⟨x.erase v, (line _).mpr ⟨hp.erase v, hok'⟩, (mem_insV hok').mpr ?_⟩
      obtain ⟨i, hi, e⟩ := back_with hvx
      exact ⟨i, hi, e, hok⟩
end K91
set_option Elab.async false
set_option linter.all false
set_option maxRecDepth 100000
set_option maxHeartbeats 1000000
/-! The law's mathematics: Python's order of the values and of their lists. -/
namespace K91
open PySem PySem.Spec PyProof.Rows L2
open K91M
abbrev leV : VV → VV → Bool := PySem.W.dataLe false encV
abbrev leL : List VV → List VV → Bool := PySem.W.dataLe false encL
def tk (x : VV) : List (Int ⊕ List Nat) := [.inl 1, .inr x.k.cps.toList, .inl 1, .inl x.o, .inl 1, .inl x.m, .inl 0]
theorem tk_of (x : VV) : PySem.W.keyToks (encV x) = tk x := by simp [encV, PySem.W.keyToks, PySem.W.keyToksAll, tk]
theorem tk_inj {x y : VV} (h : tk x = tk y) : x = y := by
  obtain ⟨a, b, c⟩ := x
  obtain ⟨a', b', c'⟩ := y
  simp only [tk, List.cons.injEq, Sum.inl.injEq, Sum.inr.injEq, and_true, true_and] at h
  obtain ⟨h1, h2, h3⟩ := h
  rw [PySem.W.str_of_cps h1, h2, h3]
def tks : List VV → List (Int ⊕ List Nat)
  | [] => [.inl 0]
  | x :: l => (.inl 1 :: tk x) ++ tks l
theorem tks_all : ∀ l : List VV, PySem.W.keyToksAll (l.map encV) = tks l
  | [] => by simp [PySem.W.keyToksAll, tks]
  | x :: l => by
    rw [List.map_cons, PySem.W.keyToksAll, tk_of, tks_all l]
    rfl
theorem tks_of (l : List VV) : PySem.W.keyToks (encL l) = tks l := by
  simp only [encL, PySem.W.keyToks]
  exact tks_all l
theorem tks_inj : ∀ {l m : List VV}, tks l = tks m → l = m
  | [], [], _ => rfl
  | [], x :: m, h => by simp [tks] at h
  | x :: l, [], h => by simp [tks] at h
  | x :: l, y :: m, h => by
    simp only [tks] at h
    obtain ⟨h1, h2⟩ := List.append_inj h (by simp [tk])
    rw [tk_inj (List.cons.inj h1).2, tks_inj h2]
theorem leV_eq (x y : VV) : leV x y = !PyProof.Rows.lexLt PyProof.Rows.itemOrd (tk y) (tk x) := by
  show (!PyProof.Rows.lexLt PyProof.Rows.itemOrd (PySem.W.keyToks (encV y)) (PySem.W.keyToks (encV x))) = _
  rw [tk_of, tk_of]
theorem leL_eq (x y : List VV) : leL x y = !PyProof.Rows.lexLt PyProof.Rows.itemOrd (tks y) (tks x) := by
  show (!PyProof.Rows.lexLt PyProof.Rows.itemOrd (PySem.W.keyToks (encL y)) (PySem.W.keyToks (encL x))) = _
  rw [tks_of, tks_of]
theorem leV_anti (x y : VV) (h1 : leV x y = true) (h2 : leV y x = true) : x = y := by
  rw [leV_eq, Bool.not_eq_true'] at h1 h2
  exact tk_inj (lex_total (O := PyProof.Rows.itemOrd) _ _ h2 h1)
theorem leL_anti (x y : List VV) (h1 : leL x y = true) (h2 : leL y x = true) : x = y := by
  rw [leL_eq, Bool.not_eq_true'] at h1 h2
  exact tks_inj (lex_total (O := PyProof.Rows.itemOrd) _ _ h2 h1)
theorem lex_app {a b u v : List (Int ⊕ List Nat)} (hl : a.length = b.length) (h : PyProof.Rows.lexLt PyProof.Rows.itemOrd a b = true) : PyProof.Rows.lexLt PyProof.Rows.itemOrd (a ++ u) (b ++ v) = true := by
  induction a generalizing b with
  | nil =>
    cases b with
    | nil => rw [lex_irrefl] at h; cases h
    | cons y b => simp at hl
  | cons x a ih =>
    cases b with
    | nil => simp at hl
    | cons y b =>
      rw [List.cons_append, List.cons_append]
      rcases (lex_true (O := PyProof.Rows.itemOrd)).mp h with e | ⟨e1, e2⟩
      · exact (lex_true (O := PyProof.Rows.itemOrd)).mpr (.inl e)
      · exact (lex_true (O := PyProof.Rows.itemOrd)).mpr (.inr ⟨e1, ih (by simpa using hl) e2⟩)
theorem lex_asym {a b : List (Int ⊕ List Nat)} (h : PyProof.Rows.lexLt PyProof.Rows.itemOrd a b = true) : PyProof.Rows.lexLt PyProof.Rows.itemOrd b a = false := by
  cases e : PyProof.Rows.lexLt PyProof.Rows.itemOrd b a with
  | false => rfl
  | true =>
    have := lex_trans (O := PyProof.Rows.itemOrd) _ _ _ h e
    rw [lex_irrefl] at this; cases this
theorem leL_head (a b : VV) (r r' : List VV) (h : leV a b = true) (hne : a ≠ b) : leL (a :: r) (b :: r') = true := by
  rw [leV_eq, Bool.not_eq_true'] at h
  rw [leL_eq, Bool.not_eq_true']
  have hlt : PyProof.Rows.lexLt PyProof.Rows.itemOrd (tk a) (tk b) = true := by
    cases e : PyProof.Rows.lexLt PyProof.Rows.itemOrd (tk a) (tk b) with
    | true => rfl
    | false => exact absurd (tk_inj (lex_total (O := PyProof.Rows.itemOrd) _ _ e h)) hne
  have hlt2 : PyProof.Rows.lexLt PyProof.Rows.itemOrd (.inl 1 :: tk a) (.inl 1 :: tk b) = true := by
    rw [lex_self (O := PyProof.Rows.itemOrd)]; exact hlt
  exact lex_asym (lex_app (by simp [tk]) hlt2)
theorem leL_tail (a : VV) (r r' : List VV) (h : leL r r' = true) : leL (a :: r) (a :: r') = true := by
  rw [leL_eq, Bool.not_eq_true'] at h ⊢
  exact (PySem.W.lex_pre (.inl 1 :: tk a) (tks r') (tks r)).trans h
theorem srt_sorted (l : List VV) : (srt l).Pairwise fun a b => leV a b = true :=
  List.pairwise_mergeSort (fun a b c h1 h2 => (PySem.W.sortLe_total (PyProof.Rows.listOrd PyProof.Rows.itemOrd) false fun b => PySem.W.keyToks (encV b)).trans a b c h1 h2)
    (fun a b => by
      have := (PySem.W.sortLe_total (PyProof.Rows.listOrd PyProof.Rows.itemOrd) false fun b => PySem.W.keyToks (encV b)).total a b
      simpa using this) l
theorem srt_perm {l m : List VV} (h : l.Perm m) : srt l = srt m :=
  sorted_uniq leV_anti (((List.mergeSort_perm l _).trans h).trans (List.mergeSort_perm m _).symm) (srt_sorted l) (srt_sorted m)
theorem due_sorted {cs l : List VV} (hn : l.Nodup) : (dueL cs l).Pairwise fun r r' => leL r r' = true ∧ r ≠ r' := by
  refine List.Pairwise.sublist List.filter_sublist (ords_sorted leL_head leL_tail l.length (srt l) len_srt ?_)
  have hnS : (srt l).Nodup := (List.mergeSort_perm l _).nodup_iff.mpr hn
  exact (srt_sorted l).and hnS
theorem due_nodup {cs l : List VV} (hn : l.Nodup) : (dueL cs l).Nodup := (due_sorted hn).imp fun h => h.2
theorem found_due {cs l : List VV} {v : VV} (hn : l.Nodup) (hv : v ∈ l) : (foundV cs l v).mergeSort leL = dueL cs l :=
  sorted_uniq leL_anti ((List.mergeSort_perm _ _).trans (found_perm hn hv fun cs' l' h => due_nodup h))
    (List.pairwise_mergeSort (fun a b c h1 h2 => (PySem.W.sortLe_total (PyProof.Rows.listOrd PyProof.Rows.itemOrd) false fun b => PySem.W.keyToks (encL b)).trans a b c h1 h2)
      (fun a b => by
        have := (PySem.W.sortLe_total (PyProof.Rows.listOrd PyProof.Rows.itemOrd) false fun b => PySem.W.keyToks (encL b)).total a b
        simpa using this) _)
    ((due_sorted hn).imp fun h => h.1)
end K91
set_option Elab.async false
set_option linter.all false
set_option maxRecDepth 100000
set_option maxHeartbeats 2000000
/-! The law's helpers: _law_numbers_right. -/
namespace K91
open PySem PySem.Spec PyProof.Rows L2 GenW
open K91M
def spNumR (K : PySem.W.Frag) : Sp := fun vs H Q _ => ∃ a us vm d ds l cs, vs = [.ref a, vm, .ref d] ∧ H a = some (.lst us) ∧ Vs H us l ∧ l.Nodup ∧ l.length ≤ 7 ∧ RowR K H vm cs ∧ H d = some (.lst ds) ∧ Paired (Lat H) ds (dueL cs l) ∧ ∀ H', Same H H' → Q (.bl true) H'
theorem Pr.mk {α β : Type} {F : α → β → Prop} : ∀ {xs : List α} {us : List β}, xs.length = us.length → (∀ (j : Nat) (x : α), xs[j]? = some x → ∃ u : β, us[j]? = some u ∧ F x u) → Paired F xs us
  | [], [], _, _ => .nil
  | [], _ :: _, h, _ => by simp at h
  | _ :: _, [], h, _ => by simp at h
  | x :: xs, u :: us, h, hf => by
    obtain ⟨u', e, r⟩ := hf 0 x rfl
    have e' : u = u' := by simpa using e
    subst e'
    exact .cons r (Pr.mk (by simpa using h) fun j x hx => hf (j + 1) x (by simpa using hx))
theorem eqv_lists (l l' : List (List VV)) : PyData.eqv (.list (l.map encL)) (.list (l'.map encL)) = decide (l = l') := by
  rw [← encLs_eqv]
  simp [PyData.eqv]
theorem Lat.shaped {H : Hp} {v : V} {r : List VV} (h : Lat H v r) : SeqAt.shaped (encL r) = true := by
  obtain ⟨_, _, _, _, q⟩ := h
  exact encL_shaped q.ok
section
variable {P : Program} {w : World} {K : PySem.W.Frag} {mg : Str → Option Value} {base : Heap}
theorem okNumR (T : Tx K mg) : FnW P w K mg base 34 (He.fAd K dLNumR.at_) (fdOf K dLNumR) ["_law_bag_here", "_law_marks_here", "_law_due"] (spNumR K) := by
  refine fnw_of (T.f 35) cLNumR (fun vs H Q E h => ?_) (fun cdv A outer s H vs Q hr h => ⟨_, 
    (wss_cons (ws_if (wt_cmp (neD (room_64 hr)) (wx_lcomp (k := 29) rfl (hr.mono (by decide)) (lin_lists T rfl (room_d hr) rfl (pa_cons (pv 0) pa_nil) (pk_cons pe_int (pk_cons (pv 1) pk_nil))) rfl rfl (by decide) (by decide)) (pv 2) (nomark _)) (wss_of (pss_one (ps_ret pe_bl))) (wss_of pss_nil))
    (wss_of (pss_cons (ps_if (pt_cmpR op_ne (pe_callN (okCountL T) (hr.mono (by decide)) rfl (T.g 9) (T.f 13).kp (kCountL T) pass0 (pa_cons (pv 0) pa_nil) (pk_cons (pv 1) pk_nil)) (pe_callB clen (by rfl) (T.fr 34) PySem.boot_len (pa_cons (pv 2) pa_nil)) (nomark _)) (pss_one (ps_ret pe_bl)) pss_nil)
    (pss_cons (ps_for PassesOwn.never rfl (piL (pe_slice sl_list (pe_lst (pa_cons pe_int (pa_cons (pe_op op_fdiv (pe_callB clen (by rfl) (T.fr 34) PySem.boot_len (pa_cons (pv 2) pa_nil)) pe_int) (pa_cons (pe_op op_sub (pe_callB clen (by rfl) (T.fr 34) PySem.boot_len (pa_cons (pv 2) pa_nil)) pe_int) pa_nil)))) po_none (po_some (pe_callB clen (by rfl) (T.fr 34) PySem.boot_len (pa_cons (pv 2) pa_nil))))) (pg_name (i := 3) cLNumR.nd rfl (Or.inl rfl))
      (pss_cons (ps_if (PW.pt (pw_or (pt_cmpR (neD (room_64 hr)) (pe_callN (okListAt T) (hr.mono (by decide)) rfl (T.g 11) (T.f 15).kp (kListAt T) pass0 (pa_cons (pv 0) (pa_cons (pv 3) pa_nil)) (pk_cons (pv 1) pk_nil)) (pe_ix ixL (pv 2) (pv 3) (fun _ _ => rfl)) (nomark _))
          (pw_or1 (pt_cmpR op_ne (pe_callN (okIndexOf T) (hr.mono (by decide)) rfl (T.g 12) (T.f 16).kp (kIndexOf T) pass0 (pa_cons (pe_ix ixL (pv 2) (pv 3) (fun _ _ => rfl)) pa_nil) (pk_cons (pv 1) pk_nil)) (pv 3) (nomark _))))) (pss_one (ps_ret pe_bl)) pss_nil)
      (pss_one (ps_if (pt_cmpR op_ne (pe_callN (okOnly T) (hr.mono (by decide)) rfl (T.g 8) (T.f 8).kp (kIsOnly T) pass0 (pa_cons (pe_ix ixL (pv 2) (pv 3) (fun _ _ => rfl)) pa_nil) (pk_cons (pv 1) pk_nil)) (pe_cmpR op_eq (pe_callB clen (by rfl) (T.fr 34) PySem.boot_len (pa_cons (pv 2) pa_nil)) pe_int (nomark _)) (nomark _)) (pss_one (ps_ret pe_bl)) pss_nil))))
    (pss_one (ps_ret (pe_or (pe_cmpR (op_eqD (room_64 hr)) (pv 2) (pe_lst pa_nil) (nomark _)) (pe_one (pe_cmpR (op_eqD (room_64 hr)) (pe_callN (okFirst T) (hr.mono (by decide)) rfl (T.g 7) (T.f 7).kp (kFirstL T) pass0 (pa_cons (pv 0) pa_nil) (pk_cons (pv 1) pk_nil)) (pe_ix ixL (pv 2) pe_int (fun _ _ => rfl)) (nomark _)))))))))), ?_⟩)
  · obtain ⟨_, _, _, _, _, _, _, rfl, _⟩ := h
    rfl
  obtain ⟨a, us, vm, d, ds, l, cs, rfl, ha, hu, hln, hll, hm, hd, hds, hQ⟩ := h
  have hz := sizeLine_eq
  have hrow : RowR K H (.ref a) l := ⟨a, us, rfl, .inl (.inl (.inl ha)), hu⟩
  have hw : ((wy cs l 0 : Nat) : Int) ≤ 5040 := by
    have h1 : wy cs l 0 = (dueL cs l).length := wy_due cs l
    have h2 := due_len_le (cs := cs) hll
    omega
  have hdl : ds.length = (dueL cs l).length := hds.length
  have hwl : wy cs l 0 = ds.length := by rw [hdl]; exact wy_due cs l
  refine ⟨_, rfl, _, rfl, rfl, rfl, _, _, l, cs, 5040, rfl, hrow, hm, by omega, hw, by omega, fun j x H1 H2 s q => ?_, fun outs H1 hol s1 hit D hD => ?_⟩
  · obtain ⟨idx, h1, h2⟩ := q
    exact ⟨idx, h1, h2.same s⟩
  have sD := s1.trans (Same.new (o := .lst outs) hD)
  have hot : Paired (Lat (upd H1 D (.lst outs))) outs (dueL cs l) := by
    refine Pr.mk (by rw [hol]; exact wy_due cs l) fun j x hx => ?_
    obtain ⟨idx, h1, h2⟩ := hit j x hx
    refine ⟨idx.map (rowAt (srt l)), ?_, h2.same (Same.new hD)⟩
    rw [due_eq, List.getElem?_map, h1]; rfl
  have hds1 := Paired.mapP hds fun y x q => Lat.same q sD
  refine ⟨_, rfl, _, _, .lst (.inl (.inl upd_same)) (Ls.dp hot), .lst (.inl (.inl (sD _ _ hd))) (Ls.dp hds1), listL_shaped (Ls.ok hot), listL_shaped (Ls.ok hds1), _, rfl, ?_⟩
  rw [eqv_lists]
  refine ite2 (fun hb => by simp at hb) fun _ => ?_
  generalize upd H1 D (.lst outs) = H2 at *
  clear hot hit hol hD s1
  refine ⟨_, rfl, _, rfl, rfl, rfl, _, _, l, cs, rfl, hrow.same sD, hm.same sD, by omega, fun H3 s3 => ⟨_, rfl, d, ds, rfl, .inl (.inl (.inl (s3 _ _ (sD _ _ hd)))), rfl, _, rfl, ite2 (fun hb => ?_) fun _ => ?_⟩⟩
  · rw [hwl] at hb; simp at hb
  have s03 := sD.trans s3
  have hd3 := s03 _ _ hd
  refine ⟨_, rfl, d, ds, rfl, .inl (.inl (.inl hd3)), _, _, rfl, rfl, ⟨by decide, by decide⟩, _, rfl, d, ds, rfl, .inl (.inl (.inl hd3)), _, _, rfl, rfl, by show 3 ≤ sizeLine; decide, fun q hq => ?_⟩
  delta tNoPart
  have sq := s03.trans (Same.new (o := .lst [.int 0, .int ((ds.length : Int) / 2), .int ((ds.length : Int) - 1)]) hq)
  refine ⟨_, rfl, d, ds, rfl, .inl (.inl (.inl (sq _ _ hd))), _, rfl, q, _, rfl, .inl (.inl upd_same), fun q2 hq2 => ⟨q2, rfl, ⟨_, .inl (.inl upd_same)⟩, ?_⟩⟩
  have s4 := sq.trans (Same.new (o := .lst (cutV [V.int 0, .int ((ds.length : Int) / 2), .int ((ds.length : Int) - 1)] none (some (ds.length : Int)))) hq2)
  have hks : ∀ u ∈ cutV [V.int 0, .int ((ds.length : Int) / 2), .int ((ds.length : Int) - 1)] none (some (ds.length : Int)), ∃ k : Nat, k < ds.length ∧ u = .int (k : Int) := by
    intro u hu
    unfold cutV at hu
    rw [HT.sIx_nat] at hu
    have hu1 : u ∈ List.take (min ds.length 3) [V.int 0, .int ((ds.length : Int) / 2), .int ((ds.length : Int) - 1)] := hu
    have hpos : 0 < ds.length := by
      refine Nat.pos_of_ne_zero fun e => ?_
      rw [e] at hu1
      simp at hu1
    have hu2 := List.mem_of_mem_take hu1
    simp only [List.mem_cons, List.not_mem_nil, or_false] at hu2
    rcases hu2 with rfl | rfl | rfl
    · exact ⟨0, hpos, rfl⟩
    · exact ⟨ds.length / 2, Nat.div_lt_self hpos (by decide), by rw [Int.natCast_ediv]; rfl⟩
    · exact ⟨ds.length - 1, by omega, by rw [Int.natCast_sub hpos]; rfl⟩
  have hq22 : upd (upd H3 q (.lst [.int 0, .int ((ds.length : Int) / 2), .int ((ds.length : Int) - 1)])) q2 (.lst (cutV [V.int 0, .int ((ds.length : Int) / 2), .int ((ds.length : Int) - 1)] none (some (ds.length : Int)))) q2 = some (.lst (cutV [V.int 0, .int ((ds.length : Int) / 2), .int ((ds.length : Int) - 1)] none (some (ds.length : Int)))) := upd_same
  generalize cutV [V.int 0, .int ((ds.length : Int) / 2), .int ((ds.length : Int) - 1)] none (some (ds.length : Int)) = ks at *
  refine for_l2 (K := K) (a := q2) (us := ks) (fun i σ Hx => Same (upd (upd H3 q (.lst [.int 0, .int ((ds.length : Int) / 2), .int ((ds.length : Int) - 1)])) q2 (.lst ks)) Hx ∧ ∃ b, σ = [some (.ref a), some vm, some (.ref d), b]) ⟨Same.refl _, none, rfl⟩ (fun i σ Hx ⟨k, _⟩ => .inl (.inl (k _ _ hq22))) ?_ ?_
  · rintro i u σ Hx hu ⟨sx, b, rfl⟩
    obtain ⟨k, hk, rfl⟩ := hks u (List.mem_of_getElem? hu)
    have s5 := s4.trans sx
    obtain ⟨r, hr', vr⟩ := Pr.get hds (List.getElem?_eq_getElem hk)
    obtain ⟨idx, hidx, rfl⟩ := due_at hr'
    have hdx := s5 _ _ hd
    have hrp := mem_due.mp (List.mem_of_getElem? hr')
    refine ⟨_, rfl, _, rfl, _, rfl, rfl, rfl, _, _, l, cs, idx, k, rfl, hrow.same s5, hm.same s5, by omega, hidx, fun x H6 s6 hx => ?_⟩
    have vr6 := (vr.same s5).same s6
    refine ⟨_, rfl, _, rfl, d, ds, _, _, rfl, rfl, .inl (.inl (s6 _ _ hdx)), atI_nat (List.getElem?_eq_getElem hk), _, _, hx.dp, vr6.dp, hx.shaped, vr6.shaped, _, rfl, ?_⟩
    rw [encL_eqv]
    refine ite2 (fun hb => by simp at hb) fun _ => ?_
    have s56 := s5.trans s6
    have hrs : srt (idx.map (rowAt (srt l))) = srt l := srt_perm hrp.1
    have hSn : (srt l).Nodup := (List.mergeSort_perm l _).nodup_iff.mpr hln
    have hSl : (srt l).length ≤ 12 := by rw [len_srt]; omega
    refine ⟨_, rfl, _, rfl, d, ds, _, _, rfl, rfl, .inl (.inl (s56 _ _ hd)), atI_nat (List.getElem?_eq_getElem hk), _, rfl, rfl, rfl, _, _, srt l, cs, idx, k, rfl, vr6, hm.same s56, hrs, hSn, hSl, hrp.2, hidx, fun H7 s7 => ⟨_, rfl, rfl, _, rfl, ite2 (fun hb => by simp at hb) fun _ => ?_⟩⟩
    have s57 := s56.trans s7
    have vr7 := vr.same s57
    have hrl : (idx.map (rowAt (srt l))).length ≤ 64 := by rw [hrp.1.length_eq]; omega
    refine ⟨_, rfl, _, rfl, d, ds, _, _, rfl, rfl, .inl (.inl (s57 _ _ hd)), atI_nat (List.getElem?_eq_getElem hk), _, rfl, rfl, rfl, _, _, _, cs, rfl, vr7, hrl, hm.same s57, hrp.2, fun H8 s8 => ?_⟩
    have s58 := s57.trans s8
    refine ⟨_, rfl, d, ds, rfl, .inl (.inl (.inl (s58 _ _ hd))), rfl, rfl, _, rfl, ite2 (fun hb => ?_) fun _ => ⟨((sx.trans s6).trans s7).trans s8, _, rfl⟩⟩
    have e1 := only_iff (cs := cs) hln (due_nodup hln) (List.mem_of_getElem? hr')
    have e2 : decide (V.int (ds.length : Int) = V.int 1) = decide (ds.length = 1) := by
      by_cases h : ds.length = 1
      · simp [h]
      · have h' : ¬ ((ds.length : Int) = 1) := by omega
        simp [h, h']
    rw [e1, ← hdl, e2] at hb
    simp at hb
  · rintro σ Hx ⟨sx, b, rfl⟩
    have s5 := s4.trans sx
    have hdx := s5 _ _ hd
    have hds5 := Paired.mapP hds fun y x q => Lat.same q s5
    refine ⟨_, rfl, by decide, fun q3 hq3 => ?_⟩
    have s6 := s5.trans (Same.new (o := .lst []) hq3)
    have hds6 := Paired.mapP hds fun y x q => Lat.same q s6
    refine ⟨_, _, .lst (.inl (.inl (s6 _ _ hd))) (Ls.dp hds6), .lst (.inl (.inl upd_same)) .nil, listL_shaped (Ls.ok hds6), rfl, _, rfl, ?_⟩
    have e0 : PyData.eqv (.list ((dueL cs l).map encL)) (.list []) = decide (dueL cs l = []) := eqv_lists (dueL cs l) []
    rw [e0]
    refine ite2 (fun hb => hQ _ s6) fun hb => ?_
    have hne : dueL cs l ≠ [] := by simpa using hb
    have hpos : 0 < (dueL cs l).length := List.length_pos_iff.mpr hne
    have h0 : 0 < ds.length := by omega
    obtain ⟨r, hr', vr⟩ := Pr.get hds (List.getElem?_eq_getElem h0)
    obtain ⟨hso, hfd⟩ := first_due hln hr'
    refine ⟨_, rfl, _, rfl, rfl, rfl, _, _, l, cs, rfl, hrow.same s6, hm.same s6, by omega, hso, fun x H7 s7 hx => ?_⟩
    rw [hfd] at hx
    have s67 := s6.trans s7
    have vr7 := vr.same s67
    refine ⟨_, rfl, d, ds, _, _, rfl, rfl, .inl (.inl (s67 _ _ hd)), atI_nat (j := 0) (List.getElem?_eq_getElem h0), _, _, hx.dp, vr7.dp, hx.shaped, vr7.shaped, ?_⟩
    rw [encL_eqv, decide_eq_true rfl]
    exact hQ _ s67
end
end K91
set_option Elab.async false
set_option linter.all false
set_option maxRecDepth 100000
set_option maxHeartbeats 4000000
/-! The law. -/
namespace K91
open PySem PySem.Spec PyProof.Rows L2 GenW
open K91M
def spLaw (K : PySem.W.Frag) : Sp := fun vs H Q _ => ∃ a, ∃ ns : List Int, vs = [.ref a] ∧ SqL K H a (ns.map V.int) ∧ ns.length ≤ 64 ∧ ∀ H', Q (.bl true) H'
theorem wss_one {X : Cx} {st : Stmt} {t : TS} (h : WS X st t) : WSs X [st] t := by
  refine ⟨fun pins s σ H D I q => we_execs_cons ((h.run pins s σ H D I q).mono (fun f s1 z => ?_) fun _ _ z => z)⟩
  cases f with
  | next => exact we_execs_nil z
  | ret v => exact z
  | brk => exact z
  | cont => exact z
section
variable {P : Program} {w : World} {K : PySem.W.Frag} {mg : Str → Option Value} {base : Heap}
theorem okLaw (T : Tx K mg) : FnW P w K mg base 35 (He.fAd K dLaw.at_) (fdOf K dLaw) ["_law_script"] (spLaw K) := by
  obtain ⟨dsC, rdC, hbC⟩ := bCountL0 T
  obtain ⟨dsF, rdF, hbF⟩ := bFirstL0 T
  refine fnw_of (T.f 37) cLaw (fun vs H Q E h => ?_) (fun cdv A outer s H vs Q hr h => ⟨_, 
    (wss_cons (ws_of (ps_asg (pe_call (okPen T) (hr.mono (by decide)) rfl (T.g 17) (T.f 21).kp (bLPen T) .nil pass0 (pa_cons (pv 0) pa_nil)) (pg_name (i := 1) cLaw.nd rfl (Or.inl rfl))))
    (wss_cons (ws_for rfl rfl (pi_range1 rfl (T.fr 35) (pa_cons pe_int pa_nil)) (pg_name (i := 2) cLaw.nd rfl (Or.inl rfl))
      (wss_cons (ws_of (ps_asg (pe_call (okBag T) (hr.mono (by decide)) rfl (T.g 22) (T.f 26).kp (bLBag T) .nil pass0 (pa_cons (pv 1) (pa_cons (pe_ix ixL (pe_lst (pa_cons pe_int (pa_cons pe_int (pa_cons pe_int pa_nil)))) (pv 2) (fun _ _ => rfl)) pa_nil))) (pg_name (i := 3) cLaw.nd rfl (Or.inl rfl))))
      (wss_cons (ws_of (ps_asg (pe_call (okMarks T) (hr.mono (by decide)) rfl (T.g 23) (T.f 27).kp (bLMarks T) .nil pass0 (pa_cons (pv 1) (pa_cons (pv 3) pa_nil))) (pg_name (i := 4) cLaw.nd rfl (Or.inl rfl))))
      (wss_cons (ws_of (ps_if (pt_cmpR op_eq (pe_call (okDraw T) (hr.mono (by decide)) rfl (T.g 18) (T.f 22).kp (bLDraw T) .nil pass0 (pa_cons (pv 1) (pa_cons pe_int pa_nil))) pe_int (nomark _))
          (pss_one (ps_asg (pe_call (okSortable T) (hr.mono (by decide)) rfl (T.g 28) (T.f 32).kp (bLSortable T) .nil pass0 (pa_cons (pv 1) (pa_cons (pe_ix ixL (pe_lst (pa_cons pe_int (pa_cons pe_int (pa_cons pe_int pa_nil)))) (pv 2) (fun _ _ => rfl)) pa_nil)))
            (pg_tup rfl (pgs_cons (pg_name (i := 3) cLaw.nd rfl (Or.inl rfl)) (pgs_cons (pg_name (i := 4) cLaw.nd rfl (Or.inl rfl)) pgs_nil))))) pss_nil))
      (wss_cons (ws_of (ps_asg (pe_call (okLAll T) (hr.mono (by decide)) rfl (T.g 30) (T.f 34).kp (bLAll T) .nil pass0 (pa_cons (pv 3) (pa_cons (pv 4) pa_nil))) (pg_name (i := 5) cLaw.nd rfl (Or.inl rfl))))
      (wss_cons (ws_if (wt_not (wt_val (wx_call (okNumR T) hr rfl (T.g 31) (T.f 35).kp (bLNumR T) (pa_cons (pv 3) (pa_cons (pv 4) (pa_cons (pv 5) pa_nil)))))) (wss_of (pss_one (ps_ret pe_bl))) (wss_of pss_nil))
      (wss_cons (ws_if (wt_not (wt_val (wx_call (okNumR T) hr rfl (T.g 31) (T.f 35).kp (bLNumR T) (pa_cons (pv 3) (pa_cons (pe_tup pa_nil) (pa_cons (pe_call (okLAll T) (hr.mono (by decide)) rfl (T.g 30) (T.f 34).kp (bLAll T) .nil pass0 (pa_cons (pv 3) (pa_cons (pe_tup pa_nil) pa_nil))) pa_nil)))))) (wss_of (pss_one (ps_ret pe_bl))) (wss_of pss_nil))
      (wss_of (pss_cons (ps_for PassesOwn.never rfl (piL (pe_slice sl_list (pv 3) po_none (po_some pe_int))) (pg_name (i := 6) cLaw.nd rfl (Or.inl rfl))
          (pss_one (ps_if (pt_not (pt_val (pe_call (okLPlaces T) (hr.mono (by decide)) rfl (T.g 32) (T.f 36).kp (bLPlaces T) .nil pass0 (pa_cons (pv 3) (pa_cons (pv 4) (pa_cons (pv 5) (pa_cons (pv 6) pa_nil))))))) (pss_one (ps_ret pe_bl)) pss_nil)))
      (pss_one (ps_for PassesOwn.never rfl (pi_range1 rfl (T.fr 35) (pa_cons (pe_op op_mul pe_int (pe_callTy call_int1 (by rfl) (T.fr 37) (by decide +kernel) (pa_cons (pe_cmpR (neD (room_64 hr)) (pv 5) (pe_lst pa_nil) (nomark _)) pa_nil))) pa_nil)) (pg_name (i := 7) cLaw.nd rfl (Or.inl rfl))
          (pss_cons (ps_par (i := 8) (j := 9) rfl cLaw.nd rfl rfl (by decide) rfl rfl (pa_cons (pe_ix ixL (pv 5) (pe_call (okDraw T) (hr.mono (by decide)) rfl (T.g 18) (T.f 22).kp (bLDraw T) .nil pass0 (pa_cons (pv 1) (pa_cons (pe_callB clen (by rfl) (T.fr 34) PySem.boot_len (pa_cons (pv 5) pa_nil)) pa_nil))) (fun _ _ => rfl))
              (pa_cons (pe_ix ixL (pv 5) (pe_call (okDraw T) (hr.mono (by decide)) rfl (T.g 18) (T.f 22).kp (bLDraw T) .nil pass0 (pa_cons (pv 1) (pa_cons (pe_callB clen (by rfl) (T.fr 34) PySem.boot_len (pa_cons (pv 5) pa_nil)) pa_nil))) (fun _ _ => rfl)) pa_nil)) (by rfl))
          (pss_one (ps_if (pt_cmpR (neD (room_64 hr)) (pe_callN (okAfter T) (hr.mono (by decide)) rfl (T.g 16) (T.f 20).kp (kAfter T) pass0 (pa_cons (pv 8) (pa_cons (pe_callN (okSteps T) (hr.mono (by decide)) rfl (T.g 15) (T.f 19).kp (kSteps T) pass0 (pa_cons (pv 8) (pa_cons (pv 9) pa_nil)) (pk_cons (pv 4) pk_nil)) pa_nil)) (pk_cons (pv 4) pk_nil)) (pv 9) (nomark _))
            (pss_one (ps_ret pe_bl)) pss_nil))))))))))))))
    (wss_one (ws_ret (wx_and (wx_of (pe_cmpR op_eq (pe_call (okCountL T) (hr.mono (by decide)) rfl (T.g 9) (T.f 13).kp hbC rdC pass0 (pa_cons (pe_tup pa_nil) pa_nil)) pe_int (nomark _)))
      (wx_and (wx_cmp (op_eqD (room_64 hr)) (wx_lcomp (k := 29) rfl (hr.mono (by decide)) (lin_lists0 T rfl (room_d hr) rfl (pa_cons (pe_tup pa_nil) pa_nil)) rfl rfl (by decide) (by decide)) (pe_lst (pa_cons (pe_tup pa_nil) pa_nil)) (nomark _))
      (wx_one (wx_of (pe_cmpR (op_eqD (room_64 hr)) (pe_call (okFirst T) (hr.mono (by decide)) rfl (T.g 7) (T.f 7).kp hbF rdF pass0 (pa_cons (pe_tup pa_nil) pa_nil)) (pe_tup pa_nil) (nomark _)))))))))), ?_⟩)
  · obtain ⟨_, _, rfl, _⟩ := h
    rfl
  obtain ⟨a, ns, rfl, ha, hnl, hQ⟩ := h
  have hz := sizeLine_eq
  refine ⟨_, rfl, a, ns, rfl, ha, hnl, fun p c H1 s1 hpn hp1 => ?_⟩
  refine ⟨3, rfl, by decide, by decide, ?_⟩
  have hemp : ∀ (Hx : Hp) (t : Addr), Hx t = some (.tup []) → RowR K Hx (.ref t) [] := fun Hx t e => ⟨t, [], rfl, .inr (.inl (.inl e)), .nil⟩
  refine for_rg (n := 3) (fun i σ Hx => (∃ s2 s3 s4 s5 s6 s7 s8 s9, σ = [some (.ref a), some (.ref p), s2, s3, s4, s5, s6, s7, s8, s9]) ∧ Pen Hx p c (1000 * i)) ⟨⟨none, none, none, none, none, none, none, none, rfl⟩, hp1⟩ ?_ ?_
  · rintro i σ Hx hi ⟨⟨s2, s3, s4, s5, s6, s7, s8, s9, rfl⟩, hpx⟩
    clear hp1 s1 hpn ha
    refine ⟨_, rfl, by show 3 ≤ sizeLine; decide, fun q0 hq0 => ⟨_, rfl, ?_⟩⟩
    have sq0 := Same.new (o := .lst [.int 4, .int 6, .int 5]) hq0
    obtain ⟨v, hv, hvm⟩ := atI_mem (xs := [V.int 4, .int 6, .int 5]) (r := 0 + (i : Int)) (by omega) (by show 0 + (i : Int) < 3; omega)
    obtain ⟨m, hm7, rfl⟩ : ∃ m : Nat, m ≤ 7 ∧ v = .int (m : Int) := by
      simp only [List.mem_cons, List.not_mem_nil, or_false] at hvm
      rcases hvm with rfl | rfl | rfl
      · exact ⟨4, by decide, rfl⟩
      · exact ⟨6, by decide, rfl⟩
      · exact ⟨5, by decide, rfl⟩
    refine ⟨q0, _, _, _, rfl, rfl, .inl (.inl upd_same), hv, p, c, 1000 * i, m, rfl, hm7, hpx.same sq0, by omega, fun D us l H2 b2 hp2 hDn hD hus hln hll => ?_⟩
    obtain ⟨x0, hx0⟩ := (hpx.same sq0).at_
    have nD : D ≠ p := Ne.symm (ne_of_none hx0 hDn)
    clear hDn b2
    refine ⟨_, rfl, _, rfl, p, c, 1000 * i + 110, D, us, l, rfl, hp2, by omega, nD, hD, hus, by omega, fun mv cs H3 b3 hp3 hmv hml => ?_⟩
    have hD3 := b3 _ _ nD hD
    have hus3 := hus.tups (hp2.tups b3)
    refine ⟨_, rfl, p, c, 1000 * i + 122, 2, rfl, hp3, by omega, by decide, by decide, fun r4 H4 _ _ b4 hp4 => ⟨rfl, _, rfl, ite2 (fun _ => ?b1) fun _ => ?b2⟩⟩
    case' b1 =>
      refine ⟨_, rfl, by show 3 ≤ sizeLine; decide, fun q5 hq5 => ⟨_, rfl, ?_⟩⟩
      have sq5 := Same.new (o := .lst [.int 4, .int 7, .int 6]) hq5
      obtain ⟨v, hv, hvm⟩ := atI_mem (xs := [V.int 4, .int 7, .int 6]) (r := 0 + (i : Int)) (by omega) (by show 0 + (i : Int) < 3; omega)
      obtain ⟨m, hm7, rfl⟩ : ∃ m : Nat, m ≤ 7 ∧ v = .int (m : Int) := by
        simp only [List.mem_cons, List.not_mem_nil, or_false] at hvm
        rcases hvm with rfl | rfl | rfl
        · exact ⟨4, by decide, rfl⟩
        · exact ⟨7, by decide, rfl⟩
        · exact ⟨6, by decide, rfl⟩
      refine ⟨q5, _, _, _, rfl, rfl, .inl (.inl upd_same), hv, p, c, 1000 * i + 123, m, rfl, hm7, hp4.same sq5, by omega, fun t D D2 us l us2 cs H4 b5 hp5' ht nD hD hus hln hll nD2 hD2 hus2 hml => ?_⟩
      refine ⟨t, _, rfl, .inl (.inl ht), rfl, _, _, rfl, _, _, rfl, rfl, ?_⟩
      have hp5 : Pen H4 p c (1000 * i + 400) := hp5'.mono (by omega)
      have hmv : RowP K H4 p (.ref D2) cs := ⟨D2, us2, rfl, nD2, .inl (.inl (.inl hD2)), hus2⟩
      generalize V.ref D2 = mv at *
    case' b2 =>
      have hmv := hmv.but b4 hp3
      have hD := b4 _ _ nD hD3
      have hus := hus3.tups (hp3.tups b4)
      have hp5 : Pen H4 p c (1000 * i + 400) := hp4.mono (by omega)
    all_goals
      have hll7 : l.length ≤ 7 := by omega
      refine ⟨_, rfl, _, rfl, D, us, mv, l, cs, rfl, hD, hus, hmv.row, hll7, fun F ds H6 hFn s6 hF hds => ?_⟩
      have hD6 := s6 _ _ hD
      have hus6 := (hus.same s6 : Vs _ _ _)
      have hmv6 := hmv.same s6
      have hp6 := hp5.same s6
      obtain ⟨x5, hx5⟩ := hp5.at_
      have nF : F ≠ p := Ne.symm (ne_of_none hx5 hFn)
      refine ⟨_, rfl, _, rfl, _, rfl, D, us, mv, F, ds, l, cs, rfl, hD6, hus6, hln, hll7, hmv6.row, hF, hds, fun H7 s7 => ⟨true, rfl, ite2 (fun hb => by simp at hb) fun _ => ?_⟩⟩
      have s07 := s6.trans s7
      have hD7 := s07 _ _ hD
      refine ⟨_, rfl, by decide, fun t1 ht1 => ⟨_, rfl, by decide, fun t2 ht2 => ?_⟩⟩
      have st1 := Same.new (o := .tup []) ht1
      have st2 := Same.new (o := .tup []) ht2
      have st12 := s07.trans (st1.trans st2)
      have e2 : upd (upd H7 t1 (.tup [])) t2 (.tup []) t2 = some (.tup []) := upd_same
      have e1 : upd (upd H7 t1 (.tup [])) t2 (.tup []) t1 = some (.tup []) := st2 _ _ upd_same
      refine ⟨D, us, .ref t2, l, [], rfl, st12 _ _ hD, hus.same st12, hemp _ _ e2, hll7, fun F2 ds2 H8 _ s8 hF2 hds2 => ?_⟩
      have s08 := st12.trans s8
      refine ⟨D, us, .ref t1, F2, ds2, l, [], rfl, s08 _ _ hD, hus.same s08, hln, hll7, hemp _ _ (s8 _ _ e1), hF2, hds2, fun H9 s9 => ⟨true, rfl, ite2 (fun hb => by simp at hb) fun _ => ?_⟩⟩
      have s09 := s08.trans s9
      have s69 := (s7.trans (st1.trans st2)).trans (s8.trans s9)
      have hD9 := s09 _ _ hD
      have hus9 := (hus.same s09 : Vs _ _ _)
      have hmv9 := hmv.same s09
      have hp9 := hp5.same s09
      have hF9 := s69 _ _ hF
      have hds9 := Paired.mapP hds fun y x q => Lat.same q s69
      clear hds2 hF2 s8 s9 e1 e2 st12 s08 ht1 ht2 s07 hD7 s7
      refine ⟨_, rfl, ?_⟩
      delta tNoPart
      refine ⟨2, rfl, D, us, rfl, .inl (.inl hD9), fun q3 hq3 => ⟨q3, rfl, ⟨_, .inl (.inl upd_same)⟩, ?_⟩⟩
      have sq3 := Same.new (o := .lst (cutV us none (some 2))) hq3
      have hq33 : upd H9 q3 (.lst (cutV us none (some 2))) q3 = some (.lst (cutV us none (some 2))) := upd_same
      have hDa := sq3 _ _ hD9
      have husa := (hus9.same sq3 : Vs _ _ _)
      have hmva := hmv9.same sq3
      have hpa := hp9.same sq3
      have hFa := sq3 _ _ hF9
      have hdsa := Paired.mapP hds9 fun y x q => Lat.same q sq3
      clear hD9 hus9 hmv9 hp9 hF9 hds9
      generalize hHa : upd H9 q3 (.lst (cutV us none (some 2))) = Ha at *
      clear hHa
      let sh : L2.St → Prop := fun σ => ∃ x2 o6 o7 o8 o9, σ = [some (.ref a), some (.ref p), x2, some (.ref D), some mv, some (.ref F), o6, o7, o8, o9]
      refine for_l2 (K := K) (a := q3) (us := cutV us none (some 2)) (fun j σ Hx => Same Ha Hx ∧ sh σ) ⟨Same.refl _, _, _, _, _, _, rfl⟩ (fun j σ Hx ⟨k, _⟩ => .inl (.inl (k _ _ hq33))) ?_ ?_
      · rintro j u σ Hx hu ⟨sx, x2, o6, o7, o8, o9, rfl⟩
        have hum : u ∈ us := by
          have := List.mem_of_getElem? hu
          unfold cutV at this
          exact List.mem_of_mem_drop (List.mem_of_mem_take this)
        obtain ⟨k, hk⟩ := List.mem_iff_getElem?.mp hum
        obtain ⟨v, hv, vu⟩ := Pr.get husa hk
        refine ⟨_, rfl, _, rfl, _, rfl, _, rfl, D, us, mv, F, ds, u, l, cs, dueL cs l, v, rfl, sx _ _ hDa, husa.same sx, hll7, (hmva.same sx).row, by omega, sx _ _ hFa, Paired.mapP hdsa fun y x q => Lat.same q sx, vu.same sx, fun Hy sy => ⟨_, rfl, ite2 (fun hb => ?_) fun _ => ⟨sx.trans sy, _, _, _, _, _, rfl⟩⟩⟩
        rw [show ((foundV cs l v).mergeSort (PySem.W.dataLe false encL)) = dueL cs l from found_due hln (List.mem_of_getElem? hv)] at hb
        simp at hb
      · rintro σ Hx ⟨sx, x2, o6, o7, o8, o9, rfl⟩
        have hFx := sx _ _ hFa
        have hdsx := Paired.mapP hdsa fun y x q => Lat.same q sx
        have hdl : ds.length = (dueL cs l).length := hdsa.length
        refine ⟨_, rfl, by decide, fun q4 hq4 => ?_⟩
        have s4 := sx.trans (Same.new (o := .lst []) hq4)
        have hds4 := Paired.mapP hdsa fun y x q => Lat.same q s4
        have e0 : PyData.eqv (.list ((dueL cs l).map encL)) (.list []) = decide (dueL cs l = []) := eqv_lists (dueL cs l) []
        refine ⟨_, _, .lst (.inl (.inl (s4 _ _ hFa))) (Ls.dp hds4), .lst (.inl (.inl upd_same)) .nil, listL_shaped (Ls.ok hds4), rfl, .inr ⟨_, rfl, _, _, rfl, rfl, .inl ⟨by decide, by decide⟩, _, rfl, ?_, ?_, ?_⟩⟩
        · show _ ≤ 3 * (if _ then (1 : Int) else 0)
          split <;> decide
        · show 3 * (if _ then (1 : Int) else 0) < _
          split <;> decide
        rw [e0]
        have hFb := s4 _ _ hFa
        have hmvb := hmva.same s4
        have hpb := hpa.same s4
        generalize upd Hx q4 (.lst []) = Hb at *
        refine for_rg (fun j σ Hy => sh σ ∧ Pen Hy p c (1000 * i + 400 + 2 * j) ∧ But p Hb Hy) ⟨⟨_, _, _, _, _, rfl⟩, hpb, But.refl⟩ ?_ ?_
        · rintro j σ Hy hj ⟨⟨x2, o6, o7, o8, o9, rfl⟩, hpy, by0⟩
          have hjk : (3 * (if (!decide (dueL cs l = [])) = true then (1 : Int) else 0)).toNat ≤ 3 := by split <;> decide
          have hne : dueL cs l ≠ [] := fun e => by
            rw [decide_eq_true e] at hj
            exact absurd hj (Nat.not_lt_zero _)
          have hpos : 0 < ds.length := by rw [hdl]; exact List.length_pos_iff.mpr hne
          have hd2 : ds.length < 1073741824 := by have := due_len_le (cs := cs) hll7; omega
          have hFy := by0 _ _ nF hFb
          refine ⟨_, rfl, _, rfl, _, rfl, F, ds, rfl, .inl (.inl (.inl hFy)), p, c, 1000 * i + 400 + 2 * j, _, rfl, hpy, by omega, by omega, by omega, fun r1 Hc h1 h1' bc hpc => ?_⟩
          obtain ⟨v1, hv1, hm1⟩ := atI_mem h1 h1'
          have hFc := bc _ _ nF hFy
          refine ⟨F, ds, _, v1, rfl, rfl, .inl (.inl hFc), hv1, ?_⟩
          refine ⟨_, rfl, _, rfl, _, rfl, F, ds, rfl, .inl (.inl (.inl hFc)), p, c, 1000 * i + 400 + 2 * j + 1, _, rfl, hpc, by omega, by omega, by omega, fun r2 Hd h2 h2' bd hpd => ?_⟩
          obtain ⟨v2, hv2, hm2⟩ := atI_mem h2 h2'
          have hFd := bd _ _ nF hFc
          refine ⟨F, ds, _, v2, rfl, rfl, .inl (.inl hFd), hv2, _, _, rfl, ?_⟩
          have b04 := (by0.trans bc).trans bd
          have t4 := hpb.tups b04
          obtain ⟨k1, hk1⟩ := List.mem_iff_getElem?.mp hm1
          obtain ⟨k2, hk2⟩ := List.mem_iff_getElem?.mp hm2
          obtain ⟨l1, hl1, w1⟩ := Pr.get hds4 hk1
          obtain ⟨l2, hl2, w2⟩ := Pr.get hds4 hk2
          have p1 := mem_due.mp (List.mem_of_getElem? hl1)
          have p2 := mem_due.mp (List.mem_of_getElem? hl2)
          have w1d : Lat Hd v1 l1 := Lat.tups w1 t4
          have w2d : Lat Hd v2 l2 := Lat.tups w2 t4
          have hmvd := hmvb.but b04 hpb
          have hl1n : l1.length ≤ 7 := by rw [p1.1.length_eq]; exact hll7
          have hl2n : l2.Nodup := p2.1.nodup_iff.mpr hln
          refine ⟨_, rfl, _, rfl, _, rfl, _, rfl, rfl, rfl, _, _, _, l1, l2, cs, rfl, w1d, w2d, by omega, hmvd.row, p1.2, p2.2, p1.1.trans p2.1.symm, hl2n, by omega, fun st nsx He se hst hrep hre => ?_⟩
          have w1e := w1d.same se
          refine ⟨_, rfl, rfl, rfl, _, st, _, l1, cs, nsx, rfl, w1e, by omega, hst, (hmvd.same se).row, p1.2, hrep, fun x Hf sf hx => ?_⟩
          rw [hre] at hx
          have w2f := (w2d.same se).same sf
          refine ⟨_, rfl, _, _, hx.dp, w2f.dp, hx.shaped, w2f.shaped, _, rfl, ?_⟩
          rw [encL_eqv]
          refine ite2 (fun hb => by simp at hb) fun _ => ⟨⟨_, _, _, _, _, rfl⟩, (hpd.same (se.trans sf)).mono (by omega), b04.trans (But.of (se.trans sf))⟩
        · rintro σ Hy ⟨⟨x2, o6, o7, o8, o9, rfl⟩, hpy, by0⟩
          refine ⟨⟨_, _, _, _, _, _, _, _, rfl⟩, hpy.mono ?_⟩
          have : (3 * (if (!decide (dueL cs l = [])) = true then (1 : Int) else 0)).toNat ≤ 3 := by split <;> decide
          omega
  · rintro σ Hx ⟨⟨s2, s3, s4, s5, s6, s7, s8, s9, rfl⟩, hpx⟩
    have hdue0 : ∀ cs, dueL cs [] = [[]] := fun cs => by
      unfold dueL
      show (ords 0 (srt [])).filter _ = _
      rfl
    refine ⟨by decide, fun t ht => ?_⟩
    have et : upd Hx t (.tup []) t = some (.tup []) := upd_same
    refine ⟨_, _, [], [], rfl, hemp _ _ et, emp_row (T.emp 5 (e := (("count_lists", none), "converted"))), by decide, fun H2 s2 => ⟨rfl, _, rfl, ?_⟩⟩
    have hw0 : wy [] [] 0 = 1 := by
      have h1 : wy [] [] 0 = (dueL [] []).length := wy_due [] []
      rw [h1, hdue0]; rfl
    rw [hw0]
    refine ite2 (fun _ => ?_) fun hb => by simp at hb
    refine ⟨by decide, fun t2 ht2 => ?_⟩
    have et2 : upd H2 t2 (.tup []) t2 = some (.tup []) := upd_same
    refine ⟨rfl, _, _, [], [], 1000, rfl, hemp _ _ et2, emp_row (T.emp 6 (e := (("lists", none), "converted"))), by decide, by rw [hw0]; decide, by rw [hw0]; decide, fun j x H3 H4 s q => ?_, fun outs H3 hol s3 hit D hD => ?_⟩
    · obtain ⟨idx, h1, h2⟩ := q
      exact ⟨idx, h1, h2.same s⟩
    have hot : Paired (Lat H3) outs (dueL [] []) := by
      refine Pr.mk (by rw [hol]; exact wy_due [] []) fun j x hx => ?_
      obtain ⟨idx, h1, h2⟩ := hit j x hx
      refine ⟨idx.map (rowAt (srt [])), ?_, h2⟩
      rw [due_eq, List.getElem?_map, h1]; rfl
    rw [hdue0] at hot
    refine ⟨by decide, fun t4 ht4 => ⟨by show 1 ≤ sizeLine; decide, fun q5 hq5 => ?_⟩⟩
    have sD := Same.new (o := .lst outs) hD
    have s4 := sD.trans (Same.new (o := .tup []) ht4)
    have s5 := s4.trans (Same.new (o := .lst [.ref t4]) hq5)
    have e4 : upd (upd (upd H3 D (.lst outs)) t4 (.tup [])) q5 (.lst [.ref t4]) t4 = some (.tup []) := (Same.new hq5) _ _ upd_same
    have eD : upd (upd (upd H3 D (.lst outs)) t4 (.tup [])) q5 (.lst [.ref t4]) D = some (.lst outs) := (Same.new hq5) _ _ ((Same.new ht4) _ _ upd_same)
    have ho5 : Paired (Lat (upd (upd (upd H3 D (.lst outs)) t4 (.tup [])) q5 (.lst [.ref t4]))) outs [[]] := Paired.mapP hot fun y x q => Lat.same q s5
    have hr5 : Paired (Lat (upd (upd (upd H3 D (.lst outs)) t4 (.tup [])) q5 (.lst [.ref t4]))) [V.ref t4] [[]] := .cons ⟨t4, [], rfl, e4, .nil⟩ .nil
    refine ⟨_, _, .lst (.inl (.inl eD)) (Ls.dp ho5), .lst (.inl (.inl upd_same)) (Ls.dp hr5), listL_shaped (Ls.ok ho5), listL_shaped (Ls.ok hr5), _, rfl, ?_⟩
    rw [eqv_lists]
    refine ite2 (fun _ => ?_) fun hb => by simp at hb
    refine ⟨by decide, fun t6 ht6 => ?_⟩
    have et6 := (upd_same (H := upd (upd (upd H3 D (.lst outs)) t4 (.tup [])) q5 (.lst [.ref t4])) (a := t6) (o := .tup []))
    refine ⟨_, _, [], [], rfl, hemp _ _ et6, emp_row (T.emp 3 (e := (("first_list", none), "converted"))), by decide, ⟨[], List.Perm.refl _, List.Pairwise.nil⟩, fun x H7 s7 hx => ?_⟩
    have hx0 : Lat H7 x [] := hx
    refine ⟨by decide, fun t8 ht8 => ?_⟩
    have hx8 := hx0.same (Same.new (o := .tup []) ht8)
    have h8 : Lat (upd H7 t8 (.tup [])) (.ref t8) [] := ⟨t8, [], rfl, upd_same, .nil⟩
    refine ⟨_, _, hx8.dp, h8.dp, hx8.shaped, h8.shaped, ?_⟩
    rw [encL_eqv, decide_eq_true rfl]
    exact hQ _
end
end K91
set_option Elab.async false
set_option linter.all false
set_option maxRecDepth 100000
set_option maxHeartbeats 1000000
/-! From W to the scheduler: a thread that W carries to its end is carried there by schedN. -/
namespace K91
open PySem

section
variable (den : Code → Sem PySem.Fin) (P : Program) (w : World)
/-- a yield over a sleeping generator, as the scheduler takes it: one step -/
theorem over_step {s : Shared} {v : Value} {l : List Value} {k : Resume → Sem PySem.Fin} {a : Addr} {as : List Value} {kw : List (Str × Value)} {p : Pos} {st fs rest : List Frame} {b : Nat × (GenResult → Sem PySem.Fin) × Code × Pos} (hz : s.asleep)
    (hsp : splitAtGen st = some (fs, b, rest)) (hg : fs.any Frame.guarded = false) (hn : ∃ o, s.heap.get? a = some o ∧ o.genNumber?.isSome = true) :
    sstep den P w (.single s ⟨.yield v true l k, .builtin "proto.yield_from" ⟨.ref a :: as, kw⟩, p, st⟩) = (step den P w s ⟨.yield v true l k, .builtin "proto.yield_from" ⟨.ref a :: as, kw⟩, p, st⟩).lift := by
  obtain ⟨o, ho, hs⟩ := hn
  obtain ⟨n, hs⟩ := Option.isSome_iff_exists.mp hs
  have hno : closingShows s fs (.builtin "proto.yield_from" ⟨.ref a :: as, kw⟩) true = false := by
    simp [closingShows, hg, delegateShows, ho, hs, hz.1]
  have hlife : lifeStep den P w [] s ⟨.yield v true l k, .builtin "proto.yield_from" ⟨.ref a :: as, kw⟩, p, st⟩ = step den P w s ⟨.yield v true l k, .builtin "proto.yield_from" ⟨.ref a :: as, kw⟩, p, st⟩ := by
    obtain ⟨b1, b2, b3, b4⟩ := b
    simp [lifeStep, Thread.special, Thread.atCollectorCode, Thread.atItsEnd, Thread.yieldsInsideHandler, collectorTurn?, hsp, hno, stepCounting, hz.2]
  have h1 : (Config.single s ⟨.yield v true l k, .builtin "proto.yield_from" ⟨.ref a :: as, kw⟩, p, st⟩).collect? w.params = none := by
    simp [Config.collect?, Config.single, (nothing_to_collect _ _ _ s _ hz.1).1]
  have h2 : (Config.single s ⟨.yield v true l k, .builtin "proto.yield_from" ⟨.ref a :: as, kw⟩, p, st⟩).collectable = [] := by
    simp [Config.collectable, Config.single, (nothing_to_collect w.params _ _ s _ hz.1).2]
  have h3 : (Config.single s ⟨.yield v true l k, .builtin "proto.yield_from" ⟨.ref a :: as, kw⟩, p, st⟩).moves w.params.profile = [.run 0] := by
    simp [Config.moves, Config.single, movesFrom, Thread.moves]
  have hp : (Config.single s ⟨.yield v true l k, .builtin "proto.yield_from" ⟨.ref a :: as, kw⟩, p, st⟩).pick w = .ok (.run 0, .single s ⟨.yield v true l k, .builtin "proto.yield_from" ⟨.ref a :: as, kw⟩, p, st⟩) := by
    simp only [Config.pick, h1, h2, Config.pickThread, h3]
    cases w.params.lifetimes <;> simp
  simp only [sstep, hp, Config.move]
  simp [Config.run, Config.single, Shared.entering, Thread.special, Thread.yieldsInsideHandler, others_single, Thread.finalizes, hlife]
  cases step den P w s ⟨.yield v true l k, .builtin "proto.yield_from" ⟨.ref a :: as, kw⟩, p, st⟩ <;> simp [Step.lift, Config.single]
/-- the scheduler halts from every state that is s and t up to what the machine does not look at -/
def Halts (Tgt : Outcome → Shared → Prop) (s : Shared) (t : Thread) : Prop := ∀ (s2 : Shared) (t2 : Thread), s2.forget = s.forget → t2.forget = t.forget → s2.asleep →
  ∃ n o s', schedN den P w n (.single s2 t2) = .halted o s' ∧ s'.heap.life = s2.heap.life ∧ Tgt o s'
theorem sched_go {Tgt : Outcome → Shared → Prop} {s2 s3 : Shared} {t2 t3 : Thread} (hz : s2.asleep) (hs : step den P w s2 t2 = .go s3 t3) (hl : sstep den P w (.single s2 t2) = (step den P w s2 t2).lift)
    (k : s3.asleep → ∃ n o s', schedN den P w n (.single s3 t3) = .halted o s' ∧ s'.heap.life = s3.heap.life ∧ Tgt o s') : ∃ n o s', schedN den P w n (.single s2 t2) = .halted o s' ∧ s'.heap.life = s2.heap.life ∧ Tgt o s' := by
  have e := step_life den P w s2 s3 t2 t3 hs
  obtain ⟨n, o, s', h1, h2, h3⟩ := k (Shared.asleep_of_life e hz)
  refine ⟨n + 1, o, s', ?_, h2.trans e, h3⟩
  rw [hs] at hl
  simp only [schedN, hl, Step.lift]
  exact h1
theorem forget_go {s s1 : Shared} {t t1 : Thread} {x : Step} (h : x.forget = (Step.go s1 t1).forget) : ∃ s3 t3, x = .go s3 t3 ∧ s3.forget = s1.forget ∧ t3.forget = t1.forget := by
  cases x with
  | go s3 t3 =>
    simp only [Step.forget, Step.go.injEq] at h
    exact ⟨s3, t3, rfl, h.1, h.2⟩
  | halt o s3 => simp [Step.forget] at h
theorem back_halts {Tgt : Outcome → Shared → Prop} : Back ⟨den, P, w⟩ (Halts den P w Tgt) where
  step := by
    intro s s1 t t1 hs k s2 t2 e1 e2 hz
    have hl : t.loud = false := by
      cases h : t.loud with
      | false => rfl
      | true =>
        rw [Model.step_loud ⟨den, P, w⟩ h] at hs
        cases hs
    rw [Model.step_quiet ⟨den, P, w⟩ hl] at hs
    have hr : t.refused = false := by
      cases h : t.refused with
      | false => rfl
      | true =>
        obtain ⟨what, z⟩ := stepK_refused den P w (s := s) h
        rw [show stepK den P w s t = _ from z] at hs
        cases hs
    have hc : t2.calm = true := by
      rw [← Thread.calm_forget, e2, Thread.calm_forget, Thread.calm_eq, hl, hr]
      rfl
    have q : (step den P w s2 t2).forget = (Step.go s1 t1).forget := by
      rw [← stepK_forget, ← stepK_comm, e1, e2, stepK_comm]
      exact congrArg Step.forget hs
    obtain ⟨s3, t3, h3, f1, f2⟩ := forget_go (s := s) (t := t) q
    refine sched_go den P w hz h3 ?_ fun hz3 => k s3 t3 f1 f2 hz3
    rcases sstep_single den P w s2 t2 hc hz with z | z
    · exact z
    · rw [z] at h3
      cases h3
  yield := by
    intro s v l k a as kw p st fs rest g kk c' p' hsp hg hn hgo s2 t2 e1 e2 hz
    obtain ⟨cur, code, pos, st2⟩ := t2
    simp only [Thread.forget, Thread.mk.injEq] at e2
    obtain ⟨rfl, rfl, rfl, e2⟩ := e2
    have hf := splitAtGen_forgetAll st2
    rw [e2, splitAtGen_forgetAll, hsp] at hf
    cases q : splitAtGen st2 with
    | none => rw [q] at hf; cases hf
    | some x =>
      obtain ⟨fs2, b2, rest2⟩ := x
      rw [q] at hf
      simp only [Option.map_some, Option.some.injEq, Prod.mk.injEq] at hf
      obtain ⟨hf1, hf2, hf3⟩ := hf
      subst hf2
      have hg2 : fs2.any Frame.guarded = false := by rw [← any_guarded_forgetAll, ← hf1, any_guarded_forgetAll]; exact hg
      have hh : s2.heap = s.heap := by
        have z := congrArg Shared.heap e1
        exact z
      have hn2 : ∃ o, s2.heap.get? a = some o ∧ o.genNumber?.isSome = true := by rw [hh]; exact hn
      have h3 : step den P w s2 ⟨.yield v true l k, .builtin "proto.yield_from" ⟨.ref a :: as, kw⟩, pos, st2⟩ =
          .go (s2.setGen g (.suspended k l (.builtin "proto.yield_from" ⟨.ref a :: as, kw⟩) pos fs2 true)) ⟨kk (.yielded v), c', p', rest2⟩ := by
        obtain ⟨h2, g2, d2, t2, o2⟩ := s2
        simp only [step, q, Shared.setGen, Bool.true_or]
      refine sched_go den P w hz h3 (over_step den P w hz q hg2 hn2) fun hz3 => hgo _ _ ?_ ?_ hz3
      · obtain ⟨h2, g2, d2, t2, o2⟩ := s2
        obtain ⟨h1, g1, d1, t1, o1⟩ := s
        simp only [Shared.forget, Shared.mk.injEq] at e1
        obtain ⟨rfl, e1, rfl, rfl, rfl⟩ := e1
        simp only [Shared.forget, Shared.setGen, Array.map_setIfInBounds, e1, GenState.forget_suspended, hf1]
      · simp only [Thread.forget, hf3]
/-- a leaf with no frame behind it -/
theorem halts_leaf {Tgt : Outcome → Shared → Prop} {f : Flow} {c : Code} {p : Pos} {s : Shared} (hg : leftWithCleanup s.gens = false) (ht : ∀ s', s'.forget = s.forget → Tgt (.done f) s') : Halts den P w Tgt s ⟨.pure (.done f), c, p, []⟩ := by
  intro s2 t2 e1 e2 hz
  obtain ⟨cur, code, pos, st2⟩ := t2
  simp only [Thread.forget, Thread.mk.injEq] at e2
  obtain ⟨rfl, rfl, rfl, e2⟩ := e2
  have hst : st2 = [] := by
    cases st2 with
    | nil => rfl
    | cons F r => rw [forgetAll_cons, forgetAll_nil] at e2; cases e2
  subst hst
  have hg2 : leftWithCleanup s2.gens = false := by
    rw [← leftWithCleanup_forget, show s2.gens.map GenState.forget = s.gens.map GenState.forget from congrArg Shared.gens e1, leftWithCleanup_forget]
    exact hg
  have h3 : step den P w s2 ⟨.pure (.done f), code, pos, []⟩ = .halt (.done f) s2 := by
    obtain ⟨h2, g2, d2, t2, o2⟩ := s2
    have hg3 : leftWithCleanup g2 = false := hg2
    simp only [step, finish, hg3, Bool.false_eq_true, if_false]
  refine ⟨1, .done f, s2, ?_, rfl, ht s2 e1⟩
  have hc : Thread.calm ⟨.pure (.done f), code, pos, []⟩ = true := by simp [Thread.calm, Thread.atCollectorCode, Thread.yieldsInsideHandler]
  rcases sstep_single den P w s2 _ hc hz with z | z
  · rw [h3] at z
    simp only [schedN, z, Step.lift]
  · rw [h3] at z
    cases z
/-- THE END: W over the whole thread -/
theorem W_ends {A : Around} {c : Code} {t : Sem PySem.Fin} {R : Flow → Shared → Prop} {p : Pos} {s : Shared} (hz : s.asleep) (hin : (⟨c, none, none, [], none⟩ : Ctx).In A)
    (h : W ⟨den, P, w⟩ A t (fun fin s' => ∃ f, fin = .done f ∧ R f s' ∧ leftWithCleanup s'.gens = false) s) :
    ∃ n f s' s'', schedN den P w n (.single s ⟨t, c, p, []⟩) = .halted (.done f) s' ∧ s'.heap.life = s.heap.life ∧ s'.forget = s''.forget ∧ R f s'' := by
  have g := h (Halts den P w fun o s' => ∃ f s'', o = .done f ∧ s'.forget = s''.forget ∧ R f s'') (back_halts den P w) c p [] Sem.pure Sem.raise id id hin fun fin p' s' q => ?_
  · rw [wrap_self] at g
    obtain ⟨n, o, s', h1, h2, f, s'', rfl, h3, h4⟩ := g s _ rfl rfl hz
    exact ⟨n, f, s', s'', h1, h2, h3, h4⟩
  · obtain ⟨f, rfl, hR, hg⟩ := q
    exact halts_leaf den P w hg fun s2 e => ⟨f, s', rfl, e, hR⟩
end
end K91
set_option Elab.async false
set_option linter.all false
set_option maxRecDepth 100000
set_option maxHeartbeats 1000000
/-! The law's end from W: as the library's own ends, the call by W in the place of wpAny. -/
namespace K91
open PySem PySem.W PySem.Calls PyProof.Rows

theorem callFromW {c : ClaimW} {tree : List Value → Sem PySem.Fin} {w : World} {s : Shared} {free : Addr → Prop} {gens : Prop} {kept : Heap → Prop} (hz : s.asleep) (hgens : s.gens = #[])
    (spec : ∀ args, c.pre args = true → WData.layableAll args = true → ∀ ord : List DictEntry → List DictEntry, (∀ l, (ord l).Perm l) →
      ∃ vs s1, layAllW c.records (classAt s.heap) w.params ord args s = some (vs, s1) ∧
        K91.W (model c.prog w) callerA (tree vs) (fun fin s' => ∃ f, fin = .done f ∧ (c.Ends s args vs s1 (.ok f) s' ∧ s'.os = s.os ∧ kept s'.heap) ∧ leftWithCleanup s'.gens = false) s1) :
    c.CallFrom (fun vs => ⟨tree vs, .builtin "claim.caller" {}, default, []⟩) w free gens kept s := by
  intro args hpre hlay ord hord
  obtain ⟨vs, s1, hlaid, hcode⟩ := spec args hpre hlay ord hord
  have rest := layAllW_rest _ _ _ hlaid
  obtain ⟨n, f, s', s'', hsched, hlife, hfo, hends, hos, hkp⟩ := W_ends (denote table) c.prog w (R := fun f s' => c.Ends s args vs s1 (.ok f) s' ∧ s'.os = s.os ∧ kept s'.heap) (p := default)
    (Shared.asleep_of_life rest.2.2.2 hz) caller_in hcode
  obtain ⟨eh, _, _, eo, _⟩ := Shared.forget_eq hfo
  have hends := hends.congr eh
  rw [← eh] at hkp
  rw [← eo] at hos
  have hl2 : s'.heap.life = s.heap.life := hlife.trans rest.2.2.2
  refine ⟨vs, s1, hlaid, n, _, s', hsched, ?_, (fun _ i x hx => by rw [hgens] at hx; simp at hx), hkp, congrArg Life.seen hl2, Shared.rest_eq hos⟩
  rcases hends with ⟨v, e, d1, d2, d3, d4, d5⟩ | ⟨e, ob, cls, q, _⟩
  · cases e
    exact .inl ⟨v, rfl, d1, d2, d3, fun b o y _ => d4 b o y, d5⟩
  · cases q

/-- what the walk of a law shows, by W -/
abbrev WalkW (q : Program) (loose : List Str) (XP : (Str → Option Value) → Heap → Prop) (YP : World → Heap → Prop) (l : OpenLaw) (n : Nat) (d : DefRec) : Prop :=
  ∀ (w : World) (s0 s1 : Shared) (mg mb : Str → Option Value) (fa a : Addr) (vs : List Value) (ns : List Int), Ground q loose [] XP w s0 mg mb s1.heap → YP w s1.heap → mg d.name = some (.ref fa) →
    s1.heap.get? a = some { cls := .type "list", data := .seq vs.toArray } → IntsAre vs ns → ns.length ≤ n → s1.gens = #[] →
    CW (model l.prog w) callerA (.call (.ref fa) ⟨[.ref a], []⟩) (fun f s' => f = .ret (.bool true) ∧ OldK s1.heap s'.heap ∧ s'.os = s1.os ∧ AllBare s'.gens) s1

theorem holdsW {l : OpenLaw} {m : Nat} {q : Program} {loose : List Str} {Xt : Shared → Bool} {XP : (Str → Option Value) → Heap → Prop} {α : Type} {Yf : Shared → α} {Ya : World → α} {YP : World → Heap → Prop} {d : DefRec} {kwd : List (Str × Expr)} {N : Nat}
    (left : LeftO l.prog q loose Xt Yf Ya N) (hY : ∀ w s, Yf s = Ya w → YP w s.heap) (hYk : ∀ w h h', YP w h → (∀ b o, h.get? b = some o → h'.get? b = some o) → YP w h')
    (hX : ∀ s, Xt s = true → XP (s.heap.nsMap mainGlobals) s.heap) (hXk : ∀ mg h h', XP mg h → (∀ b o, h.get? b = some o → h'.get? b = some o) → XP mg h')
    (hdef : defOf q l.row.name = some (d, kwd)) (hp : l.row.prog.theDef l.row.name = some (d.params, d.body, d.scope)) (hk : kwWritten? d.params.kwonlyargs d.params.kw_defaults = some kwd)
    (k1 : l.row.wellSaid = true) (ok : (chainsOk q && opensWell l.row.prog && (frees l.row.toRowW && l.row.within.isEmpty)) = true) (hb : l.row.prog.bare) (hw : l.row.toRowW.promised)
    (hm : l.most = some m) (call : WalkW q loose XP YP l m d) : l.row.Holds := by
  obtain ⟨ok, k5⟩ := Bool.and_eq_true_iff.mp ok
  obtain ⟨hch, o1⟩ := Bool.and_eq_true_iff.mp ok
  obtain ⟨k5, k6⟩ := Bool.and_eq_true_iff.mp k5
  obtain ⟨hsame, hu, ha, hap, hmk⟩ := frees_parts k5
  refine ⟨k1, hw, ⟨hb, o1, rfl⟩, hw.witness, fun w => ⟨(left.behind hX hch w).1, fun s' hs' => ?_⟩⟩
  obtain ⟨s0, hf, hg0, s, hT, hz, hgens, hg, G, y⟩ := (left.behind hX hch w).2 s' hs'
  have hT' := hT
  have RF : RecFacts l.row.toRowW.records s.heap := recFacts_nil rfl
  refine ⟨s0, hf, hg0, s, hT, fun n hn => ?_, RF.1, RF.2.1, ?_⟩
  · obtain rfl : n = l.row.name := by split at hn <;> simp_all
    exact pinned_of_view hg G hdef hp hk
  have hgens : s.gens = #[] := Array.eq_empty_of_size_eq_zero (beq_iff_eq.mp hgens)
  refine callFromW (c := l.row.toRowW.claim) hz hgens fun args hpre hlay ord hord => ?_
  obtain ⟨⟨vs, s1⟩, hlaid⟩ := Option.isSome_iff_exists.mp (layAllW_isSome (P := w.params) (ord := ord) (RF.ground G).has args l.row.toRowW.args s (pre_splitW hpre).1)
  have keeps := layAllW_keeps _ _ _ hlaid
  have rest := layAllW_rest _ _ _ hlaid
  obtain ⟨as, hrd, hin, hold⟩ := reads_layAllW hord _ _ _ hlaid hlay s1.heap (fun _ _ e => e)
  have L : Laid l.row.toRowW.records w s s1 args vs as := ⟨⟨ord, hord, hlaid⟩, hrd, hin, hold, keeps, rest.1.trans hgens, rest.2.2.1⟩
  have G1 : Ground q loose [] XP w s (s.heap.nsMap mainGlobals) (s.heap.nsMap builtinsNs) s1.heap := G.keeps hXk keeps
  obtain ⟨fa, o, pm, cd, doc, dV, kV, h1, h2, h3, h4, h5⟩ := G1.fn hdef
  obtain ⟨a, us, ns, rfl, rfl, hobj, hints, hlen⟩ := Att.script_of hm hpre L.well
  have hi := ident_freeW hu ha hap
  have hwi : l.row.toRowW.claim.within = [] := List.isEmpty_iff.mp k6
  have h1' : (s.heap.nsMap mainGlobals) l.row.name = some (.ref fa) := h1
  refine ⟨_, s1, hlaid, ?_⟩
  show K91.W _ callerA (do match ← nsGet mainNs l.row.name with
      | some f => do ret (← PySem.call f [.ref a])
      | none => unsupported "claim.caller:no-such-global") _ s1
  refine W.bindL (wpAny_nsGet G1.T.g ?_)
  rw [h1']
  refine W.bind (W.runValue ((call w s s1 _ _ fa a us ns G1 (hYk _ _ _ (hY w s y) keeps) (defOf_name hdef ▸ h1) hobj hints hlen L.gens).mono fun f s2 z => ?_))
  obtain ⟨rfl, z2, z3, z4⟩ := z
  refine ⟨_, rfl, W.pure ⟨_, rfl, ?_⟩⟩
  have g : GoodWG l.row.toRowW.claim (classAt s.heap) (ExcName.means s.heap) [WData.list (ns.map WData.int)] s1 (.ok (.ret (.bool true))) s2 :=
    ⟨.inl ⟨.bool true, .bool true, [], rfl, fun _ => rfl, .bool true, Att.post_true l _, fun _ => ⟨List.Pairwise.nil, fun _ z => nomatch z⟩⟩, z2, z3, z4⟩
  have z := g.laid (c := l.row.toRowW.claim) hsame hwi hi L
  exact ⟨⟨z.1, z.2.1, fun qq => ⟨namesKept_of hT' hg l.row.keeps keeps g.2.1.old, fun x hx => nomatch hx⟩⟩, leftWithCleanup_false_of_bare z.2.2⟩
end K91
set_option Elab.async false
set_option linter.all false
set_option maxRecDepth 100000
set_option maxHeartbeats 2000000
/-! The end: the law's call from the machine's walk. -/
namespace K91
open PySem PySem.Spec PySem.W PyProof.Rows L2 GenW

theorem law_callW {P : Program} {w : World} {K : PySem.W.Frag} {mg mb : Str → Option Value} {k : Nat} {fa a : Addr} {fd : FuncData} {x : Str} {sp : Sp} {s1 : Shared} {vs : List Value} {ns : List Int}
    (KX : K.In s1.heap) (hns : s1.heap.Ns mainGlobals mg) (hb : s1.heap.Ns builtinsNs mb) (hbb : ∀ y : Str, y ≠ "__name__" → mb y = bootBuiltins y) (hlim : s1.heap.NoLimit) (hg : s1.gens = #[])
    (ha : s1.heap.get? a = some { cls := .type "list", data := .seq vs.toArray }) (hi : IntsAre vs ns) (hl : ns.length ≤ sizeLine) (hr : Room k callerA)
    (F : ∀ base : Heap, K.In base → base.Ns mainGlobals mg → FnW P w K mg base k fa fd [x] sp) (hbind : ∀ (s : Shared) (u : Value), BindsTo s fd ⟨[u], []⟩ [(x, u)])
    (hsp : ∀ H : Hp, SqL K H a (ns.map V.int) → sp [.ref a] H (fun v _ => v = .bl true) E0) :
    CW (model P w) callerA (.call (.ref fa) ⟨[.ref a], []⟩) (fun f s' => f = .ret (.bool true) ∧ OldK s1.heap s'.heap ∧ s'.os = s1.os ∧ AllBare s'.gens) s1 := by
  have rv := vals_ints hi
  have lenV := hi.length
  have core : ∀ H : Hp, Only H → SqL K H a (ns.map V.int) → HOk P w H s1.heap → (∀ b, H b ≠ none → b = a) → (H a ≠ none → K.lookup a = none) →
      CW (model P w) callerA (.call (.ref fa) ⟨[.ref a], []⟩) (fun f s' => f = .ret (.bool true) ∧ OldK s1.heap s'.heap ∧ s'.os = s1.os ∧ AllBare s'.gens) s1 := by
    intro H hO hS hok hA hK
    have noA : ∀ {b : Addr} {o : Obj} {es : Array DictEntry} {ep : Nat}, s1.heap.get? b = some o → o.data = .dict es ep → H b = none := by
      intro b o es ep e d
      by_cases hq : H b = none
      · exact hq
      · obtain rfl := hA b hq
        rw [ha] at e
        cases e
        cases (show Data.seq vs.toArray _ = Data.dict es ep from d)
    have toB : ∀ {b : Addr} {m : Str → Option Value}, s1.heap.Ns b m → (hidT s1.heap H).Ns b m := by
      rintro b m ⟨o, es, ep, e, d, r⟩
      exact ⟨o, es, ep, hidT_get e (noA e d), d, r⟩
    have hKb : K.In (hidT s1.heap H) := by
      intro b o e
      refine hidT_get (KX b o e) ?_
      by_cases hq : H b = none
      · exact hq
      · have e' := hA b hq
        rw [e'] at e hq
        rw [hK hq] at e
        cases e
    obtain ⟨mc, hc1, hc2⟩ := hlim
    have hM : Mod K mg (hidT s1.heap H) := ⟨hKb, toB hns, ⟨mb, toB hb, hbb⟩, mc, toB hc1, hc2⟩
    have e0 : Env0 P w K mg (hidT s1.heap H) callerA [] s1 H := ⟨rfl, hM, fun _ _ e => of_hidT e, Nat.le_of_eq (hidT_size _ _), trivial, fun _ z => (List.not_mem_nil z).elim, hok, .of_eq hg⟩
    refine CW.of (((F _ hKb (toB hns)).run callerA [] s1 H ⟨[.ref a], []⟩ [.ref a] [.ref a] _ hr e0 (hbind s1 (.ref a)) (.cons rfl .nil) (hsp H hS)).mono fun r s' h => ?_)
    match r, h with
    | .ok (.ret u), ⟨v, H', os, bare, un, hok', r', q⟩ =>
      have q' : v = .bl true := q
      subst q'
      obtain rfl : u = Value.bool true := r'
      refine ⟨_, rfl, rfl, OldK.of_keep fun b o e => ?_, os, bare⟩
      rcases hO b with z | ⟨ob, xs, z⟩
      · exact un.keep b o e z (fun z => (List.not_mem_nil z).elim) (by simp)
      · obtain ⟨e1, _⟩ := hok b _ z
        obtain ⟨e2, _⟩ := hok' b _ (un.frzs b ob _ z)
        rw [e] at e1
        cases e1
        exact e2
  rcases hk : K.lookup a with _ | o
  · refine core (fun b => if b = a then some (.frz { cls := .type "list", data := .seq vs.toArray } (.lst (ns.map V.int))) else none) ?_ (.inl (.inr ⟨_, if_pos rfl⟩)) ?_ ?_ fun _ => hk
    · intro b
      by_cases hb : b = a
      · exact .inr ⟨_, _, if_pos hb⟩
      · exact .inl (if_neg hb)
    · intro b u z
      by_cases hb : b = a
      · subst hb
        cases (if_pos rfl).symm.trans z
        exact ⟨ha, by rw [List.length_map]; exact hl, vs, _, rv, ha⟩
      · cases (if_neg hb).symm.trans z
    · intro b z
      by_cases hb : b = a
      · exact hb
      · exact absurd (if_neg hb) z
  · have e := KX a o hk
    rw [ha] at e
    cases e
    exact core (fun _ => none) (fun _ => .inl rfl) (.inr ⟨_, vs.toArray, _, hk, rfl, rfl, rfl, by rw [List.size_toArray, lenV]; exact hl, by simpa using rv⟩) (fun _ _ z => by cases z) (fun _ z => (z rfl).elim) fun z => (z rfl).elim
end K91
open PySem PySem.W PySem.Calls PyProof.Rows
namespace K91
open L2
/-- the head's end, by W -/
theorem head_endW {l : OpenLaw} {m : Nat} {q : Program} {H : Hook} {ob : SharedT → H.α} {M : Nat} {loose : List PySem.Str} {d : DefRec} {kwd : List (PySem.Str × PySem.Expr)} (ho : ∀ s : SharedT, ob s = H.obs s.abs)
    (e : opening l.row.prog = plainProg l.row.prog.main.scope.names) (f : ∀ s, fenceModules? l.row.prog s = some s) (run : ∀ w, HandSHeadRun.RunEq l.row q H ob M loose w)
    (hdef : defOf q l.row.name = some (d, kwd)) (hp : l.row.prog.theDef l.row.name = some (d.params, d.body, d.scope)) (hk : kwWritten? d.params.kwonlyargs d.params.kw_defaults = some kwd)
    (k1 : l.row.wellSaid = true) (ok : (chainsOk q && opensWell l.row.prog && (frees l.row.toRowW && l.row.within.isEmpty)) = true) (hb : l.row.prog.bare) (hw : l.row.toRowW.promised) (hm : l.most = some m)
    (call : WalkW q loose (XL q []) H.says l m d) : l.row.Holds := by
  have left : LeftO l.row.prog q loose (fun s => xlAt q [] s && recOk l.row.toRowW.records s) H.obs H.val (M + 600) true := by
    refine HandSHeadRun.left_one (M := M) e (Nat.ble_eq_true_of_le (Nat.le_add_left _ _)) f (Nat.ble_eq_true_of_le (by omega)) fun w os => ?_
    have z := run w os
    rw [show ob = fun s => H.obs s.abs from funext ho] at z
    simp only [HandSHeadRun.endQ_eq, HandSHeadRun.seenQ_eq]
    exact z
  exact holdsW (l := l) left H.of H.keeps (fun s z => xl_of s (Bool.and_eq_true_iff.mp z).1) XL.keeps hdef hp hk k1 ok hb hw hm call
end K91
theorem PySem.Challenge.cw_crossrank_k91_whole_lists_and_places_holds : PySem.Challenge.rw_crossrank_k91_whole_lists_and_places.Holds := by
  w_on; o_law
  refine K91.head_endW (l := PySem.Challenge.rw_crossrank_k91_whole_lists_and_places) (m := 63) (q := view K91.R.prog [61]) (H := K91.hk) (ob := K91.ob) (M := 6000) (loose := K91.nms) (d := HandSHeadRun.topDef K91.R.prog 61) (kwd := []) K91.ob_eq
    (by kernel_rfl) (fun s => by kernel_rfl) K91.run (by kernel_rfl) (by kernel_rfl) (by kernel_rfl) (by first | assumption | decide +kernel) (by decide +kernel) ⟨rfl, rfl, rfl, rfl, rfl, by decide +kernel⟩ ?hw rfl ?hc
  case hw => w_witness2
  case hc =>
    intro w s0 s1 mg mb fa a vs ns G Y hmg0 ha hi hl hg
    obtain ⟨K, KX, c⟩ := Y
    have hmg : mg ("law" : PySem.Str) = some (.ref fa) := by
      have e : (HandSHeadRun.topDef K91.R.prog 61).name = ("law" : PySem.Str) := by kernel_rfl
      rw [← e]
      exact hmg0
    have T : K91.Tx K mg := ⟨⟨_, KX, G.T.g⟩, c⟩
    have e := hmg.symm.trans (T.g 33 (x := "law"))
    cases e
    refine K91.law_callW (k := 35) (x := "_law_script") KX G.T.g G.T.b G.T.builtins G.T.nolimit hg ha hi (Nat.le_trans hl (by decide)) ⟨rfl, by decide, by decide⟩ (fun base _ _ => K91.okLaw T) (fun s u => ?_) fun H hS => ⟨a, ns, rfl, hS, by omega, fun _ => rfl⟩
    exact L2.FunD.bindsA (ps := ["_law_script"]) (T.f 37 (d := K91.dLaw)) (fun _ _ _ _ _ _ us hl => match us, hl with | [_], _ => rfl) s [u] rfl
