import PyProof.Rows.All
import Wide.All
import OpenK.AllK
import Wide.FinOn
import HandS.ForMost
import HandS.Head0
import HandS.Head1
import HandS.Head2
import HandS.HeadEnd
import HandS.HeadHook1
import HandS.HeadHook2
import HandS.Defaults
import HandS.Codes
import HandS.IsInst
import HandS.Star
import HandS.Flow
import HandS.Style
import HandS.TupAny
import HandS.TupMul
import HandS.Wide
import HandS.WideBits
import HandS.Strs
import HandS.Deep
import HandS.Iter
import HandS.Walk
import HandS.List
import KE.GoesEnum
import KE.KRevSl
import KE.DataCmp
import HandS.SetFor
import HandS.Set
import PySem.Challenge.RW_slopeworld_k33_whole_lengths_beside_neig
set_option Elab.async false
set_option linter.all false
set_option maxRecDepth 100000
set_option maxHeartbeats 0
namespace K33
open PySem PySem.Spec PyProof.Rows L2
/-! ### the text by places (printed by gen_text.py) -/
def top (i : Nat) : Stmt := PySem.Challenge.pw_slopeworld_k33_whole_lengths_beside_neig.main.body.getD i (.Pass ⟨0, 0, 0, 0⟩)
abbrev sIsInteger : Stmt := top 10
abbrev sIsBetween : Stmt := top 11
abbrev sCheckLead : Stmt := top 21
abbrev sCheckLoop : Stmt := top 22
abbrev sShortestLoop : Stmt := top 23
abbrev sShortest : Stmt := top 24
abbrev sListed : Stmt := top 25
abbrev sCheckSlope : Stmt := top 28
abbrev sCheckMany : Stmt := top 29
abbrev sCheckNumber : Stmt := top 30
abbrev sCheckPlace : Stmt := top 31
abbrev sPartAt : Stmt := top 32
abbrev sNeighboursFor : Stmt := top 33
abbrev sNeighboursTo : Stmt := top 34
abbrev sNeighboursPast : Stmt := top 35
abbrev sDigitsOf : Stmt := top 37
abbrev sNumeral : Stmt := top 38
abbrev sLengthOf : Stmt := top 39
abbrev sCountShorter : Stmt := top 40
abbrev sMultipleAt : Stmt := top 42
abbrev sWholeAt : Stmt := top 43
abbrev sSignAt : Stmt := top 44
abbrev sCheckBound : Stmt := top 46
abbrev sDistanceAt : Stmt := top 47
abbrev sRecordsTo : Stmt := top 48
abbrev sDistance : Stmt := top 49
abbrev sIsRecord : Stmt := top 50
abbrev sRecords : Stmt := top 51
abbrev sLFlask : Stmt := top 53
abbrev sLPour : Stmt := top 54
abbrev sLPick : Stmt := top 55
abbrev sLSides : Stmt := top 56
abbrev sLPart : Stmt := top 57
abbrev sLPairs : Stmt := top 58
abbrev sLDraw : Stmt := top 59
abbrev sLLengthsRight : Stmt := top 60
abbrev sLMark : Stmt := top 61
abbrev sLOrderRight : Stmt := top 62
abbrev sLRecordsRight : Stmt := top 63
abbrev sLRight : Stmt := top 64
abbrev sLaw : Stmt := top 65
abbrev sInit : Stmt := inClass (top 27) 0
abbrev sNeighbour : Stmt := inClass (top 27) 6
abbrev FnP (K : PySem.W.Frag) (x q : Str) (st : Stmt) (f : Addr) (fd : FuncData) : Prop := FunD K x q (defArgs st) (defBody st) (defScope st) [] [] f fd
/-! ### the head's facts -/
def dIsInteger : He.DefD := ⟨("is_integer", none), "is_integer", "is_integer", defArgs sIsInteger, defBody sIsInteger, defScope sIsInteger, [], []⟩
def dIsBetween : He.DefD := ⟨("is_between", none), "is_between", "is_between", defArgs sIsBetween, defBody sIsBetween, defScope sIsBetween, [], []⟩
def dCheckLead : He.DefD := ⟨("check_lead", none), "check_lead", "check_lead", defArgs sCheckLead, defBody sCheckLead, defScope sCheckLead, [], []⟩
def dCheckLoop : He.DefD := ⟨("check_loop", none), "check_loop", "check_loop", defArgs sCheckLoop, defBody sCheckLoop, defScope sCheckLoop, [], []⟩
def dShortestLoop : He.DefD := ⟨("shortest_loop", none), "shortest_loop", "shortest_loop", defArgs sShortestLoop, defBody sShortestLoop, defScope sShortestLoop, [], []⟩
def dShortest : He.DefD := ⟨("shortest", none), "shortest", "shortest", defArgs sShortest, defBody sShortest, defScope sShortest, [], []⟩
def dListed : He.DefD := ⟨("listed", none), "listed", "listed", defArgs sListed, defBody sListed, defScope sListed, [], []⟩
def dCheckSlope : He.DefD := ⟨("check_slope", none), "check_slope", "check_slope", defArgs sCheckSlope, defBody sCheckSlope, defScope sCheckSlope, [], []⟩
def dCheckMany : He.DefD := ⟨("check_many", none), "check_many", "check_many", defArgs sCheckMany, defBody sCheckMany, defScope sCheckMany, [], []⟩
def dCheckNumber : He.DefD := ⟨("check_number", none), "check_number", "check_number", defArgs sCheckNumber, defBody sCheckNumber, defScope sCheckNumber, [], []⟩
def dCheckPlace : He.DefD := ⟨("check_place", none), "check_place", "check_place", defArgs sCheckPlace, defBody sCheckPlace, defScope sCheckPlace, [], []⟩
def dPartAt : He.DefD := ⟨("part_at", none), "part_at", "part_at", defArgs sPartAt, defBody sPartAt, defScope sPartAt, [], []⟩
def dNeighboursFor : He.DefD := ⟨("neighbours_for", none), "neighbours_for", "neighbours_for", defArgs sNeighboursFor, defBody sNeighboursFor, defScope sNeighboursFor, [], []⟩
def dNeighboursTo : He.DefD := ⟨("neighbours_to", none), "neighbours_to", "neighbours_to", defArgs sNeighboursTo, defBody sNeighboursTo, defScope sNeighboursTo, [], []⟩
def dNeighboursPast : He.DefD := ⟨("neighbours_past", none), "neighbours_past", "neighbours_past", defArgs sNeighboursPast, defBody sNeighboursPast, defScope sNeighboursPast, [], []⟩
def dDigitsOf : He.DefD := ⟨("digits_of", none), "digits_of", "digits_of", defArgs sDigitsOf, defBody sDigitsOf, defScope sDigitsOf, [], []⟩
def dNumeral : He.DefD := ⟨("numeral", none), "numeral", "numeral", defArgs sNumeral, defBody sNumeral, defScope sNumeral, [], []⟩
def dLengthOf : He.DefD := ⟨("length_of", none), "length_of", "length_of", defArgs sLengthOf, defBody sLengthOf, defScope sLengthOf, [], []⟩
def dCountShorter : He.DefD := ⟨("count_shorter", none), "count_shorter", "count_shorter", defArgs sCountShorter, defBody sCountShorter, defScope sCountShorter, [], []⟩
def dMultipleAt : He.DefD := ⟨("multiple_at", none), "multiple_at", "multiple_at", defArgs sMultipleAt, defBody sMultipleAt, defScope sMultipleAt, [], []⟩
def dWholeAt : He.DefD := ⟨("whole_at", none), "whole_at", "whole_at", defArgs sWholeAt, defBody sWholeAt, defScope sWholeAt, [], []⟩
def dSignAt : He.DefD := ⟨("sign_at", none), "sign_at", "sign_at", defArgs sSignAt, defBody sSignAt, defScope sSignAt, [], []⟩
def dCheckBound : He.DefD := ⟨("check_bound", none), "check_bound", "check_bound", defArgs sCheckBound, defBody sCheckBound, defScope sCheckBound, [], []⟩
def dDistanceAt : He.DefD := ⟨("distance_at", none), "distance_at", "distance_at", defArgs sDistanceAt, defBody sDistanceAt, defScope sDistanceAt, [], []⟩
def dRecordsTo : He.DefD := ⟨("records_to", none), "records_to", "records_to", defArgs sRecordsTo, defBody sRecordsTo, defScope sRecordsTo, [], []⟩
def dDistance : He.DefD := ⟨("distance", none), "distance", "distance", defArgs sDistance, defBody sDistance, defScope sDistance, [], []⟩
def dIsRecord : He.DefD := ⟨("is_record", none), "is_record", "is_record", defArgs sIsRecord, defBody sIsRecord, defScope sIsRecord, [], []⟩
def dRecords : He.DefD := ⟨("records", none), "records", "records", defArgs sRecords, defBody sRecords, defScope sRecords, [], []⟩
def dLFlask : He.DefD := ⟨("_law_flask", none), "_law_flask", "_law_flask", defArgs sLFlask, defBody sLFlask, defScope sLFlask, [], []⟩
def dLPour : He.DefD := ⟨("_law_pour", none), "_law_pour", "_law_pour", defArgs sLPour, defBody sLPour, defScope sLPour, [], []⟩
def dLPick : He.DefD := ⟨("_law_pick", none), "_law_pick", "_law_pick", defArgs sLPick, defBody sLPick, defScope sLPick, [], []⟩
def dLSides : He.DefD := ⟨("_law_sides", none), "_law_sides", "_law_sides", defArgs sLSides, defBody sLSides, defScope sLSides, [], []⟩
def dLPart : He.DefD := ⟨("_law_part", none), "_law_part", "_law_part", defArgs sLPart, defBody sLPart, defScope sLPart, [], []⟩
def dLPairs : He.DefD := ⟨("_law_pairs", none), "_law_pairs", "_law_pairs", defArgs sLPairs, defBody sLPairs, defScope sLPairs, [], []⟩
def dLDraw : He.DefD := ⟨("_law_draw", none), "_law_draw", "_law_draw", defArgs sLDraw, defBody sLDraw, defScope sLDraw, [], []⟩
def dLLengthsRight : He.DefD := ⟨("_law_lengths_right", none), "_law_lengths_right", "_law_lengths_right", defArgs sLLengthsRight, defBody sLLengthsRight, defScope sLLengthsRight, [], []⟩
def dLMark : He.DefD := ⟨("_law_mark", none), "_law_mark", "_law_mark", defArgs sLMark, defBody sLMark, defScope sLMark, [], []⟩
def dLOrderRight : He.DefD := ⟨("_law_order_right", none), "_law_order_right", "_law_order_right", defArgs sLOrderRight, defBody sLOrderRight, defScope sLOrderRight, [], []⟩
def dLRecordsRight : He.DefD := ⟨("_law_records_right", none), "_law_records_right", "_law_records_right", defArgs sLRecordsRight, defBody sLRecordsRight, defScope sLRecordsRight, [], []⟩
def dLRight : He.DefD := ⟨("_law_right", none), "_law_right", "_law_right", defArgs sLRight, defBody sLRight, defScope sLRight, [], []⟩
def dLaw : He.DefD := ⟨("law", none), "law", "law", defArgs sLaw, defBody sLaw, defScope sLaw, [], []⟩
def dInit : He.DefD := ⟨("Slope", some "__init__"), "__init__", "Slope.__init__", defArgs sInit, defBody sInit, defScope sInit, [], []⟩
def dNeighbour : He.DefD := ⟨("Slope", some "neighbour"), "neighbour", "Slope.neighbour", defArgs sNeighbour, defBody sNeighbour, defScope sNeighbour, [], []⟩
def fns : List He.DefD := [dIsInteger, dIsBetween, dCheckLead, dCheckLoop, dShortestLoop, dShortest, dListed, dCheckSlope, dCheckMany, dCheckNumber, dCheckPlace, dPartAt, dNeighboursFor, dNeighboursTo, dNeighboursPast, dDigitsOf, dNumeral, dLengthOf, dCountShorter, dMultipleAt, dWholeAt, dSignAt, dCheckBound, dDistanceAt, dRecordsTo, dDistance, dIsRecord, dRecords, dLFlask, dLPour, dLPick, dLSides, dLPart, dLPairs, dLDraw, dLLengthsRight, dLMark, dLOrderRight, dLRecordsRight, dLRight, dLaw, dInit, dNeighbour]
def fas : List He.Fa := [.glo "is_integer", .glo "is_between", .glo "check_lead", .glo "check_loop", .glo "shortest_loop", .glo "shortest", .glo "listed", .glo "check_slope", .glo "check_many", .glo "check_number", .glo "check_place", .glo "part_at", .glo "neighbours_for", .glo "neighbours_to", .glo "neighbours_past", .glo "digits_of", .glo "numeral", .glo "length_of", .glo "count_shorter", .glo "multiple_at", .glo "whole_at", .glo "sign_at", .glo "check_bound", .glo "distance_at", .glo "records_to", .glo "distance", .glo "is_record", .glo "records", .glo "_law_flask", .glo "_law_pour", .glo "_law_pick", .glo "_law_sides", .glo "_law_part", .glo "_law_pairs", .glo "_law_draw", .glo "_law_lengths_right", .glo "_law_mark", .glo "_law_order_right", .glo "_law_records_right", .glo "_law_right", .glo "law", .glo "Slope", .free "isinstance", .free "int", .free "bool", .free "tuple", .free "enumerate", .free "len", .free "range", .free "str", .free "divmod", .free "sorted", .free "set", .free "abs", .free "max", .free "min", .free "all", .free "list", .int "MOST_PART" 20, .int "MOST_LEAD" 8, .int "MOST_LOOP" 12, .int "MOST_NUMBER" 1000000000000000000000000000000, .int "MOST_PLACE" 60, .cls "Slope", .noat "Slope" "held", .noat "Slope" "words", .meth "Slope" "neighbour", .mkr "Slope"]
/-- what isinstance(x, Slope) asks -/
def insB (K : PySem.W.Frag) : Bool := He.eqO (PySem.W.findIn K (.ref (He.ga K "Slope")) "__class__") (some (some (.builtin "object.__class__"))) && (He.eqO (PySem.W.specialIn K (.builtin "object.__class__") "__get__") (some (some (.builtin "getset_descriptor.__get__"))) &&
  (decide (PySem.W.takesIn K (.builtin "object.__class__") = some true) && (decide (PySem.W.mroIn K (He.ga K "Slope") (.type "object") = some true) && decide (PySem.W.kitOne K (.ref (He.ga K "Slope")) (.ref (He.ga K "Slope")) = some true))))
theorem insB_ok {K : PySem.W.Frag} (c : Cls K (He.ga K "Slope")) (h : insB K = true) : C8.InsC K (He.ga K "Slope") := by
  obtain ⟨h1, h⟩ := He.ba h
  obtain ⟨h2, h⟩ := He.ba h
  obtain ⟨h3, h⟩ := He.ba h
  obtain ⟨h4, h5⟩ := He.ba h
  exact ⟨c, He.eqO_ok h1, He.eqO_ok h2, of_decide_eq_true h3, of_decide_eq_true h4, of_decide_eq_true h5⟩
/-! ### the Hook: hookD's facts and this one more -/
def obsP (g : Addr → Option Obj) : He.AlD × Bool := (He.obsD fas fns (He.frG g (He.asD g 4)), insB (He.frG g (He.asD g 4)))
def Says (K : PySem.W.Frag) : Prop := He.SaysD fas fns K ∧ insB K = true
def hk : PySem.W.Hook where
  α := He.AlD × Bool
  obs := fun s => obsP s.heap.get?
  val := fun _ => (He.valD fns, true)
  says := fun _ h => ∃ K : PySem.W.Frag, K.In h ∧ Says K
  of := fun _ _ e => ⟨_, He.frG_in, congrArg (fun z : He.AlD × Bool => z.1) e, congrArg (fun z : He.AlD × Bool => z.2) e⟩
  keeps := fun _ _ _ says e => says.imp fun _ z => ⟨PySem.W.Frag.In.keeps z.1 e, z.2⟩
def ob (s : PySem.W.SharedT) : He.AlD × Bool := obsP (HandSHeadRun.getT s)
theorem ob_eq (s : PySem.W.SharedT) : ob s = hk.obs s.abs := by
  have e : HandSHeadRun.getT s = s.abs.heap.get? := funext fun a => HandSHeadRun.getT_eq s a
  show obsP (HandSHeadRun.getT s) = obsP s.abs.heap.get?
  rw [e]
abbrev R : PySem.W.OpenRow := PySem.W.OpenLaw.row PySem.Challenge.rw_slopeworld_k33_whole_lengths_beside_neig
def names0 : List PySem.Str := ["_wall", "WrongValue", "InvalidText", "InvalidNumber", "NotASlope", "InvalidLead", "InvalidLoop", "DIGITS", "is_integer", "is_between", "number_in", "integer_in"]
def names1 : List PySem.Str := ["MOST_PART", "MOST_LEAD", "MOST_LOOP", "MOST_NUMBER", "MOST_PLACE", "MOST_PARTS", "check_lead", "check_loop", "shortest_loop", "shortest", "listed", "numbers_in"]
def names2 : List PySem.Str := ["Slope", "check_slope", "check_many", "check_number", "check_place", "part_at", "neighbours_for", "neighbours_to", "neighbours_past", "digits_of", "numeral", "length_of"]
def names3 : List PySem.Str := ["count_shorter", "multiple_at", "whole_at", "sign_at", "check_bound", "distance_at", "records_to", "distance", "is_record", "records", "_law_flask", "_law_pour"]
def names4 : List PySem.Str := ["_law_pick", "_law_sides", "_law_part", "_law_pairs", "_law_draw", "_law_lengths_right", "_law_mark", "_law_order_right", "_law_records_right", "_law_right"]
abbrev names : List PySem.Str := names0 ++ names1 ++ names2 ++ names3 ++ names4
abbrev qv : Program := PySem.W.view R.prog [65]
/-! ### the facts by names -/
structure Tx (K : PySem.W.Frag) (mg : Str → Option Value) : Prop where
  glo : ∀ (i : Nat) (x : Str), fas[i]? = some (.glo x) → mg x = some (.ref (He.ga K x))
  free : ∀ (i : Nat) (x : Str), fas[i]? = some (.free x) → mg x = none
  int : ∀ (i : Nat) (x : Str) (n : Int), fas[i]? = some (.int x n) → ∃ t, mg x = some (.int n t)
  cls : Cls K (He.ga K "Slope")
  inc : C8.InsC K (He.ga K "Slope")
  nH : NoAttr K (He.ga K "Slope") "held"
  nW : NoAttr K (He.ga K "Slope") "words"
  mN : Meth K (He.ga K "Slope") "neighbour" (He.ma K (He.ga K "Slope") "neighbour")
  mkr : Mk K (He.ga K "Slope") (He.ma K (He.ga K "Slope") "__init__")
  df : ∀ (i : Nat) (d : He.DefD), fns[i]? = some d → ∃ fd, FunD K d.name d.qual d.params d.body d.scope (d.dvs K) (d.kws K) (He.fAd K d.at_) fd
theorem Tx.of {K : PySem.W.Frag} {h : Heap} {mg : Str → Option Value} (X : K.In h) (G : h.Ns mainGlobals mg) (c : Says K) : Tx K mg :=
  ⟨fun i x e => He.glo_ok X G (c.1.fact i (f := .glo x) e), fun i x e => He.free_ok X G (c.1.fact i (f := .free x) e), fun i x n e => He.int_ok X G (c.1.fact i (f := .int x n) e),
   He.cls_ok (c.1.fact 63 (f := .cls "Slope") rfl), insB_ok (He.cls_ok (c.1.fact 63 (f := .cls "Slope") rfl)) c.2, He.noat_ok (c.1.fact 64 (f := .noat "Slope" "held") rfl), He.noat_ok (c.1.fact 65 (f := .noat "Slope" "words") rfl),
   He.meth_ok (c.1.fact 66 (f := .meth "Slope" "neighbour") rfl), He.mkr_ok (c.1.fact 67 (f := .mkr "Slope") rfl), fun i d e => c.1.def_ i (d := d) e⟩
section
variable {K : PySem.W.Frag} {mg : Str → Option Value}
theorem Tx.g_is_integer (T : Tx K mg) : mg "is_integer" = some (.ref (He.ga K "is_integer")) := T.glo 0 _ rfl
theorem Tx.d_is_integer (T : Tx K mg) : ∃ fd, FnP K "is_integer" "is_integer" sIsInteger (He.ga K "is_integer") fd := T.df 0 dIsInteger rfl
theorem Tx.g_is_between (T : Tx K mg) : mg "is_between" = some (.ref (He.ga K "is_between")) := T.glo 1 _ rfl
theorem Tx.d_is_between (T : Tx K mg) : ∃ fd, FnP K "is_between" "is_between" sIsBetween (He.ga K "is_between") fd := T.df 1 dIsBetween rfl
theorem Tx.g_check_lead (T : Tx K mg) : mg "check_lead" = some (.ref (He.ga K "check_lead")) := T.glo 2 _ rfl
theorem Tx.d_check_lead (T : Tx K mg) : ∃ fd, FnP K "check_lead" "check_lead" sCheckLead (He.ga K "check_lead") fd := T.df 2 dCheckLead rfl
theorem Tx.g_check_loop (T : Tx K mg) : mg "check_loop" = some (.ref (He.ga K "check_loop")) := T.glo 3 _ rfl
theorem Tx.d_check_loop (T : Tx K mg) : ∃ fd, FnP K "check_loop" "check_loop" sCheckLoop (He.ga K "check_loop") fd := T.df 3 dCheckLoop rfl
theorem Tx.g_shortest_loop (T : Tx K mg) : mg "shortest_loop" = some (.ref (He.ga K "shortest_loop")) := T.glo 4 _ rfl
theorem Tx.d_shortest_loop (T : Tx K mg) : ∃ fd, FnP K "shortest_loop" "shortest_loop" sShortestLoop (He.ga K "shortest_loop") fd := T.df 4 dShortestLoop rfl
theorem Tx.g_shortest (T : Tx K mg) : mg "shortest" = some (.ref (He.ga K "shortest")) := T.glo 5 _ rfl
theorem Tx.d_shortest (T : Tx K mg) : ∃ fd, FnP K "shortest" "shortest" sShortest (He.ga K "shortest") fd := T.df 5 dShortest rfl
theorem Tx.g_listed (T : Tx K mg) : mg "listed" = some (.ref (He.ga K "listed")) := T.glo 6 _ rfl
theorem Tx.d_listed (T : Tx K mg) : ∃ fd, FnP K "listed" "listed" sListed (He.ga K "listed") fd := T.df 6 dListed rfl
theorem Tx.g_check_slope (T : Tx K mg) : mg "check_slope" = some (.ref (He.ga K "check_slope")) := T.glo 7 _ rfl
theorem Tx.d_check_slope (T : Tx K mg) : ∃ fd, FnP K "check_slope" "check_slope" sCheckSlope (He.ga K "check_slope") fd := T.df 7 dCheckSlope rfl
theorem Tx.g_check_many (T : Tx K mg) : mg "check_many" = some (.ref (He.ga K "check_many")) := T.glo 8 _ rfl
theorem Tx.d_check_many (T : Tx K mg) : ∃ fd, FnP K "check_many" "check_many" sCheckMany (He.ga K "check_many") fd := T.df 8 dCheckMany rfl
theorem Tx.g_check_number (T : Tx K mg) : mg "check_number" = some (.ref (He.ga K "check_number")) := T.glo 9 _ rfl
theorem Tx.d_check_number (T : Tx K mg) : ∃ fd, FnP K "check_number" "check_number" sCheckNumber (He.ga K "check_number") fd := T.df 9 dCheckNumber rfl
theorem Tx.g_check_place (T : Tx K mg) : mg "check_place" = some (.ref (He.ga K "check_place")) := T.glo 10 _ rfl
theorem Tx.d_check_place (T : Tx K mg) : ∃ fd, FnP K "check_place" "check_place" sCheckPlace (He.ga K "check_place") fd := T.df 10 dCheckPlace rfl
theorem Tx.g_part_at (T : Tx K mg) : mg "part_at" = some (.ref (He.ga K "part_at")) := T.glo 11 _ rfl
theorem Tx.d_part_at (T : Tx K mg) : ∃ fd, FnP K "part_at" "part_at" sPartAt (He.ga K "part_at") fd := T.df 11 dPartAt rfl
theorem Tx.g_neighbours_for (T : Tx K mg) : mg "neighbours_for" = some (.ref (He.ga K "neighbours_for")) := T.glo 12 _ rfl
theorem Tx.d_neighbours_for (T : Tx K mg) : ∃ fd, FnP K "neighbours_for" "neighbours_for" sNeighboursFor (He.ga K "neighbours_for") fd := T.df 12 dNeighboursFor rfl
theorem Tx.g_neighbours_to (T : Tx K mg) : mg "neighbours_to" = some (.ref (He.ga K "neighbours_to")) := T.glo 13 _ rfl
theorem Tx.d_neighbours_to (T : Tx K mg) : ∃ fd, FnP K "neighbours_to" "neighbours_to" sNeighboursTo (He.ga K "neighbours_to") fd := T.df 13 dNeighboursTo rfl
theorem Tx.g_neighbours_past (T : Tx K mg) : mg "neighbours_past" = some (.ref (He.ga K "neighbours_past")) := T.glo 14 _ rfl
theorem Tx.d_neighbours_past (T : Tx K mg) : ∃ fd, FnP K "neighbours_past" "neighbours_past" sNeighboursPast (He.ga K "neighbours_past") fd := T.df 14 dNeighboursPast rfl
theorem Tx.g_digits_of (T : Tx K mg) : mg "digits_of" = some (.ref (He.ga K "digits_of")) := T.glo 15 _ rfl
theorem Tx.d_digits_of (T : Tx K mg) : ∃ fd, FnP K "digits_of" "digits_of" sDigitsOf (He.ga K "digits_of") fd := T.df 15 dDigitsOf rfl
theorem Tx.g_numeral (T : Tx K mg) : mg "numeral" = some (.ref (He.ga K "numeral")) := T.glo 16 _ rfl
theorem Tx.d_numeral (T : Tx K mg) : ∃ fd, FnP K "numeral" "numeral" sNumeral (He.ga K "numeral") fd := T.df 16 dNumeral rfl
theorem Tx.g_length_of (T : Tx K mg) : mg "length_of" = some (.ref (He.ga K "length_of")) := T.glo 17 _ rfl
theorem Tx.d_length_of (T : Tx K mg) : ∃ fd, FnP K "length_of" "length_of" sLengthOf (He.ga K "length_of") fd := T.df 17 dLengthOf rfl
theorem Tx.g_count_shorter (T : Tx K mg) : mg "count_shorter" = some (.ref (He.ga K "count_shorter")) := T.glo 18 _ rfl
theorem Tx.d_count_shorter (T : Tx K mg) : ∃ fd, FnP K "count_shorter" "count_shorter" sCountShorter (He.ga K "count_shorter") fd := T.df 18 dCountShorter rfl
theorem Tx.g_multiple_at (T : Tx K mg) : mg "multiple_at" = some (.ref (He.ga K "multiple_at")) := T.glo 19 _ rfl
theorem Tx.d_multiple_at (T : Tx K mg) : ∃ fd, FnP K "multiple_at" "multiple_at" sMultipleAt (He.ga K "multiple_at") fd := T.df 19 dMultipleAt rfl
theorem Tx.g_whole_at (T : Tx K mg) : mg "whole_at" = some (.ref (He.ga K "whole_at")) := T.glo 20 _ rfl
theorem Tx.d_whole_at (T : Tx K mg) : ∃ fd, FnP K "whole_at" "whole_at" sWholeAt (He.ga K "whole_at") fd := T.df 20 dWholeAt rfl
theorem Tx.g_sign_at (T : Tx K mg) : mg "sign_at" = some (.ref (He.ga K "sign_at")) := T.glo 21 _ rfl
theorem Tx.d_sign_at (T : Tx K mg) : ∃ fd, FnP K "sign_at" "sign_at" sSignAt (He.ga K "sign_at") fd := T.df 21 dSignAt rfl
theorem Tx.g_check_bound (T : Tx K mg) : mg "check_bound" = some (.ref (He.ga K "check_bound")) := T.glo 22 _ rfl
theorem Tx.d_check_bound (T : Tx K mg) : ∃ fd, FnP K "check_bound" "check_bound" sCheckBound (He.ga K "check_bound") fd := T.df 22 dCheckBound rfl
theorem Tx.g_distance_at (T : Tx K mg) : mg "distance_at" = some (.ref (He.ga K "distance_at")) := T.glo 23 _ rfl
theorem Tx.d_distance_at (T : Tx K mg) : ∃ fd, FnP K "distance_at" "distance_at" sDistanceAt (He.ga K "distance_at") fd := T.df 23 dDistanceAt rfl
theorem Tx.g_records_to (T : Tx K mg) : mg "records_to" = some (.ref (He.ga K "records_to")) := T.glo 24 _ rfl
theorem Tx.d_records_to (T : Tx K mg) : ∃ fd, FnP K "records_to" "records_to" sRecordsTo (He.ga K "records_to") fd := T.df 24 dRecordsTo rfl
theorem Tx.g_distance (T : Tx K mg) : mg "distance" = some (.ref (He.ga K "distance")) := T.glo 25 _ rfl
theorem Tx.d_distance (T : Tx K mg) : ∃ fd, FnP K "distance" "distance" sDistance (He.ga K "distance") fd := T.df 25 dDistance rfl
theorem Tx.g_is_record (T : Tx K mg) : mg "is_record" = some (.ref (He.ga K "is_record")) := T.glo 26 _ rfl
theorem Tx.d_is_record (T : Tx K mg) : ∃ fd, FnP K "is_record" "is_record" sIsRecord (He.ga K "is_record") fd := T.df 26 dIsRecord rfl
theorem Tx.g_records (T : Tx K mg) : mg "records" = some (.ref (He.ga K "records")) := T.glo 27 _ rfl
theorem Tx.d_records (T : Tx K mg) : ∃ fd, FnP K "records" "records" sRecords (He.ga K "records") fd := T.df 27 dRecords rfl
theorem Tx.g__law_flask (T : Tx K mg) : mg "_law_flask" = some (.ref (He.ga K "_law_flask")) := T.glo 28 _ rfl
theorem Tx.d__law_flask (T : Tx K mg) : ∃ fd, FnP K "_law_flask" "_law_flask" sLFlask (He.ga K "_law_flask") fd := T.df 28 dLFlask rfl
theorem Tx.g__law_pour (T : Tx K mg) : mg "_law_pour" = some (.ref (He.ga K "_law_pour")) := T.glo 29 _ rfl
theorem Tx.d__law_pour (T : Tx K mg) : ∃ fd, FnP K "_law_pour" "_law_pour" sLPour (He.ga K "_law_pour") fd := T.df 29 dLPour rfl
theorem Tx.g__law_pick (T : Tx K mg) : mg "_law_pick" = some (.ref (He.ga K "_law_pick")) := T.glo 30 _ rfl
theorem Tx.d__law_pick (T : Tx K mg) : ∃ fd, FnP K "_law_pick" "_law_pick" sLPick (He.ga K "_law_pick") fd := T.df 30 dLPick rfl
theorem Tx.g__law_sides (T : Tx K mg) : mg "_law_sides" = some (.ref (He.ga K "_law_sides")) := T.glo 31 _ rfl
theorem Tx.d__law_sides (T : Tx K mg) : ∃ fd, FnP K "_law_sides" "_law_sides" sLSides (He.ga K "_law_sides") fd := T.df 31 dLSides rfl
theorem Tx.g__law_part (T : Tx K mg) : mg "_law_part" = some (.ref (He.ga K "_law_part")) := T.glo 32 _ rfl
theorem Tx.d__law_part (T : Tx K mg) : ∃ fd, FnP K "_law_part" "_law_part" sLPart (He.ga K "_law_part") fd := T.df 32 dLPart rfl
theorem Tx.g__law_pairs (T : Tx K mg) : mg "_law_pairs" = some (.ref (He.ga K "_law_pairs")) := T.glo 33 _ rfl
theorem Tx.d__law_pairs (T : Tx K mg) : ∃ fd, FnP K "_law_pairs" "_law_pairs" sLPairs (He.ga K "_law_pairs") fd := T.df 33 dLPairs rfl
theorem Tx.g__law_draw (T : Tx K mg) : mg "_law_draw" = some (.ref (He.ga K "_law_draw")) := T.glo 34 _ rfl
theorem Tx.d__law_draw (T : Tx K mg) : ∃ fd, FnP K "_law_draw" "_law_draw" sLDraw (He.ga K "_law_draw") fd := T.df 34 dLDraw rfl
theorem Tx.g__law_lengths_right (T : Tx K mg) : mg "_law_lengths_right" = some (.ref (He.ga K "_law_lengths_right")) := T.glo 35 _ rfl
theorem Tx.d__law_lengths_right (T : Tx K mg) : ∃ fd, FnP K "_law_lengths_right" "_law_lengths_right" sLLengthsRight (He.ga K "_law_lengths_right") fd := T.df 35 dLLengthsRight rfl
theorem Tx.g__law_mark (T : Tx K mg) : mg "_law_mark" = some (.ref (He.ga K "_law_mark")) := T.glo 36 _ rfl
theorem Tx.d__law_mark (T : Tx K mg) : ∃ fd, FnP K "_law_mark" "_law_mark" sLMark (He.ga K "_law_mark") fd := T.df 36 dLMark rfl
theorem Tx.g__law_order_right (T : Tx K mg) : mg "_law_order_right" = some (.ref (He.ga K "_law_order_right")) := T.glo 37 _ rfl
theorem Tx.d__law_order_right (T : Tx K mg) : ∃ fd, FnP K "_law_order_right" "_law_order_right" sLOrderRight (He.ga K "_law_order_right") fd := T.df 37 dLOrderRight rfl
theorem Tx.g__law_records_right (T : Tx K mg) : mg "_law_records_right" = some (.ref (He.ga K "_law_records_right")) := T.glo 38 _ rfl
theorem Tx.d__law_records_right (T : Tx K mg) : ∃ fd, FnP K "_law_records_right" "_law_records_right" sLRecordsRight (He.ga K "_law_records_right") fd := T.df 38 dLRecordsRight rfl
theorem Tx.g__law_right (T : Tx K mg) : mg "_law_right" = some (.ref (He.ga K "_law_right")) := T.glo 39 _ rfl
theorem Tx.d__law_right (T : Tx K mg) : ∃ fd, FnP K "_law_right" "_law_right" sLRight (He.ga K "_law_right") fd := T.df 39 dLRight rfl
theorem Tx.g_law (T : Tx K mg) : mg "law" = some (.ref (He.ga K "law")) := T.glo 40 _ rfl
theorem Tx.d_law (T : Tx K mg) : ∃ fd, FnP K "law" "law" sLaw (He.ga K "law") fd := T.df 40 dLaw rfl
theorem Tx.g_Slope (T : Tx K mg) : mg "Slope" = some (.ref (He.ga K "Slope")) := T.glo 41 _ rfl
theorem Tx.b_isinstance (T : Tx K mg) : mg "isinstance" = none := T.free 42 _ rfl
theorem Tx.b_int (T : Tx K mg) : mg "int" = none := T.free 43 _ rfl
theorem Tx.b_bool (T : Tx K mg) : mg "bool" = none := T.free 44 _ rfl
theorem Tx.b_tuple (T : Tx K mg) : mg "tuple" = none := T.free 45 _ rfl
theorem Tx.b_enumerate (T : Tx K mg) : mg "enumerate" = none := T.free 46 _ rfl
theorem Tx.b_len (T : Tx K mg) : mg "len" = none := T.free 47 _ rfl
theorem Tx.b_range (T : Tx K mg) : mg "range" = none := T.free 48 _ rfl
theorem Tx.b_str (T : Tx K mg) : mg "str" = none := T.free 49 _ rfl
theorem Tx.b_divmod (T : Tx K mg) : mg "divmod" = none := T.free 50 _ rfl
theorem Tx.b_sorted (T : Tx K mg) : mg "sorted" = none := T.free 51 _ rfl
theorem Tx.b_set (T : Tx K mg) : mg "set" = none := T.free 52 _ rfl
theorem Tx.b_abs (T : Tx K mg) : mg "abs" = none := T.free 53 _ rfl
theorem Tx.b_max (T : Tx K mg) : mg "max" = none := T.free 54 _ rfl
theorem Tx.b_min (T : Tx K mg) : mg "min" = none := T.free 55 _ rfl
theorem Tx.b_all (T : Tx K mg) : mg "all" = none := T.free 56 _ rfl
theorem Tx.b_list (T : Tx K mg) : mg "list" = none := T.free 57 _ rfl
theorem Tx.i_MOST_PART (T : Tx K mg) : ∃ t, mg "MOST_PART" = some (.int 20 t) := T.int 58 _ _ rfl
theorem Tx.i_MOST_LEAD (T : Tx K mg) : ∃ t, mg "MOST_LEAD" = some (.int 8 t) := T.int 59 _ _ rfl
theorem Tx.i_MOST_LOOP (T : Tx K mg) : ∃ t, mg "MOST_LOOP" = some (.int 12 t) := T.int 60 _ _ rfl
theorem Tx.i_MOST_NUMBER (T : Tx K mg) : ∃ t, mg "MOST_NUMBER" = some (.int 1000000000000000000000000000000 t) := T.int 61 _ _ rfl
theorem Tx.i_MOST_PLACE (T : Tx K mg) : ∃ t, mg "MOST_PLACE" = some (.int 60 t) := T.int 62 _ _ rfl
theorem Tx.m_init (T : Tx K mg) : ∃ fd, FnP K "__init__" "Slope.__init__" sInit (He.ma K (He.ga K "Slope") "__init__") fd := T.df 41 dInit rfl
theorem Tx.m_neighbour (T : Tx K mg) : ∃ fd, FnP K "neighbour" "Slope.neighbour" sNeighbour (He.ma K (He.ga K "Slope") "neighbour") fd := T.df 42 dNeighbour rfl
end
end K33
set_option maxHeartbeats 0
namespace K33
open PySem PySem.Spec PyProof.Rows L2
theorem run (w : World) : HandSHeadRun.RunEq R qv hk ob 6000 names w := by
  intro os
  kernel_rfl
end K33
set_option maxHeartbeats 0
namespace K33
open PySem PySem.Spec PyProof.Rows L2
/-! ### a def by its name: where it stands, its promise, how it binds -/
def Df (P : Program) (w : World) (K : PySem.W.Frag) (mg : Str → Option Value) (base : Heap) (k : Nat) (x : Str) (ps : List Str) (sp : Sp) : Prop :=
  ∃ fd, FnOk P w K mg base CX0 k (He.ga K x) fd ps sp ∧ Binds K fd ps [] ∧ PySem.W.keepIn K (.ref (He.ga K x)) = true ∧ mg x = some (.ref (He.ga K x))
section
variable {P : Program} {w : World} {K : PySem.W.Frag} {mg : Str → Option Value} {base : Heap}
theorem df_mk {x : Str} {st : Stmt} {N ps : List Str} {k : Nat} {sp : Sp} (F : ∃ fd, FnP K x x st (He.ga K x) fd) (hm : mg x = some (.ref (He.ga K x)))
    (hb : ∀ (kV doc pm : Value) (an : Option Addr) (cdv ct : Value) (us : List Value), us.length = ps.length → bindArgs (PySem.W.fnOf x x (defArgs st) (defBody st) (defScope st) .none kV doc pm an cdv ct) ⟨us, []⟩ = pure (ps.zip us))
    (S : FnScope N ps (defScope st)) (len : ∀ vs H Q E, sp vs H Q E → vs.length = ps.length)
    (hbody : ∀ (cdv : Value) (A : Around) (outer : List Env) (s : Shared) (H : Hp) (vs : List V) (Q : VK) (E : XK), Room k (A.deeper (envOfC x (defScope st) s.heap.objs.size (He.ga K x) cdv)) → sp vs H Q E →
      ∃ t, PSs (cxOf CX0 P w K mg base N x (defScope st) (He.ga K x) cdv A outer s H E).nox (defBody st) t ∧ t { nx := fun _ H' => Q .non H', rt := Q } (start N vs) H) : Df P w K mg base (k + 1) x ps sp := by
  obtain ⟨fd, F⟩ := F
  refine ⟨fd, F.ok S len fun cdv A outer s H vs Q E hr h => ?_, F.bindsN hb, F.kp, hm⟩
  obtain ⟨t, h1, h2⟩ := hbody cdv A outer s H vs Q E hr h
  exact ⟨t, h1.nox, h2⟩
end
section
variable {X : Cx}
theorem pe_c {j k : Nat} {x : Str} {ps : List Str} {sp : Sp} {p pos : Pos} {e : Expr} {es : List Expr} {t : TA} (D : Df X.prog X.w X.K X.mg X.base k x ps sp) (hr : Room j X.A) (ha : PA X (e :: es) t) (hk : k ≤ j := by decide) (hg : Gl X x := by rfl)
    (he : starEach (e :: es) X.env = (false, eval e X.env) :: starEach es X.env := by rfl) (hpl : (backTo pos (starEach es X.env)).any (·.1) = false := by rfl) (hdb : (x == ("__debug__" : Str)) = false := by decide) :
    PE X (.Call (.Name x p) (e :: es) [] pos) (tCall sp [] E0 t) := by
  obtain ⟨fd, F, b, kp, hm⟩ := D
  exact pe_call F (hr.mono hk) hg hm kp b .nil pass0 ha hdb he hpl
/-- a module's int -/
theorem pe_gi {x : Str} {i : Int} {pos : Pos} (h : ∃ t, X.mg x = some (.int i t)) (hg : Gl X x := by rfl) (hd : (x == ("__debug__" : Str)) = false := by decide) : PE X (.Name x pos) (tC (.int i)) := by
  obtain ⟨t, h⟩ := h
  exact pe_glob hg h ⟨t, rfl⟩ hd
end
/-! ### heaps: all but one object stands -/
def But (f : Addr) (H H' : Hp) : Prop := ∀ b o, b ≠ f → H b = some o → H' b = some o
theorem But.of {f : Addr} {H H' : Hp} (s : Same H H') : But f H H' := fun b o _ e => s b o e
theorem But.trans {f : Addr} {H H1 H2 : Hp} (a : But f H H1) (b : But f H1 H2) : But f H H2 := fun c o n e => b c o n (a c o n e)
theorem Same.upd {H H1 : Hp} {p : Addr} {o : HO} (s : Same H H1) (h : H1 p = none) : Same H (L2.upd H1 p o) := fun b u e => by
  rw [upd_ne (ne_of_none (s b u e) h)]
  exact s b u e
theorem Same.new {H : Hp} {p : Addr} {o : HO} (h : H p = none) : Same H (L2.upd H p o) := Same.upd (Same.refl H) h
theorem Same.tup {H H1 : Hp} {p : Addr} {xs : List V} (s : Same H H1) (h : H p = some (.tup xs)) : H1 p = some (.tup xs) := s _ _ h
theorem sqT {K : PySem.W.Frag} {H : Hp} {a : Addr} {xs : List V} (h : H a = some (.tup xs)) : SqT K H a xs := SqT.of h
theorem sqL {K : PySem.W.Frag} {H : Hp} {a : Addr} {xs : List V} (h : H a = some (.lst xs)) : SqL K H a xs := SqL.of h
end K33
set_option maxHeartbeats 0
namespace K33
/-! ### parts, neighbours -/
def sP (a : Nat → Int) : Nat → Int
  | 0 => 1
  | 1 => 0
  | k + 2 => a (k + 1) * sP a (k + 1) + sP a k
def sQ (a : Nat → Int) : Nat → Int
  | 0 => 0
  | 1 => 1
  | k + 2 => a (k + 1) * sQ a (k + 1) + sQ a k
/-- the top and the bottom of the neighbour k -/
def pp (a : Nat → Int) (k : Nat) : Int := sP a (k + 1)
def qq (a : Nat → Int) (k : Nat) : Int := sQ a (k + 1)
def Ok (a : Nat → Int) : Prop := ∀ k, 1 ≤ a k ∧ a k ≤ 20
theorem pp_zero (a : Nat → Int) : pp a 0 = 0 := rfl
theorem qq_zero (a : Nat → Int) : qq a 0 = 1 := rfl
theorem pp_one (a : Nat → Int) : pp a 1 = 1 := by
  show a 1 * 0 + 1 = 1
  omega
theorem qq_one (a : Nat → Int) : qq a 1 = a 1 := by
  show a 1 * 1 + 0 = a 1
  omega
theorem pp_two (a : Nat → Int) (k : Nat) : pp a (k + 2) = a (k + 2) * pp a (k + 1) + pp a k := rfl
theorem qq_two (a : Nat → Int) (k : Nat) : qq a (k + 2) = a (k + 2) * qq a (k + 1) + qq a k := rfl
theorem sP_next (a : Nat → Int) (k : Nat) : pp a (k + 1) = a (k + 1) * pp a k + sP a k := rfl
theorem sQ_next (a : Nat → Int) (k : Nat) : qq a (k + 1) = a (k + 1) * qq a k + sQ a k := rfl
section
variable {a : Nat → Int} (ha : Ok a)
include ha
theorem mul_ge (k : Nat) {x : Int} (hx : 0 ≤ x) : x ≤ a k * x := by
  have h := Int.mul_le_mul_of_nonneg_right (ha k).1 hx
  omega
theorem mul_le (k : Nat) {x : Int} (hx : 0 ≤ x) : a k * x ≤ 20 * x := Int.mul_le_mul_of_nonneg_right (ha k).2 hx
theorem qq_pos : ∀ k, 1 ≤ qq a k ∧ 1 ≤ qq a (k + 1)
  | 0 => by
    rw [qq_zero, qq_one]
    exact ⟨Int.le_refl _, (ha 1).1⟩
  | k + 1 => by
    obtain ⟨h1, h2⟩ := qq_pos k
    refine ⟨h2, ?_⟩
    rw [qq_two]
    have := mul_ge ha (k + 2) (x := qq a (k + 1)) (by omega)
    omega
theorem q1 (k : Nat) : 1 ≤ qq a k := (qq_pos ha k).1
theorem qq_add (k : Nat) : qq a (k + 1) + qq a k ≤ qq a (k + 2) := by
  rw [qq_two]
  have := mul_ge ha (k + 2) (x := qq a (k + 1)) (by have := q1 ha (k + 1); omega)
  omega
theorem qq_le (k : Nat) : qq a k ≤ qq a (k + 1) := by
  cases k with
  | zero =>
    rw [qq_zero]
    exact q1 ha 1
  | succ k =>
    have := qq_add ha k
    have := q1 ha k
    show qq a (k + 1) ≤ qq a (k + 2)
    omega
theorem qq_mono {j k : Nat} (h : j ≤ k) : qq a j ≤ qq a k := by
  induction k with
  | zero =>
    have : j = 0 := by omega
    subst this
    exact Int.le_refl _
  | succ k ih =>
    by_cases e : j = k + 1
    · subst e
      exact Int.le_refl _
    · exact Int.le_trans (ih (by omega)) (qq_le ha k)
theorem qq_lt {j k : Nat} (h0 : 1 ≤ j) (h : j < k) : qq a j < qq a k := by
  obtain ⟨i, rfl⟩ : ∃ i, j = i + 1 := ⟨j - 1, by omega⟩
  have h1 := qq_add ha i
  have h2 := q1 ha i
  have h3 := qq_mono ha (j := i + 2) (k := k) (by omega)
  omega
theorem qq_grow : ∀ j : Nat, (2 : Int) ^ j ≤ qq a (2 * j)
  | 0 => by
    show (1 : Int) ≤ qq a 0
    rw [qq_zero]
    exact Int.le_refl _
  | j + 1 => by
    have ih := qq_grow j
    have h1 := qq_add ha (2 * j)
    have h2 := qq_le ha (2 * j)
    have e : (2 : Int) ^ (j + 1) = 2 ^ j * 2 := Int.pow_succ 2 j
    rw [e]
    show (2 : Int) ^ j * 2 ≤ qq a (2 * j + 2)
    omega
theorem qq_up (k : Nat) : qq a (k + 1) ≤ 21 * qq a k := by
  cases k with
  | zero =>
    rw [qq_zero, qq_one]
    have := (ha 1).2
    omega
  | succ k =>
    rw [qq_two]
    have h1 := mul_le ha (k + 2) (x := qq a (k + 1)) (by have := q1 ha (k + 1); omega)
    have h2 := qq_le ha k
    omega
theorem pp_nn : ∀ k, (0 ≤ pp a k ∧ pp a k ≤ qq a k) ∧ (0 ≤ pp a (k + 1) ∧ pp a (k + 1) ≤ qq a (k + 1))
  | 0 => by
    rw [pp_zero, qq_zero, pp_one, qq_one]
    have := (ha 1).1
    omega
  | k + 1 => by
    obtain ⟨⟨h1, h2⟩, h3, h4⟩ := pp_nn k
    refine ⟨⟨h3, h4⟩, ?_⟩
    rw [pp_two, qq_two]
    have h5 : 0 ≤ a (k + 2) * pp a (k + 1) := Int.mul_nonneg (by have := (ha (k + 2)).1; omega) h3
    have h6 : a (k + 2) * pp a (k + 1) ≤ a (k + 2) * qq a (k + 1) := Int.mul_le_mul_of_nonneg_left h4 (by have := (ha (k + 2)).1; omega)
    omega
theorem p0 (k : Nat) : 0 ≤ pp a k := (pp_nn ha k).1.1
theorem pq (k : Nat) : pp a k ≤ qq a k := (pp_nn ha k).1.2
end
/-! ### how many bottoms are up to a number -/
structure IsLen (a : Nat → Int) (N : Int) (n : Nat) : Prop where
  up : ∀ k, k < n → qq a k ≤ N
  over : ∀ k, n ≤ k → N < qq a k
theorem IsLen.uniq {a : Nat → Int} {N : Int} {n m : Nat} (x : IsLen a N n) (y : IsLen a N m) : n = m := by
  rcases Nat.lt_trichotomy n m with h | h | h
  · have h1 := x.over n (Nat.le_refl _)
    have h2 := y.up n h
    omega
  · exact h
  · have h1 := y.over m (Nat.le_refl _)
    have h2 := x.up m h
    omega
theorem IsLen.ex {a : Nat → Int} (ha : Ok a) {N : Int} : ∀ n : Nat, N < qq a n → ∃ m, m ≤ n ∧ IsLen a N m
  | 0, h => ⟨0, Nat.le_refl _, fun k hk => absurd hk (Nat.not_lt_zero _), fun k _ => Int.lt_of_lt_of_le h (qq_mono ha (Nat.zero_le _))⟩
  | n + 1, h => by
    by_cases e : N < qq a n
    · obtain ⟨m, h1, h2⟩ := IsLen.ex ha n e
      exact ⟨m, by omega, h2⟩
    · exact ⟨n + 1, Nat.le_refl _, fun k hk => Int.le_trans (qq_mono ha (j := k) (k := n) (by omega)) (by omega), fun k hk => Int.lt_of_lt_of_le h (qq_mono ha hk)⟩
theorem big200 {a : Nat → Int} (ha : Ok a) : (10 : Int) ^ 30 < qq a 200 := by
  have h := qq_grow ha 100
  have e : (10 : Int) ^ 30 < 2 ^ 100 := by decide
  exact Int.lt_of_lt_of_le e h
theorem IsLen.small {a : Nat → Int} (ha : Ok a) {N : Int} (h : N ≤ 10 ^ 30) : ∃ m, m ≤ 200 ∧ IsLen a N m := IsLen.ex ha 200 (Int.lt_of_le_of_lt h (big200 ha))
theorem IsLen.zero {a : Nat → Int} (ha : Ok a) {N : Int} {n : Nat} (x : IsLen a N n) (h : 1 ≤ N) : 1 ≤ n := by
  cases n with
  | zero =>
    have := x.over 0 (Nat.le_refl _)
    rw [qq_zero] at this
    omega
  | succ n => omega
/-! ### digits -/
def gd (a : Nat → Int) : Nat → Int → List Int
  | 0, _ => []
  | n + 1, N => gd a n (N % qq a n) ++ [N / qq a n]
theorem gd_length (a : Nat → Int) : ∀ (n : Nat) (N : Int), (gd a n N).length = n
  | 0, _ => rfl
  | n + 1, N => by
    show (gd a n (N % qq a n) ++ [N / qq a n]).length = n + 1
    rw [List.length_append, gd_length a n]
    rfl
def vl (a : Nat → Int) : List Int → Nat → Int
  | [], _ => 0
  | d :: ds, k => d * qq a k + vl a ds (k + 1)
theorem vl_snoc (a : Nat → Int) : ∀ (ds : List Int) (k : Nat) (d : Int), vl a (ds ++ [d]) k = vl a ds k + d * qq a (k + ds.length)
  | [], k, d => by
    show d * qq a k + 0 = 0 + d * qq a k
    omega
  | x :: ds, k, d => by
    show x * qq a k + vl a (ds ++ [d]) (k + 1) = x * qq a k + vl a ds (k + 1) + d * qq a (k + (ds.length + 1))
    rw [vl_snoc a ds (k + 1) d, show k + 1 + ds.length = k + (ds.length + 1) by omega]
    omega
section
variable {a : Nat → Int} (ha : Ok a)
include ha
theorem gd_nn : ∀ (n : Nat) (N : Int), 0 ≤ N → ∀ d ∈ gd a n N, 0 ≤ d
  | 0, _, _, d, hd => by cases hd
  | n + 1, N, h, d, hd => by
    have hq := q1 ha n
    rcases List.mem_append.mp (show d ∈ gd a n (N % qq a n) ++ [N / qq a n] from hd) with q | q
    · exact gd_nn n _ (Int.emod_nonneg _ (by omega)) d q
    · rw [List.mem_singleton] at q
      rw [q]
      exact Int.ediv_nonneg h (by omega)
theorem gd_val : ∀ (n : Nat) (N : Int), 0 ≤ N → (n = 0 → N = 0) → vl a (gd a n N) 0 = N
  | 0, N, _, h => by
    show (0 : Int) = N
    exact (h rfl).symm
  | n + 1, N, h, _ => by
    have hq := q1 ha n
    show vl a (gd a n (N % qq a n) ++ [N / qq a n]) 0 = N
    rw [vl_snoc, gd_length, gd_val n (N % qq a n) (Int.emod_nonneg _ (by omega)) (fun e => by
      subst e
      rw [qq_zero]
      omega), Nat.zero_add]
    have := Int.emod_add_mul_ediv N (qq a n)
    rw [Int.mul_comm] at this
    omega
/-! ### the order of numerals -/
theorem lex_gd : ∀ (n : Nat) (N M : Int), (n = 0 → N = M) → HT.lexLt (gd a n N).reverse (gd a n M).reverse = decide (N < M)
  | 0, N, M, h => by
    rw [h rfl]
    exact (decide_eq_false (Int.lt_irrefl M)).symm
  | n + 1, N, M, _ => by
    have hq := q1 ha n
    show HT.lexLt (gd a n (N % qq a n) ++ [N / qq a n]).reverse (gd a n (M % qq a n) ++ [M / qq a n]).reverse = decide (N < M)
    rw [List.reverse_append, List.reverse_append]
    show (if N / qq a n = M / qq a n then HT.lexLt (gd a n (N % qq a n)).reverse (gd a n (M % qq a n)).reverse else decide (N / qq a n < M / qq a n)) = decide (N < M)
    have e1 := Int.emod_add_mul_ediv N (qq a n)
    have e2 := Int.emod_add_mul_ediv M (qq a n)
    have l1 := Int.emod_lt_of_pos N (show 0 < qq a n by omega)
    have l2 := Int.emod_lt_of_pos M (show 0 < qq a n by omega)
    have z1 := Int.emod_nonneg N (show qq a n ≠ 0 by omega)
    have z2 := Int.emod_nonneg M (show qq a n ≠ 0 by omega)
    by_cases e : N / qq a n = M / qq a n
    · rw [if_pos e, lex_gd n _ _ (fun z => by
        subst z
        rw [qq_zero]
        omega)]
      rw [e] at e1
      by_cases h : N < M
      · rw [decide_eq_true h, decide_eq_true (by omega)]
      · rw [decide_eq_false h, decide_eq_false (by omega)]
    · rw [if_neg e]
      by_cases h : N / qq a n < M / qq a n
      · have h3 : qq a n * (N / qq a n + 1) ≤ qq a n * (M / qq a n) := Int.mul_le_mul_of_nonneg_left (by omega) (by omega)
        rw [Int.mul_add, Int.mul_one] at h3; rw [decide_eq_true h, decide_eq_true (by omega)]
      · have h3 : qq a n * (M / qq a n + 1) ≤ qq a n * (N / qq a n) := Int.mul_le_mul_of_nonneg_left (by omega) (by omega)
        rw [Int.mul_add, Int.mul_one] at h3; rw [decide_eq_false h, decide_eq_false (by omega)]
/-- the order of two numbers is that of their marks -/
theorem order_gd {N M : Int} {n m : Nat} (x : IsLen a N n) (y : IsLen a M m) (h1 : 0 ≤ N) (h2 : 0 ≤ M) :
    (if (n : Int) = m then HT.lexLt (gd a n N).reverse (gd a m M).reverse else decide ((n : Int) < m)) = decide (N < M) := by
  by_cases e : n = m
  · subst e
    rw [if_pos rfl]
    refine lex_gd ha n N M fun z => ?_
    subst z
    have q1 := x.over 0 (Nat.le_refl _)
    have q2 := y.over 0 (Nat.le_refl _)
    rw [qq_zero] at q1 q2
    omega
  · rw [if_neg (by omega)]
    by_cases h : n < m
    · have q1 := x.over n (Nat.le_refl _)
      have q2 := y.up n h
      rw [decide_eq_true (by omega), decide_eq_true (by omega)]
    · have q1 := y.over m (Nat.le_refl _)
      have q2 := x.up m (by omega)
      rw [decide_eq_false (by omega), decide_eq_false (by omega)]
/-! ### units -/
theorem sum_nn : ∀ (ds : List Int), (∀ d ∈ ds, 0 ≤ d) → 0 ≤ ds.sum
  | [], _ => by
    show (0 : Int) ≤ 0
    omega
  | d :: ds, h => by
    rw [List.sum_cons]
    have h1 := h d List.mem_cons_self
    have h2 := sum_nn ds fun x hx => h x (List.mem_cons_of_mem _ hx)
    omega
theorem vl_zero : ∀ (ds : List Int) (k : Nat), (∀ d ∈ ds, 0 ≤ d) → ds.sum = 0 → vl a ds k = 0
  | [], _, _, _ => rfl
  | d :: ds, k, h, e => by
    rw [List.sum_cons] at e
    have h1 := h d List.mem_cons_self
    have hr : ∀ x ∈ ds, 0 ≤ x := fun x hx => h x (List.mem_cons_of_mem _ hx)
    have h2 := sum_nn ha ds hr
    have e1 : d = 0 := by omega
    show d * qq a k + vl a ds (k + 1) = 0
    rw [e1, vl_zero ds (k + 1) hr (by omega)]
    omega
theorem vl_unit : ∀ (ds : List Int) (k : Nat), (∀ d ∈ ds, 0 ≤ d) → ds.sum = 1 → ∃ j, vl a ds k = qq a j
  | [], _, _, e => by
    have e' : (0 : Int) = 1 := e
    omega
  | d :: ds, k, h, e => by
    rw [List.sum_cons] at e
    have h1 := h d List.mem_cons_self
    have hr : ∀ x ∈ ds, 0 ≤ x := fun x hx => h x (List.mem_cons_of_mem _ hx)
    have h2 := sum_nn ha ds hr
    by_cases z : d = 0
    · obtain ⟨j, hj⟩ := vl_unit ds (k + 1) hr (by omega)
      refine ⟨j, ?_⟩
      show d * qq a k + vl a ds (k + 1) = _
      rw [z, hj]
      omega
    · refine ⟨k, ?_⟩
      show d * qq a k + vl a ds (k + 1) = _
      have e1 : d = 1 := by omega
      rw [e1, vl_zero ha ds (k + 1) hr (by omega)]
      omega
theorem gd_zero : ∀ n : Nat, (gd a n 0).sum = 0
  | 0 => rfl
  | n + 1 => by
    show (gd a n (0 % qq a n) ++ [0 / qq a n]).sum = 0
    rw [Int.zero_emod, Int.zero_ediv, List.sum_append, gd_zero n]
    rfl
theorem gd_unit {N : Int} {n : Nat} (x : IsLen a N n) (h : 1 ≤ N) : (gd a n N).sum = 1 ↔ ∃ j, qq a j = N := by
  have hn := x.zero ha h
  constructor
  · intro e
    obtain ⟨j, hj⟩ := vl_unit ha (gd a n N) 0 (gd_nn ha n N (by omega)) e
    refine ⟨j, ?_⟩
    rw [← hj]
    exact gd_val ha n N (by omega) (by omega)
  · rintro ⟨j, rfl⟩
    obtain ⟨m, rfl⟩ := Nat.exists_eq_succ_of_ne_zero (show n ≠ 0 by omega)
    have h1 : qq a m ≤ qq a j := x.up m (by omega)
    have h2 : qq a j ≤ qq a m := by
      have : j < m + 1 := by
        by_cases q : j < m + 1
        · exact q
        · have := x.over j (by omega)
          omega
      exact qq_mono ha (by omega)
    have e : qq a j = qq a m := by omega
    have hq := q1 ha m
    show (gd a m (qq a j % qq a m) ++ [qq a j / qq a m]).sum = 1
    rw [e, Int.emod_self, Int.ediv_self (by omega), List.sum_append, gd_zero ha m]
    rfl
end
/-! ### distances -/
section
variable {a : Nat → Int} (ha : Ok a)
/-- q(k) p(k + i) - p(k) q(k + i), without its sign -/
def rr (a : Nat → Int) (k : Nat) : Nat → Int
  | 0 => 0
  | 1 => 1
  | i + 2 => a (k + i + 2) * rr a k (i + 1) + rr a k i
def sg (k : Nat) : Int := if k % 2 = 0 then 1 else -1
theorem sg_next (k : Nat) : sg (k + 1) = - sg k := by
  unfold sg
  rcases Nat.mod_two_eq_zero_or_one k with h | h
  · rw [if_neg (by omega), if_pos h]
  · rw [if_pos (by omega), if_neg (by omega)]
    rfl
theorem det (a : Nat → Int) : ∀ k, qq a k * pp a (k + 1) - pp a k * qq a (k + 1) = sg k
  | 0 => by
    rw [qq_zero, pp_zero, pp_one, qq_one]
    show (1 : Int) * 1 - 0 * a 1 = sg 0
    rw [Int.zero_mul]
    rfl
  | k + 1 => by
    have ih := det a k
    rw [sg_next, ← ih, pp_two, qq_two, Int.mul_add, Int.mul_add]
    have e : qq a (k + 1) * (a (k + 2) * pp a (k + 1)) = pp a (k + 1) * (a (k + 2) * qq a (k + 1)) := by
      rw [Int.mul_left_comm, Int.mul_left_comm (pp a (k + 1)), Int.mul_comm (qq a (k + 1))]
    have e2 : qq a (k + 1) * pp a k = pp a k * qq a (k + 1) := Int.mul_comm _ _
    have e3 : pp a (k + 1) * qq a k = qq a k * pp a (k + 1) := Int.mul_comm _ _
    omega
theorem det_far (a : Nat → Int) (k : Nat) : ∀ i, qq a k * pp a (k + i) - pp a k * qq a (k + i) = sg k * rr a k i ∧ qq a k * pp a (k + (i + 1)) - pp a k * qq a (k + (i + 1)) = sg k * rr a k (i + 1)
  | 0 => by
    refine ⟨?_, ?_⟩
    · show qq a k * pp a k - pp a k * qq a k = sg k * 0
      rw [Int.mul_comm (qq a k)]
      omega
    · show qq a k * pp a (k + 1) - pp a k * qq a (k + 1) = sg k * 1
      rw [det]
      omega
  | i + 1 => by
    obtain ⟨h1, h2⟩ := det_far a k i
    refine ⟨h2, ?_⟩
    show qq a k * pp a ((k + i) + 2) - pp a k * qq a ((k + i) + 2) = sg k * (a (k + i + 2) * rr a k (i + 1) + rr a k i)
    rw [pp_two, qq_two, Int.mul_add, Int.mul_add, Int.mul_add, ← h1, Int.mul_left_comm (sg k), ← h2, Int.mul_sub, Int.mul_left_comm (qq a k), Int.mul_left_comm (pp a k)]
    show a (k + i + 2) * (qq a k * pp a (k + (i + 1))) + _ - (a (k + i + 2) * (pp a k * qq a (k + (i + 1))) + _) = _
    omega
include ha
theorem rr_nn (k : Nat) : ∀ i, 0 ≤ rr a k i ∧ 1 ≤ rr a k (i + 1)
  | 0 => by
    show (0 : Int) ≤ 0 ∧ (1 : Int) ≤ 1
    omega
  | i + 1 => by
    obtain ⟨h1, h2⟩ := rr_nn k i
    refine ⟨by omega, ?_⟩
    show 1 ≤ a (k + i + 2) * rr a k (i + 1) + rr a k i
    have := mul_ge ha (k + i + 2) (x := rr a k (i + 1)) (by omega)
    omega
theorem rr_half (k : Nat) (hk : 1 ≤ k) : ∀ i, 0 ≤ qq a (k + (i + 1)) - 2 * rr a k (i + 1) ∧ 1 ≤ qq a (k + (i + 2)) - 2 * rr a k (i + 2)
  | 0 => by
    obtain ⟨j, rfl⟩ : ∃ j, k = j + 1 := ⟨k - 1, by omega⟩
    have h1 := qq_add ha j
    have h2 := q1 ha j
    have h3 := q1 ha (j + 1)
    refine ⟨?_, ?_⟩
    · show 0 ≤ qq a (j + 2) - 2 * 1
      omega
    · show 1 ≤ qq a ((j + 1) + 2) - 2 * (a (j + 1 + 0 + 2) * 1 + 0)
      rw [qq_two]
      have h4 : a (j + 1 + 2) * 2 ≤ a (j + 1 + 2) * qq a (j + 1 + 1) := Int.mul_le_mul_of_nonneg_left (by show 2 ≤ qq a (j + 2); omega) (by have := (ha (j + 1 + 2)).1; omega)
      show 1 ≤ a (j + 1 + 2) * qq a (j + 1 + 1) + qq a (j + 1) - 2 * (a (j + 1 + 2) * 1 + 0)
      omega
  | i + 1 => by
    obtain ⟨h1, h2⟩ := rr_half k hk i
    refine ⟨by
      show 0 ≤ qq a (k + (i + 2)) - 2 * rr a k (i + 2)
      omega, ?_⟩
    show 1 ≤ qq a ((k + (i + 1)) + 2) - 2 * (a (k + (i + 1) + 2) * rr a k (i + 1 + 1) + rr a k (i + 1))
    rw [qq_two]
    have h3 := mul_ge ha (k + (i + 1) + 2) (x := qq a (k + (i + 2)) - 2 * rr a k (i + 2)) (by omega)
    rw [Int.mul_sub, Int.mul_left_comm] at h3
    show 1 ≤ a (k + (i + 1) + 2) * qq a (k + (i + 2)) + qq a (k + (i + 1)) - 2 * (a (k + (i + 1) + 2) * rr a k (i + 2) + rr a k (i + 1))
    omega
/-- behind a far neighbour the whole part of q(k) t, and of twice it -/
theorem far {k m : Nat} (hk : 1 ≤ k) (hm : k + 2 ≤ m) : ∃ r : Int, 1 ≤ r ∧ 2 * r < qq a m ∧ qq a k * pp a m = pp a k * qq a m + sg k * r := by
  obtain ⟨i, rfl⟩ : ∃ i, m = k + (i + 2) := ⟨m - k - 2, by omega⟩
  refine ⟨rr a k (i + 2), (rr_nn ha k (i + 1)).2, ?_, ?_⟩
  · have := (rr_half ha k hk i).2
    omega
  · have := (det_far a k (i + 2)).1
    omega
theorem whole1 {k m : Nat} (hk : 1 ≤ k) (hm : k + 2 ≤ m) : qq a k * pp a m / qq a m = if k % 2 = 0 then pp a k else pp a k - 1 := by
  obtain ⟨r, h1, h2, e⟩ := far ha hk hm
  have hq := q1 ha m
  rw [e]
  unfold sg
  split
  · rw [Int.one_mul, Int.add_comm, Int.add_mul_ediv_right _ _ (by omega), Int.ediv_eq_zero_of_lt (by omega) (by omega)]
    omega
  · have e2 : pp a k * qq a m + -1 * r = (qq a m - r) + (pp a k - 1) * qq a m := by
      rw [Int.sub_mul]
      omega
    rw [e2, Int.add_mul_ediv_right _ _ (by omega), Int.ediv_eq_zero_of_lt (by omega) (by omega)]
    omega
theorem whole2 {k m : Nat} (hk : 1 ≤ k) (hm : k + 2 ≤ m) : 2 * qq a k * pp a m / qq a m = if k % 2 = 0 then 2 * pp a k else 2 * pp a k - 1 := by
  obtain ⟨r, h1, h2, e⟩ := far ha hk hm
  have hq := q1 ha m
  rw [Int.mul_assoc, e]
  unfold sg
  split
  · have e2 : 2 * (pp a k * qq a m + 1 * r) = 2 * r + (2 * pp a k) * qq a m := by
      rw [Int.mul_assoc]
      omega
    rw [e2, Int.add_mul_ediv_right _ _ (by omega), Int.ediv_eq_zero_of_lt (by omega) (by omega)]
    omega
  · have e2 : 2 * (pp a k * qq a m + -1 * r) = (qq a m - 2 * r) + (2 * pp a k - 1) * qq a m := by
      rw [Int.sub_mul, Int.mul_assoc]
      omega
    rw [e2, Int.add_mul_ediv_right _ _ (by omega), Int.ediv_eq_zero_of_lt (by omega) (by omega)]
    omega
end
/-! ### ascending lists -/
theorem asc_eq : ∀ {xs ys : List Int}, xs.Pairwise (· < ·) → ys.Pairwise (· < ·) → (∀ k, k ∈ xs ↔ k ∈ ys) → xs = ys
  | [], [], _, _, _ => rfl
  | [], y :: ys, _, _, h => by
    have := (h y).mpr List.mem_cons_self
    cases this
  | x :: xs, [], _, _, h => by
    have := (h x).mp List.mem_cons_self
    cases this
  | x :: xs, y :: ys, hx, hy, h => by
    obtain ⟨x1, x2⟩ := List.pairwise_cons.mp hx
    obtain ⟨y1, y2⟩ := List.pairwise_cons.mp hy
    have e : x = y := by
      rcases List.mem_cons.mp ((h x).mp List.mem_cons_self) with q | q
      · exact q
      · rcases List.mem_cons.mp ((h y).mpr List.mem_cons_self) with r | r
        · exact r.symm
        · have := y1 x q
          have := x1 y r
          omega
    subst e
    rw [asc_eq x2 y2 fun k => ?_]
    constructor
    · intro hk
      rcases List.mem_cons.mp ((h k).mp (List.mem_cons_of_mem _ hk)) with q | q
      · have := x1 k hk
        omega
      · exact q
    · intro hk
      rcases List.mem_cons.mp ((h k).mpr (List.mem_cons_of_mem _ hk)) with q | q
      · have := y1 k hk
        omega
      · exact q
end K33
set_option maxHeartbeats 0
namespace K33
open PySem PySem.Spec PyProof.Rows L2
/-! ### heaps, further -/
theorem Same.set {H H1 : Hp} {f : Addr} {o : HO} (s : Same H H1) (h : H f = none) : Same H (L2.upd H1 f o) := fun b u e => by
  rw [upd_ne (ne_of_none e h)]
  exact s b u e
theorem But.set {H H1 : Hp} {f : Addr} {o : HO} (s : But f H H1) : But f H (L2.upd H1 f o) := fun b u n e => by
  rw [upd_ne n]
  exact s b u n e
theorem But.upd {H H1 : Hp} {f p : Addr} {o : HO} (s : But f H H1) (h : H1 p = none) : But f H (L2.upd H1 p o) := fun b u n e => by
  rw [upd_ne (ne_of_none (s b u n e) h)]
  exact s b u n e
theorem But.refl (f : Addr) (H : Hp) : But f H H := fun _ _ _ e => e
theorem But.same {f : Addr} {H H1 H2 : Hp} (a : But f H H1) (b : Same H1 H2) : But f H H2 := a.trans (But.of b)
theorem q_of {Q : VK} {v u : V} {H : Hp} (e : v = u) (k : Q u H) : Q v H := e ▸ k
theorem small {n : Nat} (h : n ≤ 1000) : n ≤ sizeLine := Nat.le_of_lt (small1000 h)
theorem map_int {ns : List Int} {i : Nat} {y : V} (h : (ns.map V.int)[i]? = some y) : ∃ n, ns[i]? = some n ∧ y = .int n := by
  rw [List.getElem?_map] at h
  cases e : ns[i]? with
  | none =>
    rw [e] at h
    cases h
  | some n =>
    rw [e] at h
    exact ⟨n, rfl, (Option.some.inj h).symm⟩
theorem map_ref {ns : List Addr} {i : Nat} {y : V} (h : (ns.map V.ref)[i]? = some y) : ∃ n, ns[i]? = some n ∧ y = .ref n := by
  rw [List.getElem?_map] at h
  cases e : ns[i]? with
  | none =>
    rw [e] at h
    cases h
  | some n =>
    rw [e] at h
    exact ⟨n, rfl, (Option.some.inj h).symm⟩
/-! ### a slope by its parts -/
def parts (L T : List Int) (k : Nat) : Int := if k ≤ L.length then L.getD (k - 1) 0 else T.getD ((k - 1 - L.length) % T.length) 0
structure SlopeAt (K : PySem.W.Frag) (H : Hp) (x : Addr) (a : Nat → Int) : Prop where
  ex : ∃ (dx h l t : Addr) (fs : List (Str × V)) (L T : List Int), H x = some (.ins (He.ga K "Slope") dx fs) ∧ fs.lookup ("held" : Str) = some (V.ref h) ∧ fs.lookup ("neighbour" : Str) = none ∧ H h = some (.tup [.ref l, .ref t]) ∧
    H l = some (.tup (L.map V.int)) ∧ H t = some (.tup (T.map V.int)) ∧ T ≠ [] ∧ ∀ k, 1 ≤ k → parts L T k = a k
  ok : Ok a
theorem SlopeAt.same {K : PySem.W.Frag} {H H' : Hp} {x : Addr} {a : Nat → Int} (s : Same H H') (S : SlopeAt K H x a) : SlopeAt K H' x a := by
  obtain ⟨⟨dx, h, l, t, fs, L, T, h1, h2, h3, h4, h5, h6, h7, h8⟩, ok⟩ := S
  exact ⟨⟨dx, h, l, t, fs, L, T, s _ _ h1, h2, h3, s _ _ h4, s _ _ h5, s _ _ h6, h7, h8⟩, ok⟩
theorem SlopeAt.but {K : PySem.W.Frag} {H H' : Hp} {x f : Addr} {xs : List V} {a : Nat → Int} (s : But f H H') (hf : H f = some (.lst xs)) (S : SlopeAt K H x a) : SlopeAt K H' x a := by
  obtain ⟨⟨dx, h, l, t, fs, L, T, h1, h2, h3, h4, h5, h6, h7, h8⟩, ok⟩ := S
  have n : ∀ {b : Addr} {o : HO}, H b = some o → o ≠ .lst xs → b ≠ f := fun e d => ne_of e hf d
  exact ⟨⟨dx, h, l, t, fs, L, T, s _ _ (n h1 (fun z => nomatch z)) h1, h2, h3, s _ _ (n h4 (fun z => nomatch z)) h4, s _ _ (n h5 (fun z => nomatch z)) h5, s _ _ (n h6 (fun z => nomatch z)) h6, h7, h8⟩, ok⟩
theorem SlopeAt.ins {K : PySem.W.Frag} {H : Hp} {x : Addr} {a : Nat → Int} (S : SlopeAt K H x a) : ∃ dx fs, H x = some (.ins (He.ga K "Slope") dx fs) := by
  obtain ⟨⟨dx, h, l, t, fs, L, T, h1, _⟩, _⟩ := S
  exact ⟨dx, fs, h1⟩
/-! ### a list of the neighbours from 0 to n -/
structure NbL (H : Hp) (l : Addr) (n : Nat) (a : Nat → Int) : Prop where
  ex : ∃ as : List Addr, H l = some (.lst (as.map V.ref)) ∧ as.length = n + 1 ∧ ∀ j, j ≤ n → ∃ p, as[j]? = some p ∧ H p = some (.tup [.int (pp a j), .int (qq a j)])
theorem NbL.same {H H' : Hp} {l : Addr} {n : Nat} {a : Nat → Int} (s : Same H H') (N : NbL H l n a) : NbL H' l n a := by
  obtain ⟨as, h1, h2, h3⟩ := N
  exact ⟨as, s _ _ h1, h2, fun j hj => let ⟨p, e1, e2⟩ := h3 j hj; ⟨p, e1, s _ _ e2⟩⟩
theorem NbL.but {H H' : Hp} {l f : Addr} {n : Nat} {a : Nat → Int} {i : Int} {xs : List V} (s : But f H H') (hf : H f = some (.lst (.int i :: xs))) (N : NbL H l n a) : NbL H' l n a := by
  obtain ⟨as, h1, h2, h3⟩ := N
  have nl : l ≠ f := ne_of h1 hf (fun z => by
    cases as with
    | nil => cases h2
    | cons b as =>
      injection z with z
      injection z with z1 _
      cases z1)
  exact ⟨as, s _ _ nl h1, h2, fun j hj => let ⟨p, e1, e2⟩ := h3 j hj; ⟨p, e1, s _ _ (ne_of e2 hf (fun z => nomatch z)) e2⟩⟩
/-- the next neighbour is appended -/
theorem NbL.app {H : Hp} {l p : Addr} {n : Nat} {a : Nat → Int} {as : List Addr} (h1 : H l = some (.lst (as.map V.ref))) (h2 : as.length = n + 1) (h3 : ∀ j, j ≤ n → ∃ p, as[j]? = some p ∧ H p = some (.tup [.int (pp a j), .int (qq a j)])) (hp : H p = none) :
    NbL (upd (upd H p (.tup [.int (pp a (n + 1)), .int (qq a (n + 1))])) l (.lst (as.map V.ref ++ [.ref p]))) l (n + 1) a := by
  have nlp : l ≠ p := ne_of_none h1 hp
  refine ⟨as ++ [p], ?_, by simp [h2], fun j hj => ?_⟩
  · rw [upd_same, List.map_append]
    rfl
  · by_cases e : j = n + 1
    · subst e
      exact ⟨p, by rw [← h2]; simp, by rw [upd_ne nlp.symm, upd_same]⟩
    · obtain ⟨q, e1, e2⟩ := h3 j (by omega)
      have nq : q ≠ l := ne_of e2 h1 (fun z => nomatch z)
      exact ⟨q, by rw [List.getElem?_append_left (by omega)]; exact e1, by rw [upd_ne nq, upd_ne (ne_of_none e2 hp)]; exact e2⟩
/-- a neighbour by its place -/
theorem NbL.get {H : Hp} {l : Addr} {n : Nat} {a : Nat → Int} (N : NbL H l n a) {j : Nat} (hj : j ≤ n) : ∃ (xs : List V) (p : Addr), H l = some (.lst xs) ∧ xs.length = n + 1 ∧ xs[j]? = some (.ref p) ∧ H p = some (.tup [.int (pp a j), .int (qq a j)]) := by
  obtain ⟨as, h1, h2, h3⟩ := N
  obtain ⟨p, e1, e2⟩ := h3 j hj
  exact ⟨_, p, h1, by rw [List.length_map]; exact h2, by rw [List.getElem?_map, e1]; rfl, e2⟩
end K33
set_option maxHeartbeats 0
namespace K33
open PySem PySem.Spec PyProof.Rows L2
/-! ### enumerate(t), t a tuple: the library's walk over what a tuple's iterator draws, as a Turn of the layer -/
/-- the two cells of enumerate(v), v anything whose iterator is known -/
def enumO (it : Addr) : Obj := { cls := .type "enumerate", data := .fields #[.none, .bool false, .ref it, rawInt 0, .none, .none] }
theorem new_enum {v : Value} {o : Obj} {C : Heap → Prop} (B : Begins v o C) : Meets (Builtin.«enumerate.__new__» ⟨[.type "enumerate", v], []⟩)
    (fun _ R s => C s.heap ∧ R (.ok (.ret (.ref (s.heap.push o).objs.size))) { s with heap := (s.heap.push o).push (enumO s.heap.objs.size) }) :=
  .of_wp fun P w A R s ⟨c, r⟩ => by
    cases s with
    | mk hp gs dr tk os =>
    have sub := sub_enumerate
    have begin_ : ∀ {A' : Around} {E : Value → Shared → Prop} {Q : Value → Shared → Prop}, Q (.ref hp.objs.size) ⟨hp.push o, gs, dr, tk, os⟩ → wpAny (model P w) A' (pyIter v) Q E ⟨hp, gs, dr, tk, os⟩ :=
      fun q => B.iter P w _ _ _ _ c q
    wp_walk using begin_
    refine wpAny_stack_any fun _ => wpAny_pure ?_
    split <;> first
      | (wp_walk using begin_; exact ⟨_, rfl, r⟩)
      | (rename_i cl _ _ _ _ _
         cases (cl == Value.type "enumerate") <;> (wp_walk using begin_; exact ⟨_, rfl, r⟩))
theorem size2 (h : Heap) (o : Obj) : (h.push o).objs.size = h.objs.size + 1 := Heap.size_push ..
theorem call_enum {P : Program} {w : World} {A : Around} {E : Value → Shared → Prop} {s : Shared} {v : Value} {o : Obj} {C : Heap → Prop} {Q : Value → Shared → Prop} (B : Begins v o C) (c : C s.heap)
    (q : Q (.ref (s.heap.objs.size + 1)) { s with heap := (s.heap.push o).push (enumO s.heap.objs.size) }) : wpAny (model P w) A (call (.type "enumerate") [v]) Q E s := by
  refine callType_new F.called_enumerate (by decide) (F.typeCall_enumerate_1 v) (F.newCall_enumerate_1 v) (fun ob => F.args_object_init_2 ob v) F.entry_enumerate_new (new_enum B) ⟨c, ?_⟩
  have g := Heap.get?_push_size (s.heap.push o) (o := enumO s.heap.objs.size) rfl
  rw [size2] at g ⊢
  exact ⟨⟨_, g, rfl⟩, q⟩
def IteT (K : PySem.W.Frag) (a : Addr) : It where
  go i H := ∃ xs : List V, SqT K H a xs ∧ i < xs.length
  yld i H v H' := ∃ T x, v = .ref T ∧ H T = none ∧ H' = upd H T (.tup [.int (i : Nat), x]) ∧ ∀ xs, SqT K H a xs → xs[i]? = some x
  stop i H := ∃ xs : List V, SqT K H a xs ∧ xs.length = i
/-- its own state at turn i -/
def EnT (a e it : Addr) (i : Nat) (h : Heap) : Prop := (∃ old, IsEnum h e it ((i : Nat) : Int) old) ∧ h.IsTupleIter it a i ∧ e ≠ it
theorem EnT.live {a e it : Addr} {i : Nat} {h : Heap} (st : EnT a e it i h) : (∃ o, h.get? e = some o ∧ o.cls = .type "enumerate" ∧ ∀ v, o.data ≠ .cell v) ∧ ∃ o, h.get? it = some o ∧ o.cls = .type "tuple_iterator" ∧ ∀ v, o.data ≠ .cell v := by
  obtain ⟨⟨old, e1⟩, ⟨o, e2, e3, e4⟩, _⟩ := st
  exact ⟨⟨_, e1, rfl, fun v z => nomatch z⟩, o, e2, e3, fun v z => by rw [e4] at z; cases z⟩
theorem EnT.apart {a e it : Addr} {i : Nat} {h : Heap} {items : Array Value} (st : EnT a e it i h) (p : h.IsTuple a items) : a ≠ it ∧ e ∉ [it, a] := by
  obtain ⟨⟨o1, g1, c1, _⟩, o2, g2, c2, _⟩ := st.live
  obtain ⟨o3, g3, c3, _⟩ := p
  have n1 : a ≠ it := fun z => by
    rw [z, g2] at g3
    rw [← Option.some.inj g3, c2] at c3
    exact absurd c3 (by decide)
  have n2 : e ≠ a := fun z => by
    rw [← z, g1] at g3
    rw [← Option.some.inj g3, c1] at c3
    exact absurd c3 (by decide)
  exact ⟨n1, by simp [n2, st.2.2]⟩
theorem turn_enumT {P : Program} {w : World} {K : PySem.W.Frag} {elts : List Expr} {kk : Nat} {tpos : Pos} (a e it : Addr) : Turn P w K (.Tuple elts kk tpos) (IteT K a) [e, it] e (EnT a e it) := by
  have two : ∀ b, b ∈ [e, it] → b = e ∨ b = it := fun b hb => by simpa using hb
  refine ⟨by simp, fun i h st b hb => ?_, fun i h h' st k => ?_, ?_, ?_, fun A i s Q E st q => ?_⟩
  · obtain ⟨⟨o1, g1, _, d1⟩, o2, g2, _, d2⟩ := st.live
    rcases two b hb with rfl | rfl
    · exact ⟨o1, g1, d1⟩
    · exact ⟨o2, g2, d2⟩
  · obtain ⟨⟨old, g⟩, gi, n⟩ := st
    exact ⟨⟨old, k e (by simp) _ g⟩, gi.at (fun o z => k it (by simp) o z), n⟩
  · rintro X rfl rfl rfl hc i pins s σ H E I hf st ⟨xs, hx, hi⟩
    obtain ⟨its, rv, p, _⟩ := I.tuple hx
    have p' : s.heap.IsTuple a its.toArray := p
    obtain ⟨n1, n2⟩ := st.apart p'
    have lt : ∀ b ∈ [e, it], b < s.heap.objs.size := fun b hb => by
      obtain ⟨⟨o1, g1, _⟩, o2, g2, _⟩ := st.live
      rcases two b hb with rfl | rfl
      · exact Heap.lt_size g1
      · exact Heap.lt_size g2
    have W := WalksT.enumerateD (prog := X.prog) (w := X.w) (A := X.A) (Draws.tuple (A := X.A.in1) (I.ok.hd hc) it a n1 its.toArray) e st.2.2 n2 (by simp)
    refine W.item i s _ _ (by rw [List.size_toArray, ← rv.length]; exact hi) ⟨st.1, st.2.1, p'⟩ fun T vals h1 tk hP hT isT mid k1 => ⟨_, rfl, W.go elts kk tpos i T _ _ _ mid fun h2 st2 k2 => ?_⟩
    obtain ⟨t, u, hu, rfl⟩ := hP
    have hu' : its[i]? = some u := by rwa [List.getElem?_toArray] at hu
    have hx' : xs[i]? = some xs[i] := List.getElem?_eq_getElem hi
    obtain ⟨u', hu2, ru⟩ := rv.get hx'
    obtain rfl : u = u' := Option.some.inj (hu'.symm.trans hu2)
    obtain ⟨oT, gT, cT, nT, dT⟩ := isT
    have new : ObjOk X.prog X.w (upd H T (.tup [.int (i : Nat), xs[i]])) h2 T (.tup [.int (i : Nat), xs[i]]) :=
      ⟨by show 2 ≤ sizeLine; decide, _, .cons ⟨t, rfl⟩ (.cons ru .nil), oT, k2 T oT (W.apart i T h1 mid) gT, cT, nT, dT⟩
    have I2 := I.turnedNew (t' := tk) (ch := [e, it]) (fun b ob hb z => k2 b ob hb (k1 b ob hb z)) hf hT new
    refine ⟨.ref T, _, I2, rfl, ⟨T, xs[i], rfl, I.hok.fresh hT, rfl, fun ys hy => ?_⟩, ⟨st2.1, st2.2.1, st.2.2⟩, fun b hb => ?_⟩
    · rw [I.tuple_inj hy hx]
      exact hx'
    · rw [upd_ne (Nat.ne_of_lt (Nat.lt_of_lt_of_le (lt b hb) hT))]
      exact (hf b hb).1
  · rintro X rfl rfl rfl hc i pins s σ H E I hf st ⟨xs, hx, rfl⟩
    obtain ⟨its, rv, p, _⟩ := I.tuple hx
    have p' : s.heap.IsTuple a its.toArray := p
    obtain ⟨n1, n2⟩ := st.apart p'
    obtain ⟨⟨old, g⟩, gi, _⟩ := st
    have D := Draws.tuple (prog := X.prog) (w := X.w) (A := X.A.in1) (I.ok.hd hc) it a n1 its.toArray
    have ez : its.toArray.size = xs.length := by rw [List.size_toArray, rv.length]
    rw [ez] at D
    obtain ⟨f0, f1, _, f3, f4, f5⟩ := hf it (by simp)
    exact wpAny_pyNext_enum_endD D g ⟨gi, p'⟩ fun h' k => ⟨rfl, I.turned (t' := s.toks) k f0 f1 f3 f4 f5⟩
  · obtain ⟨⟨_, g⟩, _⟩ := st
    exact wpAny_pyIter_enum g q
def iEnumT (K : PySem.W.Frag) (ta : TA) : TI := fun σ H R => ta σ H fun vs H1 => ∃ a xs, vs = [.ref a] ∧ SqT K H1 a xs ∧ R (IteT K a) H1
theorem pi_enumT {X : Cx} {e : Expr} {ta : TA} {p pos tpos : Pos} {elts : List Expr} {kk : Nat} (hg : Gl X "enumerate") (hm : X.mg "enumerate" = none) (ha : PA X [e] ta) (hs : starEach [e] X.env = [(false, eval e X.env)] := by rfl) :
    PI X (.Tuple elts kk tpos) (.Call (.Name "enumerate" p) [e] [] pos) (iEnumT X.K ta) := by
  refine ⟨fun pins s σ H R I h => Call_ (ld_blt I hg hm boot_enumerate (PyProof.Rows.callWith_type1 (thn (ha.run pos pins s σ H _ I h) fun us s1 q => ?_) hs rfl))⟩
  obtain ⟨_, H1, I1, r1, a, xs, rfl, hx, k⟩ := q
  obtain ⟨u, rfl, ru⟩ := r1.one
  cases ru
  obtain ⟨its, _, p', _⟩ := I1.tuple hx
  have keep : ∀ b o, s1.heap.get? b = some o → ((s1.heap.push { cls := .type "tuple_iterator", data := .fields #[.ref a, .int 0 0] }).push (enumO s1.heap.objs.size)).get? b = some o :=
    fun b o z => Heap.get?_push_of_some _ (Heap.get?_push_of_some _ z)
  have gE : ((s1.heap.push { cls := .type "tuple_iterator", data := .fields #[.ref a, .int 0 0] }).push (enumO s1.heap.objs.size)).get? (s1.heap.objs.size + 1) = some (enumO s1.heap.objs.size) := by
    have g := Heap.get?_push_size (s1.heap.push { cls := .type "tuple_iterator", data := .fields #[.ref a, .int 0 0] }) (o := enumO s1.heap.objs.size) rfl
    rwa [size2] at g
  have gI : ((s1.heap.push { cls := .type "tuple_iterator", data := .fields #[.ref a, .int 0 0] }).push (enumO s1.heap.objs.size)).get? s1.heap.objs.size = some { cls := .type "tuple_iterator", data := .fields #[.ref a, .int 0 0] } :=
    (Heap.get?_push_of_some _ (Heap.get?_push_size s1.heap rfl))
  have gE' : IsEnum ((s1.heap.push { cls := .type "tuple_iterator", data := .fields #[.ref a, .int 0 0] }).push (enumO s1.heap.objs.size)) (s1.heap.objs.size + 1) s1.heap.objs.size 0 .none := gE
  refine call_enum (begins_tuple a its.toArray) p' (wpAny_pyIter_enum gE' ?_)
  refine ⟨_, [s1.heap.objs.size + 1, s1.heap.objs.size], _, _, H1, rfl, I1.kept (t' := s1.toks) keep, turn_enumT a (s1.heap.objs.size + 1) s1.heap.objs.size, ⟨⟨_, gE⟩, ⟨_, gI, rfl, rfl⟩, Nat.succ_ne_self _⟩, fun b hb => ?_, k⟩
  have hb' : s1.heap.objs.size ≤ b := by
    rcases List.mem_cons.mp hb with z | zs
    · rw [z]
      exact Nat.le_succ _
    · cases List.mem_singleton.mp zs
      exact Nat.le_refl _
  exact I1.fpOk hb' (I1.hok.fresh hb')
/-- a for over it -/
theorem walk_enumT {K : PySem.W.Frag} {a : Addr} {xs : List V} : Walk (IteT K a) xs.length (fun H => SqT K H a xs) (YPair (fun i => some (.int (i : Nat))) (fun i => xs[i]?)) :=
  ⟨fun i _ hi q => ⟨xs, q, hi⟩, fun _ q => ⟨xs, q, rfl⟩, fun i H v H' _ q ⟨T, x, h1, h2, h3, h4⟩ => ⟨T, _, x, h1, h2, h3, rfl, h4 xs q⟩⟩
end K33
set_option maxHeartbeats 0
namespace K33
open PySem PySem.Spec PyProof.Rows L2
/-! ### t[::-1], t a tuple -/
def revO : Addr → Tok → Obj := fun _ k => { cls := .type "slice", data := .fields #[.none, .none, .int (-1) k] }
theorem fm_congr {α β : Type} {f g : α → Option β} : ∀ {l : List α}, (∀ x ∈ l, f x = g x) → l.filterMap f = l.filterMap g
  | [], _ => rfl
  | x :: l, h => by
    rw [List.filterMap_cons, List.filterMap_cons, h x List.mem_cons_self, fm_congr (l := l) fun y hy => h y (List.mem_cons_of_mem _ hy)]
/-- what the model picks by the step -1 -/
theorem picks (xs : Array Value) : ((List.range xs.size).filterMap fun (k : Nat) => xs[(((xs.size : Int) - 1) + (k : Int) * (-1)).toNat]?) = xs.toList.reverse := by
  rw [fm_congr (g := (fun j => xs[j]?) ∘ fun k => xs.size - 1 - k), ← List.filterMap_map, PySem.W.krv_range, List.filterMap_reverse, PySem.W.krv_all]
  intro k hk
  have := List.mem_range.mp hk
  show xs[_]? = xs[_]?
  rw [show (((xs.size : Int) - 1) + (k : Int) * (-1)).toNat = xs.size - 1 - k by omega]
theorem places (n : Nat) : Builtin.Slice.slicePlaces ((n : Int) - 1) (-1) (-1) = n := by
  have e : (- -1 : Int) = 1 := rfl
  simp only [Builtin.Slice.slicePlaces, if_neg (show ¬ ((-1 : Int) > 0) by decide), e, Int.ediv_one]
  split <;> omega
theorem rev_parts {P : Program} {w : World} {A : Around} {E : Value → Shared → Prop} {s : Shared} {sl : Addr} {k : Tok} {n : Nat} {Q : Int × Int × Nat → Shared → Prop} (h : s.heap.get? sl = some (revO sl k)) (q : Q ((n : Int) - 1, -1, n) s) :
    wpAny (model P w) A (Builtin.Slice.sliceApplied (.ref sl) (pure ((n : Nat) : Int))) Q E s := by
  unfold Builtin.Slice.sliceApplied
  unfold Builtin.Slice.sliceFields
  have f (i : Nat) (x : Value) (hx : (#[Value.none, Value.none, Value.int (-1) k] : Array Value)[i]? = some x) {α : Type} (g : Value → Sem α) {R : α → Shared → Prop} (z : wpAny (model P w) A (g x) R E s) : wpAny (model P w) A (field (.ref sl) i >>= g) R E s :=
    wpAny_bind (wpAny_field h rfl hx z)
  refine wpAny_bind (f 0 .none rfl _ (f 1 .none rfl _ (f 2 (.int (-1) k) rfl _ (wpAny_pure (wpAny_bind (slicePart_int ?_))))))
  show wpAny _ _ (if ((-1 : Int) == 0) = true then _ else _) _ _ s
  rw [if_neg (by decide)]
  refine wpAny_bind (slicePart_none (wpAny_bind (slicePart_none (wpAny_bind (wpAny_pure ?_)))))
  show wpAny _ _ (pure (_, _, Builtin.Slice.slicePlaces ((n : Int) - 1) (-1) (-1))) _ _ s
  rw [places]
  exact wpAny_pure q
theorem rev_meets {t sl : Addr} {k : Tok} {xs : Array Value} {n : Nat} {dd : Option Addr} {ss : Array (Option Value)} (hz : xs.size ≤ sizeLine) : Meets (Builtin.«tuple.__getitem__» ⟨[.ref t, .ref sl], []⟩)
    (fun _ R s => s.heap.get? t = some { cls := .type "tuple", dict := dd, data := .seq xs n, slots := ss } ∧ s.heap.get? sl = some (revO sl k) ∧
      R (.ok (.ret (.ref s.heap.objs.size))) { s with heap := s.heap.push { cls := .type "tuple", data := .seq xs.toList.reverse.toArray } }) :=
  .of_wp fun P w A R s ⟨h1, h2, r⟩ => by
    cases s with
    | mk hp gs dr tk os =>
    have e1 := picks xs
    have hno : ¬ ((((xs.size : Int) - 1) == 0 && (-1 : Int) == 1 && xs.size == xs.size) = true) := by simp
    have parts : ∀ {A' : Around} {E : Value → Shared → Prop} {Q : Int × Int × Nat → Shared → Prop}, Q ((xs.size : Int) - 1, -1, xs.size) ⟨hp, gs, dr, tk, os⟩ → wpAny (model P w) A' (Builtin.Slice.sliceApplied (.ref sl) (pure ((xs.size : Nat) : Int))) Q E ⟨hp, gs, dr, tk, os⟩ := fun q => rev_parts h2 q
    wp_walk using PySem.AutoSeq1.wpAny_loadPart' h1, parts, PySem.AutoSeq1.wpAny_loadPart' h2
    rw [e1, if_neg (by rw [List.size_toArray, List.length_reverse, Array.length_toList]; omega)]
    wp_walk
    exact ⟨_, rfl, r⟩
section
variable {X : Cx}
def tRevT (K : PySem.W.Frag) (te : TE) : TE := fun σ H Q => te σ H fun x H1 => ∃ a xs, x = .ref a ∧ SqT K H1 a xs ∧ ∀ p, H1 p = none → Q (.ref p) (upd H1 p (.tup xs.reverse))
theorem get_rev {P : Program} {w : World} {A : Around} {E : Value → Shared → Prop} {s : Shared} {t sl : Addr} {k : Tok} {its : List Value} {Q : Value → Shared → Prop} (ht : IsTup s.heap t its.toArray) (hs : s.heap.get? sl = some (revO sl k)) (hz : its.length ≤ sizeLine)
    (q : Q (.ref s.heap.objs.size) { s with heap := s.heap.push { cls := .type "tuple", data := .seq its.reverse.toArray } }) : wpAny (model P w) A (getItem (.ref t) (.ref sl)) Q E s := by
  have ty := ht.typeIs
  obtain ⟨⟨c, dd, dt, ss⟩, ho, rfl, n, rfl⟩ := id ht
  unfold getItem
  refine wpAny_holding (wpAny_bind (wpAny_sequenceKey ty (by decide) ?_))
  exact wpAny_bind (wpAny_callSpecial?_slot (name := Str.ofString "__getitem__") ty PyProof.Rows.slot_tuple_getitem (call_meets PyProof.Rows.slot_tuple_getitem ty entry_tuple_getitem (args_tuple_getitem _ _) (rev_meets (k := k) (by simpa using hz)) ⟨ho, hs, wpAny_pure q⟩))
theorem pe_revT {e : Expr} {te : TE} {j : Nat} {p1 p2 p3 pos : Pos} (he : PE X e te) : PE X (.Subscript e (.Slice none none (some (.UnaryOp .USub (.Constant (.int 1) j p1) p2)) p3) pos) (tRevT X.K te) := by
  refine ⟨fun pins s σ H Q I h => Subscript_ (thn (he.run pins s σ H _ I h) fun v s1 q => ?_)⟩
  obtain ⟨_, H1, I1, r1, a, xs, rfl, hx, k⟩ := q
  cases r1
  have back : PO X (some (.UnaryOp .USub (.Constant (.int 1) j p1) p2)) (tPart (tUn (rU fun i => .int (-i)) (tC (.int 1)))) := po_some (pe_un un_neg pe_int)
  have none_ := fun s' (I' : Inv X pins σ H1 s') => po_none.run pins s' σ H1 (fun o H' => o = none ∧ H1 = H') I' ⟨rfl, rfl⟩
  refine wpAny_Slice (thn (none_ s1 I1) ?_)
  rintro _ s2 ⟨_, _, I2, pa, rfl, rfl⟩
  refine thn (none_ s2 I2) ?_
  rintro _ s3 ⟨_, _, I3, pb, rfl, rfl⟩
  refine thn (back.run pins s3 σ H1 (fun o H' => o = some (-1) ∧ H1 = H') I3 ⟨1, rfl, -1, rfl, rfl, rfl⟩) ?_
  rintro _ s4 ⟨_, _, I4, pc, rfl, rfl⟩
  cases pa
  cases pb
  cases pc with
  | int _ t =>
  have new : ∀ b o, s4.heap.get? b = some o → (s4.heap.push (revO s4.heap.objs.size t)).get? b = some o := fun b o z => Heap.get?_push_of_some _ z
  have I5 : Inv X pins σ H1 { s4 with heap := s4.heap.push (revO s4.heap.objs.size t) } := I4.kept (t' := s4.toks) new
  obtain ⟨its, r, ht, hz⟩ := I5.tuple hx
  refine tail_any (ops := [.ref a, .ref s4.heap.objs.size]) ht.typeIs PyProof.Rows.slot_tuple_getitem.lookup ?_ (by with_unfolding_all rfl)
  refine get_rev (k := t) ht (Heap.get?_push_size _ rfl) (by rw [← r.length]; exact hz) ?_
  exact ⟨.ref _, _, I5.laid (t' := s4.toks) (o := .tup xs.reverse) (fun b o z => Heap.get?_push_of_some _ z) (Nat.le_refl _) ⟨by rw [List.length_reverse]; exact hz, _, r.reverse, IsTup.new _ _⟩, rfl, k _ (I5.hok.fresh (Nat.le_refl _))⟩
end
end K33
set_option maxHeartbeats 0
namespace K33
open PySem PySem.Spec PyProof.Rows L2
/-! ### data of ints: what == and < say of them -/
section
variable {X : Cx}
theorem dp_ints {K : PySem.W.Frag} {H : Hp} : ∀ ns : List Int, DpAll K H (ns.map V.int) (ns.map PyData.int)
  | [] => .nil
  | n :: ns => .cons (.int n) (dp_ints ns)
theorem canLay_ints : ∀ ns : List Int, PyData.canLayAll0 (ns.map PyData.int) = true
  | [] => by
    simp [PyData.canLayAll0]
  | n :: ns => by
    rw [List.map_cons]
    simp only [PyData.canLayAll0, PyData.canLay0, canLay_ints ns, Bool.and_self]
theorem depth_ints : ∀ ns : List Int, PyData.depthAll (ns.map PyData.int) ≤ 1
  | [] => by
    simp [PyData.depthAll]
  | n :: ns => by
    rw [List.map_cons]
    have := depth_ints ns
    simp only [PyData.depthAll, PyData.depth]
    omega
theorem shaped_tup (ns : List Int) : SeqAt.shaped (.tuple (ns.map PyData.int)) = true := by
  have h1 := canLay_ints ns
  have h2 := depth_ints ns
  show (PyData.canLay0 (.tuple (ns.map PyData.int)) && decide (PyData.depth (.tuple (ns.map PyData.int)) ≤ 64)) = true
  rw [Bool.and_eq_true]
  refine ⟨by simpa [PyData.canLay0] using h1, decide_eq_true ?_⟩
  simp only [PyData.depth]
  omega
theorem shaped_lst (ns : List Int) : SeqAt.shaped (.list (ns.map PyData.int)) = true := by
  have h1 := canLay_ints ns
  have h2 := depth_ints ns
  show (PyData.canLay0 (PyData.list (List.map PyData.int ns)) && decide (PyData.depth (PyData.list (List.map PyData.int ns)) ≤ 64)) = true
  rw [Bool.and_eq_true]
  refine ⟨by simpa [PyData.canLay0] using h1, decide_eq_true ?_⟩
  simp only [PyData.depth]
  omega
theorem depth_tup (ns : List Int) : PyData.depth (.tuple (ns.map PyData.int)) ≤ 2 := by
  have h2 := depth_ints ns
  simp only [PyData.depth]
  omega
theorem eqv_ints : ∀ ns ms : List Int, PyData.eqvAll (ns.map PyData.int) (ms.map PyData.int) = decide (ns = ms)
  | [], [] => by simp [PyData.eqvAll]
  | [], m :: ms => by simp [PyData.eqvAll]
  | n :: ns, [] => by simp [PyData.eqvAll]
  | n :: ns, m :: ms => by
    simp only [List.map_cons, PyData.eqvAll, PyData.eqv, eqv_ints ns ms]
    by_cases h : n = m
    · subst h
      simp
    · simp [h]
theorem eqv_tup (ns ms : List Int) : PyData.eqv (.tuple (ns.map PyData.int)) (.tuple (ms.map PyData.int)) = decide (ns = ms) := by
  simp only [PyData.eqv]
  exact eqv_ints ns ms
theorem eqv_lst (ns ms : List Int) : PyData.eqv (.list (ns.map PyData.int)) (.list (ms.map PyData.int)) = decide (ns = ms) := by
  simp only [PyData.eqv]
  exact eqv_ints ns ms
theorem alike_ints : ∀ ns ms : List Int, PySem.W.alikeAll (ns.map PyData.int) (ms.map PyData.int) = true
  | [], _ => by simp [PySem.W.alikeAll]
  | _ :: _, [] => by simp [PySem.W.alikeAll]
  | n :: ns, m :: ms => by simp [PySem.W.alikeAll, PySem.W.alike, alike_ints ns ms]
/-- Python's order of two tuples of ints, on the library's signs, whatever follows -/
theorem toks_ints (ra rb : List (Int ⊕ List Nat)) : ∀ ns ms : List Int, PyProof.Rows.lexLt PyProof.Rows.itemOrd (PySem.W.keyToksAll (ns.map PyData.int) ++ ra) (PySem.W.keyToksAll (ms.map PyData.int) ++ rb) =
    if ns = ms then PyProof.Rows.lexLt PyProof.Rows.itemOrd ra rb else HT.lexLt ns ms
  | [], [] => by
    rw [if_pos rfl, List.map_nil, PySem.W.keyToksAll]
    exact lex_self (O := itemOrd) _ _ _
  | [], m :: ms => by
    rw [if_neg (by simp), List.map_nil, List.map_cons, PySem.W.keyToksAll, PySem.W.keyToksAll]
    exact lex_diff (O := itemOrd) (by simp)
  | n :: ns, [] => by
    rw [if_neg (by simp), List.map_nil, List.map_cons, PySem.W.keyToksAll, PySem.W.keyToksAll]
    exact lex_diff (O := itemOrd) (by simp)
  | n :: ns, m :: ms => by
    rw [List.map_cons, List.map_cons, PySem.W.keyToksAll, PySem.W.keyToksAll, PySem.W.keyToks, PySem.W.keyToks]
    have ih := toks_ints ra rb ns ms
    refine (lex_self (O := itemOrd) _ _ _).trans ?_
    by_cases e : n = m
    · subst e
      refine (lex_self (O := itemOrd) _ _ _).trans (ih.trans ?_)
      by_cases q : ns = ms
      · rw [if_pos q, if_pos (by rw [q])]
      · rw [if_neg q, if_neg (by simpa using q), HT.lexLt_cons, if_pos rfl]
    · rw [if_neg (fun z => e (List.cons.inj z).1), HT.lexLt_cons, if_neg e]
      exact lex_diff (O := itemOrd) (fun z => e (Sum.inl.inj z))
theorem lt_self : ∀ ns : List Int, HT.lexLt ns ns = false
  | [] => rfl
  | n :: ns => by rw [HT.lexLt_cons, if_pos rfl, lt_self ns]
def dN (n : Int) (ns : List Int) : PyData := .tuple [.int n, .tuple (ns.map PyData.int)]
theorem dataLt_dN (n m : Int) (ns ms : List Int) : PySem.W.dataLt (dN n ns) (dN m ms) = if n = m then HT.lexLt ns ms else decide (n < m) := by
  have e : ∀ (k : Int) (ks : List Int), PySem.W.keyToks (dN k ks) = .inl 1 :: .inl k :: .inl 1 :: (PySem.W.keyToksAll (ks.map PyData.int) ++ [.inl 0]) := fun k ks => by
    simp [dN, PySem.W.keyToks, PySem.W.keyToksAll]
  unfold PySem.W.dataLt
  rw [e n ns, e m ms]
  refine (lex_self (O := itemOrd) _ _ _).trans ?_
  by_cases z : n = m
  · subst z
    rw [if_pos rfl]
    refine (lex_self (O := itemOrd) _ _ _).trans ((lex_self (O := itemOrd) _ _ _).trans ((toks_ints _ _ ns ms).trans ?_))
    by_cases q : ns = ms
    · rw [if_pos q, q, lt_self]
      exact lex_self (O := itemOrd) _ [] []
    · rw [if_neg q]
  · rw [if_neg z]
    exact lex_diff (O := itemOrd) (fun q => z (Sum.inl.inj q))
/-- (n, (..)) < (m, (..)) -/
def rLtN (K : PySem.W.Frag) : R2 := fun x y H Q => ∃ (n m : Int) (ns ms : List Int), Dp K H x (dN n ns) ∧ Dp K H y (dN m ms) ∧ Q (.bl (if n = m then HT.lexLt ns ms else decide (n < m))) H
theorem op_ltN (hu : X.A.units + 64 < cLine) : OpR X (compareOp .Lt) (rLtN X.K) := by
  rintro pins s σ H x y v u Q I rx ry ⟨n, m, ns, ms, hd, he, k⟩
  obtain ⟨as, r1⟩ := Dp.reads I _ _ v hd rx
  obtain ⟨bs, r2⟩ := Dp.reads I _ _ u he ry
  have dep : (dN n ns).depth ≤ 3 := by
    have := depth_tup ns
    simp only [dN, PyData.depth, PyData.depthAll] at this ⊢
    omega
  have al : PySem.W.alike (dN n ns) (dN m ms) = true := by simp [dN, PySem.W.alike, PySem.W.alikeAll, alike_ints ns ms]
  refine PySem.W.lt_data r1 r2 al (by simp [dN]) (by omega) ?_
  rw [dataLt_dN]
  exact ⟨.bl _, H, I, rfl, k⟩
theorem dp_dN {K : PySem.W.Frag} {H : Hp} {a p : Addr} {n : Int} {ns : List Int} (h : SqT K H a [.int n, .ref p]) (h2 : SqT K H p (ns.map V.int)) : Dp K H (.ref a) (dN n ns) :=
  .tup h (.cons (.int n) (.cons (.tup h2 (dp_ints ns)) .nil))
end
end K33
set_option maxHeartbeats 0
namespace K33
open PySem PySem.Spec PyProof.Rows L2
/-! ### set(l), l a list of ints -/
/-- a new empty set, as the model lays it -/
def emptySet (w : World) : Obj := { cls := .type "set", dict := none, data := .set #[] 0 (.fresh 0 0 (!w.params.followText "set-order")) }
section
variable {w : World} {P : Program} {s : Shared} {A : Around} {E : Value → Shared → Prop}
/-- T(args), its new and its init told by their codes -/
theorem type_call {T newId initId : String} {args : List Value} {Q Q1 : Value → Shared → Prop} (ft : TypeCalled T newId initId) (hct : checkTypeCall T ⟨args, []⟩ = pure ())
    (hnew : codeAny (model P w) A.in1 (.call (.builtin newId) ⟨.type T :: args, []⟩) (wants (fun ob s1 => s1.TypeIs ob T ∧ Q1 ob s1) E) s)
    (hini : ∀ ob s1, s1.TypeIs ob T → Q1 ob s1 → codeAny (model P w) A.in1 (.call (.builtin initId) ⟨ob :: args, []⟩) (wants (fun r s2 => r = .none ∧ Q ob s2) E) s1) :
    wpAny (model P w) A (call (.type T) args) Q E s := by
  have ⟨c, tl, hmro⟩ := ft.mro
  have a1 := ft.made
  have a2 := ft.sub
  have a3 := ft.notType
  have a4 := ft.canCreate
  refine wpAny_call (codeAny_of_tree (show wpAny _ _ (callAny (.type T) _) _ _ _ from wpAny_pure ⟨Code.quiet_builtin _ (by decide +kernel), codeAny_builtin F.entry_type_call ?_⟩))
  rw [Around.under_plain rfl rfl]
  repeat any_goals first | wp_step | assumption
  refine codeAny_mono hnew fun r s1 hr => ?_
  match r, hr with
  | .error _, hr => exact hr
  | .ok .next, hr | .ok .brk, hr | .ok .cont, hr => exact False.elim hr
  | .ok (.ret ob), hr =>
    obtain ⟨hT, hq⟩ := (show s1.TypeIs ob T ∧ Q1 ob s1 from hr)
    have a5 := ft.init.lookup
    have a6 := ft.init.bind ob
    repeat any_goals first | wp_step | assumption
    refine codeAny_mono (hini ob s1 hT hq) fun r2 s2 hr2 => ?_
    match r2, hr2 with
    | .error _, hr2 => exact hr2
    | .ok .next, hr2 | .ok .brk, hr2 | .ok .cont, hr2 => exact False.elim hr2
    | .ok (.ret _), ⟨rfl, q⟩ => repeat any_goals first | wp_step | assumption
theorem set_of_list {l : Addr} {items : Array Value} (ns : List Int) {Q : Value → Shared → Prop} (hh : A.handled = none) (hl : s.heap.IsList l items) (hi : IntsAre items.toList ns) (hb : ns.length + 1 < scanBound)
    (q : ∀ (h' : Heap) (tk c : Nat), SetR w h' s.heap.objs.size (fun j => decide (j ∈ ns)) c → c ≤ ns.length → (∀ b o, s.heap.get? b = some o → h'.get? b = some o) → Q (.ref s.heap.objs.size) { s with heap := h', toks := tk }) :
    wpAny (model P w) A (call (Value.type "set") [Value.ref l]) Q E s := by
  refine type_call F.called_set (F.typeCall_set_1 (.ref l)) (Q1 := fun ob s1 => ob = .ref s.heap.objs.size ∧ s1 = { s with heap := s.heap.push (emptySet w) }) (code_set_led1 (.ref l) ⟨⟨_, Heap.get?_push_size _ rfl, rfl⟩, rfl, rfl⟩) ?_
  rintro _ _ hT ⟨rfl, rfl⟩
  refine codeAny_call_builtin F.called_set.init.plain F.entry_set_init (check_set_init_1 hT ?_)
  have size_ : items.size = ns.length := by
    have z := IntsAre.length hi
    rwa [Array.length_toList] at z
  obtain ⟨⟨c0, d0, t0, sl0⟩, ho, rfl, m0, rfl⟩ := id hl
  have gl := Heap.get?_push_of_some (emptySet w) ho
  have gs := Heap.get?_push_size s.heap (o := emptySet w) rfl
  have hl1 : (s.heap.push (emptySet w)).IsList l items := ⟨_, gl, rfl, m0, rfl⟩
  have x1 := F.sub_list_set
  have x2 := F.sub_list_frozenset
  have x3 : (Value.type "list" == Value.type "dict") = false := by decide
  unfold Builtin.«set.__init__» Builtin.Frozenset.updateFrom noKeywords
  generalize hit : pyIter = iter_
  wp_walk
  subst hit
  have new : s.heap.objs.size ≠ l := Nat.ne_of_gt (Heap.lt_size ho)
  have z1 : (s.heap.push (emptySet w)).objs.size = s.heap.objs.size + 1 := Heap.size_push ..
  have apart : l ≠ (s.heap.push (emptySet w)).objs.size := by
    rw [z1]
    exact Nat.ne_of_lt (Nat.lt_succ_of_lt (Heap.lt_size ho))
  have hS : s.heap.objs.size ∉ [(s.heap.push (emptySet w)).objs.size, l] := by
    rw [z1]
    simp [new]
  have vals : ∀ (i : Nat) (v : Value), items[i]? = some v → ∃ k t, ns[i]? = some k ∧ v = .int k t := fun i v hv => by
    obtain ⟨lt, _⟩ := Array.getElem?_eq_some_iff.mp hv
    obtain ⟨t, e⟩ := IntsAre.int_at hi i v (by simpa using hv)
    have lt' : i < ns.length := by omega
    exact ⟨ns[i], t, List.getElem?_eq_getElem lt', by rw [e, List.getD_eq_getElem?_getD, List.getElem?_eq_getElem lt']; rfl⟩
  refine wpAny_pyIter_list hl1 (wpAny_bind (wpAny_runValue ?_))
  have W := (Walks.list (prog := P) (w := w) (A := A.in1.in1.in1) hh (s.heap.push (emptySet w)).objs.size l apart items).toS
  refine set_update_ints W s.heap.objs.size hS ns size_ hb vals items.size 0 _ rfl (Nat.zero_le _) ⟨⟨_, Heap.get?_push_size _ rfl, rfl, rfl⟩, hl1.push _⟩ ⟨0, Nat.le_refl _, setR_new_at (Heap.get?_push_of_some _ gs)⟩ fun s2 c moved hc R => ?_
  obtain ⟨h2, g2, d2, t2, o2⟩ := s2
  obtain rfl : g2 = s.gens := moved.gens
  obtain rfl : d2 = s.drawn := moved.drawn
  obtain rfl : o2 = s.os := moved.os
  refine wpAny_pure (wpAny_pure ⟨rfl, q h2 t2 c R (by omega) fun b o e => ?_⟩)
  have lt := Heap.lt_size e
  exact moved.heap b o (by rw [z1]; simp [Nat.ne_of_lt lt, Nat.ne_of_lt (Nat.lt_succ_of_lt lt)]) (Heap.get?_push_of_some _ (Heap.get?_push_of_some _ e))
end
section
variable {X : Cx}
/-- set(l): a new set of what the list holds -/
def rSetI (K : PySem.W.Frag) (w : World) : List V → Hp → VK → Prop := fun xs H Q => ∃ (l : Addr) (ns : List Int), xs = [.ref l] ∧ SqL K H l (ns.map V.int) ∧ ns.length ≤ 1000 ∧
  ∀ (p : Addr) (c : Nat), H p = none → c ≤ ns.length → Q (.ref p) (upd H p (SetO w p (fun j => decide (j ∈ ns)) c))
theorem cr_setI (hc : X.calm = true) : CallR X (.type "set") (rSetI X.K X.w) := by
  rintro pins s σ H xs us Q I r ⟨l, ns, rfl, hl, hn, k⟩
  obtain ⟨u, rfl, ru⟩ := r.one
  cases ru
  obtain ⟨its, rv, p, _⟩ := I.list hl
  refine set_of_list ns (I.ok.hd hc) p.isList (by simpa using intsAre_of rv) (by unfold scanBound; omega) fun h' tk c R hcn kp => ?_
  exact ⟨.ref _, _, I.laid (t' := tk) kp (Nat.le_refl _) (setO_new R), rfl, k _ c (I.hok.fresh (Nat.le_refl _)) hcn⟩
end
end K33
set_option maxHeartbeats 0
namespace K33
open PySem PySem.Spec PyProof.Rows L2
/-! ### sorted(t), t a tuple of ints (fewer than 64) -/
section
variable {X : Cx}
def rSortedT (K : PySem.W.Frag) : List V → Hp → VK → Prop := fun xs H Q => ∃ (a : Addr) (ns : List Int), xs = [V.ref a] ∧ SqT K H a (ns.map V.int) ∧ ns.length < 64 ∧
  ∀ (ys : List Int) (p : Addr), ys.Perm ns → ys.Pairwise (· ≤ ·) → H p = none → Q (.ref p) (upd H p (.lst (ys.map V.int)))
theorem cr_sortedT : CallR X (.builtin "sorted") (rSortedT X.K) := by
  rintro pins s σ H xs us Q I r ⟨a, ns, rfl, ht, h64, k⟩
  obtain ⟨u, rfl, ru⟩ := r.one
  cases ru
  obtain ⟨its, rv, ⟨o, ho, hc, n, hd⟩, hz⟩ := I.tuple ht
  have hi := rv.ints
  have len : its.length = ns.length := hi.length
  refine Calls.call_function_entry kind_sorted plain_sorted entry_sorted (args_sorted1 (.ref a)) ?_
  unfold Builtin.«sorted»
  refine wpAny_bind (m := checkCount "sorted" 1 1 _) (wpAny_pure (wpAny_bind (wpAny_collect_seq a (.inr rfl) ho hc hd (fun h1 k1 => ?_) (by rw [List.size_toArray]; rw [sizeLine_eq]; omega))))
  refine wpAny_bind (wpAny_newList ?_ (by show its.length ≤ _; rw [sizeLine_eq]; omega))
  have gL : (h1.push (seqObj "list" its.toArray 0)).get? h1.objs.size = some (seqObj "list" its.toArray 0) := Heap.get?_push_size _ rfl
  have I1 : Inv X pins σ H { s with heap := h1 } := I.kept (t' := s.toks) k1
  refine wpAny_bind (wpAny_holding (wpAny_call_entry slot_list_sort ⟨_, gL, rfl⟩ entry_list_sort (list_sort_tree gL hi (by omega) fun out ys y1 y2 y3 => ⟨_, rfl, ?_⟩) (args_list_sort _)))
  obtain ⟨c, gc⟩ := sortedHeap_at (vs := its) (out := out) gL
  have keep : ∀ b u, h1.get? b = some u → (sortedHeap (h1.push (seqObj "list" its.toArray 0)) h1.objs.size its out).get? b = some u := fun b u e => by
    have lt := Heap.lt_size e
    rw [sortedHeap_old (Nat.ne_of_lt lt) (by rw [size_push']; exact Nat.lt_succ_of_lt lt)]
    exact Heap.get?_push_of_some (h := h1) _ e
  have ys64 : (ys.map V.int).length ≤ sizeLine := by
    rw [List.length_map, y2.length_eq, sizeLine_eq]
    omega
  exact wpAny_pure ⟨_, rfl, .ref _, _, I1.laid (t' := s.toks) (o := .lst (ys.map V.int)) keep (Nat.le_refl _) ⟨ys64, out.toList, c, vals_of_ints y1, gc⟩, rfl, k ys _ y2 y3 (I1.hok.fresh (Nat.le_refl _))⟩
end
end K33
set_option maxHeartbeats 0
namespace K33
open PySem PySem.Spec PyProof.Rows L2
/-! ### f(b = .., a = ..): both parameters of a def by their names, the second one first -/
def DfS (P : Program) (w : World) (K : PySem.W.Frag) (mg : Str → Option Value) (base : Heap) (k : Nat) (x a b : Str) (sp : Sp) : Prop :=
  ∃ fd, FnOk P w K mg base CX0 k (He.ga K x) fd [a, b] sp ∧ KBn K fd [a, b] 0 [b, a] (fun _ ws => ws.reverse) (fun _ zs => zs.reverse) ∧ PySem.W.keepIn K (.ref (He.ga K x)) = true ∧ mg x = some (.ref (He.ga K x))
theorem vals_rev {xs : List V} {us : List Value} (r : Vals xs us) : Vals xs.reverse us.reverse := by
  induction r with
  | nil => exact .nil
  | cons h _ ih =>
    simpa only [List.reverse_cons] using ih.append (.cons h .nil)
section
variable {P : Program} {w : World} {K : PySem.W.Frag} {mg : Str → Option Value} {base : Heap}
theorem dfS_mk {x a b : Str} {st : Stmt} {k : Nat} {sp : Sp} (F : ∃ fd, FnP K x x st (He.ga K x) fd) (hm : mg x = some (.ref (He.ga K x)))
    (hb : ∀ (kV doc pm : Value) (an : Option Addr) (cdv ct u v : Value), bindArgs (PySem.W.fnOf x x (defArgs st) (defBody st) (defScope st) .none kV doc pm an cdv ct) ⟨[], [(b, v), (a, u)]⟩ = pure [(a, u), (b, v)])
    (D : ∀ fd, FnP K x x st (He.ga K x) fd → FnOk P w K mg base CX0 k (He.ga K x) fd [a, b] sp) : DfS P w K mg base k x a b sp := by
  obtain ⟨fd, F⟩ := F
  refine ⟨fd, D fd F, ⟨fun s us ws _ l1 l2 => ?_, fun _ r => vals_rev r⟩, F.kp, hm⟩
  obtain ⟨oc, od, dV, kV, doc, pm, an, cdv, ct, osl, rfl, _, _, hD, _⟩ := F.ex
  rcases hD with ⟨_, rfl⟩ | ⟨z, _⟩
  · match us, l1, ws, l2 with
    | [], _, [v, u], _ => exact .of_eq (hb kV doc pm an cdv ct u v)
  · exact absurd rfl z
end
section
variable {X : Cx}
theorem pe_kw {j k : Nat} {x a b : Str} {sp : Sp} {p pos : Pos} {kws : List Keyword} {tk : TA} (D : DfS X.prog X.w X.K X.mg X.base k x a b sp) (hr : Room j X.A) (hkw : PK X kws tk) (hk : k ≤ j := by decide) (hg : Gl X x := by rfl)
    (hall : (backToKw pos (keywordEach kws X.env)).all (·.1.isSome) = true := by rfl) (hks : (backToKw pos (keywordEach kws X.env)).filterMap (·.1) = [b, a] := by rfl) (hdb : (x == ("__debug__" : Str)) = false := by decide)
    (hpl : ((backTo pos (starEach [] X.env)).any (·.1) || (backToKw pos (keywordEach kws X.env)).any (·.1.isNone)) = false := by rfl) : PE X (.Call (.Name x p) [] kws pos) (fun σ H Q => tk σ H fun zs H1 => ∃ u v, zs = [v, u] ∧ sp [u, v] H1 Q E0) := by
  obtain ⟨fd, F, hb, kp, hm⟩ := D
  refine ⟨fun pins s σ H Q I h => wpAny_Call_Name_kw (ld_glob I hg hm (PySem.W.callWith_KW0 (h₀ := X.base) I.ok.mod.kin kp hall (thn (hkw.run pos pins s σ H _ I h) ?_) hpl) hdb)⟩
  rintro ws s2 ⟨_, H2, I2, rz, u, v, rfl, q⟩
  refine ⟨I2.kIn, ?_⟩
  rw [hks]
  exact run_fnN (us := []) (vs := []) F (hr.mono hk) hb pass0 I2 .nil rz rfl rfl q
end
end K33
set_option maxHeartbeats 0
namespace K33
open PySem PySem.Spec PyProof.Rows L2
/-! ### loops: what is the same slope -/
def cyc (T : List Int) (j : Nat) : Int := T.getD (j % T.length) 0
theorem rep_get {U : List Int} : ∀ (m j : Nat), j < m * U.length → ((List.replicate m U).flatten).getD j 0 = U.getD (j % U.length) 0
  | 0, j, h => by omega
  | m + 1, j, h => by
    rw [List.replicate_succ, List.flatten_cons, List.getD_append_eq]
    split
    · rw [Nat.mod_eq_of_lt (by assumption)]
    · rename_i q
      have q' : U.length ≤ j := by omega
      rw [rep_get m (j - U.length) (by rw [Nat.add_mul] at h; omega), ← Nat.mod_eq_sub_mod q']
where
  List.getD_append_eq {U V : List Int} {j : Nat} : (U ++ V).getD j 0 = if j < U.length then U.getD j 0 else V.getD (j - U.length) 0 := by
    split
    · rw [List.getD_eq_getElem?_getD, List.getD_eq_getElem?_getD, List.getElem?_append_left (by assumption)]
    · rw [List.getD_eq_getElem?_getD, List.getD_eq_getElem?_getD, List.getElem?_append_right (by omega)]
theorem rep_len (U : List Int) : ∀ m, ((List.replicate m U).flatten).length = m * U.length
  | 0 => by simp
  | m + 1 => by rw [List.replicate_succ, List.flatten_cons, List.length_append, rep_len U m, Nat.add_mul, Nat.add_comm, Nat.one_mul]
theorem cyc_rep {U : List Int} {m : Nat} (hm : 1 ≤ m) (hU : U ≠ []) (j : Nat) : cyc ((List.replicate m U).flatten) j = cyc U j := by
  have hl : 0 < U.length := List.length_pos_iff.mpr hU
  unfold cyc
  rw [rep_len, rep_get m _ (Nat.mod_lt _ (Nat.mul_pos hm hl)), Nat.mod_mul_left_mod]
theorem cyc_rot (T : List Int) (e : Int) (j : Nat) : cyc (e :: T) (j + 1) = cyc (T ++ [e]) j := by
  unfold cyc
  rw [List.length_append, List.length_cons]
  show (e :: T).getD ((j + 1) % (T.length + 1)) 0 = (T ++ [e]).getD (j % (T.length + 1)) 0
  have h := Nat.mod_lt j (show 0 < T.length + 1 by omega)
  rw [Nat.add_mod j 1]
  by_cases z : j % (T.length + 1) = T.length
  · rw [z]
    have e1 : (T.length + 1 % (T.length + 1)) % (T.length + 1) = 0 := by
      cases T with
      | nil => rfl
      | cons t T =>
        rw [Nat.mod_eq_of_lt (show 1 < (t :: T).length + 1 by simp), Nat.mod_self]
    rw [e1, List.getD_eq_getElem?_getD, List.getD_eq_getElem?_getD, List.getElem?_append_right (Nat.le_refl _), Nat.sub_self]
    rfl
  · have e1 : (j % (T.length + 1) + 1 % (T.length + 1)) % (T.length + 1) = j % (T.length + 1) + 1 := by
      rw [Nat.mod_eq_of_lt (show 1 < T.length + 1 by omega), Nat.mod_eq_of_lt (by omega)]
    rw [e1, List.getD_eq_getElem?_getD, List.getD_eq_getElem?_getD, List.getElem?_append_left (by omega)]
    rfl
theorem parts_cyc (L T : List Int) (k : Nat) : parts L T k = if k ≤ L.length then L.getD (k - 1) 0 else cyc T (k - 1 - L.length) := rfl
/-- the loop that is several, by the one -/
theorem parts_rep {L U : List Int} {m : Nat} (hm : 1 ≤ m) (hU : U ≠ []) (k : Nat) : parts L U k = parts L ((List.replicate m U).flatten) k := by
  rw [parts_cyc, parts_cyc, cyc_rep hm hU]
/-- the lead's last part goes into the loop -/
theorem parts_pop (L T : List Int) (e : Int) {k : Nat} (hk : 1 ≤ k) : parts L (e :: T) k = parts (L ++ [e]) (T ++ [e]) k := by
  rw [parts_cyc, parts_cyc, List.length_append]
  show (if k ≤ L.length then L.getD (k - 1) 0 else cyc (e :: T) (k - 1 - L.length)) = if k ≤ L.length + 1 then (L ++ [e]).getD (k - 1) 0 else cyc (T ++ [e]) (k - 1 - (L.length + 1))
  by_cases h : k ≤ L.length
  · rw [if_pos h, if_pos (by omega), List.getD_eq_getElem?_getD, List.getD_eq_getElem?_getD, List.getElem?_append_left (by omega)]
  · rw [if_neg h]
    by_cases h2 : k ≤ L.length + 1
    · rw [if_pos h2, show k - 1 - L.length = 0 by omega, List.getD_eq_getElem?_getD, List.getElem?_append_right (by omega), show k - 1 - L.length = 0 by omega]
      unfold cyc
      rw [Nat.zero_mod]
      rfl
    · rw [if_neg h2, show k - 1 - L.length = (k - 1 - (L.length + 1)) + 1 by omega, cyc_rot]
/-! ### cuts -/
theorem cut_to (xs : List V) (k : Nat) (h : k ≤ xs.length) : cutV xs none (some (k : Int)) = xs.take k := by
  unfold cutV
  rw [HT.sIx_none, HT.sIx_nat, List.drop_zero, Nat.sub_zero, Nat.min_eq_left h]
theorem sIx_back (n : Nat) : HT.sIx (n + 1) (n + 1) (some (-1)) = n := by
  have e : (-1 + ((n + 1 : Nat) : Int)).toNat = n := by omega
  exact e
theorem cut_last (xs : List V) (v : V) : cutV (xs ++ [v]) none (some (-1)) = xs := by
  have l : (xs ++ [v]).length = xs.length + 1 := by rw [List.length_append]; rfl
  unfold cutV
  rw [HT.sIx_none, List.drop_zero, Nat.sub_zero, l, sIx_back, List.take_append_of_le_length (Nat.le_refl _), List.take_length]
theorem cut_last_not (xs : List V) (v : V) : ¬ (HT.sIx (xs ++ [v]).length 0 none = 0 ∧ HT.sIx (xs ++ [v]).length (xs ++ [v]).length (some (-1)) = (xs ++ [v]).length) := by
  have l : (xs ++ [v]).length = xs.length + 1 := by rw [List.length_append]; rfl
  rintro ⟨_, h⟩
  rw [l, sIx_back] at h
  omega
theorem cut_to_not (xs : List V) (k : Nat) (h : k < xs.length) : ¬ (HT.sIx xs.length 0 none = 0 ∧ HT.sIx xs.length xs.length (some (k : Int)) = xs.length) := by
  rintro ⟨_, h'⟩
  rw [HT.sIx_nat] at h'
  omega
theorem dp_tup {K : PySem.W.Frag} {H : Hp} {a : Addr} {ns : List Int} (h : SqT K H a (ns.map V.int)) : Dp K H (.ref a) (.tuple (ns.map PyData.int)) := .tup h (dp_ints ns)
theorem dp_lst {K : PySem.W.Frag} {H : Hp} {a : Addr} {ns : List Int} (h : SqL K H a (ns.map V.int)) : Dp K H (.ref a) (.list (ns.map PyData.int)) := .lst h (dp_ints ns)
end K33
set_option maxHeartbeats 0
namespace K33
open PySem PySem.Spec PyProof.Rows L2
section
variable {P : Program} {w : World} {K : PySem.W.Frag} {mg : Str → Option Value} {base : Heap}
/-! ### kinds, checks -/
theorem sc_is_integer : FnScope ["value"] ["value"] (defScope sIsInteger) := ⟨rfl, rfl, rfl, by decide +kernel, rfl, by decide +kernel, by decide +kernel⟩
def spIsInteger : Sp := fun vs H Q _ => ∃ i : Int, vs = [.int i] ∧ Q (.bl true) H
theorem ok_is_integer (T : Tx K mg) : Df P w K mg base 1 "is_integer" ["value"] spIsInteger := by
  refine df_mk T.d_is_integer T.g_is_integer (fun _ _ _ _ _ _ us hl => match us, hl with | [_], _ => rfl) sc_is_integer (fun vs H Q E h => ?_) (fun cdv A outer s H vs Q E hr h => ?_)
  · obtain ⟨i, rfl, _⟩ := h
    rfl
  · obtain ⟨i, rfl, k⟩ := h
    refine ⟨_, (by exact (pss_one (ps_ret (pe_and (pe_callB call_isi (by rfl) T.b_isinstance (by decide +kernel) (pa_cons (pv 0) (pa_cons (pe_bltn (v := .ty "int") (by rfl) T.b_int (by decide +kernel) rfl) pa_nil))) (pe_one (pe_not (pe_callB call_isi (by rfl) T.b_isinstance (by decide +kernel) (pa_cons (pv 0) (pa_cons (pe_bltn (v := .ty "bool") (by rfl) T.b_bool (by decide +kernel) rfl) pa_nil))))))))), ?_⟩
    refine ⟨_, rfl, _, _, _, _, true, rfl, .ty "int", .base (.int _), kit_ty (by decide +kernel), true, rfl, iteT ?_⟩
    exact ⟨_, rfl, _, _, _, _, false, rfl, .ty "bool", .base (.int _), kit_ty (by decide +kernel), false, rfl, k⟩
theorem sc_is_between : FnScope ["value", "low", "high"] ["value", "low", "high"] (defScope sIsBetween) := ⟨rfl, rfl, rfl, by decide +kernel, rfl, by decide +kernel, by decide +kernel⟩
def spIsBetween : Sp := fun vs H Q _ => ∃ i lo hi : Int, vs = [.int i, .int lo, .int hi] ∧ lo ≤ i ∧ i ≤ hi ∧ Q (.bl true) H
theorem ok_is_between (T : Tx K mg) (h_is_integer : Df P w K mg base 1 "is_integer" ["value"] spIsInteger) : Df P w K mg base 2 "is_between" ["value", "low", "high"] spIsBetween := by
  refine df_mk T.d_is_between T.g_is_between (fun _ _ _ _ _ _ us hl => match us, hl with | [_, _, _], _ => rfl) sc_is_between (fun vs H Q E h => ?_) (fun cdv A outer s H vs Q E hr h => ?_)
  · obtain ⟨i, lo, hi, rfl, _⟩ := h
    rfl
  · obtain ⟨i, lo, hi, rfl, h1, h2, k⟩ := h
    refine ⟨_, (by exact (pss_one (ps_ret (pe_and (pe_c h_is_integer hr (pa_cons (pv 0) pa_nil)) (pe_one (pe_chain op_le op_le (pv 1) (pv 0) (pv 2))))))), ?_⟩
    refine ⟨_, rfl, i, rfl, true, rfl, iteT ?_⟩
    refine ⟨_, rfl, _, rfl, _, _, rfl, rfl, true, congrArg V.bl (decide_eq_true h1), iteT ?_⟩
    exact ⟨_, rfl, _, _, rfl, rfl, q_of (Q := Q) (congrArg V.bl (decide_eq_true h2)) k⟩
def spChk (lo hi : Int) : Sp := fun vs H Q _ => ∃ i : Int, vs = [.int i] ∧ lo ≤ i ∧ i ≤ hi ∧ Q .non H
theorem sc_check_many : FnScope ["value"] ["value"] (defScope sCheckMany) := ⟨rfl, rfl, rfl, by decide +kernel, rfl, by decide +kernel, by decide +kernel⟩
theorem ok_check_many (T : Tx K mg) (h_is_between : Df P w K mg base 2 "is_between" ["value", "low", "high"] spIsBetween) : Df P w K mg base 3 "check_many" ["value"] (spChk 1 (10 ^ 30)) := by
  refine df_mk T.d_check_many T.g_check_many (fun _ _ _ _ _ _ us hl => match us, hl with | [_], _ => rfl) sc_check_many (fun vs H Q E h => ?_) (fun cdv A outer s H vs Q E hr h => ?_)
  · obtain ⟨i, rfl, _⟩ := h
    rfl
  · obtain ⟨i, rfl, h1, h2, k⟩ := h
    refine ⟨_, (by exact (pss_one (ps_if (pt_not (pt_val (pe_c h_is_between hr (pa_cons (pv 0) (pa_cons pe_int (pa_cons (pe_gi T.i_MOST_NUMBER) pa_nil))))))
      (pss_one ps_never)
      pss_nil))), ?_⟩
    exact ⟨_, rfl, i, _, _, rfl, h1, h2, true, rfl, iteF k⟩
theorem sc_check_number : FnScope ["value"] ["value"] (defScope sCheckNumber) := ⟨rfl, rfl, rfl, by decide +kernel, rfl, by decide +kernel, by decide +kernel⟩
theorem ok_check_number (T : Tx K mg) (h_is_between : Df P w K mg base 2 "is_between" ["value", "low", "high"] spIsBetween) : Df P w K mg base 3 "check_number" ["value"] (spChk 0 (10 ^ 30)) := by
  refine df_mk T.d_check_number T.g_check_number (fun _ _ _ _ _ _ us hl => match us, hl with | [_], _ => rfl) sc_check_number (fun vs H Q E h => ?_) (fun cdv A outer s H vs Q E hr h => ?_)
  · obtain ⟨i, rfl, _⟩ := h
    rfl
  · obtain ⟨i, rfl, h1, h2, k⟩ := h
    refine ⟨_, (by exact (pss_one (ps_if (pt_not (pt_val (pe_c h_is_between hr (pa_cons (pv 0) (pa_cons pe_int (pa_cons (pe_gi T.i_MOST_NUMBER) pa_nil))))))
      (pss_one ps_never)
      pss_nil))), ?_⟩
    exact ⟨_, rfl, i, _, _, rfl, h1, h2, true, rfl, iteF k⟩
theorem sc_check_place : FnScope ["value"] ["value"] (defScope sCheckPlace) := ⟨rfl, rfl, rfl, by decide +kernel, rfl, by decide +kernel, by decide +kernel⟩
theorem ok_check_place (T : Tx K mg) (h_is_between : Df P w K mg base 2 "is_between" ["value", "low", "high"] spIsBetween) : Df P w K mg base 3 "check_place" ["value"] (spChk 0 60) := by
  refine df_mk T.d_check_place T.g_check_place (fun _ _ _ _ _ _ us hl => match us, hl with | [_], _ => rfl) sc_check_place (fun vs H Q E h => ?_) (fun cdv A outer s H vs Q E hr h => ?_)
  · obtain ⟨i, rfl, _⟩ := h
    rfl
  · obtain ⟨i, rfl, h1, h2, k⟩ := h
    refine ⟨_, (by exact (pss_one (ps_if (pt_not (pt_val (pe_c h_is_between hr (pa_cons (pv 0) (pa_cons pe_int (pa_cons (pe_gi T.i_MOST_PLACE) pa_nil))))))
      (pss_one ps_never)
      pss_nil))), ?_⟩
    exact ⟨_, rfl, i, _, _, rfl, h1, h2, true, rfl, iteF k⟩
theorem sc_check_bound : FnScope ["value"] ["value"] (defScope sCheckBound) := ⟨rfl, rfl, rfl, by decide +kernel, rfl, by decide +kernel, by decide +kernel⟩
theorem ok_check_bound (T : Tx K mg) (h_is_between : Df P w K mg base 2 "is_between" ["value", "low", "high"] spIsBetween) : Df P w K mg base 3 "check_bound" ["value"] (spChk 1 (10 ^ 30)) := by
  refine df_mk T.d_check_bound T.g_check_bound (fun _ _ _ _ _ _ us hl => match us, hl with | [_], _ => rfl) sc_check_bound (fun vs H Q E h => ?_) (fun cdv A outer s H vs Q E hr h => ?_)
  · obtain ⟨i, rfl, _⟩ := h
    rfl
  · obtain ⟨i, rfl, h1, h2, k⟩ := h
    refine ⟨_, (by exact (pss_one (ps_if (pt_not (pt_val (pe_c h_is_between hr (pa_cons (pv 0) (pa_cons pe_int (pa_cons (pe_gi T.i_MOST_NUMBER) pa_nil))))))
      (pss_one ps_never)
      pss_nil))), ?_⟩
    exact ⟨_, rfl, i, _, _, rfl, h1, h2, true, rfl, iteF k⟩
theorem sc_check_slope : FnScope ["value"] ["value"] (defScope sCheckSlope) := ⟨rfl, rfl, rfl, by decide +kernel, rfl, by decide +kernel, by decide +kernel⟩
def spCheckSlope (K : PySem.W.Frag) : Sp := fun vs H Q _ => ∃ (x : Addr) (a : Nat → Int), vs = [.ref x] ∧ SlopeAt K H x a ∧ Q .non H
theorem ok_check_slope (T : Tx K mg) : Df P w K mg base 1 "check_slope" ["value"] (spCheckSlope K) := by
  refine df_mk T.d_check_slope T.g_check_slope (fun _ _ _ _ _ _ us hl => match us, hl with | [_], _ => rfl) sc_check_slope (fun vs H Q E h => ?_) (fun cdv A outer s H vs Q E hr h => ?_)
  · obtain ⟨x, a, rfl, _⟩ := h
    rfl
  · obtain ⟨x, a, rfl, S, k⟩ := h
    obtain ⟨dx, fs, hx⟩ := S.ins
    refine ⟨_, (by exact (pss_one (ps_if (pt_not (pt_val (pe_callB (C8.call_isC T.inc) (by rfl) T.b_isinstance (by decide +kernel) (pa_cons (pv 0) (pa_cons (pe_glob (v := .ref (He.ga K "Slope")) rfl T.g_Slope rfl) pa_nil)))))
      (pss_one ps_never)
      pss_nil))), ?_⟩
    exact ⟨_, rfl, x, dx, fs, rfl, hx, true, rfl, iteF k⟩
/-! ### a slope's part -/
theorem sc_part_at : FnScope ["slope", "many", "lead", "turn"] ["slope", "many"] (defScope sPartAt) := ⟨rfl, rfl, rfl, by decide +kernel, rfl, by decide +kernel, by decide +kernel⟩
def spPartAt (K : PySem.W.Frag) : Sp := fun vs H Q _ => ∃ (x : Addr) (a : Nat → Int) (k : Nat), vs = [.ref x, .int ((k : Nat) : Int)] ∧ SlopeAt K H x a ∧ 1 ≤ k ∧ Q (.int (a k)) H
theorem ok_part_at (T : Tx K mg) : Df P w K mg base 1 "part_at" ["slope", "many"] (spPartAt K) := by
  refine df_mk T.d_part_at T.g_part_at (fun _ _ _ _ _ _ us hl => match us, hl with | [_, _], _ => rfl) sc_part_at (fun vs H Q E h => ?_) (fun cdv A outer s H vs Q E hr h => ?_)
  · obtain ⟨x, a, k, rfl, _⟩ := h
    rfl
  · obtain ⟨x, a, k, rfl, S, hk, q⟩ := h
    obtain ⟨⟨dx, h, l, t, fs, L, R, h1, h2, h3, h4, h5, h6, h7, h8⟩, ok⟩ := S
    refine ⟨_, (by exact (pss_cons (ps_asg (pe_fld (pv 0) rfl) (pg_tup (by rfl) (pgs_cons (pg_name (i := 2) sc_part_at.nd rfl (Or.inl rfl)) (pgs_cons (pg_name (i := 3) sc_part_at.nd rfl (Or.inl rfl)) pgs_nil))))
      (pss_one (ps_ret (pe_ifExp (pt_cmpR op_le (pv 1) (pe_callB call_len_seq (by rfl) T.b_len (by decide +kernel) (pa_cons (pv 2) pa_nil)) (nomark _)) (pe_ix ix_tup (pv 2) (pe_op op_sub (pv 1) pe_int) (fun _ _ => rfl)) (pe_ix ix_tup (pv 3) (pe_op op_modN (pe_op op_sub (pe_op op_sub (pv 1) pe_int) (pe_callB call_len_seq (by rfl) T.b_len (by decide +kernel) (pa_cons (pv 2) pa_nil))) (pe_callB call_len_seq (by rfl) T.b_len (by decide +kernel) (pa_cons (pv 3) pa_nil))) (fun _ _ => rfl))))))), ?_⟩
    refine ⟨_, rfl, x, _, dx, fs, _, rfl, h1, T.cls, T.nH, h2, h, _, rfl, sqT h4, rfl, _, _, rfl, _, _, rfl, rfl, ?_⟩
    refine ⟨_, rfl, _, rfl, l, _, rfl, .inr (sqT h5), _, _, rfl, rfl, _, rfl, ?_⟩
    have e := h8 k hk
    unfold parts at e
    refine ite2 (fun c => ?_) (fun c => ?_)
    · have c' := of_decide_eq_true c
      rw [List.length_map] at c'
      have hk2 : k ≤ L.length := by omega
      rw [if_pos hk2] at e
      refine ⟨_, rfl, _, rfl, _, _, rfl, rfl, l, _, _, _, rfl, rfl, sqT h5, at_of (j := k - 1) (by omega) (v := .int (a k)) ?_, q⟩
      rw [List.getElem?_map, List.getElem?_eq_getElem (show k - 1 < L.length by omega), ← e, List.getD_eq_getElem?_getD, List.getElem?_eq_getElem (show k - 1 < L.length by omega)]
      rfl
    · have c' : ¬ ((k : Int) ≤ ((L.map V.int).length : Int)) := fun z => c (decide_eq_true z)
      rw [List.length_map] at c'
      have hk2 : ¬ k ≤ L.length := by omega
      have hT : 0 < R.length := List.length_pos_iff.mpr h7
      rw [if_neg hk2] at e
      have lt : (k - 1 - L.length) % R.length < R.length := Nat.mod_lt _ hT
      refine ⟨_, rfl, _, rfl, _, _, rfl, rfl, _, rfl, l, _, rfl, .inr (sqT h5), _, _, rfl, rfl, _, rfl, t, _, rfl, .inr (sqT h6), _, _, rfl, rfl, (by show ((R.map V.int).length : Int) ≠ 0; rw [List.length_map]; omega), t, _, _, _, rfl, rfl, sqT h6, at_of (j := (k - 1 - L.length) % R.length) ?_ (v := .int (a k)) ?_, q⟩
      · rw [List.length_map, List.length_map, show (k : Int) - 1 - (L.length : Int) = ((k - 1 - L.length : Nat) : Int) by omega]
        exact Int.fmod_eq_emod_of_nonneg _ (by omega)
      · rw [List.getElem?_map, List.getElem?_eq_getElem lt, ← e, List.getD_eq_getElem?_getD, List.getElem?_eq_getElem lt]
        rfl
end
end K33
set_option maxHeartbeats 0
namespace K33
open PySem PySem.Spec PyProof.Rows L2
section
variable {P : Program} {w : World} {K : PySem.W.Frag} {mg : Str → Option Value} {base : Heap}
/-! ### the neighbours that some parts make -/
theorem ok_mul {a : Nat → Int} (ha : Ok a) (k : Nat) (j : Int) : CMul (a k) j := .inl (by have := ha k; omega)
def partL (a : Nat → Int) (n : Nat) : List Int := (List.range n).map fun j => a (j + 1)
theorem partL_get {a : Nat → Int} {n i : Nat} {y : Int} (h : (partL a n)[i]? = some y) : i < n ∧ y = a (i + 1) := by
  unfold partL at h
  rw [List.getElem?_map] at h
  by_cases lt : i < n
  · rw [List.getElem?_range lt] at h
    exact ⟨lt, (Option.some.inj h).symm⟩
  · rw [List.getElem?_eq_none (by simpa using lt)] at h
    cases h
theorem partL_len (a : Nat → Int) (n : Nat) : (partL a n).length = n := by simp [partL]
theorem sc_neighbours_for : FnScope ["parts", "p", "q", "later", "wider", "found", "part"] ["parts"] (defScope sNeighboursFor) := ⟨rfl, rfl, rfl, by decide +kernel, rfl, by decide +kernel, by decide +kernel⟩
def spNeighboursFor (K : PySem.W.Frag) : Sp := fun vs H Q _ => ∃ (x : Addr) (a : Nat → Int) (n : Nat), vs = [.ref x] ∧ SqL K H x ((partL a n).map V.int) ∧ Ok a ∧ n ≤ 900 ∧ ∀ (H' : Hp) (l : Addr), Same H H' → H l = none → NbL H' l n a → Q (.ref l) H'
theorem ok_neighbours_for (T : Tx K mg) : Df P w K mg base 1 "neighbours_for" ["parts"] (spNeighboursFor K) := by
  refine df_mk T.d_neighbours_for T.g_neighbours_for (fun _ _ _ _ _ _ us hl => match us, hl with | [_], _ => rfl) sc_neighbours_for (fun vs H Q E h => ?_) (fun cdv A outer s H vs Q E hr h => ?_)
  · obtain ⟨x, a, n, rfl, _⟩ := h
    rfl
  · obtain ⟨x, a, n, rfl, hx, ha, hn, k⟩ := h
    refine ⟨_, (by exact (pss_cons (ps_asg (pe_tup (pa_cons pe_int (pa_cons pe_int (pa_cons pe_int (pa_cons pe_int pa_nil))))) (pg_tup (by rfl) (pgs_cons (pg_name (i := 1) sc_neighbours_for.nd rfl (Or.inl rfl)) (pgs_cons (pg_name (i := 2) sc_neighbours_for.nd rfl (Or.inl rfl)) (pgs_cons (pg_name (i := 3) sc_neighbours_for.nd rfl (Or.inl rfl)) (pgs_cons (pg_name (i := 4) sc_neighbours_for.nd rfl (Or.inl rfl)) pgs_nil))))))
      (pss_cons (ps_set (i := 5) sc_neighbours_for.nd rfl (Or.inl rfl) (pe_lst (pa_cons (pe_tup (pa_cons (pv 3) (pa_cons (pv 4) pa_nil))) pa_nil)))
      (pss_cons (ps_for PassesOwn.never rfl (pi_list (pv 0)) (pg_name (i := 6) sc_neighbours_for.nd rfl (Or.inl rfl))
      (pss_cons (ps_asg (pe_tup (pa_cons (pv 3) (pa_cons (pv 4) (pa_cons (pe_op op_add (pe_op op_mul (pv 6) (pv 3)) (pv 1)) (pa_cons (pe_op op_add (pe_op op_mul (pv 6) (pv 4)) (pv 2)) pa_nil))))) (pg_tup (by rfl) (pgs_cons (pg_name (i := 1) sc_neighbours_for.nd rfl (Or.inl rfl)) (pgs_cons (pg_name (i := 2) sc_neighbours_for.nd rfl (Or.inl rfl)) (pgs_cons (pg_name (i := 3) sc_neighbours_for.nd rfl (Or.inl rfl)) (pgs_cons (pg_name (i := 4) sc_neighbours_for.nd rfl (Or.inl rfl)) pgs_nil))))))
        (pss_one (ps_expr (pe_bm PySem.F.plainAttrs_list PySem.F.slot_list_append PySem.F.type_list_append mt_append (pv 5) (pa_cons (pe_tup (pa_cons (pv 3) (pa_cons (pv 4) pa_nil))) pa_nil))))))
      (pss_one (ps_ret (pv 5))))))), ?_⟩
    refine ⟨(by show 4 ≤ sizeLine; decide), fun p0 h0 => ⟨p0, _, rfl, sqT upd_same, rfl, _, _, rfl, _, _, rfl, _, _, rfl, _, _, rfl, rfl, ?_⟩⟩
    refine ⟨_, rfl, _, rfl, (by show 2 ≤ sizeLine; decide), fun p1 h1 => ⟨(by show 1 ≤ sizeLine; decide), fun l hl => ?_⟩⟩
    have l0 : H l = none := (Same.new h0).free ((Same.new h1).free hl)
    refine ⟨_, rfl, x, rfl, ⟨_, (((Same.new h0).trans (Same.new h1)).trans (Same.new hl)).seq hx⟩, for_list (K := K) (a := x) (xs := (partL a n).map V.int) (fun i σ H' => ∃ v : Option V, σ = [some (.ref x), some (.int (sP a i)), some (.int (sQ a i)), some (.int (pp a i)), some (.int (qq a i)), some (.ref l), v] ∧ Same H H' ∧ NbL H' l i a)
      ⟨none, rfl, ((Same.new h0).trans (Same.new h1)).trans (Same.new hl), ⟨[p1], upd_same, rfl, fun j hj => ?_⟩⟩ (fun i σ H' _ ⟨_, _, S, _⟩ => S.seq hx) ?_ ?_⟩
    · obtain rfl : j = 0 := by omega
      exact ⟨p1, rfl, by rw [upd_ne (ne_of_none upd_same hl), upd_same]; rfl⟩
    · rintro i y σ H' hi ⟨v, rfl, S, N⟩
      obtain ⟨m, hm, rfl⟩ := map_int hi
      obtain ⟨lt, rfl⟩ := partL_get hm
      refine ⟨_, rfl, _, rfl, _, rfl, _, rfl, _, _, rfl, rfl, ok_mul ha _ _, _, rfl, _, _, rfl, rfl, _, rfl, _, rfl, _, _, rfl, rfl, ok_mul ha _ _, _, rfl, _, _, rfl, rfl, (by show 4 ≤ sizeLine; decide), fun p2 h2 => ?_⟩
      refine ⟨p2, _, rfl, sqT upd_same, rfl, _, _, rfl, _, _, rfl, _, _, rfl, _, _, rfl, rfl, ?_⟩
      have S2 := Same.new (o := .tup [.int (pp a i), .int (qq a i), .int (a (i + 1) * pp a i + sP a i), .int (a (i + 1) * qq a i + sQ a i)]) h2
      obtain ⟨as, a1, a2, a3⟩ := N.same S2
      have a1' := a1
      refine ⟨_, rfl, .inl ⟨rfl, _, SqL.of a1⟩, _, rfl, _, rfl, (by show 2 ≤ sizeLine; decide), fun p3 h3 => ?_⟩
      have nl : l ≠ p3 := ne_of_none a1 h3
      refine ⟨l, _, _, rfl, rfl, (by rw [upd_ne nl]; exact a1), (by rw [List.length_map, a2]; exact small1000 (by omega)), ?_⟩
      refine ⟨_, rfl, Same.set ((S.trans S2).trans (Same.new h3)) l0, ?_⟩
      exact NbL.app a1 a2 a3 h3
    · rintro σ H' ⟨v, rfl, S, N⟩
      rw [List.length_map, partL_len] at N
      exact ⟨_, rfl, k H' l S l0 N⟩
theorem sc_neighbours_to : FnScope ["slope", "place", "many"] ["slope", "place"] (defScope sNeighboursTo) := ⟨rfl, rfl, rfl, by decide +kernel, rfl, by decide +kernel, by decide +kernel⟩
def spNeighboursTo (K : PySem.W.Frag) : Sp := fun vs H Q _ => ∃ (x : Addr) (a : Nat → Int) (n : Nat), vs = [.ref x, .int ((n : Nat) : Int)] ∧ SlopeAt K H x a ∧ n ≤ 900 ∧ ∀ (H' : Hp) (l : Addr), Same H H' → H l = none → NbL H' l n a → Q (.ref l) H'
theorem ok_neighbours_to (T : Tx K mg) (h_part_at : Df P w K mg base 1 "part_at" ["slope", "many"] (spPartAt K)) (h_neighbours_for : Df P w K mg base 1 "neighbours_for" ["parts"] (spNeighboursFor K)) : Df P w K mg base 2 "neighbours_to" ["slope", "place"] (spNeighboursTo K) := by
  refine df_mk T.d_neighbours_to T.g_neighbours_to (fun _ _ _ _ _ _ us hl => match us, hl with | [_, _], _ => rfl) sc_neighbours_to (fun vs H Q E h => ?_) (fun cdv A outer s H vs Q E hr h => ?_)
  · obtain ⟨x, a, n, rfl, _⟩ := h
    rfl
  · obtain ⟨x, a, n, rfl, S, hn, k⟩ := h
    refine ⟨_, (by exact (pss_one (ps_ret (pe_c h_neighbours_for hr (pa_cons (pe_lc (own := [("many", 2)]) (g := gName 2) (tt := tYes) rfl sc_neighbours_to.nd (pi_range2 rfl T.b_range (pa_cons pe_int (pa_cons (pe_op op_add (pv 1) pe_int) pa_nil))) (blkOk_by (N := ["slope", "place", "many"]) (sc := defScope sNeighboursTo) (by decide +kernel)) (fun _ _ _ _ _ => (pg_name (i := 2) sc_neighbours_to.nd rfl (Or.inl rfl))) (fun _ _ _ _ _ => pts_nil) (fun _ _ _ _ _ => (pe_c h_part_at hr (pa_cons (pv 0) (pa_cons (pv 2) pa_nil))))) pa_nil))))), ?_⟩
    refine ⟨_, rfl, _, _, rfl, rfl, 1, ((n : Nat) : Int) + 1, rfl, ⟨by omega, by omega, by omega, by omega⟩, fun D hD => ?_⟩
    have en : ((n : Int) + 1 - 1).toNat = n := by omega
    rw [en]
    refine lc_range (lo := 1) (n := n) (fun i H' => ∃ acc : List Int, acc = partL a i ∧ H' D = some (.lst (acc.map V.int)) ∧ Same H H') ⟨[], rfl, upd_same, Same.new hD⟩ ?_ ?_
    · rintro i H' hi ⟨acc, rfl, e, S'⟩
      refine ⟨rfl, _, rfl, _, rfl, x, a, i + 1, ?_, S.same S', by omega, _, e, ?_, ?_⟩
      · show [V.ref x, V.int (1 + (i : Int))] = _
        rw [show (1 + (i : Int)) = (((i + 1 : Nat) : Int)) by omega]
      · rw [List.length_map, partL_len]
        exact small1000 (by omega)
      · refine ⟨_, rfl, ?_, Same.set S' hD⟩
        rw [upd_same, partL, partL, List.range_succ, List.map_append, List.map_append]
        rfl
    · rintro H' ⟨acc, rfl, e, S'⟩
      exact ⟨D, a, n, rfl, SqL.of e, S.ok, hn, fun H2 l S2 hl N => k H2 l (S'.trans S2) (S'.free hl) N⟩
end
end K33
set_option maxHeartbeats 0
namespace K33
open PySem PySem.Spec PyProof.Rows L2
section
variable {P : Program} {w : World} {K : PySem.W.Frag} {mg : Str → Option Value} {base : Heap}
/-! ### the neighbours past a bound -/
theorem sc_neighbours_past : FnScope ["slope", "bottom", "p", "q", "later", "wider", "many", "found", "beyond", "part"] ["slope", "bottom"] (defScope sNeighboursPast) := ⟨rfl, rfl, rfl, by decide +kernel, rfl, by decide +kernel, by decide +kernel⟩
def spNeighboursPast (K : PySem.W.Frag) : Sp := fun vs H Q _ => ∃ (x : Addr) (a : Nat → Int) (b : Int) (n : Nat), vs = [.ref x, .int b] ∧ SlopeAt K H x a ∧ IsLen a b n ∧ n ≤ 300 ∧ ∀ (H' : Hp) (l : Addr), Same H H' → H l = none → NbL H' l (max n 1 + 2) a → Q (.ref l) H'
theorem ok_neighbours_past (T : Tx K mg) (h_part_at : Df P w K mg base 1 "part_at" ["slope", "many"] (spPartAt K)) : Df P w K mg base 2 "neighbours_past" ["slope", "bottom"] (spNeighboursPast K) := by
  refine df_mk T.d_neighbours_past T.g_neighbours_past (fun _ _ _ _ _ _ us hl => match us, hl with | [_, _], _ => rfl) sc_neighbours_past (fun vs H Q E h => ?_) (fun cdv A outer s H vs Q E hr h => ?_)
  · obtain ⟨x, a, b, n, rfl, _⟩ := h
    rfl
  · obtain ⟨x, a, b, n, rfl, S, hb, hn, k⟩ := h
    have ha := S.ok
    refine ⟨_, (by exact (pss_cons (ps_asg (pe_tup (pa_cons pe_int (pa_cons pe_int (pa_cons pe_int (pa_cons pe_int (pa_cons pe_int pa_nil)))))) (pg_tup (by rfl) (pgs_cons (pg_name (i := 2) sc_neighbours_past.nd rfl (Or.inl rfl)) (pgs_cons (pg_name (i := 3) sc_neighbours_past.nd rfl (Or.inl rfl)) (pgs_cons (pg_name (i := 4) sc_neighbours_past.nd rfl (Or.inl rfl)) (pgs_cons (pg_name (i := 5) sc_neighbours_past.nd rfl (Or.inl rfl)) (pgs_cons (pg_name (i := 6) sc_neighbours_past.nd rfl (Or.inl rfl)) pgs_nil)))))))
      (pss_cons (ps_par (i := 7) (j := 8) (by rfl) sc_neighbours_past.nd rfl rfl (by decide) rfl rfl (pa_cons (pe_lst (pa_cons (pe_tup (pa_cons pe_int (pa_cons pe_int pa_nil))) pa_nil)) (pa_cons pe_int pa_nil)) (by rfl))
      (pss_cons (ps_while PassesOwn.never (pt_cmpR op_lt (pv 8) pe_int (nomark _))
      (pss_cons (ps_aug (i := 6) sc_neighbours_past.nd rfl (Or.inl rfl) pe_int ip_add)
        (pss_cons (ps_set (i := 9) sc_neighbours_past.nd rfl (Or.inl rfl) (pe_c h_part_at hr (pa_cons (pv 0) (pa_cons (pv 6) pa_nil))))
        (pss_cons (ps_asg (pe_tup (pa_cons (pv 4) (pa_cons (pv 5) (pa_cons (pe_op op_add (pe_op op_mul (pv 9) (pv 4)) (pv 2)) (pa_cons (pe_op op_add (pe_op op_mul (pv 9) (pv 5)) (pv 3)) pa_nil))))) (pg_tup (by rfl) (pgs_cons (pg_name (i := 2) sc_neighbours_past.nd rfl (Or.inl rfl)) (pgs_cons (pg_name (i := 3) sc_neighbours_past.nd rfl (Or.inl rfl)) (pgs_cons (pg_name (i := 4) sc_neighbours_past.nd rfl (Or.inl rfl)) (pgs_cons (pg_name (i := 5) sc_neighbours_past.nd rfl (Or.inl rfl)) pgs_nil))))))
        (pss_cons (ps_expr (pe_bm PySem.F.plainAttrs_list PySem.F.slot_list_append PySem.F.type_list_append mt_append (pv 7) (pa_cons (pe_tup (pa_cons (pv 4) (pa_cons (pv 5) pa_nil))) pa_nil)))
        (pss_one (ps_aug (i := 8) sc_neighbours_past.nd rfl (Or.inl rfl) (pe_callTy call_int1 (by rfl) T.b_int (by decide +kernel) (pa_cons (pe_cmpR op_gt (pv 5) (pv 1) (nomark _)) pa_nil)) ip_add)))))))
      (pss_one (ps_ret (pv 7))))))), ?_⟩
    refine ⟨(by show 5 ≤ sizeLine; decide), fun p0 h0 => ⟨p0, _, rfl, sqT upd_same, rfl, _, _, rfl, _, _, rfl, _, _, rfl, _, _, rfl, _, _, rfl, rfl, ?_⟩⟩
    refine ⟨(by show 2 ≤ sizeLine; decide), fun p1 h1 => ⟨(by show 1 ≤ sizeLine; decide), fun l hl => ?_⟩⟩
    have S0 := Same.new (o := .tup [.int 1, .int 0, .int 0, .int 1, .int 0]) h0
    have S1 := Same.new (o := .tup [.int 0, .int 1]) h1
    have l0 : H l = none := S0.free (S1.free hl)
    have S3 := (S0.trans S1).trans (Same.new (o := .lst [.ref p1]) hl)
    refine ⟨_, _, rfl, ?_⟩
    refine ⟨fun z σ H' => ∃ (i : Nat) (v : Option V), z = max n 1 + 2 - i ∧ i ≤ max n 1 + 2 ∧ σ = [some (.ref x), some (.int b), some (.int (sP a i)), some (.int (sQ a i)), some (.int (pp a i)), some (.int (qq a i)), some (.int ((i : Nat) : Int)), some (.ref l), some (.int ((i + 1 - max n 1 : Nat) : Int)), v] ∧ Same H H' ∧ NbL H' l i a,
      ⟨_, 0, none, rfl, Nat.zero_le _, ?_, S3, ⟨[p1], upd_same, rfl, fun j hj => ?_⟩⟩, ?_⟩
    · have e : 0 + 1 - max n 1 = 0 := by omega
      rw [e]
      rfl
    · obtain rfl : j = 0 := by omega
      exact ⟨p1, rfl, by rw [upd_ne (ne_of_none upd_same hl), upd_same]; rfl⟩
    · rintro z σ H' ⟨i, v, rfl, hi, rfl, S', N⟩
      refine ⟨_, rfl, _, _, rfl, rfl, _, rfl, ite2 (fun c => ?_) (fun c => ?_)⟩
      · have c' := of_decide_eq_true c
        have lt : i < max n 1 + 2 := by omega
        refine ⟨fun σ' H2 => ∃ v : Option V, σ' = [some (.ref x), some (.int b), some (.int (sP a (i + 1))), some (.int (sQ a (i + 1))), some (.int (pp a (i + 1))), some (.int (qq a (i + 1))), some (.int ((i + 1 : Nat) : Int)), some (.ref l), some (.int ((i + 1 + 1 - max n 1 : Nat) : Int)), v] ∧ Same H H2 ∧ NbL H2 l (i + 1) a,
          fun σ' H2 ⟨v, e, s2, n2⟩ => ⟨_, by omega, i + 1, v, rfl, lt, e, s2, n2⟩, ?_⟩
        refine ⟨_, rfl, _, _, rfl, rfl, ?_⟩
        refine ⟨_, rfl, _, rfl, x, a, i + 1, rfl, S.same S', by omega, ?_⟩
        refine ⟨_, rfl, _, rfl, _, rfl, _, rfl, _, _, rfl, rfl, ok_mul ha _ _, _, rfl, _, _, rfl, rfl, _, rfl, _, rfl, _, _, rfl, rfl, ok_mul ha _ _, _, rfl, _, _, rfl, rfl, (by show 4 ≤ sizeLine; decide), fun p2 h2 => ?_⟩
        refine ⟨p2, _, rfl, sqT upd_same, rfl, _, _, rfl, _, _, rfl, _, _, rfl, _, _, rfl, rfl, ?_⟩
        have S2 := Same.new (o := .tup [.int (pp a i), .int (qq a i), .int (a (i + 1) * pp a i + sP a i), .int (a (i + 1) * qq a i + sQ a i)]) h2
        obtain ⟨as, a1, a2, a3⟩ := N.same S2
        refine ⟨_, rfl, .inl ⟨rfl, _, SqL.of a1⟩, _, rfl, _, rfl, (by show 2 ≤ sizeLine; decide), fun p3 h3 => ?_⟩
        have nl : l ≠ p3 := ne_of_none a1 h3
        refine ⟨l, _, _, rfl, rfl, (by rw [upd_ne nl]; exact a1), (by rw [List.length_map, a2]; exact small1000 (by omega)), ?_⟩
        refine ⟨_, rfl, _, rfl, _, rfl, _, _, rfl, rfl, .inr ⟨_, rfl, _, _, rfl, rfl, ?_⟩⟩
        have step : (((i + 1 - max n 1 : Nat) : Int) + if decide (b < qq a (i + 1)) = true then 1 else 0) = ((i + 1 + 1 - max n 1 : Nat) : Int) := by
          by_cases q : n ≤ i + 1
          · rw [if_pos (decide_eq_true (hb.over _ q))]
            omega
          · rw [if_neg (fun z => by have := of_decide_eq_true z; have := hb.up _ (show i + 1 < n by omega); omega)]
            omega
        refine ⟨some (.int (a (i + 1))), ?_, Same.set ((S'.trans S2).trans (Same.new h3)) l0, NbL.app a1 a2 a3 h3⟩
        rw [← step]
        rfl
      · have c' : ¬ (((i + 1 - max n 1 : Nat) : Int) < 3) := fun z => c (decide_eq_true z)
        have e : i = max n 1 + 2 := by omega
        subst e
        exact ⟨_, rfl, k H' l S' l0 N⟩
end
end K33
set_option maxHeartbeats 0
namespace K33
open PySem PySem.Spec PyProof.Rows L2
theorem ixN_up {n j : Nat} (h : j < n) : ixN n (j : Int) = some j := by
  unfold ixN
  rw [if_pos (by omega), if_pos (by omega), Int.toNat_natCast]
theorem at_back {xs : List V} {v : V} {k j : Nat} (hk : 1 ≤ k) (hj : j + k = xs.length) (h : xs[j]? = some v) : atI xs (-(k : Int)) = some v := by
  unfold atI ixN
  rw [if_neg (by omega), if_pos (by omega), show (-(k : Int) + (xs.length : Int)).toNat = j by omega]
  exact h
theorem at_last {xs : List V} {v : V} {j : Nat} (hj : xs.length = j + 1) (h : xs[j]? = some v) : atI xs (-1) = some v := at_back (k := 1) (Nat.le_refl _) (by omega) h
theorem at_up {xs : List V} {v : V} {j : Nat} (h : xs[j]? = some v) : atI xs (j : Int) = some v := atI_nat h
/-- bottoms up to a bound -/
def lows (a : Nat → Int) (n : Nat) : List Int := (List.range n).map (qq a)
theorem lows_len (a : Nat → Int) (n : Nat) : (lows a n).length = n := by simp [lows]
theorem lows_get {a : Nat → Int} {n j : Nat} (h : j < n) : (lows a n)[j]? = some (qq a j) := by
  unfold lows
  rw [List.getElem?_map, List.getElem?_range h]
  rfl
theorem lows_next (a : Nat → Int) (n : Nat) : lows a (n + 1) = lows a n ++ [qq a n] := by
  unfold lows
  rw [List.range_succ, List.map_append]
  rfl
theorem bits {i : Int} (h0 : 0 ≤ i) (h : i ≤ 10 ^ 30) : i.natAbs < 2 ^ 100 := by
  have : (i.natAbs : Int) = i := by omega
  have h2 : (i.natAbs : Int) < 2 ^ 100 := by omega
  exact Int.ofNat_lt.mp (by simpa using h2)
theorem cdivP {i j : Int} (h0 : 0 < j) (h : j ≤ 10 ^ 30) : CDivP i j := ⟨h0, PyProof.noPylong_of_log2 (wide_div (i := i) h0 (bits (by omega) h) (by decide) (by decide)).2⟩
/-- the filtered bottoms: from those of the first places to those of one more -/
theorem lows_step {a : Nat → Int} {N : Int} {n i : Nat} (x : IsLen a N n) : (if decide (qq a i ≤ N) = true then lows a (min n i) ++ [qq a i] else lows a (min n i)) = lows a (min n (i + 1)) := by
  by_cases h : i < n
  · rw [if_pos (decide_eq_true (x.up i h)), show min n i = i by omega, show min n (i + 1) = i + 1 by omega, lows_next]
  · rw [if_neg (fun z => by have := of_decide_eq_true z; have := x.over i (by omega); omega), show min n i = n by omega, show min n (i + 1) = n by omega]
section
variable {P : Program} {w : World} {K : PySem.W.Frag} {mg : Str → Option Value} {base : Heap}
theorem sc_digits_of : FnScope ["slope", "number", "worths", "found", "place", "p", "q"] ["slope", "number"] (defScope sDigitsOf) := ⟨rfl, rfl, rfl, by decide +kernel, rfl, by decide +kernel, by decide +kernel⟩
def spDigits (K : PySem.W.Frag) : Sp := fun vs H Q _ => ∃ (x : Addr) (a : Nat → Int) (N : Int) (n : Nat), vs = [.ref x, .int N] ∧ SlopeAt K H x a ∧ IsLen a N n ∧ n ≤ 300 ∧ 0 ≤ N ∧ N ≤ 10 ^ 30 ∧ ∀ (H' : Hp) (p : Addr), Same H H' → H' p = some (.tup ((gd a n N).map V.int)) → Q (.ref p) H'
theorem ok_digits_of (T : Tx K mg) (h_neighbours_past : Df P w K mg base 2 "neighbours_past" ["slope", "bottom"] (spNeighboursPast K)) : Df P w K mg base 3 "digits_of" ["slope", "number"] (spDigits K) := by
  refine df_mk T.d_digits_of T.g_digits_of (fun _ _ _ _ _ _ us hl => match us, hl with | [_, _], _ => rfl) sc_digits_of (fun vs H Q E h => ?_) (fun cdv A outer s H vs Q E hr h => ?_)
  · obtain ⟨x, a, N, n, rfl, _⟩ := h
    rfl
  · obtain ⟨x, a, N, n, rfl, S, hb, hn, h0, h30, k⟩ := h
    have ha := S.ok
    refine ⟨_, (by exact (pss_cons (ps_setLc (i := 2) (own := [("p", 5), ("q", 6)]) (g := gTup K 2 (gCons (gName 5) (gCons (gName 6) (gNil)))) rfl sc_digits_of.nd rfl rfl (sw_true rfl rfl rfl (by decide +kernel)) (pi_list (pe_c h_neighbours_past hr (pa_cons (pv 0) (pa_cons (pv 1) pa_nil)))) (blkOk_by (N := ["slope", "number", "worths", "found", "place", "p", "q"]) (sc := defScope sDigitsOf) (by decide +kernel)) (fun _ _ _ _ _ => (pg_tup (by rfl) (pgs_cons (pg_name (i := 5) sc_digits_of.nd rfl (Or.inl rfl)) (pgs_cons (pg_name (i := 6) sc_digits_of.nd rfl (Or.inl rfl)) pgs_nil)))) (fun _ _ _ _ _ => (pts_one (pt_cmpR op_le (pv 6) (pv 1) (nomark _)))) (fun _ _ _ _ _ => (pv 6)))
      (pss_cons (ps_set (i := 3) sc_digits_of.nd rfl (Or.inl rfl) (pe_op op_rep (pe_lst (pa_cons pe_int pa_nil)) (pe_callB call_len_seq (by rfl) T.b_len (by decide +kernel) (pa_cons (pv 2) pa_nil))))
      (pss_cons (ps_for PassesOwn.never rfl (pi_range3 rfl T.b_range (pa_cons (pe_op op_sub (pe_callB call_len_seq (by rfl) T.b_len (by decide +kernel) (pa_cons (pv 2) pa_nil)) pe_int) (pa_cons (pe_un un_neg pe_int) (pa_cons (pe_un un_neg pe_int) pa_nil)))) (pg_name (i := 4) sc_digits_of.nd rfl (Or.inl rfl))
      (pss_one (ps_asg (pe_callB call_divmodW (by rfl) T.b_divmod (by decide +kernel) (pa_cons (pv 1) (pa_cons (pe_ix ix_list (pv 2) (pv 4) (fun _ _ => rfl)) pa_nil))) (pg_tup (by rfl) (pgs_cons (pg_sub (pv 3) (pv 4) set_list) (pgs_cons (pg_name (i := 1) sc_digits_of.nd rfl (Or.inr rfl)) pgs_nil))))))
      (pss_one (ps_ret (pe_callTy call_tuple_of (by rfl) T.b_tuple (by decide +kernel) (pa_cons (pv 3) pa_nil)))))))), ?_⟩
    refine ⟨_, rfl, _, rfl, x, a, N, n, rfl, S, hb, hn, fun H1 l S1 hl NB => ?_⟩
    obtain ⟨as, a1, a2, a3⟩ := NB
    refine ⟨l, rfl, ⟨_, SqL.of a1⟩, fun D hD => ?_⟩
    refine lc_list (xs := as.map V.ref) (fun i H' => Same H1 H' ∧ H' D = some (.lst ((lows a (min n i)).map V.int))) ⟨Same.new hD, by rw [upd_same, show min n 0 = 0 by omega]; rfl⟩ (fun i H' _ ⟨S', _⟩ => S'.seq (SqL.of a1)) ?_ ?_
    · rintro i y H' hi ⟨S', e⟩
      obtain ⟨q, hq, rfl⟩ := map_ref hi
      have li : i < as.length := (List.getElem?_eq_some_iff.mp hq).1
      obtain ⟨q', hq', e2⟩ := a3 i (by omega)
      obtain rfl : q = q' := Option.some.inj (hq.symm.trans hq')
      refine ⟨q, _, rfl, sqT (S' _ _ e2), rfl, _, _, rfl, _, _, rfl, rfl, rfl, _, rfl, _, rfl, _, _, rfl, rfl, _, rfl, ?_⟩
      have st := lows_step (i := i) hb
      refine ite2 (fun c => ?_) (fun c => ?_)
      · rw [if_pos c] at st
        refine ⟨_, rfl, _, e, by rw [List.length_map, lows_len]; exact small1000 (by omega), Same.set S' hD, ?_⟩
        rw [upd_same, ← st, List.map_append]
        rfl
      · rw [if_neg c] at st
        exact ⟨S', by rw [← st]; exact e⟩
    · rintro H2 ⟨S2, e2⟩
      have hlen : (as.map V.ref).length = max n 1 + 3 := by rw [List.length_map, a2]
      rw [hlen, show min n (max n 1 + 3) = n by omega] at e2
      refine ⟨(by show 1 ≤ sizeLine; decide), fun z hz => ?_⟩
      have z2 : (upd H2 z (.lst [.int 0])) D = some (.lst ((lows a n).map V.int)) := (Same.new hz) _ _ e2
      refine ⟨_, rfl, D, _, rfl, .inl (SqL.of z2), z, _, [.int 0], rfl, rfl, upd_same, ?_⟩
      have len : (((lows a n).map V.int).length : Int) = n := by rw [List.length_map, lows_len]
      rw [len]
      refine ⟨by omega, by omega, (by show 1 * _ ≤ sizeLine; rw [Nat.one_mul, Int.toNat_natCast]; exact small (by omega)), fun f hf => ?_⟩
      have fz : f ≠ z := (ne_of_none upd_same hf).symm
      have f2 := (Same.new (o := .lst (List.replicate ((n : Int)).toNat [V.int 0]).flatten) hf) _ _ z2
      refine ⟨_, rfl, D, _, rfl, .inl (SqL.of f2), _, _, rfl, rfl, _, rfl, _, rfl, _, _, _, n, rfl, ?_, ?_⟩
      · rw [len]
        have := RgC.neg (i := (n : Int) - 1) (j := -1) (by omega) (by omega) (by omega) (by omega)
        rwa [show ((n : Int) - 1 - -1).toNat = n by omega] at this
      have H1f : H1 f = none := S2.free ((Same.new hz).free hf)
      refine for_rangeC (fun i σ H' => ∃ (v : Option V) (r : Int) (D' : List Int), σ = [some (.ref x), some (.int r), some (.ref D), some (.ref f), v, none, none] ∧ 0 ≤ r ∧ gd a n N = gd a (n - i) r ++ D' ∧ Same H1 H' ∧ H' D = some (.lst ((lows a n).map V.int)) ∧ H' f = some (.lst ((List.replicate (n - i) (0 : Int) ++ D').map V.int)))
        ⟨none, N, [], rfl, h0, by rw [List.append_nil]; rfl, ((S2.trans (Same.new hz)).trans (Same.new hf)), f2, ?_⟩ ?_ ?_
      · rw [upd_same, Int.toNat_natCast, List.append_nil]
        show some (HO.lst _) = some (HO.lst _)
        congr 2
        rw [List.map_replicate]
        clear hn hb k e2 a2 hlen z2 len f2 H1f
        show (List.replicate n [V.int 0]).flatten = List.replicate n (V.int 0)
        rw [List.flatten_replicate_singleton]
      · rintro i σ H' hi ⟨v, r, D', rfl, r0, eq, S', eD, ef⟩
        obtain ⟨m, hm⟩ : ∃ m, n - i = m + 1 := ⟨n - i - 1, by omega⟩
        have hm2 : n - (i + 1) = m := by omega
        have hq := q1 ha m
        have hle := hb.up m (by omega)
        have plc : ((n : Int) - 1 + (i : Int) * -1) = (m : Nat) := by omega
        rw [hm] at eq ef
        rw [len, plc]
        have hidx : atI ((lows a n).map V.int) ((m : Nat) : Int) = some (.int (qq a m)) := at_up (by rw [List.getElem?_map, lows_get (by omega)]; rfl)
        refine ⟨_, rfl, _, rfl, _, rfl, D, _, _, _, rfl, rfl, SqL.of eD, hidx, _, _, rfl, cdivP (by omega) (by omega), fun p hp => ?_⟩
        have fp : f ≠ p := ne_of_none ef hp
        refine ⟨p, _, rfl, sqT upd_same, rfl, _, _, rfl, _, rfl, _, rfl, f, _, _, m, rfl, rfl, by rw [upd_ne fp]; exact ef, ixN_up (by simp; omega), _, _, rfl, rfl, ?_⟩
        have fD : D ≠ f := by
          intro e
          rw [← e, z2] at hf
          cases hf
        refine ⟨_, r % qq a m, (r / qq a m) :: D', rfl, Int.emod_nonneg _ (by omega), ?_, Same.set (S'.trans (Same.new hp)) H1f, ?_, ?_⟩
        · rw [hm2, eq]
          show (gd a m (r % qq a m) ++ [r / qq a m]) ++ D' = _
          rw [List.append_assoc]
          rfl
        · rw [upd_ne fD, upd_ne (ne_of_none eD hp)]
          exact eD
        · rw [upd_same, hm2]
          show some (HO.lst _) = some (HO.lst _)
          congr 2
          rw [List.replicate_succ', List.append_assoc, List.map_append, List.set_append, if_neg (by simp)]
          simp
      · rintro σ H' ⟨v, r, D', rfl, r0, eq, S', eD, ef⟩
        rw [Nat.sub_self] at eq ef
        refine ⟨_, rfl, f, _, rfl, .inl ⟨SqL.of ef, fun p hp => ?_⟩⟩
        refine k _ p ((S1.trans S').trans (Same.new hp)) ?_
        rw [upd_same, eq]
        rfl
theorem sc_numeral : FnScope ["slope", "number"] ["slope", "number"] (defScope sNumeral) := ⟨rfl, rfl, rfl, by decide +kernel, rfl, by decide +kernel, by decide +kernel⟩
theorem ok_numeral (T : Tx K mg) (h_check_slope : Df P w K mg base 1 "check_slope" ["value"] (spCheckSlope K)) (h_check_number : Df P w K mg base 3 "check_number" ["value"] (spChk 0 (10 ^ 30))) (h_digits_of : Df P w K mg base 3 "digits_of" ["slope", "number"] (spDigits K)) : Df P w K mg base 4 "numeral" ["slope", "number"] (spDigits K) := by
  refine df_mk T.d_numeral T.g_numeral (fun _ _ _ _ _ _ us hl => match us, hl with | [_, _], _ => rfl) sc_numeral (fun vs H Q E h => ?_) (fun cdv A outer s H vs Q E hr h => ?_)
  · obtain ⟨x, a, N, n, rfl, _⟩ := h
    rfl
  · obtain ⟨x, a, N, n, rfl, S, hb, hn, h0, h30, k⟩ := h
    refine ⟨_, (by exact (pss_cons (ps_expr (pe_c h_check_slope hr (pa_cons (pv 0) pa_nil)))
      (pss_cons (ps_expr (pe_c h_check_number hr (pa_cons (pv 1) pa_nil)))
      (pss_one (ps_ret (pe_c h_digits_of hr (pa_cons (pv 0) (pa_cons (pv 1) pa_nil)))))))), ?_⟩
    exact ⟨_, rfl, x, a, rfl, S, _, rfl, N, rfl, h0, h30, _, rfl, _, rfl, x, a, N, n, rfl, S, hb, hn, h0, h30, k⟩
theorem sc_length_of : FnScope ["slope", "number"] ["slope", "number"] (defScope sLengthOf) := ⟨rfl, rfl, rfl, by decide +kernel, rfl, by decide +kernel, by decide +kernel⟩
def spLength (K : PySem.W.Frag) : Sp := fun vs H Q _ => ∃ (x : Addr) (a : Nat → Int) (N : Int) (n : Nat), vs = [.ref x, .int N] ∧ SlopeAt K H x a ∧ IsLen a N n ∧ n ≤ 300 ∧ 0 ≤ N ∧ N ≤ 10 ^ 30 ∧ ∀ H' : Hp, Same H H' → Q (.int ((n : Nat) : Int)) H'
theorem fn_length_of (h_numeral : Df P w K mg base 4 "numeral" ["slope", "number"] (spDigits K)) (T : Tx K mg) (fd : FuncData) (F : FnP K "length_of" "length_of" sLengthOf (He.ga K "length_of") fd) : FnOk P w K mg base CX0 5 (He.ga K "length_of") fd ["slope", "number"] (spLength K) := by
  refine F.ok sc_length_of (fun vs H Q E h => ?_) fun cdv A outer s H vs Q E hr h => ?_
  · obtain ⟨x, a, N, n, rfl, _⟩ := h
    rfl
  · obtain ⟨x, a, N, n, rfl, S, hb, hn, h0, h30, k⟩ := h
    refine ⟨_, PSs.nox (by exact (pss_one (ps_ret (pe_callB call_len_seq (by rfl) T.b_len (by decide +kernel) (pa_cons (pe_c h_numeral hr (pa_cons (pv 0) (pa_cons (pv 1) pa_nil))) pa_nil))))), ?_⟩
    refine ⟨_, rfl, _, rfl, x, a, N, n, rfl, S, hb, hn, h0, h30, fun H' p S' e => ⟨p, _, rfl, .inr (sqT e), ?_⟩⟩
    rw [List.length_map, gd_length]
    exact k _ S'
theorem ok_length_of (T : Tx K mg) (h_numeral : Df P w K mg base 4 "numeral" ["slope", "number"] (spDigits K)) : Df P w K mg base 5 "length_of" ["slope", "number"] (spLength K) := by
  obtain ⟨fd, F⟩ := T.d_length_of
  exact ⟨fd, fn_length_of h_numeral T fd F, F.bindsN (fun _ _ _ _ _ _ us hl => match us, hl with | [_, _], _ => rfl), F.kp, T.g_length_of⟩
theorem oks_length_of (T : Tx K mg) (h_numeral : Df P w K mg base 4 "numeral" ["slope", "number"] (spDigits K)) : DfS P w K mg base 5 "length_of" "slope" "number" (spLength K) :=
  dfS_mk T.d_length_of T.g_length_of (fun _ _ _ _ _ _ _ _ => rfl) (fn_length_of h_numeral T)
theorem sc_count_shorter : FnScope ["slope", "place"] ["slope", "place"] (defScope sCountShorter) := ⟨rfl, rfl, rfl, by decide +kernel, rfl, by decide +kernel, by decide +kernel⟩
def spCount (K : PySem.W.Frag) : Sp := fun vs H Q _ => ∃ (x : Addr) (a : Nat → Int) (n : Nat), vs = [.ref x, .int ((n : Nat) : Int)] ∧ SlopeAt K H x a ∧ n ≤ 60 ∧ ∀ H' : Hp, Same H H' → Q (.int (qq a n)) H'
theorem fn_count_shorter (h_check_slope : Df P w K mg base 1 "check_slope" ["value"] (spCheckSlope K)) (h_check_place : Df P w K mg base 3 "check_place" ["value"] (spChk 0 60)) (h_neighbours_to : Df P w K mg base 2 "neighbours_to" ["slope", "place"] (spNeighboursTo K)) (T : Tx K mg) (fd : FuncData)
    (F : FnP K "count_shorter" "count_shorter" sCountShorter (He.ga K "count_shorter") fd) : FnOk P w K mg base CX0 4 (He.ga K "count_shorter") fd ["slope", "place"] (spCount K) := by
  refine F.ok sc_count_shorter (fun vs H Q E h => ?_) fun cdv A outer s H vs Q E hr h => ?_
  · obtain ⟨x, a, n, rfl, _⟩ := h
    rfl
  · obtain ⟨x, a, n, rfl, S, hn, k⟩ := h
    refine ⟨_, PSs.nox (by exact (pss_cons (ps_expr (pe_c h_check_slope hr (pa_cons (pv 0) pa_nil)))
      (pss_cons (ps_expr (pe_c h_check_place hr (pa_cons (pv 1) pa_nil)))
      (pss_one (ps_ret (pe_ix ix_tup (pe_ix ix_list (pe_c h_neighbours_to hr (pa_cons (pv 0) (pa_cons (pv 1) pa_nil))) (pe_un un_neg pe_int) (fun _ _ => rfl)) pe_int (fun _ _ => rfl))))))), ?_⟩
    refine ⟨_, rfl, x, a, rfl, S, _, rfl, _, rfl, by omega, by omega, _, rfl, _, rfl, x, a, n, rfl, S, by omega, fun H' l S' hl N => ?_⟩
    obtain ⟨xs, p, e1, e2, e3, e4⟩ := N.get (Nat.le_refl n)
    exact ⟨_, rfl, l, _, _, _, rfl, rfl, SqL.of e1, at_last e2 e3, p, _, _, _, rfl, rfl, sqT e4, rfl, k _ S'⟩
theorem ok_count_shorter (T : Tx K mg) (h_check_slope : Df P w K mg base 1 "check_slope" ["value"] (spCheckSlope K)) (h_check_place : Df P w K mg base 3 "check_place" ["value"] (spChk 0 60)) (h_neighbours_to : Df P w K mg base 2 "neighbours_to" ["slope", "place"] (spNeighboursTo K)) :
    Df P w K mg base 4 "count_shorter" ["slope", "place"] (spCount K) := by
  obtain ⟨fd, F⟩ := T.d_count_shorter
  exact ⟨fd, fn_count_shorter h_check_slope h_check_place h_neighbours_to T fd F, F.bindsN (fun _ _ _ _ _ _ us hl => match us, hl with | [_, _], _ => rfl), F.kp, T.g_count_shorter⟩
theorem oks_count_shorter (T : Tx K mg) (h_check_slope : Df P w K mg base 1 "check_slope" ["value"] (spCheckSlope K)) (h_check_place : Df P w K mg base 3 "check_place" ["value"] (spChk 0 60)) (h_neighbours_to : Df P w K mg base 2 "neighbours_to" ["slope", "place"] (spNeighboursTo K)) :
    DfS P w K mg base 4 "count_shorter" "slope" "place" (spCount K) :=
  dfS_mk T.d_count_shorter T.g_count_shorter (fun _ _ _ _ _ _ _ _ => rfl) (fn_count_shorter h_check_slope h_check_place h_neighbours_to T)
/-! ### the method -/
def DfM (P : Program) (w : World) (K : PySem.W.Frag) (mg : Str → Option Value) (base : Heap) (k : Nat) (m : Str) (ps : List Str) (sp : Sp) : Prop := ∃ fd, FnOk P w K mg base CX0 k (He.ma K (He.ga K "Slope") m) fd ps sp ∧ Binds K fd ps []
theorem sc_Slope_neighbour : FnScope ["self", "place"] ["self", "place"] (defScope sNeighbour) := ⟨rfl, rfl, rfl, by decide +kernel, rfl, by decide +kernel, by decide +kernel⟩
def spNeighbour (K : PySem.W.Frag) : Sp := fun vs H Q _ => ∃ (x : Addr) (a : Nat → Int) (n : Nat), vs = [.ref x, .int ((n : Nat) : Int)] ∧ SlopeAt K H x a ∧ n ≤ 60 ∧ ∀ (H' : Hp) (p : Addr), Same H H' → H' p = some (.tup [.int (pp a n), .int (qq a n)]) → Q (.ref p) H'
theorem ok_neighbour (T : Tx K mg) (h_check_place : Df P w K mg base 3 "check_place" ["value"] (spChk 0 60)) (h_neighbours_to : Df P w K mg base 2 "neighbours_to" ["slope", "place"] (spNeighboursTo K)) : DfM P w K mg base 4 "neighbour" ["self", "place"] (spNeighbour K) := by
  obtain ⟨fd, F⟩ := T.m_neighbour
  refine ⟨fd, F.ok sc_Slope_neighbour (fun vs H Q E h => ?_) fun cdv A outer s H vs Q E hr h => ?_, F.bindsN (fun _ _ _ _ _ _ us hl => match us, hl with | [_, _], _ => rfl)⟩
  · obtain ⟨x, a, n, rfl, _⟩ := h
    rfl
  · obtain ⟨x, a, n, rfl, S, hn, k⟩ := h
    refine ⟨_, PSs.nox (by exact (pss_cons (ps_expr (pe_c h_check_place hr (pa_cons (pv 1) pa_nil)))
      (pss_one (ps_ret (pe_ix ix_list (pe_c h_neighbours_to hr (pa_cons (pv 0) (pa_cons (pv 1) pa_nil))) (pe_un un_neg pe_int) (fun _ _ => rfl)))))), ?_⟩
    refine ⟨_, rfl, _, rfl, by omega, by omega, _, rfl, _, rfl, x, a, n, rfl, S, by omega, fun H' l S' hl N => ?_⟩
    obtain ⟨xs, p, e1, e2, e3, e4⟩ := N.get (Nat.le_refl n)
    exact ⟨_, rfl, l, _, _, _, rfl, rfl, SqL.of e1, at_last e2 e3, k _ p S' e4⟩
end
end K33
set_option maxHeartbeats 0
namespace K33
open PySem PySem.Spec PyProof.Rows L2
def Small (T : List Int) : Prop := T.length ≤ 8 ∧ ∀ x ∈ T, 1 ≤ x ∧ x ≤ 20
section
variable {P : Program} {w : World} {K : PySem.W.Frag} {mg : Str → Option Value} {base : Heap}
theorem sc_check_lead : FnScope ["lead", "index", "part"] ["lead"] (defScope sCheckLead) := ⟨rfl, rfl, rfl, by decide +kernel, rfl, by decide +kernel, by decide +kernel⟩
def spCheckLead : Sp := fun vs H Q _ => ∃ (t : Addr) (T : List Int), vs = [.ref t] ∧ H t = some (.tup (T.map V.int)) ∧ Small T ∧ ∀ H' : Hp, Same H H' → Q .non H'
theorem ok_check_lead (T : Tx K mg) (h_is_between : Df P w K mg base 2 "is_between" ["value", "low", "high"] spIsBetween) : Df P w K mg base 3 "check_lead" ["lead"] spCheckLead := by
  refine df_mk T.d_check_lead T.g_check_lead (fun _ _ _ _ _ _ us hl => match us, hl with | [_], _ => rfl) sc_check_lead (fun vs H Q E h => ?_) (fun cdv A outer s H vs Q E hr h => ?_)
  · obtain ⟨t, L, rfl, _⟩ := h
    rfl
  · obtain ⟨t, L, rfl, ht, ⟨hl, hL⟩, k⟩ := h
    refine ⟨_, (by exact (pss_cons (ps_if (pt_not (pt_val (pe_callB call_isi (by rfl) T.b_isinstance (by decide +kernel) (pa_cons (pv 0) (pa_cons (pe_bltn (v := .ty "tuple") (by rfl) T.b_tuple (by decide +kernel) rfl) pa_nil)))))
      (pss_one ps_never)
      pss_nil)
      (pss_one (ps_for PassesOwn.never rfl (pi_enumT (by rfl) T.b_enumerate (pa_cons (pv 0) pa_nil)) (pg_tup (by rfl) (pgs_cons (pg_name (i := 1) sc_check_lead.nd rfl (Or.inl rfl)) (pgs_cons (pg_name (i := 2) sc_check_lead.nd rfl (Or.inl rfl)) pgs_nil)))
      (pss_one (ps_if (PW.pt (pw_or (pt_cmpR op_eq (pv 1) (pe_gi T.i_MOST_LEAD) (nomark _)) (pw_or1 (pt_not (pt_val (pe_c h_is_between hr (pa_cons (pv 2) (pa_cons pe_int (pa_cons (pe_gi T.i_MOST_PART) pa_nil)))))))))
        (pss_one ps_never)
        pss_nil)))))), ?_⟩
    refine ⟨_, rfl, _, _, _, _, true, rfl, .ty "tuple", .base (.tup ht), kit_ty (by decide +kernel), true, rfl, iteF ?_⟩
    refine ⟨_, rfl, t, _, rfl, sqT ht, for_it walk_enumT (fun i σ H' => ∃ u v : Option V, σ = [some (.ref t), u, v] ∧ Same H H') ⟨none, none, rfl, Same.refl H⟩ (fun i σ H' _ ⟨_, _, _, S⟩ => sqT (S _ _ ht)) ?_ ?_⟩
    · rintro i x σ H' H2 hi ⟨u, v, rfl, S⟩ ⟨p, y, z, rfl, hp, rfl, e1, e2⟩
      obtain ⟨n, hn, rfl⟩ := map_int e2
      have hn2 := hL n (List.mem_of_getElem? hn)
      have li : i < L.length := (List.getElem?_eq_some_iff.mp hn).1
      refine ⟨p, _, rfl, sqT upd_same, rfl, _, _, rfl, _, _, rfl, rfl, ?_⟩
      cases e1
      refine ⟨_, rfl, rfl, _, rfl, ite2 (fun c => ?_) (fun c => ?_)⟩
      · have c' := V.int.inj (of_decide_eq_true c)
        omega
      · exact ⟨_, rfl, n, _, _, rfl, hn2.1, hn2.2, true, rfl, iteF ⟨_, _, rfl, Same.upd S hp⟩⟩
    · rintro σ H' ⟨u, v, rfl, S⟩
      exact k H' S
theorem sc_check_loop : FnScope ["turn", "index", "part"] ["turn"] (defScope sCheckLoop) := ⟨rfl, rfl, rfl, by decide +kernel, rfl, by decide +kernel, by decide +kernel⟩
def spCheckLoop : Sp := fun vs H Q _ => ∃ (t : Addr) (T : List Int), vs = [.ref t] ∧ H t = some (.tup (T.map V.int)) ∧ Small T ∧ T ≠ [] ∧ ∀ H' : Hp, Same H H' → Q .non H'
theorem ok_check_loop (T : Tx K mg) (h_is_between : Df P w K mg base 2 "is_between" ["value", "low", "high"] spIsBetween) : Df P w K mg base 3 "check_loop" ["turn"] spCheckLoop := by
  refine df_mk T.d_check_loop T.g_check_loop (fun _ _ _ _ _ _ us hl => match us, hl with | [_], _ => rfl) sc_check_loop (fun vs H Q E h => ?_) (fun cdv A outer s H vs Q E hr h => ?_)
  · obtain ⟨t, L, rfl, _⟩ := h
    rfl
  · obtain ⟨t, L, rfl, ht, ⟨hl, hL⟩, ne, k⟩ := h
    refine ⟨_, (by exact (pss_cons (ps_if (PW.pt (pw_or (pt_not (pt_val (pe_callB call_isi (by rfl) T.b_isinstance (by decide +kernel) (pa_cons (pv 0) (pa_cons (pe_bltn (v := .ty "tuple") (by rfl) T.b_tuple (by decide +kernel) rfl) pa_nil))))) (pw_or1 (pt_cmpR (op_eqD hr.units) (pv 0) (pe_tup pa_nil) (nomark _)))))
      (pss_one ps_never)
      pss_nil)
      (pss_one (ps_for PassesOwn.never rfl (pi_enumT (by rfl) T.b_enumerate (pa_cons (pv 0) pa_nil)) (pg_tup (by rfl) (pgs_cons (pg_name (i := 1) sc_check_loop.nd rfl (Or.inl rfl)) (pgs_cons (pg_name (i := 2) sc_check_loop.nd rfl (Or.inl rfl)) pgs_nil)))
      (pss_one (ps_if (PW.pt (pw_or (pt_cmpR op_eq (pv 1) (pe_gi T.i_MOST_LOOP) (nomark _)) (pw_or1 (pt_not (pt_val (pe_c h_is_between hr (pa_cons (pv 2) (pa_cons pe_int (pa_cons (pe_gi T.i_MOST_PART) pa_nil)))))))))
        (pss_one ps_never)
        pss_nil)))))), ?_⟩
    refine ⟨_, rfl, _, _, _, _, true, rfl, .ty "tuple", .base (.tup ht), kit_ty (by decide +kernel), true, rfl, iteF ?_⟩
    refine ⟨_, rfl, (by show 0 ≤ sizeLine; decide), fun e he => ?_⟩
    have S0 := Same.new (o := .tup []) he
    refine ⟨_, _, dp_tup (sqT (S0 _ _ ht)), dp_tup (ns := []) (sqT upd_same), shaped_tup _, shaped_tup [], ?_⟩
    rw [eqv_tup, decide_eq_false ne]
    refine ⟨false, rfl, iteF ?_⟩
    refine ⟨_, rfl, t, _, rfl, sqT (S0 _ _ ht), for_it walk_enumT (fun i σ H' => ∃ u v : Option V, σ = [some (.ref t), u, v] ∧ Same H H') ⟨none, none, rfl, S0⟩ (fun i σ H' _ ⟨_, _, _, S⟩ => sqT (S _ _ ht)) ?_ ?_⟩
    · rintro i x σ H' H2 hi ⟨u, v, rfl, S⟩ ⟨p, y, z, rfl, hp, rfl, e1, e2⟩
      obtain ⟨n, hn, rfl⟩ := map_int e2
      have hn2 := hL n (List.mem_of_getElem? hn)
      have li : i < L.length := (List.getElem?_eq_some_iff.mp hn).1
      refine ⟨p, _, rfl, sqT upd_same, rfl, _, _, rfl, _, _, rfl, rfl, ?_⟩
      cases e1
      refine ⟨_, rfl, rfl, _, rfl, ite2 (fun c => ?_) (fun c => ?_)⟩
      · have c' := V.int.inj (of_decide_eq_true c)
        omega
      · exact ⟨_, rfl, n, _, _, rfl, hn2.1, hn2.2, true, rfl, iteF ⟨_, _, rfl, Same.upd S hp⟩⟩
    · rintro σ H' ⟨u, v, rfl, S⟩
      exact k H' S
theorem small_of {U T : List Int} (h : ∀ x ∈ U, x ∈ T) (hl : U.length ≤ T.length) (s : Small T) : Small U := ⟨Nat.le_trans hl s.1, fun x hx => s.2 x (h x hx)⟩
theorem sc_shortest_loop : FnScope ["turn", "size"] ["turn"] (defScope sShortestLoop) := ⟨rfl, rfl, rfl, by decide +kernel, rfl, by decide +kernel, by decide +kernel⟩
def spShortestLoop : Sp := fun vs H Q _ => ∃ (t : Addr) (T : List Int), vs = [.ref t] ∧ H t = some (.tup (T.map V.int)) ∧ Small T ∧ T ≠ [] ∧ ∀ (H' : Hp) (u : Addr) (U : List Int), Same H H' → H' u = some (.tup (U.map V.int)) → Small U → U ≠ [] → (∀ j, cyc U j = cyc T j) → Q (.ref u) H'
theorem ok_shortest_loop (T : Tx K mg) : Df P w K mg base 1 "shortest_loop" ["turn"] spShortestLoop := by
  refine df_mk T.d_shortest_loop T.g_shortest_loop (fun _ _ _ _ _ _ us hl => match us, hl with | [_], _ => rfl) sc_shortest_loop (fun vs H Q E h => ?_) (fun cdv A outer s H vs Q E hr h => ?_)
  · obtain ⟨t, L, rfl, _⟩ := h
    rfl
  · obtain ⟨t, L, rfl, ht, hs, ne, k⟩ := h
    have hl := hs.1
    refine ⟨_, (by exact (pss_cons (ps_for PassesOwn.never rfl (pi_range2 rfl T.b_range (pa_cons pe_int (pa_cons (pe_callB call_len_seq (by rfl) T.b_len (by decide +kernel) (pa_cons (pv 0) pa_nil)) pa_nil))) (pg_name (i := 1) sc_shortest_loop.nd rfl (Or.inl rfl))
      (pss_one (ps_if (PW.pt (pw_and (pt_cmpR op_eq (pe_op op_mod (pe_callB call_len_seq (by rfl) T.b_len (by decide +kernel) (pa_cons (pv 0) pa_nil)) (pv 1)) pe_int (nomark _)) (pw_and1 (pt_cmpR (op_eqD hr.units) (pe_op op_repT (pe_slice sl_tup (pv 0) po_none (po_some (pv 1))) (pe_op op_fdiv (pe_callB call_len_seq (by rfl) T.b_len (by decide +kernel) (pa_cons (pv 0) pa_nil)) (pv 1))) (pv 0) (nomark _)))))
        (pss_one (ps_ret (pe_slice sl_tup (pv 0) po_none (po_some (pv 1)))))
        pss_nil)))
      (pss_one (ps_ret (pv 0))))), ?_⟩
    refine ⟨_, rfl, t, _, rfl, .inr (sqT ht), _, _, rfl, ⟨by omega, by omega, by omega, by rw [List.length_map]; omega⟩, ?_⟩
    have pos : 0 < L.length := List.length_pos_iff.mpr ne
    have en : ((((L.map V.int).length : Nat) : Int) - 1).toNat = L.length - 1 := by rw [List.length_map]; omega
    rw [en]
    refine for_range (fun i σ H' => ∃ v : Option V, σ = [some (.ref t), v] ∧ Same H H') ⟨none, rfl, Same.refl H⟩ ?_ ?_
    · rintro i σ H' hi ⟨v, rfl, S⟩
      have t1 := S _ _ ht
      refine ⟨_, rfl, t, _, rfl, .inr (sqT t1), _, rfl, _, _, rfl, rfl, ?_, rfl, _, rfl, ite2 (fun c => ?_) (fun c => ?_)⟩
      · omega
      · have c' := V.int.inj (of_decide_eq_true c)
        refine ⟨_, rfl, _, rfl, _, rfl, t, _, rfl, sqT t1, ?_, fun p hp => ?_⟩
        · rw [show (1 + (i : Int)) = ((i + 1 : Nat) : Int) by omega]
          exact cut_to_not _ _ (by rw [List.length_map]; omega)
        rw [show (1 + (i : Int)) = ((i + 1 : Nat) : Int) by omega, cut_to _ _ (by rw [List.length_map]; omega), ← List.map_take]
        have S2 := Same.new (o := .tup ((L.take (i + 1)).map V.int)) hp
        have t2 := S2 _ _ t1
        rw [List.length_map] at c'
        obtain ⟨m, hm⟩ : (i + 1) ∣ L.length := by
          refine Nat.dvd_of_mod_eq_zero (Int.ofNat.inj ?_)
          show ((L.length % (i + 1) : Nat) : Int) = 0
          rw [Int.natCast_emod, ← c', show (1 + (i : Int)) = ((i + 1 : Nat) : Int) by omega]
        have hm1 : 2 ≤ m := by
          match m, hm with
          | 0, hm => omega
          | 1, hm => omega
          | m + 2, _ => omega
        have hm2 : m ≤ 8 := Nat.le_trans (Nat.le_mul_of_pos_left m (show 0 < i + 1 by omega)) (by omega)
        have hU : L.take (i + 1) ≠ [] := by
          intro z
          have := congrArg List.length z
          rw [List.length_take] at this
          have z2 : min (i + 1) L.length = 0 := this
          omega
        have lU : (L.take (i + 1)).length ≤ L.length := by
          rw [List.length_take]
          omega
        have ek : ((((L.map V.int).length : Nat) : Int) / ((i + 1 : Nat) : Int)) = (m : Nat) := by
          rw [List.length_map, hm, Int.natCast_mul, Int.mul_ediv_cancel_left _ (by omega)]
        refine ⟨_, rfl, t, _, rfl, .inr (sqT t2), _, rfl, _, _, rfl, rfl, ⟨by omega, by omega⟩, ?_⟩
        refine ⟨p, (m : Nat), _, rfl, congrArg V.int ek, sqT upd_same, fun z => hU (by simpa using z), by omega, by omega, by rw [List.length_map]; omega, fun q hq => ?_⟩
        rw [Int.toNat_natCast]
        have S3 := Same.new (o := .tup (List.replicate m ((L.take (i + 1)).map V.int)).flatten) hq
        have e3 : (List.replicate m ((L.take (i + 1)).map V.int)).flatten = ((List.replicate m (L.take (i + 1))).flatten).map V.int := by
          simp only [List.map_flatten, List.map_replicate]
        refine ⟨_, rfl, _, _, dp_tup (sqT (by rw [upd_same, e3])), dp_tup (sqT (S3 _ _ t2)), shaped_tup _, shaped_tup _, ?_⟩
        rw [eqv_tup]
        refine ⟨_, rfl, ite2 (fun c2 => ?_) (fun c2 => ?_)⟩
        · have c3 := of_decide_eq_true c2
          have t3 := S3 _ _ t2
          refine ⟨_, rfl, _, rfl, _, rfl, t, _, rfl, sqT t3, cut_to_not _ _ (by rw [List.length_map]; omega), fun p2 hp2 => ?_⟩
          rw [cut_to _ _ (by rw [List.length_map]; omega), ← List.map_take]
          refine k _ p2 (L.take (i + 1)) (((S.trans S2).trans S3).trans (Same.new hp2)) upd_same (small_of (fun x hx => List.mem_of_mem_take hx) lU hs) hU fun j => ?_
          rw [← cyc_rep (show 1 ≤ m by omega) hU j, c3]
        · exact ⟨_, rfl, (S.trans S2).trans S3⟩
      · exact ⟨_, rfl, S⟩
    · rintro σ H' ⟨v, rfl, S⟩
      exact ⟨_, rfl, k H' t L S (S _ _ ht) hs ne fun _ => rfl⟩
theorem split_last {T : List Int} (h : T ≠ []) : ∃ U e, T = U ++ [e] := ⟨T.dropLast, T.getLast h, (List.dropLast_concat_getLast h).symm⟩
theorem small_init {U : List Int} {e : Int} (s : Small (U ++ [e])) : Small U := small_of (fun x hx => List.mem_append_left _ hx) (by rw [List.length_append]; omega) s
theorem small_rot {U : List Int} {e : Int} (s : Small (U ++ [e])) : Small (e :: U) := small_of (fun x hx => by
  rcases List.mem_cons.mp hx with rfl | h
  · exact List.mem_append_right _ List.mem_cons_self
  · exact List.mem_append_left _ h) (by rw [List.length_append]; simp) s
theorem map_last (U : List Int) (e : Int) : (U ++ [e]).map V.int = U.map V.int ++ [V.int e] := by rw [List.map_append]; rfl
theorem sc_shortest : FnScope ["lead", "turn"] ["lead", "turn"] (defScope sShortest) := ⟨rfl, rfl, rfl, by decide +kernel, rfl, by decide +kernel, by decide +kernel⟩
def spShortest : Sp := fun vs H Q _ => ∃ (l t : Addr) (L T : List Int), vs = [.ref l, .ref t] ∧ H l = some (.tup (L.map V.int)) ∧ H t = some (.tup (T.map V.int)) ∧ Small L ∧ Small T ∧ T ≠ [] ∧ ∀ (H' : Hp) (p l' t' : Addr) (L' T' : List Int), Same H H' → H' p = some (.tup [.ref l', .ref t']) →
  H' l' = some (.tup (L'.map V.int)) → H' t' = some (.tup (T'.map V.int)) → Small L' → Small T' → T' ≠ [] → (∀ k, 1 ≤ k → parts L' T' k = parts L T k) → Q (.ref p) H'
theorem ok_shortest (T : Tx K mg) (h_shortest_loop : Df P w K mg base 1 "shortest_loop" ["turn"] spShortestLoop) : Df P w K mg base 2 "shortest" ["lead", "turn"] spShortest := by
  refine df_mk T.d_shortest T.g_shortest (fun _ _ _ _ _ _ us hl => match us, hl with | [_, _], _ => rfl) sc_shortest (fun vs H Q E h => ?_) (fun cdv A outer s H vs Q E hr h => ?_)
  · obtain ⟨l, t, L, R, rfl, _⟩ := h
    rfl
  · obtain ⟨l, t, L, R, rfl, hl, ht, sL, sR, ne, k⟩ := h
    refine ⟨_, (by exact (pss_cons (ps_set (i := 1) sc_shortest.nd rfl (Or.inl rfl) (pe_c h_shortest_loop hr (pa_cons (pv 1) pa_nil)))
      (pss_cons (ps_while PassesOwn.never (PW.pt (pw_and (pt_cmpR (op_neD hr.units) (pv 0) (pe_tup pa_nil) (nomark _)) (pw_and1 (pt_cmpR op_eq (pe_ix ix_tup (pv 0) (pe_un un_neg pe_int) (fun _ _ => rfl)) (pe_ix ix_tup (pv 1) (pe_un un_neg pe_int) (fun _ _ => rfl)) (nomark _)))))
      (pss_one (ps_par (i := 0) (j := 1) (by rfl) sc_shortest.nd rfl rfl (by decide) rfl rfl (pa_cons (pe_slice sl_tup (pv 0) po_none (po_some (pe_un un_neg pe_int))) (pa_cons (pe_tup (pa_cons (pe_ix ix_tup (pv 1) (pe_un un_neg pe_int) (fun _ _ => rfl)) (StX.pa_star (pe_slice sl_tup (pv 1) po_none (po_some (pe_un un_neg pe_int))) pa_nil))) pa_nil)) (by rfl))))
      (pss_one (ps_ret (pe_tup (pa_cons (pv 0) (pa_cons (pv 1) pa_nil)))))))), ?_⟩
    refine ⟨_, rfl, t, R, rfl, ht, sR, ne, fun H1 u U S1 e1 s1 n1 c1 => ?_⟩
    refine ⟨fun z σ H' => ∃ (l' t' : Addr) (L' T' : List Int), z = L'.length ∧ σ = [some (.ref l'), some (.ref t')] ∧ Same H H' ∧ H' l' = some (.tup (L'.map V.int)) ∧ H' t' = some (.tup (T'.map V.int)) ∧ Small L' ∧ Small T' ∧ T' ≠ [] ∧ ∀ k, 1 ≤ k → parts L' T' k = parts L R k,
      ⟨_, l, u, L, U, rfl, rfl, S1, S1 _ _ hl, e1, sL, s1, n1, fun k _ => ?_⟩, ?_⟩
    · rw [parts_cyc, parts_cyc, c1]
    · rintro z σ H' ⟨l', t', L', T', rfl, rfl, S, el, et, sl, st, nt, ep⟩
      refine ⟨_, rfl, (by show 0 ≤ sizeLine; decide), fun e he => ?_⟩
      have S0 := Same.new (o := .tup []) he
      refine ⟨_, _, dp_tup (sqT (S0 _ _ el)), dp_tup (ns := []) (sqT upd_same), shaped_tup _, shaped_tup [], ?_⟩
      by_cases nl : L' = []
      · subst nl
        refine ⟨false, rfl, iteF (iteF ?_)⟩
        exact ⟨_, rfl, _, rfl, (by show 2 ≤ sizeLine; decide), fun p hp => k _ p l' t' [] T' ((S.trans S0).trans (Same.new hp)) upd_same ((Same.new hp) _ _ (S0 _ _ el)) ((Same.new hp) _ _ (S0 _ _ et)) sl st nt ep⟩
      · rw [eqv_tup, decide_eq_false nl]
        refine ⟨true, rfl, iteT ?_⟩
        obtain ⟨L0, e, rfl⟩ := split_last nl
        obtain ⟨T0, f, rfl⟩ := split_last nt
        rw [map_last] at el et
        have el1 := S0 _ _ el
        have et1 := S0 _ _ et
        refine ⟨_, rfl, _, rfl, l', _, _, _, rfl, rfl, sqT el1, atI_last _ _, _, rfl, _, rfl, t', _, _, _, rfl, rfl, sqT et1, atI_last _ _, rfl, _, rfl, ite2 (fun c => ?_) (fun c => ?_)⟩
        · obtain rfl := V.int.inj (of_decide_eq_true c)
          refine ⟨fun σ' H2 => ∃ (l2 t2 : Addr), σ' = [some (.ref l2), some (.ref t2)] ∧ Same H H2 ∧ H2 l2 = some (.tup (L0.map V.int)) ∧ H2 t2 = some (.tup ((e :: T0).map V.int)), ?_, ?_⟩
          · rintro σ' H2 ⟨l2, t2, rfl, S2, f1, f2⟩
            exact ⟨_, by rw [List.length_append]; exact Nat.lt_succ_self _, l2, t2, L0, e :: T0, rfl, rfl, S2, f1, f2, small_init sl, small_rot st, List.cons_ne_nil _ _, fun k hk => (parts_pop L0 T0 e hk).trans (ep k hk)⟩
          · refine ⟨_, rfl, _, rfl, _, rfl, l', _, rfl, sqT el1, cut_last_not _ _, fun p hp => ?_⟩
            rw [cut_last]
            have S3 := Same.new (o := .tup (L0.map V.int)) hp
            have et2 := S3 _ _ et1
            refine ⟨_, rfl, _, rfl, t', _, _, _, rfl, rfl, sqT et2, atI_last _ _, _, rfl, _, rfl, _, rfl, t', _, rfl, sqT et2, cut_last_not _ _, fun q hq => ?_⟩
            rw [cut_last]
            have S4 := Same.new (o := .tup (T0.map V.int)) hq
            refine ⟨q, _, rfl, .inl (sqT upd_same), ?_, fun r hr2 => ?_⟩
            · show (V.int e :: (T0.map V.int ++ [])).length ≤ sizeLine
              have := st.1
              rw [List.length_append] at this
              rw [List.append_nil]
              simp only [List.length_cons, List.length_map]
              exact small (by omega)
            · refine ⟨_, _, rfl, _, _, rfl, (((S.trans S0).trans S3).trans S4).trans (Same.new hr2), (Same.new hr2) _ _ (S4 _ _ upd_same), ?_⟩
              rw [upd_same, List.append_nil]
              rfl
        · refine ⟨_, rfl, _, rfl, (by show 2 ≤ sizeLine; decide), fun p hp => k _ p l' t' _ _ ((S.trans S0).trans (Same.new hp)) upd_same ((Same.new hp) _ _ ?_) ((Same.new hp) _ _ ?_) sl st nt ep⟩
          · rw [map_last]
            exact el1
          · rw [map_last]
            exact et1
theorem str_few : ∀ n ∈ List.range 21, (toString ((n : Nat) : Int) : Str).length ≤ 2 := by decide +kernel
theorem str_small {i : Int} (h : 1 ≤ i ∧ i ≤ 20) : (toString i : Str).length ≤ 2 := by
  have := str_few i.toNat (List.mem_range.mpr (by omega))
  rwa [Int.toNat_of_nonneg (by omega)] at this
theorem log_small {i : Int} (h : 1 ≤ i ∧ i ≤ 20) : i.natAbs.log2 < 1920 := Nat.lt_of_lt_of_le (PySem.Flt.log2_lt_of (k := 5) (by decide) (by omega)) (by decide)
theorem sum_two : ∀ ys : List Str, (∀ y ∈ ys, y.length ≤ 2) → (ys.map (·.length)).sum ≤ 2 * ys.length
  | [], _ => Nat.le_refl _
  | y :: ys, h => by
    have h1 := h y List.mem_cons_self
    have h2 := sum_two ys fun x hx => h x (List.mem_cons_of_mem _ hx)
    rw [List.map_cons, List.sum_cons, List.length_cons]
    omega
theorem join_two {a : Str} (ha : a.length = 1) {ys : List Str} (h : ∀ y ∈ ys, y.length ≤ 2) (hl : ys.length ≤ 8) : (Txt.join a ys).length ≤ 100 := by
  have h2 := sum_two ys h
  show (Builtin.Str.glued a ys).length ≤ 100
  rw [StrLaws.glued_eq_join]
  cases ys with
  | nil => exact Nat.zero_le _
  | cons y ys =>
    rw [len_join_cons, ha]
    rw [List.length_cons] at hl h2
    omega
theorem sc_listed : FnScope ["numbers", "number"] ["numbers"] (defScope sListed) := ⟨rfl, rfl, rfl, by decide +kernel, rfl, by decide +kernel, by decide +kernel⟩
def spListed : Sp := fun vs H Q _ => ∃ (t : Addr) (T : List Int), vs = [.ref t] ∧ H t = some (.tup (T.map V.int)) ∧ Small T ∧ ∀ (H' : Hp) (s : Str), Same H H' → s.length ≤ 100 → Q (.str s) H'
theorem ok_listed (T : Tx K mg) : Df P w K mg base 1 "listed" ["numbers"] spListed := by
  refine df_mk T.d_listed T.g_listed (fun _ _ _ _ _ _ us hl => match us, hl with | [_], _ => rfl) sc_listed (fun vs H Q E h => ?_) (fun cdv A outer s H vs Q E hr h => ?_)
  · obtain ⟨t, L, rfl, _⟩ := h
    rfl
  · obtain ⟨t, L, rfl, ht, ⟨hl, hL⟩, k⟩ := h
    refine ⟨_, (by exact (pss_one (ps_ret (pe_join pe_str (pe_lc (own := [("number", 1)]) (g := gName 1) (tt := tYes) rfl sc_listed.nd (pi_tup (pv 0)) (blkOk_by (N := ["numbers", "number"]) (sc := defScope sListed) (by decide +kernel)) (fun _ _ _ _ _ => (pg_name (i := 1) sc_listed.nd rfl (Or.inl rfl))) (fun _ _ _ _ _ => pts_nil) (fun _ _ _ _ _ => (pe_callTy call_str_int (by rfl) T.b_str (by decide +kernel) (pa_cons (pv 1) pa_nil)))))))), ?_⟩
    refine ⟨⟨_, rfl⟩, _, rfl, t, rfl, ⟨_, sqT ht⟩, fun D hD => ?_⟩
    refine lc_tup (xs := L.map V.int) (fun i H' => Same H H' ∧ ∃ ys : List Str, H' D = some (.lst (ys.map V.str)) ∧ ys.length = i ∧ ∀ y ∈ ys, y.length ≤ 2) ⟨Same.new hD, [], upd_same, rfl, fun y hy => by cases hy⟩ (fun i H' _ ⟨S', _⟩ => sqT (S' _ _ ht)) ?_ ?_
    · rintro i y H' hi ⟨S', ys, e, l, hy⟩
      obtain ⟨n, hn, rfl⟩ := map_int hi
      have hn2 := hL n (List.mem_of_getElem? hn)
      have li : i < L.length := (List.getElem?_eq_some_iff.mp hn).1
      refine ⟨rfl, _, rfl, n, rfl, log_small hn2, _, e, by rw [List.length_map, l]; exact small1000 (by omega), Same.set S' hD, ys ++ [_], by rw [upd_same, List.map_append]; rfl, by rw [List.length_append, l]; rfl, fun z hz => ?_⟩
      rcases List.mem_append.mp hz with q | q
      · exact hy z q
      · rw [List.mem_singleton.mp q]
        exact str_small hn2
    · rintro H' ⟨S', ys, e, l, hy⟩
      rw [List.length_map] at l
      have h2 := sum_two ys hy
      refine ⟨_, D, ys, rfl, rfl, .inl (SqL.of e), ?_, k H' _ S' (join_two rfl hy (by omega))⟩
      show (ys.map (·.length)).sum + ys.length * 1 ≤ 16777216
      omega
/-- the parts of a slope that is made by a lead and a loop -/
def prt (L T : List Int) (k : Nat) : Int := parts L T (max k 1)
theorem ok_prt {L T : List Int} (sL : Small L) (sT : Small T) (ne : T ≠ []) : Ok (prt L T) := fun k => by
  unfold prt
  rw [parts_cyc]
  have get : ∀ (U : List Int) (j : Nat), j < U.length → Small U → 1 ≤ U.getD j 0 ∧ U.getD j 0 ≤ 20 := fun U j h s => by
    rw [List.getD_eq_getElem?_getD, List.getElem?_eq_getElem h]
    exact s.2 _ (List.getElem_mem h)
  split
  · exact get L _ (by omega) sL
  · exact get T _ (Nat.mod_lt _ (List.length_pos_iff.mpr ne)) sT
theorem sc_Slope_init : FnScope ["self", "lead", "loop", "some", "turn"] ["self", "lead", "loop"] (defScope sInit) := ⟨rfl, rfl, rfl, by decide +kernel, rfl, by decide +kernel, by decide +kernel⟩
def spInit (K : PySem.W.Frag) : Sp := fun vs H Q _ => ∃ (x dx l t : Addr) (L T : List Int), vs = [.ref x, .ref l, .ref t] ∧ H x = some (.ins (He.ga K "Slope") dx []) ∧ H l = some (.tup (L.map V.int)) ∧ H t = some (.tup (T.map V.int)) ∧ Small L ∧ Small T ∧ T ≠ [] ∧
  ∀ H' : Hp, But x H H' → SlopeAt K H' x (prt L T) → Q .non H'
theorem ok_init (T : Tx K mg) (h_check_lead : Df P w K mg base 3 "check_lead" ["lead"] spCheckLead) (h_check_loop : Df P w K mg base 3 "check_loop" ["turn"] spCheckLoop) (h_shortest : Df P w K mg base 2 "shortest" ["lead", "turn"] spShortest) (h_listed : Df P w K mg base 1 "listed" ["numbers"] spListed) :
    ∃ fd, FnOk P w K mg base CX0 4 (He.ma K (He.ga K "Slope") "__init__") fd ["self", "lead", "loop"] (spInit K) ∧ Binds K fd ["self", "lead", "loop"] [] := by
  obtain ⟨fd, F⟩ := T.m_init
  refine ⟨fd, F.ok sc_Slope_init (fun vs H Q E h => ?_) fun cdv A outer s H vs Q E hr h => ?_, F.bindsN (fun _ _ _ _ _ _ us hl => match us, hl with | [_, _, _], _ => rfl)⟩
  · obtain ⟨x, dx, l, t, L, R, rfl, _⟩ := h
    rfl
  · obtain ⟨x, dx, l, t, L, R, rfl, hx, hl, ht, sL, sR, ne, k⟩ := h
    refine ⟨_, PSs.nox (by exact (pss_cons (ps_expr (pe_c h_check_lead hr (pa_cons (pv 1) pa_nil)))
      (pss_cons (ps_expr (pe_c h_check_loop hr (pa_cons (pv 2) pa_nil)))
      (pss_cons (ps_asg (pe_c h_shortest hr (pa_cons (pv 1) (pa_cons (pv 2) pa_nil))) (pg_tup (by rfl) (pgs_cons (pg_name (i := 3) sc_Slope_init.nd rfl (Or.inl rfl)) (pgs_cons (pg_name (i := 4) sc_Slope_init.nd rfl (Or.inl rfl)) pgs_nil))))
      (pss_cons (ps_fld (pv 0) (pe_tup (pa_cons (pv 3) (pa_cons (pv 4) pa_nil))) rfl)
      (pss_one (ps_fld (pv 0) (pe_op op_add_str (pe_op op_add_str (pe_c h_listed hr (pa_cons (pv 3) pa_nil)) pe_str) (pe_c h_listed hr (pa_cons (pv 4) pa_nil))) rfl))))))), ?_⟩
    refine ⟨_, rfl, l, L, rfl, hl, sL, fun H1 S1 => ?_⟩
    refine ⟨_, rfl, t, R, rfl, S1 _ _ ht, sR, ne, fun H2 S2 => ?_⟩
    have S12 := S1.trans S2
    refine ⟨_, rfl, _, rfl, l, t, L, R, rfl, S12 _ _ hl, S12 _ _ ht, sL, sR, ne, fun H3 p l' t' L' T' S3 ep el et sl st nt eq => ?_⟩
    refine ⟨p, _, rfl, sqT ep, rfl, _, _, rfl, _, _, rfl, rfl, ?_⟩
    refine ⟨_, rfl, _, rfl, (by show 2 ≤ sizeLine; decide), fun q hq => ?_⟩
    have S4 := Same.new (o := .tup [.ref l', .ref t']) hq
    have B4 : Same H (upd H3 q (.tup [.ref l', .ref t'])) := (S12.trans S3).trans S4
    refine ⟨_, rfl, x, _, dx, [], rfl, B4 _ _ hx, T.cls, T.nH, by decide, ?_⟩
    have nt1 : ∀ {G : Hp} {b : Addr} {xs : List V} {fs : List (Str × V)}, G b = some (.tup xs) → G x = some (.ins (He.ga K "Slope") dx fs) → b ≠ x := fun e1 e2 => ne_of e1 e2 (fun z => nomatch z)
    have hx4 := B4 _ _ hx
    have q5 : ∀ {b : Addr} {xs : List V} (o : HO), (upd H3 q (.tup [.ref l', .ref t'])) b = some (.tup xs) → (upd (upd H3 q (.tup [.ref l', .ref t'])) x o) b = some (.tup xs) := fun o e => by
      rw [upd_ne (nt1 e hx4)]
      exact e
    refine ⟨_, rfl, l', L', rfl, q5 _ (S4 _ _ el), sl, fun H6 s1 S6 z1 => ?_⟩
    refine ⟨s1, _, rfl, rfl, small (by show s1.length + 1 ≤ 1000; omega), ?_⟩
    refine ⟨_, rfl, t', T', rfl, S6 _ _ (q5 _ (S4 _ _ et)), st, fun H7 s2 S7 z2 => ?_⟩
    refine ⟨_, s2, rfl, rfl, small (by rw [PySem.Str.length_append]; show s1.length + 1 + s2.length ≤ 1000; omega), ?_⟩
    have S67 := S6.trans S7
    refine ⟨_, rfl, x, _, dx, _, rfl, S67 _ _ upd_same, T.cls, T.nW, by show 1 < 1000; decide, ?_⟩
    have hx7 := S67 _ _ (upd_same (a := x) (H := upd H3 q (.tup [.ref l', .ref t'])) (o := .ins (He.ga K "Slope") dx (putF "held" (V.ref q) [])))
    have q7 : ∀ {b : Addr} {xs : List V} (o : HO), (upd H3 q (.tup [.ref l', .ref t'])) b = some (.tup xs) → (upd H7 x o) b = some (.tup xs) := fun o e => by
      have e7 := S67 _ _ (q5 _ e)
      rw [upd_ne (nt1 e7 hx7)]
      exact e7
    refine k _ (((But.of B4).set.same S67).set) ⟨⟨dx, q, l', t', _, L', T', upd_same, rfl, rfl, q7 _ upd_same, q7 _ (S4 _ _ el), q7 _ (S4 _ _ et), nt, fun k hk => ?_⟩, ok_prt sL sR ne⟩
    unfold prt
    rw [Nat.max_eq_left hk]
    exact eq k hk
end
end K33
set_option maxHeartbeats 0
namespace K33
open PySem PySem.Spec PyProof.Rows L2
theorem qq_bits {a : Nat → Int} (ha : Ok a) : ∀ k, qq a k < 2 ^ (5 * k + 1)
  | 0 => by
    rw [qq_zero]
    decide
  | k + 1 => by
    have h1 := qq_bits ha k
    have h2 := qq_up ha k
    have e : (2 : Int) ^ (5 * (k + 1) + 1) = 32 * 2 ^ (5 * k + 1) := by
      rw [show 5 * (k + 1) + 1 = 5 + (5 * k + 1) by omega, Int.pow_add]
      rfl
    have h3 : (0 : Int) < 2 ^ (5 * k + 1) := Int.pow_pos (by decide)
    omega
theorem abs_lt {i : Int} {b : Nat} (h0 : 0 ≤ i) (h : i < 2 ^ b) : i.natAbs < 2 ^ b := by
  have e : ((i.natAbs : Nat) : Int) = i := by omega
  have h2 : ((i.natAbs : Nat) : Int) < ((2 ^ b : Nat) : Int) := by
    rw [e, Int.natCast_pow]
    exact h
  exact Int.ofNat_lt.mp h2
section
variable {P : Program} {w : World} {K : PySem.W.Frag} {mg : Str → Option Value} {base : Heap}
theorem sc_multiple_at : FnScope ["slope", "many", "some", "place"] ["slope", "many"] (defScope sMultipleAt) := ⟨rfl, rfl, rfl, by decide +kernel, rfl, by decide +kernel, by decide +kernel⟩
def spMultiple (K : PySem.W.Frag) : Sp := fun vs H Q _ => ∃ (x : Addr) (a : Nat → Int) (N : Int) (n : Nat), vs = [.ref x, .int N] ∧ SlopeAt K H x a ∧ IsLen a N n ∧ n ≤ 300 ∧ 1 ≤ N ∧ N ≤ 10 ^ 30 ∧ ∀ (H' : Hp) (m : Nat), Same H H' → m % 2 = 0 → n + 1 ≤ m → Q (.int (N * pp a m / qq a m)) H'
theorem ok_multiple_at (T : Tx K mg) (h_neighbours_past : Df P w K mg base 2 "neighbours_past" ["slope", "bottom"] (spNeighboursPast K)) : Df P w K mg base 3 "multiple_at" ["slope", "many"] (spMultiple K) := by
  refine df_mk T.d_multiple_at T.g_multiple_at (fun _ _ _ _ _ _ us hl => match us, hl with | [_, _], _ => rfl) sc_multiple_at (fun vs H Q E h => ?_) (fun cdv A outer s H vs Q E hr h => ?_)
  · obtain ⟨x, a, N, n, rfl, _⟩ := h
    rfl
  · obtain ⟨x, a, N, n, rfl, S, hb, hn, h1, h30, k⟩ := h
    have ha := S.ok
    have n1 := hb.zero ha h1
    refine ⟨_, (by exact (pss_cons (ps_if (pt_cmpR op_lt (pv 1) pe_int (nomark _))
      (pss_one ps_never)
      pss_nil)
      (pss_cons (ps_set (i := 2) sc_multiple_at.nd rfl (Or.inl rfl) (pe_c h_neighbours_past hr (pa_cons (pv 0) (pa_cons (pv 1) pa_nil))))
      (pss_cons (ps_set (i := 3) sc_multiple_at.nd rfl (Or.inl rfl) (pe_ifExp (pt_cmpR op_eq (pe_op op_mod (pe_callB call_len_seq (by rfl) T.b_len (by decide +kernel) (pa_cons (pv 2) pa_nil)) pe_int) pe_int (nomark _)) (pe_op op_sub (pe_callB call_len_seq (by rfl) T.b_len (by decide +kernel) (pa_cons (pv 2) pa_nil)) pe_int) (pe_op op_sub (pe_callB call_len_seq (by rfl) T.b_len (by decide +kernel) (pa_cons (pv 2) pa_nil)) pe_int)))
      (pss_one (ps_ret (pe_op op_fdivW (pe_op op_mulW (pv 1) (pe_ix ix_tup (pe_ix ix_list (pv 2) (pv 3) (fun _ _ => rfl)) pe_int (fun _ _ => rfl))) (pe_ix ix_tup (pe_ix ix_list (pv 2) (pv 3) (fun _ _ => rfl)) pe_int (fun _ _ => rfl))))))))), ?_⟩
    refine ⟨_, rfl, _, _, rfl, rfl, _, rfl, ite2 (fun c => ?_) (fun c => ?_)⟩
    · have c' := of_decide_eq_true c
      omega
    · refine ⟨_, rfl, _, rfl, x, a, N, n, rfl, S, hb, hn, fun H1 l S1 hl NB => ?_⟩
      obtain ⟨xs0, c0, f1, f2, f3, f4⟩ := NB.get (Nat.zero_le _)
      obtain ⟨m, hm, hm2, hm3, hm4⟩ : ∃ m : Nat, m % 2 = 0 ∧ n + 1 ≤ m ∧ m ≤ max n 1 + 2 ∧ ((xs0.length % 2 = 1 ∧ xs0.length = m + 1) ∨ (xs0.length % 2 = 0 ∧ xs0.length = m + 2)) := by
        by_cases q : xs0.length % 2 = 1
        · exact ⟨xs0.length - 1, by omega, by omega, by omega, .inl ⟨q, by omega⟩⟩
        · exact ⟨xs0.length - 2, by omega, by omega, by omega, .inr ⟨by omega, by omega⟩⟩
      obtain ⟨xs, p, e1, e2, e3, e4⟩ := NB.get hm3
      obtain rfl : xs0 = xs := by
        have := f1.symm.trans e1
        injection this with this
        injection this
      refine ⟨_, rfl, l, _, rfl, .inl (SqL.of e1), _, _, rfl, rfl, by omega, rfl, _, rfl, ?_⟩
      have q1m := q1 ha m
      have qb := qq_bits ha m
      have pb : (pp a m).natAbs < 2 ^ (5 * m + 1) := abs_lt (p0 ha m) (Int.lt_of_le_of_lt (pq ha m) qb)
      have cm : CMulW N (pp a m) := wide_mul (bits (by omega) h30) pb (by decide) (by omega) (by omega)
      have cd : CDivW (N * pp a m) (qq a m) := wide_div (by omega) (abs_lt (by omega) qb) (by omega) (by omega)
      have ixm : atI xs0 (m : Int) = some (.ref p) := at_up e3
      refine ite2 (fun c => ?_) (fun c => ?_)
      · have c' := V.int.inj (of_decide_eq_true c)
        have em : (xs0.length : Int) - 1 = (m : Nat) := by omega
        rw [← em] at ixm
        exact ⟨_, rfl, l, _, rfl, .inl (SqL.of e1), _, _, rfl, rfl, _, rfl, _, rfl, _, rfl, l, _, _, _, rfl, rfl, SqL.of e1, ixm, p, _, _, _, rfl, rfl, sqT e4, rfl, _, _, rfl, rfl, cm, _, rfl, _, rfl, l, _, _, _, rfl, rfl, SqL.of e1, ixm, p, _, _, _, rfl, rfl, sqT e4, rfl, _, _, rfl, rfl, cd, k _ m S1 hm hm2⟩
      · have c' : ¬ ((xs0.length : Int) % 2 = 1) := fun z => c (decide_eq_true (congrArg V.int z))
        have em : (xs0.length : Int) - 2 = (m : Nat) := by omega
        rw [← em] at ixm
        exact ⟨_, rfl, l, _, rfl, .inl (SqL.of e1), _, _, rfl, rfl, _, rfl, _, rfl, _, rfl, l, _, _, _, rfl, rfl, SqL.of e1, ixm, p, _, _, _, rfl, rfl, sqT e4, rfl, _, _, rfl, rfl, cm, _, rfl, _, rfl, l, _, _, _, rfl, rfl, SqL.of e1, ixm, p, _, _, _, rfl, rfl, sqT e4, rfl, _, _, rfl, rfl, cd, k _ m S1 hm hm2⟩
/-- the place behind which all bottoms are above that with this place -/
theorem len_at {a : Nat → Int} (ha : Ok a) {k : Nat} (h1 : 1 ≤ k) : IsLen a (qq a k) (k + 1) := ⟨fun j hj => qq_mono ha (by omega), fun j hj => qq_lt ha h1 (by omega)⟩
theorem qq_seven {a : Nat → Int} (ha : Ok a) {k : Nat} (h : k ≤ 7) : qq a k ≤ 2 ^ 36 := by
  have h1 := qq_mono ha h
  have h2 := qq_bits ha 7
  have : (2 : Int) ^ (5 * 7 + 1) = 2 ^ 36 := rfl
  omega
def wh (a : Nat → Int) (k : Nat) : Int := if k % 2 = 0 then pp a k else pp a k - 1
theorem sc_whole_at : FnScope ["slope", "point"] ["slope", "point"] (defScope sWholeAt) := ⟨rfl, rfl, rfl, by decide +kernel, rfl, by decide +kernel, by decide +kernel⟩
def spWhole (K : PySem.W.Frag) : Sp := fun vs H Q _ => ∃ (x p : Addr) (a : Nat → Int) (u : Int) (k : Nat), vs = [.ref x, .ref p] ∧ SlopeAt K H x a ∧ H p = some (.tup [.int u, .int (qq a k)]) ∧ 1 ≤ k ∧ k ≤ 7 ∧ ∀ H' : Hp, Same H H' → Q (.int (u + wh a k)) H'
theorem ok_whole_at (T : Tx K mg) (h_multiple_at : Df P w K mg base 3 "multiple_at" ["slope", "many"] (spMultiple K)) : Df P w K mg base 4 "whole_at" ["slope", "point"] (spWhole K) := by
  refine df_mk T.d_whole_at T.g_whole_at (fun _ _ _ _ _ _ us hl => match us, hl with | [_, _], _ => rfl) sc_whole_at (fun vs H Q E h => ?_) (fun cdv A outer s H vs Q E hr h => ?_)
  · obtain ⟨x, p, a, u, k, rfl, _⟩ := h
    rfl
  · obtain ⟨x, p, a, u, k, rfl, S, hp, h1, h7, q⟩ := h
    have ha := S.ok
    refine ⟨_, (by exact (pss_one (ps_ret (pe_op op_add (pe_ix ix_tup (pv 1) pe_int (fun _ _ => rfl)) (pe_ifExp (pt_cmpR op_ne (pe_ix ix_tup (pv 1) pe_int (fun _ _ => rfl)) pe_int (nomark _)) (pe_c h_multiple_at hr (pa_cons (pv 0) (pa_cons (pe_ix ix_tup (pv 1) pe_int (fun _ _ => rfl)) pa_nil))) pe_int))))), ?_⟩
    have q1k := q1 ha k
    refine ⟨_, rfl, p, _, _, _, rfl, rfl, sqT hp, rfl, _, rfl, p, _, _, _, rfl, rfl, sqT hp, rfl, rfl, _, rfl, ite2 (fun c => ?_) (fun c => ?_)⟩
    · have q7 := qq_seven ha h7
      refine ⟨_, rfl, _, rfl, p, _, _, _, rfl, rfl, sqT hp, rfl, x, a, qq a k, k + 1, rfl, S, len_at ha h1, by omega, q1k, by omega, fun H' m S' e2 hm => ?_⟩
      refine ⟨_, _, rfl, rfl, ?_⟩
      have e := whole1 ha h1 (m := m) (by omega)
      exact q_of (Q := Q) (congrArg (fun z => V.int (u + z)) e) (q _ S')
    · refine absurd (show (!decide (V.int (qq a k) = V.int 0)) = true from ?_) c
      rw [decide_eq_false (fun z => by have := V.int.inj z; omega)]
      rfl
theorem sc_sign_at : FnScope ["slope", "point"] ["slope", "point"] (defScope sSignAt) := ⟨rfl, rfl, rfl, by decide +kernel, rfl, by decide +kernel, by decide +kernel⟩
def spSign (K : PySem.W.Frag) : Sp := fun vs H Q _ => ∃ (x p : Addr) (a : Nat → Int) (u : Int) (k : Nat), vs = [.ref x, .ref p] ∧ SlopeAt K H x a ∧ H p = some (.tup [.int u, .int (qq a k)]) ∧ 1 ≤ k ∧ k ≤ 7 ∧ ∀ H' : Hp, Same H H' → Q (.int (if 0 ≤ u + wh a k then 1 else -1)) H'
theorem ok_sign_at (T : Tx K mg) (h_whole_at : Df P w K mg base 4 "whole_at" ["slope", "point"] (spWhole K)) : Df P w K mg base 5 "sign_at" ["slope", "point"] (spSign K) := by
  refine df_mk T.d_sign_at T.g_sign_at (fun _ _ _ _ _ _ us hl => match us, hl with | [_, _], _ => rfl) sc_sign_at (fun vs H Q E h => ?_) (fun cdv A outer s H vs Q E hr h => ?_)
  · obtain ⟨x, p, a, u, k, rfl, _⟩ := h
    rfl
  · obtain ⟨x, p, a, u, k, rfl, S, hp, h1, h7, q⟩ := h
    have ha := S.ok
    have q1k := q1 ha k
    refine ⟨_, (by exact (pss_cons (ps_if (pt_cmpR (op_eqD hr.units) (pv 1) (pe_tup (pa_cons pe_int (pa_cons pe_int pa_nil))) (nomark _))
      (pss_one (ps_ret pe_int))
      pss_nil)
      (pss_one (ps_ret (pe_ifExp (pt_cmpR op_ge (pe_c h_whole_at hr (pa_cons (pv 0) (pa_cons (pv 1) pa_nil))) pe_int (nomark _)) pe_int (pe_un un_neg pe_int)))))), ?_⟩
    refine ⟨_, rfl, (by show 2 ≤ sizeLine; decide), fun e he => ?_⟩
    have S0 := Same.new (o := .tup [.int 0, .int 0]) he
    refine ⟨_, _, dp_tup (ns := [u, qq a k]) (sqT (S0 _ _ hp)), dp_tup (ns := [0, 0]) (sqT upd_same), shaped_tup _, shaped_tup _, ?_⟩
    rw [eqv_tup, decide_eq_false (fun z => by
      injection z with _ z
      injection z with z _
      omega)]
    refine ⟨false, rfl, iteF ?_⟩
    refine ⟨_, rfl, _, rfl, x, p, a, u, k, rfl, S.same S0, S0 _ _ hp, h1, h7, fun H' S' => ⟨_, _, rfl, rfl, _, rfl, ?_⟩⟩
    have q' := q _ (S0.trans S')
    refine ite2 (fun c => ?_) (fun c => ?_)
    · rw [if_pos (of_decide_eq_true c)] at q'
      exact q'
    · rw [if_neg (fun z => c (decide_eq_true z))] at q'
      exact ⟨_, rfl, q'⟩
theorem sc_distance_at : FnScope ["slope", "many", "top"] ["slope", "many"] (defScope sDistanceAt) := ⟨rfl, rfl, rfl, by decide +kernel, rfl, by decide +kernel, by decide +kernel⟩
def spDistance (K : PySem.W.Frag) : Sp := fun vs H Q _ => ∃ (x : Addr) (a : Nat → Int) (k : Nat), vs = [.ref x, .int (qq a k)] ∧ SlopeAt K H x a ∧ 1 ≤ k ∧ k ≤ 7 ∧ ∀ (H' : Hp) (p : Addr), Same H H' → H' p = some (.tup (if k % 2 = 0 then [.int (- pp a k), .int (qq a k)] else [.int (pp a k), .int (- qq a k)])) → Q (.ref p) H'
theorem IsLen.more {a : Nat → Int} {N : Int} {n k : Nat} (x : IsLen a N n) (h : qq a k ≤ N) : k < n := by
  by_cases q : k < n
  · exact q
  · have := x.over k (by omega)
    omega
theorem ok_distance_at (T : Tx K mg) (h_multiple_at : Df P w K mg base 3 "multiple_at" ["slope", "many"] (spMultiple K)) (h_sign_at : Df P w K mg base 5 "sign_at" ["slope", "point"] (spSign K)) : Df P w K mg base 6 "distance_at" ["slope", "many"] (spDistance K) := by
  refine df_mk T.d_distance_at T.g_distance_at (fun _ _ _ _ _ _ us hl => match us, hl with | [_, _], _ => rfl) sc_distance_at (fun vs H Q E h => ?_) (fun cdv A outer s H vs Q E hr h => ?_)
  · obtain ⟨x, a, k, rfl, _⟩ := h
    rfl
  · obtain ⟨x, a, k, rfl, S, h1, h7, q⟩ := h
    have ha := S.ok
    have q1k := q1 ha k
    have q7 := qq_seven ha h7
    obtain ⟨n, hn, hb⟩ := IsLen.small ha (N := 2 * qq a k) (by omega)
    have hk := hb.more (k := k) (by omega)
    refine ⟨_, (by exact (pss_cons (ps_set (i := 2) sc_distance_at.nd rfl (Or.inl rfl) (pe_op op_fdiv (pe_op op_add (pe_c h_multiple_at hr (pa_cons (pv 0) (pa_cons (pe_op op_mul pe_int (pv 1)) pa_nil))) pe_int) pe_int))
      (pss_one (ps_ret (pe_ifExp (pt_cmpR op_gt (pe_c h_sign_at hr (pa_cons (pv 0) (pa_cons (pe_tup (pa_cons (pe_un un_neg (pv 2)) (pa_cons (pv 1) pa_nil))) pa_nil))) pe_int (nomark _)) (pe_tup (pa_cons (pe_un un_neg (pv 2)) (pa_cons (pv 1) pa_nil))) (pe_tup (pa_cons (pv 2) (pa_cons (pe_un un_neg (pv 1)) pa_nil)))))))), ?_⟩
    refine ⟨_, rfl, _, rfl, _, _, rfl, rfl, .inl (by omega), x, a, 2 * qq a k, n, rfl, S, hb, by omega, by omega, by omega, fun H1 m S1 e2 hm => ?_⟩
    rw [whole2 ha h1 (m := m) (by omega)]
    refine ⟨_, _, rfl, rfl, _, _, rfl, rfl, ⟨by omega, by omega⟩, ?_⟩
    have et : ((if k % 2 = 0 then 2 * pp a k else 2 * pp a k - 1) + 1) / 2 = pp a k := by
      split <;> omega
    dsimp only
    rw [et]
    refine ⟨_, rfl, _, rfl, _, rfl, _, rfl, (by show 2 ≤ sizeLine; decide), fun e he => ?_⟩
    have S2 := Same.new (o := .tup [.int (- pp a k), .int (qq a k)]) he
    refine ⟨x, e, a, - pp a k, k, rfl, S.same (S1.trans S2), upd_same, h1, h7, fun H3 S3 => ⟨_, _, rfl, rfl, _, rfl, ?_⟩⟩
    have S4 := (S1.trans S2).trans S3
    have ev : (if 0 ≤ -pp a k + wh a k then (1 : Int) else -1) = if k % 2 = 0 then 1 else -1 := by
      unfold wh
      by_cases z : k % 2 = 0
      · rw [if_pos z, if_pos z, if_pos (by omega)]
      · rw [if_neg z, if_neg z, if_neg (by omega)]
    rw [ev]
    by_cases z : k % 2 = 0
    · rw [if_pos z] at q ⊢
      refine iteT ⟨_, rfl, _, rfl, _, rfl, (by show 2 ≤ sizeLine; decide), fun p hp => q _ p (S4.trans (Same.new hp)) upd_same⟩
    · rw [if_neg z] at q ⊢
      refine iteF ⟨_, rfl, _, rfl, _, rfl, (by show 2 ≤ sizeLine; decide), fun p hp => q _ p (S4.trans (Same.new hp)) upd_same⟩
theorem sc_distance : FnScope ["slope", "many"] ["slope", "many"] (defScope sDistance) := ⟨rfl, rfl, rfl, by decide +kernel, rfl, by decide +kernel, by decide +kernel⟩
theorem ok_distance (T : Tx K mg) (h_check_slope : Df P w K mg base 1 "check_slope" ["value"] (spCheckSlope K)) (h_check_many : Df P w K mg base 3 "check_many" ["value"] (spChk 1 (10 ^ 30))) (h_distance_at : Df P w K mg base 6 "distance_at" ["slope", "many"] (spDistance K)) : Df P w K mg base 7 "distance" ["slope", "many"] (spDistance K) := by
  refine df_mk T.d_distance T.g_distance (fun _ _ _ _ _ _ us hl => match us, hl with | [_, _], _ => rfl) sc_distance (fun vs H Q E h => ?_) (fun cdv A outer s H vs Q E hr h => ?_)
  · obtain ⟨x, a, k, rfl, _⟩ := h
    rfl
  · obtain ⟨x, a, k, rfl, S, h1, h7, q⟩ := h
    have q1k := q1 S.ok k
    have q7 := qq_seven S.ok h7
    refine ⟨_, (by exact (pss_cons (ps_expr (pe_c h_check_slope hr (pa_cons (pv 0) pa_nil)))
      (pss_cons (ps_expr (pe_c h_check_many hr (pa_cons (pv 1) pa_nil)))
      (pss_one (ps_ret (pe_c h_distance_at hr (pa_cons (pv 0) (pa_cons (pv 1) pa_nil)))))))), ?_⟩
    exact ⟨_, rfl, x, a, rfl, S, _, rfl, _, rfl, by omega, by omega, _, rfl, _, rfl, x, a, k, rfl, S, h1, h7, q⟩
end
end K33
set_option maxHeartbeats 0
namespace K33
open PySem PySem.Spec PyProof.Rows L2
theorem flat_map_int : ∀ ns : List Int, (ns.map V.int).all flatV = true
  | [] => rfl
  | n :: ns => by
    rw [List.map_cons, List.all_cons, flat_map_int ns]
    rfl
theorem inV_int (i : Int) (ns : List Int) : inV (.int i) (ns.map V.int) = decide (i ∈ ns) := by
  unfold inV
  rw [List.any_map]
  induction ns with
  | nil => rfl
  | cons n ns ih =>
    rw [List.any_cons, ih]
    show (eqV (.int n) (.int i) || _) = _
    have e : eqV (.int n) (.int i) = decide (n = i) := by
      show (decide (n = i)) = decide (n = i)
      rfl
    rw [e]
    by_cases h : n = i
    · subst h
      simp
    · have h' : ¬ i = n := fun z => h z.symm
      simp [h, h']
theorem lows_mem {a : Nat → Int} {n k : Nat} (h : k < n) : qq a k ∈ lows a n := List.mem_of_getElem? (lows_get h)
section
variable {P : Program} {w : World} {K : PySem.W.Frag} {mg : Str → Option Value} {base : Heap}
theorem sc_records_to : FnScope ["slope", "bound", "bottoms", "p", "q"] ["slope", "bound"] (defScope sRecordsTo) := ⟨rfl, rfl, rfl, by decide +kernel, rfl, by decide +kernel, by decide +kernel⟩
def spRecordsTo (K : PySem.W.Frag) : Sp := fun vs H Q _ => ∃ (x : Addr) (a : Nat → Int) (N : Int) (n : Nat), vs = [.ref x, .int N] ∧ SlopeAt K H x a ∧ IsLen a N n ∧ n < 64 ∧ ∀ (H' : Hp) (p : Addr) (ns : List Int), Same H H' → ns.Pairwise (· < ·) → (∀ j, j ∈ ns ↔ j ∈ lows a n) → ns.length ≤ n → H' p = some (.lst (ns.map V.int)) → Q (.ref p) H'
theorem ok_records_to (T : Tx K mg) (h_neighbours_past : Df P w K mg base 2 "neighbours_past" ["slope", "bottom"] (spNeighboursPast K)) : Df P w K mg base 3 "records_to" ["slope", "bound"] (spRecordsTo K) := by
  refine df_mk T.d_records_to T.g_records_to (fun _ _ _ _ _ _ us hl => match us, hl with | [_, _], _ => rfl) sc_records_to (fun vs H Q E h => ?_) (fun cdv A outer s H vs Q E hr h => ?_)
  · obtain ⟨x, a, N, n, rfl, _⟩ := h
    rfl
  · obtain ⟨x, a, N, n, rfl, S, hb, hn, k⟩ := h
    have ha := S.ok
    refine ⟨_, (by exact (pss_cons (ps_setLc (i := 2) (own := [("p", 3), ("q", 4)]) (g := gTup K 2 (gCons (gName 3) (gCons (gName 4) (gNil)))) rfl sc_records_to.nd rfl rfl (sw_true rfl rfl rfl (by decide +kernel)) (pi_list (pe_c h_neighbours_past hr (pa_cons (pv 0) (pa_cons (pv 1) pa_nil)))) (blkOk_by (N := ["slope", "bound", "bottoms", "p", "q"]) (sc := defScope sRecordsTo) (by decide +kernel)) (fun _ _ _ _ _ => (pg_tup (by rfl) (pgs_cons (pg_name (i := 3) sc_records_to.nd rfl (Or.inl rfl)) (pgs_cons (pg_name (i := 4) sc_records_to.nd rfl (Or.inl rfl)) pgs_nil)))) (fun _ _ _ _ _ => (pts_one (pt_cmpR op_le (pv 4) (pv 1) (nomark _)))) (fun _ _ _ _ _ => (pv 4)))
      (pss_one (ps_ret (pe_callB (cr_sortedSet rfl) (by rfl) T.b_sorted (by decide +kernel) (pa_cons (pe_callTy (cr_setI rfl) (by rfl) T.b_set (by decide +kernel) (pa_cons (pv 2) pa_nil)) pa_nil)))))), ?_⟩
    refine ⟨_, rfl, _, rfl, x, a, N, n, rfl, S, hb, by omega, fun H1 l S1 hl NB => ?_⟩
    obtain ⟨as, a1, a2, a3⟩ := NB
    refine ⟨l, rfl, ⟨_, SqL.of a1⟩, fun D hD => ?_⟩
    refine lc_list (xs := as.map V.ref) (fun i H' => Same H1 H' ∧ H' D = some (.lst ((lows a (min n i)).map V.int))) ⟨Same.new hD, by rw [upd_same, show min n 0 = 0 by omega]; rfl⟩ (fun i H' _ ⟨S', _⟩ => S'.seq (SqL.of a1)) ?_ ?_
    · rintro i y H' hi ⟨S', e⟩
      obtain ⟨q, hq, rfl⟩ := map_ref hi
      have li : i < as.length := (List.getElem?_eq_some_iff.mp hq).1
      obtain ⟨q', hq', e2⟩ := a3 i (by omega)
      obtain rfl : q = q' := Option.some.inj (hq.symm.trans hq')
      refine ⟨q, _, rfl, sqT (S' _ _ e2), rfl, _, _, rfl, _, _, rfl, rfl, rfl, _, rfl, _, rfl, _, _, rfl, rfl, _, rfl, ?_⟩
      have st := lows_step (i := i) hb
      refine ite2 (fun c => ?_) (fun c => ?_)
      · rw [if_pos c] at st
        refine ⟨_, rfl, _, e, by rw [List.length_map, lows_len]; exact small1000 (by omega), Same.set S' hD, ?_⟩
        rw [upd_same, ← st, List.map_append]
        rfl
      · rw [if_neg c] at st
        exact ⟨S', by rw [← st]; exact e⟩
    · rintro H2 ⟨S2, e2⟩
      have hlen : (as.map V.ref).length = max n 1 + 3 := by rw [List.length_map, a2]
      rw [hlen, show min n (max n 1 + 3) = n by omega] at e2
      refine ⟨_, rfl, D, lows a n, rfl, SqL.of e2, by rw [lows_len]; omega, fun p c hp hc => ?_⟩
      rw [lows_len] at hc
      refine ⟨p, _, c, rfl, upd_same, by omega, fun ns q asc mem len hq => ?_⟩
      exact k _ q ns (((S1.trans S2).trans (Same.new hp)).trans (Same.new hq)) asc (fun j => (mem j).trans decide_eq_true_iff) (by omega) upd_same
theorem sc_is_record : FnScope ["slope", "many"] ["slope", "many"] (defScope sIsRecord) := ⟨rfl, rfl, rfl, by decide +kernel, rfl, by decide +kernel, by decide +kernel⟩
def spIsRecord (K : PySem.W.Frag) : Sp := fun vs H Q _ => ∃ (x : Addr) (a : Nat → Int) (k : Nat), vs = [.ref x, .int (qq a k)] ∧ SlopeAt K H x a ∧ 1 ≤ k ∧ k ≤ 7 ∧ ∀ H' : Hp, Same H H' → Q (.bl true) H'
theorem ok_is_record (T : Tx K mg) (h_check_slope : Df P w K mg base 1 "check_slope" ["value"] (spCheckSlope K)) (h_check_many : Df P w K mg base 3 "check_many" ["value"] (spChk 1 (10 ^ 30))) (h_records_to : Df P w K mg base 3 "records_to" ["slope", "bound"] (spRecordsTo K)) : Df P w K mg base 4 "is_record" ["slope", "many"] (spIsRecord K) := by
  refine df_mk T.d_is_record T.g_is_record (fun _ _ _ _ _ _ us hl => match us, hl with | [_, _], _ => rfl) sc_is_record (fun vs H Q E h => ?_) (fun cdv A outer s H vs Q E hr h => ?_)
  · obtain ⟨x, a, k, rfl, _⟩ := h
    rfl
  · obtain ⟨x, a, k, rfl, S, h1, h7, q⟩ := h
    have q1k := q1 S.ok k
    have q7 := qq_seven S.ok h7
    refine ⟨_, (by exact (pss_cons (ps_expr (pe_c h_check_slope hr (pa_cons (pv 0) pa_nil)))
      (pss_cons (ps_expr (pe_c h_check_many hr (pa_cons (pv 1) pa_nil)))
      (pss_one (ps_ret (pe_cmpR op_in_seq (pv 1) (pe_c h_records_to hr (pa_cons (pv 0) (pa_cons (pv 1) pa_nil))) (by with_unfolding_all rfl))))))), ?_⟩
    refine ⟨_, rfl, x, a, rfl, S, _, rfl, _, rfl, by omega, by omega, _, rfl, _, rfl, _, rfl, x, a, _, k + 1, rfl, S, len_at S.ok h1, by omega, fun H' p ns S' asc mem len e => ?_⟩
    refine ⟨p, _, rfl, .inl (SqL.of e), rfl, flat_map_int ns, ?_⟩
    rw [inV_int, decide_eq_true ((mem _).mpr (lows_mem (Nat.lt_succ_self k)))]
    exact q _ S'
theorem sc_records : FnScope ["slope", "bound"] ["slope", "bound"] (defScope sRecords) := ⟨rfl, rfl, rfl, by decide +kernel, rfl, by decide +kernel, by decide +kernel⟩
def spRecords (K : PySem.W.Frag) : Sp := fun vs H Q _ => ∃ (x : Addr) (a : Nat → Int) (N : Int) (n : Nat), vs = [.ref x, .int N] ∧ SlopeAt K H x a ∧ IsLen a N n ∧ n < 64 ∧ 1 ≤ N ∧ N ≤ 10 ^ 30 ∧ ∀ (H' : Hp) (p : Addr) (ns : List Int), Same H H' → ns.Pairwise (· < ·) → (∀ j, j ∈ ns ↔ j ∈ lows a n) → ns.length ≤ n → H' p = some (.tup (ns.map V.int)) → Q (.ref p) H'
theorem ok_records (T : Tx K mg) (h_check_slope : Df P w K mg base 1 "check_slope" ["value"] (spCheckSlope K)) (h_check_bound : Df P w K mg base 3 "check_bound" ["value"] (spChk 1 (10 ^ 30))) (h_records_to : Df P w K mg base 3 "records_to" ["slope", "bound"] (spRecordsTo K)) : Df P w K mg base 4 "records" ["slope", "bound"] (spRecords K) := by
  refine df_mk T.d_records T.g_records (fun _ _ _ _ _ _ us hl => match us, hl with | [_, _], _ => rfl) sc_records (fun vs H Q E h => ?_) (fun cdv A outer s H vs Q E hr h => ?_)
  · obtain ⟨x, a, N, n, rfl, _⟩ := h
    rfl
  · obtain ⟨x, a, N, n, rfl, S, hb, hn, h1, h30, k⟩ := h
    refine ⟨_, (by exact (pss_cons (ps_expr (pe_c h_check_slope hr (pa_cons (pv 0) pa_nil)))
      (pss_cons (ps_expr (pe_c h_check_bound hr (pa_cons (pv 1) pa_nil)))
      (pss_one (ps_ret (pe_callTy call_tuple_of (by rfl) T.b_tuple (by decide +kernel) (pa_cons (pe_c h_records_to hr (pa_cons (pv 0) (pa_cons (pv 1) pa_nil))) pa_nil))))))), ?_⟩
    refine ⟨_, rfl, x, a, rfl, S, _, rfl, N, rfl, h1, h30, _, rfl, _, rfl, x, a, N, n, rfl, S, hb, hn, fun H' p ns S' asc mem len e => ?_⟩
    exact ⟨p, _, rfl, .inl ⟨SqL.of e, fun q hq => k _ q ns (S'.trans (Same.new hq)) asc mem len upd_same⟩⟩
end
end K33
set_option maxHeartbeats 0
namespace K33
open PySem PySem.Spec PyProof.Rows L2
/-! ### draws -/
theorem But.put {H H1 : Hp} {f d : Addr} {o : HO} (s : But f H H1) (h : H d = none) : But f H (L2.upd H1 d o) := fun b u n e => by
  rw [upd_ne (ne_of_none e h)]
  exact s b u n e
theorem posM : (0 : Int) < 2147482811 := by decide
def Flask (H : Hp) (f : Addr) : Prop := ∃ m c g : Int, H f = some (.lst [.int m, .int c, .int g])
theorem cut_any (xs : List V) (k : Nat) : cutV xs none (some (k : Int)) = xs.take k := by
  unfold cutV
  rw [HT.sIx_none, HT.sIx_nat, List.drop_zero, Nat.sub_zero]
  by_cases h : k ≤ xs.length
  · rw [Nat.min_eq_left h]
  · rw [Nat.min_eq_right (by omega), List.take_length, List.take_of_length_le (by omega)]
theorem Flask.same {H H' : Hp} {f : Addr} (s : Same H H') (F : Flask H f) : Flask H' f := by
  obtain ⟨m, c, g, e⟩ := F
  exact ⟨m, c, g, s _ _ e⟩
section
variable {P : Program} {w : World} {K : PySem.W.Frag} {mg : Str → Option Value} {base : Heap}
theorem sc__law_flask : FnScope ["_law_script", "_law_k", "_law_own", "_law_mixed", "_law_entry_here"] ["_law_script", "_law_k"] (defScope sLFlask) := ⟨rfl, rfl, rfl, by decide +kernel, rfl, by decide +kernel, by decide +kernel⟩
def spFlask (K : PySem.W.Frag) : Sp := fun vs H Q _ => ∃ (s : Addr) (ns : List Int) (k : Nat), vs = [.ref s, .int ((k : Nat) : Int)] ∧ SqL K H s (ns.map V.int) ∧ ∀ (H' : Hp) (f : Addr), Same H H' → H f = none → Flask H' f → Q (.ref f) H'
theorem ok_flask (T : Tx K mg) : Df P w K mg base 1 "_law_flask" ["_law_script", "_law_k"] (spFlask K) := by
  refine df_mk T.d__law_flask T.g__law_flask (fun _ _ _ _ _ _ us hl => match us, hl with | [_, _], _ => rfl) sc__law_flask (fun vs H Q E h => ?_) (fun cdv A outer s H vs Q E hr h => ?_)
  · obtain ⟨x, ns, k, rfl, _⟩ := h
    rfl
  · obtain ⟨x, ns, k, rfl, hs, q⟩ := h
    refine ⟨_, (by exact (pss_cons (ps_set (i := 2) sc__law_flask.nd rfl (Or.inl rfl) (pe_ifExp (pt_cmpR op_lt (pv 1) (pe_callB call_len_seq (by rfl) T.b_len (by decide +kernel) (pa_cons (pv 0) pa_nil)) (nomark _)) (pe_callTy call_int1 (by rfl) T.b_int (by decide +kernel) (pa_cons (pe_ix ix_list (pv 0) (pv 1) (fun _ _ => rfl)) pa_nil)) (pe_op op_add (pe_op op_mul pe_int (pv 1)) pe_int)))
      (pss_cons (ps_set (i := 3) sc__law_flask.nd rfl (Or.inl rfl) (pe_op op_add pe_int (pe_op op_mul pe_int (pv 1))))
      (pss_cons (ps_for PassesOwn.never rfl (pi_list (pe_slice sl_list (pv 0) po_none (po_some pe_int))) (pg_name (i := 4) sc__law_flask.nd rfl (Or.inl rfl))
      (pss_one (ps_set (i := 3) sc__law_flask.nd rfl (Or.inl rfl) (pe_op op_mod (pe_callTy call_int1 (by rfl) T.b_int (by decide +kernel) (pa_cons (pe_op op_add (pe_op op_mul (pv 3) pe_int) (pe_callTy call_int1 (by rfl) T.b_int (by decide +kernel) (pa_cons (pv 4) pa_nil))) pa_nil)) pe_int))))
      (pss_one (ps_ret (pe_lst (pa_cons (pe_op op_mod (pe_callTy call_int1 (by rfl) T.b_int (by decide +kernel) (pa_cons (pe_op op_add (pv 3) (pe_op op_mul (pv 2) pe_int)) pa_nil)) pe_int) (pa_cons pe_int (pa_cons (pe_ifExp (PW.pt (pw_or (pt_cmpR op_lt (pv 2) pe_int (nomark _)) (pw_or1 (pt_cmpR op_ge (pv 2) (pe_op op_pow pe_int pe_int) (nomark _))))) (pe_callB call_abs (by rfl) T.b_abs (by decide +kernel) (pa_cons (pv 2) pa_nil)) pe_int) pa_nil)))))))))), ?_⟩
    refine ⟨_, rfl, _, rfl, x, _, rfl, .inl hs, _, _, rfl, rfl, _, rfl, ite2 (fun c => ?fa) (fun c => ?fb)⟩
    case' fa =>
      have c' := of_decide_eq_true c
      rw [List.length_map] at c'
      have lt : k < ns.length := by omega
      refine ⟨_, rfl, _, rfl, x, _, _, _, rfl, rfl, hs, at_up (v := .int ns[k]) (by rw [List.getElem?_map, List.getElem?_eq_getElem lt]; rfl), .inl ⟨_, rfl, ?_⟩⟩
    case' fb => refine ⟨_, rfl, _, _, rfl, rfl, .inl ⟨by decide, by decide⟩, _, _, rfl, rfl, ?_⟩
    all_goals
      refine ⟨_, rfl, _, _, rfl, rfl, .inl ⟨by decide, by decide⟩, _, _, rfl, rfl, ?_⟩
      refine ⟨_, rfl, 6, rfl, x, _, rfl, hs, fun p hp => ?_⟩
      rw [show (6 : Int) = ((6 : Nat) : Int) from rfl, cut_any, ← List.map_take]
      refine ⟨p, rfl, ⟨_, sqL upd_same⟩, for_list (xs := (ns.take 6).map V.int) (fun i σ H' => (∃ (own mixed : Int) (v : Option V), σ = [some (.ref x), some (.int ((k : Nat) : Int)), some (.int own), some (.int mixed), v]) ∧ Same H H' ∧ H' p = some (.lst ((ns.take 6).map V.int))) ⟨⟨_, _, _, rfl⟩, Same.new hp, upd_same⟩ (fun i σ H' _ ⟨_, _, e⟩ => sqL e) ?_ ?_⟩
      · rintro i y σ H' hi ⟨⟨own, mixed, v, rfl⟩, S, e⟩
        obtain ⟨n, hn, rfl⟩ := map_int hi
        exact ⟨_, rfl, _, _, rfl, rfl, .inr ⟨by decide, by decide⟩, _, rfl, .inl ⟨_, rfl, _, _, rfl, rfl, .inl ⟨_, rfl, _, _, rfl, rfl, posM, ⟨_, _, _, rfl⟩, S, e⟩⟩⟩
      · rintro σ H' ⟨⟨own, mixed, v, rfl⟩, S, e⟩
        refine ⟨_, rfl, _, rfl, _, _, rfl, rfl, .inr ⟨by decide, by decide⟩, _, _, rfl, rfl, .inl ⟨_, rfl, _, _, rfl, rfl, posM, ?_⟩⟩
        have fin : ∀ g : Int, 3 ≤ sizeLine ∧ ∀ f, H' f = none → Q (.ref f) (upd H' f (.lst [.int ((mixed + own * 7013) % 2147482811), .int 0, .int g])) := fun g => ⟨by decide, fun f hf => q _ f (S.trans (Same.new hf)) (S.free hf) ⟨_, _, _, upd_same⟩⟩
        refine ⟨_, rfl, _, _, rfl, rfl, _, rfl, ite2 (fun c => ?_) (fun c => ?_)⟩
        · exact iteT ⟨_, rfl, _, rfl, fin _⟩
        · refine ⟨_, rfl, _, _, rfl, rfl, ⟨by decide, by decide, by decide⟩, _, _, rfl, rfl, _, rfl, ite2 (fun c => ?_) (fun c => ?_)⟩
          · exact ⟨_, rfl, _, rfl, fin _⟩
          · exact fin _
theorem sc__law_pour : FnScope ["_law_flask_here", "_law_top", "_law_digit", "_law_level_here", "_law_factor"] ["_law_flask_here", "_law_top"] (defScope sLPour) := ⟨rfl, rfl, rfl, by decide +kernel, rfl, by decide +kernel, by decide +kernel⟩
def spPour : Sp := fun vs H Q _ => ∃ (f : Addr) (t : Int), vs = [.ref f, .int t] ∧ Flask H f ∧ 0 < t ∧ t ≤ 100000 ∧ ∀ (H' : Hp) (r : Int), But f H H' → Flask H' f → 0 ≤ r → r < t → Q (.int r) H'
theorem ok_pour (T : Tx K mg) : Df P w K mg base 1 "_law_pour" ["_law_flask_here", "_law_top"] spPour := by
  refine df_mk T.d__law_pour T.g__law_pour (fun _ _ _ _ _ _ us hl => match us, hl with | [_, _], _ => rfl) sc__law_pour (fun vs H Q E h => ?_) (fun cdv A outer s H vs Q E hr h => ?_)
  · obtain ⟨f, t, rfl, _⟩ := h
    rfl
  · obtain ⟨f, t, rfl, ⟨m, c, g, hf⟩, h0, hb, q⟩ := h
    refine ⟨_, (by exact (pss_cons (ps_asg (pe_op op_add (pe_ix ix_list (pv 0) pe_int (fun _ _ => rfl)) pe_int) (pg_sub (pv 0) pe_int set_list))
      (pss_cons (ps_if (pt_cmpR op_gt (pe_ix ix_list (pv 0) pe_int (fun _ _ => rfl)) pe_int (nomark _))
      (pss_cons (ps_asg (pe_callB call_divmodW (by rfl) T.b_divmod (by decide +kernel) (pa_cons (pe_callTy call_int1 (by rfl) T.b_int (by decide +kernel) (pa_cons (pe_ix ix_list (pv 0) pe_int (fun _ _ => rfl)) pa_nil)) (pa_cons (pv 1) pa_nil))) (pg_tup (by rfl) (pgs_cons (pg_sub (pv 0) pe_int set_list) (pgs_cons (pg_name (i := 2) sc__law_pour.nd rfl (Or.inl rfl)) pgs_nil))))
        (pss_one (ps_ret (pv 2))))
      pss_nil)
      (pss_cons (ps_set (i := 3) sc__law_pour.nd rfl (Or.inl rfl) (pe_callTy call_int1 (by rfl) T.b_int (by decide +kernel) (pa_cons (pe_ix ix_list (pv 0) pe_int (fun _ _ => rfl)) pa_nil)))
      (pss_cons (ps_set (i := 4) sc__law_pour.nd rfl (Or.inl rfl) (pe_op op_add (pe_op op_mod (pe_callTy call_int1 (by rfl) T.b_int (by decide +kernel) (pa_cons (pv 3) pa_nil)) pe_int) pe_int))
      (pss_cons (ps_asg (pe_op op_mod (pe_callTy call_int1 (by rfl) T.b_int (by decide +kernel) (pa_cons (pe_op op_add (pe_op op_add (pe_op op_mul (pv 3) (pv 4)) (pe_op op_mul pe_int (pe_ix ix_list (pv 0) pe_int (fun _ _ => rfl)))) pe_int) pa_nil)) pe_int) (pg_sub (pv 0) pe_int set_list))
      (pss_one (ps_ret (pe_op op_mod (pe_callTy call_int1 (by rfl) T.b_int (by decide +kernel) (pa_cons (pe_op op_fdiv (pe_ix ix_list (pv 0) pe_int (fun _ _ => rfl)) pe_int) pa_nil)) (pv 1)))))))))), ?_⟩
    have at0 : ∀ a b c : Int, atI [V.int a, .int b, .int c] 0 = some (.int a) := fun _ _ _ => rfl
    have at1 : ∀ a b c : Int, atI [V.int a, .int b, .int c] 1 = some (.int b) := fun _ _ _ => rfl
    have at2 : ∀ a b c : Int, atI [V.int a, .int b, .int c] 2 = some (.int c) := fun _ _ _ => rfl
    refine ⟨_, rfl, f, _, _, _, rfl, rfl, sqL hf, at1 _ _ _, _, _, rfl, rfl, _, rfl, f, _, _, 1, rfl, rfl, hf, rfl, ?_⟩
    have B1 : But f H (upd H f (.lst [.int m, .int (c + 1), .int g])) := (But.refl f H).set
    refine ⟨_, rfl, f, _, _, _, rfl, rfl, sqL upd_same, at2 _ _ _, _, _, rfl, rfl, _, rfl, ite2 (fun d => ?_) (fun d => ?_)⟩
    · refine ⟨_, rfl, f, _, _, _, rfl, rfl, sqL upd_same, at2 _ _ _, .inl ⟨_, rfl, _, rfl, _, _, rfl, cdivP h0 (by omega), fun p hp => ?_⟩⟩
      have fp : f ≠ p := ne_of_none upd_same hp
      refine ⟨p, _, rfl, sqT upd_same, rfl, _, _, rfl, _, rfl, f, _, _, 2, rfl, rfl, by rw [upd_ne fp]; exact upd_same, rfl, _, _, rfl, rfl, ?_⟩
      exact ⟨_, rfl, q _ _ (B1.upd hp).set ⟨_, _, _, upd_same⟩ (Int.emod_nonneg _ (by omega)) (Int.emod_lt_of_pos _ h0)⟩
    · refine ⟨_, rfl, f, _, _, _, rfl, rfl, sqL upd_same, at0 _ _ _, .inl ⟨_, rfl, ?_⟩⟩
      refine ⟨_, rfl, .inl ⟨_, rfl, _, _, rfl, rfl, (by show (0 : Int) < 17011; decide), _, _, rfl, rfl, ?_⟩⟩
      have e1 := Int.emod_nonneg m (show (17011 : Int) ≠ 0 by decide)
      have e2 := Int.emod_lt_of_pos m (show (0 : Int) < 17011 by decide)
      refine ⟨_, rfl, _, rfl, _, _, rfl, rfl, .inr ⟨by omega, by omega⟩, _, rfl, f, _, _, _, rfl, rfl, sqL upd_same, at1 _ _ _, _, _, rfl, rfl, .inl ⟨by decide, by decide⟩, _, _, rfl, rfl, _, _, rfl, rfl, .inl ⟨_, rfl, _, _, rfl, rfl, posM, ?_⟩⟩
      refine ⟨_, rfl, f, _, _, 0, rfl, rfl, upd_same, rfl, ?_⟩
      refine ⟨_, rfl, f, _, _, _, rfl, rfl, sqL upd_same, at0 _ _ _, _, _, rfl, rfl, ⟨by decide, by decide⟩, .inl ⟨_, rfl, _, rfl, _, _, rfl, rfl, h0, ?_⟩⟩
      exact q _ _ B1.set ⟨_, _, _, upd_same⟩ (Int.emod_nonneg _ (by omega)) (Int.emod_lt_of_pos _ h0)
theorem sc__law_pick : FnScope ["_law_flask_here", "_law_some"] ["_law_flask_here", "_law_some"] (defScope sLPick) := ⟨rfl, rfl, rfl, by decide +kernel, rfl, by decide +kernel, by decide +kernel⟩
def spPick (K : PySem.W.Frag) : Sp := fun vs H Q _ => ∃ (f l : Addr) (xs : List Int), vs = [.ref f, .ref l] ∧ Flask H f ∧ H l = some (.lst (xs.map V.int)) ∧ l ≠ f ∧ xs ≠ [] ∧ xs.length ≤ 1000 ∧ ∀ (H' : Hp) (r : Int), But f H H' → Flask H' f → r ∈ xs → Q (.int r) H'
theorem ok_pick (T : Tx K mg) (h__law_pour : Df P w K mg base 1 "_law_pour" ["_law_flask_here", "_law_top"] spPour) : Df P w K mg base 2 "_law_pick" ["_law_flask_here", "_law_some"] (spPick K) := by
  refine df_mk T.d__law_pick T.g__law_pick (fun _ _ _ _ _ _ us hl => match us, hl with | [_, _], _ => rfl) sc__law_pick (fun vs H Q E h => ?_) (fun cdv A outer s H vs Q E hr h => ?_)
  · obtain ⟨f, l, xs, rfl, _⟩ := h
    rfl
  · obtain ⟨f, l, xs, rfl, F, hl, ne, nx, hx, q⟩ := h
    refine ⟨_, (by exact (pss_one (ps_ret (pe_ix ix_list (pv 1) (pe_c h__law_pour hr (pa_cons (pv 0) (pa_cons (pe_callB call_len_seq (by rfl) T.b_len (by decide +kernel) (pa_cons (pv 1) pa_nil)) pa_nil))) (fun _ _ => rfl))))), ?_⟩
    have pos : 0 < xs.length := List.length_pos_iff.mpr nx
    refine ⟨_, rfl, _, rfl, _, rfl, l, _, rfl, .inl (sqL hl), f, _, rfl, F, by rw [List.length_map]; omega, by rw [List.length_map]; omega, fun H' r B F' r0 r1 => ?_⟩
    rw [List.length_map] at r1
    obtain ⟨j, rfl⟩ : ∃ j : Nat, r = j := ⟨r.toNat, by omega⟩
    have lt : j < xs.length := by omega
    exact ⟨l, _, _, _, rfl, rfl, sqL (B _ _ ne hl), at_up (v := .int xs[j]) (by rw [List.getElem?_map, List.getElem?_eq_getElem lt]; rfl), q _ _ B F' (List.getElem_mem lt)⟩
end
end K33
set_option maxHeartbeats 0
namespace K33
open PySem PySem.Spec PyProof.Rows L2
def menu : List Int := [1, 1, 2, 1, 3, 2, 4, 7]
theorem menu_ok : ∀ x ∈ menu, 1 ≤ x ∧ x ≤ 20 := by decide
section
variable {P : Program} {w : World} {K : PySem.W.Frag} {mg : Str → Option Value} {base : Heap}
theorem sc__law_sides : FnScope ["_law_flask_here", "_law_menu", "_law_lead_here", "_law_turn"] ["_law_flask_here"] (defScope sLSides) := ⟨rfl, rfl, rfl, by decide +kernel, rfl, by decide +kernel, by decide +kernel⟩
def spSides : Sp := fun vs H Q _ => ∃ f : Addr, vs = [.ref f] ∧ Flask H f ∧ ∀ (H' : Hp) (p l t : Addr) (L T : List Int), But f H H' → Flask H' f → H' p = some (.tup [.ref l, .ref t]) → H' l = some (.tup (L.map V.int)) → H' t = some (.tup (T.map V.int)) → Small L → Small T → T ≠ [] → Q (.ref p) H'
theorem ok_sides (T : Tx K mg) (h__law_pour : Df P w K mg base 1 "_law_pour" ["_law_flask_here", "_law_top"] spPour) (h__law_pick : Df P w K mg base 2 "_law_pick" ["_law_flask_here", "_law_some"] (spPick K)) : Df P w K mg base 3 "_law_sides" ["_law_flask_here"] spSides := by
  refine df_mk T.d__law_sides T.g__law_sides (fun _ _ _ _ _ _ us hl => match us, hl with | [_], _ => rfl) sc__law_sides (fun vs H Q E h => ?_) (fun cdv A outer s H vs Q E hr h => ?_)
  · obtain ⟨f, rfl, _⟩ := h
    rfl
  · obtain ⟨f, rfl, F, q⟩ := h
    refine ⟨_, (by exact (pss_cons (ps_set (i := 1) sc__law_sides.nd rfl (Or.inr rfl) (pe_lst (pa_cons pe_int (pa_cons pe_int (pa_cons pe_int (pa_cons pe_int (pa_cons pe_int (pa_cons pe_int (pa_cons pe_int (pa_cons pe_int pa_nil))))))))))
      (pss_cons (ps_set (i := 2) sc__law_sides.nd rfl (Or.inl rfl) (pe_callTy call_tuple_of (by rfl) T.b_tuple (by decide +kernel) (pa_cons (pe_lc (own := [("_law_turn", 3)]) (g := gName 3) (tt := tYes) rfl sc__law_sides.nd (pi_range1 rfl T.b_range (pa_cons (pe_c h__law_pour hr (pa_cons (pv 0) (pa_cons pe_int pa_nil))) pa_nil)) (blkOk_by (N := ["_law_flask_here", "_law_menu", "_law_lead_here", "_law_turn"]) (sc := defScope sLSides) (by decide +kernel)) (fun _ _ _ _ _ => (pg_name (i := 3) sc__law_sides.nd rfl (Or.inl rfl))) (fun _ _ _ _ _ => pts_nil) (fun _ _ _ _ _ => (pe_c h__law_pick hr (pa_cons (pv 0) (pa_cons (pv 1) pa_nil))))) pa_nil)))
      (pss_one (ps_ret (pe_tup (pa_cons (pv 2) (pa_cons (pe_callTy call_tuple_of (by rfl) T.b_tuple (by decide +kernel) (pa_cons (pe_lc (own := [("_law_turn", 3)]) (g := gName 3) (tt := tYes) rfl sc__law_sides.nd (pi_range1 rfl T.b_range (pa_cons (pe_op op_add pe_int (pe_c h__law_pour hr (pa_cons (pv 0) (pa_cons pe_int pa_nil)))) pa_nil)) (blkOk_by (N := ["_law_flask_here", "_law_menu", "_law_lead_here", "_law_turn"]) (sc := defScope sLSides) (by decide +kernel)) (fun _ _ _ _ _ => (pg_name (i := 3) sc__law_sides.nd rfl (Or.inl rfl))) (fun _ _ _ _ _ => pts_nil) (fun _ _ _ _ _ => (pe_c h__law_pick hr (pa_cons (pv 0) (pa_cons (pv 1) pa_nil))))) pa_nil)) pa_nil)))))))), ?_⟩
    refine ⟨(by show 8 ≤ sizeLine; decide), fun m hm => ?_⟩
    have S0 := Same.new (o := .lst (menu.map V.int)) hm
    have F0 := F.same S0
    have mf : m ≠ f := by
      obtain ⟨_, _, _, e⟩ := F
      exact (ne_of_none e hm).symm
    refine ⟨_, rfl, f, 3, rfl, F0, by decide, by decide, fun H1 r B1 F1 r0 r1 => ⟨r, rfl, by omega, by omega, fun D hD => ?_⟩⟩
    have m1 : H1 m = some (.lst (menu.map V.int)) := B1 _ _ mf upd_same
    have Df : D ≠ f := by
      obtain ⟨_, _, _, e⟩ := F1
      exact (ne_of_none e hD).symm
    refine lc_range (lo := 0) (n := r.toNat) (fun i H' => ∃ ns : List Int, H' D = some (.lst (ns.map V.int)) ∧ ns.length = i ∧ (∀ x ∈ ns, 1 ≤ x ∧ x ≤ 20) ∧ But f H1 H' ∧ Flask H' f) ⟨[], upd_same, rfl, (fun x hx => by cases hx), But.of (Same.new hD), F1.same (Same.new hD)⟩ ?_ ?_
    · rintro i H' hi ⟨ns, e, len, ok, B, F'⟩
      refine ⟨rfl, _, rfl, _, rfl, f, m, menu, rfl, F', B _ _ mf m1, mf, by decide, by decide, fun H2 v B2 F2 hv => ⟨_, B2 _ _ Df e, by rw [List.length_map, len]; exact small1000 (by omega), ns ++ [v], ?_, ?_, ?_, (B.trans B2).put hD, ?_⟩⟩
      · rw [upd_same, List.map_append]
        rfl
      · rw [List.length_append, len]
        rfl
      · intro x hx
        rcases List.mem_append.mp hx with h | h
        · exact ok x h
        · rw [List.mem_singleton.mp h]
          exact menu_ok v hv
      · obtain ⟨a1, a2, a3, e3⟩ := F2
        exact ⟨a1, a2, a3, by rw [upd_ne Df.symm]; exact e3⟩
    · rintro H2 ⟨L, e, len, ok, B2, F2⟩
      have sL : Small L := ⟨by omega, ok⟩
      refine ⟨D, _, rfl, .inl ⟨sqL e, fun l hl => ?_⟩⟩
      have S3 := Same.new (o := .tup (L.map V.int)) hl
      have F3 := F2.same S3
      have B3 : But f H (upd H2 l (.tup (L.map V.int))) := ((((But.of S0).trans B1).trans B2).same S3)
      have m3 := S3 _ _ (B2 _ _ mf m1)
      have lf : l ≠ f := by
        obtain ⟨_, _, _, e⟩ := F2
        exact (ne_of_none e hl).symm
      refine ⟨_, rfl, _, rfl, f, 3, rfl, F3, by decide, by decide, fun H4 r' B4 F4 r0' r1' => ⟨_, _, rfl, rfl, _, rfl, by omega, by omega, fun D2 hD2 => ?_⟩⟩
      have m4 := B4 _ _ mf m3
      have Df2 : D2 ≠ f := by
        obtain ⟨_, _, _, e⟩ := F4
        exact (ne_of_none e hD2).symm
      refine lc_range (lo := 0) (n := (1 + r').toNat) (fun i H' => ∃ ns : List Int, H' D2 = some (.lst (ns.map V.int)) ∧ ns.length = i ∧ (∀ x ∈ ns, 1 ≤ x ∧ x ≤ 20) ∧ But f H4 H' ∧ Flask H' f) ⟨[], upd_same, rfl, (fun x hx => by cases hx), But.of (Same.new hD2), F4.same (Same.new hD2)⟩ ?_ ?_
      · rintro i H' hi ⟨ns, e, len, ok, B, F'⟩
        refine ⟨rfl, _, rfl, _, rfl, f, m, menu, rfl, F', B _ _ mf m4, mf, by decide, by decide, fun H2 v B2 F2 hv => ⟨_, B2 _ _ Df2 e, by rw [List.length_map, len]; exact small1000 (by omega), ns ++ [v], ?_, ?_, ?_, (B.trans B2).put hD2, ?_⟩⟩
        · rw [upd_same, List.map_append]
          rfl
        · rw [List.length_append, len]
          rfl
        · intro x hx
          rcases List.mem_append.mp hx with h | h
          · exact ok x h
          · rw [List.mem_singleton.mp h]
            exact menu_ok v hv
        · obtain ⟨a1, a2, a3, e3⟩ := F2
          exact ⟨a1, a2, a3, by rw [upd_ne Df2.symm]; exact e3⟩
      · rintro H5 ⟨R, e5, len5, ok5, B5, F5⟩
        have sR : Small R := ⟨by omega, ok5⟩
        refine ⟨D2, _, rfl, .inl ⟨sqL e5, fun t ht => ?_⟩⟩
        have S6 := Same.new (o := .tup (R.map V.int)) ht
        refine ⟨(by show 2 ≤ sizeLine; decide), fun p hp => ?_⟩
        have S7 := Same.new (o := .tup [.ref l, .ref t]) hp
        refine q _ p l t L R ((((B3.trans B4).trans B5).same S6).same S7) ((F5.same S6).same S7) upd_same (S7 _ _ (S6 _ _ (B5 _ _ lf (B4 _ _ lf upd_same)))) (S7 _ _ upd_same) sL sR fun z => ?_
        rw [z] at len5
        have : 0 = (1 + r').toNat := len5
        omega
/-! ### the law's own parts and neighbours -/
structure Sides (K : PySem.W.Frag) (H : Hp) (p : Addr) (L T : List Int) : Prop where
  ex : ∃ l t : Addr, H p = some (.tup [.ref l, .ref t]) ∧ H l = some (.tup (L.map V.int)) ∧ H t = some (.tup (T.map V.int))
  ne : T ≠ []
theorem Sides.same {H H' : Hp} {p : Addr} {L T : List Int} (s : Same H H') (S : Sides K H p L T) : Sides K H' p L T := by
  obtain ⟨⟨l, t, h1, h2, h3⟩, h4⟩ := S
  exact ⟨⟨l, t, s _ _ h1, s _ _ h2, s _ _ h3⟩, h4⟩
theorem sc__law_part : FnScope ["_law_sides_here", "_law_k", "_law_lead_here", "_law_loop_here"] ["_law_sides_here", "_law_k"] (defScope sLPart) := ⟨rfl, rfl, rfl, by decide +kernel, rfl, by decide +kernel, by decide +kernel⟩
def spPart (K : PySem.W.Frag) : Sp := fun vs H Q _ => ∃ (p : Addr) (L T : List Int) (k : Nat), vs = [.ref p, .int ((k : Nat) : Int)] ∧ Sides K H p L T ∧ 1 ≤ k ∧ Q (.int (prt L T k)) H
theorem ok_part (T : Tx K mg) : Df P w K mg base 1 "_law_part" ["_law_sides_here", "_law_k"] (spPart K) := by
  refine df_mk T.d__law_part T.g__law_part (fun _ _ _ _ _ _ us hl => match us, hl with | [_, _], _ => rfl) sc__law_part (fun vs H Q E h => ?_) (fun cdv A outer s H vs Q E hr h => ?_)
  · obtain ⟨p, L, R, k, rfl, _⟩ := h
    rfl
  · obtain ⟨p, L, R, k, rfl, ⟨⟨l, t, h1, h2, h3⟩, ne⟩, hk, q⟩ := h
    refine ⟨_, (by exact (pss_cons (ps_asg (pv 0) (pg_tup (by rfl) (pgs_cons (pg_name (i := 2) sc__law_part.nd rfl (Or.inl rfl)) (pgs_cons (pg_name (i := 3) sc__law_part.nd rfl (Or.inl rfl)) pgs_nil))))
      (pss_cons (ps_if (pt_cmpR op_le (pv 1) (pe_callB call_len_seq (by rfl) T.b_len (by decide +kernel) (pa_cons (pv 2) pa_nil)) (nomark _))
      (pss_one (ps_ret (pe_ix ix_tup (pv 2) (pe_op op_sub (pv 1) pe_int) (fun _ _ => rfl))))
      pss_nil)
      (pss_one (ps_ret (pe_ix ix_tup (pv 3) (pe_op op_mod (pe_callTy call_int1 (by rfl) T.b_int (by decide +kernel) (pa_cons (pe_op op_sub (pe_op op_sub (pv 1) pe_int) (pe_callB call_len_seq (by rfl) T.b_len (by decide +kernel) (pa_cons (pv 2) pa_nil))) pa_nil)) (pe_callB call_len_seq (by rfl) T.b_len (by decide +kernel) (pa_cons (pv 3) pa_nil))) (fun _ _ => rfl))))))), ?_⟩
    have hR : 0 < R.length := List.length_pos_iff.mpr ne
    refine ⟨_, rfl, p, _, rfl, sqT h1, rfl, _, _, rfl, _, _, rfl, rfl, ?_⟩
    unfold prt at q
    rw [Nat.max_eq_left hk, parts_cyc] at q
    refine ⟨_, rfl, _, rfl, l, _, rfl, .inr (sqT h2), _, _, rfl, rfl, _, rfl, ite2 (fun c => ?_) (fun c => ?_)⟩
    · have c' := of_decide_eq_true c
      rw [List.length_map] at c'
      rw [if_pos (by omega)] at q
      refine ⟨_, rfl, _, rfl, _, _, rfl, rfl, l, _, _, _, rfl, rfl, sqT h2, at_of (j := k - 1) (by omega) (v := .int (L.getD (k - 1) 0)) ?_, q⟩
      rw [List.getElem?_map, List.getElem?_eq_getElem (show k - 1 < L.length by omega), List.getD_eq_getElem?_getD, List.getElem?_eq_getElem (show k - 1 < L.length by omega)]
      rfl
    · have c' : ¬ ((k : Int) ≤ ((L.map V.int).length : Int)) := fun z => c (decide_eq_true z)
      rw [List.length_map] at c'
      rw [if_neg (by omega)] at q
      have lt : (k - 1 - L.length) % R.length < R.length := Nat.mod_lt _ hR
      refine ⟨_, rfl, _, rfl, _, _, rfl, rfl, _, rfl, l, _, rfl, .inr (sqT h2), _, _, rfl, rfl, .inl ⟨_, rfl, _, rfl, t, _, rfl, .inr (sqT h3), _, _, rfl, rfl, (by show (0 : Int) < ((R.map V.int).length : Int); rw [List.length_map]; omega), t, _, _, _, rfl, rfl, sqT h3, at_of (j := (k - 1 - L.length) % R.length) ?_ (v := .int (cyc R (k - 1 - L.length))) ?_, q⟩⟩
      · rw [List.length_map, List.length_map, show (k : Int) - 1 - (L.length : Int) = ((k - 1 - L.length : Nat) : Int) by omega]
        rfl
      · unfold cyc
        rw [List.getElem?_map, List.getElem?_eq_getElem lt, List.getD_eq_getElem?_getD, List.getElem?_eq_getElem lt]
        rfl
end
end K33
set_option maxHeartbeats 0
namespace K33
open PySem PySem.Spec PyProof.Rows L2
theorem NbL.get2 {H : Hp} {l : Addr} {n : Nat} {a : Nat → Int} (N : NbL H l (n + 1) a) : ∃ (as : List Addr) (p q : Addr), H l = some (.lst (as.map V.ref)) ∧ as.length = n + 2 ∧ (∀ j, j ≤ n + 1 → ∃ p, as[j]? = some p ∧ H p = some (.tup [.int (pp a j), .int (qq a j)])) ∧
    atI (as.map V.ref) (-1) = some (.ref p) ∧ H p = some (.tup [.int (pp a (n + 1)), .int (qq a (n + 1))]) ∧ atI (as.map V.ref) (-2) = some (.ref q) ∧ H q = some (.tup [.int (pp a n), .int (qq a n)]) := by
  obtain ⟨as, h1, h2, h3⟩ := N
  obtain ⟨p, e1, e2⟩ := h3 (n + 1) (Nat.le_refl _)
  obtain ⟨q, e3, e4⟩ := h3 n (by omega)
  refine ⟨as, p, q, h1, h2, h3, at_back (k := 1) (j := n + 1) (by omega) (by rw [List.length_map, h2]) (by rw [List.getElem?_map, e1]; rfl), e2, at_back (k := 2) (j := n) (by omega) (by rw [List.length_map, h2]) (by rw [List.getElem?_map, e3]; rfl), e4⟩
section
variable {P : Program} {w : World} {K : PySem.W.Frag} {mg : Str → Option Value} {base : Heap}
theorem sc__law_pairs : FnScope ["_law_sides_here", "_law_bound", "_law_found", "_law_over", "_law_k", "_law_turn", "_law_part_here"] ["_law_sides_here", "_law_bound"] (defScope sLPairs) := ⟨rfl, rfl, rfl, by decide +kernel, rfl, by decide +kernel, by decide +kernel⟩
def spPairs (K : PySem.W.Frag) : Sp := fun vs H Q _ => ∃ (p : Addr) (L T : List Int) (n : Nat), vs = [.ref p, .int (10 ^ 30)] ∧ Sides K H p L T ∧ Ok (prt L T) ∧ IsLen (prt L T) (10 ^ 30) n ∧ n ≤ 200 ∧ ∀ (H' : Hp) (l : Addr), Same H H' → H l = none → NbL H' l (n + 1) (prt L T) → Q (.ref l) H'
theorem ok_pairs (T : Tx K mg) (h__law_part : Df P w K mg base 1 "_law_part" ["_law_sides_here", "_law_k"] (spPart K)) : Df P w K mg base 2 "_law_pairs" ["_law_sides_here", "_law_bound"] (spPairs K) := by
  refine df_mk T.d__law_pairs T.g__law_pairs (fun _ _ _ _ _ _ us hl => match us, hl with | [_, _], _ => rfl) sc__law_pairs (fun vs H Q E h => ?_) (fun cdv A outer s H vs Q E hr h => ?_)
  · obtain ⟨p, L, R, n, rfl, _⟩ := h
    rfl
  · obtain ⟨p, L, R, n, rfl, S, ha, hb, hn, q⟩ := h
    generalize hpa : prt L R = a at ha hb q
    have n2 : 2 ≤ n := by
      have h2 : ¬ n ≤ 1 := fun z => by
        have := hb.over 1 z
        rw [qq_one] at this
        have := ha 1
        omega
      omega
    refine ⟨_, (by exact (pss_cons (ps_par3 (i := 2) (j := 3) (l := 4) (by rfl) sc__law_pairs.nd rfl rfl rfl (by decide) (by decide) (by decide) rfl rfl rfl (pa_cons (pe_lst (pa_cons (pe_tup (pa_cons pe_int (pa_cons pe_int pa_nil))) (pa_cons (pe_tup (pa_cons pe_int (pa_cons (pe_c h__law_part hr (pa_cons (pv 0) (pa_cons pe_int pa_nil))) pa_nil))) pa_nil))) (pa_cons pe_int (pa_cons pe_int pa_nil))) (by rfl))
      (pss_cons (ps_for PassesOwn.never rfl (pi_range1 rfl T.b_range (pa_cons pe_int pa_nil)) (pg_name (i := 5) sc__law_pairs.nd rfl (Or.inl rfl))
      (pss_cons (ps_set (i := 3) sc__law_pairs.nd rfl (Or.inl rfl) (pe_op op_add (pv 3) (pe_callTy call_int1 (by rfl) T.b_int (by decide +kernel) (pa_cons (pe_cmpR op_gt (pe_ix ix_tup (pe_ix ix_list (pv 2) (pe_un un_neg pe_int) (fun _ _ => rfl)) pe_int (fun _ _ => rfl)) (pv 1) (nomark _)) pa_nil))))
        (pss_cons (ps_if (pt_cmpR op_gt (pv 3) pe_int (nomark _))
        (pss_one ps_break)
        pss_nil)
        (pss_cons (ps_set (i := 4) sc__law_pairs.nd rfl (Or.inl rfl) (pe_op op_add (pv 4) pe_int))
        (pss_cons (ps_set (i := 6) sc__law_pairs.nd rfl (Or.inl rfl) (pe_c h__law_part hr (pa_cons (pv 0) (pa_cons (pv 4) pa_nil))))
        (pss_one (ps_expr (pe_bm PySem.F.plainAttrs_list PySem.F.slot_list_append PySem.F.type_list_append mt_append (pv 2) (pa_cons (pe_tup (pa_cons (pe_op op_add (pe_op op_mul (pv 6) (pe_ix ix_tup (pe_ix ix_list (pv 2) (pe_un un_neg pe_int) (fun _ _ => rfl)) pe_int (fun _ _ => rfl))) (pe_ix ix_tup (pe_ix ix_list (pv 2) (pe_un un_neg pe_int) (fun _ _ => rfl)) pe_int (fun _ _ => rfl))) (pa_cons (pe_op op_add (pe_op op_mul (pv 6) (pe_ix ix_tup (pe_ix ix_list (pv 2) (pe_un un_neg pe_int) (fun _ _ => rfl)) pe_int (fun _ _ => rfl))) (pe_ix ix_tup (pe_ix ix_list (pv 2) (pe_un un_neg pe_int) (fun _ _ => rfl)) pe_int (fun _ _ => rfl))) pa_nil))) pa_nil)))))))))
      (pss_one (ps_ret (pv 2)))))), ?_⟩
    refine ⟨(by show 2 ≤ sizeLine; decide), fun p0 h0 => ?_⟩
    have S0 := Same.new (o := .tup [.int 0, .int 1]) h0
    refine ⟨_, rfl, p, L, R, 1, rfl, S.same S0, Nat.le_refl _, (by show 2 ≤ sizeLine; decide), fun p1 h1 => ⟨(by show 2 ≤ sizeLine; decide), fun l hl => ?_⟩⟩
    have S1 := Same.new (o := .tup [.int 1, .int (prt L R 1)]) h1
    have S2 := (S0.trans S1).trans (Same.new (o := .lst [.ref p0, .ref p1]) hl)
    have l0 : H l = none := S0.free (S1.free hl)
    refine ⟨_, _, _, rfl, _, rfl, by decide, by decide, ?_⟩
    refine for_range (lo := 0) (n := 400) (fun i σ H' => ∃ t v : Option V, i ≤ n ∧ σ = [some (.ref p), some (.int (10 ^ 30)), some (.ref l), some (.int ((i + 1 - n : Nat) : Int)), some (.int ((i + 1 : Nat) : Int)), t, v] ∧ Same H H' ∧ NbL H' l (i + 1) a) ⟨none, none, Nat.zero_le _, ?_, S2, ⟨[p0, p1], upd_same, rfl, fun j hj => ?_⟩⟩ ?_ ?_
    · rw [show 0 + 1 - n = 0 by omega]
      rfl
    · have e0 : (upd (upd H p0 (.tup [.int 0, .int 1])) p1 (.tup [.int 1, .int (prt L R 1)])) p0 = some (.tup [.int 0, .int 1]) := S1 _ _ upd_same
      have nl : ∀ {b : Addr} {o : HO}, (upd (upd H p0 (.tup [.int 0, .int 1])) p1 (.tup [.int 1, .int (prt L R 1)])) b = some o → (upd (upd (upd H p0 (.tup [.int 0, .int 1])) p1 (.tup [.int 1, .int (prt L R 1)])) l (.lst [.ref p0, .ref p1])) b = some o := fun e => by
        rw [upd_ne (ne_of_none e hl)]
        exact e
      match j, hj with
      | 0, _ => exact ⟨p0, rfl, nl e0⟩
      | 1, _ =>
        refine ⟨p1, rfl, (nl upd_same).trans ?_⟩
        rw [pp_one, qq_one, hpa]
    · rintro i σ H' hi ⟨t, v, hin, rfl, S', N⟩
      obtain ⟨as, u, x, e1, e2, e3, a1, f1, a2, f2⟩ := N.get2
      have step : (((i + 1 - n : Nat) : Int) + if decide (10 ^ 30 < qq a (i + 1)) = true then 1 else 0) = ((i + 1 + 1 - n : Nat) : Int) := by
        by_cases q : n ≤ i + 1
        · rw [if_pos (decide_eq_true (hb.over _ q))]
          omega
        · rw [if_neg (fun z => by have := of_decide_eq_true z; have := hb.up _ (show i + 1 < n by omega); omega)]
          omega
      refine ⟨_, rfl, _, rfl, _, rfl, l, _, _, _, rfl, rfl, sqL e1, a1, u, _, _, _, rfl, rfl, sqT f1, rfl, _, rfl, _, _, rfl, rfl, .inr ⟨_, rfl, _, _, rfl, rfl, ?_⟩⟩
      dsimp only
      rw [step]
      refine ⟨_, rfl, _, _, rfl, rfl, _, rfl, ite2 (fun c => ?_) (fun c => ?_)⟩
      · have c' := of_decide_eq_true c
        obtain rfl : i = n := by omega
        exact ⟨_, rfl, q _ l S' l0 N⟩
      · have c' : ¬ (1 < ((i + 1 + 1 - n : Nat) : Int)) := fun z => c (decide_eq_true z)
        refine ⟨_, rfl, _, _, rfl, rfl, ?_⟩
        refine ⟨_, rfl, _, rfl, p, L, R, i + 1 + 1, rfl, S.same S', by omega, ?_⟩
        rw [hpa]
        refine ⟨_, rfl, .inl ⟨rfl, _, SqL.of e1⟩, ?_⟩
        refine ⟨_, rfl, _, rfl, _, rfl, l, _, _, _, rfl, rfl, sqL e1, a1, u, _, _, _, rfl, rfl, sqT f1, rfl, _, _, rfl, rfl, ok_mul ha _ _, _, rfl, _, rfl, l, _, _, _, rfl, rfl, sqL e1, a2, x, _, _, _, rfl, rfl, sqT f2, rfl, _, _, rfl, rfl, ?_⟩
        refine ⟨_, rfl, _, rfl, _, rfl, l, _, _, _, rfl, rfl, sqL e1, a1, u, _, _, _, rfl, rfl, sqT f1, rfl, _, _, rfl, rfl, ok_mul ha _ _, _, rfl, _, rfl, l, _, _, _, rfl, rfl, sqL e1, a2, x, _, _, _, rfl, rfl, sqT f2, rfl, _, _, rfl, rfl, ?_⟩
        refine ⟨(by show 2 ≤ sizeLine; decide), fun p3 h3 => ?_⟩
        have nl : l ≠ p3 := ne_of_none e1 h3
        refine ⟨l, _, _, rfl, rfl, (by rw [upd_ne nl]; exact e1), (by rw [List.length_map, e2]; exact small1000 (by omega)), ?_⟩
        refine ⟨_, _, by omega, rfl, Same.set (S'.trans (Same.new h3)) l0, NbL.app e1 e2 e3 h3⟩
    · rintro σ H' ⟨t, v, hin, rfl, S', N⟩
      omega
theorem sc__law_draw : FnScope ["_law_flask_here", "_law_some"] ["_law_flask_here"] (defScope sLDraw) := ⟨rfl, rfl, rfl, by decide +kernel, rfl, by decide +kernel, by decide +kernel⟩
def spDraw : Sp := fun vs H Q _ => ∃ f : Addr, vs = [.ref f] ∧ Flask H f ∧ ∀ (H' : Hp) (N : Int), But f H H' → Flask H' f → 0 ≤ N → N ≤ 10 ^ 30 → Q (.int N) H'
theorem ok_draw (T : Tx K mg) (h__law_pour : Df P w K mg base 1 "_law_pour" ["_law_flask_here", "_law_top"] spPour) (h__law_pick : Df P w K mg base 2 "_law_pick" ["_law_flask_here", "_law_some"] (spPick K)) : Df P w K mg base 3 "_law_draw" ["_law_flask_here"] spDraw := by
  refine df_mk T.d__law_draw T.g__law_draw (fun _ _ _ _ _ _ us hl => match us, hl with | [_], _ => rfl) sc__law_draw (fun vs H Q E h => ?_) (fun cdv A outer s H vs Q E hr h => ?_)
  · obtain ⟨f, rfl, _⟩ := h
    rfl
  · obtain ⟨f, rfl, F, q⟩ := h
    refine ⟨_, (by exact (pss_cons (ps_set (i := 1) sc__law_draw.nd rfl (Or.inl rfl) (pe_lst (pa_cons (pe_c h__law_pour hr (pa_cons (pv 0) (pa_cons pe_int pa_nil))) (pa_cons (pe_c h__law_pour hr (pa_cons (pv 0) (pa_cons pe_int pa_nil))) (pa_cons (pe_c h__law_pour hr (pa_cons (pv 0) (pa_cons pe_int pa_nil))) pa_nil)))))
      (pss_one (ps_ret (pe_c h__law_pick hr (pa_cons (pv 0) (pa_cons (pe_op op_cat (pv 1) (pe_lst (pa_cons (pe_op op_sub (pe_op op_pow pe_int pe_int) (pe_c h__law_pour hr (pa_cons (pv 0) (pa_cons pe_int pa_nil)))) pa_nil))) pa_nil))))))), ?_⟩
    refine ⟨_, rfl, f, 12, rfl, F, by decide, by decide, fun H1 r1 B1 F1 l1 u1 => ?_⟩
    refine ⟨_, rfl, f, 200, rfl, F1, by decide, by decide, fun H2 r2 B2 F2 l2 u2 => ?_⟩
    refine ⟨_, rfl, f, 5000, rfl, F2, by decide, by decide, fun H3 r3 B3 F3 l3 u3 => ⟨(by show 3 ≤ sizeLine; decide), fun l hl => ?_⟩⟩
    have S4 := Same.new (o := .lst [.int r1, .int r2, .int r3]) hl
    have F4 := F3.same S4
    have lf : l ≠ f := by
      obtain ⟨_, _, _, e⟩ := F3
      exact (ne_of_none e hl).symm
    refine ⟨_, rfl, _, rfl, _, _, rfl, rfl, ⟨by decide, by decide, by decide⟩, _, rfl, f, 99, rfl, F4, by decide, by decide, fun H5 r5 B5 F5 l5 u5 => ?_⟩
    refine ⟨_, _, rfl, rfl, (by show 1 ≤ sizeLine; decide), fun m hm => ?_⟩
    have S6 := Same.new (o := .lst [.int (10 ^ 30 - r5)]) hm
    have F6 := F5.same S6
    refine ⟨l, m, _, _, rfl, rfl, S6 _ _ (B5 _ _ lf upd_same), upd_same, (by show 4 ≤ sizeLine; decide), fun d hd => ?_⟩
    have S7 := Same.new (o := .lst [.int r1, .int r2, .int r3, .int (10 ^ 30 - r5)]) hd
    have F7 := F6.same S7
    have df : d ≠ f := by
      obtain ⟨_, _, _, e⟩ := F6
      exact (ne_of_none e hd).symm
    refine ⟨f, d, [r1, r2, r3, 10 ^ 30 - r5], rfl, F7, upd_same, df, List.cons_ne_nil _ _, (by show 4 ≤ 1000; decide), fun H' r B' F' hr' => ?_⟩
    have B := ((((((B1.trans B2).trans B3).same S4).trans B5).same S6).same S7).trans B'
    refine q _ r B F' ?_ ?_
    · rcases List.mem_cons.mp hr' with rfl | h
      · omega
      · obtain rfl | h := List.mem_cons.mp h
        · omega
        · obtain rfl | h := List.mem_cons.mp h
          · omega
          · rw [List.mem_singleton.mp h]
            omega
    · rcases List.mem_cons.mp hr' with rfl | h
      · omega
      · obtain rfl | h := List.mem_cons.mp h
        · omega
        · obtain rfl | h := List.mem_cons.mp h
          · omega
          · rw [List.mem_singleton.mp h]
            omega
end
end K33
set_option maxHeartbeats 0
namespace K33
open PySem PySem.Spec PyProof.Rows L2
section
variable {X : Cx}
/-- mine.neighbour(..) -/
theorem pe_mt {j k : Nat} {ps : List Str} {sp : Sp} {o e : Expr} {es : List Expr} {m : Str} {apos pos : Pos} {pl : Sem Bool} {ta : TE} {t : TA} (he : PE X o ta) (c : Cls X.K (He.ga X.K "Slope")) (hm : Meth X.K (He.ga X.K "Slope") m (He.ma X.K (He.ga X.K "Slope") m)) (D : DfM X.prog X.w X.K X.mg X.base k m ps sp) (hr : Room j X.A)
    (ha : PA X (e :: es) t) (hk : k ≤ j := by decide)
    (hst : starEach (e :: es) X.env = (false, eval e X.env) :: starEach es X.env := by rfl) (hpl : (backTo pos (starEach es X.env)).any (·.1) = false := by rfl)
    (ht : eval (.Call (.Attribute o m apos) (e :: es) [] pos) X.env = (do
      let ov ← eval o X.env
      standAt apos.atName
      let (f, first) ← holding [ov] (getMethod ov m pl)
      callWith pos f first (backTo pos (starEach (e :: es) X.env)) (backToKw pos (keywordEach [] X.env))) := by rfl) :
    PE X (.Call (.Attribute o m apos) (e :: es) [] pos) (tMeth (He.ga X.K "Slope") m sp [] E0 ta t) := by
  obtain ⟨fd, F, b⟩ := D
  exact pe_meth he c hm F (hr.mono hk) b .nil pass0 ha hst hpl ht
end
theorem SlopeAt.obj {K : PySem.W.Frag} {H : Hp} {x : Addr} {a : Nat → Int} (S : SlopeAt K H x a) : ∃ dx fs, H x = some (.ins (He.ga K "Slope") dx fs) ∧ fs.lookup ("neighbour" : Str) = none := by
  obtain ⟨⟨dx, h, l, t, fs, L, T, h1, _, h2, _⟩, _⟩ := S
  exact ⟨dx, fs, h1, h2⟩
theorem Flask.slope {K : PySem.W.Frag} {H H' : Hp} {f x : Addr} {a : Nat → Int} (F : Flask H f) (B : But f H H') (S : SlopeAt K H x a) : SlopeAt K H' x a := by
  obtain ⟨m, c, g, e⟩ := F
  exact S.but B e
theorem Flask.nb {H H' : Hp} {f l : Addr} {n : Nat} {a : Nat → Int} (F : Flask H f) (B : But f H H') (N : NbL H l n a) : NbL H' l n a := by
  obtain ⟨m, c, g, e⟩ := F
  exact N.but B e
theorem Flask.new {H : Hp} {f d : Addr} (F : Flask H f) (h : H d = none) : d ≠ f := by
  obtain ⟨_, _, _, e⟩ := F
  exact (ne_of_none e h).symm
section
variable {P : Program} {w : World} {K : PySem.W.Frag} {mg : Str → Option Value} {base : Heap}
theorem sc__law_lengths_right : FnScope ["_law_flask_here", "_law_mine", "_law_some", "_law_place_here", "_law_told", "_law_turn", "_law_number_here", "_law_size", "_law_pair"] ["_law_flask_here", "_law_mine", "_law_some"] (defScope sLLengthsRight) := ⟨rfl, rfl, rfl, by decide +kernel, rfl, by decide +kernel, by decide +kernel⟩
def spLengthsRight (K : PySem.W.Frag) : Sp := fun vs H Q _ => ∃ (f x l : Addr) (a : Nat → Int) (m : Nat), vs = [.ref f, .ref x, .ref l] ∧ Flask H f ∧ SlopeAt K H x a ∧ NbL H l (m + 1) a ∧ IsLen a (10 ^ 30) m ∧ m ≤ 200 ∧ ∀ H' : Hp, But f H H' → Flask H' f → Q (.bl true) H'
theorem ok_lengths_right (T : Tx K mg) (h__law_pour : Df P w K mg base 1 "_law_pour" ["_law_flask_here", "_law_top"] spPour) (h__law_draw : Df P w K mg base 3 "_law_draw" ["_law_flask_here"] spDraw) (h_count_shorter : Df P w K mg base 4 "count_shorter" ["slope", "place"] (spCount K)) (hs_count_shorter : DfS P w K mg base 4 "count_shorter" "slope" "place" (spCount K))
    (h_length_of : Df P w K mg base 5 "length_of" ["slope", "number"] (spLength K)) (hs_length_of : DfS P w K mg base 5 "length_of" "slope" "number" (spLength K)) (h_numeral : Df P w K mg base 4 "numeral" ["slope", "number"] (spDigits K)) (h_neighbour : DfM P w K mg base 4 "neighbour" ["self", "place"] (spNeighbour K)) :
    Df P w K mg base 6 "_law_lengths_right" ["_law_flask_here", "_law_mine", "_law_some"] (spLengthsRight K) := by
  refine df_mk T.d__law_lengths_right T.g__law_lengths_right (fun _ _ _ _ _ _ us hl => match us, hl with | [_, _, _], _ => rfl) sc__law_lengths_right (fun vs H Q E h => ?_) (fun cdv A outer s H vs Q E hr h => ?_)
  · obtain ⟨f, x, l, a, m, rfl, _⟩ := h
    rfl
  · obtain ⟨f, x, l, a, m, rfl, F, S, N, hm, m2, q⟩ := h
    have ha := S.ok
    refine ⟨_, (by exact (pss_cons (ps_for PassesOwn.never rfl (pi_list (pe_lst (pa_cons pe_int (pa_cons pe_int (pa_cons pe_int (pa_cons pe_int (pa_cons (pe_c h__law_pour hr (pa_cons (pv 0) (pa_cons pe_int pa_nil))) (pa_cons pe_int pa_nil)))))))) (pg_name (i := 3) sc__law_lengths_right.nd rfl (Or.inl rfl))
      (pss_cons (ps_set (i := 4) sc__law_lengths_right.nd rfl (Or.inl rfl) (pe_lst (pa_cons (pe_c h_count_shorter hr (pa_cons (pv 1) (pa_cons (pv 3) pa_nil))) (pa_cons (pe_kw hs_count_shorter hr (pk_cons (pv 3) (pk_cons (pv 1) pk_nil))) pa_nil))))
        (pss_one (ps_if (pt_cmpR (op_neD hr.units) (pv 4) (pe_op op_rep (pe_lst (pa_cons (pe_ix ix_tup (pe_mt (pv 1) T.cls T.mN h_neighbour hr (pa_cons (pv 3) pa_nil)) pe_int (fun _ _ => rfl)) pa_nil)) pe_int) (nomark _))
        (pss_one (ps_ret pe_bl))
        pss_nil))))
      (pss_cons (ps_if (pt_cmpR op_ne (pe_c h_count_shorter hr (pa_cons (pv 1) (pa_cons pe_int pa_nil))) (pe_ix ix_tup (pe_ix ix_list (pv 2) pe_int (fun _ _ => rfl)) pe_int (fun _ _ => rfl)) (nomark _))
      (pss_one (ps_ret pe_bl))
      pss_nil)
      (pss_cons (ps_for PassesOwn.never rfl (pi_range1 rfl T.b_range (pa_cons pe_int pa_nil)) (pg_name (i := 5) sc__law_lengths_right.nd rfl (Or.inl rfl))
      (pss_cons (ps_set (i := 6) sc__law_lengths_right.nd rfl (Or.inr rfl) (pe_c h__law_draw hr (pa_cons (pv 0) pa_nil)))
        (pss_cons (ps_set (i := 7) sc__law_lengths_right.nd rfl (Or.inl rfl) (pe_c h_length_of hr (pa_cons (pv 1) (pa_cons (pv 6) pa_nil))))
        (pss_cons (ps_if (pt_cmpR op_ne (pv 7) (pe_callB call_len_seq (by rfl) T.b_len (by decide +kernel) (pa_cons (pe_lc (own := [("_law_pair", 8)]) (g := gName 8) rfl sc__law_lengths_right.nd (pi_list (pv 2)) (blkOk_by (N := ["_law_flask_here", "_law_mine", "_law_some", "_law_place_here", "_law_told", "_law_turn", "_law_number_here", "_law_size", "_law_pair"]) (sc := defScope sLLengthsRight) (by decide +kernel)) (fun _ _ _ _ _ => (pg_name (i := 8) sc__law_lengths_right.nd rfl (Or.inl rfl))) (fun _ _ _ _ _ => (pts_one (pt_cmpR op_le (pe_ix (r := rIxT K) ix_tup (pv 8) pe_int (fun _ _ => rfl)) (pv 6) (nomark _)))) (fun _ _ _ _ _ => (pv 8))) pa_nil)) (nomark _))
        (pss_one (ps_ret pe_bl))
        pss_nil)
        (pss_cons (ps_if (PW.pt (pw_or (pt_cmpR op_ne (pe_kw hs_length_of hr (pk_cons (pv 6) (pk_cons (pv 1) pk_nil))) (pv 7) (nomark _)) (pw_or1 (pt_cmpR op_ne (pv 7) (pe_callB call_len_seq (by rfl) T.b_len (by decide +kernel) (pa_cons (pe_c h_numeral hr (pa_cons (pv 1) (pa_cons (pv 6) pa_nil))) pa_nil)) (nomark _)))))
        (pss_one (ps_ret pe_bl))
        pss_nil)
        (pss_cons (ps_if (PW.pt (pw_and (pt_cmpR op_le (pv 7) pe_int (nomark _)) (pw_and1 (pt_cmpR op_ge (pv 6) (pe_c h_count_shorter hr (pa_cons (pv 1) (pa_cons (pv 7) pa_nil))) (nomark _)))))
        (pss_one (ps_ret pe_bl))
        pss_nil)
        (pss_one (ps_if (PW.pt (pw_and (pt_chain op_lt op_lt pe_int (pv 7) pe_int) (pw_and1 (pt_cmpR op_lt (pv 6) (pe_c h_count_shorter hr (pa_cons (pv 1) (pa_cons (pe_op op_sub (pv 7) pe_int) pa_nil))) (nomark _)))))
        (pss_one (ps_ret pe_bl))
        pss_nil))))))))
      (pss_one (ps_ret pe_bl)))))), ?_⟩
    refine ⟨_, rfl, f, 25, rfl, F, by decide, by decide, fun H1 r B1 F1 r0 r1 => ⟨(by show 6 ≤ sizeLine; decide), fun d hd => ?_⟩⟩
    have S2 := Same.new (o := .lst ([0, 1, 2, 3, r, 60].map V.int)) hd
    have df := F1.new hd
    have few : ∀ n ∈ ([0, 1, 2, 3, r, 60] : List Int), 0 ≤ n ∧ n ≤ 60 := by
      intro n hn
      simp only [List.mem_cons, List.not_mem_nil, or_false] at hn
      omega
    refine ⟨d, rfl, ⟨_, sqL upd_same⟩, for_list (xs := [0, 1, 2, 3, r, 60].map V.int) (fun i σ H' => ∃ u v : Option V, σ = [some (.ref f), some (.ref x), some (.ref l), u, v, none, none, none, none] ∧ But f H H' ∧ Flask H' f ∧ H' d = some (.lst ([0, 1, 2, 3, r, 60].map V.int))) ⟨none, none, rfl, B1.same S2, F1.same S2, upd_same⟩ (fun i σ H' _ ⟨_, _, _, _, _, e⟩ => sqL e) ?_ ?_⟩
    · rintro i y σ H' hi ⟨u, v, rfl, B, F', e⟩
      obtain ⟨n, hn, rfl⟩ := map_int hi
      obtain ⟨n0, n60⟩ := few n (List.mem_of_getElem? hn)
      obtain ⟨k, rfl⟩ : ∃ k : Nat, n = k := ⟨n.toNat, by omega⟩
      have S' := F.slope B S
      refine ⟨_, rfl, _, rfl, x, a, k, rfl, S', by omega, fun H2 S2 => ?_⟩
      refine ⟨_, rfl, _, rfl, _, _, rfl, x, a, k, rfl, S'.same S2, by omega, fun H3 S3 => ⟨(by show 2 ≤ sizeLine; decide), fun t ht => ?_⟩⟩
      have S4 := (S2.trans S3).trans (Same.new (o := .lst [.int (qq a k), .int (qq a k)]) ht)
      obtain ⟨dx, fs, hx, hf⟩ := (S'.same S4).obj
      refine ⟨_, rfl, _, rfl, x, dx, fs, rfl, hx, hf, _, rfl, x, a, k, rfl, S'.same S4, by omega, fun H5 p S5 ep => ?_⟩
      refine ⟨p, _, _, _, rfl, rfl, sqT ep, rfl, (by show 1 ≤ sizeLine; decide), fun d2 hd2 => ?_⟩
      have S6 := Same.new (o := .lst [.int (qq a k)]) hd2
      refine ⟨d2, 2, _, rfl, rfl, upd_same, by decide, by decide, (by show 2 ≤ sizeLine; decide), fun d3 hd3 => ?_⟩
      have S7 := Same.new (o := .lst [.int (qq a k), .int (qq a k)]) hd3
      refine ⟨_, _, dp_lst (ns := [qq a k, qq a k]) (sqL (S7 _ _ (S6 _ _ (S5 _ _ upd_same)))), dp_lst (ns := [qq a k, qq a k]) (sqL upd_same), shaped_lst _, shaped_lst _, ?_⟩
      rw [eqv_lst, decide_eq_true rfl]
      have S8 := ((S4.trans S5).trans S6).trans S7
      refine ⟨false, rfl, iteF ⟨_, _, rfl, B.same S8, F'.same S8, S8 _ _ e⟩⟩
    · rintro σ H' ⟨u, v, rfl, B, F', e⟩
      have S' := F.slope B S
      have N' := F.nb B N
      have m4 : 4 ≤ m := by
        by_cases z : 4 ≤ m
        · exact z
        · have h1 := hm.over 3 (by omega)
          have h2 := qq_seven ha (show 3 ≤ 7 by decide)
          omega
      refine ⟨_, rfl, x, a, 3, rfl, S', by decide, fun H2 S2 => ?_⟩
      obtain ⟨xs, p, e1, e2, e3, e4⟩ := (N'.same S2).get (show 3 ≤ m + 1 by omega)
      refine ⟨_, rfl, l, _, _, _, rfl, rfl, sqL e1, at_up (j := 3) e3, p, _, _, _, rfl, rfl, sqT e4, rfl, rfl, ?_⟩
      rw [decide_eq_true rfl]
      refine ⟨false, rfl, iteF ?_⟩
      refine ⟨4, rfl, by decide, by decide, for_range (lo := 0) (n := 4) (fun i σ H' => ∃ u v y z s : Option V, σ = [some (.ref f), some (.ref x), some (.ref l), u, v, y, z, s, none] ∧ But f H H' ∧ Flask H' f) ⟨_, _, _, _, _, rfl, B.same S2, F'.same S2⟩ ?_ ?_⟩
      · rintro i σ H3 hi ⟨u, v, y, z, s, rfl, B3, F3⟩
        refine ⟨_, rfl, f, rfl, F3, fun H4 M B4 F4 n0 n30 => ?_⟩
        obtain ⟨n, hn, hb⟩ := IsLen.small ha n30
        have B34 := B3.trans B4
        have S4 := F.slope B34 S
        have N4 := F.nb B34 N
        refine ⟨_, rfl, _, rfl, x, a, M, n, rfl, S4, hb, by omega, n0, n30, fun H5 S5 => ?_⟩
        obtain ⟨as, a1, a2, a3⟩ := N4.same S5
        have nm : n ≤ m := by
          by_cases w : n ≤ m
          · exact w
          · have h1 := hb.up m (by omega)
            have h2 := hm.over m (Nat.le_refl _)
            omega
        refine ⟨_, rfl, _, rfl, l, rfl, ⟨_, sqL a1⟩, fun D hD => ?_⟩
        refine lc_list (xs := as.map V.ref) (fun i H' => ∃ zs : List V, H' D = some (.lst zs) ∧ zs.length = min n i ∧ Same H5 H') ⟨[], upd_same, by simp, Same.new hD⟩ (fun i H' _ ⟨_, _, _, S'⟩ => sqL (S' _ _ a1)) ?_ ?_
        · rintro i y H' hi ⟨zs, e, len, S'⟩
          obtain ⟨p, hp, rfl⟩ := map_ref hi
          have li : i < as.length := (List.getElem?_eq_some_iff.mp hp).1
          obtain ⟨p', hp', ep⟩ := a3 i (by omega)
          obtain rfl : p = p' := Option.some.inj (hp.symm.trans hp')
          refine ⟨rfl, _, rfl, p, _, _, _, rfl, rfl, sqT (S' _ _ ep), rfl, _, rfl, _, _, rfl, rfl, _, rfl, ite2 (fun c => ?_) (fun c => ?_)⟩
          · have c' := of_decide_eq_true c
            have lt := hb.more c'
            exact ⟨_, rfl, zs, e, small1000 (by omega), zs ++ [.ref p], upd_same, by rw [List.length_append, len]; show min n i + 1 = _; omega, Same.set S' hD⟩
          · have ge : n ≤ i := by
              by_cases w : n ≤ i
              · exact w
              · exact absurd (decide_eq_true (hb.up i (by omega))) c
            exact ⟨zs, e, by omega, S'⟩
        · rintro H6 ⟨zs, e, len, S6⟩
          rw [List.length_map, a2, show min n (m + 1 + 1) = n by omega] at len
          refine ⟨D, zs, rfl, .inl (sqL e), rfl, ?_⟩
          rw [len, decide_eq_true rfl]
          refine ⟨false, rfl, iteF ?_⟩
          have S46 := S5.trans S6
          refine ⟨_, rfl, _, rfl, _, _, rfl, x, a, M, n, rfl, S4.same S46, hb, by omega, n0, n30, fun H7 S7 => ⟨_, rfl, rfl, ?_⟩⟩
          rw [decide_eq_true rfl]
          refine ⟨false, rfl, iteF ?_⟩
          refine ⟨_, rfl, _, rfl, _, rfl, x, a, M, n, rfl, S4.same (S46.trans S7), hb, by omega, n0, n30, fun H8 p S8 ep => ⟨p, _, rfl, .inr (sqT ep), rfl, ?_⟩⟩
          rw [List.length_map, gd_length, decide_eq_true rfl]
          refine ⟨false, rfl, iteF ?_⟩
          have S48 := (S46.trans S7).trans S8
          by_cases h60 : n ≤ 60
          · refine ⟨_, rfl, _, _, rfl, rfl, true, congrArg V.bl (decide_eq_true (by omega)), iteT ?_⟩
            refine ⟨_, rfl, _, rfl, _, rfl, x, a, n, rfl, S4.same S48, h60, fun H9 S9 => ⟨_, _, rfl, rfl, false, congrArg V.bl (decide_eq_false (by have := hb.over n (Nat.le_refl _); omega)), iteF ?_⟩⟩
            have S49 := S48.trans S9
            by_cases h0 : n = 0
            · exact ⟨_, rfl, _, _, rfl, rfl, false, congrArg V.bl (decide_eq_false (by omega)), iteF ⟨false, rfl, iteF ⟨_, _, _, _, _, rfl, B34.same S49, F4.same S49⟩⟩⟩
            · refine ⟨_, rfl, _, _, rfl, rfl, true, congrArg V.bl (decide_eq_true (by omega)), iteT ⟨_, _, rfl, rfl, true, congrArg V.bl (decide_eq_true (by omega)), iteT ?_⟩⟩
              refine ⟨_, rfl, _, rfl, _, rfl, _, _, rfl, rfl, x, a, n - 1, ?_, S4.same S49, by omega, fun H10 S10 => ⟨_, _, rfl, rfl, false, congrArg V.bl (decide_eq_false (by have := hb.up (n - 1) (by omega); omega)), iteF ⟨_, _, _, _, _, rfl, B34.same (S49.trans S10), F4.same (S49.trans S10)⟩⟩⟩
              show [V.ref x, V.int ((n : Int) - 1)] = _
              rw [show (n : Int) - 1 = ((n - 1 : Nat) : Int) by omega]
          · refine ⟨_, rfl, _, _, rfl, rfl, false, congrArg V.bl (decide_eq_false (by omega)), iteF (iteF ?_)⟩
            exact ⟨_, rfl, _, _, rfl, rfl, true, congrArg V.bl (decide_eq_true (by omega)), iteT ⟨_, _, rfl, rfl, false, congrArg V.bl (decide_eq_false (by omega)), iteF (iteF ⟨_, _, _, _, _, rfl, B34.same S48, F4.same S48⟩)⟩⟩
      · rintro σ H3 ⟨_, _, _, _, _, rfl, B3, F3⟩
        exact q _ B3 F3
end
end K33
set_option maxHeartbeats 0
namespace K33
open PySem PySem.Spec PyProof.Rows L2
section
variable {P : Program} {w : World} {K : PySem.W.Frag} {mg : Str → Option Value} {base : Heap}
theorem sc__law_mark : FnScope ["_law_own"] ["_law_own"] (defScope sLMark) := ⟨rfl, rfl, rfl, by decide +kernel, rfl, by decide +kernel, by decide +kernel⟩
def spMark : Sp := fun vs H Q _ => ∃ (t : Addr) (ds : List Int), vs = [.ref t] ∧ H t = some (.tup (ds.map V.int)) ∧ ∀ (H' : Hp) (p r : Addr), Same H H' → H' p = some (.tup [.int ((ds.length : Nat) : Int), .ref r]) → H' r = some (.tup (ds.reverse.map V.int)) → Q (.ref p) H'
theorem ok_mark (T : Tx K mg) : Df P w K mg base 1 "_law_mark" ["_law_own"] spMark := by
  refine df_mk T.d__law_mark T.g__law_mark (fun _ _ _ _ _ _ us hl => match us, hl with | [_], _ => rfl) sc__law_mark (fun vs H Q E h => ?_) (fun cdv A outer s H vs Q E hr h => ?_)
  · obtain ⟨t, ds, rfl, _⟩ := h
    rfl
  · obtain ⟨t, ds, rfl, ht, q⟩ := h
    refine ⟨_, (by exact (pss_one (ps_ret (pe_tup (pa_cons (pe_callB call_len_seq (by rfl) T.b_len (by decide +kernel) (pa_cons (pv 0) pa_nil)) (pa_cons (pe_revT (pv 0)) pa_nil)))))), ?_⟩
    refine ⟨_, rfl, t, _, rfl, .inr (sqT ht), _, rfl, t, _, rfl, sqT ht, fun r hr2 => ⟨(by show 2 ≤ sizeLine; decide), fun p hp => ?_⟩⟩
    refine q _ p r ((Same.new hr2).trans (Same.new hp)) ?_ ((Same.new hp) _ _ ?_)
    · rw [upd_same, List.length_map]
    · rw [upd_same, List.map_reverse]
theorem sc__law_order_right : FnScope ["_law_flask_here", "_law_mine", "_law_turn", "_law_one", "_law_two"] ["_law_flask_here", "_law_mine"] (defScope sLOrderRight) := ⟨rfl, rfl, rfl, by decide +kernel, rfl, by decide +kernel, by decide +kernel⟩
def spOrderRight (K : PySem.W.Frag) : Sp := fun vs H Q _ => ∃ (f x : Addr) (a : Nat → Int), vs = [.ref f, .ref x] ∧ Flask H f ∧ SlopeAt K H x a ∧ ∀ H' : Hp, But f H H' → Flask H' f → Q (.bl true) H'
theorem ok_order_right (T : Tx K mg) (h__law_pour : Df P w K mg base 1 "_law_pour" ["_law_flask_here", "_law_top"] spPour) (h__law_pick : Df P w K mg base 2 "_law_pick" ["_law_flask_here", "_law_some"] (spPick K)) (h__law_draw : Df P w K mg base 3 "_law_draw" ["_law_flask_here"] spDraw)
    (h_numeral : Df P w K mg base 4 "numeral" ["slope", "number"] (spDigits K)) (h__law_mark : Df P w K mg base 1 "_law_mark" ["_law_own"] spMark) : Df P w K mg base 5 "_law_order_right" ["_law_flask_here", "_law_mine"] (spOrderRight K) := by
  refine df_mk T.d__law_order_right T.g__law_order_right (fun _ _ _ _ _ _ us hl => match us, hl with | [_, _], _ => rfl) sc__law_order_right (fun vs H Q E h => ?_) (fun cdv A outer s H vs Q E hr h => ?_)
  · obtain ⟨f, x, a, rfl, _⟩ := h
    rfl
  · obtain ⟨f, x, a, rfl, F, S, q⟩ := h
    have ha := S.ok
    refine ⟨_, (by exact (pss_cons (ps_for PassesOwn.never rfl (pi_range1 rfl T.b_range (pa_cons pe_int pa_nil)) (pg_name (i := 2) sc__law_order_right.nd rfl (Or.inl rfl))
      (pss_cons (ps_par (i := 3) (j := 4) (by rfl) sc__law_order_right.nd rfl rfl (by decide) rfl rfl (pa_cons (pe_c h__law_draw hr (pa_cons (pv 0) pa_nil)) (pa_cons (pe_c h__law_pick hr (pa_cons (pv 0) (pa_cons (pe_lst (pa_cons (pe_c h__law_draw hr (pa_cons (pv 0) pa_nil)) (pa_cons (pe_c h__law_pour hr (pa_cons (pv 0) (pa_cons pe_int pa_nil))) pa_nil))) pa_nil))) pa_nil)) (by rfl))
        (pss_one (ps_if (pt_cmpR op_ne (pe_cmpR op_lt (pv 3) (pv 4) (nomark _)) (pe_cmpR (op_ltN hr.units) (pe_c h__law_mark hr (pa_cons (pe_c h_numeral hr (pa_cons (pv 1) (pa_cons (pv 3) pa_nil))) pa_nil)) (pe_c h__law_mark hr (pa_cons (pe_c h_numeral hr (pa_cons (pv 1) (pa_cons (pv 4) pa_nil))) pa_nil)) (nomark _)) (nomark _))
        (pss_one (ps_ret pe_bl))
        pss_nil))))
      (pss_one (ps_ret pe_bl)))), ?_⟩
    refine ⟨4, rfl, by decide, by decide, for_range (lo := 0) (n := 4) (fun i σ H' => ∃ u v y : Option V, σ = [some (.ref f), some (.ref x), u, v, y] ∧ But f H H' ∧ Flask H' f) ⟨_, _, _, rfl, But.refl f H, F⟩ ?_ ?_⟩
    · rintro i σ H0 hi ⟨u, v, y, rfl, B0, F0⟩
      refine ⟨_, rfl, f, rfl, F0, fun H1 M B1 F1 m0 m30 => ?_⟩
      refine ⟨_, rfl, _, rfl, f, rfl, F1, fun H2 N B2 F2 n0 n30 => ?_⟩
      refine ⟨_, rfl, f, 30, rfl, F2, by decide, by decide, fun H3 r B3 F3 r0 r1 => ⟨(by show 2 ≤ sizeLine; decide), fun d hd => ?_⟩⟩
      have S3 := Same.new (o := .lst ([N, r].map V.int)) hd
      refine ⟨f, d, [N, r], rfl, F3.same S3, upd_same, F3.new hd, List.cons_ne_nil _ _, by show 2 ≤ 1000; decide, fun H4 k B4 F4 hk => ⟨_, _, rfl, ?_⟩⟩
      have k2 : 0 ≤ k ∧ k ≤ 10 ^ 30 := by
        rcases List.mem_cons.mp hk with rfl | h
        · exact ⟨n0, n30⟩
        · rw [List.mem_singleton.mp h]
          omega
      have B04 := (((B0.trans B1).trans B2).trans B3 |>.same S3).trans B4
      have S4 := F.slope B04 S
      obtain ⟨m1, hm1, hb1⟩ := IsLen.small ha m30
      obtain ⟨m2, hm2, hb2⟩ := IsLen.small ha k2.2
      refine ⟨_, rfl, _, rfl, _, _, rfl, rfl, ?_⟩
      refine ⟨_, rfl, _, rfl, x, a, M, m1, rfl, S4, hb1, by omega, m0, m30, fun H5 p5 S5 e5 => ?_⟩
      refine ⟨p5, _, rfl, e5, fun H6 p6 r6 S6 e6 f6 => ?_⟩
      refine ⟨_, rfl, _, rfl, x, a, k, m2, rfl, (S4.same S5).same S6, hb2, by omega, k2.1, k2.2, fun H7 p7 S7 e7 => ?_⟩
      refine ⟨p7, _, rfl, e7, fun H8 p8 r8 S8 e8 f8 => ?_⟩
      have S68 := S7.trans S8
      refine ⟨_, _, _, _, dp_dN (sqT (S68 _ _ e6)) (sqT (S68 _ _ f6)), dp_dN (sqT e8) (sqT f8), rfl, ?_⟩
      have ord := order_gd ha hb1 hb2 m0 k2.1
      rw [gd_length, gd_length, ord, decide_eq_true rfl]
      exact ⟨false, rfl, iteF ⟨_, _, _, rfl, B04.same ((S5.trans S6).trans S68), F4.same ((S5.trans S6).trans S68)⟩⟩
    · rintro σ H3 ⟨_, _, _, rfl, B3, F3⟩
      exact q _ B3 F3
end
end K33
set_option maxHeartbeats 0
namespace K33
open PySem PySem.Spec PyProof.Rows L2
/-! ### sums of sorted digits -/
theorem sum_perm {xs ys : List Int} (p : xs.Perm ys) : xs.sum = ys.sum := by
  induction p with
  | nil => rfl
  | cons x _ ih => rw [List.sum_cons, List.sum_cons, ih]
  | swap x y l =>
    rw [List.sum_cons, List.sum_cons, List.sum_cons, List.sum_cons]
    omega
  | trans _ _ h1 h2 => exact h1.trans h2
theorem sum_none : ∀ xs : List Int, (∀ x ∈ xs, x = 0) → xs.sum = 0
  | [], _ => rfl
  | x :: xs, h => by
    rw [List.sum_cons, h x List.mem_cons_self, sum_none xs fun y hy => h y (List.mem_cons_of_mem _ hy)]
    rfl
theorem sum_nneg : ∀ ds : List Int, (∀ d ∈ ds, 0 ≤ d) → 0 ≤ ds.sum
  | [], _ => by
    show (0 : Int) ≤ 0
    omega
  | d :: ds, h => by
    rw [List.sum_cons]
    have h1 := h d List.mem_cons_self
    have h2 := sum_nneg ds fun x hx => h x (List.mem_cons_of_mem _ hx)
    omega
theorem last_two {ys : List Int} (s : ys.Pairwise (· ≤ ·)) (nn : ∀ d ∈ ys, 0 ≤ d) : (ys.drop (ys.length - 2) = [1] ∨ ys.drop (ys.length - 2) = [0, 1]) ↔ ys.sum = 1 := by
  have cut := List.take_append_drop (ys.length - 2) ys
  generalize hA : ys.take (ys.length - 2) = A at cut
  generalize hB : ys.drop (ys.length - 2) = t at cut ⊢
  have lt : t.length = ys.length - (ys.length - 2) := by rw [← hB, List.length_drop]
  have lA : A.length = ys.length - 2 := by
    rw [← hA, List.length_take]
    omega
  have sm : ys.sum = A.sum + t.sum := by rw [← cut, List.sum_append]
  rw [← cut] at s nn
  obtain ⟨_, _, cross⟩ := List.pairwise_append.mp s
  have nA : ∀ d ∈ A, 0 ≤ d := fun d h => nn d (List.mem_append_left _ h)
  have nt : ∀ d ∈ t, 0 ≤ d := fun d h => nn d (List.mem_append_right _ h)
  have sA := sum_nneg A nA
  constructor
  · rintro (rfl | rfl)
    · have l1 : 1 = ys.length - (ys.length - 2) := lt
      have e : A = [] := List.length_eq_zero_iff.mp (by omega)
      rw [sm, e]
      rfl
    · have z := sum_none A fun x hx => by
        have h1 := nA x hx
        have h2 := cross x hx 0 List.mem_cons_self
        omega
      rw [sm, z]
      rfl
  · intro e
    match t, lt, nt, cross, sm with
    | [], lt, _, _, sm =>
      have l1 : 0 = ys.length - (ys.length - 2) := lt
      have e2 : A = [] := List.length_eq_zero_iff.mp (by omega)
      rw [e2] at sm
      have : ys.sum = 0 := sm
      omega
    | [y], lt, _, _, sm =>
      have l1 : 1 = ys.length - (ys.length - 2) := lt
      have e2 : A = [] := List.length_eq_zero_iff.mp (by omega)
      rw [e2] at sm
      have h : ys.sum = 0 + (y + 0) := sm
      have : y = 1 := by omega
      exact .inl (by rw [this])
    | [u, v], _, nt, cross, sm =>
      have h : ys.sum = A.sum + (u + (v + 0)) := sm
      have hu := nt u List.mem_cons_self
      have hv := nt v (List.mem_cons_of_mem _ List.mem_cons_self)
      by_cases z : v = 0
      · have z2 := sum_none A fun x hx => by
          have h1 := nA x hx
          have h2 := cross x hx v (List.mem_cons_of_mem _ List.mem_cons_self)
          omega
        have z3 : u ≤ v := by
          have := (List.pairwise_append.mp s).2.1
          exact (List.pairwise_cons.mp this).1 v List.mem_cons_self
        omega
      · have e1 : u = 0 := by omega
        have e2 : v = 1 := by omega
        exact .inr (by rw [e1, e2])
    | _ :: _ :: _ :: r, lt, _, _, _ =>
      have l1 : r.length + 1 + 1 + 1 = ys.length - (ys.length - 2) := lt
      omega
theorem cut_back (ns : List Int) : cutV (ns.map V.int) (some (-2)) none = (ns.drop (ns.length - 2)).map V.int := by
  unfold cutV
  have e : HT.sIx (ns.map V.int).length 0 (some (-2)) = ns.length - 2 := by
    show (-2 + ((ns.map V.int).length : Int)).toNat = _
    rw [List.length_map]
    omega
  rw [HT.sIx_none, e, List.length_map, ← List.map_drop, List.take_of_length_le (by rw [List.length_map, List.length_drop]; omega)]
/-- the same list: 1 and the numbers whose digits have the sum 1, and the bottoms -/
theorem mem_units {a : Nat → Int} (ha : Ok a) {N : Int} {n : Nat} (hb : IsLen a N n) (h1 : 1 ≤ N) {us : List Int} (hu : ∀ x, x ∈ us ↔ 1 ≤ x ∧ x ≤ N ∧ ∃ j, qq a j = x) (x : Int) : x ∈ lows a n ↔ x ∈ (1 :: us) := by
  unfold lows
  rw [List.mem_map, List.mem_cons, hu]
  constructor
  · rintro ⟨j, hj, rfl⟩
    exact .inr ⟨q1 ha j, hb.up j (List.mem_range.mp hj), j, rfl⟩
  · rintro (rfl | ⟨_, h2, j, rfl⟩)
    · exact ⟨0, List.mem_range.mpr (hb.more (k := 0) h1), rfl⟩
    · exact ⟨j, List.mem_range.mpr (hb.more h2), rfl⟩
theorem len_fourteen {a : Nat → Int} (ha : Ok a) {N : Int} (h : N ≤ 120) : ∃ m, m ≤ 14 ∧ IsLen a N m := by
  have g := qq_grow ha 7
  exact IsLen.ex ha 14 (by show N < qq a (2 * 7); omega)
theorem room65 {k : Nat} {A : Around} (r : Room k A) : A.units + 65 < cLine := by
  have := r.un
  omega
end K33
set_option maxHeartbeats 0
namespace K33
open PySem PySem.Spec PyProof.Rows L2
theorem pick_two {ds ys : List Int} (p : ys.Perm ds) (s : ys.Pairwise (· ≤ ·)) (nn : ∀ d ∈ ds, 0 ≤ d) :
    ([PyData.list ([1].map PyData.int), PyData.list ([0, 1].map PyData.int)].any fun z => PyData.eqv z (.list ((ys.drop (ys.length - 2)).map PyData.int))) = decide (ds.sum = 1) := by
  have t := last_two s fun d h => nn d (p.mem_iff.mp h)
  rw [sum_perm p] at t
  rw [List.any_cons, List.any_cons, List.any_nil, eqv_lst, eqv_lst, Bool.or_false, ← Bool.decide_or]
  refine decide_eq_decide.mpr (Iff.trans ?_ t)
  constructor
  · rintro (h | h)
    · exact .inl h.symm
    · exact .inr h.symm
  · rintro (h | h)
    · exact .inl h.symm
    · exact .inr h.symm
section
variable {P : Program} {w : World} {K : PySem.W.Frag} {mg : Str → Option Value} {base : Heap}
theorem sc__law_records_right : FnScope ["_law_mine", "_law_some", "_law_bound", "_law_units", "_law_k", "_law_top", "_law_bottom", "_law_due"] ["_law_mine", "_law_some"] (defScope sLRecordsRight) := ⟨rfl, rfl, rfl, by decide +kernel, rfl, by decide +kernel, by decide +kernel⟩
def spRecordsRight (K : PySem.W.Frag) : Sp := fun vs H Q _ => ∃ (x l : Addr) (a : Nat → Int) (m : Nat), vs = [.ref x, .ref l] ∧ SlopeAt K H x a ∧ NbL H l (m + 1) a ∧ IsLen a (10 ^ 30) m ∧ ∀ H' : Hp, Same H H' → Q (.bl true) H'
theorem ok_records_right (T : Tx K mg) (h_numeral : Df P w K mg base 4 "numeral" ["slope", "number"] (spDigits K)) (h_records : Df P w K mg base 4 "records" ["slope", "bound"] (spRecords K)) (h_distance : Df P w K mg base 7 "distance" ["slope", "many"] (spDistance K)) (h_is_record : Df P w K mg base 4 "is_record" ["slope", "many"] (spIsRecord K)) :
    Df P w K mg base 8 "_law_records_right" ["_law_mine", "_law_some"] (spRecordsRight K) := by
  refine df_mk T.d__law_records_right T.g__law_records_right (fun _ _ _ _ _ _ us hl => match us, hl with | [_, _], _ => rfl) sc__law_records_right (fun vs H Q E h => ?_) (fun cdv A outer s H vs Q E hr h => ?_)
  · obtain ⟨x, l, a, m, rfl, _⟩ := h
    rfl
  · obtain ⟨x, l, a, m, rfl, S, N, hm, q⟩ := h
    have ha := S.ok
    refine ⟨_, (by exact (pss_cons (ps_set (i := 2) sc__law_records_right.nd rfl (Or.inl rfl) pe_int)
      (pss_cons (ps_setLc (i := 3) (own := [("_law_k", 4)]) (g := gName 4) rfl sc__law_records_right.nd rfl rfl (sw_true rfl rfl rfl (by decide +kernel)) (pi_range2 rfl T.b_range (pa_cons pe_int (pa_cons (pe_op op_add (pv 2) pe_int) pa_nil))) (blkOk_by (N := ["_law_mine", "_law_some", "_law_bound", "_law_units", "_law_k", "_law_top", "_law_bottom", "_law_due"]) (sc := defScope sLRecordsRight) (by decide +kernel)) (fun _ _ _ _ _ => (pg_name (i := 4) sc__law_records_right.nd rfl (Or.inl rfl))) (fun _ _ _ _ _ => (pts_one (pt_cmpR (r := rInD K) (op_inD (room65 hr)) (pe_slice (r := rSlL K) sl_list (pe_callB (r := rSortedT K) cr_sortedT (by rfl) T.b_sorted (by decide +kernel) (pa_cons (pe_c h_numeral hr (pa_cons (pv 0) (pa_cons (pv 4) pa_nil))) pa_nil)) (po_some (pe_un un_neg pe_int)) po_none) (pe_lst (pa_cons (pe_lst (pa_cons pe_int pa_nil)) (pa_cons (pe_lst (pa_cons pe_int (pa_cons pe_int pa_nil))) pa_nil))) (by with_unfolding_all rfl)))) (fun _ _ _ _ _ => (pv 4)))
      (pss_cons (ps_if (pt_cmpR (op_neD hr.units) (pe_callTy call_list_of (by rfl) T.b_list (by decide +kernel) (pa_cons (pe_c h_records hr (pa_cons (pv 0) (pa_cons (pv 2) pa_nil))) pa_nil)) (pe_callB (cr_sortedSet rfl) (by rfl) T.b_sorted (by decide +kernel) (pa_cons (pe_callTy (cr_setI rfl) (by rfl) T.b_set (by decide +kernel) (pa_cons (pe_op op_cat (pe_lst (pa_cons pe_int pa_nil)) (pv 3)) pa_nil)) pa_nil)) (nomark _))
      (pss_one (ps_ret pe_bl))
      pss_nil)
      (pss_cons (ps_for PassesOwn.never rfl (pi_range2 rfl T.b_range (pa_cons pe_int (pa_cons pe_int pa_nil))) (pg_name (i := 4) sc__law_records_right.nd rfl (Or.inl rfl))
      (pss_cons (ps_asg (pe_ix ix_list (pv 1) (pv 4) (fun _ _ => rfl)) (pg_tup (by rfl) (pgs_cons (pg_name (i := 5) sc__law_records_right.nd rfl (Or.inl rfl)) (pgs_cons (pg_name (i := 6) sc__law_records_right.nd rfl (Or.inl rfl)) pgs_nil))))
        (pss_cons (ps_set (i := 7) sc__law_records_right.nd rfl (Or.inl rfl) (pe_ifExp (pt_cmpR op_eq (pe_op op_mod (pe_callTy call_int1 (by rfl) T.b_int (by decide +kernel) (pa_cons (pv 4) pa_nil)) pe_int) pe_int (nomark _)) (pe_tup (pa_cons (pe_op op_sub pe_int (pv 5)) (pa_cons (pv 6) pa_nil))) (pe_tup (pa_cons (pv 5) (pa_cons (pe_op op_sub pe_int (pv 6)) pa_nil)))))
        (pss_one (ps_if (PW.pt (pw_or (pt_cmpR (op_neD hr.units) (pe_c h_distance hr (pa_cons (pv 0) (pa_cons (pv 6) pa_nil))) (pv 7) (nomark _)) (pw_or1 (pt_not (pt_val (pe_c h_is_record hr (pa_cons (pv 0) (pa_cons (pv 6) pa_nil))))))))
        (pss_one (ps_ret pe_bl))
        pss_nil)))))
      (pss_one (ps_ret pe_bl))))))), ?_⟩
    refine ⟨_, rfl, _, _, rfl, rfl, _, _, rfl, ⟨by decide, by decide, by decide, by decide⟩, fun D hD => ?_⟩
    refine lc_range (lo := 1) (n := 120) (fun i H' => ∃ (us : List Int) (m : Nat), H' D = some (.lst (us.map V.int)) ∧ (∀ y, y ∈ us ↔ 1 ≤ y ∧ y ≤ (i : Int) ∧ ∃ j, qq a j = y) ∧ IsLen a (i : Int) m ∧ us.length ≤ m ∧ Same H H') ⟨[], 0, upd_same, fun y => ⟨fun h => (by cases h), fun ⟨h1, h2, _⟩ => absurd h1 (by omega)⟩, ⟨fun k h => absurd h (by omega), fun k _ => by have := q1 ha k; omega⟩, Nat.le_refl _, Same.new hD⟩ ?_ ?_
    · rintro i H' hi ⟨us, m', e, mem, hm', len, S'⟩
      obtain ⟨n, n14, hb⟩ := len_fourteen ha (N := 1 + (i : Int)) (by omega)
      refine ⟨rfl, _, rfl, _, rfl, x, a, _, n, rfl, S.same S', hb, by omega, by omega, by omega, fun H2 p S2 e2 => ⟨p, _, rfl, sqT e2, by rw [gd_length]; omega, fun ys t perm asc ht => ?_⟩⟩
      have S3 := Same.new (o := .lst (ys.map V.int)) ht
      refine ⟨_, rfl, _, rfl, t, _, rfl, sqL upd_same, fun t2 ht2 => ?_⟩
      rw [cut_back]
      have S4 := Same.new (o := .lst ((ys.drop (ys.length - 2)).map V.int)) ht2
      refine ⟨(by show 1 ≤ sizeLine; decide), fun d1 h1 => ⟨(by show 2 ≤ sizeLine; decide), fun d2 h2 => ⟨(by show 2 ≤ sizeLine; decide), fun d3 h3 => ?_⟩⟩⟩
      have S5 := Same.new (o := .lst [.int 1]) h1
      have S6 := Same.new (o := .lst [.int 0, .int 1]) h2
      have S7 := Same.new (o := .lst [.ref d1, .ref d2]) h3
      have S57 := (S5.trans S6).trans S7
      have nn := gd_nn ha n (1 + (i : Int)) (by omega)
      refine ⟨_, [PyData.list ([1].map PyData.int), PyData.list ([0, 1].map PyData.int)], dp_lst (sqL (S57 _ _ upd_same)), .lst (sqL upd_same) (.cons (dp_lst (ns := [1]) (sqL (S7 _ _ (S6 _ _ upd_same)))) (.cons (dp_lst (ns := [0, 1]) (sqL (S7 _ _ upd_same))) .nil)), shaped_lst _, (by decide), ?_⟩
      rw [pick_two perm asc nn]
      have S27 := ((S2.trans S3).trans S4).trans S57
      have e7 := S27 _ _ e
      have un := gd_unit ha hb (by omega)
      refine ⟨_, rfl, ite2 (fun c => ?_) (fun c => ?_)⟩
      · obtain ⟨j, hj⟩ := un.mp (of_decide_eq_true c)
        have jn := hb.more (k := j) (by omega)
        have mj : m' ≤ j := by
          by_cases z : m' ≤ j
          · exact z
          · have := hm'.up j (by omega)
            omega
        refine ⟨_, rfl, _, e7, by rw [List.length_map]; exact small1000 (by omega), us ++ [1 + (i : Int)], n, ?_, fun y => ?_, ?_, ?_, Same.set (S'.trans S27) hD⟩
        · rw [upd_same, List.map_append]
          rfl
        · rw [List.mem_append, List.mem_singleton, mem]
          constructor
          · rintro (⟨y1, y2, y3⟩ | rfl)
            · exact ⟨y1, by omega, y3⟩
            · exact ⟨by omega, by omega, j, hj⟩
          · rintro ⟨y1, y2, y3⟩
            by_cases z : y = 1 + (i : Int)
            · exact .inr z
            · exact .inl ⟨y1, by omega, y3⟩
        · rw [show ((i + 1 : Nat) : Int) = 1 + (i : Int) by omega]
          exact hb
        · rw [List.length_append]
          show us.length + 1 ≤ n
          omega
      · refine ⟨us, n, e7, fun y => ?_, ?_, ?_, S'.trans S27⟩
        · rw [mem]
          constructor
          · rintro ⟨y1, y2, y3⟩
            exact ⟨y1, by omega, y3⟩
          · rintro ⟨y1, y2, j, y3⟩
            refine ⟨y1, ?_, j, y3⟩
            by_cases z : y = 1 + (i : Int)
            · exact absurd (decide_eq_true (un.mpr ⟨j, y3.trans z⟩)) c
            · omega
        · rw [show ((i + 1 : Nat) : Int) = 1 + (i : Int) by omega]
          exact hb
        · have : m' ≤ n := by
            by_cases z : m' ≤ n
            · exact z
            · have h1 := hm'.up n (by omega)
              have h2 := hb.over n (Nat.le_refl _)
              omega
          omega
    · rintro H1 ⟨us, n, e1, mem, hb, len, S1⟩
      obtain ⟨n2, hn2, hb2⟩ := len_fourteen ha (N := ((120 : Nat) : Int)) (by decide)
      obtain rfl := hb.uniq hb2
      have hb' : IsLen a 120 n := hb
      have same := mem_units ha hb' (by decide) mem
      refine ⟨_, rfl, _, rfl, x, a, 120, n, rfl, S.same S1, hb', by omega, by decide, by decide, fun H2 p ns S2 asc2 mem2 len2 e2 => ⟨p, _, rfl, .inr (sqT e2), fun l2 hl2 => ?_⟩⟩
      have S3 := Same.new (o := .lst (ns.map V.int)) hl2
      refine ⟨(by show 1 ≤ sizeLine; decide), fun d hd => ?_⟩
      have S4 := Same.new (o := .lst [.int 1]) hd
      have S14 := (S2.trans S3).trans S4
      refine ⟨_, rfl, d, D, _, _, rfl, rfl, upd_same, S14 _ _ e1, by rw [List.length_map]; exact small (by show 1 + us.length ≤ 1000; omega), fun c hc => ?_⟩
      have S5 := Same.new (o := .lst ((1 :: us).map V.int)) hc
      refine ⟨c, 1 :: us, rfl, sqL upd_same, by rw [List.length_cons]; omega, fun s2 cc hs2 hcc => ?_⟩
      rw [List.length_cons] at hcc
      have S6 := Same.new (o := SetO w s2 (fun j => decide (j ∈ (1 :: us))) cc) hs2
      refine ⟨s2, _, cc, rfl, upd_same, by omega, fun ys t asc3 mem3 len3 ht => ?_⟩
      have S7 := Same.new (o := .lst (ys.map V.int)) ht
      have S37 := ((S4.trans S5).trans S6).trans S7
      refine ⟨_, _, dp_lst (sqL (S37 _ _ upd_same)), dp_lst (sqL upd_same), shaped_lst _, shaped_lst _, ?_⟩
      have eq : ns = ys := asc_eq asc2 asc3 fun y => (mem2 y).trans ((same y).trans (decide_eq_true_iff.symm.trans (mem3 y).symm))
      rw [eqv_lst, decide_eq_true eq]
      refine ⟨false, rfl, iteF ?_⟩
      have S17 := (S1.trans (S2.trans S3)).trans S37
      refine ⟨_, _, rfl, ⟨by decide, by decide, by decide, by decide⟩, for_range (lo := 1) (n := 7) (fun i σ H' => ∃ u v y z : Option V, σ = [some (.ref x), some (.ref l), some (.int 120), some (.ref D), u, v, y, z] ∧ Same H H') ⟨_, _, _, _, rfl, S17⟩ ?_ ?_⟩
      · rintro i σ H3 hi ⟨u, v, y, z, rfl, S3'⟩
        have m4 : 7 ≤ m := by
          by_cases w : 7 ≤ m
          · exact w
          · have h1 := hm.over 7 (by omega)
            have h2 := qq_seven ha (show 7 ≤ 7 by decide)
            omega
        obtain ⟨xs, p, f1, f2, f3, f4⟩ := (N.same S3').get (j := i + 1) (by omega)
        have S3a := S.same S3'
        refine ⟨_, rfl, _, rfl, l, _, _, _, rfl, rfl, sqL f1, (by rw [show 1 + (i : Int) = ((i + 1 : Nat) : Int) by omega]; exact at_up f3), p, _, rfl, sqT f4, rfl, _, _, rfl, _, _, rfl, rfl, ?_⟩
        refine ⟨_, rfl, .inl ⟨_, rfl, _, _, rfl, rfl, (by show (0 : Int) < 2; decide), rfl, ?_⟩⟩
        by_cases z : (i + 1) % 2 = 0
        · skip
          refine ⟨true, congrArg V.bl (decide_eq_true (congrArg V.int (by omega))), iteT ?_⟩
          refine ⟨_, rfl, _, _, rfl, rfl, _, rfl, (by show 2 ≤ sizeLine; decide), fun t ht => ?_⟩
          have S4 := Same.new (o := .tup ([0 - pp a (i + 1), qq a (i + 1)].map V.int)) ht
          refine ⟨_, rfl, _, rfl, x, a, i + 1, rfl, S3a.same S4, by omega, by omega, fun H5 p5 S5 e5 => ?_⟩
          rw [if_pos z] at e5
          refine ⟨_, rfl, _, _, dp_tup (ns := [- pp a (i + 1), qq a (i + 1)]) (sqT e5), dp_tup (ns := [0 - pp a (i + 1), qq a (i + 1)]) (sqT (S5 _ _ upd_same)), shaped_tup _, shaped_tup _, ?_⟩
          rw [eqv_tup, decide_eq_true (by rw [Int.zero_sub])]
          refine ⟨false, rfl, iteF ?_⟩
          exact ⟨_, rfl, _, rfl, x, a, i + 1, rfl, (S3a.same S4).same S5, by omega, by omega, fun H6 S6 => ⟨true, rfl, iteF ⟨_, _, _, _, rfl, ((S3'.trans S4).trans S5).trans S6⟩⟩⟩
        · skip
          refine ⟨false, congrArg V.bl (decide_eq_false (fun y => by have := V.int.inj y; omega)), iteF ?_⟩
          refine ⟨_, rfl, _, rfl, _, _, rfl, rfl, (by show 2 ≤ sizeLine; decide), fun t ht => ?_⟩
          have S4 := Same.new (o := .tup ([pp a (i + 1), 0 - qq a (i + 1)].map V.int)) ht
          refine ⟨_, rfl, _, rfl, x, a, i + 1, rfl, S3a.same S4, by omega, by omega, fun H5 p5 S5 e5 => ?_⟩
          rw [if_neg z] at e5
          refine ⟨_, rfl, _, _, dp_tup (ns := [pp a (i + 1), - qq a (i + 1)]) (sqT e5), dp_tup (ns := [pp a (i + 1), 0 - qq a (i + 1)]) (sqT (S5 _ _ upd_same)), shaped_tup _, shaped_tup _, ?_⟩
          rw [eqv_tup, decide_eq_true (by rw [Int.zero_sub])]
          refine ⟨false, rfl, iteF ?_⟩
          exact ⟨_, rfl, _, rfl, x, a, i + 1, rfl, (S3a.same S4).same S5, by omega, by omega, fun H6 S6 => ⟨true, rfl, iteF ⟨_, _, _, _, rfl, ((S3'.trans S4).trans S5).trans S6⟩⟩⟩
      · rintro σ H3 ⟨_, _, _, _, rfl, S3⟩
        exact q _ S3
end
end K33
set_option maxHeartbeats 0
namespace K33
open PySem PySem.Spec PyProof.Rows L2
section
variable {X : Cx}
/-- Slope(..) -/
theorem pe_slope {j : Nat} {sp : Sp} {ps : List Str} {p pos : Pos} {e : Expr} {es : List Expr} {t : TA} {f : Addr} (M : Mk X.K (He.ga X.K "Slope") f) (hm : X.mg "Slope" = some (.ref (He.ga X.K "Slope"))) (D : ∃ fd, FnOk X.prog X.w X.K X.mg X.base CX0 4 f fd ps sp ∧ Binds X.K fd ps []) (hr : Room j X.A) (ha : PA X (e :: es) t)
    (hk : 5 ≤ j := by decide) (hg : Gl X "Slope" := by rfl) (he : starEach (e :: es) X.env = (false, eval e X.env) :: starEach es X.env := by rfl) (hpl : (backTo pos (starEach es X.env)).any (·.1) = false := by rfl) :
    PE X (.Call (.Name "Slope" p) (e :: es) [] pos) (tMake (He.ga X.K "Slope") sp [] E0 t) := by
  obtain ⟨fd, F, b⟩ := D
  exact pe_make M F (hr.mono hk) hg hm b .nil pass0 ha (by decide) he hpl
end
theorem Same.but {H H1 H2 : Hp} {f : Addr} (s : Same H H1) (h : H f = none) (B : But f H1 H2) : Same H H2 := fun b o e => B b o (ne_of_none e h) (s b o e)
section
variable {P : Program} {w : World} {K : PySem.W.Frag} {mg : Str → Option Value} {base : Heap}
theorem sc__law_right : FnScope ["_law_flask_here", "_law_turn", "_law_sides_here", "_law_mine", "_law_some"] ["_law_flask_here"] (defScope sLRight) := ⟨rfl, rfl, rfl, by decide +kernel, rfl, by decide +kernel, by decide +kernel⟩
def spRight : Sp := fun vs H Q _ => ∃ f : Addr, vs = [.ref f] ∧ Flask H f ∧ ∀ H' : Hp, But f H H' → Q (.bl true) H'
theorem ok_right (T : Tx K mg) (h__law_sides : Df P w K mg base 3 "_law_sides" ["_law_flask_here"] spSides) (h_init : ∃ fd, FnOk P w K mg base CX0 4 (He.ma K (He.ga K "Slope") "__init__") fd ["self", "lead", "loop"] (spInit K) ∧ Binds K fd ["self", "lead", "loop"] [])
    (h__law_pairs : Df P w K mg base 2 "_law_pairs" ["_law_sides_here", "_law_bound"] (spPairs K)) (h__law_lengths_right : Df P w K mg base 6 "_law_lengths_right" ["_law_flask_here", "_law_mine", "_law_some"] (spLengthsRight K))
    (h__law_order_right : Df P w K mg base 5 "_law_order_right" ["_law_flask_here", "_law_mine"] (spOrderRight K)) (h__law_records_right : Df P w K mg base 8 "_law_records_right" ["_law_mine", "_law_some"] (spRecordsRight K)) : Df P w K mg base 9 "_law_right" ["_law_flask_here"] spRight := by
  refine df_mk T.d__law_right T.g__law_right (fun _ _ _ _ _ _ us hl => match us, hl with | [_], _ => rfl) sc__law_right (fun vs H Q E h => ?_) (fun cdv A outer s H vs Q E hr h => ?_)
  · obtain ⟨f, rfl, _⟩ := h
    rfl
  · obtain ⟨f, rfl, F, q⟩ := h
    refine ⟨_, (by exact (pss_cons (ps_for PassesOwn.never rfl (pi_range1 rfl T.b_range (pa_cons pe_int pa_nil)) (pg_name (i := 1) sc__law_right.nd rfl (Or.inl rfl))
      (pss_cons (ps_set (i := 2) sc__law_right.nd rfl (Or.inl rfl) (pe_c h__law_sides hr (pa_cons (pv 0) pa_nil)))
        (pss_cons (ps_par (i := 3) (j := 4) (by rfl) sc__law_right.nd rfl rfl (by decide) rfl rfl (pa_cons (pe_slope T.mkr T.g_Slope h_init hr (pa_cons (pe_ix ix_tup (pv 2) pe_int (fun _ _ => rfl)) (pa_cons (pe_ix ix_tup (pv 2) pe_int (fun _ _ => rfl)) pa_nil))) (pa_cons (pe_c h__law_pairs hr (pa_cons (pv 2) (pa_cons (pe_op op_pow pe_int pe_int) pa_nil))) pa_nil)) (by rfl))
        (pss_cons (ps_if (PW.pt (pw_or (pt_not (pt_val (pe_c h__law_lengths_right hr (pa_cons (pv 0) (pa_cons (pv 3) (pa_cons (pv 4) pa_nil)))))) (pw_or1 (pt_not (pt_val (pe_c h__law_order_right hr (pa_cons (pv 0) (pa_cons (pv 3) pa_nil))))))))
        (pss_one (ps_ret pe_bl))
        pss_nil)
        (pss_one (ps_if (pt_not (pt_val (pe_c h__law_records_right hr (pa_cons (pv 3) (pa_cons (pv 4) pa_nil)))))
        (pss_one (ps_ret pe_bl))
        pss_nil))))))
      (pss_one (ps_ret pe_bl)))), ?_⟩
    refine ⟨2, rfl, by decide, by decide, for_range (lo := 0) (n := 2) (fun i σ H' => ∃ u v y z : Option V, σ = [some (.ref f), u, v, y, z] ∧ But f H H' ∧ Flask H' f) ⟨_, _, _, _, rfl, But.refl f H, F⟩ ?_ ?_⟩
    · rintro i σ H0 hi ⟨u, v, y, z, rfl, B0, F0⟩
      refine ⟨_, rfl, f, rfl, F0, fun H1 p l t L R B1 F1 ep el et sL sR ne => ?_⟩
      refine ⟨_, rfl, p, _, _, _, rfl, rfl, sqT ep, rfl, _, rfl, p, _, _, _, rfl, rfl, sqT ep, rfl, fun x dx hx hdx hne => ?_⟩
      have S1 : Same H1 (upd (upd H1 dx (.own x)) x (.ins (He.ga K "Slope") dx [])) := Same.set (Same.new hdx) hx
      refine ⟨x, dx, l, t, L, R, rfl, upd_same, S1 _ _ el, S1 _ _ et, sL, sR, ne, fun H2 B2 SA => ⟨rfl, ?_⟩⟩
      have S2 : Same H1 H2 := fun b o e => B2 b o (ne_of_none e hx) (S1 b o e)
      have ha := SA.ok
      obtain ⟨m, hm, hb⟩ := IsLen.small ha (Int.le_refl (10 ^ 30))
      refine ⟨_, rfl, _, _, rfl, rfl, ⟨by decide, by decide, by decide⟩, p, L, R, m, rfl, ⟨⟨l, t, S2 _ _ ep, S2 _ _ el, S2 _ _ et⟩, ne⟩, ha, hb, hm, fun H3 d S3 hd NB => ⟨_, _, rfl, ?_⟩⟩
      have B3 := (B0.trans B1).same (S2.trans S3)
      have F3 := F1.same (S2.trans S3)
      have SA3 := SA.same S3
      refine ⟨_, rfl, _, rfl, _, rfl, f, x, d, prt L R, m, rfl, F3, SA3, NB, hb, hm, fun H4 B4 F4 => ⟨true, rfl, iteF ?_⟩⟩
      have SA4 := F3.slope B4 SA3
      have NB4 := F3.nb B4 NB
      refine ⟨_, rfl, _, rfl, f, x, prt L R, rfl, F4, SA4, fun H5 B5 F5 => ⟨true, rfl, iteF ?_⟩⟩
      have SA5 := F4.slope B5 SA4
      have NB5 := F4.nb B5 NB4
      exact ⟨_, rfl, _, rfl, x, d, prt L R, m, rfl, SA5, NB5, hb, fun H6 S6 => ⟨true, rfl, iteF ⟨_, _, _, _, rfl, ((B3.trans B4).trans B5).same S6, F5.same S6⟩⟩⟩
    · rintro σ H3 ⟨_, _, _, _, rfl, B3, F3⟩
      exact q _ B3
theorem sc_law : FnScope ["_law_script", "_law_k"] ["_law_script"] (defScope sLaw) := ⟨rfl, rfl, rfl, by decide +kernel, rfl, by decide +kernel, by decide +kernel⟩
def spLaw (K : PySem.W.Frag) : Sp := fun vs H Q _ => ∃ (a : Addr) (ns : List Int), vs = [.ref a] ∧ SqL K H a (ns.map V.int) ∧ ∀ H', Q (.bl true) H'
theorem all_true : ∀ n : Nat, (List.replicate n true).all id = true
  | 0 => rfl
  | n + 1 => by
    rw [List.replicate_succ, List.all_cons, all_true n]
    rfl
theorem fn_law (T : Tx K mg) (h__law_flask : Df P w K mg base 1 "_law_flask" ["_law_script", "_law_k"] (spFlask K)) (h__law_right : Df P w K mg base 9 "_law_right" ["_law_flask_here"] spRight) (fd : FuncData) (F : FnP K "law" "law" sLaw (He.ga K "law") fd) : FnOk P w K mg base CX0 10 (He.ga K "law") fd ["_law_script"] (spLaw K) := by
  refine F.ok sc_law (fun vs H Q E h => ?_) fun cdv A outer s H vs Q E hr h => ?_
  · obtain ⟨a, ns, rfl, _⟩ := h
    rfl
  · obtain ⟨a, ns, rfl, hs, q⟩ := h
    refine ⟨_, PSs.nox (by exact (pss_one (ps_ret (pe_callB (cr_all rfl) (by rfl) T.b_all (by decide +kernel) (pa_cons (pe_lc (own := [("_law_k", 1)]) (g := gName 1) (tt := tYes) rfl sc_law.nd (pi_range1 rfl T.b_range (pa_cons (pe_callB (call_max2 rfl) (by rfl) T.b_max (by decide +kernel) (pa_cons pe_int (pa_cons (pe_callB (call_min2 rfl) (by rfl) T.b_min (by decide +kernel) (pa_cons (pe_callB call_len_seq (by rfl) T.b_len (by decide +kernel) (pa_cons (pv 0) pa_nil)) (pa_cons pe_int pa_nil))) pa_nil))) pa_nil)) (blkOk_by (N := ["_law_script", "_law_k"]) (sc := defScope sLaw) (by decide +kernel)) (fun _ _ _ _ _ => (pg_name (i := 1) sc_law.nd rfl (Or.inl rfl))) (fun _ _ _ _ _ => pts_nil) (fun _ _ _ _ _ => (pe_c h__law_right hr (pa_cons (pe_c h__law_flask hr (pa_cons (pv 0) (pa_cons (pv 1) pa_nil))) pa_nil)))) pa_nil))))), ?_⟩
    have lo : ∀ n : Nat, (0 : Int) ≤ (if (if (3 : Int) < (n : Int) then (3 : Int) else (n : Int)) > 2 then (if (3 : Int) < (n : Int) then (3 : Int) else (n : Int)) else 2) ∧ (if (if (3 : Int) < (n : Int) then (3 : Int) else (n : Int)) > 2 then (if (3 : Int) < (n : Int) then (3 : Int) else (n : Int)) else 2) ≤ 3 := fun n => by
      split <;> split <;> omega
    obtain ⟨b1, b2⟩ := lo (ns.map V.int).length
    refine ⟨_, rfl, a, _, rfl, .inl hs, _, _, rfl, _, _, rfl, _, rfl, by omega, by omega, fun D hD => ?_⟩
    refine lc_range (lo := 0) (fun i H' => H' D = some (.lst ((List.replicate i true).map V.bl)) ∧ Same H H') ⟨upd_same, Same.new hD⟩ ?_ ?_
    · rintro i H' hi ⟨e, S'⟩
      refine ⟨rfl, _, rfl, _, rfl, a, ns, i, (by show [V.ref a, V.int (0 + (i : Int))] = _; rw [Int.zero_add]), S'.seq hs, fun H1 f S1 hf F1 => ?_⟩
      refine ⟨f, rfl, F1, fun H2 B2 => ⟨_, Same.but S1 hf B2 _ _ e, by rw [List.length_map, List.length_replicate]; exact small1000 (by omega), ?_, Same.set (S'.trans (Same.but S1 hf B2)) hD⟩⟩
      rw [upd_same, List.replicate_succ', List.map_append]
      rfl
    · rintro H' ⟨e, S'⟩
      refine ⟨D, _, rfl, SqL.of e, ?_⟩
      rw [all_true]
      exact q _
end
end K33
set_option maxHeartbeats 0
namespace K33
open PySem PySem.Spec PyProof.Rows L2
theorem law_ok {P : Program} {w : World} {K : PySem.W.Frag} {mg : Str → Option Value} {base : Heap} (T : Tx K mg) (fd : FuncData) (F : FnP K "law" "law" sLaw (He.ga K "law") fd) : FnOk P w K mg base CX0 10 (He.ga K "law") fd ["_law_script"] (spLaw K) := by
  have h1 := ok_is_integer (P := P) (w := w) (base := base) T
  have h2 := ok_is_between T h1
  have many := ok_check_many T h2
  have number := ok_check_number T h2
  have place := ok_check_place T h2
  have bound := ok_check_bound T h2
  have slope := ok_check_slope (P := P) (w := w) (base := base) T
  have part := ok_part_at (P := P) (w := w) (base := base) T
  have nfor := ok_neighbours_for (P := P) (w := w) (base := base) T
  have nto := ok_neighbours_to T part nfor
  have npast := ok_neighbours_past T part
  have digits := ok_digits_of T npast
  have num := ok_numeral T slope number digits
  have len := ok_length_of T num
  have lens := oks_length_of T num
  have cnt := ok_count_shorter T slope place nto
  have cnts := oks_count_shorter T slope place nto
  have nb := ok_neighbour T place nto
  have lead := ok_check_lead T h2
  have loop := ok_check_loop T h2
  have sloop := ok_shortest_loop (P := P) (w := w) (base := base) T
  have short := ok_shortest T sloop
  have list := ok_listed (P := P) (w := w) (base := base) T
  have init := ok_init T lead loop short list
  have mult := ok_multiple_at T npast
  have whole := ok_whole_at T mult
  have sign := ok_sign_at T whole
  have dist := ok_distance T slope many (ok_distance_at T mult sign)
  have recto := ok_records_to T npast
  have isrec := ok_is_record T slope many recto
  have recs := ok_records T slope bound recto
  have flask := ok_flask (P := P) (w := w) (base := base) T
  have pour := ok_pour (P := P) (w := w) (base := base) T
  have pick := ok_pick T pour
  have sides := ok_sides T pour pick
  have pairs := ok_pairs T (ok_part (P := P) (w := w) (base := base) T)
  have draw := ok_draw T pour pick
  have lengths := ok_lengths_right T pour draw cnt cnts len lens num nb
  have order := ok_order_right T pour pick draw num (ok_mark (P := P) (w := w) (base := base) T)
  have rright := ok_records_right T num recs dist isrec
  exact fn_law T flask (ok_right T sides init pairs lengths order rright) fd F
theorem facts {P : Program} {w : World} {K : PySem.W.Frag} {h : Heap} {mg : Str → Option Value} {f : Addr} (X : K.In h) (G : h.Ns mainGlobals mg) (hfa : mg ("law" : Str) = some (.ref f)) (c : Says K) :
    ∃ fd : FuncData, (∀ (s : Shared) (v : Value), BindsTo s fd ⟨[v], []⟩ [("_law_script", v)]) ∧ ∀ base : Heap, K.In base → base.Ns mainGlobals mg → FnOk P w K mg base CX0 10 f fd ["_law_script"] (spLaw K) := by
  have T := Tx.of X G c
  obtain ⟨fd, F⟩ := T.d_law
  have e := hfa.symm.trans T.g_law
  cases e
  have b := FunD.bindsA (ps := ["_law_script"]) F fun _ _ _ _ _ _ us hl => match us, hl with | [_], _ => rfl
  exact ⟨fd, fun s v => b s [v] rfl, fun base _ _ => law_ok T fd F⟩
end K33
open PySem PySem.W PySem.Calls PyProof.Rows
theorem PySem.Challenge.cw_slopeworld_k33_whole_lengths_beside_neig_holds : PySem.Challenge.rw_slopeworld_k33_whole_lengths_beside_neig.Holds := by
  w_on; o_law
  refine HandSHeadRun.head_any (r := OpenLaw.row PySem.Challenge.rw_slopeworld_k33_whole_lengths_beside_neig) (q := view (OpenLaw.row PySem.Challenge.rw_slopeworld_k33_whole_lengths_beside_neig).prog [65]) (H := K33.hk) (ob := K33.ob) (M := 6000) (loose := K33.names) (d := HandSHeadRun.topDef (OpenLaw.row PySem.Challenge.rw_slopeworld_k33_whole_lengths_beside_neig).prog 65) (kwd := []) K33.ob_eq
    (by kernel_rfl) (fun s => by kernel_rfl) K33.run (by kernel_rfl) (by kernel_rfl) (by kernel_rfl) (by rfl) (by first | assumption | decide +kernel) (by decide +kernel) ⟨rfl, rfl, rfl, rfl, rfl, by decide +kernel⟩ ?hw ?hc
  case hw => w_witness2
  case hc =>
    refine L2.walk_ofE (l := PySem.Challenge.rw_slopeworld_k33_whole_lengths_beside_neig) (n := 63) (k := 10) (x := "_law_script") (CX := L2.CX0) rfl (by decide) (by kernel_rfl) ⟨rfl, by decide, by decide⟩ ?F (fun _ _ _ _ z => z)
    intro w mg fa h Y G hmg0
    obtain ⟨K, KX, c⟩ := Y
    have hmg : mg ("law" : PySem.Str) = some (.ref fa) := by
      have e : (HandSHeadRun.topDef (OpenLaw.row PySem.Challenge.rw_slopeworld_k33_whole_lengths_beside_neig).prog 65).name = ("law" : PySem.Str) := by kernel_rfl
      rw [← e]
      exact hmg0
    obtain ⟨fd, hb, hF⟩ := K33.facts (P := (PySem.Challenge.rw_slopeworld_k33_whole_lengths_beside_neig).prog) (w := w) KX G hmg c
    exact ⟨K, fd, K33.spLaw K, KX, hb, fun H a ns hl _ hS => ⟨a, ns, rfl, hS, fun _ => rfl⟩, hF⟩
